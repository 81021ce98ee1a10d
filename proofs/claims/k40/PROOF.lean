import PyProof.Rows.All
import Wide.All
import OpenK.AllK
import Wide.FinOn
import HandS.ForMost
import HandS.Wide
import HandS.IsInst
import HandS.Evl
import PySem.Challenge.RW_farthestcut_k40_whole_most_by_all_sides
set_option Elab.async false
set_option linter.all false
set_option maxRecDepth 100000
set_option maxHeartbeats 2000000
/-! Fc, the data layer: deep data Dt, what stands for it (Rep), expressions that give data (PQ, PV), tests (PB), statements (SD), promises by data (spD). -/
namespace Fc
open PySem PySem.Spec L2
abbrev Ex := Evl.Ex

/-! ### data -/
inductive Dt where
  | non | bl (b : Bool) | int (i : Int) | str (x : Str) | ty (n : String)
  | lst (xs : List Dt) | tup (xs : List Dt) | obj (C : Addr) (fs : List (Str × Dt)) | dct (kvs : List (Str × Dt))

mutual
/-- the value v is the data d, by what is known of the heap -/
inductive Rep (K : PySem.W.Frag) (G : Hp) : V → Dt → Prop
  | non : Rep K G .non .non
  | bl (b : Bool) : Rep K G (.bl b) (.bl b)
  | int (i : Int) : Rep K G (.int i) (.int i)
  | str (x : Str) : Rep K G (.str x) (.str x)
  | ty (n : String) : Rep K G (.ty n) (.ty n)
  | lst {a : Addr} {xs : List V} {ds : List Dt} : SqL K G a xs → RepL K G xs ds → Rep K G (.ref a) (.lst ds)
  | tup {a : Addr} {xs : List V} {ds : List Dt} : SqT K G a xs → RepL K G xs ds → Rep K G (.ref a) (.tup ds)
  | obj {a C dx : Addr} {fs : List (Str × V)} {ds : List (Str × Dt)} : G a = some (.ins C dx fs) → RepF K G fs ds → Rep K G (.ref a) (.obj C ds)
  | dct {a : Addr} {kvs : List (Key × V)} {ds : List (Str × Dt)} : G a = some (.dK kvs) → RepK K G kvs ds → Rep K G (.ref a) (.dct ds)
inductive RepL (K : PySem.W.Frag) (G : Hp) : List V → List Dt → Prop
  | nil : RepL K G [] []
  | cons {v : V} {vs : List V} {d : Dt} {ds : List Dt} : Rep K G v d → RepL K G vs ds → RepL K G (v :: vs) (d :: ds)
inductive RepF (K : PySem.W.Frag) (G : Hp) : List (Str × V) → List (Str × Dt) → Prop
  | nil : RepF K G [] []
  | cons {f : Str} {v : V} {vs : List (Str × V)} {d : Dt} {ds : List (Str × Dt)} : Rep K G v d → RepF K G vs ds → RepF K G ((f, v) :: vs) ((f, d) :: ds)
inductive RepK (K : PySem.W.Frag) (G : Hp) : List (Key × V) → List (Str × Dt) → Prop
  | nil : RepK K G [] []
  | cons {f : Str} {v : V} {vs : List (Key × V)} {d : Dt} {ds : List (Str × Dt)} : Rep K G v d → RepK K G vs ds → RepK K G ((Sum.inr f, v) :: vs) ((f, d) :: ds)
end

section
variable {K : PySem.W.Frag} {G G' : Hp}
mutual
theorem Rep.mono (e : Ex G G') : ∀ {v : V} {d : Dt}, Rep K G v d → Rep K G' v d
  | _, _, .non => .non
  | _, _, .bl b => .bl b
  | _, _, .int i => .int i
  | _, _, .str x => .str x
  | _, _, .ty n => .ty n
  | _, _, .lst h r => .lst (Evl.ex_l e h) (RepL.mono e r)
  | _, _, .tup h r => .tup (Evl.ex_t e h) (RepL.mono e r)
  | _, _, .obj h r => .obj (e _ _ h) (RepF.mono e r)
  | _, _, .dct h r => .dct (e _ _ h) (RepK.mono e r)
theorem RepL.mono (e : Ex G G') : ∀ {v : List V} {d : List Dt}, RepL K G v d → RepL K G' v d
  | _, _, .nil => .nil
  | _, _, .cons h r => .cons (Rep.mono e h) (RepL.mono e r)
theorem RepF.mono (e : Ex G G') : ∀ {v : List (Str × V)} {d : List (Str × Dt)}, RepF K G v d → RepF K G' v d
  | _, _, .nil => .nil
  | _, _, .cons h r => .cons (Rep.mono e h) (RepF.mono e r)
theorem RepK.mono (e : Ex G G') : ∀ {v : List (Key × V)} {d : List (Str × Dt)}, RepK K G v d → RepK K G' v d
  | _, _, .nil => .nil
  | _, _, .cons h r => .cons (Rep.mono e h) (RepK.mono e r)
end
theorem RepL.len : ∀ {vs : List V} {ds : List Dt}, RepL K G vs ds → vs.length = ds.length
  | _, _, .nil => rfl
  | _, _, .cons _ r => congrArg (· + 1) (RepL.len r)
theorem RepL.get : ∀ {vs : List V} {ds : List Dt}, RepL K G vs ds → ∀ {i : Nat} {d : Dt}, ds[i]? = some d → ∃ v, vs[i]? = some v ∧ Rep K G v d
  | _, _, .nil, i, d, h => by simp at h
  | _, _, .cons r _, 0, d, h => by
    have e := Option.some.inj h
    subst e
    exact ⟨_, rfl, r⟩
  | _, _, .cons _ rr, i + 1, d, h => RepL.get rr (i := i) h
theorem RepL.app : ∀ {vs ws : List V} {ds es : List Dt}, RepL K G vs ds → RepL K G ws es → RepL K G (vs ++ ws) (ds ++ es)
  | _, _, _, _, .nil, s => s
  | _, _, _, _, .cons r rr, s => .cons r (RepL.app rr s)
theorem RepL.drop : ∀ {vs : List V} {ds : List Dt} (n : Nat), RepL K G vs ds → RepL K G (vs.drop n) (ds.drop n)
  | _, _, 0, r => r
  | _, _, _ + 1, .nil => .nil
  | _, _, n + 1, .cons _ r => RepL.drop n r
theorem RepL.take : ∀ {vs : List V} {ds : List Dt} (n : Nat), RepL K G vs ds → RepL K G (vs.take n) (ds.take n)
  | _, _, 0, _ => .nil
  | _, _, _ + 1, .nil => .nil
  | _, _, n + 1, .cons h r => .cons h (RepL.take n r)
theorem RepL.set {v : V} {d : Dt} (h : Rep K G v d) : ∀ {vs : List V} {ds : List Dt} (n : Nat), RepL K G vs ds → RepL K G (vs.set n v) (ds.set n d)
  | _, _, _, .nil => .nil
  | _, _, 0, .cons _ r => .cons h r
  | _, _, n + 1, .cons g r => .cons g (RepL.set h n r)
theorem RepL.rep {vs : List V} {ds : List Dt} (h : RepL K G vs ds) : ∀ k : Nat, RepL K G (List.replicate k vs).flatten (List.replicate k ds).flatten
  | 0 => .nil
  | k + 1 => by
    rw [List.replicate_succ, List.replicate_succ, List.flatten_cons, List.flatten_cons]
    exact h.app (RepL.rep h k)
theorem RepF.look : ∀ {fs : List (Str × V)} {ds : List (Str × Dt)}, RepF K G fs ds → ∀ {f : Str} {d : Dt}, ds.lookup f = some d → ∃ v, fs.lookup f = some v ∧ Rep K G v d
  | _, _, .nil, f, d, h => by simp at h
  | _, _, .cons (f := g) (v := v) r rr, f, d, h => by
    rw [List.lookup_cons] at h ⊢
    cases e : f == g with
    | true =>
      rw [e] at h
      have e := Option.some.inj h
      subst e
      exact ⟨v, rfl, r⟩
    | false =>
      rw [e] at h
      exact RepF.look rr h
theorem RepF.none : ∀ {fs : List (Str × V)} {ds : List (Str × Dt)}, RepF K G fs ds → ∀ {f : Str}, ds.lookup f = Option.none → fs.lookup f = Option.none
  | _, _, .nil, f, h => rfl
  | _, _, .cons (f := g) (v := v) r rr, f, h => by
    rw [List.lookup_cons] at h ⊢
    cases e : f == g with
    | true =>
      rw [e] at h
      cases h
    | false =>
      rw [e] at h
      exact RepF.none rr h
theorem RepF.snoc : ∀ {fs : List (Str × V)} {ds : List (Str × Dt)} {k : Str} {v : V} {d : Dt}, RepF K G fs ds → Rep K G v d → RepF K G (fs ++ [(k, v)]) (ds ++ [(k, d)])
  | _, _, _, _, _, .nil, h => .cons h .nil
  | _, _, _, _, _, .cons g r, h => .cons g (RepF.snoc r h)
theorem RepK.keys : ∀ {kvs : List (Key × V)} {ds : List (Str × Dt)}, RepK K G kvs ds → kvs.map (·.1) = ds.map fun p => (Sum.inr p.1 : Key)
  | _, _, .nil => rfl
  | _, _, .cons _ r => by
    rw [List.map_cons, List.map_cons, RepK.keys r]
theorem RepK.len {kvs : List (Key × V)} {ds : List (Str × Dt)} (r : RepK K G kvs ds) : kvs.length = ds.length := by
  have := congrArg List.length r.keys
  simpa using this
/-- the data by a key -/
def valD (ds : List (Str × Dt)) (k : Str) : Option Dt := (ds.find? fun p => decide (p.1 = k)).map (·.2)
theorem RepK.val : ∀ {kvs : List (Key × V)} {ds : List (Str × Dt)}, RepK K G kvs ds → ∀ (k : Str), (valD ds k = Option.none ∧ valV kvs (Sum.inr k : Key) = Option.none) ∨ ∃ v d, valD ds k = some d ∧ valV kvs (Sum.inr k : Key) = some v ∧ Rep K G v d
  | _, _, .nil, k => .inl ⟨rfl, rfl⟩
  | _, _, .cons (f := g) (v := v) (d := d) (vs := kvs) (ds := ds) r rr, k => by
    by_cases e : g = k
    · refine .inr ⟨v, d, ?_, ?_, r⟩
      · simp [valD, List.find?_cons, e]
      · exact valV_pos (by rw [e])
    · have e1 : valD ((g, d) :: ds) k = valD ds k := by simp [valD, List.find?_cons, e]
      have e2 : valV (((Sum.inr g, v) : Key × V) :: kvs) (Sum.inr k : Key) = valV kvs (Sum.inr k) := valV_neg (by intro z; exact e (Sum.inr.inj z))
      rw [e1, e2]
      exact RepK.val rr k
theorem RepK.snoc : ∀ {kvs : List (Key × V)} {ds : List (Str × Dt)} {k : Str} {v : V} {d : Dt}, RepK K G kvs ds → Rep K G v d → RepK K G (kvs ++ [(Sum.inr k, v)]) (ds ++ [(k, d)])
  | _, _, _, _, _, .nil, h => .cons h .nil
  | _, _, _, _, _, .cons g r, h => .cons g (RepK.snoc r h)
/-- data without addresses -/
def flat : Dt → Bool
  | .non | .bl _ | .int _ | .str _ | .ty _ => true
  | _ => false
theorem Rep.flat {G2 : Hp} {v : V} {d : Dt} (f : Fc.flat d = true) (h : Rep K G v d) : Rep K G2 v d := by
  cases h with
  | non => exact .non
  | bl b => exact .bl b
  | int i => exact .int i
  | str x => exact .str x
  | ty n => exact .ty n
  | lst _ _ => cases f
  | tup _ _ => cases f
  | obj _ _ => cases f
  | dct _ _ => cases f
end

/-! ### heaps: G what is frozen, H what stands -/
structure Ext (G H G' H' : Hp) : Prop where
  g : Ex G G'
  h : Ex H H'
  gh : Ex G' H'
  old : ∀ p, H p ≠ none → G' p = G p
theorem Ext.refl {G H : Hp} (e : Ex G H) : Ext G H G H := ⟨Evl.Ex.refl _, Evl.Ex.refl _, e, fun _ _ => rfl⟩
theorem Ext.trans {G H G1 H1 G2 H2 : Hp} (a : Ext G H G1 H1) (b : Ext G1 H1 G2 H2) : Ext G H G2 H2 where
  g := a.g.trans b.g
  h := a.h.trans b.h
  gh := b.gh
  old := fun p hp => by
    have h1 : H1 p ≠ none := fun z => by
      cases q : H p with
      | none => exact hp q
      | some o =>
        rw [a.h p o q] at z
        cases z
    rw [b.old p h1, a.old p hp]
theorem none_of_ex {G H : Hp} (e : Ex G H) {p : Addr} (h : H p = none) : G p = none := Evl.fresh_back e h
theorem Ext.new {G H : Hp} (e : Ex G H) {p : Addr} {o : HO} (hp : H p = none) : Ext G H (upd G p o) (upd H p o) where
  g := Evl.Ex.new (none_of_ex e hp)
  h := Evl.Ex.new hp
  gh := fun a u q => by
    by_cases ha : a = p
    · subst ha
      rw [upd_same] at q ⊢
      exact q
    · rw [upd_ne ha] at q ⊢
      exact e a u q
  old := fun a ha => upd_ne fun z => ha (by rw [z]; exact hp)
/-- the heap grows, the frozen part stays -/
theorem Ext.grow {G H H' : Hp} (e : Ex G H) (h : Ex H H') : Ext G H G H' := ⟨Evl.Ex.refl _, h, e.trans h, fun _ _ => rfl⟩

/-! ### slots -/
inductive Sl where
  /-- not known | frozen data | a list of one's own | a dict of one's own | data known at the entry -/
  | un | fz (d : Dt) | ow (ds : List Dt) | od (kds : List (Str × Dt)) | hf (d : Dt)
  /-- an object of one's own at p, its fields frozen | .. the last field f a list of one's own -/
  | ob (p C : Addr) (fs : List (Str × Dt)) | ol (p C : Addr) (fs : List (Str × Dt)) (f : Str) (ds : List Dt)
def SlOk (K : PySem.W.Frag) (H0 G H : Hp) (o : Option (Option V)) : Sl → Prop
  | .un => True
  | .fz d => ∃ v, o = some (some v) ∧ Rep K G v d
  | .ow ds => ∃ p vs, o = some (some (.ref p)) ∧ H0 p = none ∧ G p = none ∧ H p = some (.lst vs) ∧ RepL K G vs ds
  | .od kds => ∃ p kvs, o = some (some (.ref p)) ∧ H0 p = none ∧ G p = none ∧ H p = some (.dK kvs) ∧ RepK K G kvs kds
  | .hf d => ∃ v, o = some (some v) ∧ Rep K H0 v d
  | .ob p C fs => ∃ dx vs, o = some (some (.ref p)) ∧ H0 p = none ∧ G p = none ∧ H p = some (.ins C dx vs) ∧ RepF K G vs fs
  | .ol p C fs f ds => ∃ dx vs q xs, o = some (some (.ref p)) ∧ H0 p = none ∧ G p = none ∧ H p = some (.ins C dx (vs ++ [(f, .ref q)])) ∧ RepF K G vs fs ∧ H0 q = none ∧ G q = none ∧ H q = some (.lst xs) ∧ RepL K G xs ds
structure Sta (K : PySem.W.Frag) (G0 H0 G H : Hp) (σ : L2.St) (env : List Sl) : Prop where
  ext : Ext G0 H0 G H
  len : σ.length = env.length
  sl : ∀ (i : Nat) s, env[i]? = some s → SlOk K H0 G H σ[i]? s
section
variable {K : PySem.W.Frag} {G0 H0 G H G1 H1 : Hp} {σ : L2.St} {env : List Sl}
theorem SlOk.ext {o : Option (Option V)} (e : Ext G H G1 H1) : ∀ {s : Sl}, SlOk K H0 G H o s → SlOk K H0 G1 H1 o s
  | .un, _ => trivial
  | .fz d, ⟨v, h1, h2⟩ => ⟨v, h1, h2.mono e.g⟩
  | .ow ds, ⟨p, vs, h1, h2, h3, h4, h5⟩ => ⟨p, vs, h1, h2, (e.old p (by rw [h4]; simp)).trans h3, e.h _ _ h4, h5.mono e.g⟩
  | .od ds, ⟨p, vs, h1, h2, h3, h4, h5⟩ => ⟨p, vs, h1, h2, (e.old p (by rw [h4]; simp)).trans h3, e.h _ _ h4, h5.mono e.g⟩
  | .hf d, h => h
  | .ob p C fs, ⟨dx, vs, h1, h2, h3, h4, h5⟩ => ⟨dx, vs, h1, h2, (e.old p (by rw [h4]; simp)).trans h3, e.h _ _ h4, h5.mono e.g⟩
  | .ol p C fs f ds, ⟨dx, vs, q, xs, h1, h2, h3, h4, h5, h6, h7, h8, h9⟩ => ⟨dx, vs, q, xs, h1, h2, (e.old p (by rw [h4]; simp)).trans h3, e.h _ _ h4, h5.mono e.g, h6, (e.old q (by rw [h8]; simp)).trans h7, e.h _ _ h8, h9.mono e.g⟩
theorem Sta.ex (s : Sta K G0 H0 G H σ env) : Ex G H := s.ext.gh
theorem Sta.step (s : Sta K G0 H0 G H σ env) (e : Ext G H G1 H1) : Sta K G0 H0 G1 H1 σ env := ⟨s.ext.trans e, s.len, fun i x h => (s.sl i x h).ext e⟩
theorem Sta.get (s : Sta K G0 H0 G H σ env) {i : Nat} {d : Dt} (h : env[i]? = some (.fz d)) : ∃ v, σ[i]? = some (some v) ∧ Rep K G v d := s.sl i _ h
theorem Sta.lt (s : Sta K G0 H0 G H σ env) {i : Nat} {x : Sl} (h : env[i]? = some x) : i < σ.length := by
  rw [s.len]
  exact (List.getElem?_eq_some_iff.mp h).1
theorem Sta.put (s : Sta K G0 H0 G H σ env) {i : Nat} {v : V} {x : Sl} (h : SlOk K H0 G H (some (some v)) x) : Sta K G0 H0 G H (σ.set i (some v)) (env.set i x) := by
  refine ⟨s.ext, by rw [List.length_set, List.length_set]; exact s.len, fun j y hj => ?_⟩
  by_cases e : i = j
  · subst e
    by_cases hl : i < env.length
    · rw [List.getElem?_set_self hl] at hj
      have e := Option.some.inj hj
      subst e
      rw [List.getElem?_set_self (by rw [s.len]; exact hl)]
      exact h
    · rw [List.getElem?_eq_none (by rw [List.length_set]; omega)] at hj
      cases hj
  · rw [List.getElem?_set_ne e] at hj ⊢
    exact s.sl j y hj
theorem Sta.set (s : Sta K G0 H0 G H σ env) {i : Nat} {v : V} {d : Dt} (h : Rep K G v d) : Sta K G0 H0 G H (σ.set i (some v)) (env.set i (.fz d)) := s.put ⟨v, rfl, h⟩
/-- less is known -/
theorem Sta.forget (s : Sta K G0 H0 G H σ env) {env' : List Sl} (hl : env'.length = env.length) (h : ∀ (i : Nat) x, env'[i]? = some x → env[i]? = some x ∨ x = .un) : Sta K G0 H0 G H σ env' :=
  ⟨s.ext, by rw [hl]; exact s.len, fun i x hx => by
    rcases h i x hx with q | q
    · exact s.sl i x q
    · subst q; exact trivial⟩
/-- one's own objects read as data -/
def thaw1 : Sl → Sl
  | .ow ds => .fz (.lst ds)
  | .od ds => .fz (.dct ds)
  | .hf d => .fz d
  | .ob _ C fs => .fz (.obj C fs)
  | .ol _ C fs f ds => .fz (.obj C (fs ++ [(f, .lst ds)]))
  | x => x
def thaw (env : List Sl) : List Sl := env.map thaw1
theorem Sta.thaw (s : Sta K G0 H0 G H σ env) : Sta K H H H H σ (thaw env) := by
  refine ⟨Ext.refl (Evl.Ex.refl _), by unfold Fc.thaw; rw [List.length_map]; exact s.len, fun i x hx => ?_⟩
  unfold Fc.thaw at hx
  rw [List.getElem?_map] at hx
  cases e : env[i]? with
  | none =>
    rw [e] at hx
    cases hx
  | some y =>
    rw [e] at hx
    have e2 : thaw1 y = x := Option.some.inj hx
    subst e2
    have q := s.sl i y e
    cases y with
    | un => exact trivial
    | fz d =>
      obtain ⟨v, h1, h2⟩ := q
      exact ⟨v, h1, h2.mono s.ex⟩
    | ow ds =>
      obtain ⟨p, vs, h1, h2, h3, h4, h5⟩ := q
      exact ⟨.ref p, h1, .lst (SqL.of h4) (h5.mono s.ex)⟩
    | od ds =>
      obtain ⟨p, vs, h1, h2, h3, h4, h5⟩ := q
      exact ⟨.ref p, h1, .dct h4 (h5.mono s.ex)⟩
    | hf d =>
      obtain ⟨v, h1, h2⟩ := q
      exact ⟨v, h1, h2.mono s.ext.h⟩
    | ob p C fs =>
      obtain ⟨dx, vs, h1, h2, h3, h4, h5⟩ := q
      exact ⟨.ref p, h1, .obj h4 (h5.mono s.ex)⟩
    | ol p C fs f ds =>
      obtain ⟨dx, vs, q, xs, h1, h2, h3, h4, h5, h6, h7, h8, h9⟩ := q
      exact ⟨.ref p, h1, .obj h4 ((h5.mono s.ex).snoc (.lst (SqL.of h8) (h9.mono s.ex)))⟩
end

/-! ### the judgements -/
def tQ (K : PySem.W.Frag) (env : List Sl) (S : Dt → Prop) : TE := fun σ H Q => ∃ G0 H0 G, Sta K G0 H0 G H σ env ∧ ∀ v d G' H', Ext G H G' H' → Rep K G' v d → S d → Q v H'
def tQs (K : PySem.W.Frag) (env : List Sl) (ds : List Dt) : TA := fun σ H Q => ∃ G0 H0 G, Sta K G0 H0 G H σ env ∧ ∀ vs G' H', Ext G H G' H' → RepL K G' vs ds → Q vs H'
def tQb (K : PySem.W.Frag) (env : List Sl) (b : Bool) : TT := fun σ H Q => ∃ G0 H0 G, Sta K G0 H0 G H σ env ∧ ∀ G' H', Ext G H G' H' → Q b H'
/-- e gives some data with S | the data d | the arguments give ds | the test's answer is b -/
def PQ (X : Cx) (e : Expr) (env : List Sl) (S : Dt → Prop) : Prop := PE X e (tQ X.K env S)
abbrev PV (X : Cx) (e : Expr) (env : List Sl) (d : Dt) : Prop := PQ X e env (fun d' => d' = d)
def PVs (X : Cx) (es : List Expr) (env : List Sl) (ds : List Dt) : Prop := PA X es (tQs X.K env ds)
def PB (X : Cx) (e : Expr) (env : List Sl) (b : Bool) : Prop := PT X e (tQb X.K env b)
def PBw (X : Cx) (e : Expr) (env : List Sl) (b : Bool) : Prop := PW X e (tQb X.K env b)

theorem PE.weak {X : Cx} {e : Expr} {t t' : TE} (h : PE X e t) (w : ∀ σ H Q, t' σ H Q → t σ H Q) : PE X e t' := ⟨fun pins s σ H Q I q => h.run pins s σ H Q I (w σ H Q q)⟩
theorem PT.weak {X : Cx} {e : Expr} {t t' : TT} (h : PT X e t) (w : ∀ σ H Q, t' σ H Q → t σ H Q) : PT X e t' := ⟨fun pins s σ H Q I q => h.run pins s σ H Q I (w σ H Q q)⟩
theorem PW.weak {X : Cx} {e : Expr} {t t' : TT} (h : PW X e t) (w : ∀ σ H Q, t' σ H Q → t σ H Q) : PW X e t' := ⟨fun wh pins s σ H Q I q => h.run wh pins s σ H Q I (w σ H Q q)⟩
theorem PA.weak {X : Cx} {e : List Expr} {t t' : TA} (h : PA X e t) (w : ∀ σ H Q, t' σ H Q → t σ H Q) : PA X e t' := ⟨fun p pins s σ H Q I q => h.run p pins s σ H Q I (w σ H Q q)⟩
theorem PS.weak {X : Cx} {e : Stmt} {t t' : TS} (h : PS X e t) (w : ∀ D σ H, t' D σ H → t D σ H) : PS X e t' := ⟨fun pins s σ H D I q => h.run pins s σ H D I (w D σ H q)⟩
theorem PSs.weak {X : Cx} {e : List Stmt} {t t' : TS} (h : PSs X e t) (w : ∀ D σ H, t' D σ H → t D σ H) : PSs X e t' := ⟨fun pins s σ H D I q => h.run pins s σ H D I (w D σ H q)⟩
theorem PI.weak {X : Cx} {tg e : Expr} {t t' : TI} (h : PI X tg e t) (w : ∀ σ H R, t' σ H R → t σ H R) : PI X tg e t' := ⟨fun pins s σ H R I q => h.run pins s σ H R I (w σ H R q)⟩
/-- a reading that stands for a family -/
theorem PE.fam {X : Cx} {e : Expr} {ι : Sort _} {t : ι → TE} (h : ∀ i, PE X e (t i)) : PE X e (fun σ H Q => ∃ i, t i σ H Q) := ⟨fun pins s σ H Q I ⟨i, q⟩ => (h i).run pins s σ H Q I q⟩
theorem PT.fam {X : Cx} {e : Expr} {ι : Sort _} {t : ι → TT} (h : ∀ i, PT X e (t i)) : PT X e (fun σ H Q => ∃ i, t i σ H Q) := ⟨fun pins s σ H Q I ⟨i, q⟩ => (h i).run pins s σ H Q I q⟩
theorem PW.fam {X : Cx} {e : Expr} {ι : Sort _} {t : ι → TT} (h : ∀ i, PW X e (t i)) : PW X e (fun σ H Q => ∃ i, t i σ H Q) := ⟨fun wh pins s σ H Q I ⟨i, q⟩ => (h i).run wh pins s σ H Q I q⟩
theorem PSs.fam {X : Cx} {e : List Stmt} {ι : Sort _} {t : ι → TS} (h : ∀ i, PSs X e (t i)) : PSs X e (fun D σ H => ∃ i, t i D σ H) := ⟨fun pins s σ H D I ⟨i, q⟩ => (h i).run pins s σ H D I q⟩

section
variable {X : Cx} {e : Expr} {env : List Sl} {S S' : Dt → Prop} {d x y z : Dt}
theorem PQ.imp (h : PQ X e env S) (k : ∀ d, S d → S' d) : PQ X e env S' := PE.weak h fun σ H Q ⟨G0, H0, G, st, q⟩ => ⟨G0, H0, G, st, fun v d G' H' e r s => q v d G' H' e r (k d s)⟩
theorem PV.pq (h : PV X e env d) (k : S d) : PQ X e env S := PQ.imp h fun _ e => by subst e; exact k
theorem PV.is {d' : Dt} (h : PV X e env d) (k : d = d') : PV X e env d' := by subst k; exact h
theorem PB.is {b b' : Bool} (h : PB X e env b) (k : b = b') : PB X e env b' := by subst k; exact h
theorem PQ.thaw (h : PQ X e (thaw env) S) (f : ∀ d, S d → flat d = true) : PQ X e env S := PE.weak h fun σ H Q ⟨G0, H0, G, st, q⟩ =>
  ⟨H, H, H, st.thaw, fun v d G' H' e r s => q v d G H' (Ext.grow st.ex e.h) (r.flat (f d s)) s⟩
theorem PV.thaw (h : PV X e (thaw env) d) (f : flat d = true) : PV X e env d := PQ.thaw h fun d' e => by subst e; exact f
theorem PB.thaw {b : Bool} (h : PB X e (thaw env) b) : PB X e env b := PT.weak h fun σ H Q ⟨G0, H0, G, st, q⟩ => ⟨H, H, H, st.thaw, fun G' H' e => q G H' (Ext.grow st.ex e.h)⟩
end

/-! ### names -/
/-- the name x stands in slot i, and may be read -/
structure Nm (X : Cx) (x : Str) (i : Nat) : Prop where
  at_ : X.N[i]? = some x
  vis : Vis X.env.scope x
  hd : (x == ("__debug__" : Str)) = false
  hcd : (x == ("__classdict__" : Str)) = false
/-- .. and stored -/
structure Lo (X : Cx) (x : Str) (i : Nat) : Prop where
  nd : X.N.Nodup
  at_ : X.N[i]? = some x
  loc : L2.Loc X.env.scope x
  fn : X.fn x = true ∨ X.env.scope.names.lookup x = some .local
def nmB (N : List Str) (sc : Scope) (x : Str) (i : Nat) : Bool :=
  decide (N[i]? = some x) && (match sc.names.lookup x with | some .local => true | some .cell => true | some .free => true | _ => false) && !(x == ("__debug__" : Str)) && !(x == ("__classdict__" : Str))
def loB (N : List Str) (sc : Scope) (x : Str) (i : Nat) : Bool := decide (N[i]? = some x) && (match sc.names.lookup x with | some .local => true | some .cell => true | _ => false)
theorem Nm.of {X : Cx} {N : List Str} {sc : Scope} {x : Str} {i : Nat} (hN : X.N = N) (hs : X.env.scope = sc) (h : nmB N sc x i = true) : Nm X x i := by
  subst hN
  subst hs
  unfold nmB at h
  simp only [Bool.and_eq_true, decide_eq_true_eq, Bool.not_eq_true'] at h
  obtain ⟨⟨⟨h1, h2⟩, h3⟩, h4⟩ := h
  refine ⟨h1, ?_, h3, h4⟩
  unfold Vis
  cases e : X.env.scope.names.lookup x with
  | none => rw [e] at h2; cases h2
  | some k => rw [e] at h2; cases k <;> simp_all
theorem Lo.of {X : Cx} {N : List Str} {sc : Scope} {x : Str} {i : Nat} (hN : X.N = N) (hs : X.env.scope = sc) (hn : N.Nodup) (hf : ∀ x, X.fn x = true) (h : loB N sc x i = true) : Lo X x i := by
  subst hN
  subst hs
  unfold loB at h
  simp only [Bool.and_eq_true, decide_eq_true_eq] at h
  obtain ⟨h1, h2⟩ := h
  refine ⟨hn, h1, ?_, .inl (hf x)⟩
  unfold L2.Loc
  cases e : X.env.scope.names.lookup x with
  | none => rw [e] at h2; cases h2
  | some k => rw [e] at h2; cases k <;> simp_all
/-- .. of a comprehension's block: its own names are plain locals there -/
theorem Lo.blk {X : Cx} {N : List Str} {sc : Scope} {x : Str} {i : Nat} (hN : X.N = N) (hs : X.env.scope = sc) (hn : N.Nodup) (h1 : N[i]? = some x) (h2 : sc.names.lookup x = some .local) : Lo X x i := by
  subst hN
  subst hs
  exact ⟨hn, h1, .inl h2, .inr h2⟩

section
variable {X : Cx} {env : List Sl} {pos : Pos}
theorem pv {x : Str} {i : Nat} {d : Dt} (n : Nm X x i) (h : env[i]? = some (.fz d)) : PV X (.Name x pos) env d :=
  PE.weak (pe_var n.at_ n.vis n.hd n.hcd) fun σ H Q ⟨G0, H0, G, st, q⟩ => by
    obtain ⟨v, h1, h2⟩ := st.get h
    exact ⟨v, h1, q v d G H (Ext.refl st.ex) h2 rfl⟩
theorem pv_int {i : Int} {j : Nat} : PV X (.Constant (.int i) j pos) env (.int i) := PE.weak pe_int fun σ H Q ⟨G0, H0, G, st, q⟩ => q _ _ G H (Ext.refl st.ex) (.int i) rfl
theorem pv_str {x : Str} {j : Nat} : PV X (.Constant (.str x) j pos) env (.str x) := PE.weak pe_str fun σ H Q ⟨G0, H0, G, st, q⟩ => q _ _ G H (Ext.refl st.ex) (.str x) rfl
theorem pv_bl {b : Bool} {j : Nat} : PV X (.Constant (.bool b) j pos) env (.bl b) := PE.weak pe_bl fun σ H Q ⟨G0, H0, G, st, q⟩ => q _ _ G H (Ext.refl st.ex) (.bl b) rfl
theorem pv_non {j : Nat} : PV X (.Constant .none j pos) env .non := PE.weak pe_non fun σ H Q ⟨G0, H0, G, st, q⟩ => q _ _ G H (Ext.refl st.ex) .non rfl
/-- a module's constant -/
structure GC (X : Cx) (x : Str) (d : Dt) : Prop where
  gl : Gl X x
  hd : (x == ("__debug__" : Str)) = false
  ex : ∃ u v, X.mg x = some u ∧ RelV v u ∧ ∀ G, Rep X.K G v d
theorem pv_glob {x : Str} {d : Dt} (c : GC X x d) : PV X (.Name x pos) env d := by
  obtain ⟨u, v, h1, h2, h3⟩ := c.ex
  exact PE.weak (pe_glob c.gl h1 h2 c.hd) fun σ H Q ⟨G0, H0, G, st, q⟩ => q _ _ G H (Ext.refl st.ex) (h3 G) rfl
/-- a built-in's name -/
structure BN (X : Cx) (x : Str) (u : Value) : Prop where
  gl : Gl X x
  hm : X.mg x = none
  hv : bootBuiltins x = some u
  hn : x ≠ "__name__"
  hd : (x == ("__debug__" : Str)) = false
theorem pv_bty {x : Str} {n : String} (c : BN X x (.type n)) : PV X (.Name x pos) env (.ty n) :=
  PE.weak (pe_bltn (v := .ty n) c.gl c.hm c.hv rfl c.hn c.hd) fun σ H Q ⟨G0, H0, G, st, q⟩ => q _ _ G H (Ext.refl st.ex) (.ty n) rfl
end
end Fc

/-! Fc: the expressions. -/
namespace Fc
open PySem PySem.Spec PyProof.Rows L2

/-! ### operations on data -/
def RD (K : PySem.W.Frag) (r : R2) (x y z : Dt) : Prop := ∀ v w G H, Ex G H → Rep K G v x → Rep K G w y → ∀ Q : VK, (∀ u G' H', Ext G H G' H' → Rep K G' u z → Q u H') → r v w H Q
structure BinD (X : Cx) (op : Operator) (x y z : Dt) : Prop where
  ex : ∃ r, OpR X (binaryOp op) r ∧ RD X.K r x y z
structure CmpD (X : Cx) (op : CmpOp) (x y : Dt) (b : Bool) : Prop where
  ex : ∃ r, OpR X (compareOp op) r ∧ RD X.K r x y (.bl b)
structure IxD (X : Cx) (x y z : Dt) : Prop where
  ex : ∃ r, IxR X r ∧ RD X.K r x y z
structure SlD (X : Cx) (x : Dt) (lo hi : Option Int) (z : Dt) : Prop where
  ex : ∃ r, SlR X r ∧ ∀ v G H, Ex G H → Rep X.K G v x → ∀ Q : VK, (∀ u G' H', Ext G H G' H' → Rep X.K G' u z → Q u H') → r v lo hi H Q
structure CallD (X : Cx) (id : String) (ds : List Dt) (z : Dt) : Prop where
  ex : ∃ r, CallR X (.builtin id) r ∧ ∀ vs G H, Ex G H → RepL X.K G vs ds → ∀ Q : VK, (∀ u G' H', Ext G H G' H' → Rep X.K G' u z → Q u H') → r vs H Q

section
variable {X : Cx} {x y z : Dt}
theorem bin_I {op : Operator} {g : Int → Int → Int} {C : Int → Int → Prop} (ho : OpR X (binaryOp op) (rI C fun i j => .int (g i j))) {i j : Int} (hc : C i j) : BinD X op (.int i) (.int j) (.int (g i j)) :=
  ⟨_, ho, fun v w G H e r1 r2 Q q => by
    cases r1
    cases r2
    exact ⟨i, j, rfl, rfl, hc, q _ G H (Ext.refl e) (.int _)⟩⟩
theorem bin_I0 {op : Operator} {g : Int → Int → Int} (ho : OpR X (binaryOp op) (rI0 fun i j => .int (g i j))) {i j : Int} : BinD X op (.int i) (.int j) (.int (g i j)) :=
  ⟨_, ho, fun v w G H e r1 r2 Q q => by
    cases r1
    cases r2
    exact ⟨i, j, rfl, rfl, q _ G H (Ext.refl e) (.int _)⟩⟩
theorem bin_add {i j : Int} : BinD X .Add (.int i) (.int j) (.int (i + j)) := bin_I0 op_add
theorem bin_sub {i j : Int} : BinD X .Sub (.int i) (.int j) (.int (i - j)) := bin_I0 op_sub
theorem bin_mul {i j : Int} (h : CMulW i j) : BinD X .Mult (.int i) (.int j) (.int (i * j)) := bin_I op_mulW h
theorem bin_fdiv {i j : Int} (h : CDivW i j) : BinD X .FloorDiv (.int i) (.int j) (.int (i / j)) := bin_I op_fdivW h
theorem bin_mod {i j : Int} (h : 0 < j) : BinD X .Mod (.int i) (.int j) (.int (i % j)) := bin_I (C := fun _ j => 0 < j) op_mod h
theorem bin_pow {i j : Int} (h : CPow i j) : BinD X .Pow (.int i) (.int j) (.int (i ^ j.toNat)) := bin_I op_pow h
theorem bin_shr {i j : Int} (h : 0 ≤ j) : BinD X .RShift (.int i) (.int j) (.int (i / 2 ^ j.toNat)) := bin_I (C := fun _ j => 0 ≤ j) op_shr h
theorem bin_and {i j : Int} : BinD X .BitAnd (.int i) (.int j) (.int (Builtin.bitAnd i j)) := bin_I0 op_and
theorem bin_addS {i j : Str} (h : i.length + j.length ≤ sizeLine) : BinD X .Add (.str i) (.str j) (.str (i ++ j)) :=
  ⟨_, op_add_str, fun v w G H e r1 r2 Q q => by
    cases r1
    cases r2
    exact ⟨i, j, rfl, rfl, h, q _ G H (Ext.refl e) (.str _)⟩⟩
/-- list + list, lists that are read -/
def rCatR (K : PySem.W.Frag) : R2 := fun x y H Q => ∃ l b xs zs, x = .ref l ∧ y = .ref b ∧ SqL K H l xs ∧ SqL K H b zs ∧ xs.length + zs.length ≤ sizeLine ∧ ∀ p, H p = none → Q (.ref p) (upd H p (.lst (xs ++ zs)))
theorem op_catR : OpR X (binaryOp .Add) (rCatR X.K) := by
  intro pins s σ H x y v u Q I rx ry h
  obtain ⟨l, b, xs, zs, rfl, rfl, hH, hB, hz, q⟩ := h
  cases rx
  cases ry
  obtain ⟨its, r, ⟨⟨cls, dd, data, sl⟩, n, ho, hc, _, hd⟩, z⟩ := I.list hH
  obtain ⟨its2, r2, ⟨⟨cls2, dd2, data2, sl2⟩, n2, ho2, hc2, _, hd2⟩, z2⟩ := I.list hB
  simp only at hc hd hc2 hd2
  subst hc hd hc2 hd2
  have hl := r.length
  have hl2 := r2.length
  have e : its.toArray ++ its2.toArray = (its ++ its2).toArray := by simp
  refine concat_meets ⟨_, ho, rfl⟩ ⟨_, ho2, rfl⟩ noFill_list_add seq_list_add PySem.F.slot_list_add PySem.F.entry_list_add (PySem.F.args_list_add_2 _ _) (PyProof.Rows.list_addW l b its.toArray its2.toArray n n2 dd dd2 sl sl2 (by simp only [List.size_toArray]; omega)) ⟨ho, ho2, ?_⟩
  rw [e]
  exact ⟨.ref _, _, I.lnew (t' := s.toks) (r.append r2) (by rw [List.length_append]; omega), rfl, q _ I.fresh⟩
theorem bin_addL {xs ys : List Dt} (h : xs.length + ys.length ≤ sizeLine) : BinD X .Add (.lst xs) (.lst ys) (.lst (xs ++ ys)) :=
  ⟨_, op_catR, fun v w G H e r1 r2 Q q => by
    cases r1 with
    | lst h1 q1 =>
      cases r2 with
      | lst h2 q2 =>
        refine ⟨_, _, _, _, rfl, rfl, Evl.ex_l e h1, Evl.ex_l e h2, by rw [q1.len, q2.len]; exact h, fun p hp => ?_⟩
        exact q _ _ _ (Ext.new e hp) (.lst (SqL.of upd_same) ((q1.app q2).mono (Ext.new (o := .lst _) e hp).g))⟩
/-- [..] * k, a list of one's own -/
theorem bin_rep {xs : List Dt} {k : Int} (h1 : -(2 ^ 63) ≤ k) (h2 : k < 2 ^ 63) (h : xs.length * k.toNat ≤ sizeLine) (hx : ∀ (v : V) (G H : Hp), Ex G H → Rep X.K G v (.lst xs) → ∃ a vs, v = .ref a ∧ H a = some (.lst vs) ∧ RepL X.K G vs xs) :
    BinD X .Mult (.lst xs) (.int k) (.lst (List.replicate k.toNat xs).flatten) :=
  ⟨_, op_rep, fun v w G H e r1 r2 Q q => by
    obtain ⟨a, vs, rfl, ha, q1⟩ := hx v G H e r1
    cases r2
    refine ⟨a, k, vs, rfl, rfl, ha, h1, h2, by rw [q1.len]; exact h, fun p hp => ?_⟩
    exact q _ _ _ (Ext.new e hp) (.lst (SqL.of upd_same) ((q1.rep _).mono (Ext.new (o := .lst _) e hp).g))⟩

/-! ### comparisons -/
theorem cmp_I0 {op : CmpOp} {g : Int → Int → Bool} (ho : OpR X (compareOp op) (rI0 fun i j => .bl (g i j))) {i j : Int} : CmpD X op (.int i) (.int j) (g i j) :=
  ⟨_, ho, fun v w G H e r1 r2 Q q => by
    cases r1
    cases r2
    exact ⟨i, j, rfl, rfl, q _ G H (Ext.refl e) (.bl _)⟩⟩
theorem cmp_lt {i j : Int} : CmpD X .Lt (.int i) (.int j) (decide (i < j)) := cmp_I0 op_lt
theorem cmp_le {i j : Int} : CmpD X .LtE (.int i) (.int j) (decide (i ≤ j)) := cmp_I0 op_le
theorem cmp_gt {i j : Int} : CmpD X .Gt (.int i) (.int j) (decide (j < i)) := cmp_I0 op_gt
theorem cmp_ge {i j : Int} : CmpD X .GtE (.int i) (.int j) (decide (j ≤ i)) := cmp_I0 op_ge
theorem cmp_S {op : CmpOp} {f : Bool → Bool} (ho : OpR X (compareOp op) (fun x y H Q => scal x y = true ∧ Q (.bl (f (decide (x = y)))) H)) {a b : V} {x y : Dt} (hx : ∀ K G v, Rep K G v x → v = a) (hy : ∀ K G v, Rep K G v y → v = b) (hs : scal a b = true) : CmpD X op x y (f (decide (a = b))) :=
  ⟨_, ho, fun v w G H e r1 r2 Q q => by
    cases hx _ _ _ r1
    cases hy _ _ _ r2
    exact ⟨hs, q _ G H (Ext.refl e) (.bl _)⟩⟩
theorem CmpD.is {op : CmpOp} {b b' : Bool} (h : CmpD X op x y b) (e : b = b') : CmpD X op x y b' := by subst e; exact h
theorem cmp_eqI {i j : Int} : CmpD X .Eq (.int i) (.int j) (decide (i = j)) := (cmp_S (f := fun b => b) op_eq (fun _ _ _ h => by cases h; rfl) (fun _ _ _ h => by cases h; rfl) (by rfl)).is (by simp)
theorem cmp_eqS {i j : Str} : CmpD X .Eq (.str i) (.str j) (decide (i = j)) := (cmp_S (f := fun b => b) op_eq (fun _ _ _ h => by cases h; rfl) (fun _ _ _ h => by cases h; rfl) (by rfl)).is (by simp)
theorem cmp_neI {i j : Int} : CmpD X .NotEq (.int i) (.int j) (!decide (i = j)) := (cmp_S (f := fun b => !b) op_ne (fun _ _ _ h => by cases h; rfl) (fun _ _ _ h => by cases h; rfl) (by rfl)).is (by simp)
theorem cmp_neS {i j : Str} : CmpD X .NotEq (.str i) (.str j) (!decide (i = j)) := (cmp_S (f := fun b => !b) op_ne (fun _ _ _ h => by cases h; rfl) (fun _ _ _ h => by cases h; rfl) (by rfl)).is (by simp)
theorem cmp_neB {i j : Bool} : CmpD X .NotEq (.bl i) (.bl j) (i != j) := (cmp_S (f := fun b => !b) op_ne (fun _ _ _ h => by cases h; rfl) (fun _ _ _ h => by cases h; rfl) (by rfl)).is (by cases i <;> cases j <;> rfl)
/-- None or not -/
def isNon : Dt → Bool
  | .non => true
  | _ => false
theorem Rep.isNon {K : PySem.W.Frag} {G : Hp} {v : V} {d : Dt} (h : Rep K G v d) : decide (v = .non) = Fc.isNon d := by
  cases h <;> simp [Fc.isNon]
theorem cmp_isN : CmpD X .Is x .non (isNon x) := ⟨_, op_isN, fun v w G H e r1 r2 Q q => by
  cases r2
  refine ⟨rfl, ?_⟩
  rw [r1.isNon]
  exact q _ G H (Ext.refl e) (.bl _)⟩
theorem cmp_notN : CmpD X .IsNot x .non (!isNon x) := ⟨_, op_notN, fun v w G H e r1 r2 Q q => by
  cases r2
  refine ⟨rfl, ?_⟩
  rw [r1.isNon]
  exact q _ G H (Ext.refl e) (.bl _)⟩
theorem repL_strs {K : PySem.W.Frag} {G : Hp} : ∀ {ss : List Str} {vs : List V}, RepL K G vs (ss.map .str) → vs = ss.map V.str
  | [], vs, h => by cases h; rfl
  | s :: ss, vs, h => by
    cases h with
    | cons r rr =>
      cases r
      rw [repL_strs rr] <;> rfl
theorem repL_ints {K : PySem.W.Frag} {G : Hp} : ∀ {ss : List Int} {vs : List V}, RepL K G vs (ss.map .int) → vs = ss.map V.int
  | [], vs, h => by cases h; rfl
  | s :: ss, vs, h => by
    cases h with
    | cons r rr =>
      cases r
      rw [repL_ints rr] <;> rfl
theorem of_strs {K : PySem.W.Frag} {G : Hp} : ∀ ss : List Str, RepL K G (ss.map V.str) (ss.map .str)
  | [] => .nil
  | s :: ss => .cons (.str s) (of_strs ss)
theorem of_ints {K : PySem.W.Frag} {G : Hp} : ∀ ss : List Int, RepL K G (ss.map V.int) (ss.map .int)
  | [] => .nil
  | s :: ss => .cons (.int s) (of_ints ss)
theorem inV_strs (x : Str) (ss : List Str) : inV (.str x) (ss.map V.str) = decide (x ∈ ss) := by
  unfold inV
  rw [List.any_map, Bool.eq_iff_iff]
  simp only [List.any_eq_true, decide_eq_true_eq, Function.comp, eqV, beq_iff_eq]
  constructor
  · rintro ⟨y, h, e⟩
    rw [← e]
    exact h
  · exact fun h => ⟨x, h, rfl⟩
theorem inV_ints (x : Int) (ss : List Int) : inV (.int x) (ss.map V.int) = decide (x ∈ ss) := by
  unfold inV
  rw [List.any_map, Bool.eq_iff_iff]
  simp only [List.any_eq_true, decide_eq_true_eq, Function.comp, eqV, beq_iff_eq]
  constructor
  · rintro ⟨y, h, e⟩
    rw [← e]
    exact h
  · exact fun h => ⟨x, h, rfl⟩
theorem flat_strs (ss : List Str) : (ss.map V.str).all flatV = true := by simp [flatV]
theorem flat_ints (ss : List Int) : (ss.map V.int).all flatV = true := by simp [flatV]
/-- in, not in: lists and tuples of texts, of ints -/
inductive SeqD : Dt → List Dt → Prop where
  | lst (ds : List Dt) : SeqD (.lst ds) ds
  | tup (ds : List Dt) : SeqD (.tup ds) ds
theorem SeqD.rep {K : PySem.W.Frag} {G : Hp} {v : V} {d : Dt} {ds : List Dt} (s : SeqD d ds) (h : Rep K G v d) : ∃ a vs, v = .ref a ∧ (SqL K G a vs ∨ SqT K G a vs) ∧ RepL K G vs ds := by
  cases s with
  | lst =>
    cases h with
    | lst h r => exact ⟨_, _, rfl, .inl h, r⟩
  | tup =>
    cases h with
    | tup h r => exact ⟨_, _, rfl, .inr h, r⟩
theorem ex_lt {K : PySem.W.Frag} {G H : Hp} {a : Addr} {vs : List V} (e : Ex G H) (h : SqL K G a vs ∨ SqT K G a vs) : SqL K H a vs ∨ SqT K H a vs := h.elim (fun z => .inl (Evl.ex_l e z)) fun z => .inr (Evl.ex_t e z)
theorem cmp_inS {s : Str} {ss : List Str} {d : Dt} (h : SeqD d (ss.map .str)) : CmpD X .In (.str s) d (decide (s ∈ ss)) := ⟨_, op_in_seq, fun v w G H e r1 r2 Q q => by
  cases r1
  obtain ⟨a, vs, rfl, hs, r⟩ := h.rep r2
  cases repL_strs r
  refine ⟨a, _, rfl, ex_lt e hs, rfl, flat_strs ss, ?_⟩
  show Q (.bl (inV (.str s) (ss.map V.str))) H
  rw [inV_strs]
  exact q _ G H (Ext.refl e) (.bl _)⟩
theorem cmp_niS {s : Str} {ss : List Str} {d : Dt} (h : SeqD d (ss.map .str)) : CmpD X .NotIn (.str s) d (!decide (s ∈ ss)) := ⟨_, op_notIn_seq, fun v w G H e r1 r2 Q q => by
  cases r1
  obtain ⟨a, vs, rfl, hs, r⟩ := h.rep r2
  cases repL_strs r
  refine ⟨a, _, rfl, ex_lt e hs, rfl, flat_strs ss, ?_⟩
  show Q (.bl (!inV (.str s) (ss.map V.str))) H
  rw [inV_strs]
  exact q _ G H (Ext.refl e) (.bl _)⟩
theorem cmp_inI {s : Int} {ss : List Int} {d : Dt} (h : SeqD d (ss.map .int)) : CmpD X .In (.int s) d (decide (s ∈ ss)) := ⟨_, op_in_seq, fun v w G H e r1 r2 Q q => by
  cases r1
  obtain ⟨a, vs, rfl, hs, r⟩ := h.rep r2
  cases repL_ints r
  refine ⟨a, _, rfl, ex_lt e hs, rfl, flat_ints ss, ?_⟩
  show Q (.bl (inV (.int s) (ss.map V.int))) H
  rw [inV_ints]
  exact q _ G H (Ext.refl e) (.bl _)⟩
theorem cmp_niI {s : Int} {ss : List Int} {d : Dt} (h : SeqD d (ss.map .int)) : CmpD X .NotIn (.int s) d (!decide (s ∈ ss)) := ⟨_, op_notIn_seq, fun v w G H e r1 r2 Q q => by
  cases r1
  obtain ⟨a, vs, rfl, hs, r⟩ := h.rep r2
  cases repL_ints r
  refine ⟨a, _, rfl, ex_lt e hs, rfl, flat_ints ss, ?_⟩
  show Q (.bl (!inV (.int s) (ss.map V.int))) H
  rw [inV_ints]
  exact q _ G H (Ext.refl e) (.bl _)⟩
theorem cmp_inS2 {s a b : Str} : CmpD X .In (.str s) (.tup [.str a, .str b]) (decide (s ∈ [a, b])) := cmp_inS (ss := [a, b]) (.tup _)
theorem cmp_niS2 {s a b : Str} : CmpD X .NotIn (.str s) (.tup [.str a, .str b]) (!decide (s ∈ [a, b])) := cmp_niS (ss := [a, b]) (.tup _)
theorem cmp_niI2 {s a b : Int} : CmpD X .NotIn (.int s) (.tup [.int a, .int b]) (!decide (s ∈ [a, b])) := cmp_niI (ss := [a, b]) (.tup _)
theorem cmp_inSL {s : Str} {ss : List Str} : CmpD X .In (.str s) (.lst (ss.map .str)) (decide (s ∈ ss)) := cmp_inS (.lst _)
theorem cmp_niSL {s : Str} {ss : List Str} : CmpD X .NotIn (.str s) (.lst (ss.map .str)) (!decide (s ∈ ss)) := cmp_niS (.lst _)
theorem cmp_inIL {s : Int} {ss : List Int} : CmpD X .In (.int s) (.lst (ss.map .int)) (decide (s ∈ ss)) := cmp_inI (.lst _)
theorem cmp_niIL {s : Int} {ss : List Int} : CmpD X .NotIn (.int s) (.lst (ss.map .int)) (!decide (s ∈ ss)) := cmp_niI (.lst _)
/-- one sign in a text -/
theorem cmp_inC {c : Nat} {z : Str} : CmpD X .In (.str ⟨#[c]⟩) (.str z) (decide (c ∈ z.cps.toList)) := ⟨_, op_in_sign, fun v w G H e r1 r2 Q q => by
  cases r1
  cases r2
  exact ⟨c, z, rfl, rfl, q _ G H (Ext.refl e) (.bl _)⟩⟩
theorem cmp_niC {c : Nat} {z : Str} : CmpD X .NotIn (.str ⟨#[c]⟩) (.str z) (!decide (c ∈ z.cps.toList)) := ⟨_, op_notIn_sign, fun v w G H e r1 r2 Q q => by
  cases r1
  cases r2
  exact ⟨c, z, rfl, rfl, q _ G H (Ext.refl e) (.bl _)⟩⟩
/-- == of lists of texts, of pairs of ints -/
theorem dpA_strs {K : PySem.W.Frag} {H : Hp} : ∀ ss : List Str, DpAll K H (ss.map V.str) (ss.map .str)
  | [] => .nil
  | s :: ss => .cons (.str s) (dpA_strs ss)
theorem eqvAll_strs : ∀ as bs : List Str, PyData.eqvAll (as.map .str) (bs.map .str) = decide (as = bs)
  | [], [] => rfl
  | [], _ :: _ => rfl
  | _ :: _, [] => rfl
  | a :: as, b :: bs => by
    show (PyData.eqv (.str a) (.str b) && PyData.eqvAll (as.map .str) (bs.map .str)) = _
    rw [eqvAll_strs as bs]
    show ((a == b) && decide (as = bs)) = decide (a :: as = b :: bs)
    rw [Bool.eq_iff_iff]
    simp
end
end Fc
namespace Fc
open PySem PySem.Spec PyProof.Rows L2
/-! ### == of lists of texts, of pairs of ints -/
theorem canLay_strs : ∀ {ss : List Str}, (∀ s ∈ ss, PyData.canLay0 (.str s) = true) → PyData.canLayAll0 (ss.map .str) = true
  | [], _ => rfl
  | s :: ss, h => by
    show (PyData.canLay0 (.str s) && PyData.canLayAll0 (ss.map .str)) = true
    rw [h s List.mem_cons_self, canLay_strs fun t ht => h t (List.mem_cons_of_mem _ ht)]
    all_goals rfl
theorem depth_strs : ∀ ss : List Str, PyData.depthAll (ss.map .str) = 0
  | [] => rfl
  | s :: ss => by
    show max (PyData.depth (.str s)) (PyData.depthAll (ss.map .str)) = 0
    rw [depth_strs ss]
    all_goals rfl
theorem shaped_strs {ss : List Str} (h : ∀ s ∈ ss, PyData.canLay0 (.str s) = true) : SeqAt.shaped (.list (ss.map .str)) = true := by
  unfold SeqAt.shaped
  rw [show PyData.canLay0 (.list (ss.map .str)) = PyData.canLayAll0 (ss.map .str) by simp only [PyData.canLay0], canLay_strs h, show PyData.depth (.list (ss.map .str)) = PyData.depthAll (ss.map .str) + 1 by simp only [PyData.depth], depth_strs]
  all_goals rfl
section
variable {X : Cx} {x y z : Dt}
theorem cmp_eqLS {k : Nat} {as bs : List Str} (hr : Room k X.A) (ha : ∀ s ∈ as, PyData.canLay0 (.str s) = true) (hb : ∀ s ∈ bs, PyData.canLay0 (.str s) = true) : CmpD X .Eq (.lst (as.map .str)) (.lst (bs.map .str)) (decide (as = bs)) :=
  ⟨_, op_eqD hr.units, fun v w G H e r1 r2 Q q => by
    cases r1 with
    | lst h1 q1 =>
      cases r2 with
      | lst h2 q2 =>
        cases repL_strs q1
        cases repL_strs q2
        refine ⟨.list (as.map .str), .list (bs.map .str), .lst (Evl.ex_l e h1) (dpA_strs as), .lst (Evl.ex_l e h2) (dpA_strs bs), shaped_strs ha, shaped_strs hb, ?_⟩
        have e2 : PyData.eqv (.list (as.map .str)) (.list (bs.map .str)) = decide (as = bs) := by
          rw [← eqvAll_strs]
          simp only [PyData.eqv]
        rw [e2]
        exact q _ G H (Ext.refl e) (.bl _)⟩
theorem cmp_neL0 {k : Nat} {as : List Str} (hr : Room k X.A) (ha : ∀ s ∈ as, PyData.canLay0 (.str s) = true) : CmpD X .NotEq (.lst (as.map .str)) (.lst []) (!decide (as = [])) :=
  ⟨_, op_neD hr.units, fun v w G H e r1 r2 Q q => by
    cases r1 with
    | lst h1 q1 =>
      cases r2 with
      | lst h2 q2 =>
        cases repL_strs q1
        cases q2
        refine ⟨.list (as.map .str), .list (List.map .str []), .lst (Evl.ex_l e h1) (dpA_strs as), .lst (Evl.ex_l e h2) (dpA_strs []), shaped_strs ha, shaped_strs (fun s hs => by cases hs), ?_⟩
        have e2 : PyData.eqv (.list (as.map .str)) (.list (List.map .str [])) = decide (as = []) := by
          rw [← eqvAll_strs]
          simp only [PyData.eqv]
        rw [e2]
        exact q _ G H (Ext.refl e) (.bl _)⟩
theorem cmp_neTI {k : Nat} {a b c d : Int} (hr : Room k X.A) : CmpD X .NotEq (.tup [.int a, .int b]) (.tup [.int c, .int d]) (!decide (a = c ∧ b = d)) :=
  ⟨_, op_neD hr.units, fun v w G H e r1 r2 Q q => by
    cases r1 with
    | tup h1 q1 =>
      cases r2 with
      | tup h2 q2 =>
        cases repL_ints (ss := [a, b]) q1
        cases repL_ints (ss := [c, d]) q2
        refine ⟨.tuple [.int a, .int b], .tuple [.int c, .int d], .tup (Evl.ex_t e h1) (.cons (.int a) (.cons (.int b) .nil)), .tup (Evl.ex_t e h2) (.cons (.int c) (.cons (.int d) .nil)), by rfl, by rfl, ?_⟩
        have e2 : PyData.eqv (.tuple [.int a, .int b]) (.tuple [.int c, .int d]) = decide (a = c ∧ b = d) := by
          show ((a == c) && ((b == d) && true)) = _
          rw [Bool.eq_iff_iff]
          simp
        rw [e2]
        exact q _ G H (Ext.refl e) (.bl _)⟩

/-! ### subscripts -/
theorem repL_at {K : PySem.W.Frag} {G : Hp} {vs : List V} {ds : List Dt} {i : Int} {d : Dt} (r : RepL K G vs ds) (h : atI ds i = some d) : ∃ v, atI vs i = some v ∧ Rep K G v d := by
  unfold atI at h ⊢
  rw [r.len]
  cases e : ixN ds.length i with
  | none => rw [e] at h; cases h
  | some j =>
    rw [e] at h
    exact r.get h
theorem ix_lst {xs : List Dt} {i : Int} (h : atI xs i = some z) : IxD X (.lst xs) (.int i) z := ⟨_, ix_list, fun v w G H e r1 r2 Q q => by
  cases r1 with
  | lst h1 q1 =>
    cases r2
    obtain ⟨u, hu, ru⟩ := repL_at q1 h
    exact ⟨_, _, i, u, rfl, rfl, Evl.ex_l e h1, hu, q u G H (Ext.refl e) ru⟩⟩
theorem ix_tp {xs : List Dt} {i : Int} (h : atI xs i = some z) : IxD X (.tup xs) (.int i) z := ⟨_, ix_tup, fun v w G H e r1 r2 Q q => by
  cases r1 with
  | tup h1 q1 =>
    cases r2
    obtain ⟨u, hu, ru⟩ := repL_at q1 h
    exact ⟨_, _, i, u, rfl, rfl, Evl.ex_t e h1, hu, q u G H (Ext.refl e) ru⟩⟩
theorem ix_st {w : Str} {i : Int} {c : Nat} (hz : w.length ≤ sizeLine) (h : atI w.cps.toList i = some c) : IxD X (.str w) (.int i) (.str ⟨#[c]⟩) := ⟨_, ix_str, fun v w' G H e r1 r2 Q q => by
  cases r1
  cases r2
  exact ⟨w, i, c, rfl, rfl, hz, h, q _ G H (Ext.refl e) (.str _)⟩⟩
/-- the items of xs[lo:hi] -/
def cut {α : Type} (xs : List α) (lo hi : Option Int) : List α := (xs.drop (HT.sIx xs.length 0 lo)).take (HT.sIx xs.length xs.length hi - HT.sIx xs.length 0 lo)
theorem cut_map {α β : Type} (f : α → β) (xs : List α) (lo hi : Option Int) : cut (xs.map f) lo hi = (cut xs lo hi).map f := by
  unfold cut
  rw [List.length_map, List.map_take, List.map_drop]
theorem cutS_eq (z : Str) (lo hi : Option Int) : (cutS z lo hi).cps.toList = cut z.cps.toList lo hi := by
  unfold cutS cut
  simp [Str.length]
theorem repL_cut {K : PySem.W.Frag} {G : Hp} {vs : List V} {ds : List Dt} (lo hi : Option Int) (r : RepL K G vs ds) : RepL K G (cutV vs lo hi) (cut ds lo hi) := by
  unfold cutV cut
  rw [r.len]
  exact (r.drop _).take _
theorem sl_lst {xs : List Dt} {lo hi : Option Int} : SlD X (.lst xs) lo hi (.lst (cut xs lo hi)) := ⟨_, sl_list, fun v G H e r Q q => by
  cases r with
  | lst h1 q1 =>
    refine ⟨_, _, rfl, Evl.ex_l e h1, fun p hp => ?_⟩
    exact q _ _ _ (Ext.new e hp) (.lst (SqL.of upd_same) ((repL_cut lo hi q1).mono (Ext.new (o := .lst _) e hp).g))⟩
theorem sl_tp {xs : List Dt} {lo hi : Option Int} (h : ¬ (HT.sIx xs.length 0 lo = 0 ∧ HT.sIx xs.length xs.length hi = xs.length)) : SlD X (.tup xs) lo hi (.tup (cut xs lo hi)) := ⟨_, sl_tup, fun v G H e r Q q => by
  cases r with
  | tup h1 q1 =>
    refine ⟨_, _, rfl, Evl.ex_t e h1, by rw [q1.len]; exact h, fun p hp => ?_⟩
    exact q _ _ _ (Ext.new e hp) (.tup (SqT.of upd_same) ((repL_cut lo hi q1).mono (Ext.new (o := .tup _) e hp).g))⟩
theorem sl_st {w : Str} {lo hi : Option Int} (hz : w.length ≤ sizeLine) : SlD X (.str w) lo hi (.str (cutS w lo hi)) := ⟨_, sl_str, fun v G H e r Q q => by
  cases r
  exact ⟨w, rfl, hz, q _ G H (Ext.refl e) (.str _)⟩⟩

/-! ### built-in functions -/
theorem cd_lenL {ds : List Dt} : CallD X "len" [.lst ds] (.int (ds.length : Nat)) := ⟨_, call_len_seq, fun vs G H e r Q q => by
  cases r with
  | cons r rr =>
    cases rr
    cases r with
    | lst h1 q1 =>
      refine ⟨_, _, rfl, .inl (Evl.ex_l e h1), ?_⟩
      rw [q1.len]
      exact q _ G H (Ext.refl e) (.int _)⟩
theorem cd_lenT {ds : List Dt} : CallD X "len" [.tup ds] (.int (ds.length : Nat)) := ⟨_, call_len_seq, fun vs G H e r Q q => by
  cases r with
  | cons r rr =>
    cases rr
    cases r with
    | tup h1 q1 =>
      refine ⟨_, _, rfl, .inr (Evl.ex_t e h1), ?_⟩
      rw [q1.len]
      exact q _ G H (Ext.refl e) (.int _)⟩
theorem cd_lenS {w : Str} (hz : w.length ≤ sizeLine) : CallD X "len" [.str w] (.int (w.length : Nat)) := ⟨_, call_len_str, fun vs G H e r Q q => by
  cases r with
  | cons r rr =>
    cases rr
    cases r
    exact ⟨w, rfl, hz, q _ G H (Ext.refl e) (.int _)⟩⟩
theorem cd_abs {i : Int} : CallD X "abs" [.int i] (.int (if i < 0 then -i else i)) := ⟨_, call_abs, fun vs G H e r Q q => by
  cases r with
  | cons r rr =>
    cases rr
    cases r
    exact ⟨i, rfl, q _ G H (Ext.refl e) (.int _)⟩⟩
theorem cd_min2 (hc : X.calm = true) {i j : Int} : CallD X "min" [.int i, .int j] (.int (if j < i then j else i)) := ⟨_, call_min2 hc, fun vs G H e r Q q => by
  cases r with
  | cons r rr =>
    cases rr with
    | cons r2 rr =>
      cases rr
      cases r
      cases r2
      exact ⟨i, j, rfl, q _ G H (Ext.refl e) (.int _)⟩⟩
/-- the least of a list -/
def minL : List Int → Int
  | [] => 0
  | [x] => x
  | x :: y :: r => min x (minL (y :: r))
theorem minL_mem : ∀ {l : List Int}, l ≠ [] → minL l ∈ l ∧ ∀ y ∈ l, minL l ≤ y
  | [], h => (h rfl).elim
  | [x], _ => ⟨List.mem_cons_self, fun y hy => by rw [List.mem_singleton.mp hy]; exact Int.le_refl _⟩
  | x :: y :: r, _ => by
    obtain ⟨h1, h2⟩ := minL_mem (l := y :: r) (by simp)
    show min x (minL (y :: r)) ∈ _ ∧ _
    refine ⟨?_, fun z hz => ?_⟩
    · by_cases h : x ≤ minL (y :: r)
      · rw [Int.min_eq_left h]
        exact List.mem_cons_self
      · rw [Int.min_eq_right (by omega)]
        exact List.mem_cons_of_mem _ h1
    · show min x (minL (y :: r)) ≤ z
      rcases List.mem_cons.mp hz with e | hz
      · subst e; exact Int.min_le_left _ _
      · exact Int.le_trans (Int.min_le_right _ _) (h2 z hz)
theorem minL_eq {l : List Int} {m : Int} (h1 : m ∈ l) (h2 : ∀ y ∈ l, m ≤ y) : m = minL l := by
  obtain ⟨h3, h4⟩ := minL_mem (l := l) (by intro e; subst e; cases h1)
  have := h2 _ h3
  have := h4 _ h1
  omega
theorem cd_minL (hc : X.calm = true) {ns : List Int} (h : ns ≠ []) : CallD X "min" [.lst (ns.map .int)] (.int (minL ns)) := ⟨_, cr_min hc, fun vs G H e r Q q => by
  cases r with
  | cons r rr =>
    cases rr
    cases r with
    | lst h1 q1 =>
      cases repL_ints q1
      refine ⟨_, ns, rfl, Evl.ex_l e h1, List.length_pos_iff.mpr h, fun m m1 m2 => ?_⟩
      rw [minL_eq m1 m2]
      exact q _ G H (Ext.refl e) (.int _)⟩
/-- isinstance -/
theorem ty_tup {K : PySem.W.Frag} {H : Hp} {a : Addr} {xs : List V} (h : SqT K H a xs) : TyX K H (.ref a) (.type "tuple") := by
  rcases h with (h | ⟨o, h⟩) | ⟨o, its, n, hk, hc, _⟩
  · exact .base (.tup h)
  · exact .fTuple h
  · exact .kTuple hk hc
theorem ty_lst {K : PySem.W.Frag} {H : Hp} {a : Addr} {xs : List V} (h : SqL K H a xs) : TyX K H (.ref a) (.type "list") := by
  rcases h with (h | ⟨o, h⟩) | ⟨o, its, n, hk, hc, _⟩
  · exact .base (.lst h)
  · exact .base (.frz h)
  · exact .kList hk hc
theorem cd_isi {x : Dt} {t n : String} {b : Bool} (ht : ∀ G v, Rep X.K G v x → TyX X.K G v (.type t)) (hm : ∀ G H v, Ex G H → TyX X.K G v (.type t) → Rep X.K G v x → TyX X.K H v (.type t)) (hk : PySem.W.kitOne X.K (.type t) (.type n) = some b) : CallD X "isinstance" [x, .ty n] (.bl b) :=
  ⟨_, call_isi, fun vs G H e r Q q => by
    cases r with
    | cons r rr =>
      cases rr with
      | cons r2 rr =>
        cases rr
        cases r2
        exact ⟨_, .ty n, .type t, .type n, b, rfl, .ty n, hm G H _ e (ht G _ r) r, hk, q _ G H (Ext.refl e) (.bl _)⟩⟩
theorem cd_isTup {ds : List Dt} : CallD X "isinstance" [.tup ds, .ty "tuple"] (.bl true) := cd_isi (t := "tuple") (fun G v r => by cases r with | tup h _ => exact ty_tup h)
  (fun G H v e _ r => by cases r with | tup h _ => exact ty_tup (Evl.ex_t e h)) (kit_ty (by decide +kernel))
theorem cd_isLst {ds : List Dt} : CallD X "isinstance" [.lst ds, .ty "list"] (.bl true) := cd_isi (t := "list") (fun G v r => by cases r with | lst h _ => exact ty_lst h)
  (fun G H v e _ r => by cases r with | lst h _ => exact ty_lst (Evl.ex_l e h)) (kit_ty (by decide +kernel))
theorem cd_isStr {w : Str} : CallD X "isinstance" [.str w, .ty "str"] (.bl true) := cd_isi (t := "str") (fun G v r => by cases r; exact .base (.str w)) (fun G H v e _ r => by cases r; exact .base (.str w)) (kit_ty (by decide +kernel))
theorem cd_isInt {i : Int} : CallD X "isinstance" [.int i, .ty "int"] (.bl true) := cd_isi (t := "int") (fun G v r => by cases r; exact .base (.int i)) (fun G H v e _ r => by cases r; exact .base (.int i)) (kit_ty (by decide +kernel))
theorem cd_isBool {i : Int} : CallD X "isinstance" [.int i, .ty "bool"] (.bl false) := cd_isi (t := "int") (fun G v r => by cases r; exact .base (.int i)) (fun G H v e _ r => by cases r; exact .base (.int i)) (kit_ty (by decide +kernel))
end
end Fc

/-! Fc: the rules of expressions and tests. -/
namespace Fc
open PySem PySem.Spec PyProof.Rows L2
section
variable {X : Cx} {a b c e o i : Expr} {env : List Sl} {x y z d : Dt} {pos : Pos} {S : Dt → Prop}

/-- two expressions, then an operation -/
theorem tOp_of {r : R2} {σ : L2.St} {H : Hp} {Q : VK} (hr : RD X.K r x y z) (h : tQ X.K env (fun d => d = z) σ H Q) : tOp r (tQ X.K env (fun d => d = x)) (tQ X.K env (fun d => d = y)) σ H Q := by
  obtain ⟨G0, H0, G, st, q⟩ := h
  refine ⟨G0, H0, G, st, fun v d G1 H1 e1 r1 hd => ?_⟩
  subst hd
  refine ⟨G0, H0, G1, st.step e1, fun w d2 G2 H2 e2 r2 hd2 => ?_⟩
  subst hd2
  exact hr v w G2 H2 e2.gh (r1.mono e2.g) r2 Q fun u G3 H3 e3 r3 => q u _ G3 H3 ((e1.trans e2).trans e3) r3 rfl
theorem pv_bin {op : Operator} (ha : PV X a env x) (hb : PV X b env y) (h : BinD X op x y z) : PV X (.BinOp a op b pos) env z := by
  obtain ⟨r, ho, hr⟩ := h.ex
  exact PE.weak (pe_op ho ha hb) fun σ H Q q => tOp_of hr q
theorem pv_cmp {op : CmpOp} {k : Bool} (ha : PV X a env x) (hb : PV X b env y) (h : CmpD X op x y k) (hm : behindInMarks op b = false := by rfl) : PV X (.Compare a [op] [b] pos) env (.bl k) := by
  obtain ⟨r, ho, hr⟩ := h.ex
  exact PE.weak (pe_cmpR ho ha hb hm) fun σ H Q q => tOp_of hr q
/-- a value as a test -/
theorem tTest_of {t : TE} {k : Bool} {σ : L2.St} {H : Hp} {Q : Bool → Hp → Prop} (h : ∀ σ H Q, tQ X.K env (fun d => d = .bl k) σ H Q → t σ H Q) (hq : tQb X.K env k σ H Q) : tTest t σ H Q := by
  obtain ⟨G0, H0, G, st, q⟩ := hq
  refine h σ H _ ⟨G0, H0, G, st, fun v d G1 H1 e1 r1 hd => ?_⟩
  subst hd
  cases r1
  exact ⟨k, rfl, q G1 H1 e1⟩
theorem pb_cmp {op : CmpOp} {k : Bool} (ha : PV X a env x) (hb : PV X b env y) (h : CmpD X op x y k) (hm : behindInMarks op b = false := by rfl) : PB X (.Compare a [op] [b] pos) env k := by
  obtain ⟨r, ho, hr⟩ := h.ex
  exact PT.weak (pt_cmpR ho ha hb hm) fun σ H Q q => tTest_of (fun σ H Q q => tOp_of hr q) q
theorem pb_val {k : Bool} (h : PV X e env (.bl k)) (he : ∀ whole, isTrue e X.env whole = (do let v ← whole; standAt e.pos; holding [v] (truthy v)) := by intro _; rfl) : PB X e env k :=
  PT.weak (pt_val h he) fun σ H Q q => tTest_of (fun σ H Q q => q) q
theorem pb_chain {op op' : CmpOp} {k k' : Bool} (ha : PV X a env x) (hb : PV X b env y) (hc : PV X c env z) (h : CmpD X op x y k) (h' : k = true → CmpD X op' y z k') (hx : ∃ k2, CmpD X op' y z k2)
    (hm : lastMarks [op, op'] [b, c] = false := by with_unfolding_all rfl) : PB X (.Compare a [op, op'] [b, c] pos) env (k && k') := by
  obtain ⟨r, ho, hr⟩ := h.ex
  cases k with
  | true =>
    obtain ⟨r', ho', hr'⟩ := (h' rfl).ex
    refine PT.weak (pt_chain ho ho' ha hb hc hm) fun σ H Q ⟨G0, H0, G, st, q⟩ => ?_
    refine ⟨G0, H0, G, st, fun v d G1 H1 e1 r1 hd => ?_⟩
    subst hd
    refine ⟨G0, H0, G1, st.step e1, fun w d2 G2 H2 e2 r2 hd2 => ?_⟩
    subst hd2
    refine hr v w G2 H2 e2.gh (r1.mono e2.g) r2 _ fun u G3 H3 e3 r3 => ?_
    cases r3
    refine ⟨true, rfl, iteT ?_⟩
    refine ⟨G0, H0, G3, ((st.step e1).step e2).step e3, fun u2 d3 G4 H4 e4 r4 hd3 => ?_⟩
    subst hd3
    refine hr' w u2 G4 H4 e4.gh ((r2.mono e3.g).mono e4.g) r4 _ fun u5 G5 H5 e5 r5 => ?_
    cases r5
    exact ⟨k', rfl, q G5 H5 ((((e1.trans e2).trans e3).trans e4).trans e5)⟩
  | false =>
    obtain ⟨k2, h2⟩ := hx
    obtain ⟨r', ho', hr'⟩ := h2.ex
    refine PT.weak (pt_chain ho ho' ha hb hc hm) fun σ H Q ⟨G0, H0, G, st, q⟩ => ?_
    refine ⟨G0, H0, G, st, fun v d G1 H1 e1 r1 hd => ?_⟩
    subst hd
    refine ⟨G0, H0, G1, st.step e1, fun w d2 G2 H2 e2 r2 hd2 => ?_⟩
    subst hd2
    refine hr v w G2 H2 e2.gh (r1.mono e2.g) r2 _ fun u G3 H3 e3 r3 => ?_
    cases r3
    exact ⟨false, rfl, iteF ⟨false, rfl, q G3 H3 ((e1.trans e2).trans e3)⟩⟩

theorem pv_chain {op op' : CmpOp} {k k' : Bool} (ha : PV X a env x) (hb : PV X b env y) (hc : PV X c env z) (h : CmpD X op x y k) (h' : k = true → CmpD X op' y z k') (hx : ∃ k2, CmpD X op' y z k2)
    (hm : lastMarks [op, op'] [b, c] = false := by with_unfolding_all rfl) : PV X (.Compare a [op, op'] [b, c] pos) env (.bl (k && k')) := by
  obtain ⟨r, ho, hr⟩ := h.ex
  cases k with
  | true =>
    obtain ⟨r', ho', hr'⟩ := (h' rfl).ex
    refine PE.weak (pe_chain ho ho' ha hb hc hm) fun σ H Q ⟨G0, H0, G, st, q⟩ => ?_
    refine ⟨G0, H0, G, st, fun v d G1 H1 e1 r1 hd => ?_⟩
    subst hd
    refine ⟨G0, H0, G1, st.step e1, fun w d2 G2 H2 e2 r2 hd2 => ?_⟩
    subst hd2
    refine hr v w G2 H2 e2.gh (r1.mono e2.g) r2 _ fun u G3 H3 e3 r3 => ?_
    cases r3
    refine ⟨true, rfl, iteT ?_⟩
    refine ⟨G0, H0, G3, ((st.step e1).step e2).step e3, fun u2 d3 G4 H4 e4 r4 hd3 => ?_⟩
    subst hd3
    exact hr' w u2 G4 H4 e4.gh ((r2.mono e3.g).mono e4.g) r4 _ fun u5 G5 H5 e5 r5 => q u5 _ G5 H5 ((((e1.trans e2).trans e3).trans e4).trans e5) r5 rfl
  | false =>
    obtain ⟨k2, h2⟩ := hx
    obtain ⟨r', ho', hr'⟩ := h2.ex
    refine PE.weak (pe_chain ho ho' ha hb hc hm) fun σ H Q ⟨G0, H0, G, st, q⟩ => ?_
    refine ⟨G0, H0, G, st, fun v d G1 H1 e1 r1 hd => ?_⟩
    subst hd
    refine ⟨G0, H0, G1, st.step e1, fun w d2 G2 H2 e2 r2 hd2 => ?_⟩
    subst hd2
    refine hr v w G2 H2 e2.gh (r1.mono e2.g) r2 _ fun u G3 H3 e3 r3 => ?_
    cases r3
    exact ⟨false, rfl, iteF (q _ _ G3 H3 ((e1.trans e2).trans e3) (.bl false) rfl)⟩

/-! ### and, or, not -/
theorem pbw_and1 {k : Bool} (h : PB X a env k) : PBw X (.BoolOp .And [a] pos) env k := pw_and1 h
theorem pbw_or1 {k : Bool} (h : PB X a env k) : PBw X (.BoolOp .Or [a] pos) env k := pw_or1 h
theorem pbw_and {rest : List Expr} {k k' : Bool} (h : PB X a env k) (h' : k = true → PBw X (.BoolOp .And (b :: rest) pos) env k') : PBw X (.BoolOp .And (a :: b :: rest) pos) env (k && k') := by
  have hw : PW X (.BoolOp .And (b :: rest) pos) (fun σ H Q => ∃ _ : k = true, tQb X.K env k' σ H Q) := PW.fam h'
  refine PW.weak (pw_and h hw) fun σ H Q ⟨G0, H0, G, st, q⟩ => ⟨G0, H0, G, st, fun G1 H1 e1 => ?_⟩
  cases k with
  | true => exact iteT ⟨rfl, G0, H0, G1, st.step e1, fun G2 H2 e2 => q G2 H2 (e1.trans e2)⟩
  | false => exact iteF (q G1 H1 e1)
theorem pbw_or {rest : List Expr} {k k' : Bool} (h : PB X a env k) (h' : k = false → PBw X (.BoolOp .Or (b :: rest) pos) env k') : PBw X (.BoolOp .Or (a :: b :: rest) pos) env (k || k') := by
  have hw : PW X (.BoolOp .Or (b :: rest) pos) (fun σ H Q => ∃ _ : k = false, tQb X.K env k' σ H Q) := PW.fam h'
  refine PW.weak (pw_or h hw) fun σ H Q ⟨G0, H0, G, st, q⟩ => ⟨G0, H0, G, st, fun G1 H1 e1 => ?_⟩
  cases k with
  | true => exact iteT (q G1 H1 e1)
  | false => exact iteF ⟨rfl, G0, H0, G1, st.step e1, fun G2 H2 e2 => q G2 H2 (e1.trans e2)⟩
theorem PBw.pb {k : Bool} (h : PBw X e env k) : PB X e env k := PW.pt h
/-- the forms one uses: a and b; a or b; a or b or c -/
theorem pb_and {k k' : Bool} (h : PB X a env k) (h' : k = true → PB X b env k') : PB X (.BoolOp .And [a, b] pos) env (k && k') := (pbw_and h fun e => pbw_and1 (h' e)).pb
theorem pb_or {k k' : Bool} (h : PB X a env k) (h' : k = false → PB X b env k') : PB X (.BoolOp .Or [a, b] pos) env (k || k') := (pbw_or h fun e => pbw_or1 (h' e)).pb
theorem pb_or3 {k k' k2 : Bool} (h : PB X a env k) (h' : k = false → PB X b env k') (h2 : k = false → k' = false → PB X c env k2) : PB X (.BoolOp .Or [a, b, c] pos) env (k || (k' || k2)) :=
  (pbw_or h fun e => pbw_or (h' e) fun e2 => pbw_or1 (h2 e e2)).pb
theorem pb_not {k : Bool} (h : PB X a env k) : PB X (.UnaryOp .Not a pos) env (!k) := PT.weak (pt_not h) fun σ H Q ⟨G0, H0, G, st, q⟩ => ⟨G0, H0, G, st, q⟩
/-- as values -/
theorem pv_and {k k' : Bool} (h : PV X a env (.bl k)) (h' : k = true → PV X b env (.bl k')) : PV X (.BoolOp .And [a, b] pos) env (.bl (k && k')) := by
  have hw : PE X b (fun σ H Q => ∃ _ : k = true, tQ X.K env (fun d => d = .bl k') σ H Q) := PE.fam h'
  refine PE.weak (pe_and h (pe_one hw)) fun σ H Q ⟨G0, H0, G, st, q⟩ => ⟨G0, H0, G, st, fun v d G1 H1 e1 r1 hd => ?_⟩
  subst hd
  cases r1
  refine ⟨k, rfl, ?_⟩
  cases k with
  | true => exact iteT ⟨rfl, G0, H0, G1, st.step e1, fun v d G2 H2 e2 r s => q v d G2 H2 (e1.trans e2) r s⟩
  | false => exact iteF (q _ _ G1 H1 e1 (.bl false) rfl)
theorem pv_or {k k' : Bool} (h : PV X a env (.bl k)) (h' : k = false → PV X b env (.bl k')) : PV X (.BoolOp .Or [a, b] pos) env (.bl (k || k')) := by
  have hw : PE X b (fun σ H Q => ∃ _ : k = false, tQ X.K env (fun d => d = .bl k') σ H Q) := PE.fam h'
  refine PE.weak (pe_or h (pe_one hw)) fun σ H Q ⟨G0, H0, G, st, q⟩ => ⟨G0, H0, G, st, fun v d G1 H1 e1 r1 hd => ?_⟩
  subst hd
  cases r1
  refine ⟨k, rfl, ?_⟩
  cases k with
  | true => exact iteT (q _ _ G1 H1 e1 (.bl true) rfl)
  | false => exact iteF ⟨rfl, G0, H0, G1, st.step e1, fun v d G2 H2 e2 r s => q v d G2 H2 (e1.trans e2) r s⟩
theorem pv_not {k : Bool} (h : PV X a env (.bl k)) : PV X (.UnaryOp .Not a pos) env (.bl (!k)) := PE.weak (pe_not h) fun σ H Q ⟨G0, H0, G, st, q⟩ => ⟨G0, H0, G, st, fun v d G1 H1 e1 r1 hd => by
  subst hd
  cases r1
  exact ⟨k, rfl, q _ _ G1 H1 e1 (.bl _) rfl⟩⟩

theorem pv_neg {k : Int} (h : PV X a env (.int k)) : PV X (.UnaryOp .USub a pos) env (.int (-k)) := PE.weak (pe_un un_neg h) fun σ H Q ⟨G0, H0, G, st, q⟩ => ⟨G0, H0, G, st, fun v d G1 H1 e1 r1 hd => by
  subst hd
  cases r1
  exact ⟨k, rfl, q _ _ G1 H1 e1 (.int _) rfl⟩⟩
/-! ### subscripts, slices, attributes -/
theorem pv_ix (ha : PV X a env x) (hb : PV X b env y) (h : IxD X x y z) (hs : PlainIx b := by exact fun _ _ => rfl) : PV X (.Subscript a b pos) env z := by
  obtain ⟨r, ho, hr⟩ := h.ex
  exact PE.weak (pe_ix ho ha hb hs) fun σ H Q q => tOp_of hr q
/-- a part of a slice -/
def POd (X : Cx) (e : Option Expr) (env : List Sl) (k : Option Int) : Prop := PO X e (fun σ H Q => ∃ G0 H0 G, Sta X.K G0 H0 G H σ env ∧ ∀ G' H', Ext G H G' H' → Q k H')
theorem POd.weak {e : Option Expr} {t t' : TO} (h : PO X e t) (w : ∀ σ H Q, t' σ H Q → t σ H Q) : PO X e t' := ⟨fun pins s σ H Q I q => h.run pins s σ H Q I (w σ H Q q)⟩
theorem po_no : POd X none env none := POd.weak po_none fun σ H Q ⟨G0, H0, G, st, q⟩ => q G H (Ext.refl st.ex)
theorem po_yes {k : Int} (h : PV X e env (.int k)) : POd X (some e) env (some k) := POd.weak (po_some h) fun σ H Q ⟨G0, H0, G, st, q⟩ => ⟨G0, H0, G, st, fun v d G1 H1 e1 r1 hd => by
  subst hd
  cases r1
  exact ⟨k, rfl, q G1 H1 e1⟩⟩
theorem pv_slice {lo hi : Option Expr} {l h : Option Int} {p2 : Pos} (ha : PV X a env x) (hl : POd X lo env l) (hh : POd X hi env h) (hs : SlD X x l h z) : PV X (.Subscript a (.Slice lo hi none p2) pos) env z := by
  obtain ⟨r, ho, hr⟩ := hs.ex
  refine PE.weak (pe_slice ho ha hl hh) fun σ H Q ⟨G0, H0, G, st, q⟩ => ?_
  refine ⟨G0, H0, G, st, fun v d G1 H1 e1 r1 hd => ?_⟩
  subst hd
  refine ⟨G0, H0, G1, st.step e1, fun G2 H2 e2 => ?_⟩
  refine ⟨G0, H0, G2, (st.step e1).step e2, fun G3 H3 e3 => ?_⟩
  exact hr v G3 H3 e3.gh ((r1.mono e2.g).mono e3.g) Q fun u G4 H4 e4 r4 => q u _ G4 H4 (((e1.trans e2).trans e3).trans e4) r4 rfl
theorem pv_attr {C : Addr} {fs : List (Str × Dt)} {f : Str} (ho : PV X o env (.obj C fs)) (c : Cls X.K C) (n : NoAttr X.K C f) (hl : fs.lookup f = some d) (hb : attributeBase o f X.env (eval o X.env) = eval o X.env := by rfl) : PV X (.Attribute o f pos) env d :=
  PE.weak (pe_fld ho hb) fun σ H Q ⟨G0, H0, G, st, q⟩ => ⟨G0, H0, G, st, fun v d' G1 H1 e1 r1 hd => by
    subst hd
    cases r1 with
    | obj h r =>
      obtain ⟨u, hu, ru⟩ := r.look hl
      exact ⟨_, C, _, _, u, rfl, e1.gh _ _ h, c, n, hu, q u _ G1 H1 e1 ru rfl⟩⟩
/-- a dict's value by a text -/
theorem pv_dget {kds : List (Str × Dt)} {k : Str} {m : Nat} (hr : Room m X.A) (ho : PV X o env (.dct kds)) (hi : PV X i env (.str k)) (hl : valD kds k = some d) (hs : NoSl i := by exact fun _ _ => rfl) : PV X (.Subscript o i pos) env d :=
  PE.weak (pe_dget (hu_of hr) ho hi hs) fun σ H Q ⟨G0, H0, G, st, q⟩ => ⟨G0, H0, G, st, fun v d' G1 H1 e1 r1 hd => by
    subst hd
    refine ⟨G0, H0, G1, st.step e1, fun w d2 G2 H2 e2 r2 hd2 => ?_⟩
    subst hd2
    cases r2
    cases r1 with
    | dct h r =>
      rcases r.val k with ⟨z1, _⟩ | ⟨u, d3, z1, z2, z3⟩
      · rw [hl] at z1
        cases z1
      · rw [hl] at z1
        cases z1
        refine ⟨_, u, rfl, ?_, q u _ G2 H2 (e1.trans e2) (z3.mono e2.g) rfl⟩
        have g := DGet.k (k := (Sum.inr k : Key)) (e2.h _ _ (e1.gh _ _ h))
        rw [z2] at g
        exact g⟩
theorem valD_isSome {kds : List (Str × Dt)} {k : Str} : (valD kds k).isSome = decide (k ∈ kds.map (·.1)) := by
  unfold valD
  rw [Option.isSome_map, Bool.eq_iff_iff, decide_eq_true_eq, List.find?_isSome]
  simp
theorem dct_look {K : PySem.W.Frag} {G H : Hp} {v : V} {kds : List (Str × Dt)} (e : Ex G H) (r : Rep K G v (.dct kds)) (k : Str) : ∃ a o, v = .ref a ∧ DGet H a (.str k) o ∧ o.isSome = decide (k ∈ kds.map (·.1)) := by
  cases r with
  | dct h r =>
    refine ⟨_, _, rfl, DGet.k (k := (Sum.inr k : Key)) (e _ _ h), ?_⟩
    rw [← valD_isSome]
    rcases r.val k with ⟨z1, z2⟩ | ⟨u, d3, z1, z2, z3⟩
    · rw [z1, z2] <;> rfl
    · rw [z1, z2] <;> rfl
theorem pb_inD {kds : List (Str × Dt)} {k : Str} {m : Nat} (hr : Room m X.A) (hi : PV X i env (.str k)) (ho : PV X o env (.dct kds)) (hm : behindInMarks .In o = false := by rfl) : PB X (.Compare i [.In] [o] pos) env (decide (k ∈ kds.map (·.1))) :=
  PT.weak (pt_cmp (pc_din (hu_of hr) hi ho) hm) fun σ H Q ⟨G0, H0, G, st, q⟩ => ⟨G0, H0, G, st, fun v d' G1 H1 e1 r1 hd => by
    subst hd
    cases r1
    refine ⟨G0, H0, G1, st.step e1, fun w d2 G2 H2 e2 r2 hd2 => ?_⟩
    subst hd2
    obtain ⟨a, o, rfl, g, ho⟩ := dct_look e2.gh r2 k
    refine ⟨a, o, rfl, g, _, rfl, ?_⟩
    rw [ho]
    exact q G2 H2 (e1.trans e2)⟩
theorem pb_niD {kds : List (Str × Dt)} {k : Str} {m : Nat} (hr : Room m X.A) (hi : PV X i env (.str k)) (ho : PV X o env (.dct kds)) (hm : behindInMarks .NotIn o = false := by rfl) : PB X (.Compare i [.NotIn] [o] pos) env (!decide (k ∈ kds.map (·.1))) :=
  PT.weak (pt_cmp (pc_dnotin (hu_of hr) hi ho) hm) fun σ H Q ⟨G0, H0, G, st, q⟩ => ⟨G0, H0, G, st, fun v d' G1 H1 e1 r1 hd => by
    subst hd
    cases r1
    refine ⟨G0, H0, G1, st.step e1, fun w d2 G2 H2 e2 r2 hd2 => ?_⟩
    subst hd2
    obtain ⟨a, o, rfl, g, ho⟩ := dct_look e2.gh r2 k
    refine ⟨a, o, rfl, g, _, rfl, ?_⟩
    rw [ho]
    exact q G2 H2 (e1.trans e2)⟩

/-! ### argument lists, displays -/
theorem pvs_nil : PVs X [] env [] := PA.weak pa_nil fun σ H Q ⟨G0, H0, G, st, q⟩ => q [] G H (Ext.refl st.ex) .nil
theorem pvs_cons {es : List Expr} {ds : List Dt} (h : PV X e env d) (hr : PVs X es env ds) (hs : starEach (e :: es) X.env = (false, eval e X.env) :: starEach es X.env := by rfl) : PVs X (e :: es) env (d :: ds) :=
  PA.weak (pa_cons h hr hs) fun σ H Q ⟨G0, H0, G, st, q⟩ => ⟨G0, H0, G, st, fun v d' G1 H1 e1 r1 hd => by
    subst hd
    exact ⟨G0, H0, G1, st.step e1, fun vs G2 H2 e2 r2 => q (v :: vs) G2 H2 (e1.trans e2) (.cons (r1.mono e2.g) r2)⟩⟩
theorem len_ok {n : Nat} (h : n ≤ 100) : n ≤ sizeLine := Nat.le_trans h (by decide)
theorem pv_tup {es : List Expr} {ds : List Dt} {k : Nat} (h : PVs X es env ds) (hl : ds.length ≤ 100) : PV X (.Tuple es k pos) env (.tup ds) :=
  PE.weak (pe_tup h) fun σ H Q ⟨G0, H0, G, st, q⟩ => ⟨G0, H0, G, st, fun vs G1 H1 e1 r1 => ⟨by rw [r1.len]; exact len_ok hl, fun p hp =>
    q _ _ _ _ (e1.trans (Ext.new e1.gh hp)) (.tup (SqT.of upd_same) (r1.mono (Ext.new (o := .tup vs) e1.gh hp).g)) rfl⟩⟩
theorem pv_lst {es : List Expr} {ds : List Dt} (h : PVs X es env ds) (hl : ds.length ≤ 100) : PV X (.List es pos) env (.lst ds) :=
  PE.weak (pe_lst h) fun σ H Q ⟨G0, H0, G, st, q⟩ => ⟨G0, H0, G, st, fun vs G1 H1 e1 r1 => ⟨by rw [r1.len]; exact len_ok hl, fun p hp =>
    q _ _ _ _ (e1.trans (Ext.new e1.gh hp)) (.lst (SqL.of upd_same) (r1.mono (Ext.new (o := .lst vs) e1.gh hp).g)) rfl⟩⟩
/-- [..] * k: the list is just made -/
theorem pv_rep {es : List Expr} {ds : List Dt} {k : Int} {p2 : Pos} (h : PVs X es env ds) (hk : PV X b env (.int k)) (hl : ds.length ≤ 100) (h1 : -(2 ^ 63) ≤ k) (h2 : k < 2 ^ 63) (h3 : ds.length * k.toNat ≤ sizeLine) :
    PV X (.BinOp (.List es p2) .Mult b pos) env (.lst (List.replicate k.toNat ds).flatten) :=
  PE.weak (pe_op op_rep (pe_lst h) hk) fun σ H Q ⟨G0, H0, G, st, q⟩ => ⟨G0, H0, G, st, fun vs G1 H1 e1 r1 => ⟨by rw [r1.len]; exact len_ok hl, fun p hp => by
    have e2 := e1.trans (Ext.new (o := .lst vs) e1.gh hp)
    refine ⟨G0, H0, _, st.step e2, fun v d G3 H3 e3 r3 hd => ?_⟩
    subst hd
    cases r3
    refine ⟨p, k, vs, rfl, rfl, e3.h _ _ upd_same, h1, h2, by rw [r1.len]; exact h3, fun p2 hp2 => ?_⟩
    have e4 := (e2.trans e3).trans (Ext.new (o := .lst (List.replicate k.toNat vs).flatten) e3.gh hp2)
    have e5 : Ext G1 H1 (upd G3 p2 (.lst (List.replicate k.toNat vs).flatten)) (upd H3 p2 (.lst (List.replicate k.toNat vs).flatten)) := ((Ext.new (o := .lst vs) e1.gh hp).trans e3).trans (Ext.new e3.gh hp2)
    exact q _ _ _ _ e4 (.lst (SqL.of upd_same) ((r1.mono e5.g).rep k.toNat)) rfl⟩⟩

/-! ### calls -/
/-- what a def promises, by data: R: the arguments, what is wanted of the answer -/
def spD (K : PySem.W.Frag) (R : List Dt → (Dt → Prop) → Prop) : Sp := fun vs H Q _ => ∃ G ds S, Ex G H ∧ RepL K G vs ds ∧ R ds S ∧ ∀ v d G' H', Ext G H G' H' → Rep K G' v d → S d → Q v H'
/-- the def x of the module, as it may be called in X -/
structure CalX (X : Cx) (x : Str) (R : List Dt → (Dt → Prop) → Prop) : Prop where
  ex : ∃ k f fd ps, FnOk X.prog X.w X.K X.mg X.base CX0 k f fd ps (spD X.K R) ∧ Room k X.A ∧ X.mg x = some (.ref f) ∧ PySem.W.keepIn X.K (.ref f) = true ∧ Binds X.K fd ps []
  gl : Gl X x
  hd : (x == ("__debug__" : Str)) = false
theorem pq_call {f : Str} {R : List Dt → (Dt → Prop) → Prop} {p : Pos} {es : List Expr} {ds : List Dt} (c : CalX X f R) (ha : PVs X (e :: es) env ds) (hR : R ds S)
    (he : starEach (e :: es) X.env = (false, eval e X.env) :: starEach es X.env := by rfl) (hpl : (backTo pos (starEach es X.env)).any (·.1) = false := by rfl) : PQ X (.Call (.Name f p) (e :: es) [] pos) env S := by
  obtain ⟨k, g, fd, ps, F, hr, hm, hk, hb⟩ := c.ex
  refine PE.weak (pe_call F hr c.gl hm hk hb .nil pass0 ha c.hd he hpl) fun σ H Q ⟨G0, H0, G, st, q⟩ => ⟨G0, H0, G, st, fun vs G1 H1 e1 r1 => ?_⟩
  dsimp only
  rw [List.append_nil]
  exact ⟨G1, ds, S, e1.gh, r1, hR, fun v d G2 H2 e2 r2 s2 => q v d G2 H2 (e1.trans e2) r2 s2⟩
theorem pv_call {f : Str} {R : List Dt → (Dt → Prop) → Prop} {p : Pos} {es : List Expr} {ds : List Dt} (c : CalX X f R) (ha : PVs X (e :: es) env ds) (hR : R ds (fun d' => d' = d))
    (he : starEach (e :: es) X.env = (false, eval e X.env) :: starEach es X.env := by rfl) (hpl : (backTo pos (starEach es X.env)).any (·.1) = false := by rfl) : PV X (.Call (.Name f p) (e :: es) [] pos) env d := pq_call c ha hR he hpl
/-- a method of the class at C -/
structure MetX (X : Cx) (C : Addr) (m : Str) (R : List Dt → (Dt → Prop) → Prop) : Prop where
  ex : ∃ k f fd ps, FnOk X.prog X.w X.K X.mg X.base CX0 k f fd ps (spD X.K R) ∧ Room k X.A ∧ Meth X.K C m f ∧ Binds X.K fd ps []
  cls : Cls X.K C
theorem pq_meth {C : Addr} {m : Str} {fs : List (Str × Dt)} {R : List Dt → (Dt → Prop) → Prop} {apos : Pos} {es : List Expr} {ds : List Dt} {pl : Sem Bool} (c : MetX X C m R) (ho : PV X o env (.obj C fs)) (hl : fs.lookup m = none) (ha : PVs X (e :: es) env ds) (hR : R (.obj C fs :: ds) S)
    (hst : starEach (e :: es) X.env = (false, eval e X.env) :: starEach es X.env := by rfl) (hpl : (backTo pos (starEach es X.env)).any (·.1) = false := by rfl)
    (ht : eval (.Call (.Attribute o m apos) (e :: es) [] pos) X.env = (do
      let ov ← eval o X.env
      standAt apos.atName
      let (f, first) ← holding [ov] (getMethod ov m pl)
      callWith pos f first (backTo pos (starEach (e :: es) X.env)) (backToKw pos (keywordEach [] X.env))) := by rfl) : PQ X (.Call (.Attribute o m apos) (e :: es) [] pos) env S := by
  obtain ⟨k, g, fd, ps, F, hr, hm, hb⟩ := c.ex
  refine PE.weak (pe_meth ho c.cls hm F hr hb .nil pass0 ha hst hpl ht) fun σ H Q ⟨G0, H0, G, st, q⟩ => ⟨G0, H0, G, st, fun v d G1 H1 e1 r1 hd => ?_⟩
  subst hd
  cases r1 with
  | obj h r =>
    refine ⟨_, _, _, rfl, e1.gh _ _ h, r.none hl, G0, H0, G1, st.step e1, fun vs G2 H2 e2 r2 => ?_⟩
    dsimp only
    rw [List.append_nil]
    exact ⟨G2, _, S, e2.gh, .cons (.obj (e2.g _ _ h) (r.mono e2.g)) r2, hR, fun v d G3 H3 e3 r3 s3 => q v d G3 H3 ((e1.trans e2).trans e3) r3 s3⟩
theorem pq_meth0 {C : Addr} {m : Str} {fs : List (Str × Dt)} {R : List Dt → (Dt → Prop) → Prop} {apos : Pos} {pl : Sem Bool} (c : MetX X C m R) (ho : PV X o env (.obj C fs)) (hl : fs.lookup m = none) (hR : R [.obj C fs] S)
    (ht : eval (.Call (.Attribute o m apos) [] [] pos) X.env = (do
      let ov ← eval o X.env
      standAt apos.atName
      let (f, first) ← holding [ov] (getMethod ov m pl)
      callWith pos f first (backTo pos (starEach [] X.env)) (backToKw pos (keywordEach [] X.env))) := by rfl) : PQ X (.Call (.Attribute o m apos) [] [] pos) env S := by
  obtain ⟨k, g, fd, ps, F, hr, hm, hb⟩ := c.ex
  refine PE.weak (pe_meth0 ho c.cls hm F hr hb .nil pass0 ht) fun σ H Q ⟨G0, H0, G, st, q⟩ => ⟨G0, H0, G, st, fun v d G1 H1 e1 r1 hd => ?_⟩
  subst hd
  cases r1 with
  | obj h r =>
    refine ⟨_, _, _, rfl, e1.gh _ _ h, r.none hl, ?_⟩
    exact ⟨G1, _, S, e1.gh, .cons (.obj h r) .nil, hR, fun v d G3 H3 e3 r3 s3 => q v d G3 H3 (e1.trans e3) r3 s3⟩
theorem pv_meth {C : Addr} {m : Str} {fs : List (Str × Dt)} {R : List Dt → (Dt → Prop) → Prop} {apos : Pos} {es : List Expr} {ds : List Dt} {pl : Sem Bool} (c : MetX X C m R) (ho : PV X o env (.obj C fs)) (hl : fs.lookup m = none) (ha : PVs X (e :: es) env ds) (hR : R (.obj C fs :: ds) (fun d' => d' = d))
    (hst : starEach (e :: es) X.env = (false, eval e X.env) :: starEach es X.env := by rfl) (hpl : (backTo pos (starEach es X.env)).any (·.1) = false := by rfl)
    (ht : eval (.Call (.Attribute o m apos) (e :: es) [] pos) X.env = (do
      let ov ← eval o X.env
      standAt apos.atName
      let (f, first) ← holding [ov] (getMethod ov m pl)
      callWith pos f first (backTo pos (starEach (e :: es) X.env)) (backToKw pos (keywordEach [] X.env))) := by rfl) : PV X (.Call (.Attribute o m apos) (e :: es) [] pos) env d := pq_meth c ho hl ha hR hst hpl ht
/-- a method whose object is known at the entry alone: the other arguments are frozen, so is the answer -/
def spM (K : PySem.W.Frag) (R : List Dt → (Dt → Prop) → Prop) : Sp := fun vs H Q _ => ∃ G v0 vs' d0 ds S, vs = v0 :: vs' ∧ Ex G H ∧ Rep K H v0 d0 ∧ RepL K G vs' ds ∧ R (d0 :: ds) S ∧ ∀ v d G' H', Ext G H G' H' → Rep K G' v d → S d → Q v H'
structure MetM (X : Cx) (C : Addr) (m : Str) (R : List Dt → (Dt → Prop) → Prop) : Prop where
  ex : ∃ k f fd ps, FnOk X.prog X.w X.K X.mg X.base CX0 k f fd ps (spM X.K R) ∧ Room k X.A ∧ Meth X.K C m f ∧ Binds X.K fd ps []
  cls : Cls X.K C
theorem pq_methM {C : Addr} {m x : Str} {i : Nat} {px : Pos} {fs : List (Str × Dt)} {R : List Dt → (Dt → Prop) → Prop} {apos : Pos} {es : List Expr} {ds : List Dt} {pl : Sem Bool} (c : MetM X C m R) (n : Nm X x i) (ho : env[i]? = some (.hf (.obj C fs))) (hl : fs.lookup m = none) (ha : PVs X (e :: es) env ds) (hR : R (.obj C fs :: ds) S)
    (hst : starEach (e :: es) X.env = (false, eval e X.env) :: starEach es X.env := by rfl) (hpl : (backTo pos (starEach es X.env)).any (·.1) = false := by rfl)
    (ht : eval (.Call (.Attribute (.Name x px) m apos) (e :: es) [] pos) X.env = (do
      let ov ← eval (.Name x px) X.env
      standAt apos.atName
      let (f, first) ← holding [ov] (getMethod ov m pl)
      callWith pos f first (backTo pos (starEach (e :: es) X.env)) (backToKw pos (keywordEach [] X.env))) := by rfl) : PQ X (.Call (.Attribute (.Name x px) m apos) (e :: es) [] pos) env S := by
  obtain ⟨k, g, fd, ps, F, hr, hm, hb⟩ := c.ex
  refine PE.weak (pe_meth (pe_var n.at_ n.vis n.hd n.hcd) c.cls hm F hr hb .nil pass0 ha hst hpl ht) fun σ H Q ⟨G0, H0, G, st, q⟩ => ?_
  obtain ⟨v0, hσ, r0⟩ := st.sl i _ ho
  refine ⟨v0, hσ, ?_⟩
  cases r0 with
  | obj h r =>
    refine ⟨_, _, _, rfl, st.ext.h _ _ h, r.none hl, G0, H0, G, st, fun vs G2 H2 e2 r2 => ?_⟩
    dsimp only
    rw [List.append_nil]
    exact ⟨G2, _, vs, _, ds, S, rfl, e2.gh, (Rep.obj h r).mono (st.ext.h.trans e2.h), r2, hR, fun v d G3 H3 e3 r3 s3 => q v d G3 H3 (e2.trans e3) r3 s3⟩
theorem pq_methM0 {C : Addr} {m x : Str} {i : Nat} {px : Pos} {fs : List (Str × Dt)} {R : List Dt → (Dt → Prop) → Prop} {apos : Pos} {pl : Sem Bool} (c : MetM X C m R) (n : Nm X x i) (ho : env[i]? = some (.hf (.obj C fs))) (hl : fs.lookup m = none) (hR : R [.obj C fs] S)
    (ht : eval (.Call (.Attribute (.Name x px) m apos) [] [] pos) X.env = (do
      let ov ← eval (.Name x px) X.env
      standAt apos.atName
      let (f, first) ← holding [ov] (getMethod ov m pl)
      callWith pos f first (backTo pos (starEach [] X.env)) (backToKw pos (keywordEach [] X.env))) := by rfl) : PQ X (.Call (.Attribute (.Name x px) m apos) [] [] pos) env S := by
  obtain ⟨k, g, fd, ps, F, hr, hm, hb⟩ := c.ex
  refine PE.weak (pe_meth0 (pe_var n.at_ n.vis n.hd n.hcd) c.cls hm F hr hb .nil pass0 ht) fun σ H Q ⟨G0, H0, G, st, q⟩ => ?_
  obtain ⟨v0, hσ, r0⟩ := st.sl i _ ho
  refine ⟨v0, hσ, ?_⟩
  cases r0 with
  | obj h r =>
    refine ⟨_, _, _, rfl, st.ext.h _ _ h, r.none hl, ?_⟩
    exact ⟨G, _, [], _, [], S, rfl, st.ex, (Rep.obj h r).mono st.ext.h, .nil, hR, fun v d G3 H3 e3 r3 s3 => q v d G3 H3 e3 r3 s3⟩
theorem pv_callB {f : Str} {id : String} {p : Pos} {es : List Expr} {ds : List Dt} (c : BN X f (.builtin id)) (ha : PVs X (e :: es) env ds) (h : CallD X id ds d)
    (he : starEach (e :: es) X.env = (false, eval e X.env) :: starEach es X.env := by rfl) (hpl : (backTo pos (starEach es X.env)).any (·.1) = false := by rfl) : PV X (.Call (.Name f p) (e :: es) [] pos) env d := by
  obtain ⟨r, hc, hr⟩ := h.ex
  exact PE.weak (pe_callB hc c.gl c.hm c.hv ha c.hn c.hd he hpl) fun σ H Q ⟨G0, H0, G, st, q⟩ => ⟨G0, H0, G, st, fun vs G1 H1 e1 r1 => hr vs G1 H1 e1.gh r1 Q fun u G2 H2 e2 r2 => q u _ G2 H2 (e1.trans e2) r2 rfl⟩
/-- sep.join(list of texts) -/
theorem pv_join {apos : Pos} {y : Str} {ss : List Str} (ho : PV X o env (.str y)) (he : PV X e env (.lst (ss.map .str))) (hz : (ss.map (·.length)).sum + ss.length * y.length ≤ 16777216)
    (hs : starEach [e] X.env = [(false, eval e X.env)] := by rfl) (hbase : attributeBase o "join" X.env (eval o X.env) = eval o X.env := by rfl) (hline : (apos.endLine == pos.line) = true := by rfl) : PV X (.Call (.Attribute o "join" apos) [e] [] pos) env (.str (Txt.join y ss)) :=
  PE.weak (pe_join ho he hs hbase hline) fun σ H Q ⟨G0, H0, G, st, q⟩ => ⟨G0, H0, G, st, fun v d G1 H1 e1 r1 hd => by
    subst hd
    cases r1
    refine ⟨⟨y, rfl⟩, G0, H0, G1, st.step e1, fun w d2 G2 H2 e2 r2 hd2 => ?_⟩
    subst hd2
    cases r2 with
    | lst h2 q2 =>
      cases repL_strs q2
      exact ⟨y, _, ss, rfl, rfl, .inl (Evl.ex_l e2.gh h2), hz, q _ _ G2 H2 (e1.trans e2) (.str _) rfl⟩⟩
end
end Fc

/-! Fc: what is walked, comprehensions, statements, a def by its body. -/
namespace Fc
open PySem PySem.Spec PyProof.Rows L2

/-! ### what is walked -/
structure WalkD (K : PySem.W.Frag) (G : Hp) (J : It) (ds : List Dt) : Prop where
  goes : ∀ (i : Nat) H, i < ds.length → Ex G H → J.go i H
  stops : ∀ H, Ex G H → J.stop ds.length H
  yields : ∀ (i : Nat) d H x H' G1, ds[i]? = some d → Ex G G1 → Ex G1 H → J.yld i H x H' → ∃ G2, Ext G1 H G2 H' ∧ Rep K G2 x d
def tQi (K : PySem.W.Frag) (env : List Sl) (ds : List Dt) : TI := fun σ H R => ∃ G0 H0 G, Sta K G0 H0 G H σ env ∧ ∀ J G' H', Ext G H G' H' → WalkD K G' J ds → R J H'
def PId (X : Cx) (tg e : Expr) (env : List Sl) (ds : List Dt) : Prop := PI X tg e (tQi X.K env ds)
section
variable {X : Cx} {tg e : Expr} {env : List Sl} {pos p : Pos}
theorem walkD_list {K : PySem.W.Frag} {G : Hp} {a : Addr} {vs : List V} {ds : List Dt} (h : SqL K G a vs) (r : RepL K G vs ds) : WalkD K G (Itl K a) ds where
  goes := fun i H hi e => ⟨vs, vs[i]'(by rw [r.len]; exact hi), Evl.ex_l e h, by simp [r.len, hi]⟩
  stops := fun H e => ⟨vs, Evl.ex_l e h, by rw [r.len]; exact Nat.le_refl _⟩
  yields := fun i d H x H' G1 hd e1 e2 y => by
    obtain ⟨rfl, hy⟩ := y
    have h2 := hy vs (Evl.ex_l (e1.trans e2) h)
    obtain ⟨v, hv, rv⟩ := r.get hd
    rw [h2] at hv
    cases hv
    exact ⟨G1, Ext.refl e2, rv.mono e1⟩
theorem pid_list {ds : List Dt} (h : PV X e env (.lst ds)) : PId X tg e env ds := PI.weak (pi_list h) fun σ H R ⟨G0, H0, G, st, q⟩ => ⟨G0, H0, G, st, fun v d G1 H1 e1 r1 hd => by
  subst hd
  cases r1 with
  | lst h1 q1 => exact ⟨_, rfl, ⟨_, Evl.ex_l e1.gh h1⟩, q _ G1 H1 e1 (walkD_list h1 q1)⟩⟩
theorem walkD_range {K : PySem.W.Frag} {G : Hp} {n : Nat} : WalkD K G (Itr 0 n) ((List.range n).map fun i => .int (i : Nat)) where
  goes := fun i H hi e => by
    rw [List.length_map, List.length_range] at hi
    exact hi
  stops := fun H e => by
    rw [List.length_map, List.length_range]
    exact Nat.le_refl n
  yields := fun i d H x H' G1 hd e1 e2 y => by
    obtain ⟨rfl, rfl⟩ := y
    rw [List.getElem?_map] at hd
    by_cases hi : i < n
    · rw [List.getElem?_range hi] at hd
      cases hd
      refine ⟨G1, Ext.refl e2, ?_⟩
      rw [Int.zero_add]
      exact .int _
    · rw [List.getElem?_eq_none (by simp; omega)] at hd
      cases hd
theorem pid_range {k : Int} (c : BN X "range" (.type "range")) (h : PV X e env (.int k)) (h1 : -(2 ^ 62) ≤ k) (h2 : k < 2 ^ 62) (hs : starEach [e] X.env = [(false, eval e X.env)] := by rfl) : PId X tg (.Call (.Name "range" p) [e] [] pos) env ((List.range k.toNat).map fun i => .int (i : Nat)) :=
  PI.weak (pi_range1 c.gl c.hm (pvs_cons h pvs_nil hs) hs) fun σ H R ⟨G0, H0, G, st, q⟩ => ⟨G0, H0, G, st, fun vs G1 H1 e1 r1 => by
    cases r1 with
    | cons r rr =>
      cases rr
      cases r
      exact ⟨k, rfl, h1, h2, q _ G1 H1 e1 walkD_range⟩⟩
/-- (0, d0), (1, d1), .. -/
def enumD (ds : List Dt) : List Dt := ds.zipIdx.map fun x => .tup [.int (x.2 : Nat), x.1]
theorem enumD_at (ds : List Dt) (i : Nat) : (enumD ds)[i]? = ds[i]?.map fun d => .tup [.int (i : Nat), d] := by
  unfold enumD
  rw [List.getElem?_map, List.getElem?_zipIdx, Option.map_map]
  simp only [Function.comp_def, Nat.zero_add]
theorem enumD_len (ds : List Dt) : (enumD ds).length = ds.length := by simp [enumD]
theorem walkD_enum {K : PySem.W.Frag} {G : Hp} {a : Addr} {vs : List V} {ds : List Dt} (h : SqL K G a vs) (r : RepL K G vs ds) : WalkD K G (Ite K a) (enumD ds) where
  goes := fun i H hi e => by
    rw [enumD_len] at hi
    exact ⟨vs, vs[i]'(by rw [r.len]; exact hi), Evl.ex_l e h, by simp [r.len, hi]⟩
  stops := fun H e => ⟨vs, Evl.ex_l e h, by rw [r.len, enumD_len]; exact Nat.le_refl _⟩
  yields := fun i d H x H' G1 hd e1 e2 y => by
    obtain ⟨T, y, rfl, hT, rfl, hy⟩ := y
    have h2 := hy vs (Evl.ex_l (e1.trans e2) h)
    rw [enumD_at] at hd
    cases q : ds[i]? with
    | none => rw [q] at hd; cases hd
    | some d0 =>
      rw [q] at hd
      cases hd
      obtain ⟨v, hv, rv⟩ := r.get q
      rw [h2] at hv
      cases hv
      have e3 := Ext.new (o := .tup [.int (i : Nat), y]) e2 hT
      exact ⟨_, e3, .tup (SqT.of upd_same) (.cons (.int _) (.cons ((rv.mono e1).mono e3.g) .nil))⟩
theorem pid_enum {elts : List Expr} {kk : Nat} {tpos : Pos} {ds : List Dt} (c : BN X "enumerate" (.type "enumerate")) (h : PV X e env (.lst ds)) (hs : starEach [e] X.env = [(false, eval e X.env)] := by rfl) : PId X (.Tuple elts kk tpos) (.Call (.Name "enumerate" p) [e] [] pos) env (enumD ds) :=
  PI.weak (pi_enum c.gl c.hm (pvs_cons h pvs_nil hs) hs) fun σ H R ⟨G0, H0, G, st, q⟩ => ⟨G0, H0, G, st, fun vs G1 H1 e1 r1 => by
    cases r1 with
    | cons r rr =>
      cases rr
      cases r with
      | lst h1 q1 => exact ⟨_, _, rfl, Evl.ex_l e1.gh h1, q _ G1 H1 e1 (walkD_enum h1 q1)⟩⟩
theorem pid_str {w : Str} (h : PV X e env (.str w)) : PId X tg e env (w.cps.toList.map fun c => .str ⟨#[c]⟩) := PI.weak (pi_str h) fun σ H R ⟨G0, H0, G, st, q⟩ => ⟨G0, H0, G, st, fun v d G1 H1 e1 r1 hd => by
  subst hd
  cases r1
  refine ⟨w, rfl, q _ G1 H1 e1 ⟨fun i H hi e => by simpa [Its] using hi, fun H e => by simp [Its], fun i d H x H' G2 hd e1 e2 y => ?_⟩⟩
  obtain ⟨rfl, c, hc, rfl⟩ := y
  rw [List.getElem?_map, Array.getElem?_toList, hc] at hd
  cases hd
  exact ⟨G2, Ext.refl e2, .str _⟩⟩
end

/-! ### statements -/
structure De where
  nx : List Sl → Prop
  rt : Dt → Prop
  bk : List Sl → Prop := fun _ => False
  ct : List Sl → Prop := fun _ => False
  /-- a return, with the slots as they are then -/
  re : List Sl → Dt → Prop := fun _ _ => False
structure Gd (K : PySem.W.Frag) (G0 H0 G : Hp) (R : De) (D : Ends) : Prop where
  nx : ∀ σ G' H' env, Sta K G0 H0 G' H' σ env → Ex G G' → R.nx env → D.nx σ H'
  rt : ∀ v d G' H', Ext G0 H0 G' H' → Rep K G' v d → R.rt d → D.rt v H'
  bk : ∀ σ G' H' env, Sta K G0 H0 G' H' σ env → Ex G G' → R.bk env → D.bk σ H'
  ct : ∀ σ G' H' env, Sta K G0 H0 G' H' σ env → Ex G G' → R.ct env → D.ct σ H'
  re : ∀ σ v d G' H' env, Sta K G0 H0 G' H' σ env → Ex G G' → Rep K G' v d → R.re env d → D.rt v H'
def tQS (K : PySem.W.Frag) (env : List Sl) (R : De) : TS := fun D σ H => ∃ G0 H0 G, Sta K G0 H0 G H σ env ∧ Gd K G0 H0 G R D
def SD1 (X : Cx) (st : Stmt) (env : List Sl) (R : De) : Prop := PS X st (tQS X.K env R)
def SD (X : Cx) (sts : List Stmt) (env : List Sl) (R : De) : Prop := PSs X sts (tQS X.K env R)
section
variable {X : Cx} {st : Stmt} {rest : List Stmt} {env : List Sl} {R : De}
theorem Gd.from {K : PySem.W.Frag} {G0 H0 G G2 : Hp} {R : De} {D : Ends} (g : Gd K G0 H0 G R D) (e : Ex G G2) : Gd K G0 H0 G2 R D :=
  ⟨fun σ G' H' env s x => g.nx σ G' H' env s (e.trans x), g.rt, fun σ G' H' env s x => g.bk σ G' H' env s (e.trans x), fun σ G' H' env s x => g.ct σ G' H' env s (e.trans x), fun σ v d G' H' env s x => g.re σ v d G' H' env s (e.trans x)⟩
theorem sd_nil (h : R.nx env) : SD X [] env R := PSs.weak pss_nil fun D σ H ⟨G0, H0, G, st, gd⟩ => gd.nx σ G H env st (Evl.Ex.refl _) h
theorem sd_cons (h : SD1 X st env { R with nx := fun env' => SD X rest env' R }) : SD X (st :: rest) env R := by
  have h2 : PSs X rest (fun D σ H => ∃ i : { env' : List Sl // SD X rest env' R }, tQS X.K i.1 R D σ H) := PSs.fam fun i => i.2
  refine PSs.weak (pss_cons h h2) fun D σ H ⟨G0, H0, G, st, gd⟩ => ⟨G0, H0, G, st, ?_⟩
  exact ⟨fun σ' G' H' env' s x k => ⟨⟨env', k⟩, G0, H0, G', s, gd.from x⟩, gd.rt, gd.bk, gd.ct, gd.re⟩
theorem SD1.imp {R' : De} (h : SD1 X st env R) (hn : ∀ e, R.nx e → R'.nx e) (hr : ∀ d, R.rt d → R'.rt d) (hb : ∀ e, R.bk e → R'.bk e) (hc : ∀ e, R.ct e → R'.ct e) (he : ∀ e d, R.re e d → R'.re e d) : SD1 X st env R' :=
  PS.weak h fun D σ H ⟨G0, H0, G, s, gd⟩ => ⟨G0, H0, G, s, fun σ G' H' env s x k => gd.nx σ G' H' env s x (hn _ k), fun v d G' H' e r k => gd.rt v d G' H' e r (hr _ k), fun σ G' H' env s x k => gd.bk σ G' H' env s x (hb _ k), fun σ G' H' env s x k => gd.ct σ G' H' env s x (hc _ k), fun σ v d G' H' env s x r k => gd.re σ v d G' H' env s x r (he _ _ k)⟩
/-- less is known at the start -/
theorem SD.forget {sts : List Stmt} {env' : List Sl} (h : SD X sts env' R) (hl : env'.length = env.length) (hw : ∀ (i : Nat) x, env'[i]? = some x → env[i]? = some x ∨ x = .un) : SD X sts env R :=
  PSs.weak h fun D σ H ⟨G0, H0, G, s, gd⟩ => ⟨G0, H0, G, s.forget hl hw, gd⟩
variable {e c : Expr} {S : Dt → Prop} {x y : Str} {i j : Nat} {pos px py : Pos}
theorem s1_asg (h : PQ X e env S) (l : Lo X x i) (k : ∀ d, S d → R.nx (env.set i (.fz d))) (hs : swapsWith e (some (.Name x px)) pos.line X.env = pure false := by rfl) : SD1 X (.Assign [.Name x px] e pos) env R :=
  PS.weak (ps_set l.nd l.at_ l.loc h hs l.fn) fun D σ H ⟨G0, H0, G, s, gd⟩ => ⟨G0, H0, G, s, fun v d G1 H1 e1 r1 s1 => gd.nx _ G1 H1 _ ((s.step e1).set r1) e1.g (k d s1)⟩
theorem s1_expr (h : PQ X e env S) (k : ∀ d, S d → R.nx env) (hs : swapsWith e none pos.line X.env = pure false := by rfl) : SD1 X (.Expr e pos) env R :=
  PS.weak (ps_expr h hs) fun D σ H ⟨G0, H0, G, s, gd⟩ => ⟨G0, H0, G, s, fun v d G1 H1 e1 r1 s1 => gd.nx _ G1 H1 _ (s.step e1) e1.g (k d s1)⟩
theorem s1_ret (h : PQ X e env S) (k : ∀ d, S d → R.rt d) : SD1 X (.Return (some e) pos) env R :=
  PS.weak (ps_ret h) fun D σ H ⟨G0, H0, G, s, gd⟩ => ⟨G0, H0, G, s, fun v d G1 H1 e1 r1 s1 => gd.rt v d G1 H1 (s.ext.trans e1) r1 (k d s1)⟩
theorem s1_if {a b : List Stmt} {k : Bool} (h : PB X c env k) (h1 : k = true → SD X a env R) (h2 : k = false → SD X b env R) : SD1 X (.If c a b pos) env R := by
  have p1 : PSs X a (fun D σ H => ∃ _ : k = true, tQS X.K env R D σ H) := PSs.fam h1
  have p2 : PSs X b (fun D σ H => ∃ _ : k = false, tQS X.K env R D σ H) := PSs.fam h2
  refine PS.weak (ps_if h p1 p2) fun D σ H ⟨G0, H0, G, s, gd⟩ => ⟨G0, H0, G, s, fun G1 H1 e1 => ?_⟩
  cases k with
  | true => exact iteT ⟨rfl, G0, H0, G1, s.step e1, gd.from e1.g⟩
  | false => exact iteF ⟨rfl, G0, H0, G1, s.step e1, gd.from e1.g⟩
/-- return, the slots told -/
theorem s1_retE (h : PQ X e env S) (k : ∀ d, S d → R.re env d) : SD1 X (.Return (some e) pos) env R :=
  PS.weak (ps_ret h) fun D σ H ⟨G0, H0, G, s, gd⟩ => ⟨G0, H0, G, s, fun v d G1 H1 e1 r1 s1 => gd.re σ v d G1 H1 env (s.step e1) e1.g r1 (k d s1)⟩
/-- .. whose answer is no, without else -/
theorem s1_ifF {a : List Stmt} (h : PB X c env false) (k : R.nx env) : SD1 X (.If c a [] pos) env R := s1_if h (fun e => by cases e) fun _ => sd_nil k
/-- a, b = e1, e2 -/
theorem s1_par {a b : Expr} {d1 d2 : Dt} {kt k2 : Nat} {pt pt2 : Pos} (hc : X.calm = true) (l1 : Lo X x i) (l2 : Lo X y j) (hij : i ≠ j) (hx : X.env.scope.names.lookup x = some .local) (hy : X.env.scope.names.lookup y = some .local) (ha : PVs X [a, b] env [d1, d2])
    (k : R.nx ((env.set i (.fz d1)).set j (.fz d2)))
    (hw : swappedStores [.Tuple [.Name x px, .Name y py] kt pt] (.Tuple [a, b] k2 pt2) X.env = pure (some [x, y]))
    (hs : swapsWithSole [.Tuple [.Name x px, .Name y py] kt pt] (.Tuple [a, b] k2 pt2) pos.line X.env = pure false := by rfl) : SD1 X (.Assign [.Tuple [.Name x px, .Name y py] kt pt] (.Tuple [a, b] k2 pt2) pos) env R :=
  PS.weak (ps_par hc l1.nd l1.at_ l2.at_ hij hx hy ha hw hs) fun D σ H ⟨G0, H0, G, s, gd⟩ => ⟨G0, H0, G, s, fun vs G1 H1 e1 r1 => by
    cases r1 with
    | cons r1 rr =>
      cases rr with
      | cons r2 rr =>
        cases rr
        exact ⟨_, _, rfl, gd.nx _ G1 H1 _ (((s.step e1).set r1).set r2) e1.g k⟩⟩

/-! ### targets of several names -/
def setAll : List Sl → List Nat → List Dt → List Sl
  | env, i :: is, d :: ds => setAll (env.set i (.fz d)) is ds
  | env, _, _ => env
inductive Los (X : Cx) : List Expr → List Nat → Prop
  | nil : Los X [] []
  | cons {x : Str} {i : Nat} {px : Pos} {es : List Expr} {is : List Nat} : Lo X x i → Los X es is → Los X (.Name x px :: es) (i :: is)
def gNames : List Nat → TGs
  | [] => gNil
  | i :: is => gCons (gName i) (gNames is)
theorem pgs_names : ∀ {es : List Expr} {is : List Nat}, Los X es is → PGs X es (gNames is)
  | _, _, .nil => pgs_nil
  | _, _, .cons l r => pgs_cons (pg_name l.nd l.at_ l.loc l.fn) (pgs_names r) rfl
theorem Los.each : ∀ {es : List Expr} {is : List Nat}, Los X es is → (assignEach es X.env).length = is.length ∧ (assignEach es X.env).findIdx? (·.1) = none
  | _, _, .nil => ⟨rfl, rfl⟩
  | _, _, .cons (x := x) (px := px) (es := es) l r => by
    obtain ⟨h1, h2⟩ := r.each
    refine ⟨congrArg (· + 1) h1, ?_⟩
    have e : assignEach (.Name x px :: es) X.env = (false, assign (.Name x px) X.env) :: assignEach es X.env := rfl
    rw [e, List.findIdx?_cons, h2]
    all_goals rfl
theorem gNames_of {K : PySem.W.Frag} {G0 H0 G H : Hp} : ∀ {is : List Nat} {vs : List V} {ds : List Dt} {σ : L2.St} {env : List Sl} {Q : L2.St → Hp → Prop}, is.length = ds.length → RepL K G vs ds → Sta K G0 H0 G H σ env → (∀ σ', Sta K G0 H0 G H σ' (setAll env is ds) → Q σ' H) → gNames is vs σ H Q
  | [], _, _, _, _, _, h, .nil, s, k => ⟨rfl, k _ s⟩
  | i :: is, _, _, σ, env, Q, h, .cons r rr, s, k => ⟨_, _, rfl, gNames_of (is := is) (by simpa using h) rr (s.set r) k⟩
  | _ :: _, _, _, _, _, _, h, .nil, _, _ => by cases h
  | [], _, _, _, _, _, h, .cons _ _, _, _ => by cases h
theorem pg_names {es : List Expr} {is : List Nat} {k : Nat} {tpos : Pos} (hc : X.calm = true) (l : Los X es is) : PG X (.Tuple es k tpos) (gTup X.K is.length (gNames is)) := pg_tup hc (pgs_names l) l.each.1 l.each.2
theorem gTup_of {K : PySem.W.Frag} {G0 H0 G H : Hp} {is : List Nat} {v : V} {ds : List Dt} {σ : L2.St} {env : List Sl} {Q : L2.St → Hp → Prop} (hl : is.length = ds.length) (r : Rep K G v (.tup ds)) (s : Sta K G0 H0 G H σ env) (k : ∀ σ', Sta K G0 H0 G H σ' (setAll env is ds) → Q σ' H) : gTup K is.length (gNames is) v σ H Q := by
  cases r with
  | tup h r => exact ⟨_, _, rfl, Evl.ex_t s.ex h, by rw [r.len, hl], gNames_of hl r s k⟩
/-- a, b, .. = e -/
theorem s1_unp {es : List Expr} {is : List Nat} {kt : Nat} {tpos : Pos} (hc : X.calm = true) (l : Los X es is) (h : PQ X e env S) (k : ∀ d, S d → ∃ ds, d = .tup ds ∧ is.length = ds.length ∧ R.nx (setAll env is ds))
    (hs : swapsWithSole [.Tuple es kt tpos] e pos.line X.env = pure false := by rfl) (hw : swappedStores [.Tuple es kt tpos] e X.env = pure none := by rfl)
    (h1 : (assignEach [.Tuple es kt tpos] X.env).map (·.2) = [assign (.Tuple es kt tpos) X.env] := by rfl) : SD1 X (.Assign [.Tuple es kt tpos] e pos) env R :=
  PS.weak (ps_asg h (pg_names hc l) hs hw h1) fun D σ H ⟨G0, H0, G, s, gd⟩ => ⟨G0, H0, G, s, fun v d G1 H1 e1 r1 s1 => by
    obtain ⟨ds, rfl, hl, k⟩ := k d s1
    exact gTup_of hl r1 (s.step e1) fun σ' s' => gd.nx _ G1 H1 _ s' e1.g k⟩

/-! ### loops -/
theorem for_core {tg : Expr} {iter : Expr} {body : List Stmt} {ds : List Dt} {g : TG} (po : PassesOwn (model X.prog X.w) X.A X.env X.xe) (hc : X.calm = true) (hi : PId X tg iter env ds) (hg : PG X tg g) (up : List Sl → Dt → List Sl)
    (Inv : Nat → List Sl → Prop) (h0 : Inv 0 env)
    (hup : ∀ (n : Nat) d env', ds[n]? = some d → Inv n env' → ∀ G0 H0 G H σ v Q, Sta X.K G0 H0 G H σ env' → Rep X.K G v d → (∀ σ', Sta X.K G0 H0 G H σ' (up env' d) → Q σ' H) → g v σ H Q)
    (hs : ∀ (n : Nat) d env', ds[n]? = some d → Inv n env' → SD X body (up env' d) { R with nx := Inv (n + 1), ct := Inv (n + 1), bk := R.nx }) (hd : ∀ env', Inv ds.length env' → R.nx env')
    (hf : ∀ x, foldedSetIterable iter X.env x = pure x := by intro _; rfl) : SD1 X (.For tg iter body [] pos) env R := by
  have hb : PSs X body (fun D σ H => ∃ i : { p : Nat × Dt × List Sl // ds[p.1]? = some p.2.1 ∧ Inv p.1 p.2.2 }, tQS X.K (up i.1.2.2 i.1.2.1) { R with nx := Inv (i.1.1 + 1), ct := Inv (i.1.1 + 1), bk := R.nx } D σ H) :=
    PSs.fam fun i => hs i.1.1 i.1.2.1 i.1.2.2 i.2.1 i.2.2
  refine PS.weak (ps_for po hc hi hg hb hf) fun D σ H ⟨G0, H0, G, s, gd⟩ => ⟨G0, H0, G, s, fun J G1 H1 e1 wk => ?_⟩
  refine ⟨fun n m σ H => m = ds.length - n ∧ n ≤ ds.length ∧ ∃ env' G2, Sta X.K G0 H0 G2 H σ env' ∧ Ex G1 G2 ∧ Inv n env', ⟨ds.length, by simp, Nat.zero_le _, env, G1, s.step e1, Evl.Ex.refl _, h0⟩, ?_⟩
  rintro n m σ2 H2 ⟨rfl, hn, env2, G2, s2, x2, i2⟩
  by_cases hlt : n < ds.length
  · refine .inr ⟨wk.goes n H2 hlt (x2.trans s2.ex), fun σ H => ∃ env' G3, Sta X.K G0 H0 G3 H σ env' ∧ Ex G1 G3 ∧ Inv (n + 1) env', fun σ' H' w => ⟨ds.length - (n + 1), by omega, rfl, hlt, w⟩, fun x H3 y => ?_⟩
    obtain ⟨d, hd⟩ : ∃ d, ds[n]? = some d := ⟨ds[n], by simp [hlt]⟩
    obtain ⟨G3, e3, r3⟩ := wk.yields n d H2 x H3 G2 hd x2 s2.ex y
    refine hup n d env2 hd i2 G0 H0 G3 H3 σ2 x _ (s2.step e3) r3 fun σ4 s4 => ⟨⟨(n, d, env2), hd, i2⟩, G0, H0, G3, s4, ?_⟩
    exact ⟨fun σ' G' H' env' s' x' k => ⟨env', G', s', (x2.trans e3.g).trans x', k⟩, gd.rt, fun σ' G' H' env' s' x' k => gd.nx σ' G' H' env' s' ((e1.g.trans (x2.trans e3.g)).trans x') k, fun σ' G' H' env' s' x' k => ⟨env', G', s', (x2.trans e3.g).trans x', k⟩, fun σ' v d G' H' env' s' x' => gd.re σ' v d G' H' env' s' ((e1.g.trans (x2.trans e3.g)).trans x')⟩
  · have e : n = ds.length := by omega
    subst e
    exact .inl ⟨wk.stops H2 (x2.trans s2.ex), gd.nx σ2 G2 H2 env2 s2 (e1.g.trans x2) (hd env2 i2)⟩
/-- for x in .. -/
theorem s1_for {iter : Expr} {body : List Stmt} {ds : List Dt} (po : PassesOwn (model X.prog X.w) X.A X.env X.xe) (hc : X.calm = true) (l : Lo X x i) (hi : PId X (.Name x px) iter env ds) (Inv : Nat → List Sl → Prop) (h0 : Inv 0 env)
    (hs : ∀ (n : Nat) d env', ds[n]? = some d → Inv n env' → SD X body (env'.set i (.fz d)) { R with nx := Inv (n + 1), ct := Inv (n + 1), bk := R.nx }) (hd : ∀ env', Inv ds.length env' → R.nx env')
    (hf : ∀ x, foldedSetIterable iter X.env x = pure x := by intro _; rfl) : SD1 X (.For (.Name x px) iter body [] pos) env R :=
  for_core po hc hi (pg_name l.nd l.at_ l.loc l.fn) (fun env d => env.set i (.fz d)) Inv h0 (fun n d env' _ _ G0 H0 G H σ v Q s r k => k _ (s.set r)) hs hd hf
/-- for a, b in .. -/
theorem s1_for2 {iter : Expr} {es : List Expr} {is : List Nat} {kt : Nat} {tpos : Pos} {body : List Stmt} {ds : List Dt} (po : PassesOwn (model X.prog X.w) X.A X.env X.xe) (hc : X.calm = true) (l : Los X es is) (hi : PId X (.Tuple es kt tpos) iter env ds) (Inv : Nat → List Sl → Prop) (h0 : Inv 0 env)
    (hs : ∀ (n : Nat) d env', ds[n]? = some d → Inv n env' → ∃ es, d = .tup es ∧ is.length = es.length ∧ SD X body (setAll env' is es) { R with nx := Inv (n + 1), ct := Inv (n + 1), bk := R.nx }) (hd : ∀ env', Inv ds.length env' → R.nx env')
    (hf : ∀ x, foldedSetIterable iter X.env x = pure x := by intro _; rfl) : SD1 X (.For (.Tuple es kt tpos) iter body [] pos) env R := by
  refine for_core po hc hi (pg_names hc l) (fun env d => match d with | .tup es => setAll env is es | _ => env) Inv h0 (fun n d env' hd hI G0 H0 G H σ v Q s r k => ?_) (fun n d env' hd hI => ?_) hd hf
  · obtain ⟨es, rfl, hl, _⟩ := hs n d env' hd hI
    exact gTup_of hl r s k
  · obtain ⟨es, rfl, hl, q⟩ := hs n d env' hd hI
    exact q
/-- while -/
theorem s1_while {body : List Stmt} (po : PassesOwn (model X.prog X.w) X.A X.env X.xe) (W : Nat → List Sl → Prop) (m0 : Nat) (h0 : W m0 env)
    (hs : ∀ m env', W m env' → ∃ b, PB X c env' b ∧ (b = true → SD X body env' { R with nx := fun e => ∃ m', m' < m ∧ W m' e, ct := fun e => ∃ m', m' < m ∧ W m' e, bk := R.nx }) ∧ (b = false → R.nx env')) : SD1 X (.While c body [] pos) env R := by
  let ι := { p : Nat × List Sl × Bool // W p.1 p.2.1 ∧ PB X c p.2.1 p.2.2 }
  have hc : PT X c (fun σ H Q => ∃ i : ι, tQb X.K i.1.2.1 i.1.2.2 σ H Q) := PT.fam fun i => i.2.2
  let κ := { p : Nat × List Sl // SD X body p.2 { R with nx := fun e => ∃ m', m' < p.1 ∧ W m' e, ct := fun e => ∃ m', m' < p.1 ∧ W m' e, bk := R.nx } }
  have hb : PSs X body (fun D σ H => ∃ i : κ, tQS X.K i.1.2 { R with nx := fun e => ∃ m', m' < i.1.1 ∧ W m' e, ct := fun e => ∃ m', m' < i.1.1 ∧ W m' e, bk := R.nx } D σ H) := PSs.fam fun i => i.2
  refine PS.weak (ps_while po hc hb) fun D σ H ⟨G0, H0, G, s, gd⟩ => ⟨fun m σ H => ∃ env' G2, Sta X.K G0 H0 G2 H σ env' ∧ Ex G G2 ∧ W m env', ⟨m0, env, G, s, Evl.Ex.refl _, h0⟩, ?_⟩
  rintro m σ2 H2 ⟨env2, G2, s2, x2, w2⟩
  obtain ⟨b, hb1, h1, h2⟩ := hs m env2 w2
  refine ⟨⟨(m, env2, b), w2, hb1⟩, G0, H0, G2, s2, fun G3 H3 e3 => ?_⟩
  cases b with
  | true =>
    refine iteT ⟨fun σ H => ∃ m', m' < m ∧ ∃ env' G4, Sta X.K G0 H0 G4 H σ env' ∧ Ex G G4 ∧ W m' env', fun σ' H' ⟨m', hm, w⟩ => ⟨m', hm, w⟩, ⟨(m, env2), h1 rfl⟩, G0, H0, G3, s2.step e3, ?_⟩
    exact ⟨fun σ' G' H' env' s' x' ⟨m', hm, k⟩ => ⟨m', hm, env', G', s', (x2.trans e3.g).trans x', k⟩, gd.rt, fun σ' G' H' env' s' x' k => gd.nx σ' G' H' env' s' ((x2.trans e3.g).trans x') k, fun σ' G' H' env' s' x' ⟨m', hm, k⟩ => ⟨m', hm, env', G', s', (x2.trans e3.g).trans x', k⟩, fun σ' v d G' H' env' s' x' => gd.re σ' v d G' H' env' s' ((x2.trans e3.g).trans x')⟩
  | false => exact iteF (gd.nx σ2 G3 H3 env2 (s2.step e3) (x2.trans e3.g) (h2 rfl))
end
end Fc

/-! Fc: comprehensions, objects of one's own, a def by its body. -/
namespace Fc
open PySem PySem.Spec PyProof.Rows L2

/-! ### comprehensions -/
theorem wipe_get (σ : L2.St) (j : Nat) : ∀ vs : List Nat, (wipe σ vs)[j]? = if j ∈ vs then σ[j]?.map (fun _ => (none : Option V)) else σ[j]?
  | [] => by simp [wipe]
  | v :: vs => by
    unfold wipe
    by_cases e : v = j
    · subst e
      by_cases hl : v < (wipe σ vs).length
      · rw [List.getElem?_set_self hl, if_pos List.mem_cons_self]
        rw [wipe_length] at hl
        simp [hl]
      · rw [List.getElem?_eq_none (by rw [List.length_set]; omega), if_pos List.mem_cons_self]
        rw [wipe_length] at hl
        rw [List.getElem?_eq_none (by omega)]
        all_goals rfl
    · rw [List.getElem?_set_ne e, wipe_get σ j vs]
      by_cases h : j ∈ vs
      · rw [if_pos h, if_pos (List.mem_cons_of_mem _ h)]
      · rw [if_neg h, if_neg (fun m => (List.mem_cons.mp m).elim (fun z => e z.symm) h)]
theorem wipe_eq {σ σ' : L2.St} {vs : List Nat} (hl : σ'.length = σ.length) (h : ∀ j, j ∉ vs → σ'[j]? = σ[j]?) : wipe σ' vs = wipe σ vs := by
  refine List.ext_getElem? fun j => ?_
  rw [wipe_get, wipe_get]
  by_cases hj : j ∈ vs
  · rw [if_pos hj, if_pos hj]
    by_cases hl2 : j < σ.length
    · rw [List.getElem?_eq_getElem (by omega), List.getElem?_eq_getElem hl2]
      all_goals rfl
    · rw [List.getElem?_eq_none (by omega), List.getElem?_eq_none (by omega)]
  · rw [if_neg hj, if_neg hj, h j hj]
theorem wipe_wipe (σ : L2.St) (vs : List Nat) : wipe (wipe σ vs) vs = wipe σ vs := wipe_eq (wipe_length _ _) fun j hj => by rw [wipe_get, if_neg hj]
def wipeE : List Sl → List Nat → List Sl
  | env, [] => env
  | env, v :: vs => (wipeE env vs).set v .un
theorem Sta.wipe {K : PySem.W.Frag} {G0 H0 G H : Hp} {σ : L2.St} {env : List Sl} (s : Sta K G0 H0 G H σ env) : ∀ vs : List Nat, Sta K G0 H0 G H (L2.wipe σ vs) (wipeE env vs)
  | [] => s
  | v :: vs => by
    have ih := Sta.wipe s vs
    refine ⟨ih.ext, by unfold L2.wipe wipeE; rw [List.length_set, List.length_set]; exact ih.len, fun j y hj => ?_⟩
    unfold wipeE at hj
    by_cases e : v = j
    · subst e
      by_cases hl : v < (wipeE env vs).length
      · rw [List.getElem?_set_self hl] at hj
        cases hj
        exact trivial
      · rw [List.getElem?_eq_none (by rw [List.length_set]; omega)] at hj
        cases hj
    · rw [List.getElem?_set_ne e] at hj
      have q := ih.sl j y hj
      unfold L2.wipe
      rw [List.getElem?_set_ne e]
      exact q
/-- Y is a block of X -/
structure Blk (X : Cx) (scope : Scope) (Y : Cx) : Prop where
  ex : ∃ s H C cl fp, Y = X.blk s H scope (compEnvC scope cl C X.env) fp
section
variable {X Y : Cx} {scope : Scope}
theorem Blk.K (b : Blk X scope Y) : Y.K = X.K := by obtain ⟨s, H, C, cl, fp, rfl⟩ := b.ex; rfl
theorem Blk.N (b : Blk X scope Y) : Y.N = X.N := by obtain ⟨s, H, C, cl, fp, rfl⟩ := b.ex; rfl
theorem Blk.A (b : Blk X scope Y) : Y.A = X.A := by obtain ⟨s, H, C, cl, fp, rfl⟩ := b.ex; rfl
theorem Blk.mg (b : Blk X scope Y) : Y.mg = X.mg := by obtain ⟨s, H, C, cl, fp, rfl⟩ := b.ex; rfl
theorem Blk.calm (b : Blk X scope Y) : Y.calm = X.calm := by obtain ⟨s, H, C, cl, fp, rfl⟩ := b.ex; rfl
theorem Blk.prog (b : Blk X scope Y) : Y.prog = X.prog := by obtain ⟨s, H, C, cl, fp, rfl⟩ := b.ex; rfl
theorem Blk.w (b : Blk X scope Y) : Y.w = X.w := by obtain ⟨s, H, C, cl, fp, rfl⟩ := b.ex; rfl
theorem Blk.base (b : Blk X scope Y) : Y.base = X.base := by obtain ⟨s, H, C, cl, fp, rfl⟩ := b.ex; rfl
theorem Blk.sc (b : Blk X scope Y) : Y.env.scope = relS scope X.env.scope := by obtain ⟨s, H, C, cl, fp, rfl⟩ := b.ex; rfl
theorem Blk.of (X : Cx) (scope : Scope) (s : Shared) (H : Hp) (C : Addr) (cl : List (Str × Addr)) (fp : List Addr) : Blk X scope (X.blk s H scope (compEnvC scope cl C X.env) fp) := ⟨s, H, C, cl, fp, rfl⟩
end
def PTd (X : Cx) (ifs : List Expr) (env : List Sl) (b : Bool) : Prop := PTs X ifs (tQb X.K env b)
theorem ptd_no {X : Cx} {env : List Sl} : PTd X [] env true := ⟨fun pins s σ H Q I ⟨G0, H0, G, st, q⟩ => pts_nil.run pins s σ H Q I (q G H (Ext.refl st.ex))⟩
theorem ptd_if {X : Cx} {c : Expr} {env : List Sl} {b : Bool} (h : PB X c env b) : PTd X [c] env b := pts_one h
theorem PTs.fam {X : Cx} {e : List Expr} {ι : Sort _} {t : ι → TT} (h : ∀ i, PTs X e (t i)) : PTs X e (fun σ H Q => ∃ i, t i σ H Q) := ⟨fun pins s σ H Q I ⟨i, q⟩ => (h i).run pins s σ H Q I q⟩

/-! ### lists just made -/
/-- e gives a list just made, of the data ds -/
def tQn (K : PySem.W.Frag) (env : List Sl) (ds : List Dt) : TE := fun σ H Q => ∃ G0 H0 G, Sta K G0 H0 G H σ env ∧ ∀ q xs G' H', Ext G H G' H' → H q = none → G' q = none → H' q = some (.lst xs) → RepL K G' xs ds → Q (.ref q) H'
def PN (X : Cx) (e : Expr) (env : List Sl) (ds : List Dt) : Prop := PE X e (tQn X.K env ds)
theorem ext_new_lst {G H G' H' : Hp} {q : Addr} {o : HO} (e : Ext G H G' H') (hq : H q = none) (hg : G' q = none) (hp : H' q = some o) : Ext G H (upd G' q o) H' := by
  refine ⟨e.g.trans (Evl.Ex.new hg), e.h, fun a u z => ?_, fun b hb => ?_⟩
  · by_cases ha : a = q
    · subst ha
      rw [upd_same] at z
      rw [hp]
      exact z
    · rw [upd_ne ha] at z
      exact e.gh a u z
  · rw [upd_ne fun z => hb (by rw [z]; exact hq)]
    exact e.old b hb
theorem PN.pv {X : Cx} {e : Expr} {env : List Sl} {ds : List Dt} (h : PN X e env ds) : PV X e env (.lst ds) :=
  PE.weak h fun σ H Q ⟨G0, H0, G, st, k⟩ => ⟨G0, H0, G, st, fun q xs G' H' e1 hq hg hp r =>
    k _ _ _ H' (ext_new_lst e1 hq hg hp) (.lst (SqL.of upd_same) (r.mono (Evl.Ex.new hg))) rfl⟩
theorem tQn_of {K : PySem.W.Frag} {env : List Sl} {ds : List Dt} {σ : L2.St} {H : Hp} {Q : VK} (h : tQ K env (fun d' => d' = .lst ds) σ H Q) : tQn K env ds σ H Q := by
  obtain ⟨G0, H0, G, st, k⟩ := h
  exact ⟨G0, H0, G, st, fun q xs G' H' e1 hq hg hp r => k _ _ _ H' (ext_new_lst e1 hq hg hp) (.lst (SqL.of upd_same) (r.mono (Evl.Ex.new hg))) rfl⟩
/-- a comprehension gives d -/
structure LcD (X : Cx) (elt tg iter : Expr) (ifs : List Expr) (scope : Scope) (env : List Sl) (d : Dt) : Prop where
  calm : X.calm = true
  nd : X.N.Nodup
  fold : ∀ x, foldedSetIterable iter X.env x = pure x
  ex : ∃ own wi g tt te, PI X tg iter wi ∧ BlkOk X.N X.env.scope scope own ∧ (∀ s H C cl fp, PG (X.blk s H scope (compEnvC scope cl C X.env) fp) tg g) ∧ (∀ s H C cl fp, PTs (X.blk s H scope (compEnvC scope cl C X.env) fp) ifs tt) ∧
    (∀ s H C cl fp, PE (X.blk s H scope (compEnvC scope cl C X.env) fp) elt te) ∧ ∃ ds, d = .lst ds ∧ ∀ σ H Q, tQn X.K env ds σ H Q → tLc wi g tt te (own.map (·.2)) σ H Q
section
variable {α : Type} {K : PySem.W.Frag} {env : List Sl}
theorem lc_read {xs : List α} {inj : α → Dt} {p : α → Bool} {f : α → Dt} {up : α → List Sl} {vs : List Nat} {g : TG} (hz : xs.length ≤ 100000)
    (hup : ∀ a, a ∈ xs → ∀ G0 H0 G H σ v Q, Sta K G0 H0 G H (wipe σ vs) (wipeE env vs) → Rep K G v (inj a) → (∀ σ', Sta K G0 H0 G H σ' (up a) → wipe σ' vs = wipe σ vs → Q σ' H) → g v (wipe σ vs) H Q)
    {σ : L2.St} {H : Hp} {Q : VK} (h : tQn K env ((xs.filter p).map f) σ H Q) :
    tLc (tQi K env (xs.map inj)) g (fun σ H Q => ∃ a : { a // a ∈ xs }, tQb K (up a.1) (p a.1) σ H Q) (fun σ H Q => ∃ a : { a // a ∈ xs ∧ p a = true }, tQ K (up a.1) (fun d => d = f a.1) σ H Q) vs σ H Q := by
  obtain ⟨G0, H0, G, st, q⟩ := h
  refine ⟨G0, H0, G, st, fun J G1 H1 e1 wk D hD => ?_⟩
  have hD1 : G1 D = none := none_of_ex e1.gh hD
  refine ⟨fun n m H' => m = xs.length - n ∧ n ≤ xs.length ∧ ∃ Gn ws, Ext G1 H1 Gn H' ∧ Gn D = none ∧ H' D = some (.lst ws) ∧ RepL K Gn ws (((xs.take n).filter p).map f), ⟨xs.length, by simp, Nat.zero_le _, G1, [], Ext.grow e1.gh (Evl.Ex.new hD), hD1, upd_same, .nil⟩, ?_⟩
  rintro n m H2 ⟨rfl, hn, Gn, ws, e2, hDn, hws, rw_⟩
  by_cases hlt : n < xs.length
  · have hgo : n < (xs.map inj).length := by rw [List.length_map]; exact hlt
    refine .inr ⟨wk.goes n H2 hgo (e2.g.trans e2.gh), fun H' => ∃ Gn ws, Ext G1 H1 Gn H' ∧ Gn D = none ∧ H' D = some (.lst ws) ∧ RepL K Gn ws (((xs.take (n + 1)).filter p).map f), fun H' w => ⟨xs.length - (n + 1), by omega, rfl, hlt, w⟩, fun x H3 y => ?_⟩
    obtain ⟨a, ha⟩ : ∃ a, xs[n]? = some a := ⟨xs[n], by simp [hlt]⟩
    have hm : a ∈ xs := List.mem_of_getElem? ha
    obtain ⟨G3, e3, r3⟩ := wk.yields n (inj a) H2 x H3 Gn (by rw [List.getElem?_map, ha]; rfl) e2.g e2.gh y
    have hne : ∀ {H' : Hp} {ws : List V}, H' D = some (.lst ws) → H' D ≠ none := fun z z2 => by rw [z] at z2; cases z2
    have hD3 : G3 D = none := (e3.old D (hne hws)).trans hDn
    have hw3 : H3 D = some (.lst ws) := e3.h _ _ hws
    have tk : xs.take (n + 1) = xs.take n ++ [a] := by rw [List.take_succ, ha]; rfl
    refine hup a hm G0 H0 G3 H3 σ x _ (((st.step e1).step (e2.trans e3)).wipe vs) r3 fun σ4 s4 hw4 => ⟨hw4, ⟨a, hm⟩, G0, H0, G3, s4, fun G5 H5 e5 => ?_⟩
    have hD5 : G5 D = none := (e5.old D (hne hw3)).trans hD3
    have hw5 : H5 D = some (.lst ws) := e5.h _ _ hw3
    cases hp : p a with
    | true =>
      refine iteT ⟨⟨a, hm, hp⟩, G0, H0, G5, s4.step e5, fun y d G6 H6 e6 r6 hd => ?_⟩
      subst hd
      have hD6 : G6 D = none := (e6.old D (hne hw5)).trans hD5
      have hw6 : H6 D = some (.lst ws) := e6.h _ _ hw5
      have eA := ((e2.trans e3).trans e5).trans e6
      refine ⟨ws, hw6, ?_, G6, ws ++ [y], ?_, hD6, upd_same, ?_⟩
      · have h1 := rw_.len
        have h2 : ((xs.take n).filter p).length ≤ (xs.take n).length := List.length_filter_le _ _
        have h3 : (xs.take n).length ≤ xs.length := List.length_take_le' _ _
        rw [List.length_map] at h1
        rw [h1, sizeLine_eq]
        omega
      · exact ⟨eA.g, Evl.Ex.mut eA.h hD, Evl.Ex.mut eA.gh hD6, eA.old⟩
      · rw [tk, List.filter_append, List.map_append]
        refine (rw_.mono ((e3.trans e5).trans e6).g).app ?_
        rw [List.filter_cons, if_pos hp]
        exact .cons r6 .nil
    | false =>
      refine iteF ⟨G5, ws, (e2.trans e3).trans e5, hD5, hw5, ?_⟩
      rw [tk, List.filter_append, List.map_append]
      have : List.filter p [a] = [] := by rw [List.filter_cons, hp]; rfl
      rw [this, List.map_nil, List.append_nil]
      exact rw_.mono (e3.trans e5).g
  · have e : n = xs.length := by omega
    subst e
    refine .inl ⟨?_, ?_⟩
    · have := wk.stops H2 (e2.g.trans e2.gh)
      rw [List.length_map] at this
      exact this
    · rw [List.take_length] at rw_
      have hHD : H D = none := by
        cases z : H D with
        | none => rfl
        | some o => rw [e1.h _ _ z] at hD; cases hD
      exact q D ws Gn H2 (e1.trans e2) hHD hDn hws rw_
variable {X : Cx} {elt iter : Expr} {ifs : List Expr} {scope : Scope} {pos : Pos}
/-- [elt for x in iter if ..], the target a name -/
theorem lcd_name {xs : List α} {inj : α → Dt} {x : Str} {px : Pos} {i : Nat} {N : List Str} {sc : Scope} (own : List (Str × Nat)) (p : α → Bool) (f : α → Dt) (hc : X.calm = true) (hN : X.N = N) (hs : X.env.scope = sc) (hnd : N.Nodup) (hz : xs.length ≤ 100000) (hi : PId X (.Name x px) iter env (xs.map inj)) (hb : blkC N sc scope own = true)
    (ho : i ∈ own.map (·.2)) (h1 : N[i]? = some x) (h2 : (relS scope sc).names.lookup x = some .local)
    (ht : ∀ a Y, a ∈ xs → Blk X scope Y → PTd Y ifs ((wipeE env (own.map fun x : Str × Nat => x.2)).set i (.fz (inj a))) (p a))
    (he : ∀ a Y, a ∈ xs → p a = true → Blk X scope Y → PV Y elt ((wipeE env (own.map fun x : Str × Nat => x.2)).set i (.fz (inj a))) (f a))
    (hf : ∀ x, foldedSetIterable iter X.env x = pure x := by intro _; rfl) : LcD X elt (.Name x px) iter ifs scope env (.lst ((xs.filter p).map f)) := by
  subst hN
  subst hs
  refine ⟨hc, hnd, hf, own, _, gName i, (fun σ H Q => ∃ a : { a // a ∈ xs }, tQb X.K ((wipeE env (own.map fun x : Str × Nat => x.2)).set i (.fz (inj a.1))) (p a.1) σ H Q), (fun σ H Q => ∃ a : { a // a ∈ xs ∧ p a = true }, tQ X.K ((wipeE env (own.map fun x : Str × Nat => x.2)).set i (.fz (inj a.1))) (fun d => d = f a.1) σ H Q), hi, blkOk_by hb, fun s H C cl fp => ?_, fun s H C cl fp => PTs.fam fun a => ht a.1 _ a.2 (Blk.of X scope s H C cl fp), fun s H C cl fp => PE.fam fun a => he a.1 _ a.2.1 a.2.2 (Blk.of X scope s H C cl fp), _, rfl, fun σ H Q h => ?_⟩
  · exact pg_name (X := X.blk s H scope (compEnvC scope cl C X.env) fp) hnd h1 (.inl h2) (.inr h2)
  · refine lc_read (up := fun a => (wipeE env (own.map fun x : Str × Nat => x.2)).set i (.fz (inj a))) hz (fun a ha G0 H0 G H σ v Q st r k => ?_) h
    refine k _ (st.set r) ?_
    refine (wipe_eq (List.length_set ..) fun j hj => ?_).trans (wipe_wipe σ _)
    rw [List.getElem?_set_ne fun z => hj (by rw [← z]; exact ho)]
theorem gNames_of2 {K : PySem.W.Frag} {G0 H0 G H : Hp} : ∀ {is : List Nat} {vs : List V} {ds : List Dt} {σ : L2.St} {env : List Sl} {Q : L2.St → Hp → Prop}, is.length = ds.length → RepL K G vs ds → Sta K G0 H0 G H σ env → (∀ σ', Sta K G0 H0 G H σ' (setAll env is ds) → σ'.length = σ.length → (∀ j, j ∉ is → σ'[j]? = σ[j]?) → Q σ' H) → gNames is vs σ H Q
  | [], _, _, _, _, _, h, .nil, s, k => ⟨rfl, k _ s rfl fun _ _ => rfl⟩
  | i :: is, _, _, σ, env, Q, h, .cons (v := v) r rr, s, k => ⟨_, _, rfl, gNames_of2 (is := is) (by simpa using h) rr (s.set r) fun σ' s' hl hj => k σ' s' (hl.trans (List.length_set ..)) fun j hm => by
      rw [hj j fun z => hm (List.mem_cons_of_mem _ z), List.getElem?_set_ne fun z => hm (by rw [z]; exact List.mem_cons_self)]⟩
  | _ :: _, _, _, _, _, _, h, .nil, _, _ => by cases h
  | [], _, _, _, _, _, h, .cons _ _, _, _ => by cases h
/-- .. the target several names -/
theorem lcd_names {xs : List α} {inj : α → List Dt} {es : List Expr} {is : List Nat} {kt : Nat} {tpos : Pos} {N : List Str} {sc : Scope} (own : List (Str × Nat)) (p : α → Bool) (f : α → Dt) (hc : X.calm = true) (hN : X.N = N) (hs : X.env.scope = sc) (hnd : N.Nodup) (hz : xs.length ≤ 100000) (hi : PId X (.Tuple es kt tpos) iter env (xs.map fun a => .tup (inj a)))
    (hb : blkC N sc scope own = true) (ho : ∀ i ∈ is, i ∈ own.map (·.2)) (hl : ∀ Y, Blk X scope Y → Los Y es is) (hln : ∀ a ∈ xs, is.length = (inj a).length)
    (ht : ∀ a Y, a ∈ xs → Blk X scope Y → PTd Y ifs (setAll (wipeE env (own.map fun x : Str × Nat => x.2)) is (inj a)) (p a))
    (he : ∀ a Y, a ∈ xs → p a = true → Blk X scope Y → PV Y elt (setAll (wipeE env (own.map fun x : Str × Nat => x.2)) is (inj a)) (f a))
    (hf : ∀ x, foldedSetIterable iter X.env x = pure x := by intro _; rfl) : LcD X elt (.Tuple es kt tpos) iter ifs scope env (.lst ((xs.filter p).map f)) := by
  subst hN
  subst hs
  refine ⟨hc, hnd, hf, own, _, gTup X.K is.length (gNames is), (fun σ H Q => ∃ a : { a // a ∈ xs }, tQb X.K (setAll (wipeE env (own.map fun x : Str × Nat => x.2)) is (inj a.1)) (p a.1) σ H Q), (fun σ H Q => ∃ a : { a // a ∈ xs ∧ p a = true }, tQ X.K (setAll (wipeE env (own.map fun x : Str × Nat => x.2)) is (inj a.1)) (fun d => d = f a.1) σ H Q), hi, blkOk_by hb, fun s H C cl fp => ?_, fun s H C cl fp => PTs.fam fun a => ht a.1 _ a.2 (Blk.of X scope s H C cl fp), fun s H C cl fp => PE.fam fun a => he a.1 _ a.2.1 a.2.2 (Blk.of X scope s H C cl fp), _, rfl, fun σ H Q h => ?_⟩
  · exact pg_names (X := X.blk s H scope (compEnvC scope cl C X.env) fp) hc (hl _ (Blk.of X scope s H C cl fp))
  · refine lc_read (inj := fun a => .tup (inj a)) (up := fun a => setAll (wipeE env (own.map fun x : Str × Nat => x.2)) is (inj a)) hz (fun a ha G0 H0 G H σ v Q st r k => ?_) h
    cases r with
    | tup h r =>
      refine ⟨_, _, rfl, Evl.ex_t st.ex h, by rw [r.len, hln a ha], gNames_of2 (hln a ha) r st fun σ' s' hl' hj => k σ' s' ?_⟩
      exact (wipe_eq hl' fun j hm => hj j fun z => hm (ho j z)).trans (wipe_wipe σ _)
/-- as a value -/
theorem pv_lc {tg : Expr} {d : Dt} (l : LcD X elt tg iter ifs scope env d) : PV X (.ListComp elt [⟨tg, iter, ifs, 0⟩] scope pos) env d := by
  obtain ⟨own, wi, g, tt, te, h1, h2, h3, h4, h5, ds, rfl, h6⟩ := l.ex
  exact PE.weak (pe_lc l.calm l.nd h1 h2 h3 h4 h5 l.fold) fun σ H Q q => h6 σ H Q (tQn_of q)
/-- .. a list just made -/
theorem pn_lc {tg : Expr} {ds : List Dt} (l : LcD X elt tg iter ifs scope env (.lst ds)) : PN X (.ListComp elt [⟨tg, iter, ifs, 0⟩] scope pos) env ds := by
  obtain ⟨own, wi, g, tt, te, h1, h2, h3, h4, h5, ds', e, h6⟩ := l.ex
  cases e
  exact PE.weak (pe_lc l.calm l.nd h1 h2 h3 h4 h5 l.fold) fun σ H Q q => h6 σ H Q q
/-- x = [..] -/
theorem s1_lc {tg : Expr} {d : Dt} {R : De} {x : Str} {i : Nat} {px spos : Pos} (l : LcD X elt tg iter ifs scope env d) (lo : Lo X x i) (hx : X.env.scope.names.lookup x = some .local) (k : R.nx (env.set i (.fz d)))
    (hsw : swapsWith (.ListComp elt [⟨tg, iter, ifs, 0⟩] scope pos) (some (.Name x px)) spos.line X.env = pure true) : SD1 X (.Assign [.Name x px] (.ListComp elt [⟨tg, iter, ifs, 0⟩] scope pos) spos) env R := by
  obtain ⟨own, wi, g, tt, te, h1, h2, h3, h4, h5, ds, rfl, h6⟩ := l.ex
  refine PS.weak (ps_setLc l.calm l.nd lo.at_ hx hsw h1 h2 h3 h4 h5 l.fold) fun D σ H ⟨G0, H0, G, s, gd⟩ => ?_
  exact h6 σ H _ (tQn_of ⟨G0, H0, G, s, fun v d' G1 H1 e1 r1 hd => by
    subst hd
    exact gd.nx _ G1 H1 _ ((s.step e1).set r1) e1.g k⟩)
end

/-! ### objects of one's own -/
def notOw : Sl → Bool
  | .ow _ | .ol _ _ _ _ _ => false
  | _ => true
def notOd : Sl → Bool
  | .od _ => false
  | _ => true
section
variable {X : Cx} {env : List Sl} {R : De} {x y : Str} {i j : Nat} {e : Expr} {S : Dt → Prop} {pos px p1 p2 p3 : Pos}
theorem Sta.sets {K : PySem.W.Frag} {G0 H0 G H : Hp} {σ : L2.St} (s : Sta K G0 H0 G H σ env) {o : HO} {p : Addr} {z : Sl} (hσ : σ[i]? = some (some (.ref p))) (h0 : H0 p = none) (hg : G p = none) (hz : SlOk K H0 G (upd H p o) (some (some (.ref p))) z)
    (ho : ∀ (j : Nat) y, j ≠ i → env[j]? = some y → SlOk K H0 G H σ[j]? y → SlOk K H0 G (upd H p o) σ[j]? y) : Sta K G0 H0 G (upd H p o) σ (env.set i z) := by
  refine ⟨⟨s.ext.g, Evl.Ex.mut s.ext.h h0, Evl.Ex.mut s.ext.gh hg, s.ext.old⟩, by rw [List.length_set]; exact s.len, fun j y hj => ?_⟩
  by_cases e : i = j
  · subst e
    have hl := (List.getElem?_eq_some_iff.mp hj).1
    rw [List.length_set] at hl
    rw [List.getElem?_set_self hl] at hj
    cases hj
    rw [hσ]
    exact hz
  · rw [List.getElem?_set_ne e] at hj
    exact ho j y (fun z => e z.symm) hj (s.sl j y hj)
/-- a list of one's own changes: the other slots stay, if none of them is such a list -/
theorem slOk_lst {K : PySem.W.Frag} {H0 G H : Hp} {p : Addr} {vs ws : List V} (hp : H p = some (.lst vs)) {o : Option (Option V)} : ∀ {z : Sl}, notOw z = true → SlOk K H0 G H o z → SlOk K H0 G (upd H p (.lst ws)) o z
  | .un, _, _ => trivial
  | .fz d, _, h => h
  | .ow ds, h, _ => by cases h
  | .od ds, _, ⟨q, kvs, h1, h2, h3, h4, h5⟩ => ⟨q, kvs, h1, h2, h3, by rw [upd_ne (ne_of h4 hp (by intro z; cases z))]; exact h4, h5⟩
  | .hf d, _, h => h
  | .ob p C fs, _, ⟨dx, us, h1, h2, h3, h4, h5⟩ => ⟨dx, us, h1, h2, h3, by rw [upd_ne (ne_of h4 hp (by intro z; cases z))]; exact h4, h5⟩
  | .ol _ _ _ _ _, h, _ => by cases h
theorem slOk_dct {K : PySem.W.Frag} {H0 G H : Hp} {p : Addr} {vs ws : List (Key × V)} (hp : H p = some (.dK vs)) {o : Option (Option V)} : ∀ {z : Sl}, notOd z = true → SlOk K H0 G H o z → SlOk K H0 G (upd H p (.dK ws)) o z
  | .un, _, _ => trivial
  | .fz d, _, h => h
  | .od ds, h, _ => by cases h
  | .ow ds, _, ⟨q, kvs, h1, h2, h3, h4, h5⟩ => ⟨q, kvs, h1, h2, h3, by rw [upd_ne (ne_of h4 hp (by intro z; cases z))]; exact h4, h5⟩
  | .hf d, _, h => h
  | .ob p C fs, _, ⟨dx, us, h1, h2, h3, h4, h5⟩ => ⟨dx, us, h1, h2, h3, by rw [upd_ne (ne_of h4 hp (by intro z; cases z))]; exact h4, h5⟩
  | .ol p C fs f ds, _, ⟨dx, us, q, xs, h1, h2, h3, h4, h5, h6, h7, h8, h9⟩ => ⟨dx, us, q, xs, h1, h2, h3, by rw [upd_ne (ne_of h4 hp (by intro z; cases z))]; exact h4, h5, h6, h7, by rw [upd_ne (ne_of h8 hp (by intro z; cases z))]; exact h8, h9⟩
/-- no other slot is a list of one's own -/
def oneOw (env : List Sl) (i : Nat) : Bool := (env.set i .un).all notOw
def oneOd (env : List Sl) (i : Nat) : Bool := (env.set i .un).all notOd
theorem oneOw_at (h : oneOw env i = true) {z : Sl} (hj : j ≠ i) (he : env[j]? = some z) : notOw z = true := by
  unfold oneOw at h
  refine List.all_eq_true.mp h z ?_
  refine List.mem_of_getElem? (i := j) ?_
  rw [List.getElem?_set_ne fun z => hj z.symm]
  exact he
theorem oneOd_at (h : oneOd env i = true) {z : Sl} (hj : j ≠ i) (he : env[j]? = some z) : notOd z = true := by
  unfold oneOd at h
  refine List.all_eq_true.mp h z ?_
  refine List.mem_of_getElem? (i := j) ?_
  rw [List.getElem?_set_ne fun z => hj z.symm]
  exact he
/-- x = [] -/
theorem s1_newL {p2 : Pos} (l : Lo X x i) (k : R.nx (env.set i (.ow []))) (hs : swapsWith (.List [] p2) (some (.Name x px)) pos.line X.env = pure false := by rfl) : SD1 X (.Assign [.Name x px] (.List [] p2) pos) env R :=
  PS.weak (ps_set l.nd l.at_ l.loc (pe_lst pa_nil) hs l.fn) fun D σ H ⟨G0, H0, G, s, gd⟩ => ⟨Nat.zero_le _, fun p hp =>
    gd.nx _ G _ _ ((s.step (Ext.grow s.ex (Evl.Ex.new (o := .lst []) hp))).put (x := .ow []) ⟨p, [], rfl, none_of_ex s.ext.h hp, none_of_ex s.ex hp, upd_same, .nil⟩) (Evl.Ex.refl _) k⟩
/-- x = [e, ..], of one's own -/
theorem s1_newLs {es : List Expr} {ds : List Dt} {p2 : Pos} (h : PVs X es env ds) (hl : ds.length ≤ sizeLine) (l : Lo X x i) (k : R.nx (env.set i (.ow ds))) (hs : swapsWith (.List es p2) (some (.Name x px)) pos.line X.env = pure false := by rfl) : SD1 X (.Assign [.Name x px] (.List es p2) pos) env R :=
  PS.weak (ps_set l.nd l.at_ l.loc (pe_lst h) hs l.fn) fun D σ H ⟨G0, H0, G, s, gd⟩ => ⟨G0, H0, G, s, fun vs G1 H1 e1 r1 => ⟨by rw [r1.len]; exact hl, fun p hp => by
    have s1 := s.step e1
    exact gd.nx _ G1 _ _ ((s1.step (Ext.grow s1.ex (Evl.Ex.new (o := .lst vs) hp))).put (x := .ow ds) ⟨p, vs, rfl, none_of_ex s1.ext.h hp, none_of_ex s1.ex hp, upd_same, r1⟩) e1.g k⟩⟩
/-- x.append(e) -/
theorem s1_app {ds : List Dt} {apos cpos : Pos} (n : Nm X x i) (hi : env[i]? = some (.ow ds)) (h : PQ X e env S) (hz : ds.length < sizeLine) (h1 : oneOw env i = true) (k : ∀ d, S d → R.nx (env.set i (.ow (ds ++ [d]))))
    (hfew : ((backTo cpos (starEach [e] X.env)).all (fun x => !x.1) && (backToKw cpos (keywordEach [] X.env)).all (fun x => x.1.isSome)
      && decide ([e].length + ([] : List Keyword).length + (if ([] : List Keyword).isEmpty then 0 else 1) < 30)) = true := by rfl)
    (hline : (apos.endLine == cpos.line) = true := by rfl) (hst : starEach [e] X.env = [(false, eval e X.env)] := by rfl)
    (hs : swapsWith (.Call (.Attribute (.Name x px) "append" apos) [e] [] cpos) none pos.line X.env = pure false := by rfl) : SD1 X (.Expr (.Call (.Attribute (.Name x px) "append" apos) [e] [] cpos) pos) env R :=
  PS.weak (ps_expr (pe_bm PySem.F.plainAttrs_list PySem.F.slot_list_append PySem.F.type_list_append mt_append (pe_var n.at_ n.vis n.hd n.hcd) (pa_cons h pa_nil hst) rfl hfew hline hst rfl) hs) fun D σ H ⟨G0, H0, G, s, gd⟩ => by
    obtain ⟨p, vs, hσ, h0, hg, hp, r⟩ := s.sl i _ hi
    refine ⟨.ref p, hσ, .inl ⟨rfl, vs, SqL.of hp⟩, G0, H0, G, s, fun v d G1 H1 e1 r1 s1 => ?_⟩
    have hp1 := e1.h _ _ hp
    have hg1 : G1 p = none := (e1.old p (by rw [hp]; simp)).trans hg
    refine ⟨p, vs, v, rfl, rfl, hp1, by rw [r.len]; exact hz, ?_⟩
    refine gd.nx σ G1 _ _ ((s.step e1).sets (z := .ow (ds ++ [d])) hσ h0 hg1 ⟨p, vs ++ [v], rfl, h0, hg1, upd_same, (r.mono e1.g).app (.cons r1 .nil)⟩ fun j y hj he hk => slOk_lst hp1 (oneOw_at h1 hj he) hk) e1.g (k d s1)
/-- y = x.pop(0) -/
theorem s1_pop0 {d : Dt} {ds : List Dt} {apos cpos p0 : Pos} {k0 : Nat} {py : Pos} (n : Nm X x i) (l : Lo X y j) (hij : i ≠ j) (hi : env[i]? = some (.ow (d :: ds))) (h1 : oneOw env i = true) (k : R.nx ((env.set i (.ow ds)).set j (.fz d)))
    (hfew : ((backTo cpos (starEach [.Constant (.int 0) k0 p0] X.env)).all (fun x => !x.1) && (backToKw cpos (keywordEach [] X.env)).all (fun x => x.1.isSome)
      && decide ([Expr.Constant (.int 0) k0 p0].length + ([] : List Keyword).length + (if ([] : List Keyword).isEmpty then 0 else 1) < 30)) = true := by rfl)
    (hline : (apos.endLine == cpos.line) = true := by rfl)
    (hs : swapsWith (.Call (.Attribute (.Name x px) "pop" apos) [.Constant (.int 0) k0 p0] [] cpos) (some (.Name y py)) pos.line X.env = pure false := by rfl) :
    SD1 X (.Assign [.Name y py] (.Call (.Attribute (.Name x px) "pop" apos) [.Constant (.int 0) k0 p0] [] cpos) pos) env R :=
  PS.weak (ps_set l.nd l.at_ l.loc (pe_bm PySem.F.plainAttrs_list PySem.F.slot_list_pop PySem.F.type_list_pop mt_popAt (pe_var n.at_ n.vis n.hd n.hcd) (pa_cons pe_int pa_nil) rfl hfew hline rfl rfl) hs l.fn) fun D σ H ⟨G0, H0, G, s, gd⟩ => by
    obtain ⟨p, vs, hσ, h0, hg, hp, r⟩ := s.sl i _ hi
    cases r with
    | cons r rr =>
      rename_i v vs
      refine ⟨.ref p, hσ, .inl ⟨rfl, _, SqL.of hp⟩, p, v :: vs, 0, 0, v, rfl, rfl, hp, by decide, by decide, by simp [seqIndex?], rfl, ?_⟩
      have s2 := s.sets (z := .ow ds) hσ h0 hg ⟨p, vs, rfl, h0, hg, upd_same, rr⟩ fun j y hj he hk => slOk_lst hp (oneOw_at h1 hj he) hk
      exact gd.nx _ G _ _ (s2.set r) (Evl.Ex.refl _) k
/-- x = {k: e} -/
theorem s1_newD {ek : Expr} {ks : Str} {d : Dt} {p2 : Pos} (hk : PV X ek env (.str ks)) (h : PV X e env d) (l : Lo X x i) (k : R.nx (env.set i (.od [(ks, d)]))) (hs : swapsWith (.Dict [some ek] [e] p2) (some (.Name x px)) pos.line X.env = pure false := by rfl) :
    SD1 X (.Assign [.Name x px] (.Dict [some ek] [e] p2) pos) env R :=
  PS.weak (ps_set l.nd l.at_ l.loc (pe_disp (pps_cons hk h pps_nil) rfl rfl (fun z => by cases z) (by show 1 ≤ 15; omega)) hs l.fn) fun D σ H ⟨G0, H0, G, s, gd⟩ => fun p hp => by
    have s1 := s.step (Ext.grow s.ex (Evl.Ex.new (o := .dK []) hp))
    refine ⟨G0, H0, G, s1, fun v d1 G2 H2 e2 r2 hd => ?_⟩
    subst hd
    cases r2
    refine ⟨G0, H0, G2, s1.step e2, fun w d3 G3 H3 e3 r3 hd3 => ?_⟩
    subst hd3
    have hp3 : H3 p = some (.dK []) := e3.h _ _ (e2.h _ _ upd_same)
    have hg3 : G3 p = none := ((e2.trans e3).old p (by rw [upd_same]; simp)).trans (none_of_ex s.ex hp)
    have h03 : H0 p = none := none_of_ex s.ext.h hp
    refine ⟨hp3, [(Sum.inr ks, w)], rfl, by show 1 ≤ 15; omega, ?_⟩
    have s3 := (s1.step e2).step e3
    have s4 : Sta X.K G0 H0 G3 (upd H3 p (.dK [(Sum.inr ks, w)])) σ env := by
      refine ⟨⟨s3.ext.g, Evl.Ex.mut s3.ext.h h03, Evl.Ex.mut s3.ext.gh hg3, s3.ext.old⟩, s3.len, fun j z hj => ?_⟩
      have q := s.sl j z hj
      have e4 := (Ext.grow s.ex (Evl.Ex.new (o := .dK []) hp)).trans (e2.trans e3)
      cases z with
      | un => exact trivial
      | fz d =>
        obtain ⟨u, h1, h2⟩ := q
        exact ⟨u, h1, h2.mono e4.g⟩
      | ow ds =>
        obtain ⟨b, us, h1, h2, h3, h4, h5⟩ := q
        exact ⟨b, us, h1, h2, (e4.old b (by rw [h4]; simp)).trans h3, by rw [upd_ne (ne_of_none h4 hp)]; exact e4.h _ _ h4, h5.mono e4.g⟩
      | od ds =>
        obtain ⟨b, us, h1, h2, h3, h4, h5⟩ := q
        exact ⟨b, us, h1, h2, (e4.old b (by rw [h4]; simp)).trans h3, by rw [upd_ne (ne_of_none h4 hp)]; exact e4.h _ _ h4, h5.mono e4.g⟩
      | hf d => exact q
      | ob b C fs =>
        obtain ⟨dx, us, h1, h2, h3, h4, h5⟩ := q
        exact ⟨dx, us, h1, h2, (e4.old b (by rw [h4]; simp)).trans h3, by rw [upd_ne (ne_of_none h4 hp)]; exact e4.h _ _ h4, h5.mono e4.g⟩
      | ol b C fs f ds =>
        obtain ⟨dx, us, c, xs, h1, h2, h3, h4, h5, h6, h7, h8, h9⟩ := q
        exact ⟨dx, us, c, xs, h1, h2, (e4.old b (by rw [h4]; simp)).trans h3, by rw [upd_ne (ne_of_none h4 hp)]; exact e4.h _ _ h4, h5.mono e4.g, h6, (e4.old c (by rw [h8]; simp)).trans h7, by rw [upd_ne (ne_of_none h8 hp)]; exact e4.h _ _ h8, h9.mono e4.g⟩
    exact gd.nx _ G3 _ _ (s4.put (x := .od [(ks, d3)]) ⟨p, _, rfl, h03, hg3, upd_same, .cons r3 .nil⟩) (e2.trans e3).g k
/-- x[k] = e, a new key -/
theorem s1_dput {ek : Expr} {ks : Str} {kds : List (Str × Dt)} {d : Dt} {m : Nat} {pos' : Pos} (hr : Room m X.A) (n : Nm X x i) (hi : env[i]? = some (.od kds)) (h : PV X e env d) (hk : PV X ek env (.str ks)) (hnew : ks ∉ kds.map (·.1)) (hz : kds.length < sizeLine) (h1 : oneOd env i = true)
    (k : R.nx (env.set i (.od (kds ++ [(ks, d)])))) (hs : swapsWith e (some (.Subscript (.Name x px) ek pos')) pos.line X.env = pure false := by rfl) : SD1 X (.Assign [.Subscript (.Name x px) ek pos'] e pos) env R :=
  PS.weak (ps_dput (hu_of hr) (pe_var n.at_ n.vis n.hd n.hcd) hk h hs) fun D σ H ⟨G0, H0, G, s, gd⟩ => by
    obtain ⟨p, vs, hσ, h0, hg, hp, r⟩ := s.sl i _ hi
    refine ⟨G0, H0, G, s, fun v d1 G1 H1 e1 r1 hd => ?_⟩
    subst hd
    refine ⟨.ref p, hσ, G0, H0, G1, s.step e1, fun w d2 G2 H2 e2 r2 hd2 => ?_⟩
    subst hd2
    cases r2
    have e3 := e1.trans e2
    have hp2 := e3.h _ _ hp
    have hg2 : G2 p = none := (e3.old p (by rw [hp]; simp)).trans hg
    have hv : valV vs (Sum.inr ks : Key) = none := by
      have q := valV_any (Sum.inr ks : Key) vs
      cases q2 : valV vs (Sum.inr ks : Key) with
      | none => rfl
      | some u =>
        have m := valV_in q2
        rw [r.keys] at m
        obtain ⟨z, hz, ez⟩ := List.mem_map.mp m
        exact (hnew (List.mem_map.mpr ⟨z, hz, Sum.inr.inj ez⟩)).elim
    refine ⟨p, _, rfl, DPut.k (k := (Sum.inr ks : Key)) (v := v) hp2 (by rw [r.len]; exact hz), ?_⟩
    rw [putK_new _ hv]
    exact gd.nx σ G2 _ _ ((s.step e3).sets (z := .od (kds ++ [(ks, d1)])) hσ h0 hg2 ⟨p, _, rfl, h0, hg2, upd_same, (r.mono e3.g).snoc (r1.mono e2.g)⟩ fun j y hj he hk => slOk_dct hp2 (oneOd_at h1 hj he) hk) e3.g k
/-- return x, an object of one's own -/
theorem ext_freeze {G0 H0 G H : Hp} {p : Addr} {o : HO} (e : Ext G0 H0 G H) (h0 : H0 p = none) (hg : G p = none) (hp : H p = some o) : Ext G0 H0 (upd G p o) H := by
  refine ⟨e.g.trans (Evl.Ex.new hg), e.h, fun a u z => ?_, fun b hb => ?_⟩
  · by_cases ha : a = p
    · subst ha
      rw [upd_same] at z
      rw [hp]
      exact z
    · rw [upd_ne ha] at z
      exact e.gh a u z
  · rw [upd_ne fun z => hb (by rw [z]; exact h0)]
    exact e.old b hb
theorem s1_retL {ds : List Dt} (n : Nm X x i) (hi : env[i]? = some (.ow ds)) (k : R.rt (.lst ds)) : SD1 X (.Return (some (.Name x px)) pos) env R :=
  PS.weak (ps_ret (pe_var n.at_ n.vis n.hd n.hcd)) fun D σ H ⟨G0, H0, G, s, gd⟩ => by
    obtain ⟨p, vs, hσ, h0, hg, hp, r⟩ := s.sl i _ hi
    exact ⟨.ref p, hσ, gd.rt _ _ _ H (ext_freeze s.ext h0 hg hp) (.lst (SqL.of upd_same) (r.mono (Evl.Ex.new hg))) k⟩
theorem s1_retD {kds : List (Str × Dt)} (n : Nm X x i) (hi : env[i]? = some (.od kds)) (k : R.rt (.dct kds)) : SD1 X (.Return (some (.Name x px)) pos) env R :=
  PS.weak (ps_ret (pe_var n.at_ n.vis n.hd n.hcd)) fun D σ H ⟨G0, H0, G, s, gd⟩ => by
    obtain ⟨p, vs, hσ, h0, hg, hp, r⟩ := s.sl i _ hi
    exact ⟨.ref p, hσ, gd.rt _ _ _ H (ext_freeze s.ext h0 hg hp) (.dct upd_same (r.mono (Evl.Ex.new hg))) k⟩
end
end Fc

/-! Fc: statements, the rest behind them. -/
namespace Fc
open PySem PySem.Spec PyProof.Rows L2
section
variable {X : Cx} {st : Stmt} {rest : List Stmt} {env : List Sl} {R : De} {e c : Expr} {S : Dt → Prop} {x y : Str} {i j : Nat} {pos px py : Pos} {d : Dt}
theorem sd_ret (h : PV X e env d) (k : R.rt d) : SD X (.Return (some e) pos :: rest) env R := sd_cons (s1_ret h fun d' e => by subst e; exact k)
theorem sd_retQ (h : PQ X e env S) (k : ∀ d, S d → R.rt d) : SD X (.Return (some e) pos :: rest) env R := sd_cons (s1_ret h k)
theorem sd_asg (h : PV X e env d) (l : Lo X x i) (k : SD X rest (env.set i (.fz d)) R) (hs : swapsWith e (some (.Name x px)) pos.line X.env = pure false := by rfl) : SD X (.Assign [.Name x px] e pos :: rest) env R :=
  sd_cons (s1_asg h l (fun d' e => by subst e; exact k) hs)
theorem sd_asgQ (h : PQ X e env S) (l : Lo X x i) (k : ∀ d, S d → SD X rest (env.set i (.fz d)) R) (hs : swapsWith e (some (.Name x px)) pos.line X.env = pure false := by rfl) : SD X (.Assign [.Name x px] e pos :: rest) env R :=
  sd_cons (s1_asg h l k hs)
theorem sd_expr (h : PV X e env d) (k : SD X rest env R) (hs : swapsWith e none pos.line X.env = pure false := by rfl) : SD X (.Expr e pos :: rest) env R := sd_cons (s1_expr h (fun _ _ => k) hs)
theorem sd_if {a b : List Stmt} {k : Bool} (h : PB X c env k) (h1 : k = true → SD X a env { R with nx := fun env' => SD X rest env' R }) (h2 : k = false → SD X b env { R with nx := fun env' => SD X rest env' R }) : SD X (.If c a b pos :: rest) env R :=
  sd_cons (s1_if h h1 h2)
/-- without else: the rest, or what is in it -/
theorem sd_when {a : List Stmt} {k : Bool} (h : PB X c env k) (h1 : k = true → SD X a env { R with nx := fun env' => SD X rest env' R }) (h2 : k = false → SD X rest env R) : SD X (.If c a [] pos :: rest) env R :=
  sd_cons (s1_if h h1 fun e => sd_nil (h2 e))
theorem sd_no {a : List Stmt} {k : Bool} (h : PB X c env k) (hk : k = false) (h2 : SD X rest env R) : SD X (.If c a [] pos :: rest) env R := by
  subst hk
  exact sd_cons (s1_ifF h h2)
theorem sd_par {a b : Expr} {d1 d2 : Dt} {kt k2 : Nat} {pt pt2 : Pos} (hc : X.calm = true) (l1 : Lo X x i) (l2 : Lo X y j) (hij : i ≠ j) (hx : X.env.scope.names.lookup x = some .local) (hy : X.env.scope.names.lookup y = some .local) (ha : PVs X [a, b] env [d1, d2])
    (hw : swappedStores [.Tuple [.Name x px, .Name y py] kt pt] (.Tuple [a, b] k2 pt2) X.env = pure (some [x, y]))
    (k : SD X rest ((env.set i (.fz d1)).set j (.fz d2)) R)
    (hs : swapsWithSole [.Tuple [.Name x px, .Name y py] kt pt] (.Tuple [a, b] k2 pt2) pos.line X.env = pure false := by rfl) : SD X (.Assign [.Tuple [.Name x px, .Name y py] kt pt] (.Tuple [a, b] k2 pt2) pos :: rest) env R :=
  sd_cons (s1_par hc l1 l2 hij hx hy ha k hw hs)
theorem sd_unp {es : List Expr} {is : List Nat} {ds : List Dt} {kt : Nat} {tpos : Pos} (hc : X.calm = true) (l : Los X es is) (h : PV X e env (.tup ds)) (hl : is.length = ds.length) (k : SD X rest (setAll env is ds) R)
    (hs : swapsWithSole [.Tuple es kt tpos] e pos.line X.env = pure false := by rfl) (hw : swappedStores [.Tuple es kt tpos] e X.env = pure none := by rfl)
    (h1 : (assignEach [.Tuple es kt tpos] X.env).map (·.2) = [assign (.Tuple es kt tpos) X.env] := by rfl) : SD X (.Assign [.Tuple es kt tpos] e pos :: rest) env R :=
  sd_cons (s1_unp hc l h (fun d' e => by subst e; exact ⟨ds, rfl, hl, k⟩) hs hw h1)
theorem sd_unpQ {es : List Expr} {is : List Nat} {kt : Nat} {tpos : Pos} (hc : X.calm = true) (l : Los X es is) (h : PQ X e env S) (k : ∀ d, S d → ∃ ds, d = .tup ds ∧ is.length = ds.length ∧ SD X rest (setAll env is ds) R)
    (hs : swapsWithSole [.Tuple es kt tpos] e pos.line X.env = pure false := by rfl) (hw : swappedStores [.Tuple es kt tpos] e X.env = pure none := by rfl)
    (h1 : (assignEach [.Tuple es kt tpos] X.env).map (·.2) = [assign (.Tuple es kt tpos) X.env] := by rfl) : SD X (.Assign [.Tuple es kt tpos] e pos :: rest) env R :=
  sd_cons (s1_unp hc l h k hs hw h1)
theorem sd_for {iter : Expr} {body : List Stmt} {ds : List Dt} (po : PassesOwn (model X.prog X.w) X.A X.env X.xe) (hc : X.calm = true) (l : Lo X x i) (hi : PId X (.Name x px) iter env ds) (Inv : Nat → List Sl → Prop) (h0 : Inv 0 env)
    (hs : ∀ (n : Nat) d env', ds[n]? = some d → Inv n env' → SD X body (env'.set i (.fz d)) { R with nx := Inv (n + 1), ct := Inv (n + 1), bk := fun env' => SD X rest env' R }) (hd : ∀ env', Inv ds.length env' → SD X rest env' R)
    (hf : ∀ x, foldedSetIterable iter X.env x = pure x := by intro _; rfl) : SD X (.For (.Name x px) iter body [] pos :: rest) env R :=
  sd_cons (s1_for po hc l hi Inv h0 hs hd hf)
theorem sd_for2 {iter : Expr} {es : List Expr} {is : List Nat} {kt : Nat} {tpos : Pos} {body : List Stmt} {ds : List Dt} (po : PassesOwn (model X.prog X.w) X.A X.env X.xe) (hc : X.calm = true) (l : Los X es is) (hi : PId X (.Tuple es kt tpos) iter env ds) (Inv : Nat → List Sl → Prop) (h0 : Inv 0 env)
    (hs : ∀ (n : Nat) d env', ds[n]? = some d → Inv n env' → ∃ es, d = .tup es ∧ is.length = es.length ∧ SD X body (setAll env' is es) { R with nx := Inv (n + 1), ct := Inv (n + 1), bk := fun env' => SD X rest env' R }) (hd : ∀ env', Inv ds.length env' → SD X rest env' R)
    (hf : ∀ x, foldedSetIterable iter X.env x = pure x := by intro _; rfl) : SD X (.For (.Tuple es kt tpos) iter body [] pos :: rest) env R :=
  sd_cons (s1_for2 po hc l hi Inv h0 hs hd hf)
theorem sd_while {body : List Stmt} (po : PassesOwn (model X.prog X.w) X.A X.env X.xe) (W : Nat → List Sl → Prop) (m0 : Nat) (h0 : W m0 env)
    (hs : ∀ m env', W m env' → ∃ b, PB X c env' b ∧ (b = true → SD X body env' { R with nx := fun e => ∃ m', m' < m ∧ W m' e, ct := fun e => ∃ m', m' < m ∧ W m' e, bk := fun env' => SD X rest env' R }) ∧ (b = false → SD X rest env' R)) : SD X (.While c body [] pos :: rest) env R :=
  sd_cons (s1_while po W m0 h0 hs)
theorem sd_lc {elt iter tg : Expr} {ifs : List Expr} {scope : Scope} {lpos spos : Pos} (l : LcD X elt tg iter ifs scope env d) (lo : Lo X x i) (hx : X.env.scope.names.lookup x = some .local)
    (hsw : swapsWith (.ListComp elt [⟨tg, iter, ifs, 0⟩] scope lpos) (some (.Name x px)) spos.line X.env = pure true) (k : SD X rest (env.set i (.fz d)) R) : SD X (.Assign [.Name x px] (.ListComp elt [⟨tg, iter, ifs, 0⟩] scope lpos) spos :: rest) env R :=
  sd_cons (s1_lc l lo hx k hsw)
end
end Fc

/-! Fc: a def by its body; what a body may call. -/
namespace Fc
open PySem PySem.Spec PyProof.Rows L2

/-- where one stands: a def's body, or a comprehension's block in it -/
structure Bs (X : Cx) (P : Program) (w : World) (K : PySem.W.Frag) (mg : Str → Option Value) (base : Heap) (N : List Str) (sc : Scope) (k : Nat) : Prop where
  eP : X.prog = P
  ew : X.w = w
  eK : X.K = K
  eM : X.mg = mg
  eB : X.base = base
  eN : X.N = N
  eS : X.env.scope = sc
  nd : N.Nodup
  calm : X.calm = true
  room : Room k X.A
/-- a def's body -/
structure Bd (X : Cx) (P : Program) (w : World) (K : PySem.W.Frag) (mg : Str → Option Value) (base : Heap) (N : List Str) (sc : Scope) (k : Nat) : Prop extends Bs X P w K mg base N sc k where
  fn : ∀ x, X.fn x = true
  po : PassesOwn (model X.prog X.w) X.A X.env X.xe
section
variable {X Y : Cx} {P : Program} {w : World} {K : PySem.W.Frag} {mg : Str → Option Value} {base : Heap} {N : List Str} {sc scope : Scope} {k : Nat}
theorem Bs.blk (b : Bs X P w K mg base N sc k) (y : Blk X scope Y) : Bs Y P w K mg base N (relS scope sc) k :=
  ⟨y.prog.trans b.eP, y.w.trans b.ew, y.K.trans b.eK, y.mg.trans b.eM, y.base.trans b.eB, y.N.trans b.eN, by rw [y.sc, b.eS], b.nd, y.calm.trans b.calm, by rw [y.A]; exact b.room⟩
theorem Bs.nm (b : Bs X P w K mg base N sc k) {x : Str} {i : Nat} (h : nmB N sc x i = true) : Nm X x i := Nm.of b.eN b.eS h
theorem Bd.lo (b : Bd X P w K mg base N sc k) {x : Str} {i : Nat} (h : loB N sc x i = true) : Lo X x i := Lo.of b.eN b.eS b.nd b.fn h
def lo2B (N : List Str) (sc : Scope) (x : Str) (i : Nat) : Bool := decide (N[i]? = some x) && decide (sc.names.lookup x = some .local)
/-- a plain local -/
theorem Bs.lo (b : Bs X P w K mg base N sc k) {x : Str} {i : Nat} (h : lo2B N sc x i = true) : Lo X x i := by
  unfold lo2B at h
  rw [Bool.and_eq_true, decide_eq_true_eq, decide_eq_true_eq] at h
  exact Lo.blk b.eN b.eS b.nd h.1 h.2
def glB (sc : Scope) (x : Str) : Bool := decide (sc.names.lookup x = some .globalImplicit) && !(x == ("__debug__" : Str))
theorem Bs.gl (b : Bs X P w K mg base N sc k) {x : Str} (h : glB sc x = true) : Gl X x ∧ (x == ("__debug__" : Str)) = false := by
  unfold glB at h
  rw [Bool.and_eq_true, decide_eq_true_eq, Bool.not_eq_true'] at h
  refine ⟨?_, h.2⟩
  unfold Gl Env.kindOf
  rw [b.eS]
  exact h.1
/-- a def of the module keeps its promise -/
structure Cal (P : Program) (w : World) (K : PySem.W.Frag) (mg : Str → Option Value) (base : Heap) (x : Str) (k : Nat) (R : List Dt → (Dt → Prop) → Prop) : Prop where
  ex : ∃ f fd ps, FnOk P w K mg base CX0 k f fd ps (spD K R) ∧ mg x = some (.ref f) ∧ PySem.W.keepIn K (.ref f) = true ∧ Binds K fd ps []
theorem Cal.at {x : Str} {j : Nat} {R : List Dt → (Dt → Prop) → Prop} (c : Cal P w K mg base x j R) (b : Bs X P w K mg base N sc k) (hj : j ≤ k) (h : glB sc x = true) : CalX X x R := by
  obtain ⟨f, fd, ps, F, hm, hk, hb⟩ := c.ex
  obtain ⟨b1, b2, b3, b4, b5, b6, b7, b8, b9, b10⟩ := b
  subst b1 b2 b3 b4 b5
  have g := Bs.gl (X := X) ⟨rfl, rfl, rfl, rfl, rfl, b6, b7, b8, b9, b10⟩ h
  exact ⟨⟨j, f, fd, ps, F, b10.mono hj, hm, hk, hb⟩, g.1, g.2⟩
/-- a method -/
structure Met (P : Program) (w : World) (K : PySem.W.Frag) (mg : Str → Option Value) (base : Heap) (C : Addr) (m : Str) (k : Nat) (R : List Dt → (Dt → Prop) → Prop) : Prop where
  ex : ∃ f fd ps, FnOk P w K mg base CX0 k f fd ps (spD K R) ∧ Meth K C m f ∧ Binds K fd ps []
theorem Met.at {C : Addr} {m : Str} {j : Nat} {R : List Dt → (Dt → Prop) → Prop} (c : Met P w K mg base C m j R) (cl : Cls K C) (b : Bs X P w K mg base N sc k) (hj : j ≤ k) : MetX X C m R := by
  obtain ⟨f, fd, ps, F, hm, hb⟩ := c.ex
  obtain ⟨b1, b2, b3, b4, b5, b6, b7, b8, b9, b10⟩ := b
  subst b1 b2 b3 b4 b5
  exact ⟨⟨j, f, fd, ps, F, b10.mono hj, hm, hb⟩, cl⟩
/-- a constant of the module -/
def McAt (K : PySem.W.Frag) (mg : Str → Option Value) (x : Str) (d : Dt) : Prop := ∃ u v, mg x = some u ∧ RelV v u ∧ ∀ G, Rep K G v d
theorem McAt.at {x : Str} {d : Dt} (c : McAt K mg x d) (b : Bs X P w K mg base N sc k) (h : glB sc x = true) : GC X x d := by
  obtain ⟨u, v, h1, h2, h3⟩ := c
  have g := b.gl h
  exact ⟨g.1, g.2, u, v, by rw [b.eM]; exact h1, h2, by rw [b.eK]; exact h3⟩
theorem Bs.bn (b : Bs X P w K mg base N sc k) {x : Str} {u : Value} (hm : mg x = none) (h : glB sc x = true) (hv : bootBuiltins x = some u) (hn : x ≠ "__name__") : BN X x u := by
  have g := b.gl h
  exact ⟨g.1, by rw [b.eM]; exact hm, hv, hn, g.2⟩
end

/-! ### a def -/
section
variable {P : Program} {w : World} {K : PySem.W.Frag} {mg : Str → Option Value} {base : Heap}
theorem sta_start {G H : Hp} {N : List Str} {vs : List V} {ds : List Dt} (e : Ex G H) (r : RepL K G vs ds) : Sta K G H G H (L2.start N vs) (ds.map .fz ++ List.replicate (N.length - ds.length) .un) := by
  have hl := r.len
  refine ⟨Ext.refl e, ?_, fun i s hs => ?_⟩
  · unfold L2.start
    simp only [List.length_append, List.length_map, List.length_replicate]
    rw [hl]
  · by_cases hi : i < ds.length
    · rw [List.getElem?_append_left (by rw [List.length_map]; exact hi), List.getElem?_map] at hs
      rw [List.getElem?_eq_getElem hi] at hs
      cases hs
      obtain ⟨v, hv, rv⟩ := r.get (List.getElem?_eq_getElem hi)
      refine ⟨v, ?_, rv⟩
      unfold L2.start
      rw [List.getElem?_append_left (by rw [List.length_map, hl]; exact hi), List.getElem?_map, hv]
      all_goals rfl
    · rw [List.getElem?_append_right (by rw [List.length_map]; omega), List.getElem?_replicate] at hs
      split at hs
      · cases hs
        exact trivial
      · cases hs
theorem def_ok {x qual : Str} {st : Stmt} {f : Addr} {fd : FuncData} {N ps : List Str} {k : Nat} {R : List Dt → (Dt → Prop) → Prop} (F : Fun K x qual st f fd) (S : FnScope N ps (defScope st)) (hlen : ∀ ds S, R ds S → ds.length = ps.length)
    (body : ∀ X : Cx, Bd X P w K mg base N (defScope st) k → ∀ ds S, R ds S → SD X (defBody st) (ds.map .fz ++ List.replicate (N.length - ds.length) .un) ⟨fun _ => S .non, S, fun _ => False, fun _ => False, fun _ _ => False⟩) :
    FnOk P w K mg base CX0 (k + 1) f fd ps (spD K R) := by
  refine F.ok S (fun vs H Q E h => ?_) (fun cdv A outer s H vs Q E hr h => ?_)
  · obtain ⟨G, ds, S', _, r, hR, _⟩ := h
    rw [r.len]
    exact hlen ds S' hR
  · obtain ⟨G, ds, S', ex, r, hR, q⟩ := h
    have B : Bd (cxOf CX0 P w K mg base N qual (defScope st) f cdv A outer s H E).nox P w K mg base N (defScope st) k := ⟨⟨rfl, rfl, rfl, rfl, rfl, rfl, rfl, S.nd, rfl, hr⟩, fun _ => rfl, PassesOwn.never⟩
    refine ⟨_, body _ B ds S' hR, G, H, G, sta_start ex r, fun σ G' H' env s' _ n => ?_, fun v d G' H' e r' n => q v d G' H' e r' n, fun _ _ _ _ _ _ z => z.elim, fun _ _ _ _ _ _ z => z.elim, fun _ _ _ _ _ _ _ _ _ z => z.elim⟩
    exact q .non .non G' H' s'.ext .non n
theorem sta_startM {G H : Hp} {N : List Str} {v0 : V} {d0 : Dt} {vs : List V} {ds : List Dt} (e : Ex G H) (r0 : Rep K H v0 d0) (r : RepL K G vs ds) : Sta K G H G H (L2.start N (v0 :: vs)) (.hf d0 :: ds.map .fz ++ List.replicate (N.length - (d0 :: ds).length) .un) := by
  have hl := r.len
  refine ⟨Ext.refl e, ?_, fun i s hs => ?_⟩
  · unfold L2.start
    simp only [List.length_append, List.length_map, List.length_replicate, List.length_cons]
    rw [hl]
  · cases i with
    | zero =>
      have e := Option.some.inj hs
      subst e
      exact ⟨v0, rfl, r0⟩
    | succ i =>
      have hs : (ds.map Sl.fz ++ List.replicate (N.length - (d0 :: ds).length) .un)[i]? = some s := hs
      by_cases hi : i < ds.length
      · rw [List.getElem?_append_left (by rw [List.length_map]; exact hi), List.getElem?_map] at hs
        rw [List.getElem?_eq_getElem hi] at hs
        cases hs
        obtain ⟨v, hv, rv⟩ := r.get (List.getElem?_eq_getElem hi)
        refine ⟨v, ?_, rv⟩
        unfold L2.start
        rw [List.getElem?_append_left (by rw [List.length_map, List.length_cons, hl]; omega), List.getElem?_map, List.getElem?_cons_succ, hv]
        all_goals rfl
      · rw [List.getElem?_append_right (by rw [List.length_map]; omega), List.getElem?_replicate] at hs
        split at hs
        · cases hs
          exact trivial
        · cases hs
theorem def_okM {x qual : Str} {st : Stmt} {f : Addr} {fd : FuncData} {N ps : List Str} {k : Nat} {R : List Dt → (Dt → Prop) → Prop} (F : Fun K x qual st f fd) (S : FnScope N ps (defScope st)) (hlen : ∀ ds S, R ds S → ds.length = ps.length)
    (body : ∀ X : Cx, Bd X P w K mg base N (defScope st) k → ∀ d0 ds S, R (d0 :: ds) S → SD X (defBody st) (.hf d0 :: ds.map .fz ++ List.replicate (N.length - (d0 :: ds).length) .un) ⟨fun _ => S .non, S, fun _ => False, fun _ => False, fun _ _ => False⟩) :
    FnOk P w K mg base CX0 (k + 1) f fd ps (spM K R) := by
  refine F.ok S (fun vs H Q E h => ?_) (fun cdv A outer s H vs Q E hr h => ?_)
  · obtain ⟨G, v0, vs', d0, ds, S', rfl, _, _, r, hR, _⟩ := h
    have := hlen _ S' hR
    rw [List.length_cons] at this ⊢
    rw [r.len]
    exact this
  · obtain ⟨G, v0, vs', d0, ds, S', rfl, ex, r0, r, hR, q⟩ := h
    have B : Bd (cxOf CX0 P w K mg base N qual (defScope st) f cdv A outer s H E).nox P w K mg base N (defScope st) k := ⟨⟨rfl, rfl, rfl, rfl, rfl, rfl, rfl, S.nd, rfl, hr⟩, fun _ => rfl, PassesOwn.never⟩
    refine ⟨_, body _ B d0 ds S' hR, G, H, G, sta_startM ex r0 r, fun σ G' H' env s' _ n => ?_, fun v d G' H' e r' n => q v d G' H' e r' n, fun _ _ _ _ _ _ z => z.elim, fun _ _ _ _ _ _ z => z.elim, fun _ _ _ _ _ _ _ _ _ z => z.elim⟩
    exact q .non .non G' H' s'.ext .non n
/-- where a def of the module stands -/
def DefAt (K : PySem.W.Frag) (mg : Str → Option Value) (x : Str) (st : Stmt) : Prop := ∃ f fd, Fun K x x st f fd ∧ mg x = some (.ref f)
def MetAt (K : PySem.W.Frag) (C : Addr) (m qual : Str) (st : Stmt) : Prop := ∃ f fd, Fun K m qual st f fd ∧ Meth K C m f
def HBind (x qual : Str) (st : Stmt) (ps : List Str) : Prop := ∀ (kV doc pm : Value) (an : Option Addr) (cdv ct : Value) (us : List Value), us.length = ps.length → bindArgs (PySem.W.fnOf x qual (defArgs st) (defBody st) (defScope st) .none kV doc pm an cdv ct) ⟨us, []⟩ = pure (ps.zip us)
theorem def_cal {x : Str} {st : Stmt} {N ps : List Str} (k : Nat) {R : List Dt → (Dt → Prop) → Prop} (D : DefAt K mg x st) (S : FnScope N ps (defScope st)) (hb : HBind x x st ps) (hlen : ∀ ds S, R ds S → ds.length = ps.length)
    (body : ∀ X : Cx, Bd X P w K mg base N (defScope st) k → ∀ ds S, R ds S → SD X (defBody st) (ds.map .fz ++ List.replicate (N.length - ds.length) .un) ⟨fun _ => S .non, S, fun _ => False, fun _ => False, fun _ _ => False⟩) :
    Cal P w K mg base x (k + 1) R := by
  obtain ⟨f, fd, F, hm⟩ := D
  exact ⟨f, fd, ps, def_ok F S hlen body, hm, F.kp, F.binds hb⟩
theorem met_cal {C : Addr} {m qual : Str} {st : Stmt} {N ps : List Str} (k : Nat) {R : List Dt → (Dt → Prop) → Prop} (D : MetAt K C m qual st) (S : FnScope N ps (defScope st)) (hb : HBind m qual st ps) (hlen : ∀ ds S, R ds S → ds.length = ps.length)
    (body : ∀ X : Cx, Bd X P w K mg base N (defScope st) k → ∀ ds S, R ds S → SD X (defBody st) (ds.map .fz ++ List.replicate (N.length - ds.length) .un) ⟨fun _ => S .non, S, fun _ => False, fun _ => False, fun _ _ => False⟩) :
    Met P w K mg base C m (k + 1) R := by
  obtain ⟨f, fd, F, hm⟩ := D
  exact ⟨f, fd, ps, def_ok F S hlen body, hm, F.binds hb⟩
structure MeM (P : Program) (w : World) (K : PySem.W.Frag) (mg : Str → Option Value) (base : Heap) (C : Addr) (m : Str) (k : Nat) (R : List Dt → (Dt → Prop) → Prop) : Prop where
  ex : ∃ f fd ps, FnOk P w K mg base CX0 k f fd ps (spM K R) ∧ Meth K C m f ∧ Binds K fd ps []
theorem MeM.at {X : Cx} {N : List Str} {sc : Scope} {k : Nat} {C : Addr} {m : Str} {j : Nat} {R : List Dt → (Dt → Prop) → Prop} (c : MeM P w K mg base C m j R) (cl : Cls K C) (b : Bs X P w K mg base N sc k) (hj : j ≤ k) : MetM X C m R := by
  obtain ⟨f, fd, ps, F, hm, hb⟩ := c.ex
  obtain ⟨b1, b2, b3, b4, b5, b6, b7, b8, b9, b10⟩ := b
  subst b1 b2 b3 b4 b5
  exact ⟨⟨j, f, fd, ps, F, b10.mono hj, hm, hb⟩, cl⟩
theorem met_calM {C : Addr} {m qual : Str} {st : Stmt} {N ps : List Str} (k : Nat) {R : List Dt → (Dt → Prop) → Prop} (D : MetAt K C m qual st) (S : FnScope N ps (defScope st)) (hb : HBind m qual st ps) (hlen : ∀ ds S, R ds S → ds.length = ps.length)
    (body : ∀ X : Cx, Bd X P w K mg base N (defScope st) k → ∀ d0 ds S, R (d0 :: ds) S → SD X (defBody st) (.hf d0 :: ds.map .fz ++ List.replicate (N.length - (d0 :: ds).length) .un) ⟨fun _ => S .non, S, fun _ => False, fun _ => False, fun _ _ => False⟩) :
    MeM P w K mg base C m (k + 1) R := by
  obtain ⟨f, fd, F, hm⟩ := D
  exact ⟨f, fd, ps, def_okM F S hlen body, hm, F.binds hb⟩
end
end Fc

/-! Fc: the text by places. Printed by gen.py. -/
namespace Fc
open PySem PySem.Spec PyProof.Rows L2
def topS (i : Nat) : Stmt := PySem.Challenge.pw_farthestcut_k40_whole_most_by_all_sides.main.body.getD i (.Pass ⟨0, 0, 0, 0⟩)

abbrev s_is_whole : Stmt := topS 9
abbrev N_is_whole : List Str := ["thing"]
theorem sc_is_whole : FnScope N_is_whole ["thing"] (defScope s_is_whole) := ⟨rfl, rfl, rfl, by decide +kernel, rfl, by decide +kernel, by decide +kernel⟩
theorem hb_is_whole : HBind "is_whole" "is_whole" s_is_whole ["thing"] := fun _ _ _ _ _ _ us hl => match us, hl with | [_], _ => rfl
abbrev s_divisor : Stmt := topS 10
abbrev N_divisor : List Str := ["one", "other"]
theorem sc_divisor : FnScope N_divisor ["one", "other"] (defScope s_divisor) := ⟨rfl, rfl, rfl, by decide +kernel, rfl, by decide +kernel, by decide +kernel⟩
theorem hb_divisor : HBind "divisor" "divisor" s_divisor ["one", "other"] := fun _ _ _ _ _ _ us hl => match us, hl with | [_, _], _ => rfl
abbrev s_is_ratio : Stmt := topS 11
abbrev N_is_ratio : List Str := ["thing"]
theorem sc_is_ratio : FnScope N_is_ratio ["thing"] (defScope s_is_ratio) := ⟨rfl, rfl, rfl, by decide +kernel, rfl, by decide +kernel, by decide +kernel⟩
theorem hb_is_ratio : HBind "is_ratio" "is_ratio" s_is_ratio ["thing"] := fun _ _ _ _ _ _ us hl => match us, hl with | [_], _ => rfl
abbrev s_is_name : Stmt := topS 12
abbrev N_is_name : List Str := ["thing", "sign"]
theorem sc_is_name : FnScope N_is_name ["thing"] (defScope s_is_name) := ⟨rfl, rfl, rfl, by decide +kernel, rfl, by decide +kernel, by decide +kernel⟩
theorem hb_is_name : HBind "is_name" "is_name" s_is_name ["thing"] := fun _ _ _ _ _ _ us hl => match us, hl with | [_], _ => rfl
abbrev s_lowest : Stmt := topS 15
abbrev N_lowest : List Str := ["top", "bottom", "share"]
theorem sc_lowest : FnScope N_lowest ["top", "bottom"] (defScope s_lowest) := ⟨rfl, rfl, rfl, by decide +kernel, rfl, by decide +kernel, by decide +kernel⟩
theorem hb_lowest : HBind "lowest" "lowest" s_lowest ["top", "bottom"] := fun _ _ _ _ _ _ us hl => match us, hl with | [_, _], _ => rfl
abbrev s_plus : Stmt := topS 16
abbrev N_plus : List Str := ["one", "other"]
theorem sc_plus : FnScope N_plus ["one", "other"] (defScope s_plus) := ⟨rfl, rfl, rfl, by decide +kernel, rfl, by decide +kernel, by decide +kernel⟩
theorem hb_plus : HBind "plus" "plus" s_plus ["one", "other"] := fun _ _ _ _ _ _ us hl => match us, hl with | [_, _], _ => rfl
abbrev s_minus : Stmt := topS 17
abbrev N_minus : List Str := ["one", "other"]
theorem sc_minus : FnScope N_minus ["one", "other"] (defScope s_minus) := ⟨rfl, rfl, rfl, by decide +kernel, rfl, by decide +kernel, by decide +kernel⟩
theorem hb_minus : HBind "minus" "minus" s_minus ["one", "other"] := fun _ _ _ _ _ _ us hl => match us, hl with | [_, _], _ => rfl
abbrev s_sum_of : Stmt := topS 18
abbrev N_sum_of : List Str := ["some", "found", "one"]
theorem sc_sum_of : FnScope N_sum_of ["some"] (defScope s_sum_of) := ⟨rfl, rfl, rfl, by decide +kernel, rfl, by decide +kernel, by decide +kernel⟩
theorem hb_sum_of : HBind "sum_of" "sum_of" s_sum_of ["some"] := fun _ _ _ _ _ _ us hl => match us, hl with | [_], _ => rfl
abbrev s_is_length : Stmt := topS 23
abbrev N_is_length : List Str := ["thing"]
theorem sc_is_length : FnScope N_is_length ["thing"] (defScope s_is_length) := ⟨rfl, rfl, rfl, by decide +kernel, rfl, by decide +kernel, by decide +kernel⟩
theorem hb_is_length : HBind "is_length" "is_length" s_is_length ["thing"] := fun _ _ _ _ _ _ us hl => match us, hl with | [_], _ => rfl
abbrev s_is_worth : Stmt := topS 24
abbrev N_is_worth : List Str := ["thing"]
theorem sc_is_worth : FnScope N_is_worth ["thing"] (defScope s_is_worth) := ⟨rfl, rfl, rfl, by decide +kernel, rfl, by decide +kernel, by decide +kernel⟩
theorem hb_is_worth : HBind "is_worth" "is_worth" s_is_worth ["thing"] := fun _ _ _ _ _ _ us hl => match us, hl with | [_], _ => rfl
abbrev s_is_tie : Stmt := topS 25
abbrev N_is_tie : List Str := ["thing", "one", "other", "word", "length", "worth"]
theorem sc_is_tie : FnScope N_is_tie ["thing"] (defScope s_is_tie) := ⟨rfl, rfl, rfl, by decide +kernel, rfl, by decide +kernel, by decide +kernel⟩
theorem hb_is_tie : HBind "is_tie" "is_tie" s_is_tie ["thing"] := fun _ _ _ _ _ _ us hl => match us, hl with | [_], _ => rfl
abbrev s_look_at_places : Stmt := topS 26
abbrev N_look_at_places : List Str := ["thing", "k"]
theorem sc_look_at_places : FnScope N_look_at_places ["thing"] (defScope s_look_at_places) := ⟨rfl, rfl, rfl, by decide +kernel, rfl, by decide +kernel, by decide +kernel⟩
theorem hb_look_at_places : HBind "look_at_places" "look_at_places" s_look_at_places ["thing"] := fun _ _ _ _ _ _ us hl => match us, hl with | [_], _ => rfl
abbrev s_look_at_ties : Stmt := topS 27
abbrev N_look_at_ties : List Str := ["places", "thing", "k"]
theorem sc_look_at_ties : FnScope N_look_at_ties ["places", "thing"] (defScope s_look_at_ties) := ⟨rfl, rfl, rfl, by decide +kernel, rfl, by decide +kernel, by decide +kernel⟩
theorem hb_look_at_ties : HBind "look_at_ties" "look_at_ties" s_look_at_ties ["places", "thing"] := fun _ _ _ _ _ _ us hl => match us, hl with | [_, _], _ => rfl
abbrev s_look_at_web : Stmt := topS 28
abbrev N_look_at_web : List Str := ["thing", "places", "ties", "first", "last"]
theorem sc_look_at_web : FnScope N_look_at_web ["thing"] (defScope s_look_at_web) := ⟨rfl, rfl, rfl, by decide +kernel, rfl, by decide +kernel, by decide +kernel⟩
theorem hb_look_at_web : HBind "look_at_web" "look_at_web" s_look_at_web ["thing"] := fun _ _ _ _ _ _ us hl => match us, hl with | [_], _ => rfl
abbrev s_is_tie_number : Stmt := topS 29
abbrev N_is_tie_number : List Str := ["web", "thing"]
theorem sc_is_tie_number : FnScope N_is_tie_number ["web", "thing"] (defScope s_is_tie_number) := ⟨rfl, rfl, rfl, by decide +kernel, rfl, by decide +kernel, by decide +kernel⟩
theorem hb_is_tie_number : HBind "is_tie_number" "is_tie_number" s_is_tie_number ["web", "thing"] := fun _ _ _ _ _ _ us hl => match us, hl with | [_, _], _ => rfl
abbrev s_is_taking : Stmt := topS 31
abbrev N_is_taking : List Str := ["web", "thing", "k"]
theorem sc_is_taking : FnScope N_is_taking ["web", "thing"] (defScope s_is_taking) := ⟨rfl, rfl, rfl, by decide +kernel, rfl, by decide +kernel, by decide +kernel⟩
theorem hb_is_taking : HBind "is_taking" "is_taking" s_is_taking ["web", "thing"] := fun _ _ _ _ _ _ us hl => match us, hl with | [_, _], _ => rfl
abbrev s_look_at_taking : Stmt := topS 32
abbrev N_look_at_taking : List Str := ["web", "thing"]
theorem sc_look_at_taking : FnScope N_look_at_taking ["web", "thing"] (defScope s_look_at_taking) := ⟨rfl, rfl, rfl, by decide +kernel, rfl, by decide +kernel, by decide +kernel⟩
theorem hb_look_at_taking : HBind "look_at_taking" "look_at_taking" s_look_at_taking ["web", "thing"] := fun _ _ _ _ _ _ us hl => match us, hl with | [_, _], _ => rfl
abbrev s_is_rooms : Stmt := topS 34
abbrev N_is_rooms : List Str := ["web", "thing", "room"]
theorem sc_is_rooms : FnScope N_is_rooms ["web", "thing"] (defScope s_is_rooms) := ⟨rfl, rfl, rfl, by decide +kernel, rfl, by decide +kernel, by decide +kernel⟩
theorem hb_is_rooms : HBind "is_rooms" "is_rooms" s_is_rooms ["web", "thing"] := fun _ _ _ _ _ _ us hl => match us, hl with | [_, _], _ => rfl
abbrev s_look_at_rooms : Stmt := topS 35
abbrev N_look_at_rooms : List Str := ["web", "thing"]
theorem sc_look_at_rooms : FnScope N_look_at_rooms ["web", "thing"] (defScope s_look_at_rooms) := ⟨rfl, rfl, rfl, by decide +kernel, rfl, by decide +kernel, by decide +kernel⟩
theorem hb_look_at_rooms : HBind "look_at_rooms" "look_at_rooms" s_look_at_rooms ["web", "thing"] := fun _ _ _ _ _ _ us hl => match us, hl with | [_, _], _ => rfl
abbrev s_going : Stmt := topS 36
abbrev N_going : List Str := ["web", "flow", "place", "found", "k"]
theorem sc_going : FnScope N_going ["web", "flow", "place"] (defScope s_going) := ⟨rfl, rfl, rfl, by decide +kernel, rfl, by decide +kernel, by decide +kernel⟩
theorem hb_going : HBind "going" "going" s_going ["web", "flow", "place"] := fun _ _ _ _ _ _ us hl => match us, hl with | [_, _, _], _ => rfl
abbrev s_amount_in : Stmt := topS 37
abbrev N_amount_in : List Str := ["web", "flow"]
theorem sc_amount_in : FnScope N_amount_in ["web", "flow"] (defScope s_amount_in) := ⟨rfl, rfl, rfl, by decide +kernel, rfl, by decide +kernel, by decide +kernel⟩
theorem hb_amount_in : HBind "amount_in" "amount_in" s_amount_in ["web", "flow"] := fun _ _ _ _ _ _ us hl => match us, hl with | [_, _], _ => rfl
abbrev s_amount_of : Stmt := topS 38
abbrev N_amount_of : List Str := ["web", "flow"]
theorem sc_amount_of : FnScope N_amount_of ["web", "flow"] (defScope s_amount_of) := ⟨rfl, rfl, rfl, by decide +kernel, rfl, by decide +kernel, by decide +kernel⟩
theorem hb_amount_of : HBind "amount_of" "amount_of" s_amount_of ["web", "flow"] := fun _ _ _ _ _ _ us hl => match us, hl with | [_, _], _ => rfl
abbrev s_is_side : Stmt := topS 39
abbrev N_is_side : List Str := ["web", "thing", "place"]
theorem sc_is_side : FnScope N_is_side ["web", "thing"] (defScope s_is_side) := ⟨rfl, rfl, rfl, by decide +kernel, rfl, by decide +kernel, by decide +kernel⟩
theorem hb_is_side : HBind "is_side" "is_side" s_is_side ["web", "thing"] := fun _ _ _ _ _ _ us hl => match us, hl with | [_, _], _ => rfl
abbrev s_leads_out : Stmt := topS 40
abbrev N_leads_out : List Str := ["tie", "side"]
theorem sc_leads_out : FnScope N_leads_out ["tie", "side"] (defScope s_leads_out) := ⟨rfl, rfl, rfl, by decide +kernel, rfl, by decide +kernel, by decide +kernel⟩
theorem hb_leads_out : HBind "leads_out" "leads_out" s_leads_out ["tie", "side"] := fun _ _ _ _ _ _ us hl => match us, hl with | [_, _], _ => rfl
abbrev s_room_in : Stmt := topS 41
abbrev N_room_in : List Str := ["web", "rooms", "taken", "side", "k"]
theorem sc_room_in : FnScope N_room_in ["web", "rooms", "taken", "side"] (defScope s_room_in) := ⟨rfl, rfl, rfl, by decide +kernel, rfl, by decide +kernel, by decide +kernel⟩
theorem hb_room_in : HBind "room_in" "room_in" s_room_in ["web", "rooms", "taken", "side"] := fun _ _ _ _ _ _ us hl => match us, hl with | [_, _, _, _], _ => rfl
abbrev s_room_of : Stmt := topS 42
abbrev N_room_of : List Str := ["web", "rooms", "taking", "side"]
theorem sc_room_of : FnScope N_room_of ["web", "rooms", "taking", "side"] (defScope s_room_of) := ⟨rfl, rfl, rfl, by decide +kernel, rfl, by decide +kernel, by decide +kernel⟩
theorem hb_room_of : HBind "room_of" "room_of" s_room_of ["web", "rooms", "taking", "side"] := fun _ _ _ _ _ _ us hl => match us, hl with | [_, _, _, _], _ => rfl
abbrev s_common_bottom : Stmt := topS 44
abbrev N_common_bottom : List Str := ["some", "found", "top", "bottom"]
theorem sc_common_bottom : FnScope N_common_bottom ["some"] (defScope s_common_bottom) := ⟨rfl, rfl, rfl, by decide +kernel, rfl, by decide +kernel, by decide +kernel⟩
theorem hb_common_bottom : HBind "common_bottom" "common_bottom" s_common_bottom ["some"] := fun _ _ _ _ _ _ us hl => match us, hl with | [_], _ => rfl
abbrev s_p_init : Stmt := inClass (topS 45) 0
abbrev N_p_init : List Str := ["self", "web", "rooms", "taken", "k", "room"]
theorem sc_p_init : FnScope N_p_init ["self", "web", "rooms", "taken"] (defScope s_p_init) := ⟨rfl, rfl, rfl, by decide +kernel, rfl, by decide +kernel, by decide +kernel⟩
theorem hb_p_init : HBind "__init__" "Pipes.__init__" s_p_init ["self", "web", "rooms", "taken"] := fun _ _ _ _ _ _ us hl => match us, hl with | [_, _, _, _], _ => rfl
abbrev s_p_spare : Stmt := inClass (topS 45) 1
abbrev N_p_spare : List Str := ["self", "k", "place", "one", "other", "word"]
theorem sc_p_spare : FnScope N_p_spare ["self", "k", "place"] (defScope s_p_spare) := ⟨rfl, rfl, rfl, by decide +kernel, rfl, by decide +kernel, by decide +kernel⟩
theorem hb_p_spare : HBind "spare" "Pipes.spare" s_p_spare ["self", "k", "place"] := fun _ _ _ _ _ _ us hl => match us, hl with | [_, _, _], _ => rfl
abbrev s_p_over : Stmt := inClass (topS 45) 2
abbrev N_p_over : List Str := ["self", "k", "place", "one", "other"]
theorem sc_p_over : FnScope N_p_over ["self", "k", "place"] (defScope s_p_over) := ⟨rfl, rfl, rfl, by decide +kernel, rfl, by decide +kernel, by decide +kernel⟩
theorem hb_p_over : HBind "over" "Pipes.over" s_p_over ["self", "k", "place"] := fun _ _ _ _ _ _ us hl => match us, hl with | [_, _, _], _ => rfl
abbrev s_p_reached : Stmt := inClass (topS 45) 3
abbrev N_p_reached : List Str := ["self", "found", "waiting", "place", "k"]
theorem sc_p_reached : FnScope N_p_reached ["self"] (defScope s_p_reached) := ⟨rfl, rfl, rfl, by decide +kernel, rfl, by decide +kernel, by decide +kernel⟩
theorem hb_p_reached : HBind "reached" "Pipes.reached" s_p_reached ["self"] := fun _ _ _ _ _ _ us hl => match us, hl with | [_], _ => rfl
abbrev s_p_back : Stmt := inClass (topS 45) 4
abbrev N_p_back : List Str := ["self", "found", "steps", "step"]
theorem sc_p_back : FnScope N_p_back ["self", "found"] (defScope s_p_back) := ⟨rfl, rfl, rfl, by decide +kernel, rfl, by decide +kernel, by decide +kernel⟩
theorem hb_p_back : HBind "back" "Pipes.back" s_p_back ["self", "found"] := fun _ _ _ _ _ _ us hl => match us, hl with | [_, _], _ => rfl
abbrev s_p_send : Stmt := inClass (topS 45) 5
abbrev N_p_send : List Str := ["self", "steps", "many", "k", "place"]
theorem sc_p_send : FnScope N_p_send ["self", "steps"] (defScope s_p_send) := ⟨rfl, rfl, rfl, by decide +kernel, rfl, by decide +kernel, by decide +kernel⟩
theorem hb_p_send : HBind "send" "Pipes.send" s_p_send ["self", "steps"] := fun _ _ _ _ _ _ us hl => match us, hl with | [_, _], _ => rfl
abbrev s_p_fill : Stmt := inClass (topS 45) 6
abbrev N_p_fill : List Str := ["self", "found", "place"]
theorem sc_p_fill : FnScope N_p_fill ["self"] (defScope s_p_fill) := ⟨rfl, rfl, rfl, by decide +kernel, rfl, by decide +kernel, by decide +kernel⟩
theorem hb_p_fill : HBind "fill" "Pipes.fill" s_p_fill ["self"] := fun _ _ _ _ _ _ us hl => match us, hl with | [_], _ => rfl
abbrev s_p_flow : Stmt := inClass (topS 45) 7
abbrev N_p_flow : List Str := ["self", "amount"]
theorem sc_p_flow : FnScope N_p_flow ["self"] (defScope s_p_flow) := ⟨rfl, rfl, rfl, by decide +kernel, rfl, by decide +kernel, by decide +kernel⟩
theorem hb_p_flow : HBind "flow" "Pipes.flow" s_p_flow ["self"] := fun _ _ _ _ _ _ us hl => match us, hl with | [_], _ => rfl
abbrev s_most_in : Stmt := topS 46
abbrev N_most_in : List Str := ["web", "rooms", "taken", "pipes", "side"]
theorem sc_most_in : FnScope N_most_in ["web", "rooms", "taken"] (defScope s_most_in) := ⟨rfl, rfl, rfl, by decide +kernel, rfl, by decide +kernel, by decide +kernel⟩
theorem hb_most_in : HBind "most_in" "most_in" s_most_in ["web", "rooms", "taken"] := fun _ _ _ _ _ _ us hl => match us, hl with | [_, _, _], _ => rfl
abbrev s_most_flow : Stmt := topS 47
abbrev N_most_flow : List Str := ["web", "rooms", "taking"]
theorem sc_most_flow : FnScope N_most_flow ["web", "rooms", "taking"] (defScope s_most_flow) := ⟨rfl, rfl, rfl, by decide +kernel, rfl, by decide +kernel, by decide +kernel⟩
theorem hb_most_flow : HBind "most_flow" "most_flow" s_most_flow ["web", "rooms", "taking"] := fun _ _ _ _ _ _ us hl => match us, hl with | [_, _, _], _ => rfl
abbrev s_law_draws : Stmt := topS 49
abbrev N_law_draws : List Str := ["_law_cell", "_law_tops", "_law_found", "_law_left", "_law_mixed", "_law_k"]
theorem sc_law_draws : FnScope N_law_draws ["_law_cell", "_law_tops"] (defScope s_law_draws) := ⟨rfl, rfl, rfl, by decide +kernel, rfl, by decide +kernel, by decide +kernel⟩
theorem hb_law_draws : HBind "_law_draws" "_law_draws" s_law_draws ["_law_cell", "_law_tops"] := fun _ _ _ _ _ _ us hl => match us, hl with | [_, _], _ => rfl
abbrev s_law_low : Stmt := topS 50
abbrev N_law_low : List Str := ["_law_top", "_law_bottom", "_law_one", "_law_other"]
theorem sc_law_low : FnScope N_law_low ["_law_top", "_law_bottom"] (defScope s_law_low) := ⟨rfl, rfl, rfl, by decide +kernel, rfl, by decide +kernel, by decide +kernel⟩
theorem hb_law_low : HBind "_law_low" "_law_low" s_law_low ["_law_top", "_law_bottom"] := fun _ _ _ _ _ _ us hl => match us, hl with | [_, _], _ => rfl
abbrev s_law_fraction : Stmt := topS 51
abbrev N_law_fraction : List Str := ["_law_d", "_law_top", "_law_bottom"]
theorem sc_law_fraction : FnScope N_law_fraction ["_law_d"] (defScope s_law_fraction) := ⟨rfl, rfl, rfl, by decide +kernel, rfl, by decide +kernel, by decide +kernel⟩
theorem hb_law_fraction : HBind "_law_fraction" "_law_fraction" s_law_fraction ["_law_d"] := fun _ _ _ _ _ _ us hl => match us, hl with | [_], _ => rfl
abbrev s_law_names : Stmt := topS 52
abbrev N_law_names : List Str := ["_law_d", "_law_many", "_law_some", "_law_names_here", "_law_k", "_law_e", "_law_name", "_law_at", "_law_j"]
theorem sc_law_names : FnScope N_law_names ["_law_d", "_law_many"] (defScope s_law_names) := ⟨rfl, rfl, rfl, by decide +kernel, rfl, by decide +kernel, by decide +kernel⟩
theorem hb_law_names : HBind "_law_names" "_law_names" s_law_names ["_law_d", "_law_many"] := fun _ _ _ _ _ _ us hl => match us, hl with | [_, _], _ => rfl
abbrev s_law_tie : Stmt := topS 53
abbrev N_law_tie : List Str := ["_law_cell", "_law_k", "_law_walk", "_law_d", "_law_at", "_law_other", "_law_worth"]
theorem sc_law_tie : FnScope N_law_tie ["_law_cell", "_law_k", "_law_walk"] (defScope s_law_tie) := ⟨rfl, rfl, rfl, by decide +kernel, rfl, by decide +kernel, by decide +kernel⟩
theorem hb_law_tie : HBind "_law_tie" "_law_tie" s_law_tie ["_law_cell", "_law_k", "_law_walk"] := fun _ _ _ _ _ _ us hl => match us, hl with | [_, _, _], _ => rfl
abbrev s_law_cells : Stmt := topS 54
abbrev N_law_cells : List Str := ["_law_script", "_law_d", "_law_many"]
theorem sc_law_cells : FnScope N_law_cells ["_law_script"] (defScope s_law_cells) := ⟨rfl, rfl, rfl, by decide +kernel, rfl, by decide +kernel, by decide +kernel⟩
theorem hb_law_cells : HBind "_law_cells" "_law_cells" s_law_cells ["_law_script"] := fun _ _ _ _ _ _ us hl => match us, hl with | [_], _ => rfl
abbrev s_law_web : Stmt := topS 55
abbrev N_law_web : List Str := ["_law_script", "_law_d", "_law_places", "_law_first", "_law_last", "_law_amid", "_law_walk", "_law_ties", "_law_k", "_law_place", "_law_cell"]
theorem sc_law_web : FnScope N_law_web ["_law_script"] (defScope s_law_web) := ⟨rfl, rfl, rfl, by decide +kernel, rfl, by decide +kernel, by decide +kernel⟩
theorem hb_law_web : HBind "_law_web" "_law_web" s_law_web ["_law_script"] := fun _ _ _ _ _ _ us hl => match us, hl with | [_], _ => rfl
abbrev s_law_rooms : Stmt := topS 56
abbrev N_law_rooms : List Str := ["_law_script", "_law_tops", "_law_cell"]
theorem sc_law_rooms : FnScope N_law_rooms ["_law_script"] (defScope s_law_rooms) := ⟨rfl, rfl, rfl, by decide +kernel, rfl, by decide +kernel, by decide +kernel⟩
theorem hb_law_rooms : HBind "_law_rooms" "_law_rooms" s_law_rooms ["_law_script"] := fun _ _ _ _ _ _ us hl => match us, hl with | [_], _ => rfl
abbrev s_law_plus : Stmt := topS 57
abbrev N_law_plus : List Str := ["_law_one", "_law_other", "_law_sign"]
theorem sc_law_plus : FnScope N_law_plus ["_law_one", "_law_other", "_law_sign"] (defScope s_law_plus) := ⟨rfl, rfl, rfl, by decide +kernel, rfl, by decide +kernel, by decide +kernel⟩
theorem hb_law_plus : HBind "_law_plus" "_law_plus" s_law_plus ["_law_one", "_law_other", "_law_sign"] := fun _ _ _ _ _ _ us hl => match us, hl with | [_, _, _], _ => rfl
abbrev s_law_going : Stmt := topS 58
abbrev N_law_going : List Str := ["_law_web_here", "_law_flow", "_law_place", "_law_found", "_law_k", "_law_tie_here"]
theorem sc_law_going : FnScope N_law_going ["_law_web_here", "_law_flow", "_law_place"] (defScope s_law_going) := ⟨rfl, rfl, rfl, by decide +kernel, rfl, by decide +kernel, by decide +kernel⟩
theorem hb_law_going : HBind "_law_going" "_law_going" s_law_going ["_law_web_here", "_law_flow", "_law_place"] := fun _ _ _ _ _ _ us hl => match us, hl with | [_, _, _], _ => rfl
abbrev s_law_bits : Stmt := topS 59
abbrev N_law_bits : List Str := ["_law_web_here", "_law_bits_here", "_law_k", "_law_tie_here"]
theorem sc_law_bits : FnScope N_law_bits ["_law_web_here", "_law_bits_here"] (defScope s_law_bits) := ⟨rfl, rfl, rfl, by decide +kernel, rfl, by decide +kernel, by decide +kernel⟩
theorem hb_law_bits : HBind "_law_bits" "_law_bits" s_law_bits ["_law_web_here", "_law_bits_here"] := fun _ _ _ _ _ _ us hl => match us, hl with | [_, _], _ => rfl
abbrev s_law_leads_out : Stmt := topS 60
abbrev N_law_leads_out : List Str := ["_law_tie_here", "_law_side"]
theorem sc_law_leads_out : FnScope N_law_leads_out ["_law_tie_here", "_law_side"] (defScope s_law_leads_out) := ⟨rfl, rfl, rfl, by decide +kernel, rfl, by decide +kernel, by decide +kernel⟩
theorem hb_law_leads_out : HBind "_law_leads_out" "_law_leads_out" s_law_leads_out ["_law_tie_here", "_law_side"] := fun _ _ _ _ _ _ us hl => match us, hl with | [_, _], _ => rfl
abbrev s_law_ints : Stmt := topS 61
abbrev N_law_ints : List Str := ["_law_rooms_here", "_law_bottom", "_law_top", "_law_part"]
theorem sc_law_ints : FnScope N_law_ints ["_law_rooms_here"] (defScope s_law_ints) := ⟨rfl, rfl, rfl, by decide +kernel, rfl, by decide +kernel, by decide +kernel⟩
theorem hb_law_ints : HBind "_law_ints" "_law_ints" s_law_ints ["_law_rooms_here"] := fun _ _ _ _ _ _ us hl => match us, hl with | [_], _ => rfl
abbrev s_law_sides : Stmt := topS 62
abbrev N_law_sides : List Str := ["_law_web_here", "_law_sides_here", "_law_place", "_law_side"]
theorem sc_law_sides : FnScope N_law_sides ["_law_web_here"] (defScope s_law_sides) := ⟨rfl, rfl, rfl, by decide +kernel, rfl, by decide +kernel, by decide +kernel⟩
theorem hb_law_sides : HBind "_law_sides" "_law_sides" s_law_sides ["_law_web_here"] := fun _ _ _ _ _ _ us hl => match us, hl with | [_], _ => rfl
abbrev s_law_least_room : Stmt := topS 63
abbrev N_law_least_room : List Str := ["_law_web_here", "_law_numbers", "_law_taken", "_law_found", "_law_side", "_law_out", "_law_k", "_law_tie_here"]
theorem sc_law_least_room : FnScope N_law_least_room ["_law_web_here", "_law_numbers", "_law_taken"] (defScope s_law_least_room) := ⟨rfl, rfl, rfl, by decide +kernel, rfl, by decide +kernel, by decide +kernel⟩
theorem hb_law_least_room : HBind "_law_least_room" "_law_least_room" s_law_least_room ["_law_web_here", "_law_numbers", "_law_taken"] := fun _ _ _ _ _ _ us hl => match us, hl with | [_, _, _], _ => rfl
abbrev s_law_most : Stmt := topS 64
abbrev N_law_most : List Str := ["_law_web_here", "_law_rooms_here", "_law_taking", "_law_flow", "_law_side", "_law_amount"]
theorem sc_law_most : FnScope N_law_most ["_law_web_here", "_law_rooms_here", "_law_taking"] (defScope s_law_most) := ⟨rfl, rfl, rfl, by decide +kernel, rfl, by decide +kernel, by decide +kernel⟩
theorem hb_law_most : HBind "_law_most" "_law_most" s_law_most ["_law_web_here", "_law_rooms_here", "_law_taking"] := fun _ _ _ _ _ _ us hl => match us, hl with | [_, _, _], _ => rfl
abbrev s_law_right : Stmt := topS 65
abbrev N_law_right : List Str := ["_law_web_here", "_law_rooms_here", "_law_numbers", "_law_taking", "_law_amount", "_law_least"]
theorem sc_law_right : FnScope N_law_right ["_law_web_here", "_law_rooms_here", "_law_numbers", "_law_taking"] (defScope s_law_right) := ⟨rfl, rfl, rfl, by decide +kernel, rfl, by decide +kernel, by decide +kernel⟩
theorem hb_law_right : HBind "_law_right" "_law_right" s_law_right ["_law_web_here", "_law_rooms_here", "_law_numbers", "_law_taking"] := fun _ _ _ _ _ _ us hl => match us, hl with | [_, _, _, _], _ => rfl
abbrev s_law : Stmt := topS 66
abbrev N_law : List Str := ["_law_script", "_law_web_here", "_law_rooms_here", "_law_numbers", "_law_whole", "_law_twice", "_law_cell", "_law_d", "_law_taking", "_law_least", "_law_fewer", "_law_more", "_law_room", "_law_k"]
theorem sc_law : FnScope N_law ["_law_script"] (defScope s_law) := ⟨rfl, rfl, rfl, by decide +kernel, rfl, by decide +kernel, by decide +kernel⟩
theorem hb_law : HBind "law" "law" s_law ["_law_script"] := fun _ _ _ _ _ _ us hl => match us, hl with | [_], _ => rfl
/-- what the top has left -/
structure Tx (K : PySem.W.Frag) (mg : Str → Option Value) (C : Addr) : Prop where
  d_is_whole : DefAt K mg "is_whole" s_is_whole
  d_divisor : DefAt K mg "divisor" s_divisor
  d_is_ratio : DefAt K mg "is_ratio" s_is_ratio
  d_is_name : DefAt K mg "is_name" s_is_name
  d_lowest : DefAt K mg "lowest" s_lowest
  d_plus : DefAt K mg "plus" s_plus
  d_minus : DefAt K mg "minus" s_minus
  d_sum_of : DefAt K mg "sum_of" s_sum_of
  d_is_length : DefAt K mg "is_length" s_is_length
  d_is_worth : DefAt K mg "is_worth" s_is_worth
  d_is_tie : DefAt K mg "is_tie" s_is_tie
  d_look_at_places : DefAt K mg "look_at_places" s_look_at_places
  d_look_at_ties : DefAt K mg "look_at_ties" s_look_at_ties
  d_look_at_web : DefAt K mg "look_at_web" s_look_at_web
  d_is_tie_number : DefAt K mg "is_tie_number" s_is_tie_number
  d_is_taking : DefAt K mg "is_taking" s_is_taking
  d_look_at_taking : DefAt K mg "look_at_taking" s_look_at_taking
  d_is_rooms : DefAt K mg "is_rooms" s_is_rooms
  d_look_at_rooms : DefAt K mg "look_at_rooms" s_look_at_rooms
  d_going : DefAt K mg "going" s_going
  d_amount_in : DefAt K mg "amount_in" s_amount_in
  d_amount_of : DefAt K mg "amount_of" s_amount_of
  d_is_side : DefAt K mg "is_side" s_is_side
  d_leads_out : DefAt K mg "leads_out" s_leads_out
  d_room_in : DefAt K mg "room_in" s_room_in
  d_room_of : DefAt K mg "room_of" s_room_of
  d_common_bottom : DefAt K mg "common_bottom" s_common_bottom
  d_p_spare : MetAt K C "spare" "Pipes.spare" s_p_spare
  d_p_over : MetAt K C "over" "Pipes.over" s_p_over
  d_p_reached : MetAt K C "reached" "Pipes.reached" s_p_reached
  d_p_back : MetAt K C "back" "Pipes.back" s_p_back
  d_p_send : MetAt K C "send" "Pipes.send" s_p_send
  d_p_fill : MetAt K C "fill" "Pipes.fill" s_p_fill
  d_p_flow : MetAt K C "flow" "Pipes.flow" s_p_flow
  d_most_in : DefAt K mg "most_in" s_most_in
  d_most_flow : DefAt K mg "most_flow" s_most_flow
  d_law_draws : DefAt K mg "_law_draws" s_law_draws
  d_law_low : DefAt K mg "_law_low" s_law_low
  d_law_fraction : DefAt K mg "_law_fraction" s_law_fraction
  d_law_names : DefAt K mg "_law_names" s_law_names
  d_law_tie : DefAt K mg "_law_tie" s_law_tie
  d_law_cells : DefAt K mg "_law_cells" s_law_cells
  d_law_web : DefAt K mg "_law_web" s_law_web
  d_law_rooms : DefAt K mg "_law_rooms" s_law_rooms
  d_law_plus : DefAt K mg "_law_plus" s_law_plus
  d_law_going : DefAt K mg "_law_going" s_law_going
  d_law_bits : DefAt K mg "_law_bits" s_law_bits
  d_law_leads_out : DefAt K mg "_law_leads_out" s_law_leads_out
  d_law_ints : DefAt K mg "_law_ints" s_law_ints
  d_law_sides : DefAt K mg "_law_sides" s_law_sides
  d_law_least_room : DefAt K mg "_law_least_room" s_law_least_room
  d_law_most : DefAt K mg "_law_most" s_law_most
  d_law_right : DefAt K mg "_law_right" s_law_right
  d_law : DefAt K mg "law" s_law
  i_init : ∃ f fd, Fun K "__init__" "Pipes.__init__" s_p_init f fd ∧ Mk K C f
  cl : Cls K C
  mgC : mg "Pipes" = some (.ref C)
  na_net : NoAttr K C "net"
  na_bottom : NoAttr K C "bottom"
  na_rooms : NoAttr K C "rooms"
  na_amounts : NoAttr K C "amounts"
  c_nought : McAt K mg "NOUGHT" (.tup [.int 0, .int 1])
  c_signs : McAt K mg "MOST_SIGNS" (.int 8)
  c_letters : McAt K mg "LETTERS" (.str "abcdefghijklmnopqrstuvwxyz")
  c_least : McAt K mg "LEAST_PLACES" (.int 2)
  c_most : McAt K mg "MOST_PLACES" (.int 7)
  c_ties : McAt K mg "MOST_TIES" (.int 14)
  b_isinstance : mg "isinstance" = none
  b_int : mg "int" = none
  b_bool : mg "bool" = none
  b_tuple : mg "tuple" = none
  b_list : mg "list" = none
  b_str : mg "str" = none
  b_len : mg "len" = none
  b_abs : mg "abs" = none
  b_min : mg "min" = none
  b_range : mg "range" = none
  b_enumerate : mg "enumerate" = none
section
variable {X : Cx} {P : Program} {w : World} {K : PySem.W.Frag} {mg : Str → Option Value} {base : Heap} {N : List Str} {sc : Scope} {k : Nat} {C : Addr}
theorem Bs.b_isinstance (b : Bs X P w K mg base N sc k) (T : Tx K mg C) (h : glB sc "isinstance" = true) : BN X "isinstance" (.builtin "isinstance") := b.bn T.b_isinstance h (by decide +kernel) (by decide +kernel)
theorem Bs.b_int (b : Bs X P w K mg base N sc k) (T : Tx K mg C) (h : glB sc "int" = true) : BN X "int" (.type "int") := b.bn T.b_int h (by decide +kernel) (by decide +kernel)
theorem Bs.b_bool (b : Bs X P w K mg base N sc k) (T : Tx K mg C) (h : glB sc "bool" = true) : BN X "bool" (.type "bool") := b.bn T.b_bool h (by decide +kernel) (by decide +kernel)
theorem Bs.b_tuple (b : Bs X P w K mg base N sc k) (T : Tx K mg C) (h : glB sc "tuple" = true) : BN X "tuple" (.type "tuple") := b.bn T.b_tuple h (by decide +kernel) (by decide +kernel)
theorem Bs.b_list (b : Bs X P w K mg base N sc k) (T : Tx K mg C) (h : glB sc "list" = true) : BN X "list" (.type "list") := b.bn T.b_list h (by decide +kernel) (by decide +kernel)
theorem Bs.b_str (b : Bs X P w K mg base N sc k) (T : Tx K mg C) (h : glB sc "str" = true) : BN X "str" (.type "str") := b.bn T.b_str h (by decide +kernel) (by decide +kernel)
theorem Bs.b_len (b : Bs X P w K mg base N sc k) (T : Tx K mg C) (h : glB sc "len" = true) : BN X "len" (.builtin "len") := b.bn T.b_len h (by decide +kernel) (by decide +kernel)
theorem Bs.b_abs (b : Bs X P w K mg base N sc k) (T : Tx K mg C) (h : glB sc "abs" = true) : BN X "abs" (.builtin "abs") := b.bn T.b_abs h (by decide +kernel) (by decide +kernel)
theorem Bs.b_min (b : Bs X P w K mg base N sc k) (T : Tx K mg C) (h : glB sc "min" = true) : BN X "min" (.builtin "min") := b.bn T.b_min h (by decide +kernel) (by decide +kernel)
theorem Bs.b_range (b : Bs X P w K mg base N sc k) (T : Tx K mg C) (h : glB sc "range" = true) : BN X "range" (.type "range") := b.bn T.b_range h (by decide +kernel) (by decide +kernel)
theorem Bs.b_enumerate (b : Bs X P w K mg base N sc k) (T : Tx K mg C) (h : glB sc "enumerate" = true) : BN X "enumerate" (.type "enumerate") := b.bn T.b_enumerate h (by decide +kernel) (by decide +kernel)
end
end Fc

/-! Fc: fractions, plainly. -/
namespace Fc
def gcdI (a b : Int) : Int := (Int.gcd a b : Nat)
theorem gcdI_pos {a b : Int} (h : 0 < b) : 0 < gcdI a b := by
  unfold gcdI
  have : 0 < Int.gcd a b := Int.gcd_pos_of_ne_zero_right a (by omega)
  omega
theorem gcdI_dvd_left (a b : Int) : gcdI a b ∣ a := Int.gcd_dvd_left a b
theorem gcdI_dvd_right (a b : Int) : gcdI a b ∣ b := Int.gcd_dvd_right a b
theorem gcdI_le {a b : Int} (h : 0 < b) : gcdI a b ≤ b := Int.le_of_dvd h (gcdI_dvd_right a b)
/-- in lowest terms -/
def low (t b : Int) : Int × Int := (t / gcdI t b, b / gcdI t b)
theorem low_snd_pos {t b : Int} (h : 0 < b) : 0 < (low t b).2 := by
  show 0 < b / gcdI t b
  exact Int.ediv_pos_of_pos_of_dvd h (Int.le_of_lt (gcdI_pos h)) (gcdI_dvd_right t b)
theorem low_mul {t b : Int} (h : 0 < b) : (low t b).1 * b = t * (low t b).2 := by
  show t / gcdI t b * b = t * (b / gcdI t b)
  have h1 := Int.ediv_mul_cancel (gcdI_dvd_left t b)
  have h2 := Int.ediv_mul_cancel (gcdI_dvd_right t b)
  generalize t / gcdI t b = x at *
  generalize b / gcdI t b = y at *
  generalize gcdI t b = g at *
  rw [← h1, ← h2, Int.mul_assoc, Int.mul_comm y g]
theorem low_gcd {t b : Int} (h : 0 < b) : gcdI (low t b).1 (low t b).2 = 1 := by
  unfold gcdI low
  have hg : 0 < Int.gcd t b := Int.gcd_pos_of_ne_zero_right t (by omega)
  have := Int.gcd_ediv_gcd_ediv_gcd (i := t) (j := b) hg
  show ((Int.gcd (t / (Int.gcd t b : Nat)) (b / (Int.gcd t b : Nat)) : Nat) : Int) = 1
  rw [this]
  rfl
/-- a fraction as it should be -/
structure Fr (q : Int × Int) : Prop where
  pos : 0 < q.2
  cop : gcdI q.1 q.2 = 1
theorem low_fr {t b : Int} (h : 0 < b) : Fr (low t b) := ⟨low_snd_pos h, low_gcd h⟩
theorem Fr.dvd {q : Int × Int} (f : Fr q) {x y : Int} (h : q.1 * y = x * q.2) : q.2 ∣ y := by
  have h1 : q.2 ∣ q.1 * y := ⟨x, by rw [h, Int.mul_comm]⟩
  have h2 : (Int.gcd q.2 q.1 : Int) = 1 := by
    rw [Int.gcd_comm]
    exact f.cop
  have h3 := Int.dvd_gcd_mul_iff_dvd_mul.mpr h1
  rw [h2, Int.one_mul] at h3
  exact h3
theorem Fr.eq {q r : Int × Int} (f : Fr q) (g : Fr r) (h : q.1 * r.2 = r.1 * q.2) : q = r := by
  have h1 : q.2 ∣ r.2 := f.dvd h
  have h2 : r.2 ∣ q.2 := g.dvd h.symm
  have e : q.2 = r.2 := Int.dvd_antisymm (Int.le_of_lt f.pos) (Int.le_of_lt g.pos) h1 h2
  have hp := f.pos
  have e1 : q.1 = r.1 := by
    rw [← e] at h
    exact Int.eq_of_mul_eq_mul_right (by omega) h
  exact Prod.ext e1 e
theorem Fr.low {q : Int × Int} (f : Fr q) {x b : Int} (hb : 0 < b) (h : q.1 * b = x * q.2) : q = Fc.low x b := by
  refine f.eq (low_fr hb) ?_
  have h2 := low_mul (t := x) hb
  have p1 := f.pos
  refine Int.eq_of_mul_eq_mul_right (a := b) (by omega) ?_
  calc q.1 * (Fc.low x b).2 * b = (q.1 * b) * (Fc.low x b).2 := by rw [Int.mul_assoc, Int.mul_comm (Fc.low x b).2 b, ← Int.mul_assoc]
    _ = (x * (Fc.low x b).2) * q.2 := by rw [h, Int.mul_assoc, Int.mul_comm q.2, ← Int.mul_assoc]
    _ = (Fc.low x b).1 * q.2 * b := by rw [← h2, Int.mul_assoc, Int.mul_comm b q.2, ← Int.mul_assoc]
theorem low_self {q : Int × Int} (f : Fr q) : low q.1 q.2 = q := (f.low f.pos rfl).symm
def plusF (p q : Int × Int) : Int × Int := low (p.1 * q.2 + q.1 * p.2) (p.2 * q.2)
def minusF (p q : Int × Int) : Int × Int := low (p.1 * q.2 - q.1 * p.2) (p.2 * q.2)
theorem cross {a b c d x y B : Int} (h1 : a * B = x * b) (h2 : c * B = y * d) : (a * d + c * b) * B = (x + y) * (b * d) := by
  rw [Int.add_mul, Int.add_mul]
  have e1 : a * d * B = x * (b * d) := by
    rw [Int.mul_assoc, Int.mul_comm d B, ← Int.mul_assoc, h1, Int.mul_assoc]
  have e2 : c * b * B = y * (b * d) := by
    rw [Int.mul_assoc, Int.mul_comm b B, ← Int.mul_assoc, h2, Int.mul_assoc, Int.mul_comm d b]
  rw [e1, e2]
theorem low_val {t b x B : Int} (hb : 0 < b) (hB : 0 < B) (h : t * B = x * b) : low t b = low x B := by
  refine (low_fr hb).low hB ?_
  have h2 := low_mul (t := t) hb
  refine Int.eq_of_mul_eq_mul_right (a := b) (by omega) ?_
  calc (low t b).1 * B * b = (low t b).1 * b * B := by rw [Int.mul_assoc, Int.mul_comm B b, ← Int.mul_assoc]
    _ = t * B * (low t b).2 := by rw [h2, Int.mul_assoc, Int.mul_comm _ B, ← Int.mul_assoc]
    _ = x * (low t b).2 * b := by rw [h, Int.mul_assoc, Int.mul_comm b, ← Int.mul_assoc]
theorem low_add {x y B : Int} (hB : 0 < B) : plusF (low x B) (low y B) = low (x + y) B := by
  have h1 := low_snd_pos (t := x) hB
  have h2 := low_snd_pos (t := y) hB
  exact low_val (Int.mul_pos h1 h2) hB (cross (low_mul hB) (low_mul hB))
theorem low_sub {x y B : Int} (hB : 0 < B) : minusF (low x B) (low y B) = low (x - y) B := by
  have h1 := low_snd_pos (t := x) hB
  have h2 := low_snd_pos (t := y) hB
  refine low_val (Int.mul_pos h1 h2) hB ?_
  have := cross (c := -(low y B).1) (d := (low y B).2) (y := -y) (low_mul (t := x) hB) (by rw [Int.neg_mul, Int.neg_mul, low_mul hB])
  rw [Int.neg_mul, ← Int.sub_eq_add_neg, ← Int.sub_eq_add_neg] at this
  exact this
theorem low_zero {B : Int} (hB : 0 < B) : low 0 B = (0, 1) := by
  refine ((⟨by decide, by decide⟩ : Fr (0, 1)).low hB ?_).symm
  simp
theorem low_le {t b : Int} (hb : 0 < b) : (low t b).2 ≤ b := Int.ediv_le_self _ (Int.le_of_lt hb)
theorem low_abs {t b : Int} (hb : 0 < b) : (low t b).1.natAbs ≤ t.natAbs := by
  show (t / gcdI t b).natAbs ≤ t.natAbs
  obtain ⟨c, hc⟩ := gcdI_dvd_left t b
  have hg := gcdI_pos (a := t) hb
  have e : t / gcdI t b = c := Int.ediv_eq_of_eq_mul_right (by omega) hc
  rw [e]
  have : t.natAbs = (gcdI t b).natAbs * c.natAbs := by rw [← Int.natAbs_mul, ← hc]
  rw [this]
  exact Nat.le_mul_of_pos_left _ (by omega)

/-! ### sizes -/
/-- of less than n bits -/
def Sz (n : Nat) (i : Int) : Prop := i.natAbs < 2 ^ n
theorem Sz.mono {a b : Nat} {i : Int} (h : Sz a i) (e : a ≤ b) : Sz b i := Nat.lt_of_lt_of_le h (Nat.pow_le_pow_right (by decide) e)
theorem Sz.mul {a b : Nat} {i j : Int} (h : Sz a i) (g : Sz b j) : Sz (a + b) (i * j) := by
  unfold Sz at *
  rw [Int.natAbs_mul, Nat.pow_add]
  exact Nat.mul_lt_mul'' h g
theorem Sz.add {a : Nat} {i j : Int} (h : Sz a i) (g : Sz a j) : Sz (a + 1) (i + j) := by
  unfold Sz at *
  have := Int.natAbs_add_le i j
  rw [Nat.pow_succ]
  omega
theorem Sz.neg {a : Nat} {i : Int} (h : Sz a i) : Sz a (-i) := by
  unfold Sz at *
  rw [Int.natAbs_neg]
  exact h
theorem Sz.sub {a : Nat} {i j : Int} (h : Sz a i) (g : Sz a j) : Sz (a + 1) (i - j) := by
  rw [Int.sub_eq_add_neg]
  exact h.add g.neg
theorem Sz.of_le {a : Nat} {i j : Int} (h : Sz a j) (e : i.natAbs ≤ j.natAbs) : Sz a i := Nat.lt_of_le_of_lt e h
end Fc

open Fc in
local macro_rules | `(tactic| walk_at "fc nm") => `(tactic| with_reducible assumption)
open Fc in
local macro_rules | `(tactic| walk_at "fc side") => `(tactic| first | assumption | omega | decide | (with_reducible rfl))
open Fc in
local macro_rules | `(tactic| walk_at "fc op") => `(tactic| first
  | exact Fc.bin_add | exact Fc.bin_sub
  | exact Fc.bin_mul (by walk_at "fc side") | exact Fc.bin_fdiv (by walk_at "fc side") | exact Fc.bin_mod (by walk_at "fc side")
  | exact Fc.bin_addS (by walk_at "fc side") | exact Fc.bin_addL (by walk_at "fc side")
  | exact Fc.bin_shr (by walk_at "fc side") | exact Fc.bin_and | exact Fc.bin_pow (by walk_at "fc side"))
open Fc in
local macro_rules | `(tactic| walk_at "fc cmp") => `(tactic| first
  | exact Fc.cmp_lt | exact Fc.cmp_le | exact Fc.cmp_gt | exact Fc.cmp_ge | exact Fc.cmp_eqI | exact Fc.cmp_eqS | exact Fc.cmp_neI | exact Fc.cmp_neS | exact Fc.cmp_neB
  | exact Fc.cmp_isN | exact Fc.cmp_notN | exact Fc.cmp_inSL | exact Fc.cmp_niSL | exact Fc.cmp_inIL | exact Fc.cmp_niIL | exact Fc.cmp_inS2 | exact Fc.cmp_niS2 | exact Fc.cmp_niI2 | exact Fc.cmp_inC | exact Fc.cmp_niC
  | assumption)
open Fc in
local macro_rules | `(tactic| walk_at "fc ix") => `(tactic| first
  | exact Fc.ix_tp (by assumption) | exact Fc.ix_lst (by assumption) | exact Fc.ix_tp rfl | exact Fc.ix_lst rfl | exact Fc.ix_st (by walk_at "fc side") (by assumption) | assumption)
open Fc in
local macro_rules | `(tactic| walk_at "fc cd") => `(tactic| first
  | exact Fc.cd_lenL | exact Fc.cd_lenT | exact Fc.cd_lenS (by walk_at "fc side") | exact Fc.cd_abs | exact Fc.cd_isTup | exact Fc.cd_isLst | exact Fc.cd_isStr | exact Fc.cd_isInt | exact Fc.cd_isBool | assumption)
open Fc in
local macro_rules | `(tactic| walk_at "fc spec") => `(tactic| first | assumption | (constructor <;> walk_at "fc side"))
open Fc in
local macro_rules | `(tactic| walk_at "fc evs") => `(tactic| first
  | exact Fc.pvs_nil
  | (refine' Fc.pvs_cons ?h1 ?h2; (case h1 => walk_at "fc ev"); (case h2 => walk_at "fc evs")))
open Fc in
local macro_rules | `(tactic| walk_at "fc ev") => `(tactic| first
  | exact Fc.pv (by walk_at "fc nm") rfl
  | exact Fc.pv_int | exact Fc.pv_str | exact Fc.pv_bl | exact Fc.pv_non
  | exact Fc.pv_glob (by walk_at "fc nm") | exact Fc.pv_bty (by walk_at "fc nm")
  | (refine' Fc.pv_rep ?h1 ?h2 ?h3 ?h4 ?h5 ?h6; (case h1 => walk_at "fc evs"); (case h2 => walk_at "fc ev"); (case h3 => exact Nat.le_of_ble_eq_true rfl); (case h4 => walk_at "fc side"); (case h5 => walk_at "fc side"); (case h6 => walk_at "fc side"))
  | (refine' Fc.pv_bin ?h1 ?h2 ?h3; (case h1 => walk_at "fc ev"); (case h2 => walk_at "fc ev"); (case h3 => walk_at "fc op"))
  | (refine' Fc.pv_slice ?h1 ?h2 ?h3 ?h4; (case h1 => walk_at "fc ev"); (case h2 => walk_at "fc po"); (case h3 => walk_at "fc po"); (case h4 => walk_at "fc sl"))
  | (refine' Fc.pv_ix ?h1 ?h2 ?h3; (case h1 => walk_at "fc ev"); (case h2 => walk_at "fc ev"); (case h3 => walk_at "fc ix"))
  | (refine' Fc.pv_attr ?h1 ?h2 ?h3 ?h4; (case h1 => walk_at "fc ev"); (case h2 => walk_at "fc nm"); (case h3 => walk_at "fc nm"); (case h4 => walk_at "fc fld"))
  | (refine' Fc.pv_call ?h1 ?h2 ?h3; (case h1 => walk_at "fc nm"); (case h2 => walk_at "fc evs"); (case h3 => walk_at "fc spec"))
  | (refine' Fc.pv_meth ?h1 ?h2 ?h3 ?h4 ?h5; (case h1 => walk_at "fc nm"); (case h2 => walk_at "fc ev"); (case h3 => walk_at "fc fld"); (case h4 => walk_at "fc evs"); (case h5 => walk_at "fc spec"))
  | (refine' Fc.pv_callB ?h1 ?h2 ?h3; (case h1 => walk_at "fc nm"); (case h2 => walk_at "fc evs"); (case h3 => walk_at "fc cd"))
  | (refine' Fc.pv_cmp ?h1 ?h2 ?h3; (case h1 => walk_at "fc ev"); (case h2 => walk_at "fc ev"); (case h3 => walk_at "fc cmp"))
  | (refine' Fc.pv_tup ?h1 ?h2; (case h1 => walk_at "fc evs"); (case h2 => exact Nat.le_of_ble_eq_true rfl)) | (refine' Fc.pv_lst ?h1 ?h2; (case h1 => walk_at "fc evs"); (case h2 => exact Nat.le_of_ble_eq_true rfl))
  | (refine' Fc.pv_and ?h1 ?h2; (case h1 => walk_at "fc ev"); (case h2 => intro _; walk_at "fc ev"))
  | (refine' Fc.pv_or ?h1 ?h2; (case h1 => walk_at "fc ev"); (case h2 => intro _; walk_at "fc ev"))
  | (refine' Fc.pv_not ?h1; (case h1 => walk_at "fc ev"))
  | (refine' Fc.pv_neg ?h1; (case h1 => walk_at "fc ev"))
  | assumption)
open Fc in
local macro_rules | `(tactic| walk_at "fc po") => `(tactic| first
  | exact Fc.po_no | (refine' Fc.po_yes ?h1; (case h1 => walk_at "fc ev")))
open Fc in
local macro_rules | `(tactic| walk_at "fc sl") => `(tactic| first
  | assumption | exact Fc.sl_lst | exact Fc.sl_st (by walk_at "fc side") | exact Fc.sl_tp (by walk_at "fc side"))
open Fc in
local macro_rules | `(tactic| walk_at "fc fld") => `(tactic| first | with_reducible assumption | assumption | rfl)
open Fc in
local macro_rules | `(tactic| walk_at "fc t") => `(tactic| first
  | (refine' Fc.pb_and ?h1 ?h2; (case h1 => walk_at "fc t"); (case h2 => intro _; walk_at "fc t"))
  | (refine' Fc.pb_or3 ?h1 ?h2 ?h3; (case h1 => walk_at "fc t"); (case h2 => intro _; walk_at "fc t"); (case h3 => intro _ _; walk_at "fc t"))
  | (refine' Fc.pb_or ?h1 ?h2; (case h1 => walk_at "fc t"); (case h2 => intro _; walk_at "fc t"))
  | (refine' Fc.pb_not ?h1; (case h1 => walk_at "fc t"))
  | (refine' Fc.pb_cmp ?h1 ?h2 ?h3; (case h1 => walk_at "fc ev"); (case h2 => walk_at "fc ev"); (case h3 => walk_at "fc cmp"))
  | (refine' Fc.pb_val ?h1; (case h1 => walk_at "fc ev")))
namespace Fc
open PySem PySem.Spec PyProof.Rows L2
section
variable {P : Program} {w : World} {K : PySem.W.Frag} {mg : Str → Option Value} {base : Heap} {C : Addr}

abbrev frD (q : Int × Int) : Dt := .tup [.int q.1, .int q.2]
theorem mulOk {a b : Nat} {i j : Int} (h : Sz a i) (g : Sz b j) (ha : 0 < a := by decide) (hb : 0 < b := by decide) (hs : a + b ≤ 1000000 := by decide) : CMulW i j := wide_mul h g ha hb hs
theorem divOk {b : Nat} {i j : Int} (h : 0 < j) (g : Sz b j) (hb : 0 < b := by decide) (hs : b ≤ 9000 := by decide) : CDivW i j := wide_div h g hb hs
theorem Bs.loc {X : Cx} {N : List Str} {sc : Scope} {k : Nat} (b : Bs X P w K mg base N sc k) {x : Str} {i : Nat} (h : lo2B N sc x i = true) : X.env.scope.names.lookup x = some .local := by
  unfold lo2B at h
  rw [Bool.and_eq_true, decide_eq_true_eq, decide_eq_true_eq] at h
  rw [b.eS]
  exact h.2
theorem abs_gcd (a b : Int) : gcdI (if a < 0 then -a else a) (if b < 0 then -b else b) = gcdI a b := by
  unfold gcdI
  split <;> split <;> simp [Int.gcd_neg, Int.neg_gcd]
theorem gcdI_step {a b : Int} (ha : 0 ≤ a) (hb : 0 < b) : gcdI b (a % b) = gcdI a b := by
  obtain ⟨m, rfl⟩ := Int.eq_ofNat_of_zero_le ha
  obtain ⟨n, rfl⟩ := Int.eq_ofNat_of_zero_le (Int.le_of_lt hb)
  unfold gcdI
  rw [← Int.natCast_emod]
  show ((Nat.gcd n (m % n) : Nat) : Int) = (Nat.gcd m n : Nat)
  rw [Nat.gcd_comm m n, Nat.gcd_rec n m, Nat.gcd_comm]
theorem gcdI_zero {a : Int} (h : 0 ≤ a) : gcdI a 0 = a := by
  unfold gcdI
  rw [Int.gcd_zero]
  omega

inductive R_is_whole : List Dt → (Dt → Prop) → Prop
  | mk (i : Int) : R_is_whole [.int i] (fun d => d = .bl true)
theorem ok_is_whole (T : Tx K mg C) : Cal P w K mg base "is_whole" 1 R_is_whole := by
  refine def_cal 0 T.d_is_whole sc_is_whole hb_is_whole (fun ds S h => by cases h; rfl) (fun X b ds S h => ?_)
  cases h with
  | mk i =>
    have n0 := b.nm (x := "thing") (i := 0) (by decide +kernel)
    have g1 := b.b_isinstance T (by decide +kernel)
    have g2 := b.b_int T (by decide +kernel)
    have g3 := b.b_bool T (by decide +kernel)
    exact sd_ret (by walk_at "fc ev") (by rfl)

inductive R_divisor : List Dt → (Dt → Prop) → Prop
  | mk (x y : Int) : R_divisor [.int x, .int y] (fun d => d = .int (gcdI x y))
theorem ok_divisor (T : Tx K mg C) : Cal P w K mg base "divisor" 1 R_divisor := by
  refine def_cal 0 T.d_divisor sc_divisor hb_divisor (fun ds S h => by cases h; rfl) (fun X b ds S h => ?_)
  cases h with
  | mk x y =>
    have n0 := b.nm (x := "one") (i := 0) (by decide +kernel)
    have n1 := b.nm (x := "other") (i := 1) (by decide +kernel)
    have l0 := b.toBs.lo (x := "one") (i := 0) (by decide +kernel)
    have l1 := b.toBs.lo (x := "other") (i := 1) (by decide +kernel)
    have g1 := b.b_abs T (by decide +kernel)
    refine sd_asg (by walk_at "fc ev") l0 ?_
    refine sd_asg (by walk_at "fc ev") l1 ?_
    refine sd_while b.po (fun m env => ∃ u v : Int, env = [.fz (.int u), .fz (.int v)] ∧ 0 ≤ u ∧ 0 ≤ v ∧ gcdI u v = gcdI x y ∧ m = v.toNat) _ ⟨_, _, rfl, ?_, ?_, abs_gcd x y, rfl⟩ ?_
    · split <;> omega
    · split <;> omega
    · rintro m env ⟨u, v, rfl, hu, hv, hg, rfl⟩
      refine ⟨_, by walk_at "fc t", fun h => ?_, fun h => ?_⟩
      · have hv0 : 0 < v := by
          simp only [Bool.not_eq_true', decide_eq_false_iff_not] at h
          omega
        refine sd_par b.calm l0 l1 (by decide) (b.loc (i := 0) (by decide +kernel)) (b.loc (i := 1) (by decide +kernel)) (by walk_at "fc evs") (by simp only [swappedStores, Env.kindOf, Env.blockKind, b.eS]; rfl) ?_
        refine sd_nil ⟨(u % v).toNat, ?_, v, u % v, rfl, hv, ?_, ?_, rfl⟩
        · have := Int.emod_lt_of_pos u hv0
          omega
        · exact Int.emod_nonneg u (by omega)
        · rw [gcdI_step hu hv0, hg]
      · have hv0 : v = 0 := by simpa using h
        subst hv0
        refine sd_ret (by walk_at "fc ev") ?_
        rw [← hg, gcdI_zero hu]

inductive R_is_ratio : List Dt → (Dt → Prop) → Prop
  | mk (x y : Int) (hp : 0 < y) (hg : gcdI x y = 1) : R_is_ratio [.tup [.int x, .int y]] (fun d => d = .bl true)
theorem ok_is_ratio (T : Tx K mg C) : Cal P w K mg base "is_ratio" 2 R_is_ratio := by
  refine def_cal 1 T.d_is_ratio sc_is_ratio hb_is_ratio (fun ds S h => by cases h; rfl) (fun X b ds S h => ?_)
  cases h with
  | mk x y hp hg =>
    have n0 := b.nm (x := "thing") (i := 0) (by decide +kernel)
    have g1 := b.b_isinstance T (by decide +kernel)
    have g2 := b.b_tuple T (by decide +kernel)
    have g3 := b.b_len T (by decide +kernel)
    have c1 := (ok_is_whole T).at b.toBs (by decide) (by decide +kernel)
    have c2 := (ok_divisor T).at b.toBs (by decide) (by decide +kernel)
    refine sd_no (by walk_at "fc t") (by rfl) ?_
    refine sd_no (PBw.pb (pbw_or (k := false) (k' := false) ?_ fun _ => pbw_or (k := false) (k' := false) ?_ fun _ => pbw_or1 (k := false) ?_)) (by rfl) ?_
    · exact PB.is (by walk_at "fc t") (by rfl)
    · exact PB.is (by walk_at "fc t") (by rfl)
    · exact PB.is (by walk_at "fc t") (by simp; omega)
    · refine sd_ret (by walk_at "fc ev") ?_
      rw [hg]
      rfl

inductive R_lowest : List Dt → (Dt → Prop) → Prop
  | mk (t y : Int) (hp : 0 < y) (hz : Sz 9000 y) : R_lowest [.int t, .int y] (fun d => d = frD (low t y))
theorem ok_lowest (T : Tx K mg C) : Cal P w K mg base "lowest" 2 R_lowest := by
  refine def_cal 1 T.d_lowest sc_lowest hb_lowest (fun ds S h => by cases h; rfl) (fun X b ds S h => ?_)
  cases h with
  | mk t y hp hz =>
    have n0 := b.nm (x := "top") (i := 0) (by decide +kernel)
    have n1 := b.nm (x := "bottom") (i := 1) (by decide +kernel)
    have n2 := b.nm (x := "share") (i := 2) (by decide +kernel)
    have l2 := b.lo (x := "share") (i := 2) (by decide +kernel)
    have c1 := (ok_divisor T).at b.toBs (by decide) (by decide +kernel)
    refine sd_asg (by walk_at "fc ev") l2 ?_
    refine sd_no (by walk_at "fc t") (by simp; omega) ?_
    have hg := gcdI_pos (a := t) hp
    have hz2 : Sz 9000 (gcdI t y) := hz.of_le (by have := gcdI_le (a := t) hp; omega)
    have h1 : CDivW t (gcdI t y) := divOk hg hz2
    have h2 : CDivW y (gcdI t y) := divOk hg hz2
    exact sd_ret (by walk_at "fc ev") (by rfl)

inductive R_plus : List Dt → (Dt → Prop) → Prop
  | mk (p q r s : Int) (hq : 0 < q) (hs : 0 < s) (zp : Sz 4000 p) (zq : Sz 4000 q) (zr : Sz 4000 r) (zs : Sz 4000 s) : R_plus [.tup [.int p, .int q], .tup [.int r, .int s]] (fun d => d = frD (low (p * s + r * q) (q * s)))
theorem ok_plus (T : Tx K mg C) : Cal P w K mg base "plus" 3 R_plus := by
  refine def_cal 2 T.d_plus sc_plus hb_plus (fun ds S h => by cases h; rfl) (fun X b ds S h => ?_)
  cases h with
  | mk p q r s hq hs zp zq zr zs =>
    have n0 := b.nm (x := "one") (i := 0) (by decide +kernel)
    have n1 := b.nm (x := "other") (i := 1) (by decide +kernel)
    have c1 := (ok_lowest T).at b.toBs (by decide) (by decide +kernel)
    have h1 : CMulW p s := mulOk zp zs
    have h2 : CMulW r q := mulOk zr zq
    have h3 : CMulW q s := mulOk zq zs
    have h4 : 0 < q * s := Int.mul_pos hq hs
    have h5 : Sz 9000 (q * s) := (zq.mul zs).mono (by decide)
    exact sd_ret (by walk_at "fc ev") (by rfl)
inductive R_minus : List Dt → (Dt → Prop) → Prop
  | mk (p q r s : Int) (hq : 0 < q) (hs : 0 < s) (zp : Sz 4000 p) (zq : Sz 4000 q) (zr : Sz 4000 r) (zs : Sz 4000 s) : R_minus [.tup [.int p, .int q], .tup [.int r, .int s]] (fun d => d = frD (low (p * s - r * q) (q * s)))
theorem ok_minus (T : Tx K mg C) : Cal P w K mg base "minus" 3 R_minus := by
  refine def_cal 2 T.d_minus sc_minus hb_minus (fun ds S h => by cases h; rfl) (fun X b ds S h => ?_)
  cases h with
  | mk p q r s hq hs zp zq zr zs =>
    have n0 := b.nm (x := "one") (i := 0) (by decide +kernel)
    have n1 := b.nm (x := "other") (i := 1) (by decide +kernel)
    have c1 := (ok_lowest T).at b.toBs (by decide) (by decide +kernel)
    have h1 : CMulW p s := mulOk zp zs
    have h2 : CMulW r q := mulOk zr zq
    have h3 : CMulW q s := mulOk zq zs
    have h4 : 0 < q * s := Int.mul_pos hq hs
    have h5 : Sz 9000 (q * s) := (zq.mul zs).mono (by decide)
    exact sd_ret (by walk_at "fc ev") (by rfl)

inductive R_is_length : List Dt → (Dt → Prop) → Prop
  | mk (x y : Int) (hp : 0 < y) (hg : gcdI x y = 1) (h0 : 0 ≤ x) : R_is_length [.tup [.int x, .int y]] (fun d => d = .bl true)
theorem ok_is_length (T : Tx K mg C) : Cal P w K mg base "is_length" 3 R_is_length := by
  refine def_cal 2 T.d_is_length sc_is_length hb_is_length (fun ds S h => by cases h; rfl) (fun X b ds S h => ?_)
  cases h with
  | mk x y hp hg h0 =>
    have n0 := b.nm (x := "thing") (i := 0) (by decide +kernel)
    have c1 := (ok_is_ratio T).at b.toBs (by decide) (by decide +kernel)
    refine sd_ret (by walk_at "fc ev") ?_
    show Dt.bl (true && decide (0 ≤ x)) = _
    simp [h0]
end
end Fc

namespace Fc
open PySem PySem.Spec PyProof.Rows L2
/-! ### webs -/
structure Tie where
  one : Str
  other : Str
  both : Bool
  len : Int × Int
  worth : Option (Int × Int)
structure Web where
  places : List Str
  ties : List Tie
  first : Str
  last : Str
def lettersS : Str := "abcdefghijklmnopqrstuvwxyz"
def wordS (b : Bool) : Str := if b then "both" else "one"
def worthD : Option (Int × Int) → Dt
  | none => .non
  | some q => frD q
def tieD (t : Tie) : Dt := .tup [.str t.one, .str t.other, .str (wordS t.both), frD t.len, worthD t.worth]
def webD (w : Web) : Dt := .tup [.lst (w.places.map .str), .lst (w.ties.map tieD), .str w.first, .str w.last]
structure NameOk (s : Str) : Prop where
  lo : 1 ≤ s.length
  hi : s.length ≤ 8
  abc : ∀ c ∈ s.cps.toList, c ∈ lettersS.cps.toList
structure TieOk (ps : List Str) (t : Tie) : Prop where
  n1 : NameOk t.one
  n2 : NameOk t.other
  ne : t.one ≠ t.other
  m1 : t.one ∈ ps
  m2 : t.other ∈ ps
  fr : Fr t.len
  l0 : 0 ≤ t.len.1
  wo : ∀ q, t.worth = some q → Fr q ∧ 0 < q.1
structure WebOk (w : Web) : Prop where
  p2 : 2 ≤ w.places.length
  p7 : w.places.length ≤ 7
  nd : w.places.Nodup
  nm : ∀ p ∈ w.places, NameOk p
  t14 : w.ties.length ≤ 14
  ts : ∀ t ∈ w.ties, TieOk w.places t
  fm : w.first ∈ w.places
  lm : w.last ∈ w.places
  fl : w.first ≠ w.last
theorem NameOk.size {s : Str} (h : NameOk s) : s.length ≤ sizeLine := Nat.le_trans h.hi (by decide)
theorem NameOk.ok {s : Str} (h : NameOk s) : PyData.canLay0 (.str s) = true := by
  have : ∀ c ∈ lettersS.cps.toList, c < 0x110000 := by decide +kernel
  have e : s.cps.all (· < 0x110000) = true := by
    rw [Array.all_eq_true']
    intro c hc
    exact decide_eq_true (this c (h.abc c (Array.mem_toList_iff.mpr hc)))
  first
    | exact e
    | simpa only [PyData.canLay0] using e
theorem cut_to {α : Type} {xs : List α} {k : Nat} (h : k ≤ xs.length) : cut xs none (some (k : Int)) = xs.take k := by
  unfold cut
  rw [HT.sIx_none, HT.sIx_nat, List.drop_zero, Nat.min_eq_left h, Nat.sub_zero]
theorem cut_from {α : Type} {xs : List α} {k : Nat} : cut xs (some (k : Int)) none = xs.drop k := by
  unfold cut
  rw [HT.sIx_none, HT.sIx_nat]
  by_cases h : k ≤ xs.length
  · rw [Nat.min_eq_left h, List.take_of_length_le (by rw [List.length_drop]; omega)]
  · rw [Nat.min_eq_right (by omega), List.drop_length, List.drop_eq_nil_of_le (by omega)]
    simp
theorem cut_mid {α : Type} {xs : List α} {i j : Nat} (h : j ≤ xs.length) : cut xs (some (i : Int)) (some (j : Int)) = (xs.drop i).take (j - i) := by
  unfold cut
  rw [HT.sIx_nat, HT.sIx_nat, Nat.min_eq_left h]
  by_cases hi : i ≤ xs.length
  · rw [Nat.min_eq_left hi]
  · rw [Nat.min_eq_right (by omega), List.drop_length, List.drop_eq_nil_of_le (by omega)]
    simp
theorem at_map {α : Type} {f : α → Dt} {xs : List α} {k : Nat} {a : α} (h : xs[k]? = some a) : atI (xs.map f) (k : Int) = some (f a) := atI_nat (by rw [List.getElem?_map, h]; rfl)
theorem range_at {n k : Nat} {d : Dt} (h : ((List.range n).map fun i => Dt.int (i : Nat))[k]? = some d) : k < n ∧ d = .int (k : Nat) := by
  rw [List.getElem?_map] at h
  by_cases hk : k < n
  · rw [List.getElem?_range hk] at h
    exact ⟨hk, (Option.some.inj h).symm⟩
  · rw [List.getElem?_eq_none (by simp; omega)] at h
    cases h
theorem range_len {n : Nat} : ((List.range n).map fun i => Dt.int (i : Nat)).length = n := by rw [List.length_map, List.length_range]
section
variable {P : Program} {w : World} {K : PySem.W.Frag} {mg : Str → Option Value} {base : Heap} {C : Addr}

inductive R_is_name : List Dt → (Dt → Prop) → Prop
  | mk (s : Str) (h : NameOk s) : R_is_name [.str s] (fun d => d = .bl true)
theorem ok_is_name (T : Tx K mg C) : Cal P w K mg base "is_name" 1 R_is_name := by
  refine def_cal 0 T.d_is_name sc_is_name hb_is_name (fun ds S h => by cases h; rfl) (fun X b ds S h => ?_)
  cases h with
  | mk s hs =>
    have n0 := b.nm (x := "thing") (i := 0) (by decide +kernel)
    have n1 := b.nm (x := "sign") (i := 1) (by decide +kernel)
    have l1 := b.lo (x := "sign") (i := 1) (by decide +kernel)
    have g1 := b.b_isinstance T (by decide +kernel)
    have g2 := b.b_str T (by decide +kernel)
    have g3 := b.b_len T (by decide +kernel)
    have c1 := T.c_signs.at b.toBs (by decide +kernel)
    have c2 := T.c_letters.at b.toBs (by decide +kernel)
    have hz := hs.size
    refine sd_no (pb_or (k := false) (k' := false) (PB.is (by walk_at "fc t") (by rfl)) fun _ => PB.is (pb_not (pb_chain (x := .int 1) (y := .int (s.length : Nat)) (z := .int 8) (k' := decide ((s.length : Int) ≤ 8)) (by walk_at "fc ev") (by walk_at "fc ev") (by walk_at "fc ev") (by walk_at "fc cmp") (fun _ => by walk_at "fc cmp") ⟨_, by walk_at "fc cmp"⟩)) ?_) (by rfl) ?_
    · have h1 := hs.lo
      have h2 := hs.hi
      rw [decide_eq_true (by omega), decide_eq_true (by omega)]
      rfl
    · refine sd_for b.po b.calm l1 (pid_str (by walk_at "fc ev")) (fun n env => ∃ x, env = [.fz (.str s), x]) ⟨_, rfl⟩ ?_ ?_
      · rintro n d env hd ⟨x, rfl⟩
        rw [List.getElem?_map] at hd
        cases hc : s.cps.toList[n]? with
        | none => rw [hc] at hd; cases hd
        | some c =>
          rw [hc] at hd
          cases hd
          have hm := hs.abc c (List.mem_of_getElem? hc)
          refine sd_no (by walk_at "fc t") ?_ (sd_nil ⟨_, rfl⟩)
          have : decide (c ∈ (Str.ofString "abcdefghijklmnopqrstuvwxyz").cps.toList) = true := decide_eq_true hm
          rw [this]
          rfl
      · rintro env ⟨x, rfl⟩
        exact sd_ret (by walk_at "fc ev") (by rfl)

inductive R_is_worth : List Dt → (Dt → Prop) → Prop
  | mk (o : Option (Int × Int)) (h : ∀ q, o = some q → Fr q ∧ 0 < q.1) : R_is_worth [worthD o] (fun d => d = .bl true)
theorem ok_is_worth (T : Tx K mg C) : Cal P w K mg base "is_worth" 3 R_is_worth := by
  refine def_cal 2 T.d_is_worth sc_is_worth hb_is_worth (fun ds S h => by cases h; rfl) (fun X b ds S h => ?_)
  cases h with
  | mk o h =>
    have n0 := b.nm (x := "thing") (i := 0) (by decide +kernel)
    have c1 := (ok_is_ratio T).at b.toBs (by decide) (by decide +kernel)
    cases o with
    | none =>
      refine sd_ret (pv_or (k' := false) (by walk_at "fc ev") fun z => ?_) (by rfl)
      cases z
    | some q =>
      obtain ⟨h1, h2⟩ := h q rfl
      have h3 := h1.pos
      have h4 := h1.cop
      refine sd_ret (pv_or (k := false) (k' := true) ?_ fun _ => ?_) (by rfl)
      · exact PV.is (show PV X _ [.fz (frD q)] _ by walk_at "fc ev") (by rfl)
      · refine PV.is (show PV X _ [.fz (frD q)] _ by walk_at "fc ev") ?_
        simp [h2]

theorem word_in (b : Bool) : wordS b ∈ [Str.ofString "one", Str.ofString "both"] := by
  cases b
  · exact List.mem_cons_self
  · exact List.mem_cons_of_mem _ List.mem_cons_self
inductive R_is_tie : List Dt → (Dt → Prop) → Prop
  | mk (ps : List Str) (t : Tie) (h : TieOk ps t) : R_is_tie [tieD t] (fun d => d = .bl true)
theorem ok_is_tie (T : Tx K mg C) : Cal P w K mg base "is_tie" 4 R_is_tie := by
  refine def_cal 3 T.d_is_tie sc_is_tie hb_is_tie (fun ds S h => by cases h; rfl) (fun X b ds S h => ?_)
  cases h with
  | mk ps t h =>
    have n0 := b.nm (x := "thing") (i := 0) (by decide +kernel)
    have n1 := b.nm (x := "one") (i := 1) (by decide +kernel)
    have n2 := b.nm (x := "other") (i := 2) (by decide +kernel)
    have n3 := b.nm (x := "word") (i := 3) (by decide +kernel)
    have n4 := b.nm (x := "length") (i := 4) (by decide +kernel)
    have n5 := b.nm (x := "worth") (i := 5) (by decide +kernel)
    have l1 := b.lo (x := "one") (i := 1) (by decide +kernel)
    have l2 := b.lo (x := "other") (i := 2) (by decide +kernel)
    have l3 := b.lo (x := "word") (i := 3) (by decide +kernel)
    have l4 := b.lo (x := "length") (i := 4) (by decide +kernel)
    have l5 := b.lo (x := "worth") (i := 5) (by decide +kernel)
    have g1 := b.b_isinstance T (by decide +kernel)
    have g2 := b.b_tuple T (by decide +kernel)
    have g3 := b.b_len T (by decide +kernel)
    have g4 := b.b_str T (by decide +kernel)
    have c1 := (ok_is_name T).at b.toBs (by decide) (by decide +kernel)
    have c2 := (ok_is_length T).at b.toBs (by decide) (by decide +kernel)
    have c3 := (ok_is_worth T).at b.toBs (by decide) (by decide +kernel)
    have m1 := h.n1
    have m2 := h.n2
    have hp := h.fr.pos
    have hg := h.fr.cop
    have h0 := h.l0
    have hw := h.wo
    show SD X _ [.fz (.tup [.str t.one, .str t.other, .str (wordS t.both), frD t.len, worthD t.worth]), .un, .un, .un, .un, .un] _
    refine sd_no (by walk_at "fc t") (by rfl) ?_
    refine sd_unp (is := [1, 2, 3, 4, 5]) b.calm (.cons l1 (.cons l2 (.cons l3 (.cons l4 (.cons l5 .nil))))) (by walk_at "fc ev") (by rfl) ?_
    refine sd_no (by walk_at "fc t") (by simp [h.ne]) ?_
    refine sd_no (by walk_at "fc t") (by rw [decide_eq_true (word_in t.both)]; rfl) ?_
    exact sd_ret (by walk_at "fc ev") (by rfl)

inductive R_look_at_places : List Dt → (Dt → Prop) → Prop
  | mk (w : Web) (h : WebOk w) : R_look_at_places [.lst (w.places.map .str)] (fun d => d = .non)
theorem ok_look_at_places (T : Tx K mg C) : Cal P w K mg base "look_at_places" 2 R_look_at_places := by
  refine def_cal 1 T.d_look_at_places sc_look_at_places hb_look_at_places (fun ds S h => by cases h; rfl) (fun X b ds S h => ?_)
  cases h with
  | mk W h =>
    have n0 := b.nm (x := "thing") (i := 0) (by decide +kernel)
    have n1 := b.nm (x := "k") (i := 1) (by decide +kernel)
    have l1 := b.lo (x := "k") (i := 1) (by decide +kernel)
    have g1 := b.b_isinstance T (by decide +kernel)
    have g2 := b.b_list T (by decide +kernel)
    have g3 := b.b_len T (by decide +kernel)
    have g4 := b.b_range T (by decide +kernel)
    have k1 := T.c_least.at b.toBs (by decide +kernel)
    have k2 := T.c_most.at b.toBs (by decide +kernel)
    have c1 := (ok_is_name T).at b.toBs (by decide) (by decide +kernel)
    have p2 := h.p2
    have p7 := h.p7
    refine sd_no (pb_or (k := false) (k' := false) (PB.is (by walk_at "fc t") (by rfl)) fun _ => PB.is (pb_not (pb_chain (x := .int 2) (y := .int ((W.places.map Dt.str).length : Nat)) (z := .int 7) (k' := decide (((W.places.map Dt.str).length : Int) ≤ 7)) (by walk_at "fc ev") (by walk_at "fc ev") (by walk_at "fc ev") (by walk_at "fc cmp") (fun _ => by walk_at "fc cmp") ⟨_, by walk_at "fc cmp"⟩)) ?_) (by rfl) ?_
    · rw [List.length_map, decide_eq_true (by omega), decide_eq_true (by omega)]
      rfl
    · refine sd_for b.po b.calm l1 (pid_range (k := ((W.places.map Dt.str).length : Nat)) g4 (by walk_at "fc ev") (by omega) (by rw [List.length_map]; omega)) (fun n env => ∃ x, env = [.fz (.lst (W.places.map .str)), x]) ⟨_, rfl⟩ ?_ ?_
      · rintro n d env hd ⟨x, rfl⟩
        obtain ⟨hn, rfl⟩ := range_at hd
        have hn : n < W.places.length := by simpa using hn
        have hp : W.places[n]? = some W.places[n] := List.getElem?_eq_getElem hn
        have ha : atI (W.places.map Dt.str) (n : Int) = some (.str W.places[n]) := at_map hp
        have hs : SlD X (.lst (W.places.map .str)) none (some (n : Int)) (.lst ((W.places.take n).map .str)) := by
          rw [← cut_to (Nat.le_of_lt hn), ← cut_map]
          exact sl_lst
        have hm := h.nm _ (List.getElem_mem hn)
        refine sd_no (by walk_at "fc t") ?_ (sd_nil ⟨_, rfl⟩)
        have hd2 : W.places[n] ∉ W.places.take n := by
          intro hc
          obtain ⟨j, hj, e⟩ := List.getElem_of_mem hc
          rw [List.length_take] at hj
          rw [List.getElem_take] at e
          have := (List.getElem_inj h.nd).mp e
          omega
        simp [hd2]
      · rintro env ⟨x, rfl⟩
        exact sd_nil rfl

inductive R_look_at_ties : List Dt → (Dt → Prop) → Prop
  | mk (w : Web) (h : WebOk w) : R_look_at_ties [.lst (w.places.map .str), .lst (w.ties.map tieD)] (fun d => d = .non)
theorem ok_look_at_ties (T : Tx K mg C) : Cal P w K mg base "look_at_ties" 5 R_look_at_ties := by
  refine def_cal 4 T.d_look_at_ties sc_look_at_ties hb_look_at_ties (fun ds S h => by cases h; rfl) (fun X b ds S h => ?_)
  cases h with
  | mk W h =>
    have n0 := b.nm (x := "places") (i := 0) (by decide +kernel)
    have n1 := b.nm (x := "thing") (i := 1) (by decide +kernel)
    have n2 := b.nm (x := "k") (i := 2) (by decide +kernel)
    have l2 := b.lo (x := "k") (i := 2) (by decide +kernel)
    have g1 := b.b_isinstance T (by decide +kernel)
    have g2 := b.b_list T (by decide +kernel)
    have g3 := b.b_len T (by decide +kernel)
    have g4 := b.b_range T (by decide +kernel)
    have k1 := T.c_ties.at b.toBs (by decide +kernel)
    have c1 := (ok_is_tie T).at b.toBs (by decide) (by decide +kernel)
    have t14 := h.t14
    refine sd_no (by walk_at "fc t") (by simp; omega) ?_
    refine sd_for b.po b.calm l2 (pid_range (k := ((W.ties.map tieD).length : Nat)) g4 (by walk_at "fc ev") (by omega) (by rw [List.length_map]; omega)) (fun n env => ∃ x, env = [.fz (.lst (W.places.map .str)), .fz (.lst (W.ties.map tieD)), x]) ⟨_, rfl⟩ ?_ ?_
    · rintro n d env hd ⟨x, rfl⟩
      obtain ⟨hn, rfl⟩ := range_at hd
      have hn : n < W.ties.length := by simpa using hn
      have hp : W.ties[n]? = some W.ties[n] := List.getElem?_eq_getElem hn
      have hm := h.ts _ (List.getElem_mem hn)
      have ha : atI (W.ties.map tieD) (n : Int) = some (.tup [.str W.ties[n].one, .str W.ties[n].other, .str (wordS W.ties[n].both), frD W.ties[n].len, worthD W.ties[n].worth]) := at_map hp
      have hR : R_is_tie [.tup [.str W.ties[n].one, .str W.ties[n].other, .str (wordS W.ties[n].both), frD W.ties[n].len, worthD W.ties[n].worth]] (fun d => d = .bl true) := .mk W.places W.ties[n] hm
      refine sd_no (by walk_at "fc t") ?_ (sd_nil ⟨_, rfl⟩)
      simp [hm.m1, hm.m2]
    · rintro env ⟨x, rfl⟩
      exact sd_nil rfl

inductive R_look_at_web : List Dt → (Dt → Prop) → Prop
  | mk (w : Web) (h : WebOk w) : R_look_at_web [webD w] (fun d => d = .non)
theorem ok_look_at_web (T : Tx K mg C) : Cal P w K mg base "look_at_web" 6 R_look_at_web := by
  refine def_cal 5 T.d_look_at_web sc_look_at_web hb_look_at_web (fun ds S h => by cases h; rfl) (fun X b ds S h => ?_)
  cases h with
  | mk W h =>
    have n0 := b.nm (x := "thing") (i := 0) (by decide +kernel)
    have n1 := b.nm (x := "places") (i := 1) (by decide +kernel)
    have n2 := b.nm (x := "ties") (i := 2) (by decide +kernel)
    have n3 := b.nm (x := "first") (i := 3) (by decide +kernel)
    have n4 := b.nm (x := "last") (i := 4) (by decide +kernel)
    have l1 := b.lo (x := "places") (i := 1) (by decide +kernel)
    have l2 := b.lo (x := "ties") (i := 2) (by decide +kernel)
    have l3 := b.lo (x := "first") (i := 3) (by decide +kernel)
    have l4 := b.lo (x := "last") (i := 4) (by decide +kernel)
    have g1 := b.b_isinstance T (by decide +kernel)
    have g2 := b.b_tuple T (by decide +kernel)
    have g3 := b.b_len T (by decide +kernel)
    have c1 := (ok_look_at_places T).at b.toBs (by decide) (by decide +kernel)
    have c2 := (ok_look_at_ties T).at b.toBs (by decide) (by decide +kernel)
    have c3 := (ok_is_name T).at b.toBs (by decide) (by decide +kernel)
    have m1 := h.nm _ h.fm
    have m2 := h.nm _ h.lm
    have r1 := R_look_at_places.mk W h
    have r2 := R_look_at_ties.mk W h
    show SD X _ [.fz (.tup [.lst (W.places.map .str), .lst (W.ties.map tieD), .str W.first, .str W.last]), .un, .un, .un, .un] _
    refine sd_no (by walk_at "fc t") (by rfl) ?_
    refine sd_unp (is := [1, 2, 3, 4]) b.calm (.cons l1 (.cons l2 (.cons l3 (.cons l4 .nil)))) (by walk_at "fc ev") (by rfl) ?_
    refine sd_expr (by walk_at "fc ev") ?_
    refine sd_expr (by walk_at "fc ev") ?_
    refine sd_no (by walk_at "fc t") (by simp [h.fm]) ?_
    refine sd_no (by walk_at "fc t") (by simp [h.lm, h.fl.symm]) ?_
    exact sd_nil rfl
end
end Fc

namespace Fc
open PySem PySem.Spec PyProof.Rows L2
/-! ### takings, rooms, flows, sides -/
structure TakOk (w : Web) (ts : List Int) : Prop where
  up : ts.Pairwise (· < ·)
  lo : ∀ t ∈ ts, 0 ≤ t ∧ t < (w.ties.length : Int)
  wo : ∀ t ∈ ts, ∀ z, w.ties[t.toNat]? = some z → z.worth ≠ none
structure RoomsOk (w : Web) (qs : List (Int × Int)) : Prop where
  len : qs.length = w.ties.length
  fr : ∀ q ∈ qs, Fr q ∧ 0 ≤ q.1
/-- what goes from a place less what comes to it -/
def goI : List (Tie × Int) → Str → Int
  | [], _ => 0
  | (t, x) :: r, p => (if t.one = p then x else if t.other = p then -x else 0) + goI r p
theorem goI_app (p : Str) : ∀ l m : List (Tie × Int), goI (l ++ m) p = goI l p + goI m p
  | [], m => by show goI m p = 0 + goI m p; omega
  | (t, x) :: r, m => by
    show _ + goI (r ++ m) p = (_ + goI r p) + goI m p
    rw [goI_app p r m]
    omega
theorem goI_abs (p : Str) (M : Nat) : ∀ l : List (Tie × Int), (∀ z ∈ l, z.2.natAbs ≤ M) → (goI l p).natAbs ≤ l.length * M
  | [], _ => by simp [goI]
  | (t, x) :: r, h => by
    have h1 := goI_abs p M r fun z hz => h z (List.mem_cons_of_mem _ hz)
    have h2 : x.natAbs ≤ M := h (t, x) List.mem_cons_self
    show (_ + goI r p).natAbs ≤ (r.length + 1) * M
    rw [Nat.add_mul, Nat.one_mul]
    split
    · omega
    · split <;> omega
theorem sum_abs (M : Nat) : ∀ l : List Int, (∀ z ∈ l, z.natAbs ≤ M) → l.sum.natAbs ≤ l.length * M
  | [], _ => by simp
  | x :: r, h => by
    have h1 := sum_abs M r fun z hz => h z (List.mem_cons_of_mem _ hz)
    have h2 : x.natAbs ≤ M := h x List.mem_cons_self
    rw [List.sum_cons, List.length_cons, Nat.add_mul, Nat.one_mul]
    omega
theorem sz_many {n k : Nat} {x : Int} (h : x.natAbs ≤ k * 2 ^ n) (hk : k ≤ 16) : Sz (n + 5) x := by
  unfold Sz
  have h1 : k * 2 ^ n ≤ 16 * 2 ^ n := Nat.mul_le_mul_right _ hk
  have h2 : 2 ^ (n + 5) = 32 * 2 ^ n := by rw [Nat.pow_add, Nat.mul_comm]
  have h3 : 0 < 2 ^ n := Nat.pow_pos (by decide)
  omega
theorem zip_take {α β : Type} : ∀ (xs : List α) (ys : List β) (n : Nat), (xs.zip ys).take n = (xs.take n).zip (ys.take n)
  | _, _, 0 => by simp
  | [], _, _ + 1 => by simp
  | _ :: _, [], _ + 1 => by simp
  | x :: xs, y :: ys, n + 1 => by simp [zip_take xs ys n]
/-- whether a tie leads out of a side, given by its places' truth -/
def leadsB (t : Tie) (S : Str → Bool) : Bool := if t.both then (S t.one != S t.other) else (S t.one && !S t.other)
def inS (ss : List Str) : Str → Bool := fun s => decide (s ∈ ss)
structure SideOk (w : Web) (ss : List Str) : Prop where
  fm : w.first ∈ ss
  lm : w.last ∉ ss
  eq : w.places.filter (inS ss) = ss
section
variable {P : Program} {w : World} {K : PySem.W.Frag} {mg : Str → Option Value} {base : Heap} {C : Addr}

inductive R_is_tie_number : List Dt → (Dt → Prop) → Prop
  | mk (w : Web) (t : Int) (h : 0 ≤ t ∧ t < (w.ties.length : Int)) : R_is_tie_number [webD w, .int t] (fun d => d = .bl true)
theorem ok_is_tie_number (T : Tx K mg C) : Cal P w K mg base "is_tie_number" 2 R_is_tie_number := by
  refine def_cal 1 T.d_is_tie_number sc_is_tie_number hb_is_tie_number (fun ds S h => by cases h; rfl) (fun X b ds S h => ?_)
  cases h with
  | mk W t h =>
    have n0 := b.nm (x := "web") (i := 0) (by decide +kernel)
    have n1 := b.nm (x := "thing") (i := 1) (by decide +kernel)
    have g3 := b.b_len T (by decide +kernel)
    have c1 := (ok_is_whole T).at b.toBs (by decide) (by decide +kernel)
    show SD X _ [.fz (.tup [.lst (W.places.map .str), .lst (W.ties.map tieD), .str W.first, .str W.last]), .fz (.int t)] _
    refine sd_ret (pv_and (k := true) (k' := true) (by walk_at "fc ev") fun _ => PV.is (pv_chain (x := .int 0) (y := .int t) (z := .int ((W.ties.map tieD).length : Nat)) (k' := decide (t < ((W.ties.map tieD).length : Int))) (by walk_at "fc ev") (by walk_at "fc ev") (by walk_at "fc ev") (by walk_at "fc cmp") (fun _ => by walk_at "fc cmp") ⟨_, by walk_at "fc cmp"⟩) ?_) (by rfl)
    rw [List.length_map, decide_eq_true h.1, decide_eq_true h.2]
    rfl

inductive R_is_taking : List Dt → (Dt → Prop) → Prop
  | mk (w : Web) (hw : WebOk w) (ts : List Int) (h : TakOk w ts) (h14 : ts.length ≤ 14) : R_is_taking [webD w, .lst (ts.map .int)] (fun d => d = .bl true)
theorem ok_is_taking (T : Tx K mg C) : Cal P w K mg base "is_taking" 3 R_is_taking := by
  refine def_cal 2 T.d_is_taking sc_is_taking hb_is_taking (fun ds S h => by cases h; rfl) (fun X b ds S h => ?_)
  cases h with
  | mk W hw ts h h14 =>
    have n0 := b.nm (x := "web") (i := 0) (by decide +kernel)
    have n1 := b.nm (x := "thing") (i := 1) (by decide +kernel)
    have n2 := b.nm (x := "k") (i := 2) (by decide +kernel)
    have l2 := b.lo (x := "k") (i := 2) (by decide +kernel)
    have g1 := b.b_isinstance T (by decide +kernel)
    have g2 := b.b_list T (by decide +kernel)
    have g3 := b.b_len T (by decide +kernel)
    have g4 := b.b_range T (by decide +kernel)
    have c1 := (ok_is_tie_number T).at b.toBs (by decide) (by decide +kernel)
    refine sd_no (by walk_at "fc t") (by rfl) ?_
    refine sd_for b.po b.calm l2 (pid_range (k := ((ts.map Dt.int).length : Nat)) g4 (by walk_at "fc ev") (by omega) (by rw [List.length_map]; omega)) (fun n env => ∃ x, env = [.fz (.tup [.lst (W.places.map .str), .lst (W.ties.map tieD), .str W.first, .str W.last]), .fz (.lst (ts.map .int)), x]) ⟨_, rfl⟩ ?_ ?_
    · rintro n d env hd ⟨x, rfl⟩
      obtain ⟨hn, rfl⟩ := range_at hd
      have hn : n < ts.length := by simpa using hn
      have hp : ts[n]? = some ts[n] := List.getElem?_eq_getElem hn
      have ha : atI (ts.map Dt.int) (n : Int) = some (.int ts[n]) := at_map hp
      have hlo := h.lo _ (List.getElem_mem hn)
      have hR : R_is_tie_number [.tup [.lst (W.places.map .str), .lst (W.ties.map tieD), .str W.first, .str W.last], .int ts[n]] (fun d => d = .bl true) := .mk W _ hlo
      have hz : W.ties[ts[n].toNat]? = some (W.ties[ts[n].toNat]'(by omega)) := List.getElem?_eq_getElem (by omega)
      generalize hzz : W.ties[ts[n].toNat]'(by omega) = z at hz
      have hwo := h.wo _ (List.getElem_mem hn) z hz
      have hb : atI (W.ties.map tieD) ts[n] = some (.tup [.str z.one, .str z.other, .str (wordS z.both), frD z.len, worthD z.worth]) := by
        have := at_map (f := tieD) hz
        rw [Int.toNat_of_nonneg hlo.1] at this
        exact this
      refine sd_no (by walk_at "fc t") ?_ ?_
      · cases e : z.worth with
        | none => exact (hwo e).elim
        | some q => rfl
      · refine sd_no (pb_and (k' := false) (by walk_at "fc t") fun hk => ?_) (by simp) (sd_nil ⟨_, rfl⟩)
        have hk0 : 0 < n := by simpa using hk
        have hq : ts[n - 1]? = some (ts[n - 1]'(by omega)) := List.getElem?_eq_getElem (by omega)
        have hc : atI (ts.map Dt.int) ((n : Int) - 1) = some (.int (ts[n - 1]'(by omega))) := by
          have := at_map (f := Dt.int) hq
          rw [show (((n - 1 : Nat) : Int)) = (n : Int) - 1 by omega] at this
          exact this
        refine PB.is (by walk_at "fc t") ?_
        have := List.pairwise_iff_getElem.mp h.up (n - 1) n (by omega) hn (by omega)
        exact decide_eq_false (by omega)
    · rintro env ⟨x, rfl⟩
      exact sd_ret (by walk_at "fc ev") (by rfl)

inductive R_look_at_taking : List Dt → (Dt → Prop) → Prop
  | mk (w : Web) (hw : WebOk w) (ts : List Int) (h : TakOk w ts) (h14 : ts.length ≤ 14) : R_look_at_taking [webD w, .lst (ts.map .int)] (fun d => d = .non)
theorem ok_look_at_taking (T : Tx K mg C) : Cal P w K mg base "look_at_taking" 7 R_look_at_taking := by
  refine def_cal 6 T.d_look_at_taking sc_look_at_taking hb_look_at_taking (fun ds S h => by cases h; rfl) (fun X b ds S h => ?_)
  cases h with
  | mk W hw ts h h14 =>
    have n0 := b.nm (x := "web") (i := 0) (by decide +kernel)
    have n1 := b.nm (x := "thing") (i := 1) (by decide +kernel)
    have c1 := (ok_look_at_web T).at b.toBs (by decide) (by decide +kernel)
    have c2 := (ok_is_taking T).at b.toBs (by decide) (by decide +kernel)
    have r1 := R_look_at_web.mk W hw
    have r2 := R_is_taking.mk W hw ts h h14
    refine sd_expr (by walk_at "fc ev") ?_
    refine sd_no (by walk_at "fc t") (by rfl) ?_
    exact sd_nil rfl

inductive R_is_rooms : List Dt → (Dt → Prop) → Prop
  | mk (w : Web) (hw : WebOk w) (qs : List (Int × Int)) (h : RoomsOk w qs) : R_is_rooms [webD w, .lst (qs.map frD)] (fun d => d = .bl true)
theorem ok_is_rooms (T : Tx K mg C) : Cal P w K mg base "is_rooms" 4 R_is_rooms := by
  refine def_cal 3 T.d_is_rooms sc_is_rooms hb_is_rooms (fun ds S h => by cases h; rfl) (fun X b ds S h => ?_)
  cases h with
  | mk W hw qs h =>
    have n0 := b.nm (x := "web") (i := 0) (by decide +kernel)
    have n1 := b.nm (x := "thing") (i := 1) (by decide +kernel)
    have n2 := b.nm (x := "room") (i := 2) (by decide +kernel)
    have l2 := b.lo (x := "room") (i := 2) (by decide +kernel)
    have g1 := b.b_isinstance T (by decide +kernel)
    have g2 := b.b_list T (by decide +kernel)
    have g3 := b.b_len T (by decide +kernel)
    have c1 := (ok_is_length T).at b.toBs (by decide) (by decide +kernel)
    show SD X _ [.fz (.tup [.lst (W.places.map .str), .lst (W.ties.map tieD), .str W.first, .str W.last]), .fz (.lst (qs.map frD)), .un] _
    refine sd_no (by walk_at "fc t") (by simp [h.len]) ?_
    refine sd_for b.po b.calm l2 (pid_list (by walk_at "fc ev")) (fun n env => ∃ x, env = [.fz (webD W), .fz (.lst (qs.map frD)), x]) ⟨_, rfl⟩ ?_ ?_
    · rintro n d env hd ⟨x, rfl⟩
      rw [List.getElem?_map] at hd
      cases hq : qs[n]? with
      | none => rw [hq] at hd; cases hd
      | some q =>
        rw [hq] at hd
        cases hd
        obtain ⟨⟨h1, h2⟩, h3⟩ := h.fr q (List.mem_of_getElem? hq)
        exact sd_no (by walk_at "fc t") (by rfl) (sd_nil ⟨_, rfl⟩)
    · rintro env ⟨x, rfl⟩
      exact sd_ret (by walk_at "fc ev") (by rfl)
inductive R_look_at_rooms : List Dt → (Dt → Prop) → Prop
  | mk (w : Web) (hw : WebOk w) (qs : List (Int × Int)) (h : RoomsOk w qs) : R_look_at_rooms [webD w, .lst (qs.map frD)] (fun d => d = .non)
theorem ok_look_at_rooms (T : Tx K mg C) : Cal P w K mg base "look_at_rooms" 5 R_look_at_rooms := by
  refine def_cal 4 T.d_look_at_rooms sc_look_at_rooms hb_look_at_rooms (fun ds S h => by cases h; rfl) (fun X b ds S h => ?_)
  cases h with
  | mk W hw qs h =>
    have n0 := b.nm (x := "web") (i := 0) (by decide +kernel)
    have n1 := b.nm (x := "thing") (i := 1) (by decide +kernel)
    have c2 := (ok_is_rooms T).at b.toBs (by decide) (by decide +kernel)
    have r2 := R_is_rooms.mk W hw qs h
    refine sd_no (by walk_at "fc t") (by rfl) ?_
    exact sd_nil rfl

/-! ### sums -/
theorem low_sz {n : Nat} {x B : Int} (hB : 0 < B) (zx : Sz n x) : Sz n (low x B).1 := zx.of_le (low_abs hB)
theorem low_sz2 {n : Nat} {x B : Int} (hB : 0 < B) (zB : Sz n B) : Sz n (low x B).2 := zB.of_le (by
  have h1 := low_le (t := x) hB
  have h2 := low_snd_pos (t := x) hB
  omega)
abbrev fq (B : Int) (x : Int) : Dt := frD (low x B)
inductive R_sum_of : List Dt → (Dt → Prop) → Prop
  | mk (xs : List Int) (B : Int) (hB : 0 < B) (zB : Sz 1000 B) (zx : ∀ x ∈ xs, Sz 1000 x) (hl : xs.length ≤ 14) : R_sum_of [.lst (xs.map (fq B))] (fun d => d = fq B xs.sum)
theorem sum_take_succ {xs : List Int} {n : Nat} {x : Int} (h : xs[n]? = some x) : (xs.take (n + 1)).sum = (xs.take n).sum + x := by
  rw [List.take_succ, h, List.sum_append]
  simp
theorem ok_sum_of (T : Tx K mg C) : Cal P w K mg base "sum_of" 4 R_sum_of := by
  refine def_cal 3 T.d_sum_of sc_sum_of hb_sum_of (fun ds S h => by cases h; rfl) (fun X b ds S h => ?_)
  cases h with
  | mk xs B hB zB zx hl =>
    have n0 := b.nm (x := "some") (i := 0) (by decide +kernel)
    have n1 := b.nm (x := "found") (i := 1) (by decide +kernel)
    have n2 := b.nm (x := "one") (i := 2) (by decide +kernel)
    have l1 := b.lo (x := "found") (i := 1) (by decide +kernel)
    have l2 := b.lo (x := "one") (i := 2) (by decide +kernel)
    have k1 := T.c_nought.at b.toBs (by decide +kernel)
    have c1 := (ok_plus T).at b.toBs (by decide) (by decide +kernel)
    refine sd_asg (by walk_at "fc ev") l1 ?_
    refine sd_for b.po b.calm l2 (pid_list (by walk_at "fc ev")) (fun n env => ∃ x, env = [.fz (.lst (xs.map (fq B))), .fz (fq B (xs.take n).sum), x]) ⟨.un, ?_⟩ ?_ ?_
    · have e : fq B (xs.take 0).sum = .tup [.int 0, .int 1] := by
        show frD (low 0 B) = _
        rw [low_zero hB]
      rw [e]
      rfl
    · rintro n d env hd ⟨x, rfl⟩
      rw [List.getElem?_map] at hd
      cases hq : xs[n]? with
      | none => rw [hq] at hd; cases hd
      | some y =>
        rw [hq] at hd
        cases hd
        have hm := List.mem_of_getElem? hq
        have zs : Sz 1005 (xs.take n).sum := by
          refine sz_many (k := (xs.take n).length) (sum_abs (2 ^ 1000) _ fun z hz => Nat.le_of_lt (zx z (List.mem_of_mem_take hz))) ?_
          rw [List.length_take]
          omega
        have h1 := low_snd_pos (t := (xs.take n).sum) hB
        have h2 := low_snd_pos (t := y) hB
        have z1 := (low_sz hB zs).mono (b := 4000) (by decide)
        have z2 := (low_sz2 (x := (xs.take n).sum) hB zB).mono (b := 4000) (by decide)
        have z3 := (low_sz hB (zx y hm)).mono (b := 4000) (by decide)
        have z4 := (low_sz2 (x := y) hB zB).mono (b := 4000) (by decide)
        refine sd_asg (by walk_at "fc ev") l1 (sd_nil ⟨.fz (fq B y), ?_⟩)
        have e : fq B (xs.take (n + 1)).sum = frD (plusF (low (xs.take n).sum B) (low y B)) := by
          rw [low_add hB, sum_take_succ hq]
        rw [e]
        rfl
    · rintro env ⟨x, rfl⟩
      refine sd_ret (by walk_at "fc ev") ?_
      rw [List.length_map, List.take_length]

inductive R_going : List Dt → (Dt → Prop) → Prop
  | mk (W : Web) (h : WebOk W) (xs : List Int) (B : Int) (hB : 0 < B) (zB : Sz 1000 B) (zx : ∀ x ∈ xs, Sz 1000 x) (hl : xs.length = W.ties.length) (p : Str) : R_going [webD W, .lst (xs.map (fq B)), .str p] (fun d => d = fq B (goI (W.ties.zip xs) p))
theorem ok_going (T : Tx K mg C) : Cal P w K mg base "going" 4 R_going := by
  refine def_cal 3 T.d_going sc_going hb_going (fun ds S h => by cases h; rfl) (fun X b ds S h => ?_)
  cases h with
  | mk W h xs B hB zB zx hl p =>
    have n0 := b.nm (x := "web") (i := 0) (by decide +kernel)
    have n1 := b.nm (x := "flow") (i := 1) (by decide +kernel)
    have n2 := b.nm (x := "place") (i := 2) (by decide +kernel)
    have n3 := b.nm (x := "found") (i := 3) (by decide +kernel)
    have n4 := b.nm (x := "k") (i := 4) (by decide +kernel)
    have l3 := b.lo (x := "found") (i := 3) (by decide +kernel)
    have l4 := b.lo (x := "k") (i := 4) (by decide +kernel)
    have g3 := b.b_len T (by decide +kernel)
    have g4 := b.b_range T (by decide +kernel)
    have k1 := T.c_nought.at b.toBs (by decide +kernel)
    have c1 := (ok_plus T).at b.toBs (by decide) (by decide +kernel)
    have c2 := (ok_minus T).at b.toBs (by decide) (by decide +kernel)
    have t14 := h.t14
    refine sd_asg (by walk_at "fc ev") l3 ?_
    refine sd_for b.po b.calm l4 (pid_range (k := ((xs.map (fq B)).length : Nat)) g4 (by walk_at "fc ev") (by omega) (by rw [List.length_map]; omega)) (fun n env => ∃ x, env = [.fz (.tup [.lst (W.places.map .str), .lst (W.ties.map tieD), .str W.first, .str W.last]), .fz (.lst (xs.map (fq B))), .fz (.str p), .fz (fq B (goI ((W.ties.zip xs).take n) p)), x]) ⟨.un, ?_⟩ ?_ ?_
    · have e : fq B (goI ((W.ties.zip xs).take 0) p) = .tup [.int 0, .int 1] := by
        show frD (low 0 B) = _
        rw [low_zero hB]
      rw [e]
      rfl
    · rintro n d env hd ⟨x, rfl⟩
      obtain ⟨hn, rfl⟩ := range_at hd
      have hn : n < xs.length := by simpa using hn
      have hq : xs[n]? = some xs[n] := List.getElem?_eq_getElem hn
      have ht : W.ties[n]? = some (W.ties[n]'(by omega)) := List.getElem?_eq_getElem (by omega)
      generalize xs[n] = y at hq
      generalize W.ties[n]'(by omega) = t at ht
      have hz : (W.ties.zip xs)[n]? = some (t, y) := by rw [List.getElem?_zip_eq_some]; exact ⟨ht, hq⟩
      have hm := List.mem_of_getElem? hq
      have ha : atI (xs.map (fq B)) (n : Int) = some (.tup [.int (low y B).1, .int (low y B).2]) := at_map hq
      have hb : atI (W.ties.map tieD) (n : Int) = some (.tup [.str t.one, .str t.other, .str (wordS t.both), frD t.len, worthD t.worth]) := at_map ht
      generalize hg : goI ((W.ties.zip xs).take n) p = g
      have zs : Sz 1005 g := by
        rw [← hg]
        refine sz_many (k := ((W.ties.zip xs).take n).length) (goI_abs p (2 ^ 1000) _ fun z hz => Nat.le_of_lt (zx z.2 (List.of_mem_zip (List.mem_of_mem_take hz)).2)) ?_
        rw [List.length_take, List.length_zip]
        omega
      have gs : goI ((W.ties.zip xs).take (n + 1)) p = g + (if t.one = p then y else if t.other = p then -y else 0) := by
        rw [List.take_succ, hz, goI_app, hg]
        simp [goI]
      have h1 := low_snd_pos (t := g) hB
      have h2 := low_snd_pos (t := y) hB
      have z1 := (low_sz hB zs).mono (b := 4000) (by decide)
      have z2 := (low_sz2 (x := g) hB zB).mono (b := 4000) (by decide)
      have z3 := (low_sz hB (zx y hm)).mono (b := 4000) (by decide)
      have z4 := (low_sz2 (x := y) hB zB).mono (b := 4000) (by decide)
      refine sd_if (by walk_at "fc t") (fun hc => ?_) (fun hc => ?_)
      · have hc : t.one = p := by simpa using hc
        refine sd_asg (by walk_at "fc ev") l3 (sd_nil (sd_nil ⟨.fz (.int (n : Nat)), ?_⟩))
        have e : fq B (goI ((W.ties.zip xs).take (n + 1)) p) = frD (plusF (low g B) (low y B)) := by
          rw [low_add hB, gs, if_pos hc]
        rw [e]
        rfl
      · have hc : ¬ t.one = p := by simpa using hc
        refine sd_if (by walk_at "fc t") (fun hc2 => ?_) (fun hc2 => ?_)
        · have hc2 : t.other = p := by simpa using hc2
          refine sd_asg (by walk_at "fc ev") l3 (sd_nil (sd_nil (sd_nil ⟨.fz (.int (n : Nat)), ?_⟩)))
          have e : fq B (goI ((W.ties.zip xs).take (n + 1)) p) = frD (minusF (low g B) (low y B)) := by
            rw [low_sub hB, gs, if_neg hc, if_pos hc2, Int.sub_eq_add_neg]
          rw [e]
          rfl
        · have hc2 : ¬ t.other = p := by simpa using hc2
          refine sd_nil (sd_nil (sd_nil ⟨.fz (.int (n : Nat)), ?_⟩))
          rw [gs, if_neg hc, if_neg hc2, Int.add_zero]
          rfl
    · rintro env ⟨x, rfl⟩
      refine sd_ret (by walk_at "fc ev") ?_
      rw [range_len, Int.toNat_natCast, List.length_map, List.take_of_length_le]
      rw [List.length_zip]
      omega
end
end Fc

namespace Fc
open PySem PySem.Spec PyProof.Rows L2
/-- the tie k leads out -/
def ldB (ties : List Tie) (k : Nat) (S : Str → Bool) : Bool := match ties[k]? with
  | some t => leadsB t S
  | none => false
/-- which ties count -/
def outB (ties : List Tie) (ts : List Int) (S : Str → Bool) (k : Nat) : Bool := !decide ((k : Int) ∈ ts) && ldB ties k S
/-- the room of a side, in whole numbers -/
def roomI (ties : List Tie) (rs : List Int) (ts : List Int) (S : Str → Bool) : Int := (((List.range rs.length).filter (outB ties ts S)).map fun k => rs.getD k 0).sum
theorem map_fq (rs : List Int) (B : Int) : (rs.map fun x => low x B).map frD = rs.map (fq B) := by
  rw [List.map_map]
  rfl
theorem getD_mem_or (rs : List Int) (k : Nat) : rs.getD k 0 ∈ rs ∨ rs.getD k 0 = 0 := by
  rw [List.getD_eq_getElem?_getD]
  cases e : rs[k]? with
  | none => exact .inr rfl
  | some x => exact .inl (List.mem_of_getElem? e)
section
variable {P : Program} {w : World} {K : PySem.W.Frag} {mg : Str → Option Value} {base : Heap} {C : Addr}

inductive R_amount_in : List Dt → (Dt → Prop) → Prop
  | mk (W : Web) (h : WebOk W) (xs : List Int) (B : Int) (hB : 0 < B) (zB : Sz 1000 B) (zx : ∀ x ∈ xs, Sz 1000 x) (hl : xs.length = W.ties.length) : R_amount_in [webD W, .lst (xs.map (fq B))] (fun d => d = fq B (goI (W.ties.zip xs) W.first))
theorem ok_amount_in (T : Tx K mg C) : Cal P w K mg base "amount_in" 5 R_amount_in := by
  refine def_cal 4 T.d_amount_in sc_amount_in hb_amount_in (fun ds S h => by cases h; rfl) (fun X b ds S h => ?_)
  cases h with
  | mk W h xs B hB zB zx hl =>
    have n0 := b.nm (x := "web") (i := 0) (by decide +kernel)
    have n1 := b.nm (x := "flow") (i := 1) (by decide +kernel)
    have c1 := (ok_going T).at b.toBs (by decide) (by decide +kernel)
    have r1 := R_going.mk W h xs B hB zB zx hl W.first
    show SD X _ [.fz (.tup [.lst (W.places.map .str), .lst (W.ties.map tieD), .str W.first, .str W.last]), .fz (.lst (xs.map (fq B)))] _
    exact sd_ret (by walk_at "fc ev") (by rfl)
inductive R_amount_of : List Dt → (Dt → Prop) → Prop
  | mk (W : Web) (h : WebOk W) (xs : List Int) (B : Int) (hB : 0 < B) (zB : Sz 1000 B) (zx : ∀ x ∈ xs, Sz 1000 x) (hl : xs.length = W.ties.length) : R_amount_of [webD W, .lst (xs.map (fq B))] (fun d => d = fq B (goI (W.ties.zip xs) W.first))
theorem ok_amount_of (T : Tx K mg C) : Cal P w K mg base "amount_of" 7 R_amount_of := by
  refine def_cal 6 T.d_amount_of sc_amount_of hb_amount_of (fun ds S h => by cases h; rfl) (fun X b ds S h => ?_)
  cases h with
  | mk W h xs B hB zB zx hl =>
    have n0 := b.nm (x := "web") (i := 0) (by decide +kernel)
    have n1 := b.nm (x := "flow") (i := 1) (by decide +kernel)
    have c1 := (ok_look_at_web T).at b.toBs (by decide) (by decide +kernel)
    have c2 := (ok_amount_in T).at b.toBs (by decide) (by decide +kernel)
    have r1 := R_look_at_web.mk W h
    have r2 := R_amount_in.mk W h xs B hB zB zx hl
    refine sd_expr (by walk_at "fc ev") ?_
    exact sd_ret (by walk_at "fc ev") (by rfl)

inductive R_is_side : List Dt → (Dt → Prop) → Prop
  | mk (W : Web) (h : WebOk W) (ss : List Str) (hs : SideOk W ss) : R_is_side [webD W, .lst (ss.map .str)] (fun d => d = .bl true)
theorem ok_is_side (T : Tx K mg C) : Cal P w K mg base "is_side" 1 R_is_side := by
  refine def_cal 0 T.d_is_side sc_is_side hb_is_side (fun ds S h => by cases h; rfl) (fun X b ds S h => ?_)
  cases h with
  | mk W h ss hs =>
    have n0 := b.nm (x := "web") (i := 0) (by decide +kernel)
    have n1 := b.nm (x := "thing") (i := 1) (by decide +kernel)
    have g1 := b.b_isinstance T (by decide +kernel)
    have g2 := b.b_list T (by decide +kernel)
    have p7 := h.p7
    show SD X _ [.fz (.tup [.lst (W.places.map .str), .lst (W.ties.map tieD), .str W.first, .str W.last]), .fz (.lst (ss.map .str)), .un] _
    refine sd_no (by walk_at "fc t") (by simp [hs.fm, hs.lm]) ?_
    have hsub : ∀ s ∈ ss, s ∈ W.places := fun s hm => by
      rw [← hs.eq] at hm
      exact (List.mem_filter.mp hm).1
    have hcmp : CmpD X .Eq (.lst (ss.map .str)) (.lst ((W.places.filter (inS ss)).map Dt.str)) (decide (ss = W.places.filter (inS ss))) :=
      cmp_eqLS b.room (fun s hm => (h.nm s (hsub s hm)).ok) fun s hm => (h.nm s (List.mem_filter.mp hm).1).ok
    refine sd_ret (pv_cmp (by walk_at "fc ev") (pv_lc (lcd_name (xs := W.places) (inj := Dt.str) (i := 2) [("place", 2)] (inS ss) Dt.str b.calm b.eN b.eS b.nd (by omega) (pid_list (by walk_at "fc ev")) (by decide +kernel) (by decide) rfl (by decide +kernel) (fun a Y ha y => ptd_if ?_) (fun a Y ha hp y => ?_))) (by walk_at "fc cmp")) ?_
    · have B := b.toBs.blk y
      have m0 := B.nm (x := "place") (i := 2) (by decide +kernel)
      have m1 := B.nm (x := "thing") (i := 1) (by decide +kernel)
      exact PB.is (by walk_at "fc t") (by rfl)
    · have B := b.toBs.blk y
      have m0 := B.nm (x := "place") (i := 2) (by decide +kernel)
      walk_at "fc ev"
    · rw [decide_eq_true hs.eq.symm]

inductive R_leads_out : List Dt → (Dt → Prop) → Prop
  | mk (t : Tie) (ss : List Str) : R_leads_out [tieD t, .lst (ss.map .str)] (fun d => d = .bl (leadsB t (inS ss)))
theorem word_both (b : Bool) : decide (wordS b = Str.ofString "both") = b := by
  cases b
  · exact decide_eq_false (by decide +kernel)
  · exact decide_eq_true rfl
theorem ok_leads_out (T : Tx K mg C) : Cal P w K mg base "leads_out" 1 R_leads_out := by
  refine def_cal 0 T.d_leads_out sc_leads_out hb_leads_out (fun ds S h => by cases h; rfl) (fun X b ds S h => ?_)
  cases h with
  | mk t ss =>
    have n0 := b.nm (x := "tie") (i := 0) (by decide +kernel)
    have n1 := b.nm (x := "side") (i := 1) (by decide +kernel)
    show SD X _ [.fz (.tup [.str t.one, .str t.other, .str (wordS t.both), frD t.len, worthD t.worth]), .fz (.lst (ss.map .str))] _
    refine sd_when (PB.is (by walk_at "fc t") (word_both t.both)) (fun hb => ?_) (fun hb => ?_)
    · refine sd_ret (by walk_at "fc ev") ?_
      show Dt.bl _ = Dt.bl (leadsB t (inS ss))
      unfold leadsB inS
      rw [hb]
      rfl
    · refine sd_ret (by walk_at "fc ev") ?_
      show Dt.bl _ = Dt.bl (leadsB t (inS ss))
      unfold leadsB inS
      rw [hb]
      rfl

inductive R_room_in : List Dt → (Dt → Prop) → Prop
  | mk (W : Web) (h : WebOk W) (rs : List Int) (B : Int) (hB : 0 < B) (zB : Sz 1000 B) (zr : ∀ x ∈ rs, Sz 1000 x) (hl : rs.length = W.ties.length) (ts : List Int) (ss : List Str) :
    R_room_in [webD W, .lst (rs.map (fq B)), .lst (ts.map .int), .lst (ss.map .str)] (fun d => d = fq B (roomI W.ties rs ts (inS ss)))
theorem ok_room_in (T : Tx K mg C) : Cal P w K mg base "room_in" 5 R_room_in := by
  refine def_cal 4 T.d_room_in sc_room_in hb_room_in (fun ds S h => by cases h; rfl) (fun X b ds S h => ?_)
  cases h with
  | mk W h rs B hB zB zr hl ts ss =>
    have n0 := b.nm (x := "web") (i := 0) (by decide +kernel)
    have n1 := b.nm (x := "rooms") (i := 1) (by decide +kernel)
    have n2 := b.nm (x := "taken") (i := 2) (by decide +kernel)
    have n3 := b.nm (x := "side") (i := 3) (by decide +kernel)
    have g3 := b.b_len T (by decide +kernel)
    have g4 := b.b_range T (by decide +kernel)
    have c1 := (ok_sum_of T).at b.toBs (by decide) (by decide +kernel)
    have t14 := h.t14
    have hnn : ((rs.map (fq B)).length : Int).toNat = rs.length := by rw [Int.toNat_natCast, List.length_map]
    show SD X _ [.fz (.tup [.lst (W.places.map .str), .lst (W.ties.map tieD), .str W.first, .str W.last]), .fz (.lst (rs.map (fq B))), .fz (.lst (ts.map .int)), .fz (.lst (ss.map .str)), .un] _
    have hR : R_sum_of [.lst (((List.range ((rs.map (fq B)).length : Int).toNat).filter (outB W.ties ts (inS ss))).map fun k => fq B (rs.getD k 0))] (fun d => d = fq B (roomI W.ties rs ts (inS ss))) := by
      rw [hnn]
      have := R_sum_of.mk (((List.range rs.length).filter (outB W.ties ts (inS ss))).map fun k => rs.getD k 0) B hB zB (fun x hx => ?_) ?_
      · rw [List.map_map] at this
        exact this
      · obtain ⟨k, _, rfl⟩ := List.mem_map.mp hx
        rcases getD_mem_or rs k with z | z
        · exact zr _ z
        · rw [z]
          exact Nat.pow_pos (by decide)
      · have := List.length_filter_le (outB W.ties ts (inS ss)) (List.range rs.length)
        rw [List.length_range] at this
        rw [List.length_map]
        omega
    refine sd_ret (pv_call c1 (pvs_cons (pv_lc (lcd_name (xs := List.range ((rs.map (fq B)).length : Int).toNat) (inj := fun k : Nat => Dt.int (k : Nat)) (i := 4) [("k", 4)] (outB W.ties ts (inS ss)) (fun k => fq B (rs.getD k 0)) b.calm b.eN b.eS b.nd (by rw [List.length_range, hnn]; omega) (pid_range g4 (by walk_at "fc ev") (by omega) (by rw [List.length_map]; omega)) (by decide +kernel) (by decide) rfl (by decide +kernel) (fun a Y ha y => ptd_if ?_) (fun a Y ha hp y => ?_))) pvs_nil) hR) (by rfl)
    · have Bb := b.toBs.blk y
      have m0 := Bb.nm (x := "web") (i := 0) (by decide +kernel)
      have m2 := Bb.nm (x := "taken") (i := 2) (by decide +kernel)
      have m3 := Bb.nm (x := "side") (i := 3) (by decide +kernel)
      have m4 := Bb.nm (x := "k") (i := 4) (by decide +kernel)
      have c2 := (ok_leads_out T).at Bb (by decide) (by decide +kernel)
      rw [hnn, List.mem_range] at ha
      have ht : W.ties[a]? = some (W.ties[a]'(by omega)) := List.getElem?_eq_getElem (by omega)
      generalize W.ties[a]'(by omega) = t at ht
      have hb : atI (W.ties.map tieD) (a : Int) = some (.tup [.str t.one, .str t.other, .str (wordS t.both), frD t.len, worthD t.worth]) := at_map ht
      have hR2 : R_leads_out [.tup [.str t.one, .str t.other, .str (wordS t.both), frD t.len, worthD t.worth], .lst (ss.map .str)] (fun d => d = .bl (leadsB t (inS ss))) := .mk t ss
      refine PB.is (by walk_at "fc t") ?_
      unfold outB ldB
      rw [ht]
    · have Bb := b.toBs.blk y
      have m1 := Bb.nm (x := "rooms") (i := 1) (by decide +kernel)
      have m4 := Bb.nm (x := "k") (i := 4) (by decide +kernel)
      rw [hnn, List.mem_range] at ha
      have hb : atI (rs.map (fq B)) (a : Int) = some (fq B (rs.getD a 0)) := at_map (by rw [List.getD_eq_getElem?_getD, List.getElem?_eq_getElem ha]; rfl)
      walk_at "fc ev"

inductive R_room_of : List Dt → (Dt → Prop) → Prop
  | mk (W : Web) (h : WebOk W) (rs : List Int) (B : Int) (hB : 0 < B) (zB : Sz 1000 B) (zr : ∀ x ∈ rs, Sz 1000 x) (hr : RoomsOk W (rs.map fun x => low x B)) (ts : List Int) (ht : TakOk W ts) (h14 : ts.length ≤ 14) (ss : List Str) (hs : SideOk W ss) :
    R_room_of [webD W, .lst (rs.map (fq B)), .lst (ts.map .int), .lst (ss.map .str)] (fun d => d = fq B (roomI W.ties rs ts (inS ss)))
theorem ok_room_of (T : Tx K mg C) : Cal P w K mg base "room_of" 8 R_room_of := by
  refine def_cal 7 T.d_room_of sc_room_of hb_room_of (fun ds S h => by cases h; rfl) (fun X b ds S h => ?_)
  cases h with
  | mk W h rs B hB zB zr hr ts ht h14 ss hs =>
    have n0 := b.nm (x := "web") (i := 0) (by decide +kernel)
    have n1 := b.nm (x := "rooms") (i := 1) (by decide +kernel)
    have n2 := b.nm (x := "taking") (i := 2) (by decide +kernel)
    have n3 := b.nm (x := "side") (i := 3) (by decide +kernel)
    have c1 := (ok_look_at_web T).at b.toBs (by decide) (by decide +kernel)
    have c2 := (ok_look_at_rooms T).at b.toBs (by decide) (by decide +kernel)
    have c3 := (ok_look_at_taking T).at b.toBs (by decide) (by decide +kernel)
    have c4 := (ok_is_side T).at b.toBs (by decide) (by decide +kernel)
    have c5 := (ok_room_in T).at b.toBs (by decide) (by decide +kernel)
    have r1 := R_look_at_web.mk W h
    have r2 := R_look_at_rooms.mk W h _ hr
    rw [map_fq] at r2
    have r3 := R_look_at_taking.mk W h ts ht h14
    have r4 := R_is_side.mk W h ss hs
    have hl : rs.length = W.ties.length := by have := hr.len; rwa [List.length_map] at this
    have r5 := R_room_in.mk W h rs B hB zB zr hl ts ss
    refine sd_expr (by walk_at "fc ev") ?_
    refine sd_expr (by walk_at "fc ev") ?_
    refine sd_expr (by walk_at "fc ev") ?_
    refine sd_no (by walk_at "fc t") (by rfl) ?_
    exact sd_ret (by walk_at "fc ev") (by rfl)
end
end Fc

namespace Fc
open PySem PySem.Spec PyProof.Rows L2
/-! ### pipes -/
/-- a common bottom -/
def botF (qs : List (Int × Int)) : Int := qs.foldl (fun acc q => acc * q.2 / gcdI acc q.2) 1
def bigL : Int := 2329089562800
theorem pos_of_mul {g v : Int} (h : 0 < g * v) (hg : 0 < g) : 0 < v := by
  rcases Int.lt_or_le 0 v with q | q
  · exact q
  · have := Int.mul_nonpos_of_nonneg_of_nonpos (Int.le_of_lt hg) q
    omega
theorem bot_step {a y : Int} (ha : 0 < a) (hy : 0 < y) (h1 : a ∣ bigL) (h2 : y ∣ bigL) : 0 < a * y / gcdI a y ∧ a ∣ a * y / gcdI a y ∧ y ∣ a * y / gcdI a y ∧ a * y / gcdI a y ∣ bigL := by
  have hg := gcdI_pos (a := a) hy
  obtain ⟨u, hu⟩ := gcdI_dvd_left a y
  obtain ⟨v, hv⟩ := gcdI_dvd_right a y
  have e1 : a * y / gcdI a y = a * v := by
    refine Int.ediv_eq_of_eq_mul_right (by omega) ?_
    calc a * y = a * (gcdI a y * v) := by rw [← hv]
      _ = gcdI a y * (a * v) := by rw [← Int.mul_assoc, Int.mul_comm a, Int.mul_assoc]
  have e2 : a * y / gcdI a y = y * u := by
    refine Int.ediv_eq_of_eq_mul_right (by omega) ?_
    calc a * y = gcdI a y * u * y := by rw [← hu]
      _ = gcdI a y * (y * u) := by rw [Int.mul_assoc, Int.mul_comm u]
  have hv0 : 0 < v := by
    have : 0 < gcdI a y * v := by rw [← hv]; exact hy
    exact pos_of_mul this hg
  refine ⟨?_, ⟨v, e1⟩, ⟨u, e2⟩, ?_⟩
  · rw [e1]
    exact Int.mul_pos ha hv0
  · obtain ⟨p, hp⟩ := h1
    obtain ⟨q, hq⟩ := h2
    have hc : gcdI u v = 1 := by
      have := low_gcd (t := a) hy
      unfold low at this
      have a1 : a / gcdI a y = u := Int.ediv_eq_of_eq_mul_right (by omega) hu
      have a2 : y / gcdI a y = v := Int.ediv_eq_of_eq_mul_right (by omega) hv
      simp only [a1, a2] at this
      exact this
    rw [e1, hp]
    refine Int.mul_dvd_mul_left a ?_
    have h3 : v ∣ u * p := by
      have : gcdI a y * (u * p) = gcdI a y * (v * q) := by
        rw [← Int.mul_assoc, ← Int.mul_assoc, ← hu, ← hv, ← hp, hq]
      rw [Int.eq_of_mul_eq_mul_left (by omega) this]
      exact ⟨q, rfl⟩
    have h4 : (Int.gcd v u : Int) = 1 := by rw [Int.gcd_comm]; exact hc
    have h5 := Int.dvd_gcd_mul_iff_dvd_mul.mpr h3
    rw [h4, Int.one_mul] at h5
    exact h5
structure BotOk (qs : List (Int × Int)) : Prop where
  each : ∀ q ∈ qs, 0 < q.2 ∧ q.2 ∣ bigL
theorem bot_inv : ∀ (qs : List (Int × Int)) (a : Int), BotOk qs → 0 < a → a ∣ bigL → let r := qs.foldl (fun acc q => acc * q.2 / gcdI acc q.2) a; 0 < r ∧ r ∣ bigL ∧ a ∣ r ∧ ∀ q ∈ qs, q.2 ∣ r
  | [], a, _, h1, h2 => ⟨h1, h2, Int.dvd_refl a, fun q hq => by cases hq⟩
  | q :: qs, a, h, h1, h2 => by
    obtain ⟨hq1, hq2⟩ := h.each q List.mem_cons_self
    obtain ⟨s1, s2, s3, s4⟩ := bot_step h1 hq1 h2 hq2
    obtain ⟨r1, r2, r3, r4⟩ := bot_inv qs (a * q.2 / gcdI a q.2) ⟨fun q hq => h.each q (List.mem_cons_of_mem _ hq)⟩ s1 s4
    refine ⟨r1, r2, Int.dvd_trans s2 r3, fun q' hq' => ?_⟩
    rcases List.mem_cons.mp hq' with e | hq'
    · subst e
      exact Int.dvd_trans s3 r3
    · exact r4 q' hq'
theorem bot_ok {qs : List (Int × Int)} (h : BotOk qs) : 0 < botF qs ∧ botF qs ∣ bigL ∧ ∀ q ∈ qs, q.2 ∣ botF qs := by
  obtain ⟨h1, h2, _, h4⟩ := bot_inv qs 1 h (by decide) (Int.one_dvd _)
  exact ⟨h1, h2, h4⟩
theorem sz_bigL {x : Int} (h : 0 < x) (d : x ∣ bigL) : Sz 42 x := by
  have := Int.le_of_dvd (by decide) d
  unfold Sz
  have e : bigL < 2 ^ 42 := by decide
  omega
def spareI (t : Tie) (r a : Int) (p : Str) : Int := if p = t.one then r - a else if p = t.other ∧ t.both = true then r + a else if p = t.other then a else 0
def overI (t : Tie) (p : Str) : Str := if p = t.one then t.other else t.one
abbrev pipeF (W : Web) (B : Int) (r a : List Int) : List (Str × Dt) := [("net", webD W), ("bottom", .int B), ("rooms", .lst (r.map .int)), ("amounts", .lst (a.map .int))]
abbrev pipeD (C : Addr) (W : Web) (B : Int) (r a : List Int) : Dt := .obj C (pipeF W B r a)
theorem ne_bn : ((Str.ofString "bottom") == (Str.ofString "net")) = false := by decide +kernel
theorem ne_rn : ((Str.ofString "rooms") == (Str.ofString "net")) = false := by decide +kernel
theorem ne_an : ((Str.ofString "amounts") == (Str.ofString "net")) = false := by decide +kernel
theorem ne_rb : ((Str.ofString "rooms") == (Str.ofString "bottom")) = false := by decide +kernel
theorem ne_ab : ((Str.ofString "amounts") == (Str.ofString "bottom")) = false := by decide +kernel
theorem ne_ar : ((Str.ofString "amounts") == (Str.ofString "rooms")) = false := by decide +kernel
section
variable {W : Web} {B : Int} {r a : List Int}
theorem pipe_net : (pipeF W B r a).lookup (Str.ofString "net") = some (.tup [.lst (W.places.map .str), .lst (W.ties.map tieD), .str W.first, .str W.last]) := by
  simp only [List.lookup, beq_self_eq_true]
  rfl
theorem pipe_bottom : (pipeF W B r a).lookup (Str.ofString "bottom") = some (.int B) := by simp only [List.lookup, ne_bn, beq_self_eq_true]
theorem pipe_rooms : (pipeF W B r a).lookup (Str.ofString "rooms") = some (.lst (r.map .int)) := by simp only [List.lookup, ne_rn, ne_rb, beq_self_eq_true]
theorem pipe_amounts : (pipeF W B r a).lookup (Str.ofString "amounts") = some (.lst (a.map .int)) := by simp only [List.lookup, ne_an, ne_ab, ne_ar, beq_self_eq_true]
def noF (m : Str) : Bool := !(m == (Str.ofString "net")) && !(m == (Str.ofString "bottom")) && !(m == (Str.ofString "rooms")) && !(m == (Str.ofString "amounts"))
theorem pipe_no {m : Str} (h : noF m = true) : (pipeF W B r a).lookup m = none := by
  unfold noF at h
  simp only [Bool.and_eq_true, Bool.not_eq_true'] at h
  obtain ⟨⟨⟨h1, h2⟩, h3⟩, h4⟩ := h
  show List.lookup m _ = none
  rw [List.lookup_cons, show (m == ("net" : Str)) = false from h1, List.lookup_cons, show (m == ("bottom" : Str)) = false from h2, List.lookup_cons, show (m == ("rooms" : Str)) = false from h3, List.lookup_cons, show (m == ("amounts" : Str)) = false from h4]
  rfl
end
section
variable {P : Program} {w : World} {K : PySem.W.Frag} {mg : Str → Option Value} {base : Heap} {C : Addr}

inductive R_common_bottom : List Dt → (Dt → Prop) → Prop
  | mk (qs : List (Int × Int)) (h : BotOk qs) : R_common_bottom [.lst (qs.map frD)] (fun d => d = .int (botF qs))
theorem ok_common_bottom (T : Tx K mg C) : Cal P w K mg base "common_bottom" 2 R_common_bottom := by
  refine def_cal 1 T.d_common_bottom sc_common_bottom hb_common_bottom (fun ds S h => by cases h; rfl) (fun X b ds S h => ?_)
  cases h with
  | mk qs h =>
    have n0 := b.nm (x := "some") (i := 0) (by decide +kernel)
    have n1 := b.nm (x := "found") (i := 1) (by decide +kernel)
    have n2 := b.nm (x := "top") (i := 2) (by decide +kernel)
    have n3 := b.nm (x := "bottom") (i := 3) (by decide +kernel)
    have l1 := b.lo (x := "found") (i := 1) (by decide +kernel)
    have l2 := b.lo (x := "top") (i := 2) (by decide +kernel)
    have l3 := b.lo (x := "bottom") (i := 3) (by decide +kernel)
    have c1 := (ok_divisor T).at b.toBs (by decide) (by decide +kernel)
    refine sd_asg (by walk_at "fc ev") l1 ?_
    refine sd_for2 (is := [2, 3]) b.po b.calm (.cons l2 (.cons l3 .nil)) (pid_list (by walk_at "fc ev")) (fun n env => ∃ x y, env = [.fz (.lst (qs.map frD)), .fz (.int (botF (qs.take n))), x, y]) ⟨_, _, rfl⟩ ?_ ?_
    · rintro n d env hd ⟨x, y, rfl⟩
      rw [List.getElem?_map] at hd
      cases hq : qs[n]? with
      | none => rw [hq] at hd; cases hd
      | some q =>
        rw [hq] at hd
        cases hd
        refine ⟨_, rfl, rfl, ?_⟩
        obtain ⟨h1, h2, _⟩ := bot_ok (qs := qs.take n) ⟨fun q hq => h.each q (List.mem_of_mem_take hq)⟩
        obtain ⟨h3, h4⟩ := h.each q (List.mem_of_getElem? hq)
        have m1 : CMulW (botF (qs.take n)) q.2 := mulOk (sz_bigL h1 h2) (sz_bigL h3 h4)
        have hg := gcdI_pos (a := botF (qs.take n)) h3
        have m2 : CDivW (botF (qs.take n) * q.2) (gcdI (botF (qs.take n)) q.2) := divOk hg ((sz_bigL h3 h4).of_le (by have := gcdI_le (a := botF (qs.take n)) h3; omega))
        refine sd_asg (by walk_at "fc ev") l1 (sd_nil ⟨.fz (.int q.1), .fz (.int q.2), ?_⟩)
        have e : botF (qs.take (n + 1)) = botF (qs.take n) * q.2 / gcdI (botF (qs.take n)) q.2 := by
          unfold botF
          rw [List.take_succ, hq, List.foldl_append]
          rfl
        rw [e]
        rfl
    · rintro env ⟨x, y, rfl⟩
      refine sd_ret (by walk_at "fc ev") ?_
      rw [List.length_map, List.take_length]

structure PipeOk (W : Web) (B : Int) (r a : List Int) : Prop where
  w : WebOk W
  lr : r.length = W.ties.length
  la : a.length = W.ties.length
inductive R_spare (C : Addr) : List Dt → (Dt → Prop) → Prop
  | mk (W : Web) (B : Int) (r a : List Int) (h : PipeOk W B r a) (k : Nat) (t : Tie) (x y : Int) (ht : W.ties[k]? = some t) (hx : r[k]? = some x) (hy : a[k]? = some y) (p : Str) : R_spare C [pipeD C W B r a, .int (k : Nat), .str p] (fun d => d = .int (spareI t x y p))
theorem ok_spare (T : Tx K mg C) : Met P w K mg base C "spare" 1 (R_spare C) := by
  refine met_cal 0 T.d_p_spare sc_p_spare hb_p_spare (fun ds S h => by cases h; rfl) (fun X b ds S h => ?_)
  cases h with
  | mk W B r a h k t x y ht hx hy p =>
    have n0 := b.nm (x := "self") (i := 0) (by decide +kernel)
    have n1 := b.nm (x := "k") (i := 1) (by decide +kernel)
    have n2 := b.nm (x := "place") (i := 2) (by decide +kernel)
    have n3 := b.nm (x := "one") (i := 3) (by decide +kernel)
    have n4 := b.nm (x := "other") (i := 4) (by decide +kernel)
    have n5 := b.nm (x := "word") (i := 5) (by decide +kernel)
    have l3 := b.lo (x := "one") (i := 3) (by decide +kernel)
    have l4 := b.lo (x := "other") (i := 4) (by decide +kernel)
    have l5 := b.lo (x := "word") (i := 5) (by decide +kernel)
    have cl : Cls X.K C := by rw [b.eK]; exact T.cl
    have a1 : NoAttr X.K C "net" := by rw [b.eK]; exact T.na_net
    have a3 : NoAttr X.K C "rooms" := by rw [b.eK]; exact T.na_rooms
    have a4 : NoAttr X.K C "amounts" := by rw [b.eK]; exact T.na_amounts
    have f1 := pipe_net (W := W) (B := B) (r := r) (a := a)
    have f3 := pipe_rooms (W := W) (B := B) (r := r) (a := a)
    have f4 := pipe_amounts (W := W) (B := B) (r := r) (a := a)
    have i1 : atI (W.ties.map tieD) (k : Int) = some (.tup [.str t.one, .str t.other, .str (wordS t.both), frD t.len, worthD t.worth]) := at_map ht
    have i2 : atI (r.map Dt.int) (k : Int) = some (.int x) := at_map hx
    have i3 : atI (a.map Dt.int) (k : Int) = some (.int y) := at_map hy
    have s1 : SlD X (.tup [.str t.one, .str t.other, .str (wordS t.both), frD t.len, worthD t.worth]) none (some 3) (.tup [.str t.one, .str t.other, .str (wordS t.both)]) :=
      sl_tp (lo := none) (hi := some 3) (by show ¬ (HT.sIx 5 0 none = 0 ∧ HT.sIx 5 5 (some 3) = 5); decide)
    refine sd_unp (is := [3, 4, 5]) b.calm (.cons l3 (.cons l4 (.cons l5 .nil))) (by walk_at "fc ev") (by rfl) ?_
    refine sd_when (by walk_at "fc t") (fun h1 => ?_) (fun h1 => ?_)
    · have h1 : p = t.one := by simpa using h1
      refine sd_ret (by walk_at "fc ev") ?_
      show _ = Dt.int (spareI t x y p)
      rw [spareI, if_pos h1]
    · have h1 : ¬ p = t.one := by simpa using h1
      refine sd_when (by walk_at "fc t") (fun h2 => ?_) (fun h2 => ?_)
      · rw [word_both, Bool.and_eq_true, decide_eq_true_eq] at h2
        refine sd_ret (by walk_at "fc ev") ?_
        show _ = Dt.int (spareI t x y p)
        rw [spareI, if_neg h1, if_pos h2]
      · rw [word_both, Bool.and_eq_false_iff, decide_eq_false_iff_not] at h2
        have h2 : ¬ (p = t.other ∧ t.both = true) := fun z => by
          rcases h2 with q | q
          · exact q z.1
          · rw [z.2] at q; cases q
        refine sd_when (by walk_at "fc t") (fun h3 => ?_) (fun h3 => ?_)
        · have h3 : p = t.other := by simpa using h3
          refine sd_ret (by walk_at "fc ev") ?_
          show _ = Dt.int (spareI t x y p)
          rw [spareI, if_neg h1, if_neg h2, if_pos h3]
        · have h3 : ¬ p = t.other := by simpa using h3
          refine sd_ret (by walk_at "fc ev") ?_
          show _ = Dt.int (spareI t x y p)
          rw [spareI, if_neg h1, if_neg h2, if_neg h3]
inductive R_over (C : Addr) : List Dt → (Dt → Prop) → Prop
  | mk (W : Web) (B : Int) (r a : List Int) (k : Nat) (t : Tie) (ht : W.ties[k]? = some t) (p : Str) : R_over C [pipeD C W B r a, .int (k : Nat), .str p] (fun d => d = .str (overI t p))
theorem ok_over (T : Tx K mg C) : Met P w K mg base C "over" 1 (R_over C) := by
  refine met_cal 0 T.d_p_over sc_p_over hb_p_over (fun ds S h => by cases h; rfl) (fun X b ds S h => ?_)
  cases h with
  | mk W B r a k t ht p =>
    have n0 := b.nm (x := "self") (i := 0) (by decide +kernel)
    have n1 := b.nm (x := "k") (i := 1) (by decide +kernel)
    have n2 := b.nm (x := "place") (i := 2) (by decide +kernel)
    have n3 := b.nm (x := "one") (i := 3) (by decide +kernel)
    have n4 := b.nm (x := "other") (i := 4) (by decide +kernel)
    have l3 := b.lo (x := "one") (i := 3) (by decide +kernel)
    have l4 := b.lo (x := "other") (i := 4) (by decide +kernel)
    have cl : Cls X.K C := by rw [b.eK]; exact T.cl
    have a1 : NoAttr X.K C "net" := by rw [b.eK]; exact T.na_net
    have f1 := pipe_net (W := W) (B := B) (r := r) (a := a)
    have i1 : atI (W.ties.map tieD) (k : Int) = some (.tup [.str t.one, .str t.other, .str (wordS t.both), frD t.len, worthD t.worth]) := at_map ht
    have s1 : SlD X (.tup [.str t.one, .str t.other, .str (wordS t.both), frD t.len, worthD t.worth]) none (some 2) (.tup [.str t.one, .str t.other]) :=
      sl_tp (lo := none) (hi := some 2) (by show ¬ (HT.sIx 5 0 none = 0 ∧ HT.sIx 5 5 (some 2) = 5); decide)
    refine sd_unp (is := [3, 4]) b.calm (.cons l3 (.cons l4 .nil)) (by walk_at "fc ev") (by rfl) ?_
    refine sd_when (by walk_at "fc t") (fun h1 => ?_) (fun h1 => ?_)
    · have h1 : p = t.one := by simpa using h1
      refine sd_ret (by walk_at "fc ev") ?_
      show _ = Dt.str (overI t p)
      rw [overI, if_pos h1]
    · have h1 : ¬ p = t.one := by simpa using h1
      refine sd_ret (by walk_at "fc ev") ?_
      show _ = Dt.str (overI t p)
      rw [overI, if_neg h1]
end
end Fc

namespace Fc
open PySem PySem.Spec PyProof.Rows L2
/-! ### what is reached -/
abbrev Fnd := List (Str × Option (Nat × Str))
def stepD : Option (Nat × Str) → Dt
  | none => .non
  | some (k, p) => .tup [.int (k : Nat), .str p]
def fndD (fs : Fnd) : List (Str × Dt) := fs.map fun f => (f.1, stepD f.2)
theorem fndD_keys (fs : Fnd) : (fndD fs).map (·.1) = fs.map (·.1) := by
  unfold fndD
  rw [List.map_map]
  all_goals rfl
/-- one may go from p along the tie k, to q -/
structure Go (W : Web) (r a : List Int) (k : Nat) (p q : Str) : Prop where
  ex : ∃ t x y, W.ties[k]? = some t ∧ r[k]? = some x ∧ a[k]? = some y ∧ 0 < spareI t x y p ∧ overI t p = q
structure FInv (W : Web) (r a : List Int) (fs : Fnd) : Prop where
  hd : fs[0]? = some (W.first, none)
  nd : (fs.map (·.1)).Nodup
  pl : ∀ x ∈ fs.map (·.1), x ∈ W.places
  no : ∀ (i : Nat) (q : Str), fs[i]? = some (q, none) → q = W.first
  st : ∀ (i : Nat) (q : Str) (k : Nat) (p : Str), fs[i]? = some (q, some (k, p)) → Go W r a k p q ∧ ∃ (j : Nat) (s : Option (Nat × Str)), j < i ∧ fs[j]? = some (p, s)
/-- nothing more is reached from p -/
def Done (W : Web) (r a : List Int) (fs : Fnd) (p : Str) : Prop := ∀ k q, Go W r a k p q → q ∈ fs.map (·.1)
theorem FInv.start {W : Web} {r a : List Int} (h : WebOk W) : FInv W r a [(W.first, none)] where
  hd := rfl
  nd := by simp
  pl := fun x hx => by
    have : x = W.first := by simpa using hx
    rw [this]
    exact h.fm
  no := fun i q hq => by
    cases i with
    | zero => cases hq; rfl
    | succ i => simp at hq
  st := fun i q k p hq => by
    cases i with
    | zero => cases hq
    | succ i => simp at hq
theorem FInv.snoc {W : Web} {r a : List Int} {fs : Fnd} {k : Nat} {p q : Str} (h : FInv W r a fs) (hw : WebOk W) (g : Go W r a k p q) (hp : p ∈ fs.map (·.1)) (hq : q ∉ fs.map (·.1)) : FInv W r a (fs ++ [(q, some (k, p))]) where
  hd := by
    rw [List.getElem?_append_left]
    · exact h.hd
    · exact (List.getElem?_eq_some_iff.mp h.hd).1
  nd := by
    rw [List.map_append, List.nodup_append]
    refine ⟨h.nd, by simp, fun x hx y hy => ?_⟩
    have : y = q := by simpa using hy
    subst this
    intro e
    subst e
    exact hq hx
  pl := fun x hx => by
    rw [List.map_append, List.mem_append] at hx
    rcases hx with hx | hx
    · exact h.pl x hx
    · have : x = q := by simpa using hx
      subst this
      obtain ⟨t, x1, y1, ht, _, _, _, e⟩ := g.ex
      have := hw.ts t (List.mem_of_getElem? ht)
      rw [← e]
      unfold overI
      split
      · exact this.m2
      · exact this.m1
  no := fun i q' hq' => by
    rw [List.getElem?_append] at hq'
    split at hq'
    · exact h.no i q' hq'
    · rw [List.getElem?_singleton] at hq'
      split at hq'
      · cases hq'
      · cases hq'
  st := fun i q' k' p' hq' => by
    rw [List.getElem?_append] at hq'
    split at hq'
    · rename_i hi
      obtain ⟨g1, j, s, hj, e⟩ := h.st i q' k' p' hq'
      exact ⟨g1, j, s, hj, by rw [List.getElem?_append_left (by omega)]; exact e⟩
    · rename_i hi
      rw [List.getElem?_singleton] at hq'
      split at hq'
      · cases hq'
        obtain ⟨z, hz, ez⟩ := List.mem_map.mp hp
        obtain ⟨j, hj⟩ := List.getElem?_of_mem hz
        have hl := (List.getElem?_eq_some_iff.mp hj).1
        refine ⟨g, j, z.2, by omega, ?_⟩
        rw [List.getElem?_append_left hl, hj, ← ez]
      · cases hq'
theorem FInv.len {W : Web} {r a : List Int} {fs : Fnd} (h : FInv W r a fs) : fs.length ≤ W.places.length := by
  have := List.Nodup.length_le_of_subset h.nd (fun x hx => h.pl x hx)
  simpa using this
structure Found (W : Web) (r a : List Int) (fs : Fnd) : Prop extends FInv W r a fs where
  all : ∀ p ∈ fs.map (·.1), Done W r a fs p
theorem Done.mono {W : Web} {r a : List Int} {fs : Fnd} {p : Str} (h : Done W r a fs p) (es : Fnd) : Done W r a (fs ++ es) p := fun k q g => by
  rw [List.map_append]
  exact List.mem_append_left _ (h k q g)
section
variable {P : Program} {w : World} {K : PySem.W.Frag} {mg : Str → Option Value} {base : Heap} {C : Addr}
inductive R_reached (C : Addr) : List Dt → (Dt → Prop) → Prop
  | mk (W : Web) (B : Int) (r a : List Int) (h : PipeOk W B r a) : R_reached C [pipeD C W B r a] (fun d => ∃ fs, d = .dct (fndD fs) ∧ Found W r a fs)
theorem ok_reached (T : Tx K mg C) : MeM P w K mg base C "reached" 2 (R_reached C) := by
  refine met_calM 1 T.d_p_reached sc_p_reached hb_p_reached (fun ds S h => by cases h; rfl) (fun X b d0 ds S h => ?_)
  cases h with
  | mk W B r a h =>
    have n0 := b.nm (x := "self") (i := 0) (by decide +kernel)
    have n1 := b.nm (x := "found") (i := 1) (by decide +kernel)
    have n2 := b.nm (x := "waiting") (i := 2) (by decide +kernel)
    have n3 := b.nm (x := "place") (i := 3) (by decide +kernel)
    have n4 := b.nm (x := "k") (i := 4) (by decide +kernel)
    have l1 := b.lo (x := "found") (i := 1) (by decide +kernel)
    have l2 := b.lo (x := "waiting") (i := 2) (by decide +kernel)
    have l3 := b.lo (x := "place") (i := 3) (by decide +kernel)
    have l4 := b.lo (x := "k") (i := 4) (by decide +kernel)
    have g3 := b.b_len T (by decide +kernel)
    have g4 := b.b_range T (by decide +kernel)
    have cl : Cls X.K C := by rw [b.eK]; exact T.cl
    have a1 : NoAttr X.K C "net" := by rw [b.eK]; exact T.na_net
    have a3 : NoAttr X.K C "rooms" := by rw [b.eK]; exact T.na_rooms
    have f1 := pipe_net (W := W) (B := B) (r := r) (a := a)
    have f3 := pipe_rooms (W := W) (B := B) (r := r) (a := a)
    have e1 : (pipeF W B r a).lookup (Str.ofString "spare") = none := pipe_no (by decide +kernel)
    have e2 : (pipeF W B r a).lookup (Str.ofString "over") = none := pipe_no (by decide +kernel)
    have m1 := (ok_spare (P := P) (w := w) (base := base) T).at T.cl b.toBs (by decide)
    have m2 := (ok_over (P := P) (w := w) (base := base) T).at T.cl b.toBs (by decide)
    have rm := b.room
    refine sd_cons (s1_newD (ks := W.first) (d := .non) (PV.thaw (by show PV X _ [.fz (pipeD C W B r a), .un, .un, .un, .un] _; walk_at "fc ev") rfl) (by walk_at "fc ev") l1 ?_)
    show SD X _ [.hf (pipeD C W B r a), .od [(W.first, .non)], .un, .un, .un] _
    refine sd_cons (s1_newLs (ds := [.str W.first]) (pvs_cons (PV.thaw (by show PV X _ [.fz (pipeD C W B r a), .fz (.dct [(W.first, .non)]), .un, .un, .un] _; walk_at "fc ev") rfl) pvs_nil) (by show 1 ≤ sizeLine; decide) l2 ?_)
    refine sd_while b.po (fun m env => ∃ (fs : Fnd) (ws : List Str) (x y : Sl), env = [.hf (pipeD C W B r a), .od (fndD fs), .ow (ws.map .str), x, y] ∧ (x = .un ∨ ∃ d, x = .fz d) ∧ (y = .un ∨ ∃ d, y = .fz d) ∧ FInv W r a fs ∧ (∀ p ∈ ws, p ∈ fs.map (·.1)) ∧ (∀ p ∈ fs.map (·.1), p ∈ ws ∨ Done W r a fs p) ∧ m = 2 * (7 - fs.length) + ws.length ∧ m ≤ 13) _ ⟨[(W.first, none)], [W.first], .un, .un, rfl, .inl rfl, .inl rfl, FInv.start h.w, by simp, by simp, rfl, by simp⟩ ?_
    rintro m env ⟨fs, ws, x, y, rfl, hx, hy, hF, hws, hdn, rfl, hm13⟩
    have hP7 := h.w.p7
    cases ws with
    | nil =>
      refine ⟨!decide ((([] : List Str)) = []), PB.thaw ?_, fun z => by simp at z, fun _ => ?_⟩
      · show PB X _ [.fz (pipeD C W B r a), .fz (.dct (fndD fs)), .fz (.lst (([] : List Str).map .str)), thaw1 x, thaw1 y] _
        have cc : CmpD X .NotEq (.lst (([] : List Str).map .str)) (.lst []) (!decide (([] : List Str) = [])) := cmp_neL0 rm (by simp)
        exact pb_cmp (by walk_at "fc ev") (by walk_at "fc ev") cc
      · refine sd_cons (s1_retD n1 rfl ⟨fs, rfl, ⟨hF, fun p hp => ?_⟩⟩)
        rcases hdn p hp with z | z
        · simp at z
        · exact z
    | cons p ws =>
      have hcl : ∀ s ∈ p :: ws, PyData.canLay0 (.str s) = true := fun s hs => (h.w.nm s (hF.pl s (hws s hs))).ok
      refine ⟨!decide (p :: ws = []), PB.thaw ?_, fun _ => ?_, fun z => by simp at z⟩
      · show PB X _ [.fz (pipeD C W B r a), .fz (.dct (fndD fs)), .fz (.lst ((p :: ws).map .str)), thaw1 x, thaw1 y] _
        have cc : CmpD X .NotEq (.lst ((p :: ws).map .str)) (.lst []) (!decide (p :: ws = [])) := cmp_neL0 rm hcl
        exact pb_cmp (by walk_at "fc ev") (by walk_at "fc ev") cc
      · have ow1 : oneOw [Sl.hf (pipeD C W B r a), .od (fndD fs), .ow ((p :: ws).map .str), x, y] 2 = true := by
          rcases hx with rfl | ⟨_, rfl⟩ <;> rcases hy with rfl | ⟨_, rfl⟩ <;> rfl
        refine sd_cons (s1_pop0 (d := .str p) (ds := ws.map .str) n2 l3 (by decide) rfl ow1 ?_)
        show SD X _ [.hf (pipeD C W B r a), .od (fndD fs), .ow (ws.map .str), .fz (.str p), y] _
        have hpk : p ∈ fs.map (·.1) := hws p List.mem_cons_self
        refine sd_for b.po b.calm l4 (pid_range (k := ((r.map Dt.int).length : Nat)) g4 (PV.thaw (by show PV X _ [.fz (pipeD C W B r a), .fz (.dct (fndD fs)), .fz (.lst (ws.map .str)), .fz (.str p), thaw1 y] _; walk_at "fc ev") rfl) (by omega) (by rw [List.length_map, h.lr]; have := h.w.t14; omega)) (fun n env => ∃ (fs' : Fnd) (ws' : List Str) (y : Sl), env = [.hf (pipeD C W B r a), .od (fndD fs'), .ow (ws'.map .str), .fz (.str p), y] ∧ (y = .un ∨ ∃ d, y = .fz d) ∧ FInv W r a fs' ∧ (∀ p ∈ ws', p ∈ fs'.map (·.1)) ∧ p ∈ fs'.map (·.1) ∧ (∀ p' ∈ fs'.map (·.1), p' ∈ ws' ∨ p' = p ∨ Done W r a fs' p') ∧ (∀ k q, k < n → Go W r a k p q → q ∈ fs'.map (·.1)) ∧ 2 * (7 - fs'.length) + ws'.length ≤ 2 * (7 - fs.length) + ws.length) ⟨fs, ws, y, rfl, hy, hF, fun p hp => hws p (List.mem_cons_of_mem _ hp), hpk, fun p' hp' => ?_, fun k q hk => absurd hk (by omega), Nat.le_refl _⟩ ?_ ?_
        · rcases hdn p' hp' with z | z
          · rcases List.mem_cons.mp z with z | z
            · exact .inr (.inl z)
            · exact .inl z
          · exact .inr (.inr z)
        · rintro n d env hd ⟨fs, ws, y, rfl, hy, hF, hws, hpk, hdn, hgo, hm⟩
          obtain ⟨hn, rfl⟩ := range_at hd
          have hn : n < W.ties.length := by
            rw [← h.lr]
            simpa using hn
          obtain ⟨t, ht⟩ : ∃ t, W.ties[n]? = some t := ⟨_, List.getElem?_eq_getElem hn⟩
          obtain ⟨x, hx⟩ : ∃ x, r[n]? = some x := ⟨_, List.getElem?_eq_getElem (by rw [h.lr]; exact hn)⟩
          obtain ⟨z, hz⟩ : ∃ x, a[n]? = some x := ⟨_, List.getElem?_eq_getElem (by rw [h.la]; exact hn)⟩
          have r1 := R_spare.mk (C := C) W B r a h n t x z ht hx hz p
          have r2 := R_over.mk (C := C) W B r a n t ht p
          show SD X _ [.hf (pipeD C W B r a), .od (fndD fs), .ow (ws.map .str), .fz (.str p), .fz (.int (n : Nat))] _
          refine sd_when (PB.thaw (by
            show PB X _ [.fz (pipeD C W B r a), .fz (.dct (fndD fs)), .fz (.lst (ws.map .str)), .fz (.str p), .fz (.int (n : Nat))] _
            exact pb_and (k := decide (0 < spareI t x z p)) (k' := !decide (overI t p ∈ (fndD fs).map (·.1))) (by walk_at "fc t") (fun _ => pb_niD rm (by walk_at "fc ev") (by walk_at "fc ev")))) (fun hc => ?_) (fun hc => ?_)
          · rw [Bool.and_eq_true, decide_eq_true_eq, Bool.not_eq_true', decide_eq_false_iff_not, fndD_keys] at hc
            obtain ⟨hc1, hc2⟩ := hc
            have g : Go W r a n p (overI t p) := ⟨t, x, z, ht, hx, hz, hc1, rfl⟩
            have hF2 := hF.snoc h.w g hpk hc2
            have hlen := hF2.len
            rw [List.length_append, List.length_singleton] at hlen
            refine sd_cons (s1_dput (ks := overI t p) (kds := fndD fs) (d := .tup [.int (n : Nat), .str p]) rm n1 rfl (by walk_at "fc ev") (PV.thaw (by show PV X _ [.fz (pipeD C W B r a), .fz (.dct (fndD fs)), .fz (.lst (ws.map .str)), .fz (.str p), .fz (.int (n : Nat))] _; walk_at "fc ev") rfl) (by rw [fndD_keys]; exact hc2) (by unfold fndD; rw [List.length_map, sizeLine_eq]; omega) rfl ?_)
            have ek : fndD fs ++ [(overI t p, .tup [.int (n : Nat), .str p])] = fndD (fs ++ [(overI t p, some (n, p))]) := by
              unfold fndD
              rw [List.map_append]
              all_goals rfl
            rw [ek]
            show SD X _ [.hf (pipeD C W B r a), .od (fndD (fs ++ [(overI t p, some (n, p))])), .ow (ws.map .str), .fz (.str p), .fz (.int (n : Nat))] _
            rw [List.length_cons] at hm13
            refine sd_cons (s1_app n2 rfl (PV.thaw (d := .str (overI t p)) (by show PV X _ [.fz (pipeD C W B r a), .fz (.dct (fndD (fs ++ [(overI t p, some (n, p))]))), .fz (.lst (ws.map .str)), .fz (.str p), .fz (.int (n : Nat))] (.str (overI t p)); walk_at "fc ev") rfl) (by rw [List.length_map, sizeLine_eq]; omega) rfl (fun d hd => ?_))
            subst hd
            have ew : ws.map Dt.str ++ [.str (overI t p)] = (ws ++ [overI t p]).map .str := by rw [List.map_append]; rfl
            rw [ew]
            refine sd_nil (sd_nil ⟨fs ++ [(overI t p, some (n, p))], ws ++ [overI t p], _, rfl, .inr ⟨_, rfl⟩, hF2, ?_, ?_, ?_, ?_, ?_⟩)
            · intro p' hp'
              rw [List.map_append]
              rcases List.mem_append.mp hp' with z | z
              · exact List.mem_append_left _ (hws p' z)
              · exact List.mem_append_right _ (by simpa using z)
            · rw [List.map_append]
              exact List.mem_append_left _ hpk
            · intro p' hp'
              rw [List.map_append] at hp'
              rcases List.mem_append.mp hp' with z | z
              · rcases hdn p' z with z | z | z
                · exact .inl (List.mem_append_left _ z)
                · exact .inr (.inl z)
                · exact .inr (.inr (z.mono _))
              · exact .inl (List.mem_append_right _ (by simpa using z))
            · intro k q hk g'
              by_cases e : k = n
              · subst e
                obtain ⟨t', _, _, ht', _, _, _, e'⟩ := g'.ex
                rw [ht] at ht'
                cases ht'
                rw [← e', List.map_append]
                exact List.mem_append_right _ (by simp)
              · rw [List.map_append]
                exact List.mem_append_left _ (hgo k q (by omega) g')
            · rw [List.length_append, List.length_append, List.length_singleton, List.length_singleton]
              omega
          · refine sd_nil ⟨fs, ws, _, rfl, .inr ⟨_, rfl⟩, hF, hws, hpk, hdn, fun k q hk g' => ?_, hm⟩
            by_cases e : k = n
            · subst e
              obtain ⟨t', x', y', ht', hx', hy', hp', e'⟩ := g'.ex
              rw [ht] at ht'
              rw [hx] at hx'
              rw [hz] at hy'
              cases ht'
              cases hx'
              cases hy'
              rw [Bool.and_eq_false_iff, decide_eq_false_iff_not, Bool.not_eq_false', decide_eq_true_eq, fndD_keys] at hc
              rcases hc with hc | hc
              · exact absurd hp' hc
              · rw [← e']
                exact hc
            · exact hgo k q (by omega) g'
        · rintro env ⟨fs', ws', y, rfl, hy, hF, hws, hpk, hdn, hgo, hm⟩
          refine sd_nil ⟨_, ?_, fs', ws', _, y, rfl, .inr ⟨_, rfl⟩, hy, hF, hws, fun p' hp' => ?_, rfl, ?_⟩
          · rw [List.length_cons]
            omega
          · rcases hdn p' hp' with z | z | z
            · exact .inl z
            · subst z
              refine .inr fun k q g => ?_
              refine hgo k q ?_ g
              obtain ⟨_, x', _, _, hx', _⟩ := g.ex
              have := (List.getElem?_eq_some_iff.mp hx').1
              simp
              omega
            · exact .inr z
          · rw [List.length_cons] at hm13
            omega
end
end Fc

namespace Fc
open PySem PySem.Spec PyProof.Rows L2
/-! ### the way back -/
theorem valD_at : ∀ {kds : List (Str × Dt)} {i : Nat} {q : Str} {d : Dt}, (kds.map (·.1)).Nodup → kds[i]? = some (q, d) → valD kds q = some d
  | [], i, q, d, _, h => by simp at h
  | (k, v) :: r, 0, q, d, _, h => by
    cases h
    simp [valD]
  | (k, v) :: r, i + 1, q, d, hn, h => by
    rw [List.map_cons, List.nodup_cons] at hn
    have h : r[i]? = some (q, d) := h
    have hm : q ∈ r.map (·.1) := List.mem_map.mpr ⟨(q, d), List.mem_of_getElem? h, rfl⟩
    have hne : k ≠ q := fun e => hn.1 (by rw [show (k, v).1 = q from e]; exact hm)
    have ih := valD_at (kds := r) hn.2 h
    unfold valD at ih ⊢
    rw [List.find?_cons]
    have : decide ((k, v).1 = q) = false := decide_eq_false hne
    rw [this]
    exact ih
theorem fnd_val {fs : Fnd} {i : Nat} {q : Str} {s : Option (Nat × Str)} (hn : (fs.map (·.1)).Nodup) (h : fs[i]? = some (q, s)) : valD (fndD fs) q = some (stepD s) := by
  refine valD_at (i := i) (by rw [fndD_keys]; exact hn) ?_
  unfold fndD
  rw [List.getElem?_map, h]
  all_goals rfl
/-- the steps back from the entry i -/
inductive Run (fs : Fnd) : Nat → List (Nat × Str) → Prop
  | nil {i : Nat} {q : Str} : fs[i]? = some (q, none) → Run fs i []
  | cons {i j k : Nat} {q p : Str} {s : Option (Nat × Str)} {st : List (Nat × Str)} : fs[i]? = some (q, some (k, p)) → fs[j]? = some (p, s) → j < i → Run fs j st → Run fs i ((k, p) :: st)
def stepsD (st : List (Nat × Str)) : Dt := .lst (st.map fun s => stepD (some s))
section
variable {P : Program} {w : World} {K : PySem.W.Frag} {mg : Str → Option Value} {base : Heap} {C : Addr}
inductive R_back (C : Addr) : List Dt → (Dt → Prop) → Prop
  | mk (W : Web) (B : Int) (r a : List Int) (h : PipeOk W B r a) (fs : Fnd) (hf : FInv W r a fs) (hl : W.last ∈ fs.map (·.1)) : R_back C [pipeD C W B r a, .dct (fndD fs)] (fun d => ∃ st i s, d = stepsD st ∧ fs[i]? = some (W.last, s) ∧ Run fs i st)
theorem ok_back (T : Tx K mg C) : MeM P w K mg base C "back" 1 (R_back C) := by
  refine met_calM 0 T.d_p_back sc_p_back hb_p_back (fun ds S h => by cases h; rfl) (fun X b d0 ds S h => ?_)
  cases h with
  | mk W B r a h fs hf hl =>
    have n0 := b.nm (x := "self") (i := 0) (by decide +kernel)
    have n1 := b.nm (x := "found") (i := 1) (by decide +kernel)
    have n2 := b.nm (x := "steps") (i := 2) (by decide +kernel)
    have n3 := b.nm (x := "step") (i := 3) (by decide +kernel)
    have l2 := b.lo (x := "steps") (i := 2) (by decide +kernel)
    have l3 := b.lo (x := "step") (i := 3) (by decide +kernel)
    have cl : Cls X.K C := by rw [b.eK]; exact T.cl
    have a1 : NoAttr X.K C "net" := by rw [b.eK]; exact T.na_net
    have f1 := pipe_net (W := W) (B := B) (r := r) (a := a)
    have rm := b.room
    obtain ⟨z, hz, ez⟩ := List.mem_map.mp hl
    obtain ⟨i0, hi0⟩ := List.getElem?_of_mem hz
    obtain ⟨q0, s0⟩ := z
    cases ez
    have hlen := hf.len
    have hp7 := h.w.p7
    have hi0l := (List.getElem?_eq_some_iff.mp hi0).1
    refine sd_cons (s1_newL l2 ?_)
    show SD X _ [.hf (pipeD C W B r a), .fz (.dct (fndD fs)), .ow [], .un] _
    refine sd_asg (pv_dget (k := W.last) rm (by walk_at "fc ev") (PV.thaw (by show PV X _ [.fz (pipeD C W B r a), .fz (.dct (fndD fs)), .fz (.lst []), .un] _; walk_at "fc ev") rfl) (fnd_val hf.nd hi0)) l3 ?_
    refine sd_while b.po (fun m env => ∃ (dn : List (Nat × Str)) (i : Nat) (q : Str) (s : Option (Nat × Str)), env = [.hf (pipeD C W B r a), .fz (.dct (fndD fs)), .ow (dn.map fun s => stepD (some s)), .fz (stepD s)] ∧ fs[i]? = some (q, s) ∧ (∀ st, Run fs i st → Run fs i0 (dn ++ st)) ∧ dn.length + i ≤ i0 ∧ m = i) _ ⟨[], i0, _, s0, rfl, hi0, fun st h => h, by simp, rfl⟩ ?_
    rintro m env ⟨dn, i, q, s, rfl, hi, hr, hle, rfl⟩
    cases s with
    | none =>
      refine ⟨!isNon .non, by show PB X _ [.hf (pipeD C W B r a), .fz (.dct (fndD fs)), .ow (dn.map fun s => stepD (some s)), .fz .non] _; walk_at "fc t", fun z => (by cases z), fun _ => ?_⟩
      refine sd_cons (s1_retL n2 rfl ⟨dn, i0, s0, rfl, hi0, ?_⟩)
      have := hr [] (.nil hi)
      rw [List.append_nil] at this
      exact this
    | some kp =>
      obtain ⟨k, p⟩ := kp
      refine ⟨!isNon (.tup [.int (k : Nat), .str p]), by show PB X _ [.hf (pipeD C W B r a), .fz (.dct (fndD fs)), .ow (dn.map fun s => stepD (some s)), .fz (.tup [.int (k : Nat), .str p])] _; walk_at "fc t", fun _ => ?_, fun z => by cases z⟩
      obtain ⟨_, j, s', hj, hjp⟩ := hf.st _ q k p hi
      show SD X _ [.hf (pipeD C W B r a), .fz (.dct (fndD fs)), .ow (dn.map fun s => stepD (some s)), .fz (.tup [.int (k : Nat), .str p])] _
      refine sd_cons (s1_app (S := fun d => d = .tup [.int (k : Nat), .str p]) n2 rfl (by walk_at "fc ev") (by rw [List.length_map, sizeLine_eq]; omega) rfl (fun d hd => ?_))
      subst hd
      have ew : (dn.map fun s => stepD (some s)) ++ [.tup [.int (k : Nat), .str p]] = (dn ++ [(k, p)]).map fun s => stepD (some s) := by rw [List.map_append]; rfl
      rw [ew]
      show SD X _ [.hf (pipeD C W B r a), .fz (.dct (fndD fs)), .ow ((dn ++ [(k, p)]).map fun s => stepD (some s)), .fz (.tup [.int (k : Nat), .str p])] _
      refine sd_asg (pv_dget (k := p) rm (by walk_at "fc ev") (by walk_at "fc ev") (fnd_val hf.nd hjp)) l3 (sd_nil ⟨j, hj, dn ++ [(k, p)], j, p, s', rfl, hjp, fun st hst => ?_, ?_, rfl⟩)
      · rw [List.append_assoc]
        exact hr _ (.cons hi hjp hj hst)
      · rw [List.length_append, List.length_singleton]
        omega
end
end Fc

/-! Fc: flows and sides, plainly. -/
namespace Fc
open PySem PySem.Spec
/-! ### sums -/
def sumTo (f : Nat → Int) : Nat → Int
  | 0 => 0
  | n + 1 => sumTo f n + f n
theorem sumTo_congr {f g : Nat → Int} : ∀ {n : Nat}, (∀ k, k < n → f k = g k) → sumTo f n = sumTo g n
  | 0, _ => rfl
  | n + 1, h => by
    show sumTo f n + f n = sumTo g n + g n
    rw [sumTo_congr (n := n) fun k hk => h k (by omega), h n (by omega)]
theorem sumTo_le {f g : Nat → Int} : ∀ {n : Nat}, (∀ k, k < n → f k ≤ g k) → sumTo f n ≤ sumTo g n
  | 0, _ => Int.le_refl _
  | n + 1, h => by
    show sumTo f n + f n ≤ sumTo g n + g n
    have := sumTo_le (n := n) fun k hk => h k (by omega)
    have := h n (by omega)
    omega
theorem sumTo_upd {f g : Nat → Int} {m : Nat} (h : ∀ k, k ≠ m → f k = g k) : ∀ {n : Nat}, m < n → sumTo g n = sumTo f n + (g m - f m)
  | 0, hm => by omega
  | n + 1, hm => by
    show sumTo g n + g n = sumTo f n + f n + (g m - f m)
    by_cases e : m = n
    · subst e
      rw [sumTo_congr (f := g) (g := f) (n := m) fun k hk => (h k (by omega)).symm]
      omega
    · rw [sumTo_upd h (n := n) (by omega), h n (by omega)]
      omega
theorem sumTo_add (f g : Nat → Int) : ∀ n : Nat, sumTo (fun k => f k + g k) n = sumTo f n + sumTo g n
  | 0 => rfl
  | n + 1 => by
    show sumTo (fun k => f k + g k) n + (f n + g n) = sumTo f n + f n + (sumTo g n + g n)
    rw [sumTo_add f g n]
    omega
theorem sumTo_mul (f : Nat → Int) (c : Int) : ∀ n : Nat, sumTo (fun k => f k * c) n = sumTo f n * c
  | 0 => by simp [sumTo]
  | n + 1 => by
    show sumTo (fun k => f k * c) n + f n * c = (sumTo f n + f n) * c
    rw [sumTo_mul f c n, Int.add_mul]
theorem sumTo_zero : ∀ n : Nat, sumTo (fun _ => 0) n = 0
  | 0 => rfl
  | n + 1 => by
    show sumTo (fun _ => 0) n + 0 = 0
    rw [sumTo_zero n]
    rfl
theorem sumTo_list {α : Type} (ps : List α) (f : α → Nat → Int) (n : Nat) : (ps.map fun p => sumTo (f p) n).sum = sumTo (fun k => (ps.map fun p => f p k).sum) n := by
  induction ps with
  | nil => simp [sumTo_zero]
  | cons p ps ih =>
    rw [List.map_cons, List.sum_cons, ih, ← sumTo_add]
    refine sumTo_congr fun k _ => ?_
    rw [List.map_cons, List.sum_cons]
/-- what a tie carries from a place -/
def gT (ties : List Tie) (a : List Int) (p : Str) (k : Nat) : Int := match ties[k]? with
  | some t => if t.one = p then a.getD k 0 else if t.other = p then -(a.getD k 0) else 0
  | none => 0
theorem goI_sum {ties : List Tie} {a : List Int} (hl : a.length = ties.length) (p : Str) : goI (ties.zip a) p = sumTo (gT ties a p) ties.length := by
  have key : ∀ n, n ≤ ties.length → goI ((ties.zip a).take n) p = sumTo (gT ties a p) n := by
    intro n
    induction n with
    | zero => intro _; rfl
    | succ n ih =>
      intro hn
      obtain ⟨t, ht⟩ : ∃ t, ties[n]? = some t := ⟨_, List.getElem?_eq_getElem (by omega)⟩
      obtain ⟨x, hx⟩ : ∃ x, a[n]? = some x := ⟨_, List.getElem?_eq_getElem (by omega)⟩
      have hz : (ties.zip a)[n]? = some (t, x) := by
        rw [List.getElem?_zip_eq_some]
        exact ⟨ht, hx⟩
      rw [List.take_succ, hz, goI_app, ih (by omega)]
      show sumTo (gT ties a p) n + ((if t.one = p then x else if t.other = p then -x else 0) + 0) = sumTo (gT ties a p) n + gT ties a p n
      have hg : a.getD n 0 = x := by rw [List.getD_eq_getElem?_getD, hx]; rfl
      unfold gT
      rw [ht]
      simp only [hg, Int.add_zero]
  have := key ties.length (Nat.le_refl _)
  rw [List.take_of_length_le (by rw [List.length_zip]; omega)] at this
  exact this
theorem getD_set_ne {a : List Int} {k m : Nat} {x : Int} (h : k ≠ m) : (a.set m x).getD k 0 = a.getD k 0 := by
  rw [List.getD_eq_getElem?_getD, List.getD_eq_getElem?_getD, List.getElem?_set_ne fun z => h z.symm]
theorem getD_set_eq {a : List Int} {m : Nat} {x : Int} (h : m < a.length) : (a.set m x).getD m 0 = x := by
  rw [List.getD_eq_getElem?_getD, List.getElem?_set_self h]
  rfl
theorem getD_of {a : List Int} {k : Nat} {x : Int} (h : a[k]? = some x) : a.getD k 0 = x := by
  rw [List.getD_eq_getElem?_getD, h]
  rfl
/-! ### a step, and a walk of steps -/
def stepI (W : Web) (d : Int) (a : List Int) (s : Nat × Str) : List Int := match W.ties[s.1]? with
  | some t => a.set s.1 (if s.2 = t.one then a.getD s.1 0 + d else a.getD s.1 0 - d)
  | none => a
def sendI (W : Web) (d : Int) (a : List Int) (st : List (Nat × Str)) : List Int := st.foldl (stepI W d) a
theorem stepI_len {W : Web} {d : Int} {a : List Int} {s : Nat × Str} : (stepI W d a s).length = a.length := by
  unfold stepI
  split
  · rw [List.length_set]
  · rfl
theorem sendI_len {W : Web} {d : Int} : ∀ {st : List (Nat × Str)} {a : List Int}, (sendI W d a st).length = a.length
  | [], _ => rfl
  | s :: st, a => by
    show (sendI W d (stepI W d a s) st).length = a.length
    rw [sendI_len, stepI_len]
/-- the tie k joins p and q -/
structure Joins (W : Web) (k : Nat) (p q : Str) : Prop where
  ex : ∃ t, W.ties[k]? = some t ∧ t.one ≠ t.other ∧ ((p = t.one ∧ q = t.other) ∨ (p = t.other ∧ q = t.one))
def dl (x p : Str) (d : Int) : Int := if x = p then d else 0
theorem stepI_go {W : Web} {d : Int} {a : List Int} {k : Nat} {p q : Str} (j : Joins W k p q) (hl : a.length = W.ties.length) (x : Str) : goI (W.ties.zip (stepI W d a (k, p))) x = goI (W.ties.zip a) x + dl x p d - dl x q d := by
  obtain ⟨t, ht, hne, hpq⟩ := j.ex
  have hk : k < W.ties.length := (List.getElem?_eq_some_iff.mp ht).1
  rw [goI_sum (by rw [stepI_len]; exact hl), goI_sum hl]
  rw [sumTo_upd (f := gT W.ties a x) (g := gT W.ties (stepI W d a (k, p)) x) (m := k) (fun i hi => ?_) hk]
  · have e1 : gT W.ties a x k = if t.one = x then a.getD k 0 else if t.other = x then -(a.getD k 0) else 0 := by unfold gT; rw [ht]
    have e2 : (stepI W d a (k, p)).getD k 0 = if p = t.one then a.getD k 0 + d else a.getD k 0 - d := by
      unfold stepI
      simp only [ht]
      rw [getD_set_eq (by omega)]
    have e3 : gT W.ties (stepI W d a (k, p)) x k = if t.one = x then (stepI W d a (k, p)).getD k 0 else if t.other = x then -((stepI W d a (k, p)).getD k 0) else 0 := by unfold gT; rw [ht]
    rw [e3, e1, e2]
    unfold dl
    rcases hpq with ⟨rfl, rfl⟩ | ⟨rfl, rfl⟩
    · rw [if_pos rfl]
      by_cases h1 : t.one = x
      · subst h1
        simp only [if_true, if_neg hne]
        omega
      · by_cases h2 : t.other = x
        · subst h2
          simp only [if_true, if_neg h1, if_neg (fun z : t.other = t.one => h1 z.symm)]
          omega
        · simp only [if_neg h1, if_neg h2, if_neg (fun z : x = t.one => h1 z.symm), if_neg (fun z : x = t.other => h2 z.symm)]
          omega
    · rw [if_neg fun z : t.other = t.one => hne z.symm]
      by_cases h1 : t.one = x
      · subst h1
        simp only [if_true, if_neg hne]
        omega
      · by_cases h2 : t.other = x
        · subst h2
          simp only [if_true, if_neg h1, if_neg (fun z : t.other = t.one => h1 z.symm)]
          omega
        · simp only [if_neg h1, if_neg h2, if_neg (fun z : x = t.one => h1 z.symm), if_neg (fun z : x = t.other => h2 z.symm)]
          omega
  · unfold gT
    have : (stepI W d a (k, p)).getD i 0 = a.getD i 0 := by
      unfold stepI
      simp only [ht]
      rw [getD_set_ne hi]
    rw [this]
theorem spare_joins {W : Web} {r a : List Int} {k : Nat} {p q : Str} (hw : WebOk W) (g : Go W r a k p q) : Joins W k p q := by
  obtain ⟨t, x, y, ht, hx, hy, hs, ho⟩ := g.ex
  have hne := (hw.ts t (List.mem_of_getElem? ht)).ne
  refine ⟨t, ht, hne, ?_⟩
  unfold spareI at hs
  unfold overI at ho
  by_cases h1 : p = t.one
  · rw [if_pos h1] at ho
    exact .inl ⟨h1, ho.symm⟩
  · rw [if_neg h1] at ho hs
    by_cases h2 : p = t.other
    · exact .inr ⟨h2, ho.symm⟩
    · rw [if_neg (fun z => h2 z.1), if_neg h2] at hs
      omega
theorem run_go {W : Web} {r a0 : List Int} {fs : Fnd} (hw : WebOk W) (hf : FInv W r a0 fs) (d : Int) (x : Str) : ∀ {i : Nat} {st : List (Nat × Str)} {q : Str} {s : Option (Nat × Str)} {a : List Int}, Run fs i st → fs[i]? = some (q, s) → a.length = W.ties.length → goI (W.ties.zip (sendI W d a st)) x = goI (W.ties.zip a) x + dl x W.first d - dl x q d
  | i, _, q, s, a, .nil h, hi, hl => by
    rw [hi] at h
    cases h
    rw [hf.no i q hi]
    show goI (W.ties.zip a) x = _
    omega
  | i, _, q, s, a, .cons (j := j) (k := k) (p := p) (s := s') (st := st) h hj hlt hr, hi, hl => by
    rw [hi] at h
    cases h
    obtain ⟨g, _⟩ := hf.st i q k p hi
    have jo := spare_joins hw g
    show goI (W.ties.zip (sendI W d (stepI W d a (k, p)) st)) x = _
    rw [run_go hw hf d x hr hj (by rw [stepI_len]; exact hl), stepI_go jo hl x]
    omega
theorem key_eq {fs : Fnd} {i j : Nat} {q : Str} {s s' : Option (Nat × Str)} (hn : (fs.map (·.1)).Nodup) (hi : fs[i]? = some (q, s)) (hj : fs[j]? = some (q, s')) : i = j := by
  have li := (List.getElem?_eq_some_iff.mp hi).1
  have e1 : (fs.map (·.1))[i]? = some q := by rw [List.getElem?_map, hi]; rfl
  have e2 : (fs.map (·.1))[j]? = some q := by rw [List.getElem?_map, hj]; rfl
  exact (List.getElem?_inj (by rw [List.length_map]; exact li) hn).mp (e1.trans e2.symm)
theorem run_at {W : Web} {r a0 : List Int} {fs : Fnd} (hf : FInv W r a0 fs) : ∀ {i : Nat} {st : List (Nat × Str)}, Run fs i st → ∀ s ∈ st, ∃ i' q j s', i' ≤ i ∧ fs[i']? = some (q, some s) ∧ Go W r a0 s.1 s.2 q ∧ j < i' ∧ fs[j]? = some (s.2, s')
  | _, _, .nil h, s, hs => by cases hs
  | i, _, .cons (j := j) (k := k) (q := q) (p := p) (s := s') (st := st) h hj hlt hr, s, hs => by
    rcases List.mem_cons.mp hs with e | hs
    · subst e
      exact ⟨i, q, j, s', Nat.le_refl _, h, (hf.st i q k p h).1, hlt, hj⟩
    · obtain ⟨i', q', j', s2, h1, h2⟩ := run_at hf hr s hs
      exact ⟨i', q', j', s2, by omega, h2⟩
theorem run_nodup {W : Web} {r a0 : List Int} {fs : Fnd} (hw : WebOk W) (hf : FInv W r a0 fs) : ∀ {i : Nat} {st : List (Nat × Str)}, Run fs i st → (st.map (·.1)).Nodup
  | _, _, .nil h => by simp
  | i, _, .cons (j := j) (k := k) (q := q) (p := p) (s := s') (st := st) h hj hlt hr => by
    rw [List.map_cons, List.nodup_cons]
    refine ⟨fun hm => ?_, run_nodup hw hf hr⟩
    obtain ⟨s, hs, es⟩ := List.mem_map.mp hm
    obtain ⟨i', q', j', s2, h1, h2, h3, h4, h5⟩ := run_at hf hr s hs
    obtain ⟨k', p'⟩ := s
    have es : k' = k := es
    subst es
    obtain ⟨t, ht, hne, hpq⟩ := (spare_joins hw (hf.st i q k' p h).1).ex
    obtain ⟨t', ht', _, hpq'⟩ := (spare_joins hw h3).ex
    rw [ht] at ht'
    cases ht'
    have hpq' : (p' = t.one ∧ q' = t.other) ∨ (p' = t.other ∧ q' = t.one) := hpq'
    have c1 : q' ≠ q := fun e => by
      subst e
      have := key_eq hf.nd h h2
      omega
    have c2 : p' = q := by
      rcases hpq with ⟨e1, e2⟩ | ⟨e1, e2⟩ <;> rcases hpq' with ⟨e3, e4⟩ | ⟨e3, e4⟩
      · exact (c1 (e4.trans e2.symm)).elim
      · exact e3.trans e2.symm
      · exact e3.trans e2.symm
      · exact (c1 (e4.trans e2.symm)).elim
    subst c2
    have := key_eq hf.nd h h5
    omega
/-! ### what may stand -/
def lowB (t : Tie) (x : Int) : Int := if t.both then -x else 0
structure BdOk (W : Web) (r a : List Int) : Prop where
  lr : r.length = W.ties.length
  la : a.length = W.ties.length
  bd : ∀ (k : Nat) (t : Tie), W.ties[k]? = some t → lowB t (r.getD k 0) ≤ a.getD k 0 ∧ a.getD k 0 ≤ r.getD k 0
theorem bd_send {W : Web} {r : List Int} {d : Int} (hd : 0 < d) (hw : WebOk W) : ∀ {st : List (Nat × Str)} {a : List Int}, BdOk W r a → (st.map (·.1)).Nodup → (∀ s ∈ st, ∃ t x y q, W.ties[s.1]? = some t ∧ r[s.1]? = some x ∧ a[s.1]? = some y ∧ d ≤ spareI t x y s.2 ∧ Joins W s.1 s.2 q) → BdOk W r (sendI W d a st)
  | [], a, h, _, _ => h
  | s :: st, a, h, hn, hs => by
    rw [List.map_cons, List.nodup_cons] at hn
    obtain ⟨t, x, y, q, ht, hx, hy, hsp, jo⟩ := hs s List.mem_cons_self
    have hk : s.1 < W.ties.length := (List.getElem?_eq_some_iff.mp ht).1
    show BdOk W r (sendI W d (stepI W d a s) st)
    have es : stepI W d a s = a.set s.1 (if s.2 = t.one then y + d else y - d) := by
      unfold stepI
      rw [ht]
      simp only [getD_of hy]
    refine bd_send hd hw ⟨h.lr, by rw [stepI_len]; exact h.la, fun k t' ht' => ?_⟩ hn.2 fun s' hs' => ?_
    · rw [es]
      by_cases e : k = s.1
      · subst e
        rw [ht] at ht'
        cases ht'
        rw [getD_set_eq (by rw [h.la]; exact hk)]
        have hb := h.bd s.1 t ht
        rw [getD_of hx, getD_of hy] at hb
        rw [getD_of hx]
        obtain ⟨t2, ht2, hne, hpq⟩ := jo.ex
        rw [ht] at ht2
        cases ht2
        unfold spareI at hsp
        rcases hpq with ⟨e1, _⟩ | ⟨e1, _⟩
        · rw [if_pos e1] at hsp ⊢
          omega
        · have e2 : ¬ s.2 = t.one := fun z => hne (z.symm.trans e1)
          rw [if_neg e2] at hsp ⊢
          unfold lowB at hb ⊢
          cases hbo : t.both with
          | true =>
            rw [hbo, if_pos ⟨e1, rfl⟩] at hsp
            rw [hbo] at hb
            simp only [if_true] at hb ⊢
            omega
          | false =>
            rw [hbo, if_neg (fun z => by cases z.2), if_pos e1] at hsp
            rw [hbo] at hb
            simp only [Bool.false_eq_true, if_false] at hb ⊢
            omega
      · rw [getD_set_ne e]
        exact h.bd k t' ht'
    · obtain ⟨t', x', y', q', h1, h2, h3, h4⟩ := hs s' (List.mem_cons_of_mem _ hs')
      refine ⟨t', x', y', q', h1, h2, ?_, h4⟩
      rw [es, List.getElem?_set_ne]
      · exact h3
      · exact fun z => hn.1 (List.mem_map.mpr ⟨s', hs', z.symm⟩)
structure FlOk (W : Web) (r a : List Int) : Prop extends BdOk W r a where
  bal : ∀ p, p ≠ W.first → p ≠ W.last → goI (W.ties.zip a) p = 0
theorem FlOk.start {W : Web} {r : List Int} (hl : r.length = W.ties.length) (h0 : ∀ x ∈ r, 0 ≤ x) : FlOk W r (List.replicate W.ties.length 0) := by
  have hg : ∀ k, (List.replicate W.ties.length (0 : Int)).getD k 0 = 0 := fun k => by
    rw [List.getD_eq_getElem?_getD, List.getElem?_replicate]
    split <;> rfl
  refine ⟨⟨hl, List.length_replicate, fun k t ht => ?_⟩, fun p _ _ => ?_⟩
  · have hk := (List.getElem?_eq_some_iff.mp ht).1
    have hx : 0 ≤ r.getD k 0 := by
      rw [List.getD_eq_getElem?_getD, List.getElem?_eq_getElem (by omega)]
      exact h0 _ (List.getElem_mem _)
    rw [hg]
    unfold lowB
    split <;> omega
  · rw [goI_sum List.length_replicate, sumTo_congr (g := fun _ => 0), sumTo_zero]
    intro k _
    unfold gT
    rw [hg]
    split
    · split
      · rfl
      · split <;> rfl
    · rfl
theorem FlOk.send {W : Web} {r a : List Int} {fs : Fnd} {i : Nat} {st : List (Nat × Str)} {s : Option (Nat × Str)} {d : Int} (h : FlOk W r a) (hw : WebOk W) (hf : FInv W r a fs) (hi : fs[i]? = some (W.last, s)) (hr : Run fs i st) (hd : 0 < d)
    (hm : ∀ s ∈ st, ∀ t x y, W.ties[s.1]? = some t → r[s.1]? = some x → a[s.1]? = some y → d ≤ spareI t x y s.2) : FlOk W r (sendI W d a st) ∧ goI (W.ties.zip (sendI W d a st)) W.first = goI (W.ties.zip a) W.first + d := by
  refine ⟨⟨bd_send hd hw h.toBdOk (run_nodup hw hf hr) fun s hs => ?_, fun p h1 h2 => ?_⟩, ?_⟩
  · obtain ⟨i', q, j, s', _, _, g, _⟩ := run_at hf hr s hs
    obtain ⟨t, x, y, ht, hx, hy, _, _⟩ := g.ex
    exact ⟨t, x, y, q, ht, hx, hy, hm s hs t x y ht hx hy, spare_joins hw g⟩
  · rw [run_go hw hf d p hr hi h.la, h.bal p h1 h2]
    unfold dl
    rw [if_neg h1, if_neg h2]
    omega
  · rw [run_go hw hf d W.first hr hi h.la]
    unfold dl
    rw [if_pos rfl, if_neg hw.fl]
    omega
/-! ### sides -/
/-- what goes out of a side, by the ties -/
def cT (ties : List Tie) (a : List Int) (S : Str → Bool) (k : Nat) : Int := match ties[k]? with
  | some t => (if S t.one then a.getD k 0 else 0) - (if S t.other then a.getD k 0 else 0)
  | none => 0
theorem sum_one {ps : List Str} (hn : ps.Nodup) {o : Str} (hm : o ∈ ps) (S : Str → Bool) (x : Int) : ((ps.filter S).map fun p => if o = p then x else 0).sum = if S o then x else 0 := by
  induction ps with
  | nil => cases hm
  | cons p ps ih =>
    rw [List.nodup_cons] at hn
    rcases List.mem_cons.mp hm with e | hm
    · subst e
      have hz : ∀ qs : List Str, o ∉ qs → ((qs.filter S).map fun p => if o = p then x else 0).sum = 0 := by
        intro qs
        induction qs with
        | nil => intro _; rfl
        | cons q qs ih2 =>
          intro hq
          rw [List.mem_cons, not_or] at hq
          rw [List.filter_cons]
          split
          · rw [List.map_cons, List.sum_cons, if_neg hq.1, ih2 hq.2]
            rfl
          · exact ih2 hq.2
      rw [List.filter_cons]
      split
      · rw [List.map_cons, List.sum_cons, hz ps hn.1]
        simp
      · exact hz ps hn.1
    · have hne : o ≠ p := fun e => hn.1 (e ▸ hm)
      rw [List.filter_cons]
      split
      · rw [List.map_cons, List.sum_cons, if_neg hne, ih hn.2 hm]
        omega
      · exact ih hn.2 hm
theorem sum_two {ps : List Str} (hn : ps.Nodup) {t : Tie} (ht : TieOk ps t) (S : Str → Bool) (x : Int) : ((ps.filter S).map fun p => if t.one = p then x else if t.other = p then -x else 0).sum = (if S t.one then x else 0) - (if S t.other then x else 0) := by
  have e : ∀ p, (if t.one = p then x else if t.other = p then -x else 0) = (if t.one = p then x else 0) + (if t.other = p then -x else 0) := fun p => by
    by_cases h1 : t.one = p
    · rw [if_pos h1, if_pos h1, if_neg (fun z => ht.ne (h1.trans z.symm))]
      omega
    · rw [if_neg h1, if_neg h1]
      omega
  have e2 : ∀ qs : List Str, (qs.map fun p => if t.one = p then x else if t.other = p then -x else 0).sum = (qs.map fun p => if t.one = p then x else 0).sum + (qs.map fun p => if t.other = p then -x else 0).sum := by
    intro qs
    induction qs with
    | nil => rfl
    | cons q qs ih =>
      rw [List.map_cons, List.map_cons, List.map_cons, List.sum_cons, List.sum_cons, List.sum_cons, ih, e q]
      omega
  rw [e2, sum_one hn ht.m1, sum_one hn ht.m2]
  split <;> split <;> omega
theorem net_side {W : Web} {a : List Int} (hw : WebOk W) (hl : a.length = W.ties.length) (S : Str → Bool) : ((W.places.filter S).map fun p => goI (W.ties.zip a) p).sum = sumTo (cT W.ties a S) W.ties.length := by
  have e1 : (fun p => goI (W.ties.zip a) p) = fun p => sumTo (gT W.ties a p) W.ties.length := funext fun p => goI_sum hl p
  rw [e1, sumTo_list]
  refine sumTo_congr fun k hk => ?_
  obtain ⟨t, ht⟩ : ∃ t, W.ties[k]? = some t := ⟨_, List.getElem?_eq_getElem hk⟩
  unfold gT cT
  rw [ht]
  exact sum_two hw.nd (hw.ts t (List.mem_of_getElem? ht)) S _
theorem net_first {W : Web} {r a : List Int} (hw : WebOk W) (h : FlOk W r a) {S : Str → Bool} (h1 : S W.first = true) (h2 : S W.last = false) : goI (W.ties.zip a) W.first = sumTo (cT W.ties a S) W.ties.length := by
  rw [← net_side hw h.la S]
  have e : ∀ p ∈ W.places.filter S, goI (W.ties.zip a) p = if W.first = p then goI (W.ties.zip a) W.first else 0 := fun p hp => by
    by_cases z : W.first = p
    · rw [if_pos z, z]
    · rw [if_neg z]
      refine h.bal p (fun q => z q.symm) fun q => ?_
      have := (List.mem_filter.mp hp).2
      rw [q, h2] at this
      cases this
  rw [List.map_congr_left e, sum_one hw.nd hw.fm, if_pos h1]
/-- the room of what leads out -/
def oT (ties : List Tie) (r : List Int) (S : Str → Bool) (k : Nat) : Int := if ldB ties k S then r.getD k 0 else 0
theorem ldB_at {ties : List Tie} {k : Nat} {t : Tie} (h : ties[k]? = some t) (S : Str → Bool) : ldB ties k S = leadsB t S := by
  unfold ldB
  rw [h]
theorem BdOk.pos {W : Web} {r a : List Int} (h : BdOk W r a) {k : Nat} {t : Tie} (ht : W.ties[k]? = some t) : 0 ≤ r.getD k 0 := by
  have := h.bd k t ht
  unfold lowB at this
  split at this <;> omega
/-- no side is too small -/
theorem weak {W : Web} {r a : List Int} (hw : WebOk W) (h : FlOk W r a) {S : Str → Bool} (h1 : S W.first = true) (h2 : S W.last = false) : goI (W.ties.zip a) W.first ≤ sumTo (oT W.ties r S) W.ties.length := by
  rw [net_first hw h h1 h2]
  refine sumTo_le fun k hk => ?_
  obtain ⟨t, ht⟩ : ∃ t, W.ties[k]? = some t := ⟨_, List.getElem?_eq_getElem hk⟩
  have hb := h.bd k t ht
  have hp := h.toBdOk.pos ht
  unfold cT oT
  rw [ht, ldB_at ht]
  unfold leadsB
  unfold lowB at hb
  dsimp only
  generalize r.getD k 0 = x at *
  generalize a.getD k 0 = y at *
  generalize S t.one = u
  generalize S t.other = v
  cases hbo : t.both <;> rw [hbo] at hb <;> cases u <;> cases v <;> simp at hb ⊢ <;> omega
/-- nothing leads out of what is reached -/
theorem strong {W : Web} {r a : List Int} {fs : Fnd} (hw : WebOk W) (h : FlOk W r a) (hf : Found W r a fs) (hl : W.last ∉ fs.map (·.1)) : goI (W.ties.zip a) W.first = sumTo (oT W.ties r (inS (fs.map (·.1)))) W.ties.length := by
  have hfm : W.first ∈ fs.map (·.1) := List.mem_map.mpr ⟨_, List.mem_of_getElem? hf.hd, rfl⟩
  rw [net_first hw h (S := inS (fs.map (·.1))) (decide_eq_true hfm) (decide_eq_false hl)]
  refine sumTo_congr fun k hk => ?_
  obtain ⟨t, ht⟩ : ∃ t, W.ties[k]? = some t := ⟨_, List.getElem?_eq_getElem hk⟩
  obtain ⟨x, hx⟩ : ∃ x, r[k]? = some x := ⟨_, List.getElem?_eq_getElem (by rw [h.lr]; exact hk)⟩
  obtain ⟨y, hy⟩ : ∃ x, a[k]? = some x := ⟨_, List.getElem?_eq_getElem (by rw [h.la]; exact hk)⟩
  have hne := (hw.ts t (List.mem_of_getElem? ht)).ne
  have hb := h.bd k t ht
  have hp := h.toBdOk.pos ht
  unfold cT oT
  rw [ht, ldB_at ht]
  rw [getD_of hx, getD_of hy] at *
  have c1 : t.one ∈ fs.map (·.1) → t.other ∉ fs.map (·.1) → x ≤ y := fun m1 m2 => by
    rcases Int.lt_or_le y x with q | q
    · have : Go W r a k t.one t.other := ⟨t, x, y, ht, hx, hy, by unfold spareI; rw [if_pos rfl]; omega, by unfold overI; rw [if_pos rfl]⟩
      exact (m2 (hf.all _ m1 k _ this)).elim
    · exact q
  have c2 : t.one ∉ fs.map (·.1) → t.other ∈ fs.map (·.1) → (if t.both then x + y else y) ≤ 0 := fun m1 m2 => by
    rcases Int.lt_or_le 0 (if t.both then x + y else y) with q | q
    · have : Go W r a k t.other t.one := ⟨t, x, y, ht, hx, hy, by
        unfold spareI
        rw [if_neg fun z => hne z.symm]
        cases hbo : t.both with
        | true => rw [hbo] at q; simp at q ⊢; omega
        | false => rw [hbo] at q; simp at q ⊢; omega, by unfold overI; rw [if_neg fun z => hne z.symm]⟩
      exact (m1 (hf.all _ m2 k _ this)).elim
    · exact q
  unfold leadsB inS
  unfold lowB at hb
  by_cases m1 : t.one ∈ fs.map (·.1) <;> by_cases m2 : t.other ∈ fs.map (·.1)
  · simp only [decide_eq_true m1, decide_eq_true m2]
    cases hbo : t.both <;> simp
  · have := c1 m1 m2
    simp only [decide_eq_true m1, decide_eq_false m2]
    cases hbo : t.both <;> simp <;> omega
  · have := c2 m1 m2
    simp only [decide_eq_false m1, decide_eq_true m2]
    cases hbo : t.both <;> rw [hbo] at hb this <;> simp at hb this ⊢ <;> omega
  · simp only [decide_eq_false m1, decide_eq_false m2]
    cases hbo : t.both <;> simp
/-- a bound for the amount -/
theorem amount_le {W : Web} {r a : List Int} (hw : WebOk W) (h : FlOk W r a) : goI (W.ties.zip a) W.first ≤ sumTo (fun k => r.getD k 0) W.ties.length := by
  refine Int.le_trans (weak hw h (S := fun p => decide (p = W.first)) (by simp) (decide_eq_false fun z => hw.fl z.symm)) (sumTo_le fun k hk => ?_)
  obtain ⟨t, ht⟩ : ∃ t, W.ties[k]? = some t := ⟨_, List.getElem?_eq_getElem hk⟩
  have hp := h.toBdOk.pos ht
  unfold oT
  split <;> omega
end Fc

/-! Fc: objects of one's own: made, their fields written, their methods called. -/
namespace Fc
open PySem PySem.Spec PyProof.Rows L2

/-! ### lists just made -/
section
variable {X : Cx} {b : Expr} {env : List Sl} {pos : Pos}
/-- [..] * k -/
theorem pn_rep {es : List Expr} {ds : List Dt} {k : Int} {p2 : Pos} (h : PVs X es env ds) (hk : PV X b env (.int k)) (hl : ds.length ≤ 100) (h1 : -(2 ^ 63) ≤ k) (h2 : k < 2 ^ 63) (h3 : ds.length * k.toNat ≤ sizeLine) :
    PN X (.BinOp (.List es p2) .Mult b pos) env (List.replicate k.toNat ds).flatten :=
  PE.weak (pe_op op_rep (pe_lst h) hk) fun σ H Q ⟨G0, H0, G, st, q⟩ => ⟨G0, H0, G, st, fun vs G1 H1 e1 r1 => ⟨by rw [r1.len]; exact len_ok hl, fun p hp => by
    have e2 := e1.trans (Ext.new (o := .lst vs) e1.gh hp)
    refine ⟨G0, H0, _, st.step e2, fun v d G3 H3 e3 r3 hd => ?_⟩
    subst hd
    cases r3
    refine ⟨p, k, vs, rfl, rfl, e3.h _ _ upd_same, h1, h2, by rw [r1.len]; exact h3, fun p2 hp2 => ?_⟩
    have e4 := e2.trans e3
    have hH : H p2 = none := by
      cases z : H p2 with
      | none => rfl
      | some o => rw [e4.h _ _ z] at hp2; cases hp2
    refine q p2 (List.replicate k.toNat vs).flatten G3 _ (e4.trans (Ext.grow e3.gh (Evl.Ex.new hp2))) hH (none_of_ex e3.gh hp2) upd_same ?_
    exact (r1.mono ((Ext.new (o := .lst vs) e1.gh hp).trans e3).g).rep k.toNat⟩⟩
end
section
variable {X : Cx} {a b : Expr} {env : List Sl} {pos : Pos}
/-- .. of a list just made -/
theorem pn_repN {ds : List Dt} {k : Int} (h : PN X a env ds) (hk : PV X b env (.int k)) (h1 : -(2 ^ 63) ≤ k) (h2 : k < 2 ^ 63) (h3 : ds.length * k.toNat ≤ sizeLine) :
    PN X (.BinOp a .Mult b pos) env (List.replicate k.toNat ds).flatten :=
  PE.weak (pe_op op_rep h hk) fun σ H Q ⟨G0, H0, G, st, q⟩ => ⟨G0, H0, G, st, fun p vs G1 H1 e1 hp0 hg hp r1 => by
    refine ⟨G0, H0, G1, st.step e1, fun v d G3 H3 e3 r3 hd => ?_⟩
    subst hd
    cases r3
    refine ⟨p, k, vs, rfl, rfl, e3.h _ _ hp, h1, h2, by rw [r1.len]; exact h3, fun p2 hp2 => ?_⟩
    have e4 := e1.trans e3
    have hH : H p2 = none := by
      cases z : H p2 with
      | none => rfl
      | some o => rw [e4.h _ _ z] at hp2; cases hp2
    refine q p2 (List.replicate k.toNat vs).flatten G3 _ (e4.trans (Ext.grow e3.gh (Evl.Ex.new hp2))) hH (none_of_ex e3.gh hp2) upd_same ?_
    exact (r1.mono e3.g).rep k.toNat⟩
/-- a + b, lists -/
theorem pn_add {xs ys : List Dt} (ha : PV X a env (.lst xs)) (hb : PV X b env (.lst ys)) (h : xs.length + ys.length ≤ sizeLine) : PN X (.BinOp a .Add b pos) env (xs ++ ys) :=
  PE.weak (pe_op op_catR ha hb) fun σ H Q ⟨G0, H0, G, st, q⟩ => ⟨G0, H0, G, st, fun v d G1 H1 e1 r1 hd => by
    subst hd
    refine ⟨G0, H0, G1, st.step e1, fun v2 d2 G2 H2 e2 r2 hd2 => ?_⟩
    subst hd2
    have r1 := r1.mono e2.g
    cases r1 with
    | lst p1 q1 =>
      cases r2 with
      | lst p2 q2 =>
        refine ⟨_, _, _, _, rfl, rfl, Evl.ex_l e2.gh p1, Evl.ex_l e2.gh p2, by rw [q1.len, q2.len]; exact h, fun p hp => ?_⟩
        have e4 := e1.trans e2
        have hH : H p = none := by
          cases z : H p with
          | none => rfl
          | some o => rw [e4.h _ _ z] at hp; cases hp
        exact q p _ G2 _ (e4.trans (Ext.grow e2.gh (Evl.Ex.new hp))) hH (none_of_ex e2.gh hp) upd_same (q1.app q2)⟩
end
/-! ### slots of objects -/
/-- nothing of one's own in the other slots -/
def plain : Sl → Bool
  | .un | .fz _ | .hf _ => true
  | _ => false
def onlyOb (env : List Sl) (i : Nat) : Bool := (env.set i .un).all plain
theorem onlyOb_at {env : List Sl} {i j : Nat} {z : Sl} (h : onlyOb env i = true) (hj : j ≠ i) (he : env[j]? = some z) : plain z = true := by
  unfold onlyOb at h
  refine List.all_eq_true.mp h z ?_
  refine List.mem_of_getElem? (i := j) ?_
  rw [List.getElem?_set_ne fun z => hj z.symm]
  exact he
theorem slOk_plain {K : PySem.W.Frag} {H0 G H G' H' : Hp} {o : Option (Option V)} (e : Ex G G') : ∀ {z : Sl}, plain z = true → SlOk K H0 G H o z → SlOk K H0 G' H' o z
  | .un, _, _ => trivial
  | .fz d, _, ⟨v, h1, h2⟩ => ⟨v, h1, h2.mono e⟩
  | .hf d, _, h => h
  | .ow _, h, _ => by cases h
  | .od _, h, _ => by cases h
  | .ob _ _ _, h, _ => by cases h
  | .ol _ _ _ _ _, h, _ => by cases h
/-- an object of one's own -/
def isOb : Sl → Bool
  | .ob _ _ _ | .ol _ _ _ _ _ => true
  | _ => false
/-- where it stands -/
def obAt : Sl → Addr
  | .ob p _ _ | .ol p _ _ _ _ => p
  | _ => 0
theorem slOk_ref {K : PySem.W.Frag} {H0 G H : Hp} {o : Option (Option V)} : ∀ {z : Sl}, isOb z = true → SlOk K H0 G H o z → o = some (some (.ref (obAt z))) ∧ H0 (obAt z) = none ∧ G (obAt z) = none ∧ H (obAt z) ≠ none
  | .un, h, _ => by cases h
  | .fz d, h, _ => by cases h
  | .hf d, h, _ => by cases h
  | .ow _, h, _ => by cases h
  | .od _, h, _ => by cases h
  | .ob _ _ _, _, ⟨dx, vs, h1, h2, h3, h4, h5⟩ => ⟨h1, h2, h3, fun z => by have := h4.symm.trans z; cases this⟩
  | .ol _ _ _ _ _, _, ⟨dx, vs, q, xs, h1, h2, h3, h4, h5⟩ => ⟨h1, h2, h3, fun z => by have := h4.symm.trans z; cases this⟩
/-- less is known of what stood at the entry -/
theorem slOk_less {K : PySem.W.Frag} {H0 H00 G H : Hp} {o : Option (Option V)} (e : ∀ q, H0 q = none → H00 q = none) : ∀ {z : Sl}, isOb z = true → SlOk K H0 G H o z → SlOk K H00 G H o z
  | .un, h, _ => by cases h
  | .fz d, h, _ => by cases h
  | .hf d, h, _ => by cases h
  | .ow _, h, _ => by cases h
  | .od _, h, _ => by cases h
  | .ob _ _ _, _, ⟨dx, vs, h1, h2, h3⟩ => ⟨dx, vs, h1, e _ h2, h3⟩
  | .ol _ _ _ _ _, _, ⟨dx, vs, q, xs, h1, h2, h3, h4, h5, h6, h7⟩ => ⟨dx, vs, q, xs, h1, e _ h2, h3, h4, h5, e _ h6, h7⟩
/-- the same object, by another reading of where it is -/
theorem slOk_o {K : PySem.W.Frag} {H0 G H : Hp} {o : Option (Option V)} : ∀ {z : Sl}, isOb z = true → SlOk K H0 G H o z → SlOk K H0 G H (some (some (.ref (obAt z)))) z
  | .un, h, _ => by cases h
  | .fz d, h, _ => by cases h
  | .hf d, h, _ => by cases h
  | .ow _, h, _ => by cases h
  | .od _, h, _ => by cases h
  | .ob _ _ _, _, ⟨dx, vs, h1, h3⟩ => ⟨dx, vs, rfl, h3⟩
  | .ol _ _ _ _ _, _, ⟨dx, vs, q, xs, h1, h3⟩ => ⟨dx, vs, q, xs, rfl, h3⟩
section
variable {X : Cx} {env : List Sl} {R : De} {x y : Str} {i j : Nat} {e : Expr} {S : Dt → Prop} {pos px p1 p2 p3 : Pos} {sts : List Stmt}
/-! ### freezing -/
theorem sta_freeze {K : PySem.W.Frag} {G0 H0 G H : Hp} {σ : L2.St} (s : Sta K G0 H0 G H σ env) (h1 : onlyOb env i = true) {p : Addr} {o : HO} {z : Sl} (h0 : H0 p = none) (hg : G p = none) (hp : H p = some o) (hz : SlOk K H0 (upd G p o) H σ[i]? z) : Sta K G0 H0 (upd G p o) H σ (env.set i z) := by
  have ef := ext_freeze s.ext h0 hg hp
  refine ⟨ef, by rw [List.length_set]; exact s.len, fun j y hj => ?_⟩
  by_cases e : i = j
  · subst e
    have hl := (List.getElem?_eq_some_iff.mp hj).1
    rw [List.length_set] at hl
    rw [List.getElem?_set_self hl] at hj
    cases hj
    exact hz
  · rw [List.getElem?_set_ne e] at hj
    exact slOk_plain (Evl.Ex.new hg) (onlyOb_at h1 (fun z => e z.symm) hj) (s.sl j y hj)
theorem sd_freezeL {p C : Addr} {fs : List (Str × Dt)} {f : Str} {ds : List Dt} (hi : env[i]? = some (.ol p C fs f ds)) (h1 : onlyOb env i = true) (k : SD X sts (env.set i (.ob p C (fs ++ [(f, .lst ds)]))) R) : SD X sts env R :=
  PSs.weak k fun D σ H ⟨G0, H0, G, s, gd⟩ => by
    obtain ⟨dx, vs, q, xs, z1, z2, z3, z4, z5, z6, z7, z8, z9⟩ := s.sl i _ hi
    have ex := Evl.Ex.new (o := .lst xs) z7
    have hpq : p ≠ q := by intro z; subst z; rw [z4] at z8; cases z8
    exact ⟨G0, H0, upd G q (.lst xs), sta_freeze s h1 z6 z7 z8 ⟨dx, _, z1, z2, (upd_ne hpq).trans z3, z4, (z5.mono ex).snoc (.lst (SqL.of upd_same) (z9.mono ex))⟩, gd.from ex⟩
theorem sd_freezeO {p C : Addr} {fs : List (Str × Dt)} (hi : env[i]? = some (.ob p C fs)) (h1 : onlyOb env i = true) (k : SD X sts (env.set i (.fz (.obj C fs))) R) : SD X sts env R :=
  PSs.weak k fun D σ H ⟨G0, H0, G, s, gd⟩ => by
    obtain ⟨dx, vs, z1, z2, z3, z4, z5⟩ := s.sl i _ hi
    have ex := Evl.Ex.new (o := .ins C dx vs) z3
    exact ⟨G0, H0, upd G p (.ins C dx vs), sta_freeze s h1 z2 z3 z4 ⟨.ref p, z1, .obj upd_same (z5.mono ex)⟩, gd.from ex⟩
/-! ### fields -/
/-- a mutation of what is one's own -/
theorem sta_mut {K : PySem.W.Frag} {G0 H0 G H : Hp} {σ : L2.St} (s : Sta K G0 H0 G H σ env) (h1 : onlyOb env i = true) {p : Addr} {o : HO} {z : Sl} (h0 : H0 p = none) (hg : G p = none) (hz : SlOk K H0 G (upd H p o) σ[i]? z) : Sta K G0 H0 G (upd H p o) σ (env.set i z) := by
  refine ⟨⟨s.ext.g, Evl.Ex.mut s.ext.h h0, Evl.Ex.mut s.ext.gh hg, s.ext.old⟩, by rw [List.length_set]; exact s.len, fun j y hj => ?_⟩
  by_cases e : i = j
  · subst e
    have hl := (List.getElem?_eq_some_iff.mp hj).1
    rw [List.length_set] at hl
    rw [List.getElem?_set_self hl] at hj
    cases hj
    exact hz
  · rw [List.getElem?_set_ne e] at hj
    exact slOk_plain (Evl.Ex.refl _) (onlyOb_at h1 (fun z => e z.symm) hj) (s.sl j y hj)
theorem putF_new {f : Str} {v : V} : ∀ {fs : List (Str × V)}, fs.lookup f = none → putF f v fs = fs ++ [(f, v)] := by
  intro fs
  induction fs with
  | nil => intro _; rfl
  | cons a r ih =>
    intro h
    obtain ⟨g, u⟩ := a
    rw [List.lookup_cons] at h
    cases q : f == g with
    | true => rw [q] at h; cases h
    | false =>
      rw [q] at h
      have hne : ¬ g = f := fun e => by subst e; simp at q
      have q2 : (g == f) = false := by simpa using hne
      have h := ih h
      first
        | (simp [putF, hne, h]; done)
        | (simp [putF, h]; exact hne)
theorem RepF.len {K : PySem.W.Frag} {G : Hp} : ∀ {fs : List (Str × V)} {ds : List (Str × Dt)}, RepF K G fs ds → fs.length = ds.length
  | _, _, .nil => rfl
  | _, _, .cons _ r => congrArg (· + 1) (RepF.len r)
/-- self.f = e -/
theorem s1_fld {p C : Addr} {fs : List (Str × Dt)} {f : Str} {d : Dt} {fpos : Pos} (n : Nm X x i) (hi : env[i]? = some (.ob p C fs)) (h1 : onlyOb env i = true) (c : Cls X.K C) (na : NoAttr X.K C f) (hl : fs.lookup f = none) (h15 : fs.length < 15) (h : PV X e env d)
    (k : R.nx (env.set i (.ob p C (fs ++ [(f, d)])))) (hs : swapsWith e (some (.Attribute (.Name x px) f fpos)) pos.line X.env = pure false := by rfl) : SD1 X (.Assign [.Attribute (.Name x px) f fpos] e pos) env R :=
  PS.weak (ps_fld (pe_var n.at_ n.vis n.hd n.hcd) h hs) fun D σ H ⟨G0, H0, G, s, gd⟩ => ⟨G0, H0, G, s, fun v d' G1 H1 e1 r1 hd => by
    subst hd
    have s1 := s.step e1
    obtain ⟨dx, vs, z1, z2, z3, z4, z5⟩ := s1.sl i _ hi
    refine ⟨.ref p, z1, p, C, dx, vs, rfl, z4, c, na, by rw [z5.len]; omega, ?_⟩
    rw [putF_new (z5.none hl)]
    exact gd.nx σ G1 _ _ (sta_mut (z := .ob p C (fs ++ [(f, d')])) s1 h1 z2 z3 ⟨dx, _, z1, z2, z3, upd_same, z5.snoc r1⟩) e1.g k⟩
/-- self.f = a list just made -/
theorem s1_fldN {p C : Addr} {fs : List (Str × Dt)} {f : Str} {ds : List Dt} {fpos : Pos} (n : Nm X x i) (hi : env[i]? = some (.ob p C fs)) (h1 : onlyOb env i = true) (c : Cls X.K C) (na : NoAttr X.K C f) (hl : fs.lookup f = none) (h15 : fs.length < 15) (h : PN X e env ds)
    (k : R.nx (env.set i (.ol p C fs f ds))) (hs : swapsWith e (some (.Attribute (.Name x px) f fpos)) pos.line X.env = pure false := by rfl) : SD1 X (.Assign [.Attribute (.Name x px) f fpos] e pos) env R :=
  PS.weak (ps_fld (pe_var n.at_ n.vis n.hd n.hcd) h hs) fun D σ H ⟨G0, H0, G, s, gd⟩ => ⟨G0, H0, G, s, fun q xs G1 H1 e1 hq hg hp r1 => by
    have s1 := s.step e1
    obtain ⟨dx, vs, z1, z2, z3, z4, z5⟩ := s1.sl i _ hi
    refine ⟨.ref p, z1, p, C, dx, vs, rfl, z4, c, na, by rw [z5.len]; omega, ?_⟩
    rw [putF_new (z5.none hl)]
    have hqp : q ≠ p := by intro z; subst z; rw [z4] at hp; cases hp
    exact gd.nx σ G1 _ _ (sta_mut (z := .ol p C fs f ds) s1 h1 z2 z3 ⟨dx, _, q, xs, z1, z2, z3, upd_same, z5, none_of_ex s.ext.h hq, hg, (upd_ne hqp).trans hp, r1⟩) e1.g k⟩
theorem pget_list : PGet X (rIxL X.K) := by
  intro pins s σ H o i ov iv Q I rx ry h
  obtain ⟨p, xs, k, z, rfl, rfl, hq, he, q⟩ := h
  cases rx
  obtain ⟨t, rfl⟩ := ry
  obtain ⟨its, r, pl, hz⟩ := I.list hq
  obtain ⟨j, h1, h2, h3, h4, h5⟩ := atI_get he
  obtain ⟨w, ew, rw'⟩ := r.get h2
  have hl := r.length
  have hn := line63
  have fin : EP X pins σ Q w s := ⟨z, H, I, rw', q⟩
  by_cases h0 : 0 ≤ k
  · have hj : k.toNat = j := by
      rw [seqIndex_of h0 h5] at h1
      exact Option.some.inj h1
    exact wpAny_getItem_list pl.isList h0 (by omega) (by rw [hj]; simpa using ew) fin
  · have hj : (k + (its.toArray.size : Int)).toNat = j := by
      rw [seqIndex_neg (by omega) h4] at h1
      rw [List.size_toArray, ← hl]
      exact Option.some.inj h1
    exact wpAny_getItem_list_neg pl.isList (by omega) (by rw [List.size_toArray] <;> omega) (by omega) (by rw [hj]; simpa using ew) fin
/-- the list of one's own, read as a field -/
theorem fld_own {K : PySem.W.Frag} {G0 H0 G H : Hp} {σ : L2.St} {p C : Addr} {fs : List (Str × Dt)} {f : Str} {ds : List Dt} (s : Sta K G0 H0 G H σ env) (hi : env[i]? = some (.ol p C fs f ds)) (c : Cls K C) (na : NoAttr K C f) (hl : fs.lookup f = none) :
    ∃ q xs, H0 q = none ∧ G q = none ∧ H q = some (.lst xs) ∧ RepL K G xs ds ∧ (∀ H1 (Q : VK), Ex H H1 → Q (.ref q) H1 → tFld K (tVar i) f σ H1 Q) ∧ ∀ ys ds', RepL K G ys ds' → SlOk K H0 G (upd H q (.lst ys)) σ[i]? (.ol p C fs f ds') := by
  obtain ⟨dx, vs, q, xs, z1, z2, z3, z4, z5, z6, z7, z8, z9⟩ := s.sl i _ hi
  have hl2 : (vs ++ [(f, V.ref q)]).lookup f = some (.ref q) := by
    have : ∀ {ws : List (Str × V)}, ws.lookup f = none → (ws ++ [(f, V.ref q)]).lookup f = some (.ref q) := by
      intro ws
      induction ws with
      | nil => intro _; simp
      | cons a r ih =>
        intro h
        rw [List.cons_append, List.lookup_cons]
        rw [List.lookup_cons] at h
        cases e : f == a.1 with
        | true => rw [e] at h; cases h
        | false =>
          rw [e] at h
          exact ih h
    exact this (z5.none hl)
  refine ⟨q, xs, z6, z7, z8, z9, fun H1 Q e k => ?_, fun ys ds' r => ?_⟩
  · exact ⟨.ref p, z1, p, C, dx, _, .ref q, rfl, e _ _ z4, c, na, hl2, k⟩
  · have hpq : p ≠ q := by intro z; subst z; rw [z4] at z8; cases z8
    exact ⟨dx, vs, q, ys, z1, z2, z3, (upd_ne hpq).trans z4, z5, z6, z7, upd_same, r⟩
/-- self.f[k] = e -/
theorem s1_setO {p C : Addr} {fs : List (Str × Dt)} {f : Str} {ds : List Dt} {ek : Expr} {m : Nat} {d : Dt} {fpos pos' : Pos} (n : Nm X x i) (hi : env[i]? = some (.ol p C fs f ds)) (h1 : onlyOb env i = true) (c : Cls X.K C) (na : NoAttr X.K C f) (hl : fs.lookup f = none)
    (h : PV X e env d) (hk : PV X ek env (.int (m : Nat))) (hm : m < ds.length) (k : R.nx (env.set i (.ol p C fs f (ds.set m d))))
    (hs : swapsWithSole [.Subscript (.Attribute (.Name x px) f fpos) ek pos'] e pos.line X.env = pure false := by rfl) (hw : swappedStores [.Subscript (.Attribute (.Name x px) f fpos) ek pos'] e X.env = pure none := by rfl)
    (hb : attributeBase (.Name x px) f X.env (eval (.Name x px) X.env) = eval (.Name x px) X.env := by rfl)
    (ha : ∀ v, assign (.Subscript (.Attribute (.Name x px) f fpos) ek pos') X.env v = (do
      let ov ← holding [v] (eval (.Attribute (.Name x px) f fpos) X.env)
      let iv ← holding [v, ov] (eval ek X.env)
      standAt pos'
      holding [v, ov, iv] (setItem ov iv v)
      release [v, ov, iv] []) := by intro _; rfl) : SD1 X (.Assign [.Subscript (.Attribute (.Name x px) f fpos) ek pos'] e pos) env R :=
  PS.weak (ps_asg h (pg_sub (pe_fld (pe_var n.at_ n.vis n.hd n.hcd) hb) hk set_list ha) hs hw) fun D σ H ⟨G0, H0, G, s, gd⟩ => ⟨G0, H0, G, s, fun v d' G1 H1 e1 r1 hd => by
    subst hd
    have s1 := s.step e1
    obtain ⟨q0, xs0, _, _, _, _, w5, _⟩ := fld_own s1 hi c na hl
    refine w5 H1 _ (Evl.Ex.refl _) ⟨G0, H0, G1, s1, fun w d2 G2 H2 e2 r2 hd2 => ?_⟩
    subst hd2
    cases r2
    have s2 := s1.step e2
    obtain ⟨q, xs, w1, w2, w3, w4, w5', w6⟩ := fld_own s2 hi c na hl
    have hq : q = q0 := by
      obtain ⟨v1, y1, p1, C1, dx1, fs1, u1, y2, y3, _, _, y4, y5⟩ := w5 H2 (fun v _ => v = .ref q0) e2.h rfl
      obtain ⟨v2, t1, p2, C2, dx2, fs2, u2, t2, t3, _, _, t4, t5⟩ := w5' H2 (fun v _ => v = .ref q) (Evl.Ex.refl _) rfl
      rw [y1] at t1
      cases t1
      subst y2
      cases t2
      rw [y3] at t3
      cases t3
      rw [y4] at t4
      cases t4
      rw [y5] at t5
      cases t5
      rfl
    subst hq
    refine ⟨q, xs, m, m, rfl, rfl, w3, ?_, ?_⟩
    · unfold ixN
      rw [if_pos (by omega), if_pos (by rw [w4.len]; omega)]
      all_goals simp
    · exact gd.nx σ G2 _ _ (sta_mut s2 h1 w1 w2 (w6 _ _ (w4.set (r1.mono e2.g) m))) (e1.g.trans e2.g) k⟩
/-- self.f[k] += e, -= e -/
theorem s1_augO {p C : Addr} {fs : List (Str × Dt)} {f : Str} {ds : List Dt} {ek : Expr} {m : Nat} {a b : Int} {fpos pos' : Pos} {op : Operator} {g : Int → Int → Int} (hop : PIp X op (ipI g)) (n : Nm X x i) (hi : env[i]? = some (.ol p C fs f ds)) (h1 : onlyOb env i = true) (c : Cls X.K C) (na : NoAttr X.K C f) (hl : fs.lookup f = none)
    (hk : PV X ek env (.int (m : Nat))) (h : PV X e env (.int b)) (hm : ds[m]? = some (.int a)) (k : R.nx (env.set i (.ol p C fs f (ds.set m (.int (g a b))))))
    (hb : attributeBase (.Name x px) f X.env (eval (.Name x px) X.env) = eval (.Name x px) X.env := by rfl)
    (ha : ∀ ov iv new, augStore ek ov iv new = (do holding [new, ov, iv] (setItem ov iv new); release [new, ov, iv] []; pure Flow.next) := by intros; rfl) : SD1 X (.AugAssign (.Subscript (.Attribute (.Name x px) f fpos) ek pos') op e pos) env R :=
  PS.weak (ps_augS (pe_fld (pe_var n.at_ n.vis n.hd n.hcd) hb) hk pget_list h hop set_list ha) fun D σ H ⟨G0, H0, G, s, gd⟩ => by
    obtain ⟨q0, xs0, a1, a2, a3, a4, w5, _⟩ := fld_own s hi c na hl
    have hml : m < ds.length := (List.getElem?_eq_some_iff.mp hm).1
    refine w5 H _ (Evl.Ex.refl _) ⟨G0, H0, G, s, fun w d2 G2 H2 e2 r2 hd2 => ?_⟩
    subst hd2
    cases r2
    have s2 := s.step e2
    obtain ⟨u, hu, ru⟩ := a4.get hm
    cases ru
    refine ⟨q0, xs0, m, .int a, rfl, rfl, SqL.of (e2.h _ _ a3), ?_, G0, H0, G2, s2, fun w d3 G3 H3 e3 r3 hd3 => ?_⟩
    · unfold atI ixN
      rw [if_pos (by omega), if_pos (by rw [a4.len]; omega)]
      simpa using hu
    subst hd3
    cases r3
    have s3 := s2.step e3
    obtain ⟨q, xs, w1, w2, w3, w4, w5', w6⟩ := fld_own s3 hi c na hl
    have hq : q = q0 := by
      obtain ⟨v1, y1, p1, C1, dx1, fs1, u1, y2, y3, _, _, y4, y5⟩ := w5 H3 (fun v _ => v = .ref q0) (e2.h.trans e3.h) rfl
      obtain ⟨v2, t1, p2, C2, dx2, fs2, u2, t2, t3, _, _, t4, t5⟩ := w5' H3 (fun v _ => v = .ref q) (Evl.Ex.refl _) rfl
      rw [y1] at t1
      cases t1
      subst y2
      cases t2
      rw [y3] at t3
      cases t3
      rw [y4] at t4
      cases t4
      rw [y5] at t5
      cases t5
      rfl
    subst hq
    refine ⟨a, b, rfl, rfl, q, xs, m, m, rfl, rfl, w3, ?_, ?_⟩
    · unfold ixN
      rw [if_pos (by omega), if_pos (by rw [w4.len]; omega)]
      all_goals simp
    · exact gd.nx σ G3 _ _ (sta_mut s3 h1 w1 w2 (w6 _ _ (w4.set (.int _) m))) (e2.g.trans e3.g) k

/-! ### methods that change their object -/
/-- what such a method promises: z the object's slot at the call, ds the other arguments; S: the slot and the answer at the end -/
def spO (K : PySem.W.Frag) (R : Sl → List Dt → (Sl → Dt → Prop) → Prop) : Sp := fun vs H Q _ => ∃ G H0 v0 vs' z ds S, vs = v0 :: vs' ∧ Ex G H ∧ Ex H0 H ∧ SlOk K H0 G H (some (some v0)) z ∧ RepL K G vs' ds ∧ R z ds S ∧
  ∀ v d z' o G' H', Ext G H0 G' H' → SlOk K H0 G' H' o z' → Rep K G' v d → S z' d → Q v H'
theorem sta_startO {K : PySem.W.Frag} {G H H0 : Hp} {N : List Str} {v0 : V} {z : Sl} {vs : List V} {ds : List Dt} (e : Ex G H) (e0 : Ex H0 H) (r0 : SlOk K H0 G H (some (some v0)) z) (r : RepL K G vs ds) : Sta K G H0 G H (L2.start N (v0 :: vs)) (z :: ds.map .fz ++ List.replicate (N.length - (ds.length + 1)) .un) := by
  have hl := r.len
  refine ⟨⟨Evl.Ex.refl _, e0, e, fun _ _ => rfl⟩, ?_, fun i s hs => ?_⟩
  · unfold L2.start
    simp only [List.length_append, List.length_map, List.length_replicate, List.length_cons]
    rw [hl]
  · cases i with
    | zero =>
      have e := Option.some.inj hs
      subst e
      exact r0
    | succ i =>
      have hs : (ds.map Sl.fz ++ List.replicate (N.length - (ds.length + 1)) .un)[i]? = some s := hs
      by_cases hi : i < ds.length
      · rw [List.getElem?_append_left (by rw [List.length_map]; exact hi), List.getElem?_map] at hs
        rw [List.getElem?_eq_getElem hi] at hs
        cases hs
        obtain ⟨v, hv, rv⟩ := r.get (List.getElem?_eq_getElem hi)
        refine ⟨v, ?_, rv⟩
        unfold L2.start
        rw [List.getElem?_append_left (by rw [List.length_map, List.length_cons, hl]; omega), List.getElem?_map, List.getElem?_cons_succ, hv]
        all_goals rfl
      · rw [List.getElem?_append_right (by rw [List.length_map]; omega), List.getElem?_replicate] at hs
        split at hs
        · cases hs
          exact trivial
        · cases hs
end
section
variable {P : Program} {w : World} {K : PySem.W.Frag} {mg : Str → Option Value} {base : Heap}
theorem def_okO {x qual : Str} {st : Stmt} {f : Addr} {fd : FuncData} {N ps : List Str} {k : Nat} {R : Sl → List Dt → (Sl → Dt → Prop) → Prop} (F : Fun K x qual st f fd) (S : FnScope N ps (defScope st)) (hlen : ∀ z ds S, R z ds S → ds.length + 1 = ps.length)
    (body : ∀ X : Cx, Bd X P w K mg base N (defScope st) k → ∀ z ds S, R z ds S → SD X (defBody st) (z :: ds.map .fz ++ List.replicate (N.length - (ds.length + 1)) .un) ⟨fun env => ∃ z', env[0]? = some z' ∧ S z' .non, fun _ => False, fun _ => False, fun _ => False, fun env d => ∃ z', env[0]? = some z' ∧ S z' d⟩) :
    FnOk P w K mg base CX0 (k + 1) f fd ps (spO K R) := by
  refine F.ok S (fun vs H Q E h => ?_) (fun cdv A outer s H vs Q E hr h => ?_)
  · obtain ⟨G, H0, v0, vs', z, ds, S', rfl, _, _, _, r, hR, _⟩ := h
    have := hlen z ds S' hR
    rw [List.length_cons, r.len]
    exact this
  · obtain ⟨G, H0, v0, vs', z, ds, S', rfl, ex, ex0, r0, r, hR, q⟩ := h
    have B : Bd (cxOf CX0 P w K mg base N qual (defScope st) f cdv A outer s H E).nox P w K mg base N (defScope st) k := ⟨⟨rfl, rfl, rfl, rfl, rfl, rfl, rfl, S.nd, rfl, hr⟩, fun _ => rfl, PassesOwn.never⟩
    refine ⟨_, body _ B z ds S' hR, G, H0, G, sta_startO ex ex0 r0 r, fun σ G' H' env s' _ n => ?_, fun _ _ _ _ _ _ z => z.elim, fun _ _ _ _ _ _ z => z.elim, fun _ _ _ _ _ _ z => z.elim, fun σ v d G' H' env s' _ rv n => ?_⟩
    · obtain ⟨z', hz, n⟩ := n
      exact q .non .non z' _ G' H' s'.ext (s'.sl 0 z' hz) .non n
    · obtain ⟨z', hz, n⟩ := n
      exact q v d z' _ G' H' s'.ext (s'.sl 0 z' hz) rv n
structure MeO (P : Program) (w : World) (K : PySem.W.Frag) (mg : Str → Option Value) (base : Heap) (C : Addr) (m : Str) (k : Nat) (R : Sl → List Dt → (Sl → Dt → Prop) → Prop) : Prop where
  ex : ∃ f fd ps, FnOk P w K mg base CX0 k f fd ps (spO K R) ∧ Meth K C m f ∧ Binds K fd ps []
theorem met_calO {C : Addr} {m qual : Str} {st : Stmt} {N ps : List Str} (k : Nat) {R : Sl → List Dt → (Sl → Dt → Prop) → Prop} (D : MetAt K C m qual st) (S : FnScope N ps (defScope st)) (hb : HBind m qual st ps) (hlen : ∀ z ds S, R z ds S → ds.length + 1 = ps.length)
    (body : ∀ X : Cx, Bd X P w K mg base N (defScope st) k → ∀ z ds S, R z ds S → SD X (defBody st) (z :: ds.map .fz ++ List.replicate (N.length - (ds.length + 1)) .un) ⟨fun env => ∃ z', env[0]? = some z' ∧ S z' .non, fun _ => False, fun _ => False, fun _ => False, fun env d => ∃ z', env[0]? = some z' ∧ S z' d⟩) :
    MeO P w K mg base C m (k + 1) R := by
  obtain ⟨f, fd, F, hm⟩ := D
  exact ⟨f, fd, ps, def_okO F S hlen body, hm, F.binds hb⟩
/-- the maker of a class -/
structure MkO (P : Program) (w : World) (K : PySem.W.Frag) (mg : Str → Option Value) (base : Heap) (C : Addr) (k : Nat) (R : Sl → List Dt → (Sl → Dt → Prop) → Prop) : Prop where
  ex : ∃ f fd ps, FnOk P w K mg base CX0 k f fd ps (spO K R) ∧ Mk K C f ∧ Binds K fd ps []
theorem mk_calO {C : Addr} {qual : Str} {st : Stmt} {N ps : List Str} (k : Nat) {R : Sl → List Dt → (Sl → Dt → Prop) → Prop} (D : ∃ f fd, Fun K "__init__" qual st f fd ∧ Mk K C f) (S : FnScope N ps (defScope st)) (hb : HBind "__init__" qual st ps) (hlen : ∀ z ds S, R z ds S → ds.length + 1 = ps.length)
    (body : ∀ X : Cx, Bd X P w K mg base N (defScope st) k → ∀ z ds S, R z ds S → SD X (defBody st) (z :: ds.map .fz ++ List.replicate (N.length - (ds.length + 1)) .un) ⟨fun env => ∃ z', env[0]? = some z' ∧ S z' .non, fun _ => False, fun _ => False, fun _ => False, fun env d => ∃ z', env[0]? = some z' ∧ S z' d⟩) :
    MkO P w K mg base C (k + 1) R := by
  obtain ⟨f, fd, F, hm⟩ := D
  exact ⟨f, fd, ps, def_okO F S hlen body, hm, F.binds hb⟩
end
section
variable {X : Cx} {env : List Sl} {R : De} {x y m : Str} {i j : Nat} {e : Expr} {pos px cpos apos : Pos} {S : Dt → Prop}
structure MetO (X : Cx) (C : Addr) (m : Str) (R : Sl → List Dt → (Sl → Dt → Prop) → Prop) : Prop where
  ex : ∃ k f fd ps, FnOk X.prog X.w X.K X.mg X.base CX0 k f fd ps (spO X.K R) ∧ Room k X.A ∧ Meth X.K C m f ∧ Binds X.K fd ps []
  cls : Cls X.K C
structure MkX (X : Cx) (x : Str) (C : Addr) (R : Sl → List Dt → (Sl → Dt → Prop) → Prop) : Prop where
  ex : ∃ k f fd ps, FnOk X.prog X.w X.K X.mg X.base CX0 k f fd ps (spO X.K R) ∧ Room (k + 1) X.A ∧ Mk X.K C f ∧ Binds X.K fd ps []
  gl : Gl X x
  hd : (x == ("__debug__" : Str)) = false
  hm : X.mg x = some (.ref C)
theorem MeO.at {P : Program} {w : World} {K : PySem.W.Frag} {mg : Str → Option Value} {base : Heap} {N : List Str} {sc : Scope} {k : Nat} {C : Addr} {j : Nat} {R : Sl → List Dt → (Sl → Dt → Prop) → Prop} (c : MeO P w K mg base C m j R) (cl : Cls K C) (b : Bs X P w K mg base N sc k) (hj : j ≤ k) : MetO X C m R := by
  obtain ⟨f, fd, ps, F, hm, hb⟩ := c.ex
  obtain ⟨b1, b2, b3, b4, b5, b6, b7, b8, b9, b10⟩ := b
  subst b1 b2 b3 b4 b5
  exact ⟨⟨j, f, fd, ps, F, b10.mono hj, hm, hb⟩, cl⟩
theorem MkO.at {P : Program} {w : World} {K : PySem.W.Frag} {mg : Str → Option Value} {base : Heap} {N : List Str} {sc : Scope} {k : Nat} {C : Addr} {j : Nat} {R : Sl → List Dt → (Sl → Dt → Prop) → Prop} (c : MkO P w K mg base C j R) (hC : mg x = some (.ref C)) (b : Bs X P w K mg base N sc k) (hj : j + 1 ≤ k) (h : glB sc x = true) : MkX X x C R := by
  obtain ⟨f, fd, ps, F, hm, hb⟩ := c.ex
  obtain ⟨b1, b2, b3, b4, b5, b6, b7, b8, b9, b10⟩ := b
  subst b1 b2 b3 b4 b5
  have g := Bs.gl (X := X) ⟨rfl, rfl, rfl, rfl, rfl, b6, b7, b8, b9, b10⟩ h
  exact ⟨⟨j, f, fd, ps, F, b10.mono hj, hm, hb⟩, g.1, g.2, hC⟩
/-- one argument, some data of it -/
theorem pas_one (h : PQ X e env S) (hst : starEach [e] X.env = [(false, eval e X.env)] := by rfl) : ∃ t, PA X [e] t ∧ ∀ σ H Q, (∃ G0 H0 G, Sta X.K G0 H0 G H σ env ∧ ∀ vs ds G' H', Ext G H G' H' → RepL X.K G' vs ds → (∃ d, ds = [d] ∧ S d) → Q vs H') → t σ H Q :=
  ⟨_, pa_cons h pa_nil hst, fun σ H Q ⟨G0, H0, G, s, q⟩ => ⟨G0, H0, G, s, fun v d G' H' e r hd => q [v] [d] G' H' e (.cons r .nil) ⟨d, rfl, hd⟩⟩⟩
/-- a method that does not change its object, called where the object is one's own or known at the entry -/
theorem pq_methT {C : Addr} {fs : List (Str × Dt)} {R : List Dt → (Dt → Prop) → Prop} {es : List Expr} {ds : List Dt} {pl : Sem Bool} (c : MetM X C m R) (n : Nm X x i) (ho : (thaw env)[i]? = some (.fz (.obj C fs))) (hl : fs.lookup m = none) (ha : PVs X (e :: es) env ds) (hR : R (.obj C fs :: ds) S)
    (hst : starEach (e :: es) X.env = (false, eval e X.env) :: starEach es X.env := by rfl) (hpl : (backTo pos (starEach es X.env)).any (·.1) = false := by rfl)
    (ht : eval (.Call (.Attribute (.Name x px) m apos) (e :: es) [] pos) X.env = (do
      let ov ← eval (.Name x px) X.env
      standAt apos.atName
      let (f, first) ← holding [ov] (getMethod ov m pl)
      callWith pos f first (backTo pos (starEach (e :: es) X.env)) (backToKw pos (keywordEach [] X.env))) := by rfl) : PQ X (.Call (.Attribute (.Name x px) m apos) (e :: es) [] pos) env S := by
  obtain ⟨k, g, fd, ps, F, hr, hm, hb⟩ := c.ex
  refine PE.weak (pe_meth (pe_var n.at_ n.vis n.hd n.hcd) c.cls hm F hr hb .nil pass0 ha hst hpl ht) fun σ H Q ⟨G0, H0, G, st, q⟩ => ?_
  obtain ⟨v0, hσ, r0⟩ := st.thaw.get ho
  refine ⟨v0, hσ, ?_⟩
  cases r0 with
  | obj h r =>
    refine ⟨_, _, _, rfl, h, r.none hl, G0, H0, G, st, fun vs G2 H2 e2 r2 => ?_⟩
    dsimp only
    rw [List.append_nil]
    exact ⟨G2, _, vs, _, ds, S, rfl, e2.gh, (Rep.obj h r).mono e2.h, r2, hR, fun v d G3 H3 e3 r3 s3 => q v d G3 H3 (e2.trans e3) r3 s3⟩
theorem pq_methT0 {C : Addr} {fs : List (Str × Dt)} {R : List Dt → (Dt → Prop) → Prop} {pl : Sem Bool} (c : MetM X C m R) (n : Nm X x i) (ho : (thaw env)[i]? = some (.fz (.obj C fs))) (hl : fs.lookup m = none) (hR : R [.obj C fs] S)
    (ht : eval (.Call (.Attribute (.Name x px) m apos) [] [] pos) X.env = (do
      let ov ← eval (.Name x px) X.env
      standAt apos.atName
      let (f, first) ← holding [ov] (getMethod ov m pl)
      callWith pos f first (backTo pos (starEach [] X.env)) (backToKw pos (keywordEach [] X.env))) := by rfl) : PQ X (.Call (.Attribute (.Name x px) m apos) [] [] pos) env S := by
  obtain ⟨k, g, fd, ps, F, hr, hm, hb⟩ := c.ex
  refine PE.weak (pe_meth0 (pe_var n.at_ n.vis n.hd n.hcd) c.cls hm F hr hb .nil pass0 ht) fun σ H Q ⟨G0, H0, G, st, q⟩ => ?_
  obtain ⟨v0, hσ, r0⟩ := st.thaw.get ho
  refine ⟨v0, hσ, ?_⟩
  cases r0 with
  | obj h r =>
    refine ⟨_, _, _, rfl, h, r.none hl, ?_⟩
    exact ⟨G, _, [], _, [], S, rfl, st.ex, .obj h r, .nil, hR, fun v d G3 H3 e3 r3 s3 => q v d G3 H3 e3 r3 s3⟩
/-- the heap without two places -/
def er (H : Hp) (p q : Addr) : Hp := fun a => if a = p ∨ a = q then none else H a
theorem er_ex {H : Hp} {p q : Addr} : Ex (er H p q) H := fun a u z => by
  unfold er at z
  split at z
  · cases z
  · exact z
/-- what a changing method leaves -/
theorem sta_after {K : PySem.W.Frag} {G0 H0 G H G' H' : Hp} {σ : L2.St} {p q : Addr} {o : Option (Option V)} {z' : Sl} (s : Sta K G0 H0 G H σ env) (h1 : onlyOb env i = true) (hp : H0 p = none) (hq : H0 q = none) (hσ : σ[i]? = some (some (.ref p))) (e : Ext G (er H p q) G' H') (hz : SlOk K (er H p q) G' H' o z') (hob : isOb z' = true) (hat : obAt z' = p) : Sta K G0 H0 G' H' σ (env.set i z') := by
  have hle : ∀ a, H0 a ≠ none → er H p q a = H a ∧ H a = H0 a := fun a ha => by
    have h1 : ¬ (a = p ∨ a = q) := fun z => by
      rcases z with z | z
      · exact ha (by rw [z]; exact hp)
      · exact ha (by rw [z]; exact hq)
    refine ⟨by unfold er; rw [if_neg h1], ?_⟩
    cases u : H0 a with
    | none => exact (ha u).elim
    | some o => exact s.ext.h a o u
  refine ⟨⟨s.ext.g.trans e.g, fun a u z => ?_, e.gh, fun a ha => ?_⟩, by rw [List.length_set]; exact s.len, fun j y hj => ?_⟩
  · obtain ⟨z1, z2⟩ := hle a (by rw [z]; simp)
    refine e.h a u ?_
    rw [z1, z2, z]
  · obtain ⟨z1, z2⟩ := hle a ha
    rw [e.old a (by rw [z1, z2]; exact ha), s.ext.old a ha]
  · by_cases ej : i = j
    · subst ej
      have hl := (List.getElem?_eq_some_iff.mp hj).1
      rw [List.length_set] at hl
      rw [List.getElem?_set_self hl] at hj
      cases hj
      rw [hσ]
      have := slOk_o hob hz
      rw [hat] at this
      refine slOk_less (fun a ha => ?_) hob this
      cases u : H0 a with
      | none => rfl
      | some o =>
        obtain ⟨z1, z2⟩ := hle a (by rw [u]; simp)
        rw [z1, z2, u] at ha
        cases ha
    · rw [List.getElem?_set_ne ej] at hj
      exact slOk_plain e.g (onlyOb_at h1 (fun z => ej z.symm) hj) (s.sl j y hj)
/-- where an object's own list is -/
theorem slOk_er {K : PySem.W.Frag} {H0 G H : Hp} {o : Option (Option V)} {p C : Addr} {fs : List (Str × Dt)} {f : Str} {ds : List Dt} (h : SlOk K H0 G H o (.ol p C fs f ds)) : ∃ q, H0 p = none ∧ H0 q = none ∧ SlOk K (er H p q) G H (some (some (.ref p))) (.ol p C fs f ds) := by
  obtain ⟨dx, vs, q, xs, h1, h2, h3, h4, h5, h6, h7, h8, h9⟩ := h
  refine ⟨q, h2, h6, dx, vs, q, xs, rfl, ?_, h3, h4, h5, ?_, h7, h8, h9⟩
  · unfold er; rw [if_pos (.inl rfl)]
  · unfold er; rw [if_pos (.inr rfl)]
/-- x.m(e, ..), which changes the object at x -/
theorem s1_callO {p C : Addr} {fs : List (Str × Dt)} {f : Str} {bs : List Dt} {RR : Sl → List Dt → (Sl → Dt → Prop) → Prop} {es : List Expr} {pl : Sem Bool} (c : MetO X C m RR) (n : Nm X x i) (hi : env[i]? = some (.ol p C fs f bs)) (h1 : onlyOb env i = true) (hl : fs.lookup m = none) (hlf : (f == m) = false)
    {S : List Dt → Prop} (ha : ∃ t, PA X (e :: es) t ∧ ∀ σ H Q, (∃ G0 H0 G, Sta X.K G0 H0 G H σ env ∧ ∀ vs ds G' H', Ext G H G' H' → RepL X.K G' vs ds → S ds → Q vs H') → t σ H Q) (hR : ∀ ds, S ds → ∃ SS, RR (.ol p C fs f bs) ds SS ∧ ∀ z' d, SS z' d → isOb z' = true ∧ obAt z' = p ∧ R.nx (env.set i z'))
    (hst : starEach (e :: es) X.env = (false, eval e X.env) :: starEach es X.env := by rfl) (hpl : (backTo cpos (starEach es X.env)).any (·.1) = false := by rfl)
    (hs : swapsWith (.Call (.Attribute (.Name x px) m apos) (e :: es) [] cpos) none pos.line X.env = pure false := by rfl)
    (ht : eval (.Call (.Attribute (.Name x px) m apos) (e :: es) [] cpos) X.env = (do
      let ov ← eval (.Name x px) X.env
      standAt apos.atName
      let (f, first) ← holding [ov] (getMethod ov m pl)
      callWith cpos f first (backTo cpos (starEach (e :: es) X.env)) (backToKw cpos (keywordEach [] X.env))) := by rfl) : SD1 X (.Expr (.Call (.Attribute (.Name x px) m apos) (e :: es) [] cpos) pos) env R := by
  obtain ⟨k, g, fd, ps, F, hr, hm, hb⟩ := c.ex
  obtain ⟨t, hpa, hw⟩ := ha
  refine PS.weak (ps_expr (pe_meth (pe_var n.at_ n.vis n.hd n.hcd) c.cls hm F hr hb .nil pass0 hpa hst hpl ht) hs) fun D σ H ⟨G0, H0, G, s, gd⟩ => ?_
  obtain ⟨dx, vs0, q0, xs0, z1, z2, z3, z4, z5, _⟩ := s.sl i _ hi
  have hlook : (vs0 ++ [(f, V.ref q0)]).lookup m = none := by
    have : ∀ {ws : List (Str × V)}, ws.lookup m = none → (ws ++ [(f, V.ref q0)]).lookup m = none := by
      intro ws
      induction ws with
      | nil =>
        intro _
        show List.lookup m [(f, V.ref q0)] = none
        have : (m == f) = false := by
          rw [beq_eq_false_iff_ne] at hlf ⊢
          exact fun z => hlf z.symm
        simp [List.lookup, this]
      | cons a r ih =>
        intro h
        rw [List.cons_append, List.lookup_cons]
        rw [List.lookup_cons] at h
        cases e : m == a.1 with
        | true => rw [e] at h; cases h
        | false =>
          rw [e] at h
          exact ih h
    exact this (z5.none hl)
  refine ⟨.ref p, z1, p, dx, _, rfl, z4, hlook, hw σ H _ ⟨G0, H0, G, s, fun vs ds G1 H1 e1 r1 hS => ?_⟩⟩
  have s1 := s.step e1
  obtain ⟨q, y1, y2, y3⟩ := slOk_er (s1.sl i _ hi)
  obtain ⟨SS, hRR, hk⟩ := hR ds hS
  rw [List.append_nil]
  refine ⟨G1, er H1 p q, .ref p, vs, _, ds, SS, rfl, e1.gh, er_ex, y3, r1, hRR, fun v d z' o G2 H2 e2 hz r2 hSS => ?_⟩
  obtain ⟨k1, k2, k3⟩ := hk z' d hSS
  exact gd.nx σ G2 H2 _ (sta_after s1 h1 y1 y2 z1 e2 hz k1 k2) (e1.g.trans e2.g) k3
/-- y = x.m(), which changes the object at x -/
theorem s1_asgO0 {p C : Addr} {fs : List (Str × Dt)} {f : Str} {bs : List Dt} {RR : Sl → List Dt → (Sl → Dt → Prop) → Prop} {SS : Sl → Dt → Prop} {pl : Sem Bool} {py : Pos} (c : MetO X C m RR) (n : Nm X x i) (l : Lo X y j) (hi : env[i]? = some (.ol p C fs f bs)) (h1 : onlyOb env i = true) (hl : fs.lookup m = none) (hlf : (f == m) = false)
    (hR : RR (.ol p C fs f bs) [] SS) (hk : ∀ z' d, SS z' d → isOb z' = true ∧ obAt z' = p ∧ R.nx ((env.set i z').set j (.fz d)))
    (hs : swapsWith (.Call (.Attribute (.Name x px) m apos) [] [] cpos) (some (.Name y py)) pos.line X.env = pure false := by rfl)
    (ht : eval (.Call (.Attribute (.Name x px) m apos) [] [] cpos) X.env = (do
      let ov ← eval (.Name x px) X.env
      standAt apos.atName
      let (f, first) ← holding [ov] (getMethod ov m pl)
      callWith cpos f first (backTo cpos (starEach [] X.env)) (backToKw cpos (keywordEach [] X.env))) := by rfl) : SD1 X (.Assign [.Name y py] (.Call (.Attribute (.Name x px) m apos) [] [] cpos) pos) env R := by
  obtain ⟨k, g, fd, ps, F, hr, hm, hb⟩ := c.ex
  refine PS.weak (ps_set l.nd l.at_ l.loc (pe_meth0 (pe_var n.at_ n.vis n.hd n.hcd) c.cls hm F hr hb .nil pass0 ht) hs l.fn) fun D σ H ⟨G0, H0, G, s, gd⟩ => ?_
  obtain ⟨dx, vs0, q0, xs0, z1, z2, z3, z4, z5, _⟩ := s.sl i _ hi
  have hlook : (vs0 ++ [(f, V.ref q0)]).lookup m = none := by
    have : ∀ {ws : List (Str × V)}, ws.lookup m = none → (ws ++ [(f, V.ref q0)]).lookup m = none := by
      intro ws
      induction ws with
      | nil =>
        intro _
        show List.lookup m [(f, V.ref q0)] = none
        have : (m == f) = false := by
          rw [beq_eq_false_iff_ne] at hlf ⊢
          exact fun z => hlf z.symm
        simp [List.lookup, this]
      | cons a r ih =>
        intro h
        rw [List.cons_append, List.lookup_cons]
        rw [List.lookup_cons] at h
        cases e : m == a.1 with
        | true => rw [e] at h; cases h
        | false =>
          rw [e] at h
          exact ih h
    exact this (z5.none hl)
  refine ⟨.ref p, z1, p, dx, _, rfl, z4, hlook, ?_⟩
  obtain ⟨q, y1, y2, y3⟩ := slOk_er (s.sl i _ hi)
  refine ⟨G, er H p q, .ref p, [], _, [], SS, rfl, s.ex, er_ex, y3, .nil, hR, fun v d z' o G2 H2 e2 hz r2 hSS => ?_⟩
  obtain ⟨k1, k2, k3⟩ := hk z' d hSS
  exact gd.nx _ G2 H2 _ ((sta_after s h1 y1 y2 z1 e2 hz k1 k2).set r2) e2.g k3
/-- y = C(e, ..) -/
theorem s1_make {C : Addr} {RR : Sl → List Dt → (Sl → Dt → Prop) → Prop} {es : List Expr} {ds : List Dt} {py : Pos} (c : MkX X x C RR) (l : Lo X y j) (ha : PVs X (e :: es) env ds) (hR : ∀ p, ∃ SS, RR (.ob p C []) ds SS ∧ ∀ z' d, SS z' d → isOb z' = true ∧ obAt z' = p ∧ d = .non ∧ R.nx (env.set j z'))
    (he : starEach (e :: es) X.env = (false, eval e X.env) :: starEach es X.env := by rfl) (hpl : (backTo cpos (starEach es X.env)).any (·.1) = false := by rfl)
    (hs : swapsWith (.Call (.Name x px) (e :: es) [] cpos) (some (.Name y py)) pos.line X.env = pure false := by rfl) : SD1 X (.Assign [.Name y py] (.Call (.Name x px) (e :: es) [] cpos) pos) env R := by
  obtain ⟨k, g, fd, ps, F, hr, hm, hb⟩ := c.ex
  refine PS.weak (ps_set l.nd l.at_ l.loc (pe_make hm F hr c.gl c.hm hb .nil pass0 ha c.hd he hpl) hs l.fn) fun D σ H ⟨G0, H0, G, s, gd⟩ => ⟨G0, H0, G, s, fun vs G1 H1 e1 r1 p dx hp hdx hne => ?_⟩
  have s1 := s.step e1
  obtain ⟨SS, hRR, hk⟩ := hR p
  rw [List.append_nil]
  have hx : upd H1 dx (.own p) p = none := by rw [upd_ne fun z => hne z.symm]; exact hp
  have e0 : Ex (upd H1 dx (.own p)) (upd (upd H1 dx (.own p)) p (.ins C dx [])) := Evl.Ex.new hx
  have e01 : Ex H1 (upd H1 dx (.own p)) := Evl.Ex.new hdx
  refine ⟨G1, upd H1 dx (.own p), .ref p, vs, .ob p C [], ds, SS, rfl, e1.gh.trans (e01.trans e0), e0, ⟨dx, [], rfl, hx, none_of_ex e1.gh hp, upd_same, .nil⟩, r1, hRR, fun v d z' o G2 H2 e2 hz r2 hSS => ?_⟩
  obtain ⟨k1, k2, k3, k4⟩ := hk z' d hSS
  subst k3
  cases r2
  refine ⟨rfl, ?_⟩
  have e3 : Ext G1 H1 G2 H2 := ⟨e2.g, e01.trans e2.h, e2.gh, fun a hq => e2.old a fun z => by
    cases u : H1 a with
    | none => exact hq u
    | some o => rw [e01 a o u] at z; cases z⟩
  have s2 := s1.step e3
  have hz2 := slOk_o k1 hz
  rw [k2] at hz2
  refine gd.nx _ G2 H2 _ (s2.put (slOk_less (fun a q => ?_) k1 hz2)) (e1.g.trans e2.g) k4
  cases u : H0 a with
  | none => rfl
  | some o => rw [e01 a o (s1.ext.h a o u)] at q; cases q
end
end Fc

namespace Fc
open PySem PySem.Spec PyProof.Rows L2
/-! ### sending -/
abbrev pipe3 (W : Web) (B : Int) (r : List Int) : List (Str × Dt) := [("net", webD W), ("bottom", .int B), ("rooms", .lst (r.map .int))]
abbrev pipeO (p C : Addr) (W : Web) (B : Int) (r a : List Int) : Sl := .ol p C (pipe3 W B r) "amounts" (a.map .int)
theorem pipe3_no {W : Web} {B : Int} {r : List Int} {m : Str} (h : noF m = true) : (pipe3 W B r).lookup m = none := by
  unfold noF at h
  simp only [Bool.and_eq_true, Bool.not_eq_true'] at h
  obtain ⟨⟨⟨h1, h2⟩, h3⟩, h4⟩ := h
  show List.lookup m _ = none
  rw [List.lookup_cons, show (m == ("net" : Str)) = false from h1, List.lookup_cons, show (m == ("bottom" : Str)) = false from h2, List.lookup_cons, show (m == ("rooms" : Str)) = false from h3]
  rfl
theorem pipe3_nA {W : Web} {B : Int} {r : List Int} : (pipe3 W B r).lookup (Str.ofString "amounts") = none := by
  simp only [List.lookup, ne_an, ne_ab, ne_ar]
section
variable {X : Cx} {env : List Sl} {x f g : Str} {i : Nat} {px pos : Pos} {d : Dt}
/-- a frozen field of an object of one's own -/
theorem pv_fldO {p C : Addr} {fs : List (Str × Dt)} {ds : List Dt} (n : Nm X x i) (hi : env[i]? = some (.ol p C fs f ds)) (c : Cls X.K C) (na : NoAttr X.K C g) (hl : fs.lookup g = some d) (hb : attributeBase (.Name x px) g X.env (eval (.Name x px) X.env) = eval (.Name x px) X.env := by rfl) : PV X (.Attribute (.Name x px) g pos) env d :=
  PE.weak (pe_fld (pe_var n.at_ n.vis n.hd n.hcd) hb) fun σ H Q ⟨G0, H0, G, s, k⟩ => by
    obtain ⟨dx, vs, q, xs, z1, z2, z3, z4, z5, _⟩ := s.sl i _ hi
    obtain ⟨u, hu, ru⟩ := z5.look hl
    have hl2 : (vs ++ [(f, V.ref q)]).lookup g = some u := by
      have : ∀ {ws : List (Str × V)}, ws.lookup g = some u → (ws ++ [(f, V.ref q)]).lookup g = some u := by
        intro ws
        induction ws with
        | nil => intro h; cases h
        | cons a r ih =>
          intro h
          rw [List.cons_append, List.lookup_cons]
          rw [List.lookup_cons] at h
          cases e : g == a.1 with
          | true => rw [e] at h; exact h
          | false =>
            rw [e] at h
            exact ih h
      exact this hu
    exact ⟨.ref p, z1, p, C, dx, _, u, rfl, z4, c, na, hl2, k u d G H (Ext.refl s.ex) ru rfl⟩
end
def spI (W : Web) (r a : List Int) (s : Nat × Str) : Int := match W.ties[s.1]? with
  | some t => spareI t (r.getD s.1 0) (a.getD s.1 0) s.2
  | none => 0
theorem spI_at {W : Web} {r a : List Int} {s : Nat × Str} {t : Tie} {x y : Int} (ht : W.ties[s.1]? = some t) (hx : r[s.1]? = some x) (hy : a[s.1]? = some y) : spI W r a s = spareI t x y s.2 := by
  unfold spI
  rw [ht, getD_of hx, getD_of hy]
section
variable {P : Program} {w : World} {K : PySem.W.Frag} {mg : Str → Option Value} {base : Heap} {C : Addr}
inductive R_send (C : Addr) : Sl → List Dt → (Sl → Dt → Prop) → Prop
  | mk (W : Web) (B : Int) (r a : List Int) (hw : WebOk W) (h : FlOk W r a) (fs : Fnd) (hf : FInv W r a fs) (i : Nat) (s : Option (Nat × Str)) (st : List (Nat × Str)) (hi : fs[i]? = some (W.last, s)) (hr : Run fs i st) (p : Addr) :
      R_send C (pipeO p C W B r a) [stepsD st] (fun z' d => d = .non ∧ ∃ a', z' = pipeO p C W B r a' ∧ FlOk W r a' ∧ goI (W.ties.zip a) W.first < goI (W.ties.zip a') W.first)
theorem ok_send (T : Tx K mg C) : MeO P w K mg base C "send" 2 (R_send C) := by
  refine met_calO 1 T.d_p_send sc_p_send hb_p_send (fun z ds S h => by cases h; rfl) (fun X b z ds S h => ?_)
  cases h with
  | mk W B r a hw h fs hf i s st hi hr p =>
    have n0 := b.nm (x := "self") (i := 0) (by decide +kernel)
    have n1 := b.nm (x := "steps") (i := 1) (by decide +kernel)
    have n2 := b.nm (x := "many") (i := 2) (by decide +kernel)
    have n3 := b.nm (x := "k") (i := 3) (by decide +kernel)
    have n4 := b.nm (x := "place") (i := 4) (by decide +kernel)
    have l2 := b.lo (x := "many") (i := 2) (by decide +kernel)
    have l3 := b.lo (x := "k") (i := 3) (by decide +kernel)
    have l4 := b.lo (x := "place") (i := 4) (by decide +kernel)
    have g1 := b.b_min T (by decide +kernel)
    have cl : Cls X.K C := by rw [b.eK]; exact T.cl
    have a1 : NoAttr X.K C "net" := by rw [b.eK]; exact T.na_net
    have a4 : NoAttr X.K C "amounts" := by rw [b.eK]; exact T.na_amounts
    have m1 := (ok_spare (P := P) (w := w) (base := base) T).at T.cl b.toBs (by decide)
    have hlen : st.length ≤ 7 := by
      have h1 : ∀ {i : Nat} {st : List (Nat × Str)}, Run fs i st → st.length ≤ i := fun {i st} h => by
        induction h with
        | nil _ => simp
        | cons _ _ hj _ ih => rw [List.length_cons]; omega
      have h2 := h1 hr
      have h3 := (List.getElem?_eq_some_iff.mp hi).1
      have h4 := hf.len
      have h5 := hw.p7
      omega
    have hne : st ≠ [] := fun e => by
      subst e
      cases hr with
      | nil hq =>
        rw [hi] at hq
        cases hq
        exact hw.fl (hf.no i _ hi).symm
    have hgo : ∀ s ∈ st, ∃ t x y, W.ties[s.1]? = some t ∧ r[s.1]? = some x ∧ a[s.1]? = some y ∧ 0 < spareI t x y s.2 := fun s hs => by
      obtain ⟨i', q, j, s', _, _, g, _⟩ := run_at hf hr s hs
      obtain ⟨t, x, y, ht, hx, hy, hp, _⟩ := g.ex
      exact ⟨t, x, y, ht, hx, hy, hp⟩
    have hmn : st.map (spI W r a) ≠ [] := fun e => hne (List.map_eq_nil_iff.mp e)
    obtain ⟨k1, k2⟩ := minL_mem hmn
    generalize hd : minL (st.map (spI W r a)) = d at k1 k2
    have hd0 : 0 < d := by
      obtain ⟨s, hs, es⟩ := List.mem_map.mp k1
      obtain ⟨t, x, y, ht, hx, hy, hp⟩ := hgo s hs
      rw [← es, spI_at ht hx hy]
      exact hp
    obtain ⟨hF, hA⟩ := h.send hw hf hi hr hd0 fun s hs t x y ht hx hy => by
      rw [← spI_at ht hx hy]
      exact k2 _ (List.mem_map.mpr ⟨s, hs, rfl⟩)
    have hmin : CallD X "min" [.lst ((st.filter fun _ => true).map fun s => Dt.int (spI W r a s))] (.int d) := by
      have := cd_minL b.calm (X := X) hmn
      rw [hd, List.map_map] at this
      rw [List.filter_eq_self.mpr fun _ _ => rfl]
      exact this
    show SD X _ [pipeO p C W B r a, .fz (stepsD st), .un, .un, .un] _
    refine sd_asg (pv_callB g1 (pvs_cons (pv_lc (lcd_names (xs := st) (inj := fun s : Nat × Str => [Dt.int (s.1 : Nat), .str s.2]) (is := [3, 4]) [("k", 3), ("place", 4)] (fun _ => true) (fun s => .int (spI W r a s)) b.calm b.eN b.eS b.nd (by omega) (pid_list (by walk_at "fc ev")) (by decide +kernel) (by decide) (fun Y y => ?_) (fun _ _ => rfl) (fun a Y ha y => ptd_no) (fun s Y hs hp y => ?_))) pvs_nil) hmin) l2 ?_
    · have Bb := b.toBs.blk y
      exact .cons (Bb.lo (x := "k") (i := 3) (by decide +kernel)) (.cons (Bb.lo (x := "place") (i := 4) (by decide +kernel)) .nil)
    · have Bb := b.toBs.blk y
      have y0 := Bb.nm (x := "self") (i := 0) (by decide +kernel)
      have y3 := Bb.nm (x := "k") (i := 3) (by decide +kernel)
      have y4 := Bb.nm (x := "place") (i := 4) (by decide +kernel)
      have my := (ok_spare (P := P) (w := w) (base := base) T).at T.cl Bb (by decide)
      have e1 : (pipeF W B r a).lookup (Str.ofString "spare") = none := pipe_no (by decide +kernel)
      obtain ⟨t, x, z, ht, hx, hz, hp⟩ := hgo s hs
      have r1 := R_spare.mk (C := C) W B r a ⟨hw, h.lr, h.la⟩ s.1 t x z ht hx hz s.2
      rw [spI_at ht hx hz]
      refine PV.thaw ?_ rfl
      show PV Y _ [.fz (pipeD C W B r a), .fz (stepsD st), .un, .fz (.int (s.1 : Nat)), .fz (.str s.2)] _
      walk_at "fc ev"
    · show SD X _ [pipeO p C W B r a, .fz (stepsD st), .fz (.int d), .un, .un] _
      refine sd_for2 (is := [3, 4]) b.po b.calm (.cons l3 (.cons l4 .nil)) (pid_list (ds := st.map fun s => stepD (some s)) (by walk_at "fc ev")) (fun n env => ∃ x y, env = [pipeO p C W B r (sendI W d a (st.take n)), .fz (stepsD st), .fz (.int d), x, y]) ⟨_, _, rfl⟩ ?_ ?_
      · rintro n dd env hdd ⟨x0, y0, rfl⟩
        rw [List.getElem?_map] at hdd
        cases hq : st[n]? with
        | none => rw [hq] at hdd; cases hdd
        | some s =>
          rw [hq] at hdd
          cases hdd
          refine ⟨[.int (s.1 : Nat), .str s.2], rfl, rfl, ?_⟩
          obtain ⟨t, x, z, ht, hx, hz, hp⟩ := hgo s (List.mem_of_getElem? hq)
          have hk := (List.getElem?_eq_some_iff.mp ht).1
          have etk : sendI W d a (st.take (n + 1)) = stepI W d (sendI W d a (st.take n)) s := by
            unfold sendI
            rw [List.take_succ, hq, List.foldl_append]
            rfl
          generalize ha' : sendI W d a (st.take n) = a' at etk
          have hla : a'.length = W.ties.length := by rw [← ha', sendI_len]; exact h.la
          obtain ⟨u, hu⟩ : ∃ u, a'[s.1]? = some u := ⟨_, List.getElem?_eq_getElem (by omega)⟩
          have hmu : (a'.map Dt.int)[s.1]? = some (.int u) := by rw [List.getElem?_map, hu]; rfl
          have f1 := pipe_net (W := W) (B := B) (r := r) (a := a')
          have i1 : atI (W.ties.map tieD) (s.1 : Int) = some (.tup [.str t.one, .str t.other, .str (wordS t.both), frD t.len, worthD t.worth]) := at_map ht
          show SD X _ [pipeO p C W B r a', .fz (stepsD st), .fz (.int d), .fz (.int (s.1 : Nat)), .fz (.str s.2)] _
          refine sd_if (PB.thaw (by
            show PB X _ [.fz (pipeD C W B r a'), .fz (stepsD st), .fz (.int d), .fz (.int (s.1 : Nat)), .fz (.str s.2)] _
            walk_at "fc t")) (fun hc => ?_) (fun hc => ?_)
          · have hc : s.2 = t.one := by simpa using hc
            refine sd_cons (s1_augO (m := s.1) (a := u) (b := d) ip_add n0 rfl rfl cl a4 (pipe3_nA) (by walk_at "fc ev") (by walk_at "fc ev") hmu (sd_nil (sd_nil ⟨.fz (.int (s.1 : Nat)), .fz (.str s.2), ?_⟩)))
            have e : sendI W d a (st.take (n + 1)) = a'.set s.1 (u + d) := by
              rw [etk]
              unfold stepI
              rw [ht]
              simp only [getD_of hu, if_pos hc]
            have e3 : (a'.map Dt.int).set s.1 (.int (u + d)) = (a'.set s.1 (u + d)).map Dt.int := (List.map_set ..).symm
            show _ = [Sl.ol p C (pipe3 W B r) _ ((sendI W d a (st.take (n + 1))).map Dt.int), _, _, _, _]
            rw [e, ← e3]
            rfl
          · have hc : ¬ s.2 = t.one := by simpa using hc
            refine sd_cons (s1_augO (m := s.1) (a := u) (b := d) ip_sub n0 rfl rfl cl a4 (pipe3_nA) (by walk_at "fc ev") (by walk_at "fc ev") hmu (sd_nil (sd_nil ⟨.fz (.int (s.1 : Nat)), .fz (.str s.2), ?_⟩)))
            have e : sendI W d a (st.take (n + 1)) = a'.set s.1 (u - d) := by
              rw [etk]
              unfold stepI
              rw [ht]
              simp only [getD_of hu, if_neg hc]
            have e3 : (a'.map Dt.int).set s.1 (.int (u - d)) = (a'.set s.1 (u - d)).map Dt.int := (List.map_set ..).symm
            show _ = [Sl.ol p C (pipe3 W B r) _ ((sendI W d a (st.take (n + 1))).map Dt.int), _, _, _, _]
            rw [e, ← e3]
            rfl
      · rintro env ⟨x0, y0, rfl⟩
        rw [List.length_map, List.take_length]
        exact sd_nil ⟨_, rfl, rfl, _, rfl, hF, by omega⟩
end
end Fc

namespace Fc
open PySem PySem.Spec PyProof.Rows L2
section
variable {P : Program} {w : World} {K : PySem.W.Frag} {mg : Str → Option Value} {base : Heap} {C : Addr}
/-- what fill leaves -/
structure Full (W : Web) (r a : List Int) (fs : Fnd) : Prop where
  fl : FlOk W r a
  fd : Found W r a fs
  nl : W.last ∉ fs.map (·.1)
def sideOf (W : Web) (fs : Fnd) : List Str := W.places.filter (inS (fs.map (·.1)))
inductive R_fill (C : Addr) : Sl → List Dt → (Sl → Dt → Prop) → Prop
  | mk (W : Web) (B : Int) (r a : List Int) (hw : WebOk W) (h : FlOk W r a) (p : Addr) :
      R_fill C (pipeO p C W B r a) [] (fun z' d => ∃ a' fs, z' = pipeO p C W B r a' ∧ d = .lst ((sideOf W fs).map .str) ∧ Full W r a' fs)
theorem ok_fill (T : Tx K mg C) : MeO P w K mg base C "fill" 3 (R_fill C) := by
  refine met_calO 2 T.d_p_fill sc_p_fill hb_p_fill (fun z ds S h => by cases h; rfl) (fun X b z ds S h => ?_)
  cases h with
  | mk W B r a0 hw h0 p =>
    have n0 := b.nm (x := "self") (i := 0) (by decide +kernel)
    have n1 := b.nm (x := "found") (i := 1) (by decide +kernel)
    have l1 := b.lo (x := "found") (i := 1) (by decide +kernel)
    have cl : Cls X.K C := by rw [b.eK]; exact T.cl
    have a1 : NoAttr X.K C "net" := by rw [b.eK]; exact T.na_net
    have m1 := (ok_reached (P := P) (w := w) (base := base) T).at T.cl b.toBs (by decide)
    have m2 := (ok_back (P := P) (w := w) (base := base) T).at T.cl b.toBs (by decide)
    have m3 := (ok_send (P := P) (w := w) (base := base) T).at T.cl b.toBs (by decide)
    have rm := b.room
    have hp7 := hw.p7
    have q1 : ∀ a, (pipeF W B r a).lookup (Str.ofString "reached") = none := fun a => pipe_no (by decide +kernel)
    have q2 : ∀ a, (pipeF W B r a).lookup (Str.ofString "back") = none := fun a => pipe_no (by decide +kernel)
    have hpo : ∀ {a}, FlOk W r a → PipeOk W B r a := fun h => ⟨hw, h.lr, h.la⟩
    show SD X _ [pipeO p C W B r a0, .un, .un] _
    refine sd_asgQ (pq_methT0 (fs := pipeF W B r a0) m1 n0 rfl (q1 a0) (.mk W B r a0 (hpo h0))) l1 ?_
    rintro d ⟨fs0, rfl, hfd0⟩
    refine sd_while b.po (fun m env => ∃ a fs, env = [pipeO p C W B r a, .fz (.dct (fndD fs)), .un] ∧ FlOk W r a ∧ Found W r a fs ∧ m = (sumTo (fun k => r.getD k 0) W.ties.length - goI (W.ties.zip a) W.first).toNat) _ ⟨a0, fs0, rfl, h0, hfd0, rfl⟩ ?_
    rintro m env ⟨a, fs, rfl, hF, hfd, rfl⟩
    have f1 := pipe_net (W := W) (B := B) (r := r) (a := a)
    refine ⟨decide (W.last ∈ (fndD fs).map (·.1)), pb_inD rm (PV.thaw (by
      show PV X _ [.fz (pipeD C W B r a), .fz (.dct (fndD fs)), .un] _
      walk_at "fc ev") rfl) (by walk_at "fc ev"), fun hc => ?_, fun hc => ?_⟩
    · rw [decide_eq_true_eq, fndD_keys] at hc
      refine sd_cons (s1_callO m3 n0 rfl rfl (pipe3_no (by decide +kernel)) (by decide +kernel) (pas_one (pq_methT (fs := pipeF W B r a) m2 n0 rfl (q2 a) (ds := [.dct (fndD fs)]) (by walk_at "fc evs") (.mk W B r a (hpo hF) fs hfd.toFInv hc))) ?_)
      rintro ds ⟨d, rfl, st, i, s, rfl, hi, hr⟩
      refine ⟨_, .mk W B r a hw hF fs hfd.toFInv i s st hi hr p, ?_⟩
      rintro z' d ⟨_, a', rfl, hF', hlt⟩
      refine ⟨rfl, rfl, ?_⟩
      show SD X _ [pipeO p C W B r a', .fz (.dct (fndD fs)), .un] _
      refine sd_asgQ (pq_methT0 (fs := pipeF W B r a') m1 n0 rfl (q1 a') (.mk W B r a' (hpo hF'))) l1 ?_
      rintro d ⟨fs', rfl, hfd'⟩
      have hle := amount_le hw hF'
      exact sd_nil ⟨_, by omega, a', fs', rfl, hF', hfd', rfl⟩
    · rw [decide_eq_false_iff_not, fndD_keys] at hc
      refine sd_cons (s1_retE (S := fun d => d = .lst ((W.places.filter (inS (fs.map (·.1)))).map .str)) (pv_lc (lcd_name (xs := W.places) (inj := Dt.str) (i := 2) [("place", 2)] (inS (fs.map (·.1))) Dt.str b.calm b.eN b.eS b.nd (by omega) (pid_list (pv_ix (pv_fldO (d := webD W) n0 rfl cl a1 (by simp only [List.lookup, beq_self_eq_true])) (by walk_at "fc ev") (ix_tp rfl))) (by decide +kernel) (by decide) rfl (by decide +kernel) (fun s Y ha y => ptd_if ?_) (fun s Y ha hp y => ?_))) fun d hd => ?_)
      · have Bb := b.toBs.blk y
        have y1 := Bb.nm (x := "found") (i := 1) (by decide +kernel)
        have y2 := Bb.nm (x := "place") (i := 2) (by decide +kernel)
        refine PB.is (pb_inD (k := s) (kds := fndD fs) Bb.room (by walk_at "fc ev") (by walk_at "fc ev")) ?_
        unfold inS
        rw [fndD_keys]
      · have Bb := b.toBs.blk y
        have y2 := Bb.nm (x := "place") (i := 2) (by decide +kernel)
        walk_at "fc ev"
      · subst hd
        exact ⟨_, rfl, a, fs, rfl, rfl, hF, hfd, hc⟩
inductive R_flow (C : Addr) : List Dt → (Dt → Prop) → Prop
  | mk (W : Web) (B : Int) (r a : List Int) (hB : 0 < B) (zB : Sz 1000 B) (za : ∀ x ∈ a, Sz 1000 x) (hl : a.length ≤ 14) : R_flow C [pipeD C W B r a] (fun d => d = .lst (a.map (fq B)))
theorem ok_flow (T : Tx K mg C) : Met P w K mg base C "flow" 3 (R_flow C) := by
  refine met_cal 2 T.d_p_flow sc_p_flow hb_p_flow (fun ds S h => by cases h; rfl) (fun X b ds S h => ?_)
  cases h with
  | mk W B r a hB zB za hl =>
    have n0 := b.nm (x := "self") (i := 0) (by decide +kernel)
    have cl : Cls X.K C := by rw [b.eK]; exact T.cl
    have a2 : NoAttr X.K C "amounts" := by rw [b.eK]; exact T.na_amounts
    have f2 := pipe_amounts (W := W) (B := B) (r := r) (a := a)
    show SD X _ [.fz (pipeD C W B r a), .un] _
    refine sd_ret (d := .lst ((a.filter fun _ => true).map (fq B))) (pv_lc (lcd_name (xs := a) (inj := Dt.int) (i := 1) [("amount", 1)] (fun _ => true) (fq B) b.calm b.eN b.eS b.nd (by omega) (pid_list (by walk_at "fc ev")) (by decide +kernel) (by decide) rfl (by decide +kernel) (fun s Y ha y => ptd_no) (fun x Y ha hp y => ?_))) ?_
    · have Bb := b.toBs.blk y
      have y0 := Bb.nm (x := "self") (i := 0) (by decide +kernel)
      have y1 := Bb.nm (x := "amount") (i := 1) (by decide +kernel)
      have cl : Cls Y.K C := by rw [Bb.eK]; exact T.cl
      have a2 : NoAttr Y.K C "bottom" := by rw [Bb.eK]; exact T.na_bottom
      have f2 := pipe_bottom (W := W) (B := B) (r := r) (a := a)
      have c1 := (ok_lowest T).at Bb (by decide) (by decide +kernel)
      have r1 := R_lowest.mk x B hB (zB.mono (by decide))
      show PV Y _ [.fz (pipeD C W B r a), .fz (.int x)] _
      walk_at "fc ev"
    · rw [List.filter_eq_self.mpr fun _ _ => rfl]
end
end Fc

namespace Fc
open PySem PySem.Spec PyProof.Rows L2
/-! ### most -/
structure RmOk (W : Web) (qs : List (Int × Int)) (ts : List Int) : Prop where
  w : WebOk W
  r : RoomsOk W qs
  b : BotOk qs
  z : ∀ q ∈ qs, Sz 100 q.1
  t : TakOk W ts
  t14 : ts.length ≤ 14
/-- rooms in parts of B -/
def inB (B : Int) (qs : List (Int × Int)) : List Int := qs.map fun q => q.1 * (B / q.2)
/-- .. those taken are nought -/
def zr (r : List Int) (ts : List Int) : List Int := ts.foldl (fun r t => r.set t.toNat 0) r
theorem zr_len : ∀ (ts r : List Int), (zr r ts).length = r.length
  | [], r => rfl
  | t :: ts, r => by
    show (zr (r.set t.toNat 0) ts).length = r.length
    rw [zr_len ts, List.length_set]
theorem zr_at : ∀ (ts r : List Int) (k : Nat), (∀ t ∈ ts, 0 ≤ t) → (zr r ts).getD k 0 = if (k : Int) ∈ ts then 0 else r.getD k 0
  | [], r, k, _ => by simp [zr]
  | t :: ts, r, k, h => by
    show (zr (r.set t.toNat 0) ts).getD k 0 = _
    rw [zr_at ts _ k fun t ht => h t (List.mem_cons_of_mem _ ht)]
    have ht := h t List.mem_cons_self
    by_cases e : (k : Int) ∈ ts
    · rw [if_pos e, if_pos (List.mem_cons_of_mem _ e)]
    · rw [if_neg e]
      by_cases e2 : (k : Int) = t
      · rw [if_pos (by rw [e2]; exact List.mem_cons_self)]
        have : t.toNat = k := by omega
        rw [this]
        by_cases hk : k < r.length
        · rw [getD_set_eq hk]
        · rw [List.getD_eq_getElem?_getD, List.getElem?_eq_none (by rw [List.length_set]; omega)]
          all_goals rfl
      · rw [if_neg (fun m => (List.mem_cons.mp m).elim e2 e), getD_set_ne (by omega)]
def rmR (qs : List (Int × Int)) (ts : List Int) : List Int := zr (inB (botF qs) qs) ts
theorem inB_pos {qs : List (Int × Int)} {B : Int} (hb : 0 < B) (h : ∀ q ∈ qs, 0 ≤ q.1 ∧ 0 < q.2) : ∀ x ∈ inB B qs, 0 ≤ x := fun x hx => by
  obtain ⟨q, hq, rfl⟩ := List.mem_map.mp hx
  obtain ⟨h1, h2⟩ := h q hq
  exact Int.mul_nonneg h1 (Int.ediv_nonneg (by omega) (by omega))
theorem zr_all {Pr : Int → Prop} (h0 : Pr 0) : ∀ (ts r : List Int), (∀ x ∈ r, Pr x) → ∀ x ∈ zr r ts, Pr x
  | [], r, h => h
  | t :: ts, r, h => zr_all h0 ts _ fun x hx => by
    rcases List.mem_or_eq_of_mem_set hx with z | z
    · exact h x z
    · rw [z]; exact h0
section
variable {W : Web} {qs : List (Int × Int)} {ts : List Int}
theorem RmOk.bot (h : RmOk W qs ts) : 0 < botF qs ∧ botF qs ∣ bigL ∧ ∀ q ∈ qs, q.2 ∣ botF qs := bot_ok h.b
theorem RmOk.pos (h : RmOk W qs ts) : ∀ x ∈ rmR qs ts, 0 ≤ x := zr_all (Int.le_refl 0) ts _ (inB_pos h.bot.1 fun q hq => ⟨(h.r.fr q hq).2, (h.b.each q hq).1⟩)
theorem RmOk.len (h : RmOk W qs ts) : (rmR qs ts).length = W.ties.length := by
  unfold rmR inB
  rw [zr_len, List.length_map, h.r.len]
theorem RmOk.sz (h : RmOk W qs ts) : ∀ x ∈ inB (botF qs) qs, Sz 142 x := fun x hx => by
  obtain ⟨q, hq, rfl⟩ := List.mem_map.mp hx
  obtain ⟨h1, h2, h3⟩ := h.bot
  have hq2 := (h.b.each q hq).1
  refine (h.z q hq).mul (b := 42) ((sz_bigL h1 h2).of_le ?_)
  have h4 : 0 ≤ botF qs / q.2 := Int.ediv_nonneg (by omega) (by omega)
  have h5 : botF qs / q.2 ≤ botF qs := Int.ediv_le_self _ (by omega)
  omega
theorem RmOk.szA (h : RmOk W qs ts) {a : List Int} (hF : FlOk W (rmR qs ts) a) : ∀ x ∈ a, Sz 142 x := fun x hx => by
  obtain ⟨k, hk⟩ := List.getElem?_of_mem hx
  have hkl := (List.getElem?_eq_some_iff.mp hk).1
  obtain ⟨t, ht⟩ : ∃ t, W.ties[k]? = some t := ⟨_, List.getElem?_eq_getElem (by rw [← hF.la]; exact hkl)⟩
  have hb := hF.bd k t ht
  have hp := hF.toBdOk.pos ht
  rw [getD_of hk] at hb
  have hr : (rmR qs ts).getD k 0 ∈ rmR qs ts := by
    rw [List.getD_eq_getElem?_getD, List.getElem?_eq_getElem (by rw [hF.lr, ← hF.la]; exact hkl)]
    exact List.getElem_mem _
  have := zr_all (Pr := fun x => Sz 142 x) (by show Sz 142 0; unfold Sz; decide) ts _ h.sz _ hr
  refine this.of_le ?_
  unfold lowB at hb
  split at hb <;> omega
end
section
variable {P : Program} {w : World} {K : PySem.W.Frag} {mg : Str → Option Value} {base : Heap} {C : Addr}
inductive R_init (C : Addr) : Sl → List Dt → (Sl → Dt → Prop) → Prop
  | mk (W : Web) (qs : List (Int × Int)) (ts : List Int) (h : RmOk W qs ts) (p : Addr) :
      R_init C (.ob p C []) [webD W, .lst (qs.map frD), .lst (ts.map .int)] (fun z' d => d = .non ∧ z' = pipeO p C W (botF qs) (rmR qs ts) (List.replicate W.ties.length 0))
theorem ok_init (T : Tx K mg C) : MkO P w K mg base C 3 (R_init C) := by
  refine mk_calO 2 T.i_init sc_p_init hb_p_init (fun z ds S h => by cases h; rfl) (fun X b z ds S h => ?_)
  cases h with
  | mk W qs ts h p =>
    have n0 := b.nm (x := "self") (i := 0) (by decide +kernel)
    have n1 := b.nm (x := "web") (i := 1) (by decide +kernel)
    have n2 := b.nm (x := "rooms") (i := 2) (by decide +kernel)
    have n3 := b.nm (x := "taken") (i := 3) (by decide +kernel)
    have n4 := b.nm (x := "k") (i := 4) (by decide +kernel)
    have l4 := b.lo (x := "k") (i := 4) (by decide +kernel)
    have g3 := b.b_len T (by decide +kernel)
    have c1 := (ok_common_bottom T).at b.toBs (by decide) (by decide +kernel)
    have cl : Cls X.K C := by rw [b.eK]; exact T.cl
    have a1 : NoAttr X.K C "net" := by rw [b.eK]; exact T.na_net
    have a2 : NoAttr X.K C "bottom" := by rw [b.eK]; exact T.na_bottom
    have a3 : NoAttr X.K C "rooms" := by rw [b.eK]; exact T.na_rooms
    have a4 : NoAttr X.K C "amounts" := by rw [b.eK]; exact T.na_amounts
    have r1 := R_common_bottom.mk qs h.b
    have t14 := h.w.t14
    have hql := h.r.len
    obtain ⟨hB1, hB2, hB3⟩ := h.bot
    show SD X _ [.ob p C [], .fz (webD W), .fz (.lst (qs.map frD)), .fz (.lst (ts.map .int)), .un, .un] _
    refine sd_cons (s1_fld n0 rfl rfl cl a1 rfl (by decide) (by walk_at "fc ev") ?_)
    show SD X _ [.ob p C [("net", webD W)], .fz (webD W), .fz (.lst (qs.map frD)), .fz (.lst (ts.map .int)), .un, .un] _
    refine sd_cons (s1_fld n0 rfl rfl cl a2 (by simp only [List.lookup, ne_bn]) (by show 1 < 15; decide) (by walk_at "fc ev") ?_)
    show SD X _ [.ob p C [("net", webD W), ("bottom", .int (botF qs))], .fz (webD W), .fz (.lst (qs.map frD)), .fz (.lst (ts.map .int)), .un, .un] _
    refine sd_cons (s1_fldN (ds := (qs.filter fun _ => true).map fun q => .int (q.1 * (botF qs / q.2))) n0 rfl rfl cl a3 (by simp only [List.lookup, ne_rn, ne_rb]) (by show 2 < 15; decide) (pn_lc (lcd_name (xs := qs) (inj := frD) (i := 5) [("room", 5)] (fun _ => true) (fun q => .int (q.1 * (botF qs / q.2))) b.calm b.eN b.eS b.nd (by omega) (pid_list (by walk_at "fc ev")) (by decide +kernel) (by decide) rfl (by decide +kernel) (fun s Y ha y => ptd_no) (fun q Y ha hp y => ?_))) ?_)
    · have Bb := b.toBs.blk y
      have y0 := Bb.nm (x := "self") (i := 0) (by decide +kernel)
      have y5 := Bb.nm (x := "room") (i := 5) (by decide +kernel)
      have cl : Cls Y.K C := by rw [Bb.eK]; exact T.cl
      have a2 : NoAttr Y.K C "bottom" := by rw [Bb.eK]; exact T.na_bottom
      have f2 : List.lookup (Str.ofString "bottom") ([("net", webD W), ("bottom", .int (botF qs))] : List (Str × Dt)) = some (.int (botF qs)) := by simp only [List.lookup, ne_bn, beq_self_eq_true]
      have hq2 := (h.b.each q ha).1
      have k1 : CDivW (botF qs) q.2 := divOk hq2 (sz_bigL hq2 (h.b.each q ha).2)
      have h4 : 0 ≤ botF qs / q.2 := Int.ediv_nonneg (by omega) (by omega)
      have h5 : botF qs / q.2 ≤ botF qs := Int.ediv_le_self _ (by omega)
      have k2 : CMulW q.1 (botF qs / q.2) := mulOk (h.z q ha) ((sz_bigL hB1 hB2).of_le (by omega))
      refine PV.thaw ?_ rfl
      show PV Y _ [.fz (.obj C [("net", webD W), ("bottom", .int (botF qs))]), .fz (webD W), .fz (.lst (qs.map frD)), .fz (.lst (ts.map .int)), .un, .fz (.tup [.int q.1, .int q.2])] _
      walk_at "fc ev"
    · have er : ((qs.filter fun _ => true).map fun q => Dt.int (q.1 * (botF qs / q.2))) = (inB (botF qs) qs).map .int := by
        rw [List.filter_eq_self.mpr fun _ _ => rfl]
        unfold inB
        rw [List.map_map]
        all_goals rfl
      rw [er]
      show SD X _ [.ol p C [("net", webD W), ("bottom", .int (botF qs))] "rooms" ((inB (botF qs) qs).map .int), .fz (webD W), .fz (.lst (qs.map frD)), .fz (.lst (ts.map .int)), .un, .un] _
      refine sd_for b.po b.calm l4 (pid_list (by walk_at "fc ev")) (fun n env => ∃ x, env = [.ol p C [("net", webD W), ("bottom", .int (botF qs))] "rooms" ((zr (inB (botF qs) qs) (ts.take n)).map .int), .fz (webD W), .fz (.lst (qs.map frD)), .fz (.lst (ts.map .int)), x, .un] ∧ (x = .un ∨ ∃ d, x = .fz d)) ⟨_, rfl, .inl rfl⟩ ?_ ?_
      · rintro n d env hd ⟨x, rfl, hx⟩
        rw [List.getElem?_map] at hd
        cases hq : ts[n]? with
        | none => rw [hq] at hd; cases hd
        | some t =>
          rw [hq] at hd
          cases hd
          have hlo := h.t.lo t (List.mem_of_getElem? hq)
          have et : Dt.int t = .int ((t.toNat : Nat) : Int) := by rw [Int.toNat_of_nonneg hlo.1]
          show SD X _ [.ol p C [("net", webD W), ("bottom", .int (botF qs))] "rooms" ((zr (inB (botF qs) qs) (ts.take n)).map .int), .fz (webD W), .fz (.lst (qs.map frD)), .fz (.lst (ts.map .int)), .fz (.int t), .un] _
          rw [et]
          refine sd_cons (s1_setO (m := t.toNat) n0 rfl rfl cl a3 (by simp only [List.lookup, ne_rn, ne_rb]) (by walk_at "fc ev") (by walk_at "fc ev") (by rw [List.length_map, zr_len]; unfold inB; rw [List.length_map]; omega) (sd_nil ⟨.fz (.int t), ?_, .inr ⟨_, rfl⟩⟩))
          have e2 : zr (inB (botF qs) qs) (ts.take (n + 1)) = (zr (inB (botF qs) qs) (ts.take n)).set t.toNat 0 := by
            unfold zr
            rw [List.take_succ, hq, List.foldl_append]
            rfl
          have e3 : ((zr (inB (botF qs) qs) (ts.take n)).map Dt.int).set t.toNat (.int 0) = ((zr (inB (botF qs) qs) (ts.take n)).set t.toNat 0).map Dt.int := (List.map_set ..).symm
          rw [e2, ← e3, et]
          rfl
      · rintro env ⟨x, rfl, hx⟩
        rw [List.length_map, List.take_length]
        have ho : onlyOb [.ol p C [("net", webD W), ("bottom", .int (botF qs))] "rooms" ((zr (inB (botF qs) qs) ts).map .int), .fz (webD W), .fz (.lst (qs.map frD)), .fz (.lst (ts.map .int)), x, .un] 0 = true := by
          rcases hx with rfl | ⟨_, rfl⟩ <;> rfl
        have ho2 : onlyOb [.ob p C (pipe3 W (botF qs) (rmR qs ts)), .fz (webD W), .fz (.lst (qs.map frD)), .fz (.lst (ts.map .int)), x, .un] 0 = true := by
          rcases hx with rfl | ⟨_, rfl⟩ <;> rfl
        refine sd_freezeL rfl ho ?_
        show SD X _ [.ob p C (pipe3 W (botF qs) (rmR qs ts)), .fz (webD W), .fz (.lst (qs.map frD)), .fz (.lst (ts.map .int)), x, .un] _
        refine sd_cons (s1_fldN n0 rfl ho2 cl a4 pipe3_nA (by show 3 < 15; decide) (pn_rep (ds := [.int 0]) (k := ((qs.map frD).length : Nat)) (by walk_at "fc evs") (by walk_at "fc ev") (by show 1 ≤ 100; decide) (by omega) (by rw [List.length_map]; omega) (by rw [Int.toNat_natCast, List.length_map, sizeLine_eq]; show 1 * qs.length ≤ _; omega)) (sd_nil ⟨_, rfl, rfl, ?_⟩))
        have e4 : (List.replicate ((qs.map frD).length : Int).toNat [Dt.int 0]).flatten = (List.replicate W.ties.length (0 : Int)).map .int := by
          rw [Int.toNat_natCast, List.length_map, hql, List.map_replicate]
          generalize W.ties.length = n
          induction n with
          | zero => rfl
          | succ n ih => rw [List.replicate_succ, List.flatten_cons, ih]; rfl
        rw [e4]
inductive R_most_in : List Dt → (Dt → Prop) → Prop
  | mk (W : Web) (qs : List (Int × Int)) (ts : List Int) (h : RmOk W qs ts) : R_most_in [webD W, .lst (qs.map frD), .lst (ts.map .int)] (fun d => ∃ a fs, d = .tup [.lst (a.map (fq (botF qs))), .lst ((sideOf W fs).map .str)] ∧ Full W (rmR qs ts) a fs)
theorem ok_most_in (T : Tx K mg C) : Cal P w K mg base "most_in" 5 R_most_in := by
  refine def_cal 4 T.d_most_in sc_most_in hb_most_in (fun ds S h => by cases h; rfl) (fun X b ds S h => ?_)
  cases h with
  | mk W qs ts h =>
    have n0 := b.nm (x := "web") (i := 0) (by decide +kernel)
    have n1 := b.nm (x := "rooms") (i := 1) (by decide +kernel)
    have n2 := b.nm (x := "taken") (i := 2) (by decide +kernel)
    have n3 := b.nm (x := "pipes") (i := 3) (by decide +kernel)
    have n4 := b.nm (x := "side") (i := 4) (by decide +kernel)
    have l3 := b.lo (x := "pipes") (i := 3) (by decide +kernel)
    have l4 := b.lo (x := "side") (i := 4) (by decide +kernel)
    have c1 := (ok_init (P := P) (w := w) (base := base) T).at (x := "Pipes") T.mgC b.toBs (by decide) (by decide +kernel)
    have m1 := (ok_fill (P := P) (w := w) (base := base) T).at T.cl b.toBs (by decide)
    have m2 := (ok_flow (P := P) (w := w) (base := base) T).at T.cl b.toBs (by decide)
    obtain ⟨hB1, hB2, hB3⟩ := h.bot
    show SD X _ [.fz (webD W), .fz (.lst (qs.map frD)), .fz (.lst (ts.map .int)), .un, .un] _
    refine sd_cons (s1_make c1 l3 (by walk_at "fc evs") fun p => ⟨_, .mk W qs ts h p, ?_⟩)
    rintro z' d ⟨rfl, rfl⟩
    refine ⟨rfl, rfl, rfl, ?_⟩
    show SD X _ [.fz (webD W), .fz (.lst (qs.map frD)), .fz (.lst (ts.map .int)), pipeO p C W (botF qs) (rmR qs ts) (List.replicate W.ties.length 0), .un] _
    refine sd_cons (s1_asgO0 m1 n3 l4 rfl rfl (pipe3_no (by decide +kernel)) (by decide +kernel) (.mk W (botF qs) (rmR qs ts) _ h.w (FlOk.start h.len h.pos) p) ?_)
    rintro z' d ⟨a, fs, rfl, rfl, hF⟩
    refine ⟨rfl, rfl, ?_⟩
    show SD X _ [.fz (webD W), .fz (.lst (qs.map frD)), .fz (.lst (ts.map .int)), pipeO p C W (botF qs) (rmR qs ts) a, .fz (.lst ((sideOf W fs).map .str))] _
    refine sd_freezeL (i := 3) rfl rfl ?_
    show SD X _ [.fz (webD W), .fz (.lst (qs.map frD)), .fz (.lst (ts.map .int)), .ob p C (pipeF W (botF qs) (rmR qs ts) a), .fz (.lst ((sideOf W fs).map .str))] _
    refine sd_freezeO (i := 3) rfl rfl ?_
    have q1 : (pipeF W (botF qs) (rmR qs ts) a).lookup (Str.ofString "flow") = none := pipe_no (by decide +kernel)
    have hal := hF.fl.la
    have ht14 := h.w.t14
    have hR : R_flow C [pipeD C W (botF qs) (rmR qs ts) a] (fun d => d = .lst (a.map (fq (botF qs)))) := .mk W _ _ a hB1 ((sz_bigL hB1 hB2).mono (by decide)) (fun x hx => (h.szA hF.fl x hx).mono (by decide)) (by omega)
    show SD X _ [.fz (webD W), .fz (.lst (qs.map frD)), .fz (.lst (ts.map .int)), .fz (pipeD C W (botF qs) (rmR qs ts) a), .fz (.lst ((sideOf W fs).map .str))] _
    exact sd_ret (d := .tup [.lst (a.map (fq (botF qs))), .lst ((sideOf W fs).map .str)]) (pv_tup (pvs_cons (pq_meth0 m2 (by walk_at "fc ev") q1 hR) (by walk_at "fc evs")) (by show 2 ≤ 100; decide)) ⟨a, fs, rfl, hF⟩
inductive R_most_flow : List Dt → (Dt → Prop) → Prop
  | mk (W : Web) (qs : List (Int × Int)) (ts : List Int) (h : RmOk W qs ts) : R_most_flow [webD W, .lst (qs.map frD), .lst (ts.map .int)] (fun d => ∃ a fs, d = .tup [.lst (a.map (fq (botF qs))), .lst ((sideOf W fs).map .str)] ∧ Full W (rmR qs ts) a fs)
theorem ok_most_flow (T : Tx K mg C) : Cal P w K mg base "most_flow" 8 R_most_flow := by
  refine def_cal 7 T.d_most_flow sc_most_flow hb_most_flow (fun ds S h => by cases h; rfl) (fun X b ds S h => ?_)
  cases h with
  | mk W qs ts h =>
    have n0 := b.nm (x := "web") (i := 0) (by decide +kernel)
    have n1 := b.nm (x := "rooms") (i := 1) (by decide +kernel)
    have n2 := b.nm (x := "taking") (i := 2) (by decide +kernel)
    have c1 := (ok_look_at_web T).at b.toBs (by decide) (by decide +kernel)
    have c2 := (ok_look_at_rooms T).at b.toBs (by decide) (by decide +kernel)
    have c3 := (ok_look_at_taking T).at b.toBs (by decide) (by decide +kernel)
    have c4 := (ok_most_in T).at b.toBs (by decide) (by decide +kernel)
    have r1 := R_look_at_web.mk W h.w
    have r2 := R_look_at_rooms.mk W h.w qs h.r
    have r3 := R_look_at_taking.mk W h.w ts h.t h.t14
    show SD X _ [.fz (webD W), .fz (.lst (qs.map frD)), .fz (.lst (ts.map .int))] _
    refine sd_expr (by walk_at "fc ev") (sd_expr (by walk_at "fc ev") (sd_expr (by walk_at "fc ev") ?_))
    exact sd_retQ (pq_call c4 (by walk_at "fc evs") (.mk W qs ts h)) fun d hd => hd
end
end Fc

/-! Fc: the least room of all sides, plainly. -/
namespace Fc
open PySem PySem.Spec
def rT (ties : List Tie) (rs : List Int) (ts : List Int) (S : Str → Bool) (k : Nat) : Int := if outB ties ts S k then rs.getD k 0 else 0
theorem roomI_eq (ties : List Tie) (rs ts : List Int) (S : Str → Bool) : roomI ties rs ts S = sumTo (rT ties rs ts S) rs.length := by
  unfold roomI
  generalize rs.length = n
  induction n with
  | zero => rfl
  | succ n ih =>
    rw [List.range_succ, List.filter_append, List.map_append, List.sum_append, ih]
    show _ = sumTo (rT ties rs ts S) n + rT ties rs ts S n
    congr 1
    unfold rT
    by_cases h : outB ties ts S n = true
    · rw [List.filter_cons, if_pos h, if_pos h]
      simp
    · rw [List.filter_cons, if_neg h, if_neg h]
      rfl
theorem roomI_congr {W : Web} (hw : WebOk W) (rs ts : List Int) {S S' : Str → Bool} (h : ∀ p ∈ W.places, S p = S' p) : roomI W.ties rs ts S = roomI W.ties rs ts S' := by
  rw [roomI_eq, roomI_eq]
  refine sumTo_congr fun k _ => ?_
  unfold rT outB ldB
  cases ht : W.ties[k]? with
  | none => rfl
  | some t =>
    have := hw.ts t (List.mem_of_getElem? ht)
    have e : leadsB t S = leadsB t S' := by
      unfold leadsB
      rw [h _ this.m1, h _ this.m2]
    simp only [e]
theorem roomI_mul (ties : List Tie) (rs ss ts : List Int) (S : Str → Bool) (c : Int) (hl : ss.length = rs.length) (h : ∀ k, k < rs.length → ss.getD k 0 = rs.getD k 0 * c) : roomI ties ss ts S = roomI ties rs ts S * c := by
  rw [roomI_eq, roomI_eq, hl, ← sumTo_mul]
  refine sumTo_congr fun k hk => ?_
  unfold rT
  split
  · exact h k hk
  · simp
theorem roomI_le (ties : List Tie) (rs ts ts' : List Int) (S : Str → Bool) (h0 : ∀ x ∈ rs, 0 ≤ x) (h : ∀ t ∈ ts, t ∈ ts') : roomI ties rs ts' S ≤ roomI ties rs ts S := by
  rw [roomI_eq, roomI_eq]
  refine sumTo_le fun k hk => ?_
  have hp : 0 ≤ rs.getD k 0 := by
    rw [List.getD_eq_getElem?_getD, List.getElem?_eq_getElem hk]
    exact h0 _ (List.getElem_mem _)
  unfold rT outB
  by_cases m : (k : Int) ∈ ts
  · rw [decide_eq_true m, decide_eq_true (h _ m)]
    simp
  · rw [decide_eq_false m]
    by_cases m' : (k : Int) ∈ ts'
    · rw [decide_eq_true m']
      simp only [Bool.not_true, Bool.false_and, Bool.false_eq_true, if_false]
      split <;> omega
    · rw [decide_eq_false m']
      exact Int.le_refl _
theorem roomI_zr {W : Web} {qs : List (Int × Int)} {ts : List Int} (h : RmOk W qs ts) (S : Str → Bool) : sumTo (oT W.ties (rmR qs ts) S) W.ties.length = roomI W.ties (inB (botF qs) qs) ts S := by
  have hl : (inB (botF qs) qs).length = W.ties.length := by unfold inB; rw [List.length_map, h.r.len]
  rw [roomI_eq, hl]
  refine sumTo_congr fun k _ => ?_
  unfold oT rT rmR outB
  rw [zr_at ts _ k fun t ht => (h.t.lo t ht).1]
  by_cases m : (k : Int) ∈ ts
  · rw [decide_eq_true m, if_pos m]
    simp
  · rw [decide_eq_false m, if_neg m]
    simp
/-! ### sides -/
def midB (W : Web) (p : Str) : Bool := !decide (p ∈ [W.first, W.last])
def sideStep (W : Web) (ss : List (List Str)) (p : Str) : List (List Str) := if midB W p then ss ++ ss.map (fun s => s ++ [p]) else ss
def sidesI (W : Web) : List (List Str) := W.places.foldl (sideStep W) [[W.first]]
theorem side_mem (W : Web) (S : Str → Bool) : ∀ (ps : List Str) (acc : List (List Str)) (s : List Str), s ∈ acc → s ++ ps.filter (fun p => midB W p && S p) ∈ ps.foldl (sideStep W) acc
  | [], acc, s, h => by simpa using h
  | p :: ps, acc, s, h => by
    rw [List.foldl_cons, List.filter_cons]
    unfold sideStep
    cases hm : midB W p with
    | false =>
      rw [if_neg (by simp), if_neg (by simp)]
      exact side_mem W S ps acc s h
    | true =>
      rw [if_pos rfl]
      cases hS : S p with
      | false =>
        rw [if_neg (by simp)]
        exact side_mem W S ps _ s (List.mem_append_left _ h)
      | true =>
        rw [if_pos (by simp)]
        have := side_mem W S ps (acc ++ acc.map fun s => s ++ [p]) (s ++ [p]) (List.mem_append_right _ (List.mem_map.mpr ⟨s, h, rfl⟩))
        rw [List.append_assoc] at this
        exact this
theorem side_in (W : Web) (hfl : W.first ≠ W.last) : ∀ (ps : List Str) (acc : List (List Str)), (∀ s ∈ acc, W.first ∈ s ∧ W.last ∉ s) → ∀ s ∈ ps.foldl (sideStep W) acc, W.first ∈ s ∧ W.last ∉ s
  | [], acc, h => h
  | p :: ps, acc, h => by
    rw [List.foldl_cons]
    refine side_in W hfl ps _ fun s hs => ?_
    unfold sideStep at hs
    split at hs
    · rename_i hm
      rcases List.mem_append.mp hs with z | z
      · exact h s z
      · obtain ⟨s', hs', rfl⟩ := List.mem_map.mp z
        obtain ⟨h1, h2⟩ := h s' hs'
        refine ⟨List.mem_append_left _ h1, fun q => ?_⟩
        rcases List.mem_append.mp q with q | q
        · exact h2 q
        · have : W.last = p := by simpa using q
          unfold midB at hm
          rw [← this] at hm
          simp at hm
    · exact h s hs
def leastI (W : Web) (ns ts : List Int) : Int := minL ((sidesI W).map fun s => roomI W.ties ns ts (inS s))
theorem sidesI_ne (W : Web) : sidesI W ≠ [] := by
  have := side_mem W (fun _ => false) W.places [[W.first]] [W.first] List.mem_cons_self
  intro e
  unfold sidesI at e
  rw [e] at this
  cases this
theorem dvd_div {L B b : Int} (hb : 0 < b) (hB : 0 < B) (h1 : b ∣ B) (h2 : B ∣ L) : L / b = B / b * (L / B) := by
  obtain ⟨u, rfl⟩ := h1
  obtain ⟨v, rfl⟩ := h2
  have e1 : b * u / b = u := Int.mul_ediv_cancel_left _ (by omega)
  have e2 : b * u * v / (b * u) = v := Int.mul_ediv_cancel_left _ (by omega)
  have e3 : b * u * v / b = u * v := by rw [Int.mul_assoc]; exact Int.mul_ediv_cancel_left _ (by omega)
  rw [e1, e2, e3]
theorem inB_scale {qs : List (Int × Int)} {B L : Int} (hB : 0 < B) (h : ∀ q ∈ qs, 0 < q.2 ∧ q.2 ∣ B) (h2 : B ∣ L) (k : Nat) (hk : k < (inB B qs).length) : (inB L qs).getD k 0 = (inB B qs).getD k 0 * (L / B) := by
  have hk' : k < qs.length := by unfold inB at hk; rwa [List.length_map] at hk
  have hq : qs[k]? = some qs[k] := List.getElem?_eq_getElem hk'
  generalize qs[k] = q at hq
  obtain ⟨h3, h4⟩ := h q (List.mem_of_getElem? hq)
  have e : ∀ M : Int, (inB M qs).getD k 0 = q.1 * (M / q.2) := fun M => by
    unfold inB
    rw [List.getD_eq_getElem?_getD, List.getElem?_map, hq]
    all_goals rfl
  rw [e, e, dvd_div h3 hB h4 h2, Int.mul_assoc]
theorem sideOf_ok {W : Web} {r a : List Int} {fs : Fnd} (hw : WebOk W) (h : Full W r a fs) : SideOk W (sideOf W fs) := by
  have hfm : W.first ∈ fs.map (·.1) := List.mem_map.mpr ⟨_, List.mem_of_getElem? h.fd.hd, rfl⟩
  refine ⟨List.mem_filter.mpr ⟨hw.fm, decide_eq_true hfm⟩, fun z => ?_, ?_⟩
  · exact h.nl (of_decide_eq_true (List.mem_filter.mp z).2)
  · unfold sideOf
    refine List.filter_congr fun p hp => ?_
    unfold inS
    rw [Bool.eq_iff_iff, decide_eq_true_eq, decide_eq_true_eq, List.mem_filter, decide_eq_true_eq]
    exact ⟨fun z => z.2, fun z => ⟨hp, z⟩⟩
theorem inS_side {W : Web} {fs : Fnd} : ∀ p ∈ W.places, inS (sideOf W fs) p = inS (fs.map (·.1)) p := fun p hp => by
  unfold inS sideOf
  rw [Bool.eq_iff_iff, decide_eq_true_eq, decide_eq_true_eq, List.mem_filter]
  unfold inS
  rw [decide_eq_true_eq]
  exact ⟨fun z => z.2, fun z => ⟨hp, z⟩⟩
theorem bigL_pos : 0 < bigL := by decide
section
variable {W : Web} {qs : List (Int × Int)} {ts a : List Int} {fs : Fnd}
theorem full_room (h : RmOk W qs ts) (f : Full W (rmR qs ts) a fs) : roomI W.ties (inB (botF qs) qs) ts (inS (sideOf W fs)) = goI (W.ties.zip a) W.first := by
  rw [roomI_congr h.w _ _ (S' := inS (fs.map (·.1))) inS_side, ← roomI_zr h, ← strong h.w f.fl f.fd f.nl]
theorem full_least (h : RmOk W qs ts) (f : Full W (rmR qs ts) a fs) : goI (W.ties.zip a) W.first * (bigL / botF qs) = leastI W (inB bigL qs) ts := by
  obtain ⟨hB1, hB2, hB3⟩ := h.bot
  have hc : 0 ≤ bigL / botF qs := Int.ediv_nonneg (by decide) (by omega)
  have hsc : ∀ S, roomI W.ties (inB bigL qs) ts S = roomI W.ties (inB (botF qs) qs) ts S * (bigL / botF qs) := fun S => by
    refine roomI_mul _ _ _ _ _ _ (by unfold inB; rw [List.length_map, List.length_map]) (inB_scale hB1 (fun q hq => ⟨(h.b.each q hq).1, hB3 q hq⟩) hB2)
  unfold leastI
  refine minL_eq ?_ fun y hy => ?_
  · have hfm : W.first ∈ fs.map (·.1) := List.mem_map.mpr ⟨_, List.mem_of_getElem? f.fd.hd, rfl⟩
    have hm := side_mem W (inS (fs.map (·.1))) W.places [[W.first]] [W.first] List.mem_cons_self
    refine List.mem_map.mpr ⟨_, hm, ?_⟩
    rw [hsc, ← full_room h f]
    congr 1
    refine roomI_congr h.w _ _ fun p hp => ?_
    rw [inS_side p hp]
    unfold inS
    rw [Bool.eq_iff_iff, decide_eq_true_eq, decide_eq_true_eq, List.mem_append, List.mem_filter]
    constructor
    · rintro (z | z)
      · have : p = W.first := by simpa using z
        rw [this]
        exact hfm
      · have := z.2
        rw [Bool.and_eq_true, decide_eq_true_eq] at this
        exact this.2
    · intro z
      by_cases e : p = W.first
      · exact .inl (by simp [e])
      · refine .inr ⟨hp, ?_⟩
        rw [Bool.and_eq_true, decide_eq_true_eq]
        refine ⟨?_, z⟩
        unfold midB
        have : p ≠ W.last := fun q => f.nl (q ▸ z)
        simp [e, this]
  · obtain ⟨s, hs, rfl⟩ := List.mem_map.mp hy
    obtain ⟨h1, h2⟩ := side_in W h.w.fl W.places [[W.first]] (fun s hs => by
      have : s = [W.first] := by simpa using hs
      subst this
      exact ⟨List.mem_cons_self, fun z => h.w.fl (by simpa using z : W.last = W.first).symm⟩) s hs
    rw [hsc, ← roomI_zr h]
    exact Int.mul_le_mul_of_nonneg_right (weak h.w f.fl (decide_eq_true h1) (decide_eq_false h2)) hc
/-- the amount, in the law's own parts -/
theorem full_amount (h : RmOk W qs ts) (f : Full W (rmR qs ts) a fs) : low (goI (W.ties.zip a) W.first) (botF qs) = low (leastI W (inB bigL qs) ts) bigL := by
  obtain ⟨hB1, hB2, _⟩ := h.bot
  refine low_val hB1 bigL_pos ?_
  rw [← full_least h f, Int.mul_assoc, Int.ediv_mul_cancel hB2]
end
/-- fewer taken: no less -/
theorem least_mono (W : Web) {ns ts ts' : List Int} (h0 : ∀ x ∈ ns, 0 ≤ x) (h : ∀ t ∈ ts, t ∈ ts') : leastI W ns ts' ≤ leastI W ns ts := by
  have n1 : (sidesI W).map (fun s => roomI W.ties ns ts (inS s)) ≠ [] := fun e => sidesI_ne W (List.map_eq_nil_iff.mp e)
  have n2 : (sidesI W).map (fun s => roomI W.ties ns ts' (inS s)) ≠ [] := fun e => sidesI_ne W (List.map_eq_nil_iff.mp e)
  obtain ⟨s, hs, e⟩ := List.mem_map.mp (minL_mem n1).1
  have := (minL_mem n2).2 _ (List.mem_map.mpr ⟨s, hs, rfl⟩)
  have h2 := roomI_le W.ties ns ts ts' (inS s) h0 h
  unfold leastI
  omega
/-- all rooms doubled -/
theorem least_twice (W : Web) (ns ms ts : List Int) (hl : ms.length = ns.length) (h : ∀ k, k < ns.length → ms.getD k 0 = ns.getD k 0 * 2) : leastI W ms ts = leastI W ns ts * 2 := by
  have n1 : (sidesI W).map (fun s => roomI W.ties ns ts (inS s)) ≠ [] := fun e => sidesI_ne W (List.map_eq_nil_iff.mp e)
  have e : ∀ s, roomI W.ties ms ts (inS s) = roomI W.ties ns ts (inS s) * 2 := fun s => roomI_mul _ _ _ _ _ _ hl h
  obtain ⟨k1, k2⟩ := minL_mem n1
  symm
  unfold leastI
  refine minL_eq ?_ fun y hy => ?_
  · obtain ⟨s, hs, e1⟩ := List.mem_map.mp k1
    exact List.mem_map.mpr ⟨s, hs, by rw [e, e1]⟩
  · obtain ⟨s, hs, e1⟩ := List.mem_map.mp hy
    have := k2 _ (List.mem_map.mpr ⟨s, hs, rfl⟩)
    rw [← e1, e]
    omega
def twF (q : Int × Int) : Int × Int := low (2 * q.1) q.2
theorem twF_in {q : Int × Int} (h0 : 0 < q.2) (hd : q.2 ∣ bigL) : (twF q).1 * (bigL / (twF q).2) = q.1 * (bigL / q.2) * 2 := by
  have h1 := low_mul (t := 2 * q.1) h0
  have h2 := low_snd_pos (t := 2 * q.1) h0
  have h3 : (twF q).2 ∣ bigL := Int.dvd_trans ⟨gcdI (2 * q.1) q.2, (Int.ediv_mul_cancel (gcdI_dvd_right (2 * q.1) q.2)).symm⟩ hd
  obtain ⟨u, hu⟩ := hd
  obtain ⟨v, hv⟩ := h3
  have e1 : bigL / q.2 = u := by rw [hu]; exact Int.mul_ediv_cancel_left _ (by omega)
  have e2 : bigL / (twF q).2 = v := by
    have : 0 < (twF q).2 := h2
    rw [hv]; exact Int.mul_ediv_cancel_left _ (by omega)
  rw [e1, e2]
  have h1 : (twF q).1 * q.2 = 2 * q.1 * (twF q).2 := h1
  have h2 : 0 < (twF q).2 := h2
  refine Int.eq_of_mul_eq_mul_right (a := q.2 * (twF q).2) (by have := Int.mul_pos h0 h2; omega) ?_
  have a1 : (twF q).1 * v * (q.2 * (twF q).2) = ((twF q).1 * q.2) * ((twF q).2 * v) := by
    simp only [Int.mul_assoc, Int.mul_comm, Int.mul_left_comm]
  have a2 : q.1 * u * 2 * (q.2 * (twF q).2) = (2 * q.1 * (twF q).2) * (q.2 * u) := by
    simp only [Int.mul_assoc, Int.mul_comm, Int.mul_left_comm]
  rw [a1, a2, h1, ← hu, ← hv]
end Fc

namespace Fc
open PySem PySem.Spec PyProof.Rows L2
/-! ### the law's own defs, first part -/
def cM : Int := 2147483647
def drS (c : Int) (tops : List Int) : Nat → List Int × Int × Int
  | 0 => ([], if c < 0 then -c else c, c % 2147483647 * 48271 % 2147483647)
  | n + 1 => if (10 : Int) ^ (18 : Int).toNat ≤ (if c < 0 then -c else c) then ((drS c tops n).1 ++ [(drS c tops n).2.1 % tops.getD n 1], (drS c tops n).2.1 / tops.getD n 1, (drS c tops n).2.2)
    else ((drS c tops n).1 ++ [((drS c tops n).2.2 * (drS c tops n).2.2 + 69621 * (drS c tops n).2.2 + 7919 * (n : Int) + 1000003) % 2147483647 * 39373 % 2147483629 % tops.getD n 1], (drS c tops n).2.1, ((drS c tops n).2.2 * (drS c tops n).2.2 + 69621 * (drS c tops n).2.2 + 7919 * (n : Int) + 1000003) % 2147483647)
def drawsF (c : Int) (tops : List Int) : List Int := (drS c tops tops.length).1
theorem drS_mix (c : Int) (tops : List Int) : ∀ n, 0 ≤ (drS c tops n).2.2 ∧ (drS c tops n).2.2 < 2147483647
  | 0 => ⟨Int.emod_nonneg _ (by decide), Int.emod_lt_of_pos _ (by decide)⟩
  | n + 1 => by
    unfold drS
    by_cases hb : (10 : Int) ^ (18 : Int).toNat ≤ (if c < 0 then -c else c)
    · rw [if_pos hb]
      exact drS_mix c tops n
    · rw [if_neg hb]
      exact ⟨Int.emod_nonneg _ (by decide), Int.emod_lt_of_pos _ (by decide)⟩
theorem drS_len (c : Int) (tops : List Int) : ∀ n, (drS c tops n).1.length = n
  | 0 => rfl
  | n + 1 => by
    unfold drS
    by_cases hb : (10 : Int) ^ (18 : Int).toNat ≤ (if c < 0 then -c else c)
    · rw [if_pos hb, List.length_append, drS_len c tops n]
      rfl
    · rw [if_neg hb, List.length_append, drS_len c tops n]
      rfl
theorem drS_in (c : Int) (tops : List Int) (h : ∀ t ∈ tops, 0 < t) : ∀ n, n ≤ tops.length → ∀ k, k < n → 0 ≤ (drS c tops n).1.getD k 0 ∧ (drS c tops n).1.getD k 0 < tops.getD k 1
  | 0, _, k, hk => by omega
  | n + 1, hn, k, hk => by
    have hp : 0 < tops.getD n 1 := by
      rw [List.getD_eq_getElem?_getD, List.getElem?_eq_getElem (by omega)]
      exact h _ (List.getElem_mem _)
    have key : ∀ x : Int, 0 ≤ ((drS c tops n).1 ++ [x % tops.getD n 1]).getD k 0 ∧ ((drS c tops n).1 ++ [x % tops.getD n 1]).getD k 0 < tops.getD k 1 := fun x => by
      by_cases e : k = n
      · subst e
        have : ((drS c tops k).1 ++ [x % tops.getD k 1]).getD k 0 = x % tops.getD k 1 := by
          rw [List.getD_eq_getElem?_getD, List.getElem?_append_right (by rw [drS_len]; exact Nat.le_refl _), drS_len, Nat.sub_self]
          rfl
        rw [this]
        exact ⟨Int.emod_nonneg _ (by omega), Int.emod_lt_of_pos _ hp⟩
      · have : ((drS c tops n).1 ++ [x % tops.getD n 1]).getD k 0 = (drS c tops n).1.getD k 0 := by
          rw [List.getD_eq_getElem?_getD, List.getElem?_append_left (by rw [drS_len]; omega), List.getD_eq_getElem?_getD]
        rw [this]
        exact drS_in c tops h n (by omega) k (by omega)
    unfold drS
    by_cases hb : (10 : Int) ^ (18 : Int).toNat ≤ (if c < 0 then -c else c)
    · rw [if_pos hb]
      exact key _
    · rw [if_neg hb]
      exact key _
theorem draws_len (c : Int) (tops : List Int) : (drawsF c tops).length = tops.length := drS_len c tops _
theorem draws_in (c : Int) (tops : List Int) (h : ∀ t ∈ tops, 0 < t) (k : Nat) (hk : k < tops.length) : 0 ≤ (drawsF c tops).getD k 0 ∧ (drawsF c tops).getD k 0 < tops.getD k 1 := drS_in c tops h _ (Nat.le_refl _) k hk
theorem sz_of {n : Nat} {i : Int} {m : Nat} (h0 : -(m : Int) < i) (h : i < m) (hm : m ≤ 2 ^ n) : Sz n i := by
  unfold Sz
  omega
section
variable {P : Program} {w : World} {K : PySem.W.Frag} {mg : Str → Option Value} {base : Heap} {C : Addr}
inductive R_law_draws : List Dt → (Dt → Prop) → Prop
  | mk (c : Int) (tops : List Int) (h : ∀ t ∈ tops, 0 < t ∧ Sz 64 t) (hl : tops.length ≤ 100) : R_law_draws [.int c, .lst (tops.map .int)] (fun d => d = .lst ((drawsF c tops).map .int))
theorem ok_law_draws (T : Tx K mg C) : Cal P w K mg base "_law_draws" 1 R_law_draws := by
  refine def_cal 0 T.d_law_draws sc_law_draws hb_law_draws (fun ds S h => by cases h; rfl) (fun X b ds S h => ?_)
  cases h with
  | mk c tops h hl =>
    have n0 := b.nm (x := "_law_cell") (i := 0) (by decide +kernel)
    have n1 := b.nm (x := "_law_tops") (i := 1) (by decide +kernel)
    have n2 := b.nm (x := "_law_found") (i := 2) (by decide +kernel)
    have n3 := b.nm (x := "_law_left") (i := 3) (by decide +kernel)
    have n4 := b.nm (x := "_law_mixed") (i := 4) (by decide +kernel)
    have n5 := b.nm (x := "_law_k") (i := 5) (by decide +kernel)
    have l2 := b.lo (x := "_law_found") (i := 2) (by decide +kernel)
    have l3 := b.lo (x := "_law_left") (i := 3) (by decide +kernel)
    have l4 := b.lo (x := "_law_mixed") (i := 4) (by decide +kernel)
    have l5 := b.lo (x := "_law_k") (i := 5) (by decide +kernel)
    have g1 := b.b_abs T (by decide +kernel)
    have g2 := b.b_len T (by decide +kernel)
    have g3 := b.b_range T (by decide +kernel)
    have hpw : CPow 10 18 := ⟨by decide, by decide, by decide⟩
    have s0 : Sz 31 (c % 2147483647) := by
      have h1 := Int.emod_nonneg c (b := 2147483647) (by decide)
      have h2 := Int.emod_lt_of_pos c (b := 2147483647) (by decide)
      exact sz_of (m := 2147483647) (by omega) (by omega) (by decide)
    have k0 : CMulW (c % 2147483647) 48271 := mulOk s0 (b := 16) (by unfold Sz; decide)
    refine sd_cons (s1_newL l2 ?_)
    refine sd_asg (by walk_at "fc ev") l3 (sd_asg (by walk_at "fc ev") l4 ?_)
    refine sd_for b.po b.calm l5 (pid_range (k := ((tops.map Dt.int).length : Nat)) g3 (by walk_at "fc ev") (by omega) (by rw [List.length_map]; omega)) (fun n env => ∃ x, env = [.fz (.int c), .fz (.lst (tops.map .int)), .ow ((drS c tops n).1.map .int), .fz (.int (drS c tops n).2.1), .fz (.int (drS c tops n).2.2), x]) ⟨_, rfl⟩ ?_ ?_
    · rintro n d env hd ⟨x, rfl⟩
      obtain ⟨hn, rfl⟩ := range_at hd
      have hn : n < tops.length := by simpa using hn
      obtain ⟨t, ht⟩ : ∃ t, tops[n]? = some t := ⟨_, List.getElem?_eq_getElem hn⟩
      have htg : tops.getD n 1 = t := by rw [List.getD_eq_getElem?_getD, ht]; rfl
      have i1 : atI (tops.map Dt.int) (n : Int) = some (.int t) := at_map ht
      obtain ⟨hp, hz⟩ := h t (List.mem_of_getElem? ht)
      have hdl := drS_len c tops n
      obtain ⟨hm1, hm2⟩ := drS_mix c tops n
      generalize hm : (drS c tops n).2.2 = m at hm1 hm2
      have sm : Sz 31 m := sz_of (m := 2147483647) (by omega) (by omega) (by decide)
      have k1 : CMulW m m := mulOk sm sm
      have k2 : CMulW 69621 m := mulOk (a := 17) (by unfold Sz; decide) sm
      have k3 : CMulW 7919 (n : Int) := mulOk (a := 13) (b := 7) (by unfold Sz; decide) (sz_of (m := 101) (by omega) (by omega) (by decide))
      have sm2 : Sz 31 ((m * m + 69621 * m + 7919 * (n : Int) + 1000003) % 2147483647) := by
        have h1 := Int.emod_nonneg (m * m + 69621 * m + 7919 * (n : Int) + 1000003) (b := 2147483647) (by decide)
        have h2 := Int.emod_lt_of_pos (m * m + 69621 * m + 7919 * (n : Int) + 1000003) (b := 2147483647) (by decide)
        exact sz_of (m := 2147483647) (by omega) (by omega) (by decide)
      have k4 : CMulW ((m * m + 69621 * m + 7919 * (n : Int) + 1000003) % 2147483647) 39373 := mulOk sm2 (b := 16) (by unfold Sz; decide)
      have k5 : CDivW (drS c tops n).2.1 t := divOk hp hz
      generalize hf : (drS c tops n).1 = fo at hdl
      generalize hl2 : (drS c tops n).2.1 = le at k5
      show SD X _ [.fz (.int c), .fz (.lst (tops.map .int)), .ow (fo.map .int), .fz (.int le), .fz (.int m), .fz (.int (n : Nat))] _
      refine sd_if (by walk_at "fc t") (fun hc => ?_) (fun hc => ?_)
      · rw [decide_eq_true_eq] at hc
        have e : drS c tops (n + 1) = (fo ++ [le % t], le / t, m) := by
          rw [drS, if_pos hc, hf, hl2, hm, htg]
        refine sd_cons (s1_app (S := fun d => d = .int (le % t)) n2 rfl (by walk_at "fc ev") (by rw [List.length_map, sizeLine_eq]; omega) rfl fun d hd => ?_)
        subst hd
        show SD X _ [.fz (.int c), .fz (.lst (tops.map .int)), .ow (fo.map .int ++ [.int (le % t)]), .fz (.int le), .fz (.int m), .fz (.int (n : Nat))] _
        refine sd_asg (by walk_at "fc ev") l3 (sd_nil (sd_nil ⟨.fz (.int (n : Nat)), ?_⟩))
        rw [e]
        show [_, _, _, _, _, _] = _
        rw [List.map_append]
        rfl
      · rw [decide_eq_false_iff_not] at hc
        have e : drS c tops (n + 1) = (fo ++ [(m * m + 69621 * m + 7919 * (n : Int) + 1000003) % 2147483647 * 39373 % 2147483629 % t], le, (m * m + 69621 * m + 7919 * (n : Int) + 1000003) % 2147483647) := by
          rw [drS, if_neg hc, hf, hl2, hm, htg]
        refine sd_asg (by walk_at "fc ev") l4 ?_
        show SD X _ [.fz (.int c), .fz (.lst (tops.map .int)), .ow (fo.map .int), .fz (.int le), .fz (.int ((m * m + 69621 * m + 7919 * (n : Int) + 1000003) % 2147483647)), .fz (.int (n : Nat))] _
        refine sd_cons (s1_app (S := fun d => d = .int ((m * m + 69621 * m + 7919 * (n : Int) + 1000003) % 2147483647 * 39373 % 2147483629 % t)) n2 rfl (by walk_at "fc ev") (by rw [List.length_map, sizeLine_eq]; omega) rfl fun d hd => ?_)
        subst hd
        refine sd_nil (sd_nil ⟨.fz (.int (n : Nat)), ?_⟩)
        rw [e]
        show [_, _, _, _, _, _] = _
        rw [List.map_append]
        rfl
    · rintro env ⟨x, rfl⟩
      rw [range_len, Int.toNat_natCast, List.length_map]
      exact sd_cons (s1_retL n2 rfl rfl)
inductive R_law_low : List Dt → (Dt → Prop) → Prop
  | mk (t y : Int) (hp : 0 < y) (hz : Sz 9000 y) : R_law_low [.int t, .int y] (fun d => d = frD (low t y))
theorem ok_law_low (T : Tx K mg C) : Cal P w K mg base "_law_low" 1 R_law_low := by
  refine def_cal 0 T.d_law_low sc_law_low hb_law_low (fun ds S h => by cases h; rfl) (fun X b ds S h => ?_)
  cases h with
  | mk t y hp hz =>
    have n0 := b.nm (x := "_law_top") (i := 0) (by decide +kernel)
    have n1 := b.nm (x := "_law_bottom") (i := 1) (by decide +kernel)
    have n2 := b.nm (x := "_law_one") (i := 2) (by decide +kernel)
    have n3 := b.nm (x := "_law_other") (i := 3) (by decide +kernel)
    have l2 := b.toBs.lo (x := "_law_one") (i := 2) (by decide +kernel)
    have l3 := b.toBs.lo (x := "_law_other") (i := 3) (by decide +kernel)
    have g1 := b.b_abs T (by decide +kernel)
    refine sd_asg (by walk_at "fc ev") l2 (sd_asg (by walk_at "fc ev") l3 ?_)
    refine sd_while b.po (fun m env => ∃ u v : Int, env = [.fz (.int t), .fz (.int y), .fz (.int u), .fz (.int v)] ∧ 0 ≤ u ∧ 0 ≤ v ∧ gcdI u v = gcdI t y ∧ m = v.toNat) _ ⟨_, _, rfl, ?_, by omega, ?_, rfl⟩ ?_
    · split <;> omega
    · have := abs_gcd t y
      rw [if_neg (show ¬ y < 0 by omega)] at this
      exact this
    · rintro m env ⟨u, v, rfl, hu, hv, hg, rfl⟩
      refine ⟨_, by walk_at "fc t", fun h => ?_, fun h => ?_⟩
      · have hv0 : 0 < v := by
          simp only [Bool.not_eq_true', decide_eq_false_iff_not] at h
          omega
        refine sd_par b.calm l2 l3 (by decide) (b.loc (i := 2) (by decide +kernel)) (b.loc (i := 3) (by decide +kernel)) (by walk_at "fc evs") (by simp only [swappedStores, Env.kindOf, Env.blockKind, b.eS]; rfl) ?_
        refine sd_nil ⟨(u % v).toNat, ?_, v, u % v, rfl, hv, ?_, ?_, rfl⟩
        · have := Int.emod_lt_of_pos u hv0
          omega
        · exact Int.emod_nonneg u (by omega)
        · rw [gcdI_step hu hv0, hg]
      · have hv0 : v = 0 := by simpa using h
        subst hv0
        rw [gcdI_zero hu] at hg
        subst hg
        have hg := gcdI_pos (a := t) hp
        have hz2 : Sz 9000 (gcdI t y) := hz.of_le (by have := gcdI_le (a := t) hp; omega)
        have h1 : CDivW t (gcdI t y) := divOk hg hz2
        have h2 : CDivW y (gcdI t y) := divOk hg hz2
        exact sd_ret (by walk_at "fc ev") (by rfl)
def topF (x y : Int) : Int := [0, y % 7, y % 60, y, y % 1000].getD x.toNat 0
def btmF (x z : Int) : Int := [1, 1, 1 + z, 1, 1 + z % 4].getD x.toNat 1
def fracF (x y z : Int) : Int × Int := low (topF x y) (btmF x z)
theorem btmF_in {x z : Int} (hx : 0 ≤ x ∧ x < 5) (hz : 0 ≤ z ∧ z < 30) : 0 < btmF x z ∧ btmF x z ≤ 30 := by
  have h4 := Int.emod_nonneg z (b := 4) (by decide)
  have h5 := Int.emod_lt_of_pos z (b := 4) (by decide)
  have : x = 0 ∨ x = 1 ∨ x = 2 ∨ x = 3 ∨ x = 4 := by omega
  rcases this with e | e | e | e | e <;> subst e <;> simp [btmF] <;> omega
theorem topF_in {x y : Int} (hx : 0 ≤ x ∧ x < 5) (hy : 0 ≤ y ∧ y < 10 ^ 18) : 0 ≤ topF x y ∧ topF x y < 10 ^ 18 := by
  have h1 := Int.emod_nonneg y (b := 7) (by decide)
  have h2 := Int.emod_lt_of_pos y (b := 7) (by decide)
  have h3 := Int.emod_nonneg y (b := 60) (by decide)
  have h4 := Int.emod_lt_of_pos y (b := 60) (by decide)
  have h5 := Int.emod_nonneg y (b := 1000) (by decide)
  have h6 := Int.emod_lt_of_pos y (b := 1000) (by decide)
  have : x = 0 ∨ x = 1 ∨ x = 2 ∨ x = 3 ∨ x = 4 := by omega
  rcases this with e | e | e | e | e <;> subst e <;> simp [topF] <;> omega
theorem low_nn {t b : Int} (ht : 0 ≤ t) (hb : 0 < b) : 0 ≤ (low t b).1 := Int.ediv_nonneg ht (Int.le_of_lt (gcdI_pos hb))
structure FracOk (q : Int × Int) : Prop where
  fr : Fr q
  nn : 0 ≤ q.1
  dv : q.2 ∣ bigL
  sz : Sz 60 q.1
theorem dvd_bigL {b : Int} (h : 0 < b) (h2 : b ≤ 30) : b ∣ bigL := by
  have : ∀ n : Nat, n < 31 → 0 < n → ((n : Nat) : Int) ∣ bigL := by decide +kernel
  have := this b.toNat (by omega) (by omega)
  rwa [Int.toNat_of_nonneg (by omega)] at this
theorem fracF_ok {x y z : Int} (hx : 0 ≤ x ∧ x < 5) (hy : 0 ≤ y ∧ y < 10 ^ 18) (hz : 0 ≤ z ∧ z < 30) : FracOk (fracF x y z) := by
  obtain ⟨b1, b2⟩ := btmF_in hx hz
  obtain ⟨t1, t2⟩ := topF_in hx hy
  refine ⟨low_fr b1, low_nn t1 b1, Int.dvd_trans ⟨gcdI (topF x y) (btmF x z), (Int.ediv_mul_cancel (gcdI_dvd_right _ _)).symm⟩ (dvd_bigL b1 b2), low_sz b1 ?_⟩
  unfold Sz
  have : (10 : Int) ^ 18 < 2 ^ 60 := by decide
  omega
inductive R_law_fraction : List Dt → (Dt → Prop) → Prop
  | mk (x y z : Int) (hx : 0 ≤ x ∧ x < 5) (hy : 0 ≤ y ∧ y < 10 ^ 18) (hz : 0 ≤ z ∧ z < 30) : R_law_fraction [.lst [.int x, .int y, .int z]] (fun d => d = frD (fracF x y z))
theorem ok_law_fraction (T : Tx K mg C) : Cal P w K mg base "_law_fraction" 2 R_law_fraction := by
  refine def_cal 1 T.d_law_fraction sc_law_fraction hb_law_fraction (fun ds S h => by cases h; rfl) (fun X b ds S h => ?_)
  cases h with
  | mk x y z hx hy hz =>
    have n0 := b.nm (x := "_law_d") (i := 0) (by decide +kernel)
    have n1 := b.nm (x := "_law_top") (i := 1) (by decide +kernel)
    have n2 := b.nm (x := "_law_bottom") (i := 2) (by decide +kernel)
    have l1 := b.lo (x := "_law_top") (i := 1) (by decide +kernel)
    have l2 := b.lo (x := "_law_bottom") (i := 2) (by decide +kernel)
    have c1 := (ok_law_low T).at b.toBs (by decide) (by decide +kernel)
    obtain ⟨b1, b2⟩ := btmF_in hx hz
    have r1 := R_law_low.mk (topF x y) (btmF x z) b1 (by
      unfold Sz
      have : (2 : Nat) ^ 9000 = 2 ^ 8990 * 2 ^ 10 := by rw [← Nat.pow_add]
      have h2 : 0 < (2 : Nat) ^ 8990 := Nat.pow_pos (by decide)
      rw [this]
      omega)
    have a1 : atI [Dt.int 0, .int (y % 7), .int (y % 60), .int y, .int (y % 1000)] x = some (.int (topF x y)) := by
      have : x = 0 ∨ x = 1 ∨ x = 2 ∨ x = 3 ∨ x = 4 := by omega
      rcases this with e | e | e | e | e <;> subst e <;> rfl
    have a2 : atI [Dt.int 1, .int 1, .int (1 + z), .int 1, .int (1 + z % 4)] x = some (.int (btmF x z)) := by
      have : x = 0 ∨ x = 1 ∨ x = 2 ∨ x = 3 ∨ x = 4 := by omega
      rcases this with e | e | e | e | e <;> subst e <;> rfl
    refine sd_asg (d := .int (topF x y)) (by walk_at "fc ev") l1 (sd_asg (d := .int (btmF x z)) (by walk_at "fc ev") l2 ?_)
    exact sd_ret (by walk_at "fc ev") (by rfl)
end
end Fc

namespace Fc
open PySem PySem.Spec PyProof.Rows L2
/-! ### the law's own defs: sums, sides, least room -/
theorem enumD_map {α : Type} (f : α → Dt) (xs : List α) : enumD (xs.map f) = xs.zipIdx.map fun z => .tup [.int (z.2 : Nat), f z.1] := by
  unfold enumD
  rw [List.zipIdx_map, List.map_map]
  all_goals rfl
theorem enum_at {α : Type} {f : α → Dt} {xs : List α} {n : Nat} {d : Dt} (h : (enumD (xs.map f))[n]? = some d) : ∃ a, xs[n]? = some a ∧ d = .tup [.int (n : Nat), f a] := by
  rw [enumD_at, List.getElem?_map] at h
  cases q : xs[n]? with
  | none => rw [q] at h; cases h
  | some a =>
    rw [q] at h
    cases h
    exact ⟨a, rfl, rfl⟩
section
variable {P : Program} {w : World} {K : PySem.W.Frag} {mg : Str → Option Value} {base : Heap} {C : Addr}
inductive R_law_plus : List Dt → (Dt → Prop) → Prop
  | mk (p q r s g : Int) (hq : 0 < q) (hs : 0 < s) (zp : Sz 4000 p) (zq : Sz 4000 q) (zr : Sz 4000 r) (zs : Sz 4000 s) (zg : Sz 10 g) : R_law_plus [.tup [.int p, .int q], .tup [.int r, .int s], .int g] (fun d => d = frD (low (p * s + g * r * q) (q * s)))
theorem ok_law_plus (T : Tx K mg C) : Cal P w K mg base "_law_plus" 2 R_law_plus := by
  refine def_cal 1 T.d_law_plus sc_law_plus hb_law_plus (fun ds S h => by cases h; rfl) (fun X b ds S h => ?_)
  cases h with
  | mk p q r s g hq hs zp zq zr zs zg =>
    have n0 := b.nm (x := "_law_one") (i := 0) (by decide +kernel)
    have n1 := b.nm (x := "_law_other") (i := 1) (by decide +kernel)
    have n2 := b.nm (x := "_law_sign") (i := 2) (by decide +kernel)
    have c1 := (ok_law_low T).at b.toBs (by decide) (by decide +kernel)
    have h1 : CMulW p s := mulOk zp zs
    have h0 : CMulW g r := mulOk zg zr
    have h2 : CMulW (g * r) q := mulOk (zg.mul zr) zq
    have h3 : CMulW q s := mulOk zq zs
    have h4 : 0 < q * s := Int.mul_pos hq hs
    have h5 : Sz 9000 (q * s) := (zq.mul zs).mono (by decide)
    exact sd_ret (by walk_at "fc ev") (by rfl)
inductive R_law_going : List Dt → (Dt → Prop) → Prop
  | mk (W : Web) (h : WebOk W) (xs : List Int) (B : Int) (hB : 0 < B) (zB : Sz 1000 B) (zx : ∀ x ∈ xs, Sz 1000 x) (hl : xs.length = W.ties.length) (p : Str) : R_law_going [webD W, .lst (xs.map (fq B)), .str p] (fun d => d = fq B (goI (W.ties.zip xs) p))
theorem ok_law_going (T : Tx K mg C) : Cal P w K mg base "_law_going" 3 R_law_going := by
  refine def_cal 2 T.d_law_going sc_law_going hb_law_going (fun ds S h => by cases h; rfl) (fun X b ds S h => ?_)
  cases h with
  | mk W h xs B hB zB zx hl p =>
    have n0 := b.nm (x := "_law_web_here") (i := 0) (by decide +kernel)
    have n1 := b.nm (x := "_law_flow") (i := 1) (by decide +kernel)
    have n2 := b.nm (x := "_law_place") (i := 2) (by decide +kernel)
    have n3 := b.nm (x := "_law_found") (i := 3) (by decide +kernel)
    have n4 := b.nm (x := "_law_k") (i := 4) (by decide +kernel)
    have n5 := b.nm (x := "_law_tie_here") (i := 5) (by decide +kernel)
    have l3 := b.lo (x := "_law_found") (i := 3) (by decide +kernel)
    have l4 := b.lo (x := "_law_k") (i := 4) (by decide +kernel)
    have l5 := b.lo (x := "_law_tie_here") (i := 5) (by decide +kernel)
    have g4 := b.b_enumerate T (by decide +kernel)
    have c1 := (ok_law_plus T).at b.toBs (by decide) (by decide +kernel)
    have t14 := h.t14
    have zg1 : Sz 10 1 := by unfold Sz; decide
    have zg2 : Sz 10 (-1) := by unfold Sz; decide
    show SD X _ [.fz (.tup [.lst (W.places.map .str), .lst (W.ties.map tieD), .str W.first, .str W.last]), .fz (.lst (xs.map (fq B))), .fz (.str p), .un, .un, .un] _
    refine sd_asg (by walk_at "fc ev") l3 ?_
    refine sd_for2 (is := [4, 5]) b.po b.calm (.cons l4 (.cons l5 .nil)) (pid_enum (ds := W.ties.map tieD) g4 (by walk_at "fc ev")) (fun n env => ∃ x y, env = [.fz (.tup [.lst (W.places.map .str), .lst (W.ties.map tieD), .str W.first, .str W.last]), .fz (.lst (xs.map (fq B))), .fz (.str p), .fz (fq B (goI ((W.ties.zip xs).take n) p)), x, y]) ⟨.un, .un, ?_⟩ ?_ ?_
    · have e : fq B (goI ((W.ties.zip xs).take 0) p) = .tup [.int 0, .int 1] := by
        show frD (low 0 B) = _
        rw [low_zero hB]
      rw [e]
      rfl
    · rintro n d env hd ⟨x, y, rfl⟩
      obtain ⟨t, ht, rfl⟩ := enum_at hd
      refine ⟨_, rfl, rfl, ?_⟩
      have hn := (List.getElem?_eq_some_iff.mp ht).1
      obtain ⟨y, hq⟩ : ∃ y, xs[n]? = some y := ⟨_, List.getElem?_eq_getElem (by omega)⟩
      have hz : (W.ties.zip xs)[n]? = some (t, y) := by rw [List.getElem?_zip_eq_some]; exact ⟨ht, hq⟩
      have hm := List.mem_of_getElem? hq
      have hne := (h.ts t (List.mem_of_getElem? ht)).ne
      have ha : atI (xs.map (fq B)) (n : Int) = some (.tup [.int (low y B).1, .int (low y B).2]) := at_map hq
      generalize hg : goI ((W.ties.zip xs).take n) p = g
      have zs : Sz 1005 g := by
        rw [← hg]
        refine sz_many (k := ((W.ties.zip xs).take n).length) (goI_abs p (2 ^ 1000) _ fun z hz => Nat.le_of_lt (zx z.2 (List.of_mem_zip (List.mem_of_mem_take hz)).2)) ?_
        rw [List.length_take, List.length_zip]
        omega
      have gs : goI ((W.ties.zip xs).take (n + 1)) p = g + (if t.one = p then y else if t.other = p then -y else 0) := by
        rw [List.take_succ, hz, goI_app, hg]
        simp [goI]
      have h1 := low_snd_pos (t := g) hB
      have h2 := low_snd_pos (t := y) hB
      have z1 := (low_sz hB zs).mono (b := 4000) (by decide)
      have z2 := (low_sz2 (x := g) hB zB).mono (b := 4000) (by decide)
      have z3 := (low_sz hB (zx y hm)).mono (b := 4000) (by decide)
      have z4 := (low_sz2 (x := y) hB zB).mono (b := 4000) (by decide)
      have e1 : frD (low ((low g B).1 * (low y B).2 + 1 * (low y B).1 * (low g B).2) ((low g B).2 * (low y B).2)) = fq B (g + y) := by
        have := low_add (x := g) (y := y) hB
        unfold plusF at this
        rw [Int.one_mul, this]
      have e2 : frD (low ((low g B).1 * (low y B).2 + (-1) * (low y B).1 * (low g B).2) ((low g B).2 * (low y B).2)) = fq B (g - y) := by
        have := low_sub (x := g) (y := y) hB
        unfold minusF at this
        rw [show (low g B).1 * (low y B).2 + (-1) * (low y B).1 * (low g B).2 = (low g B).1 * (low y B).2 - (low y B).1 * (low g B).2 by rw [Int.mul_assoc (-1), Int.neg_one_mul, Int.sub_eq_add_neg], this]
      have r1 := R_law_plus.mk _ _ _ _ 1 h1 h2 z1 z2 z3 z4 zg1
      have r2 := R_law_plus.mk _ _ _ _ (-1) h1 h2 z1 z2 z3 z4 zg2
      rw [e1] at r1
      rw [e2] at r2
      show SD X _ [.fz (.tup [.lst (W.places.map .str), .lst (W.ties.map tieD), .str W.first, .str W.last]), .fz (.lst (xs.map (fq B))), .fz (.str p), .fz (.tup [.int (low g B).1, .int (low g B).2]), .fz (.int (n : Nat)), .fz (.tup [.str t.one, .str t.other, .str (wordS t.both), frD t.len, worthD t.worth])] _
      refine sd_when (by walk_at "fc t") (fun hc => ?_) (fun hc => ?_)
      · have hc : t.one = p := by simpa using hc
        have hc2 : ¬ t.other = p := fun z => hne (hc.trans z.symm)
        refine sd_asg (d := fq B (g + y)) (by walk_at "fc ev") l3 (sd_nil ?_)
        show SD X _ [.fz (.tup [.lst (W.places.map .str), .lst (W.ties.map tieD), .str W.first, .str W.last]), .fz (.lst (xs.map (fq B))), .fz (.str p), .fz (fq B (g + y)), .fz (.int (n : Nat)), .fz (.tup [.str t.one, .str t.other, .str (wordS t.both), frD t.len, worthD t.worth])] _
        refine sd_no (k := decide (t.other = p)) (by walk_at "fc t") (decide_eq_false hc2) (sd_nil ⟨.fz (.int (n : Nat)), .fz (tieD t), ?_⟩)
        rw [gs, if_pos hc]
        rfl
      · have hc : ¬ t.one = p := by simpa using hc
        refine sd_when (by walk_at "fc t") (fun hc2 => ?_) (fun hc2 => ?_)
        · have hc2 : t.other = p := by simpa using hc2
          refine sd_asg (d := fq B (g - y)) (by walk_at "fc ev") l3 (sd_nil (sd_nil ⟨.fz (.int (n : Nat)), .fz (tieD t), ?_⟩))
          rw [gs, if_neg hc, if_pos hc2, ← Int.sub_eq_add_neg]
          rfl
        · have hc2 : ¬ t.other = p := by simpa using hc2
          refine sd_nil ⟨.fz (.int (n : Nat)), .fz (tieD t), ?_⟩
          rw [gs, if_neg hc, if_neg hc2, Int.add_zero]
          rfl
    · rintro env ⟨x, y, rfl⟩
      refine sd_ret (by walk_at "fc ev") ?_
      rw [enumD_len, List.length_map, List.take_of_length_le]
      rw [List.length_zip]
      omega
def bitB (bits : Int) (z : Tie × Nat) : Bool := (!isNon (worthD z.1.worth)) && decide (Builtin.bitAnd (bits / 2 ^ ((z.2 : Nat) : Int).toNat) 1 = 1)
def bitsF (W : Web) (bits : Int) : List Int := (W.ties.zipIdx.filter (bitB bits)).map fun z => ((z.2 : Nat) : Int)
inductive R_law_bits : List Dt → (Dt → Prop) → Prop
  | mk (W : Web) (h : W.ties.length ≤ 14) (bits : Int) : R_law_bits [webD W, .int bits] (fun d => d = .lst ((bitsF W bits).map .int))
theorem ok_law_bits (T : Tx K mg C) : Cal P w K mg base "_law_bits" 1 R_law_bits := by
  refine def_cal 0 T.d_law_bits sc_law_bits hb_law_bits (fun ds S h => by cases h; rfl) (fun X b ds S h => ?_)
  cases h with
  | mk W h bits =>
    have n0 := b.nm (x := "_law_web_here") (i := 0) (by decide +kernel)
    have n1 := b.nm (x := "_law_bits_here") (i := 1) (by decide +kernel)
    have g4 := b.b_enumerate T (by decide +kernel)
    show SD X _ [.fz (.tup [.lst (W.places.map .str), .lst (W.ties.map tieD), .str W.first, .str W.last]), .fz (.int bits), .un, .un] _
    have hp : ∀ {tg : Expr} {elts : List Expr} {kk : Nat} {tpos p1 pos : Pos} {e : Expr}, PV X e [.fz (.tup [.lst (W.places.map .str), .lst (W.ties.map tieD), .str W.first, .str W.last]), .fz (.int bits), .un, .un] (.lst (W.ties.map tieD)) → starEach [e] X.env = [(false, eval e X.env)] → PId X (.Tuple elts kk tpos) (.Call (.Name "enumerate" p1) [e] [] pos) [.fz (.tup [.lst (W.places.map .str), .lst (W.ties.map tieD), .str W.first, .str W.last]), .fz (.int bits), .un, .un] (W.ties.zipIdx.map fun z => .tup [.int (z.2 : Nat), tieD z.1]) := fun h hs => by
      rw [← enumD_map]
      exact pid_enum g4 h hs
    refine sd_ret (d := .lst ((W.ties.zipIdx.filter (bitB bits)).map fun z => .int ((z.2 : Nat) : Int))) (pv_lc (lcd_names (xs := W.ties.zipIdx) (inj := fun z : Tie × Nat => [Dt.int (z.2 : Nat), tieD z.1]) (is := [2, 3]) [("_law_k", 2), ("_law_tie_here", 3)] (bitB bits) _ b.calm b.eN b.eS b.nd (by rw [List.length_zipIdx]; omega) (hp (tg := .Constant .none 0 ⟨0, 0, 0, 0⟩) (by walk_at "fc ev") rfl) (by decide +kernel) (by decide) (fun Y y => ?_) (fun _ _ => rfl) (fun z Y hz y => ptd_if ?_) (fun z Y hz hp y => ?_))) ?_
    · have Bb := b.toBs.blk y
      exact .cons (Bb.lo (x := "_law_k") (i := 2) (by decide +kernel)) (.cons (Bb.lo (x := "_law_tie_here") (i := 3) (by decide +kernel)) .nil)
    · have Bb := b.toBs.blk y
      have m1 := Bb.nm (x := "_law_bits_here") (i := 1) (by decide +kernel)
      have m2 := Bb.nm (x := "_law_k") (i := 2) (by decide +kernel)
      have m3 := Bb.nm (x := "_law_tie_here") (i := 3) (by decide +kernel)
      obtain ⟨t, k⟩ := z
      have hk : (0 : Int) ≤ (k : Nat) := by omega
      show PB Y _ [.fz (.tup [.lst (W.places.map .str), .lst (W.ties.map tieD), .str W.first, .str W.last]), .fz (.int bits), .fz (.int (k : Nat)), .fz (.tup [.str t.one, .str t.other, .str (wordS t.both), frD t.len, worthD t.worth])] _
      exact PB.is (by walk_at "fc t") (by rfl)
    · have Bb := b.toBs.blk y
      have m2 := Bb.nm (x := "_law_k") (i := 2) (by decide +kernel)
      walk_at "fc ev"
    · show _ = Dt.lst ((bitsF W bits).map .int)
      unfold bitsF
      rw [List.map_map]
      all_goals rfl
inductive R_law_leads_out : List Dt → (Dt → Prop) → Prop
  | mk (t : Tie) (ss : List Str) : R_law_leads_out [tieD t, .lst (ss.map .str)] (fun d => d = .bl (leadsB t (inS ss)))
theorem ok_law_leads_out (T : Tx K mg C) : Cal P w K mg base "_law_leads_out" 1 R_law_leads_out := by
  refine def_cal 0 T.d_law_leads_out sc_law_leads_out hb_law_leads_out (fun ds S h => by cases h; rfl) (fun X b ds S h => ?_)
  cases h with
  | mk t ss =>
    have n0 := b.nm (x := "_law_tie_here") (i := 0) (by decide +kernel)
    have n1 := b.nm (x := "_law_side") (i := 1) (by decide +kernel)
    show SD X _ [.fz (.tup [.str t.one, .str t.other, .str (wordS t.both), frD t.len, worthD t.worth]), .fz (.lst (ss.map .str))] _
    refine sd_when (PB.is (by walk_at "fc t") (word_both t.both)) (fun hb => ?_) (fun hb => ?_)
    · refine sd_ret (by walk_at "fc ev") ?_
      show Dt.bl _ = Dt.bl (leadsB t (inS ss))
      unfold leadsB inS
      rw [hb]
      rfl
    · refine sd_ret (by walk_at "fc ev") ?_
      show Dt.bl _ = Dt.bl (leadsB t (inS ss))
      unfold leadsB inS
      rw [hb]
      rfl
inductive R_law_ints : List Dt → (Dt → Prop) → Prop
  | mk (qs : List (Int × Int)) (h : ∀ q ∈ qs, 0 < q.2 ∧ q.2 ∣ bigL ∧ Sz 100 q.1) (hl : qs.length ≤ 14) : R_law_ints [.lst (qs.map frD)] (fun d => d = .lst ((inB bigL qs).map .int))
theorem ok_law_ints (T : Tx K mg C) : Cal P w K mg base "_law_ints" 1 R_law_ints := by
  refine def_cal 0 T.d_law_ints sc_law_ints hb_law_ints (fun ds S h => by cases h; rfl) (fun X b ds S h => ?_)
  cases h with
  | mk qs h hl =>
    have n0 := b.nm (x := "_law_rooms_here") (i := 0) (by decide +kernel)
    have n1 := b.nm (x := "_law_bottom") (i := 1) (by decide +kernel)
    have l1 := b.lo (x := "_law_bottom") (i := 1) (by decide +kernel)
    refine sd_asg (by walk_at "fc ev") l1 ?_
    show SD X _ [.fz (.lst (qs.map frD)), .fz (.int bigL), .un, .un] _
    refine sd_ret (d := .lst ((qs.filter fun _ => true).map fun q => .int (q.1 * (bigL / q.2)))) (pv_lc (lcd_names (xs := qs) (inj := fun q : Int × Int => [Dt.int q.1, .int q.2]) (is := [2, 3]) [("_law_top", 2), ("_law_part", 3)] (fun _ => true) _ b.calm b.eN b.eS b.nd (by omega) (pid_list (by walk_at "fc ev")) (by decide +kernel) (by decide) (fun Y y => ?_) (fun _ _ => rfl) (fun z Y hz y => ptd_no) (fun q Y hq hp y => ?_))) ?_
    · have Bb := b.toBs.blk y
      exact .cons (Bb.lo (x := "_law_top") (i := 2) (by decide +kernel)) (.cons (Bb.lo (x := "_law_part") (i := 3) (by decide +kernel)) .nil)
    · have Bb := b.toBs.blk y
      have m1 := Bb.nm (x := "_law_bottom") (i := 1) (by decide +kernel)
      have m2 := Bb.nm (x := "_law_top") (i := 2) (by decide +kernel)
      have m3 := Bb.nm (x := "_law_part") (i := 3) (by decide +kernel)
      obtain ⟨h1, h2, h3⟩ := h q hq
      have k1 : CDivW bigL q.2 := divOk h1 (sz_bigL h1 h2)
      have h4 : 0 ≤ bigL / q.2 := Int.ediv_nonneg (by decide) (by omega)
      have h5 : bigL / q.2 ≤ bigL := Int.ediv_le_self _ (by decide)
      have k2 : CMulW q.1 (bigL / q.2) := mulOk h3 ((sz_bigL (x := bigL) (by decide) (Int.dvd_refl _)).of_le (by omega))
      walk_at "fc ev"
    · rw [List.filter_eq_self.mpr fun _ _ => rfl]
      show _ = Dt.lst ((inB bigL qs).map .int)
      unfold inB
      rw [List.map_map]
      all_goals rfl
def sidesD (ss : List (List Str)) : Dt := .lst (ss.map fun s => .lst (s.map .str))
inductive R_law_sides : List Dt → (Dt → Prop) → Prop
  | mk (W : Web) (h : WebOk W) : R_law_sides [webD W] (fun d => d = sidesD (sidesI W))
theorem sideStep_sz {W : Web} : ∀ (ps : List Str) (acc : List (List Str)) (m c : Nat), acc.length ≤ m → (∀ s ∈ acc, s.length ≤ c) → (ps.foldl (sideStep W) acc).length ≤ m * 2 ^ ps.length ∧ ∀ s ∈ ps.foldl (sideStep W) acc, s.length ≤ c + ps.length
  | [], acc, m, c, h1, h2 => ⟨by simpa using h1, by simpa using h2⟩
  | p :: ps, acc, m, c, h1, h2 => by
    have h3 : (sideStep W acc p).length ≤ m * 2 := by
      unfold sideStep
      split
      · rw [List.length_append, List.length_map]
        omega
      · omega
    have h4 : ∀ s ∈ sideStep W acc p, s.length ≤ c + 1 := fun s hs => by
      unfold sideStep at hs
      split at hs
      · rcases List.mem_append.mp hs with z | z
        · have := h2 s z
          omega
        · obtain ⟨s', hs', rfl⟩ := List.mem_map.mp z
          have := h2 s' hs'
          rw [List.length_append, List.length_singleton]
          omega
      · have := h2 s hs
        omega
    obtain ⟨k1, k2⟩ := sideStep_sz (W := W) ps (sideStep W acc p) (m * 2) (c + 1) h3 h4
    rw [List.foldl_cons, List.length_cons]
    refine ⟨by rw [Nat.pow_succ]; have e : m * 2 * 2 ^ ps.length = m * (2 ^ ps.length * 2) := by rw [Nat.mul_assoc, Nat.mul_comm 2]
               omega, fun s hs => by have := k2 s hs; omega⟩
theorem ok_law_sides (T : Tx K mg C) : Cal P w K mg base "_law_sides" 1 R_law_sides := by
  refine def_cal 0 T.d_law_sides sc_law_sides hb_law_sides (fun ds S h => by cases h; rfl) (fun X b ds S h => ?_)
  cases h with
  | mk W h =>
    have n0 := b.nm (x := "_law_web_here") (i := 0) (by decide +kernel)
    have n1 := b.nm (x := "_law_sides_here") (i := 1) (by decide +kernel)
    have n2 := b.nm (x := "_law_place") (i := 2) (by decide +kernel)
    have l1 := b.lo (x := "_law_sides_here") (i := 1) (by decide +kernel)
    have l2 := b.lo (x := "_law_place") (i := 2) (by decide +kernel)
    have p7 := h.p7
    show SD X _ [.fz (.tup [.lst (W.places.map .str), .lst (W.ties.map tieD), .str W.first, .str W.last]), .un, .un, .un] _
    refine sd_asg (by walk_at "fc ev") l1 ?_
    refine sd_for b.po b.calm l2 (pid_list (by walk_at "fc ev")) (fun n env => ∃ x, env = [.fz (.tup [.lst (W.places.map .str), .lst (W.ties.map tieD), .str W.first, .str W.last]), .fz (sidesD ((W.places.take n).foldl (sideStep W) [[W.first]])), x, .un]) ⟨_, rfl⟩ ?_ ?_
    · rintro n d env hd ⟨x, rfl⟩
      rw [List.getElem?_map] at hd
      cases hq : W.places[n]? with
      | none => rw [hq] at hd; cases hd
      | some p =>
        rw [hq] at hd
        cases hd
        have hn := (List.getElem?_eq_some_iff.mp hq).1
        obtain ⟨k1, k2⟩ := sideStep_sz (W := W) (W.places.take n) [[W.first]] 1 1 (by simp) (by simp)
        have hl : (W.places.take n).length ≤ 6 := by rw [List.length_take]; omega
        have hp2 : 2 ^ (W.places.take n).length ≤ 2 ^ 6 := Nat.pow_le_pow_right (by decide) hl
        have e : (W.places.take (n + 1)).foldl (sideStep W) [[W.first]] = sideStep W ((W.places.take n).foldl (sideStep W) [[W.first]]) p := by
          rw [List.take_succ, hq, List.foldl_append]
          rfl
        generalize (W.places.take n).foldl (sideStep W) [[W.first]] = ss at k1 k2 e
        have sl := sizeLine_eq
        show SD X _ [.fz (.tup [.lst (W.places.map .str), .lst (W.ties.map tieD), .str W.first, .str W.last]), .fz (.lst (ss.map fun s => .lst (s.map .str))), .fz (.str p), .un] _
        refine sd_when (k := !decide (p ∈ [W.first, W.last])) (by walk_at "fc t") (fun hc => ?_) (fun hc => ?_)
        · refine sd_asg (pv_bin (by walk_at "fc ev") (pv_lc (lcd_name (xs := ss) (inj := fun s : List Str => Dt.lst (s.map .str)) (i := 3) [("_law_side", 3)] (fun _ => true) (fun s => .lst (s.map .str ++ [.str p])) b.calm b.eN b.eS b.nd (by omega) (pid_list (by walk_at "fc ev")) (by decide +kernel) (by decide) rfl (by decide +kernel) (fun s Y hs y => ptd_no) (fun s Y hs hp y => ?_))) (bin_addL ?_)) l1 (sd_nil (sd_nil ⟨.fz (.str p), ?_⟩))
          · have Bb := b.toBs.blk y
            have m2 := Bb.nm (x := "_law_place") (i := 2) (by decide +kernel)
            have m3 := Bb.nm (x := "_law_side") (i := 3) (by decide +kernel)
            have := k2 s hs
            have hsz : (s.map Dt.str).length + [Dt.str p].length ≤ sizeLine := by rw [List.length_map, List.length_singleton]; omega
            walk_at "fc ev"
          · rw [List.length_map, List.length_map, List.filter_eq_self.mpr fun _ _ => rfl]
            omega
          · rw [e, List.filter_eq_self.mpr fun _ _ => rfl]
            have e2 : sideStep W ss p = ss ++ ss.map fun s => s ++ [p] := by
              unfold sideStep midB
              rw [if_pos hc]
            rw [e2]
            unfold sidesD
            rw [List.map_append, List.map_map]
            have e3 : ((fun s : List Str => Dt.lst (s.map .str)) ∘ fun s => s ++ [p]) = fun s => .lst (s.map .str ++ [.str p]) := by
              funext s
              show Dt.lst ((s ++ [p]).map .str) = _
              rw [List.map_append]
              rfl
            rw [e3]
            rfl
        · refine sd_nil ⟨.fz (.str p), ?_⟩
          have e2 : sideStep W ss p = ss := by
            unfold sideStep midB
            rw [if_neg (by rw [hc]; simp)]
          rw [e, e2]
          rfl
    · rintro env ⟨x, rfl⟩
      refine sd_ret (by walk_at "fc ev") ?_
      rw [List.length_map, List.take_length]
      rfl
inductive R_law_least_room : List Dt → (Dt → Prop) → Prop
  | mk (W : Web) (h : WebOk W) (ns ts : List Int) (hl : ns.length = W.ties.length) : R_law_least_room [webD W, .lst (ns.map .int), .lst (ts.map .int)] (fun d => d = .int (leastI W ns ts))
theorem ok_law_least_room (T : Tx K mg C) : Cal P w K mg base "_law_least_room" 2 R_law_least_room := by
  refine def_cal 1 T.d_law_least_room sc_law_least_room hb_law_least_room (fun ds S h => by cases h; rfl) (fun X b ds S h => ?_)
  cases h with
  | mk W h ns ts hl =>
    have n0 := b.nm (x := "_law_web_here") (i := 0) (by decide +kernel)
    have n1 := b.nm (x := "_law_numbers") (i := 1) (by decide +kernel)
    have n2 := b.nm (x := "_law_taken") (i := 2) (by decide +kernel)
    have n3 := b.nm (x := "_law_found") (i := 3) (by decide +kernel)
    have n4 := b.nm (x := "_law_side") (i := 4) (by decide +kernel)
    have n5 := b.nm (x := "_law_out") (i := 5) (by decide +kernel)
    have n6 := b.nm (x := "_law_k") (i := 6) (by decide +kernel)
    have n7 := b.nm (x := "_law_tie_here") (i := 7) (by decide +kernel)
    have l3 := b.lo (x := "_law_found") (i := 3) (by decide +kernel)
    have l4 := b.lo (x := "_law_side") (i := 4) (by decide +kernel)
    have l5 := b.lo (x := "_law_out") (i := 5) (by decide +kernel)
    have l6 := b.lo (x := "_law_k") (i := 6) (by decide +kernel)
    have l7 := b.lo (x := "_law_tie_here") (i := 7) (by decide +kernel)
    have g1 := b.b_min T (by decide +kernel)
    have g4 := b.b_enumerate T (by decide +kernel)
    have c1 := (ok_law_sides T).at b.toBs (by decide) (by decide +kernel)
    have c2 := (ok_law_leads_out T).at b.toBs (by decide) (by decide +kernel)
    have p7 := h.p7
    have sl := sizeLine_eq
    have r1 : R_law_sides [.tup [.lst (W.places.map .str), .lst (W.ties.map tieD), .str W.first, .str W.last]] (fun d => d = .lst ((sidesI W).map fun s => .lst (s.map .str))) := .mk W h
    have hsz : (sidesI W).length ≤ 128 := by
      obtain ⟨k1, k2⟩ := sideStep_sz (W := W) W.places [[W.first]] 1 1 (by simp) (by simp)
      have hp2 : 2 ^ W.places.length ≤ 2 ^ 7 := Nat.pow_le_pow_right (by decide) p7
      unfold sidesI
      omega
    refine sd_cons (s1_newL l3 ?_)
    show SD X _ [.fz (.tup [.lst (W.places.map .str), .lst (W.ties.map tieD), .str W.first, .str W.last]), .fz (.lst (ns.map .int)), .fz (.lst (ts.map .int)), .ow [], .un, .un, .un, .un] _
    refine sd_for b.po b.calm l4 (pid_list (by walk_at "fc ev")) (fun n env => ∃ a b c d, env = [.fz (.tup [.lst (W.places.map .str), .lst (W.ties.map tieD), .str W.first, .str W.last]), .fz (.lst (ns.map .int)), .fz (.lst (ts.map .int)), .ow ((((sidesI W).take n).map fun s => roomI W.ties ns ts (inS s)).map .int), a, b, c, d] ∧ notOw c = true ∧ notOw d = true) ⟨_, _, _, _, rfl, rfl, rfl⟩ ?_ ?_
    · rintro n d env hd ⟨x4, x5, x6, x7, rfl, h6, h7⟩
      rw [List.getElem?_map] at hd
      cases hq : (sidesI W)[n]? with
      | none => rw [hq] at hd; cases hd
      | some s =>
        rw [hq] at hd
        cases hd
        have hn := (List.getElem?_eq_some_iff.mp hq).1
        have etk : ((sidesI W).take (n + 1)).map (fun s => roomI W.ties ns ts (inS s)) = ((sidesI W).take n).map (fun s => roomI W.ties ns ts (inS s)) ++ [roomI W.ties ns ts (inS s)] := by
          rw [List.take_succ, hq, List.map_append]
          rfl
        have htl : (((sidesI W).take n).map fun s => roomI W.ties ns ts (inS s)).length ≤ 128 := by
          rw [List.length_map, List.length_take]
          omega
        generalize ((sidesI W).take n).map (fun s => roomI W.ties ns ts (inS s)) = fo at etk htl
        refine sd_asg (by walk_at "fc ev") l5 ?_
        show SD X _ [.fz (.tup [.lst (W.places.map .str), .lst (W.ties.map tieD), .str W.first, .str W.last]), .fz (.lst (ns.map .int)), .fz (.lst (ts.map .int)), .ow (fo.map .int), .fz (.lst (s.map .str)), .fz (.int 0), x6, x7] _
        refine sd_for2 (is := [6, 7]) b.po b.calm (.cons l6 (.cons l7 .nil)) (pid_enum (ds := W.ties.map tieD) g4 (by walk_at "fc ev")) (fun n env => ∃ c d, env = [.fz (.tup [.lst (W.places.map .str), .lst (W.ties.map tieD), .str W.first, .str W.last]), .fz (.lst (ns.map .int)), .fz (.lst (ts.map .int)), .ow (fo.map .int), .fz (.lst (s.map .str)), .fz (.int (sumTo (rT W.ties ns ts (inS s)) n)), c, d] ∧ notOw c = true ∧ notOw d = true) ⟨_, _, rfl, h6, h7⟩ ?_ ?_
        · rintro m d env hd ⟨y6, y7, rfl, _, _⟩
          obtain ⟨t, ht, rfl⟩ := enum_at hd
          refine ⟨_, rfl, rfl, ?_⟩
          have hm := (List.getElem?_eq_some_iff.mp ht).1
          obtain ⟨y, hy⟩ : ∃ y, ns[m]? = some y := ⟨_, List.getElem?_eq_getElem (by omega)⟩
          have ha : atI (ns.map Dt.int) (m : Int) = some (.int y) := at_map hy
          have es : sumTo (rT W.ties ns ts (inS s)) (m + 1) = sumTo (rT W.ties ns ts (inS s)) m + (if !decide ((m : Int) ∈ ts) && leadsB t (inS s) then y else 0) := by
            show sumTo (rT W.ties ns ts (inS s)) m + rT W.ties ns ts (inS s) m = _
            congr 1
            unfold rT outB
            rw [ldB_at ht, getD_of hy]
          have r2 : R_law_leads_out [.tup [.str t.one, .str t.other, .str (wordS t.both), frD t.len, worthD t.worth], .lst (s.map .str)] (fun d => d = .bl (leadsB t (inS s))) := .mk t s
          generalize sumTo (rT W.ties ns ts (inS s)) m = u at es
          show SD X _ [.fz (.tup [.lst (W.places.map .str), .lst (W.ties.map tieD), .str W.first, .str W.last]), .fz (.lst (ns.map .int)), .fz (.lst (ts.map .int)), .ow (fo.map .int), .fz (.lst (s.map .str)), .fz (.int u), .fz (.int (m : Nat)), .fz (.tup [.str t.one, .str t.other, .str (wordS t.both), frD t.len, worthD t.worth])] _
          refine sd_when (k := !decide ((m : Int) ∈ ts) && leadsB t (inS s)) (by walk_at "fc t") (fun hc => ?_) (fun hc => ?_)
          · refine sd_asg (by walk_at "fc ev") l5 (sd_nil (sd_nil ⟨.fz (.int (m : Nat)), .fz (tieD t), ?_, rfl, rfl⟩))
            rw [es, if_pos hc]
            rfl
          · refine sd_nil ⟨.fz (.int (m : Nat)), .fz (tieD t), ?_, rfl, rfl⟩
            rw [es, if_neg (by rw [hc]; simp), Int.add_zero]
            rfl
        · rintro env ⟨y6, y7, rfl, h6, h7⟩
          have eo : sumTo (rT W.ties ns ts (inS s)) (enumD (W.ties.map tieD)).length = roomI W.ties ns ts (inS s) := by
            rw [enumD_len, List.length_map, roomI_eq, hl]
          rw [eo]
          refine sd_cons (s1_app (S := fun d => d = .int (roomI W.ties ns ts (inS s))) n3 rfl (by walk_at "fc ev") (by rw [List.length_map]; omega) ?_ fun d hd => ?_)
          · refine (show oneOw _ 3 = (notOw y6 && (notOw y7 && true)) from rfl).trans ?_
            rw [h6, h7]
            rfl
          · subst hd
            refine sd_nil ⟨.fz (.lst (s.map .str)), .fz (.int (roomI W.ties ns ts (inS s))), y6, y7, ?_, h6, h7⟩
            rw [etk, List.map_append]
            rfl
    · rintro env ⟨x4, x5, x6, x7, rfl, h6, h7⟩
      have hm : CallD X "min" [.lst (((sidesI W).map fun s => roomI W.ties ns ts (inS s)).map .int)] (.int (leastI W ns ts)) := cd_minL b.calm fun e => sidesI_ne W (List.map_eq_nil_iff.mp e)
      refine sd_ret (PV.thaw (d := .int (leastI W ns ts)) ?_ rfl) rfl
      rw [List.length_map, List.take_length]
      show PV X _ [.fz (.tup [.lst (W.places.map .str), .lst (W.ties.map tieD), .str W.first, .str W.last]), .fz (.lst (ns.map .int)), .fz (.lst (ts.map .int)), .fz (.lst (((sidesI W).map fun s => roomI W.ties ns ts (inS s)).map .int)), thaw1 x4, thaw1 x5, thaw1 x6, thaw1 x7] _
      walk_at "fc ev"
end
end Fc

namespace Fc
open PySem PySem.Spec PyProof.Rows L2
/-! ### the law's own defs: most, right -/
theorem back_in {q : Int × Int} {B : Int} (f : Fr q) (hB : 0 < B) (h : q.2 ∣ B) : low (q.1 * (B / q.2)) B = q := by
  refine (f.low hB ?_).symm
  rw [Int.mul_assoc, Int.ediv_mul_cancel h]
theorem inB_back {W : Web} {qs : List (Int × Int)} {ts : List Int} (h : RmOk W qs ts) : (inB (botF qs) qs).map (fun x => low x (botF qs)) = qs := by
  unfold inB
  rw [List.map_map]
  refine (List.map_congr_left (g := id) fun q hq => ?_).trans (List.map_id _)
  exact back_in (h.r.fr q hq).1 h.bot.1 (h.bot.2.2 q hq)
theorem inB_frD {W : Web} {qs : List (Int × Int)} {ts : List Int} (h : RmOk W qs ts) : (inB (botF qs) qs).map (fq (botF qs)) = qs.map frD := by
  have := map_fq (inB (botF qs) qs) (botF qs)
  rw [inB_back h] at this
  exact this.symm
theorem roomI_sz {W : Web} {ns ts : List Int} {S : Str → Bool} {n : Nat} (hl : ns.length ≤ 14) (h : ∀ x ∈ ns, Sz n x) : Sz (n + 5) (roomI W.ties ns ts S) := by
  unfold roomI
  refine sz_many (k := (((List.range ns.length).filter (outB W.ties ts S)).map fun k => ns.getD k 0).length) (sum_abs _ _ fun z hz => ?_) ?_
  · obtain ⟨k, _, rfl⟩ := List.mem_map.mp hz
    rcases getD_mem_or ns k with e | e
    · exact Nat.le_of_lt (h _ e)
    · rw [e]
      simp
  · have := List.length_filter_le (outB W.ties ts S) (List.range ns.length)
    rw [List.length_range] at this
    rw [List.length_map]
    omega
theorem leastI_sz {W : Web} {ns ts : List Int} {n : Nat} (hl : ns.length ≤ 14) (h : ∀ x ∈ ns, Sz n x) : Sz (n + 5) (leastI W ns ts) := by
  have hne : (sidesI W).map (fun s => roomI W.ties ns ts (inS s)) ≠ [] := fun e => sidesI_ne W (List.map_eq_nil_iff.mp e)
  obtain ⟨s, _, e⟩ := List.mem_map.mp (minL_mem hne).1
  unfold leastI
  rw [← e]
  exact roomI_sz hl h
theorem inL_sz {qs : List (Int × Int)} (h : ∀ q ∈ qs, 0 < q.2 ∧ Sz 100 q.1) : ∀ x ∈ inB bigL qs, Sz 142 x := fun x hx => by
  obtain ⟨q, hq, rfl⟩ := List.mem_map.mp hx
  obtain ⟨h1, h2⟩ := h q hq
  refine h2.mul (b := 42) ((sz_bigL (x := bigL) (by decide) (Int.dvd_refl _)).of_le ?_)
  have h4 : 0 ≤ bigL / q.2 := Int.ediv_nonneg (by decide) (by omega)
  have h5 : bigL / q.2 ≤ bigL := Int.ediv_le_self _ (by decide)
  omega
section
variable {P : Program} {w : World} {K : PySem.W.Frag} {mg : Str → Option Value} {base : Heap} {C : Addr}
inductive R_law_most : List Dt → (Dt → Prop) → Prop
  | mk (W : Web) (qs : List (Int × Int)) (ts : List Int) (h : RmOk W qs ts) : R_law_most [webD W, .lst (qs.map frD), .lst (ts.map .int)] (fun d => d = frD (low (leastI W (inB bigL qs) ts) bigL))
theorem ok_law_most (T : Tx K mg C) : Cal P w K mg base "_law_most" 9 R_law_most := by
  refine def_cal 8 T.d_law_most sc_law_most hb_law_most (fun ds S h => by cases h; rfl) (fun X b ds S h => ?_)
  cases h with
  | mk W qs ts h =>
    have n0 := b.nm (x := "_law_web_here") (i := 0) (by decide +kernel)
    have n1 := b.nm (x := "_law_rooms_here") (i := 1) (by decide +kernel)
    have n2 := b.nm (x := "_law_taking") (i := 2) (by decide +kernel)
    have n3 := b.nm (x := "_law_flow") (i := 3) (by decide +kernel)
    have n4 := b.nm (x := "_law_side") (i := 4) (by decide +kernel)
    have n5 := b.nm (x := "_law_amount") (i := 5) (by decide +kernel)
    have l3 := b.lo (x := "_law_flow") (i := 3) (by decide +kernel)
    have l4 := b.lo (x := "_law_side") (i := 4) (by decide +kernel)
    have l5 := b.lo (x := "_law_amount") (i := 5) (by decide +kernel)
    have c1 := (ok_most_flow T).at b.toBs (by decide) (by decide +kernel)
    have c2 := (ok_amount_of T).at b.toBs (by decide) (by decide +kernel)
    have c3 := (ok_law_going T).at b.toBs (by decide) (by decide +kernel)
    have c4 := (ok_room_of T).at b.toBs (by decide) (by decide +kernel)
    obtain ⟨hB1, hB2, hB3⟩ := h.bot
    have zB : Sz 1000 (botF qs) := (sz_bigL hB1 hB2).mono (by decide)
    show SD X _ [.fz (.tup [.lst (W.places.map .str), .lst (W.ties.map tieD), .str W.first, .str W.last]), .fz (.lst (qs.map frD)), .fz (.lst (ts.map .int)), .un, .un, .un] _
    refine sd_unpQ (is := [3, 4]) b.calm (.cons l3 (.cons l4 .nil)) (pq_call c1 (by walk_at "fc evs") (.mk W qs ts h)) ?_
    rintro d ⟨a, fs, rfl, hF⟩
    refine ⟨_, rfl, rfl, ?_⟩
    have za : ∀ x ∈ a, Sz 1000 x := fun x hx => (h.szA hF.fl x hx).mono (by decide)
    have ha := hF.fl.la
    have r2 : R_amount_of [.tup [.lst (W.places.map .str), .lst (W.ties.map tieD), .str W.first, .str W.last], .lst (a.map (fq (botF qs)))] (fun d => d = fq (botF qs) (goI (W.ties.zip a) W.first)) := .mk W h.w a _ hB1 zB za ha
    have r3 : R_law_going [.tup [.lst (W.places.map .str), .lst (W.ties.map tieD), .str W.first, .str W.last], .lst (a.map (fq (botF qs))), .str W.first] (fun d => d = fq (botF qs) (goI (W.ties.zip a) W.first)) := .mk W h.w a _ hB1 zB za ha W.first
    have r4 : R_room_of [.tup [.lst (W.places.map .str), .lst (W.ties.map tieD), .str W.first, .str W.last], .lst (qs.map frD), .lst (ts.map .int), .lst ((sideOf W fs).map .str)] (fun d => d = fq (botF qs) (goI (W.ties.zip a) W.first)) := by
      have := R_room_of.mk W h.w (inB (botF qs) qs) _ hB1 zB (fun x hx => (h.sz x hx).mono (by decide)) (by rw [inB_back h]; exact h.r) ts h.t h.t14 (sideOf W fs) (sideOf_ok h.w hF)
      rw [inB_frD h, full_room h hF] at this
      exact this
    have eX : fq (botF qs) (goI (W.ties.zip a) W.first) = frD (low (leastI W (inB bigL qs) ts) bigL) := congrArg frD (full_amount h hF)
    rw [eX] at r2 r3 r4
    generalize low (leastI W (inB bigL qs) ts) bigL = q at r2 r3 r4
    obtain ⟨q1, q2⟩ := q
    have cc : CmpD X .NotEq (.tup [.int q1, .int q2]) (.tup [.int q1, .int q2]) (!decide (q1 = q1 ∧ q2 = q2)) := cmp_neTI b.room
    show SD X _ [.fz (.tup [.lst (W.places.map .str), .lst (W.ties.map tieD), .str W.first, .str W.last]), .fz (.lst (qs.map frD)), .fz (.lst (ts.map .int)), .fz (.lst (a.map (fq (botF qs)))), .fz (.lst ((sideOf W fs).map .str)), .un] _
    refine sd_asg (d := .tup [.int q1, .int q2]) (by walk_at "fc ev") l5 ?_
    show SD X _ [.fz (.tup [.lst (W.places.map .str), .lst (W.ties.map tieD), .str W.first, .str W.last]), .fz (.lst (qs.map frD)), .fz (.lst (ts.map .int)), .fz (.lst (a.map (fq (botF qs)))), .fz (.lst ((sideOf W fs).map .str)), .fz (.tup [.int q1, .int q2])] _
    refine sd_no (pb_or (k := !decide (q1 = q1 ∧ q2 = q2)) (k' := !decide (q1 = q1 ∧ q2 = q2)) (pb_cmp (x := .tup [.int q1, .int q2]) (y := .tup [.int q1, .int q2]) (by walk_at "fc ev") (by walk_at "fc ev") cc) (fun _ => pb_cmp (x := .tup [.int q1, .int q2]) (y := .tup [.int q1, .int q2]) (by walk_at "fc ev") (by walk_at "fc ev") cc)) (by simp) ?_
    exact sd_ret (by walk_at "fc ev") (by rfl)
inductive R_law_right : List Dt → (Dt → Prop) → Prop
  | mk (W : Web) (qs : List (Int × Int)) (ts : List Int) (h : RmOk W qs ts) : R_law_right [webD W, .lst (qs.map frD), .lst ((inB bigL qs).map .int), .lst (ts.map .int)] (fun d => d = .int (leastI W (inB bigL qs) ts))
theorem ok_law_right (T : Tx K mg C) : Cal P w K mg base "_law_right" 10 R_law_right := by
  refine def_cal 9 T.d_law_right sc_law_right hb_law_right (fun ds S h => by cases h; rfl) (fun X b ds S h => ?_)
  cases h with
  | mk W qs ts h =>
    have n0 := b.nm (x := "_law_web_here") (i := 0) (by decide +kernel)
    have n1 := b.nm (x := "_law_rooms_here") (i := 1) (by decide +kernel)
    have n2 := b.nm (x := "_law_numbers") (i := 2) (by decide +kernel)
    have n3 := b.nm (x := "_law_taking") (i := 3) (by decide +kernel)
    have n4 := b.nm (x := "_law_amount") (i := 4) (by decide +kernel)
    have n5 := b.nm (x := "_law_least") (i := 5) (by decide +kernel)
    have l4 := b.lo (x := "_law_amount") (i := 4) (by decide +kernel)
    have l5 := b.lo (x := "_law_least") (i := 5) (by decide +kernel)
    have c1 := (ok_law_most T).at b.toBs (by decide) (by decide +kernel)
    have c2 := (ok_law_least_room T).at b.toBs (by decide) (by decide +kernel)
    have hlq := h.r.len
    have t14 := h.w.t14
    have hll : (inB bigL qs).length = W.ties.length := by unfold inB; rw [List.length_map, hlq]
    have r1 := R_law_most.mk W qs ts h
    have r2 := R_law_least_room.mk W h.w (inB bigL qs) ts hll
    have z1 : Sz 147 (leastI W (inB bigL qs) ts) := leastI_sz (by omega) (inL_sz fun q hq => ⟨(h.b.each q hq).1, h.z q hq⟩)
    have hm := low_mul (t := leastI W (inB bigL qs) ts) bigL_pos
    have z2 := low_sz bigL_pos z1
    have z3 := low_sz2 (x := leastI W (inB bigL qs) ts) bigL_pos (sz_bigL (x := bigL) (by decide) (Int.dvd_refl _))
    generalize low (leastI W (inB bigL qs) ts) bigL = q at r1 hm z2 z3
    generalize leastI W (inB bigL qs) ts = le at r2 hm z1
    have k1 : CMulW q.1 bigL := mulOk z2 (sz_bigL (x := bigL) (by decide) (Int.dvd_refl _))
    have k1 : CMulW q.1 2329089562800 := k1
    have k2 : CMulW le q.2 := mulOk z1 z3
    refine sd_asg (d := .tup [.int q.1, .int q.2]) (by walk_at "fc ev") l4 ?_
    refine sd_no (k := isNon (.tup [.int q.1, .int q.2])) (by walk_at "fc t") (by rfl) ?_
    refine sd_asg (by walk_at "fc ev") l5 ?_
    refine sd_no (k := !decide (q.1 * 2329089562800 = le * q.2)) (by walk_at "fc t") ?_ ?_
    · have : q.1 * 2329089562800 = le * q.2 := hm
      simp [this]
    · exact sd_ret (by walk_at "fc ev") (by rfl)
end
end Fc

namespace Fc
open PySem PySem.Spec PyProof.Rows L2
/-! ### the law's own defs: names -/
def cpl (s : Str) : List Nat := s.cps.toList
def ofL (l : List Nat) : Str := ⟨l.toArray⟩
theorem cpl_ofL (l : List Nat) : cpl (ofL l) = l := by simp [cpl, ofL]
theorem cpl_inj {a b : Str} (h : cpl a = cpl b) : a = b := TL.ext_tl h
theorem cpl_app (a b : Str) : cpl (a ++ b) = cpl a ++ cpl b := TL.tl_append a b
theorem cpl_len (a : Str) : a.length = (cpl a).length := by simp [cpl, Str.length]
theorem ofL_cpl (a : Str) : ofL (cpl a) = a := cpl_inj (cpl_ofL _)
theorem joinL_nil : ∀ ys : List (List Nat), TL.joinL [] ys = ys.flatten
  | [] => rfl
  | [p] => by simp [TL.joinL]
  | p :: q :: r => by
    show p ++ ([] ++ TL.joinL [] (q :: r)) = _
    rw [joinL_nil (q :: r)]
    simp
theorem cpl_join (ys : List Str) : cpl (Txt.join (Str.ofString "") ys) = (ys.map cpl).flatten := by
  have e := TL.tl_join (Str.ofString "") ys
  rw [← TL.join_eq] at e
  have e0 : TL.tl (Str.ofString "") = [] := by decide +kernel
  rw [e0, joinL_nil] at e
  exact e
def chrF (c : Int) : Nat := (cpl lettersS).getD c.toNat 0
def chS (c : Int) : Str := ⟨#[chrF c]⟩
theorem cpl_chS (c : Int) : cpl (chS c) = [chrF c] := by simp [cpl, chS]
theorem letters_len : (cpl lettersS).length = 26 := by decide +kernel
theorem letters_nd : (cpl lettersS).Nodup := by decide +kernel
theorem chr_at {c : Int} (h : 0 ≤ c ∧ c < 26) : atI lettersS.cps.toList c = some (chrF c) ∧ chrF c ∈ lettersS.cps.toList := by
  have hl : c.toNat < (cpl lettersS).length := by rw [letters_len]; omega
  have e : (cpl lettersS)[c.toNat]? = some (chrF c) := by
    unfold chrF
    rw [List.getD_eq_getElem?_getD, List.getElem?_eq_getElem hl]
    all_goals rfl
  refine ⟨?_, List.mem_of_getElem? e⟩
  have := atI_nat e
  rwa [Int.toNat_of_nonneg h.1] at this
theorem chr_inj {c d : Int} (hc : 0 ≤ c ∧ c < 26) (hd : 0 ≤ d ∧ d < 26) (h : chrF c = chrF d) : c = d := by
  have l1 : c.toNat < (cpl lettersS).length := by rw [letters_len]; omega
  have l2 : d.toNat < (cpl lettersS).length := by rw [letters_len]; omega
  have e : (cpl lettersS)[c.toNat]? = (cpl lettersS)[d.toNat]? := by
    unfold chrF at h
    rw [List.getD_eq_getElem?_getD, List.getD_eq_getElem?_getD, List.getElem?_eq_getElem l1, List.getElem?_eq_getElem l2] at h
    rw [List.getElem?_eq_getElem l1, List.getElem?_eq_getElem l2]
    exact congrArg some h
  have := (List.getElem?_inj l1 letters_nd).mp e
  omega
theorem nameOk_of {s : Str} (h1 : 1 ≤ (cpl s).length) (h2 : (cpl s).length ≤ 8) (h3 : ∀ c ∈ cpl s, c ∈ lettersS.cps.toList) : NameOk s := ⟨by rw [cpl_len]; exact h1, by rw [cpl_len]; exact h2, h3⟩
theorem NameOk.c1 {s : Str} (h : NameOk s) : 1 ≤ (cpl s).length ∧ (cpl s).length ≤ 8 := by
  have h1 := h.lo
  have h2 := h.hi
  rw [cpl_len] at h1 h2
  exact ⟨h1, h2⟩
theorem cut_last {α : Type} (xs : List α) : cut xs none (some (-1)) = xs.dropLast := by
  unfold cut
  have e : HT.sIx xs.length xs.length (some (-1)) = xs.length - 1 := by
    show (if (-1 : Int) < 0 then ((-1 : Int) + (xs.length : Int)).toNat else min (-1 : Int).toNat xs.length) = _
    rw [if_pos (by decide)]
    omega
  rw [e, HT.sIx_none, List.drop_zero, Nat.sub_zero, List.dropLast_eq_take]
theorem cpl_last (s : Str) : cpl (cutS s none (some (-1))) = (cpl s).dropLast := by
  unfold cpl
  rw [cutS_eq, cut_last]
theorem cpl_to (s : Str) (k : Nat) : cpl (cutS s none (some (k : Int))) = (cpl s).take k := by
  unfold cpl
  rw [cutS_eq]
  unfold cut
  rw [HT.sIx_none, HT.sIx_nat, List.drop_zero, Nat.sub_zero]
  by_cases h : k ≤ s.cps.toList.length
  · rw [Nat.min_eq_left h]
  · rw [Nat.min_eq_right (by omega), List.take_length, List.take_of_length_le (by omega)]
theorem cut_win {α : Type} (xs : List α) (a n : Nat) (h : a + n ≤ xs.length) : cut xs (some (a : Int)) (some ((a : Int) + (n : Int))) = (xs.drop a).take n := by
  unfold cut
  rw [show ((a : Int) + (n : Int)) = ((a + n : Nat) : Int) by omega, HT.sIx_nat, HT.sIx_nat, Nat.min_eq_left h, Nat.min_eq_left (show a ≤ xs.length by omega), Nat.add_sub_cancel_left]
theorem getD_mid (xs : List Int) (a n j : Nat) (h : j < n) : ((xs.drop a).take n).getD j 0 = xs.getD (a + j) 0 := by
  rw [List.getD_eq_getElem?_getD, List.getD_eq_getElem?_getD, List.getElem?_take, if_pos h, List.getElem?_drop]
theorem at_getD {xs : List Int} {j : Nat} (h : j < xs.length) : atI (xs.map Dt.int) (j : Int) = some (.int (xs.getD j 0)) := at_map (by rw [List.getD_eq_getElem?_getD, List.getElem?_eq_getElem h]; rfl)
/-- the letters tried -/
def tryL (pre : List Nat) (at0 : Int) (i : Nat) : Str := ofL (pre ++ [chrF ((at0 + (i : Int)) % 26)])
theorem tryL_inj {pre : List Nat} {at0 : Int} {i j : Nat} (hi : i < 26) (hj : j < 26) (h : tryL pre at0 i = tryL pre at0 j) : i = j := by
  have e := congrArg cpl h
  unfold tryL at e
  rw [cpl_ofL, cpl_ofL] at e
  have e := List.append_cancel_left e
  have e := (List.cons.inj e).1
  have := chr_inj ⟨Int.emod_nonneg _ (by decide), Int.emod_lt_of_pos _ (by decide)⟩ ⟨Int.emod_nonneg _ (by decide), Int.emod_lt_of_pos _ (by decide)⟩ e
  omega
theorem tried_le {pre : List Nat} {at0 : Int} {ns : List Str} : ∀ i, i < 25 → (∀ j, 0 < j → j ≤ i → tryL pre at0 j ∈ ns) → i ≤ ns.length := fun i hi h => by
  have hn : ((List.range i).map fun j => tryL pre at0 (j + 1)).Nodup := by
    rw [List.nodup_iff_pairwise_ne, List.pairwise_map]
    refine List.Pairwise.imp_of_mem (R := fun a b => a < b) (fun {a b} ha hb hab e => ?_) List.pairwise_lt_range
    rw [List.mem_range] at ha hb
    have := tryL_inj (by omega) (by omega) e
    omega
  have := List.Nodup.length_le_of_subset hn (fun x hx => by
    obtain ⟨j, hj, rfl⟩ := List.mem_map.mp hx
    rw [List.mem_range] at hj
    exact h (j + 1) (by omega) (by omega))
  simpa using this
theorem SD.nxi {X : Cx} {sts : List Stmt} {env : List Sl} {R : De} {Pr Pr' : List Sl → Prop} (h : SD X sts env { R with nx := Pr }) (hn : ∀ e, Pr e → Pr' e) : SD X sts env { R with nx := Pr' } :=
  PSs.weak h fun D σ H ⟨G0, H0, G, s, gd⟩ => ⟨G0, H0, G, s, fun σ G' H' env s x k => gd.nx σ G' H' env s x (hn _ k), gd.rt, gd.bk, gd.ct, gd.re⟩
/-- if without else, what holds behind it told once -/
theorem sd_whenP {X : Cx} {c : Expr} {a rest : List Stmt} {env : List Sl} {R : De} {k : Bool} {pos : Pos} (Pr : List Sl → Prop) (h : PB X c env k) (h1 : k = true → SD X a env { R with nx := Pr }) (h2 : k = false → Pr env) (hr : ∀ e, Pr e → SD X rest e R) : SD X (.If c a [] pos :: rest) env R :=
  sd_when h (fun e => SD.nxi (R := R) (h1 e) hr) fun e => hr _ (h2 e)
/-- what the numbers for names are like -/
structure NumOk (ds : List Int) (many : Nat) : Prop where
  len : 10 * many ≤ ds.length
  a : ∀ k, k < many → 0 ≤ ds.getD (10 * k) 0 ∧ ds.getD (10 * k) 0 < 8
  c : ∀ k, k < many → ∀ j, j < 8 → 0 ≤ ds.getD (10 * k + (2 + j)) 0 ∧ ds.getD (10 * k + (2 + j)) 0 < 26
section
variable {P : Program} {w : World} {K : PySem.W.Frag} {mg : Str → Option Value} {base : Heap} {C : Addr}
inductive R_law_names : List Dt → (Dt → Prop) → Prop
  | mk (ds : List Int) (many : Nat) (h7 : many ≤ 7) (h : NumOk ds many) (hl : ds.length ≤ 100) : R_law_names [.lst (ds.map .int), .int (many : Nat)] (fun d => ∃ ns : List Str, d = .lst (ns.map .str) ∧ ns.length = many ∧ ns.Nodup ∧ ∀ n ∈ ns, NameOk n)
theorem ok_law_names (T : Tx K mg C) : Cal P w K mg base "_law_names" 1 R_law_names := by
  refine def_cal 0 T.d_law_names sc_law_names hb_law_names (fun ds S h => by cases h; rfl) (fun X b ds S h => ?_)
  cases h with
  | mk ds many h7 h hl =>
    have n0 := b.nm (x := "_law_d") (i := 0) (by decide +kernel)
    have n1 := b.nm (x := "_law_many") (i := 1) (by decide +kernel)
    have n2 := b.nm (x := "_law_some") (i := 2) (by decide +kernel)
    have n3 := b.nm (x := "_law_names_here") (i := 3) (by decide +kernel)
    have n4 := b.nm (x := "_law_k") (i := 4) (by decide +kernel)
    have n5 := b.nm (x := "_law_e") (i := 5) (by decide +kernel)
    have n6 := b.nm (x := "_law_name") (i := 6) (by decide +kernel)
    have n7 := b.nm (x := "_law_at") (i := 7) (by decide +kernel)
    have l2 := b.lo (x := "_law_some") (i := 2) (by decide +kernel)
    have l3 := b.lo (x := "_law_names_here") (i := 3) (by decide +kernel)
    have l4 := b.lo (x := "_law_k") (i := 4) (by decide +kernel)
    have l5 := b.lo (x := "_law_e") (i := 5) (by decide +kernel)
    have l6 := b.lo (x := "_law_name") (i := 6) (by decide +kernel)
    have l7 := b.lo (x := "_law_at") (i := 7) (by decide +kernel)
    have g4 := b.b_range T (by decide +kernel)
    have sl := sizeLine_eq
    have hls : lettersS.length ≤ sizeLine := by rw [cpl_len, letters_len]; omega
    refine sd_asg (d := .str lettersS) pv_str l2 ?_
    show SD X _ [.fz (.lst (ds.map .int)), .fz (.int (many : Nat)), .fz (.str lettersS), .un, .un, .un, .un, .un, .un] _
    refine sd_cons (s1_newL l3 ?_)
    show SD X _ [.fz (.lst (ds.map .int)), .fz (.int (many : Nat)), .fz (.str lettersS), .ow [], .un, .un, .un, .un, .un] _
    refine sd_for b.po b.calm l4 (pid_range (k := (many : Nat)) g4 (by walk_at "fc ev") (by omega) (by omega)) (fun n env => ∃ (ns : List Str) (x4 x5 x6 x7 : Sl), env = [.fz (.lst (ds.map .int)), .fz (.int (many : Nat)), .fz (.str lettersS), .ow (ns.map .str), x4, x5, x6, x7, .un] ∧ ns.length = n ∧ ns.Nodup ∧ ∀ n ∈ ns, NameOk n) ⟨[], .un, .un, .un, .un, rfl, rfl, by simp, by simp⟩ ?_ ?_
    · rintro k d env hd ⟨ns, x4, x5, x6, x7, rfl, hnl, hnd, hno⟩
      obtain ⟨hk, rfl⟩ := range_at hd
      have hk : k < many := by simpa using hk
      have hlen := h.len
      obtain ⟨ha1, ha2⟩ := h.a k hk
      have hc := h.c k hk
      have km : CMulW 10 (k : Int) := mulOk (a := 4) (b := 4) (by unfold Sz; decide) (sz_of (m := 8) (by omega) (by omega) (by decide))
      have hcut : cut (ds.map Dt.int) (some (10 * (k : Int))) (some (10 * (k : Int) + 10)) = ((ds.drop (10 * k)).take 10).map .int := by
        have := cut_win (ds.map Dt.int) (10 * k) 10 (by rw [List.length_map]; omega)
        rw [← List.map_drop, ← List.map_take] at this
        rw [← this]
        congr 2
      have s1 : SlD X (.lst (ds.map .int)) (some (10 * (k : Int))) (some (10 * (k : Int) + 10)) (.lst (((ds.drop (10 * k)).take 10).map .int)) := by
        rw [← hcut]
        exact sl_lst
      have hel : ((ds.drop (10 * k)).take 10).length = 10 := by rw [List.length_take, List.length_drop]; omega
      have hg : ∀ j, j < 10 → ((ds.drop (10 * k)).take 10).getD j 0 = ds.getD (10 * k + j) 0 := fun j hj => getD_mid ds (10 * k) 10 j hj
      have hg0 := hg 0 (by decide)
      rw [Nat.add_zero] at hg0
      rw [← hg0] at ha1 ha2
      have hc : ∀ j, j < 8 → 0 ≤ ((ds.drop (10 * k)).take 10).getD (2 + j) 0 ∧ ((ds.drop (10 * k)).take 10).getD (2 + j) 0 < 26 := fun j hj => by
        rw [hg (2 + j) (by omega)]
        exact hc j hj
      refine sd_asg (by walk_at "fc ev") l5 ?_
      generalize (ds.drop (10 * k)).take 10 = es at hel ha1 ha2 hc
      clear hcut s1 hg hg0
      show SD X _ [.fz (.lst (ds.map .int)), .fz (.int (many : Nat)), .fz (.str lettersS), .ow (ns.map .str), .fz (.int (k : Nat)), .fz (.lst (es.map .int)), x6, x7, .un] _
      have e0 : atI (es.map Dt.int) 0 = some (.int (es.getD 0 0)) := at_getD (j := 0) (by omega)
      have e1 : atI (es.map Dt.int) 1 = some (.int (es.getD 1 0)) := at_getD (j := 1) (by omega)
      have e2 : atI (es.map Dt.int) 2 = some (.int (es.getD 2 0)) := at_getD (j := 2) (by omega)
      have e9 : atI (es.map Dt.int) 9 = some (.int (es.getD 9 0)) := at_getD (j := 9) (by omega)
      obtain ⟨c20, c26⟩ := hc 0 (by decide)
      rw [Nat.add_zero] at c20 c26
      generalize hz0 : es.getD 0 0 = z0 at e0 ha1 ha2
      generalize hz2 : es.getD 2 0 = z2 at e2 c20 c26
      -- the first name
      have hjs : ((((List.range (1 + z0).toNat).filter fun _ => true).map fun j : Nat => Dt.str (chS (es.getD (2 + j) 0)))) = ((List.range (1 + z0).toNat).map fun j => chS (es.getD (2 + j) 0)).map .str := by
        rw [List.filter_eq_self.mpr fun _ _ => rfl, List.map_map]
        all_goals rfl
      have hsum : ∀ js : List Nat, ((js.map fun j => chS (es.getD (2 + j) 0)).map (·.length)).sum = js.length := by
        intro js
        induction js with
        | nil => rfl
        | cons j js ih =>
          rw [List.map_cons, List.map_cons, List.sum_cons, ih, cpl_len, cpl_chS]
          simp only [List.length_cons, List.length_nil]
          omega
      have hcj : ∀ js : List Nat, ((js.map fun j => chS (es.getD (2 + j) 0)).map cpl).flatten = js.map fun j => chrF (es.getD (2 + j) 0) := by
        intro js
        induction js with
        | nil => rfl
        | cons j js ih =>
          rw [List.map_cons, List.map_cons, List.flatten_cons, ih, cpl_chS]
          rfl
      refine sd_asg (pv_join (y := Str.ofString "") (ss := (List.range (1 + z0).toNat).map fun j => chS (es.getD (2 + j) 0)) pv_str (PV.is (pv_lc (lcd_name (xs := List.range (1 + z0).toNat) (inj := fun j : Nat => Dt.int (j : Nat)) (i := 8) [("_law_j", 8)] (fun _ => true) (fun j : Nat => Dt.str (chS (es.getD (2 + j) 0))) b.calm b.eN b.eS b.nd (by rw [List.length_range]; omega) (pid_range g4 (by walk_at "fc ev") (by omega) (by omega)) (by decide +kernel) (by decide) rfl (by decide +kernel) (fun j Y hj y => ptd_no) (fun j Y hj hp y => ?_))) (by rw [hjs])) ?_) l6 ?_
      · have Bb := b.toBs.blk y
        have y2 := Bb.nm (x := "_law_some") (i := 2) (by decide +kernel)
        have y5 := Bb.nm (x := "_law_e") (i := 5) (by decide +kernel)
        have y8 := Bb.nm (x := "_law_j") (i := 8) (by decide +kernel)
        rw [List.mem_range] at hj
        have ej : atI (es.map Dt.int) (2 + (j : Int)) = some (.int (es.getD (2 + j) 0)) := by
          have := at_getD (xs := es) (j := 2 + j) (by omega)
          rw [show ((2 + j : Nat) : Int) = 2 + (j : Int) by omega] at this
          exact this
        obtain ⟨c1, c2⟩ := chr_at (hc j (by omega))
        unfold chS
        walk_at "fc ev"
      · rw [hsum, List.length_range, show (Str.ofString "").length = 0 by decide +kernel]
        omega
      · have hcp : cpl (Txt.join (Str.ofString "") ((List.range (1 + z0).toNat).map fun j => chS (es.getD (2 + j) 0))) = (List.range (1 + z0).toNat).map fun j => chrF (es.getD (2 + j) 0) := by rw [cpl_join, hcj]
        have hno1 : NameOk (Txt.join (Str.ofString "") ((List.range (1 + z0).toNat).map fun j => chS (es.getD (2 + j) 0))) := by
          refine nameOk_of ?_ ?_ ?_
          · rw [hcp, List.length_map, List.length_range]; omega
          · rw [hcp, List.length_map, List.length_range]; omega
          · intro c hcm
            rw [hcp] at hcm
            obtain ⟨j, hj, rfl⟩ := List.mem_map.mp hcm
            rw [List.mem_range] at hj
            exact (chr_at (hc j (by omega))).2
        generalize Txt.join (Str.ofString "") ((List.range (1 + z0).toNat).map fun j => chS (es.getD (2 + j) 0)) = nm1 at hno1
        show SD X _ [.fz (.lst (ds.map .int)), .fz (.int (many : Nat)), .fz (.str lettersS), .ow (ns.map .str), .fz (.int (k : Nat)), .fz (.lst (es.map .int)), .fz (.str nm1), x7, .un] _
        refine sd_whenP (fun env => ∃ nm, env = [.fz (.lst (ds.map .int)), .fz (.int (many : Nat)), .fz (.str lettersS), .ow (ns.map .str), .fz (.int (k : Nat)), .fz (.lst (es.map .int)), .fz (.str nm), x7, .un] ∧ NameOk nm) (k := decide (0 < (k : Int)) && decide (es.getD 1 0 = 0)) (by walk_at "fc t") (fun hcnd => ?_) (fun _ => ⟨nm1, rfl, hno1⟩) ?_
        · rw [Bool.and_eq_true, decide_eq_true_eq] at hcnd
          have hk0 := hcnd.1
          obtain ⟨pv, hpv⟩ : ∃ p, ns[k - 1]? = some p := ⟨_, List.getElem?_eq_getElem (by omega)⟩
          have hpo := hno pv (List.mem_of_getElem? hpv)
          have hix : atI (ns.map Dt.str) ((k : Int) - 1) = some (.str pv) := by
            have := at_map (f := Dt.str) hpv
            rw [show (((k - 1 : Nat) : Int)) = (k : Int) - 1 by omega] at this
            exact this
          have hsz := hpo.size
          obtain ⟨c1, c2⟩ := chr_at (c := z2) ⟨c20, c26⟩
          obtain ⟨q1, q2⟩ := hpo.c1
          have ez : z0 = ((z0.toNat : Nat) : Int) := by omega
          have hcl : cpl (cutS pv none (some z0)) = (cpl pv).take z0.toNat := by
            rw [ez, cpl_to]
            rfl
          have hs2 : (cutS pv none (some z0)).length + (chS z2).length ≤ sizeLine := by
            rw [cpl_len, cpl_len, hcl, cpl_chS, List.length_take, List.length_singleton]
            omega
          refine sd_asg (d := .str (cutS pv none (some z0) ++ chS z2)) (PV.thaw (by
            show PV X _ [.fz (.lst (ds.map .int)), .fz (.int (many : Nat)), .fz (.str lettersS), .fz (.lst (ns.map .str)), .fz (.int (k : Nat)), .fz (.lst (es.map .int)), .fz (.str nm1), thaw1 x7, .un] _
            exact pv_bin (pv_slice (by walk_at "fc ev") po_no (po_yes (by walk_at "fc ev")) (sl_st hsz)) (by unfold chS; walk_at "fc ev") (bin_addS hs2)) rfl) l6 (sd_nil ⟨_, rfl, ?_⟩)
          refine nameOk_of ?_ ?_ ?_
          · rw [cpl_app, cpl_chS, List.length_append, List.length_singleton]
            omega
          · rw [cpl_app, cpl_chS, List.length_append, List.length_singleton, hcl, List.length_take]
            omega
          · intro c hcm
            rw [cpl_app, cpl_chS, hcl] at hcm
            rcases List.mem_append.mp hcm with z | z
            · exact hpo.abc c (List.mem_of_mem_take z)
            · rw [List.mem_singleton] at z
              rw [z]
              exact c2
        · rintro env ⟨nm, rfl, hnm⟩
          refine sd_asg (by walk_at "fc ev") l7 ?_
          generalize es.getD 9 0 = at0
          show SD X _ [.fz (.lst (ds.map .int)), .fz (.int (many : Nat)), .fz (.str lettersS), .ow (ns.map .str), .fz (.int (k : Nat)), .fz (.lst (es.map .int)), .fz (.str nm), .fz (.int at0), .un] _
          refine sd_while b.po (fun m env => ∃ (i : Nat) (nm' : Str), env = [.fz (.lst (ds.map .int)), .fz (.int (many : Nat)), .fz (.str lettersS), .ow (ns.map .str), .fz (.int (k : Nat)), .fz (.lst (es.map .int)), .fz (.str nm'), .fz (.int (at0 + (i : Int))), .un] ∧ NameOk nm' ∧ (cpl nm').dropLast = (cpl nm).dropLast ∧ (0 < i → nm' = tryL (cpl nm).dropLast at0 i) ∧ (∀ j, 0 < j → j < i → tryL (cpl nm).dropLast at0 j ∈ ns) ∧ i ≤ 8 ∧ m = 30 - i) _ ⟨0, nm, by rw [show at0 + ((0 : Nat) : Int) = at0 by omega], hnm, rfl, fun z => by omega, fun j h1 h2 => by omega, by omega, rfl⟩ ?_
          rintro m env ⟨i, nm', rfl, hok, hdl, htry, hall, hi8, rfl⟩
          refine ⟨decide (nm' ∈ ns), PB.thaw (by
            show PB X _ [.fz (.lst (ds.map .int)), .fz (.int (many : Nat)), .fz (.str lettersS), .fz (.lst (ns.map .str)), .fz (.int (k : Nat)), .fz (.lst (es.map .int)), .fz (.str nm'), .fz (.int (at0 + (i : Int))), .un] _
            walk_at "fc t"), fun hin => ?_, fun hin => ?_⟩
          · rw [decide_eq_true_eq] at hin
            have hile : i ≤ ns.length := tried_le (pre := (cpl nm).dropLast) (at0 := at0) i (by omega) fun j h1 h2 => by
              by_cases e : j = i
              · subst e
                rw [← htry h1]
                exact hin
              · exact hall j h1 (by omega)
            refine sd_asg (by walk_at "fc ev") l7 ?_
            have ei : at0 + (i : Int) + 1 = at0 + ((i + 1 : Nat) : Int) := by omega
            rw [ei]
            show SD X _ [.fz (.lst (ds.map .int)), .fz (.int (many : Nat)), .fz (.str lettersS), .ow (ns.map .str), .fz (.int (k : Nat)), .fz (.lst (es.map .int)), .fz (.str nm'), .fz (.int (at0 + ((i + 1 : Nat) : Int))), .un] _
            have hr : 0 ≤ (at0 + ((i + 1 : Nat) : Int)) % 26 ∧ (at0 + ((i + 1 : Nat) : Int)) % 26 < 26 := ⟨Int.emod_nonneg _ (by decide), Int.emod_lt_of_pos _ (by decide)⟩
            obtain ⟨c1, c2⟩ := chr_at hr
            obtain ⟨q1, q2⟩ := hok.c1
            have hsz := hok.size
            have hap : cutS nm' none (some (-1)) ++ chS ((at0 + ((i + 1 : Nat) : Int)) % 26) = tryL (cpl nm).dropLast at0 (i + 1) := by
              refine cpl_inj ?_
              rw [cpl_app, cpl_last, cpl_chS, hdl]
              unfold tryL
              rw [cpl_ofL]
            have hs2 : (cutS nm' none (some (-1))).length + (chS ((at0 + ((i + 1 : Nat) : Int)) % 26)).length ≤ sizeLine := by
              rw [cpl_len, cpl_len, cpl_last, cpl_chS, List.length_dropLast, List.length_singleton]
              omega
            refine sd_asg (d := .str (cutS nm' none (some (-1)) ++ chS ((at0 + ((i + 1 : Nat) : Int)) % 26))) (pv_bin (pv_slice (by walk_at "fc ev") po_no (po_yes (pv_neg pv_int)) (sl_st hsz)) (by unfold chS; walk_at "fc ev") (bin_addS hs2)) l6 ?_
            rw [hap]
            refine sd_nil ⟨30 - (i + 1), by omega, i + 1, tryL (cpl nm).dropLast at0 (i + 1), rfl, ?_, ?_, fun _ => rfl, fun j h1 h2 => ?_, by omega, rfl⟩
            · obtain ⟨p1, p2⟩ := hnm.c1
              refine nameOk_of ?_ ?_ ?_
              · unfold tryL
                rw [cpl_ofL, List.length_append, List.length_singleton]
                omega
              · unfold tryL
                rw [cpl_ofL, List.length_append, List.length_singleton, List.length_dropLast]
                omega
              · intro c hcm
                unfold tryL at hcm
                rw [cpl_ofL] at hcm
                rcases List.mem_append.mp hcm with z | z
                · exact hnm.abc c (List.dropLast_subset _ z)
                · rw [List.mem_singleton] at z
                  rw [z]
                  exact c2
            · unfold tryL
              rw [cpl_ofL, List.dropLast_concat]
            · by_cases e : j = i
              · subst e
                rw [← htry h1]
                exact hin
              · exact hall j h1 (by omega)
          · rw [decide_eq_false_iff_not] at hin
            refine sd_cons (s1_app (S := fun d => d = .str nm') n3 rfl (by walk_at "fc ev") (by rw [List.length_map]; omega) rfl fun d hd => ?_)
            subst hd
            refine sd_nil ⟨ns ++ [nm'], .fz (.int (k : Nat)), .fz (.lst (es.map .int)), .fz (.str nm'), .fz (.int (at0 + (i : Int))), ?_, ?_, ?_, ?_⟩
            · rw [List.map_append]
              rfl
            · rw [List.length_append, List.length_singleton, hnl]
            · rw [List.nodup_append]
              refine ⟨hnd, by simp, fun x hx y hy e => ?_⟩
              have : y = nm' := by simpa using hy
              subst this
              subst e
              exact hin hx
            · intro n hn
              rcases List.mem_append.mp hn with z | z
              · exact hno n z
              · have : n = nm' := by simpa using z
                rw [this]
                exact hok
    · rintro env ⟨ns, x4, x5, x6, x7, rfl, hnl, hnd, hno⟩
      refine sd_cons (s1_retL n3 rfl ⟨ns, rfl, ?_, hnd, hno⟩)
      rw [hnl, range_len, Int.toNat_natCast]
end
end Fc

namespace Fc
open PySem PySem.Spec PyProof.Rows L2
/-! ### the law's own defs: a tie, the cells -/
theorem at_D {α : Type} {xs : List α} {i : Nat} (d : α) (h : i < xs.length) : xs[i]? = some (xs.getD i d) := by
  rw [List.getD_eq_getElem?_getD, List.getElem?_eq_getElem h]
  rfl
abbrev top18 : Int := (10 : Int) ^ (18 : Int).toNat
def tops11 : List Int := [420, 60, 2, 5, top18, 30, 6, 5, top18, 30, 3]
theorem tops11_ok : ∀ t ∈ tops11, 0 < t ∧ Sz 64 t := by
  intro t ht
  have h18 : top18 = 1000000000000000000 := by decide
  unfold tops11 at ht
  rw [h18] at ht
  simp only [List.mem_cons, List.not_mem_nil, or_false] at ht
  rcases ht with rfl | rfl | rfl | rfl | rfl | rfl | rfl | rfl | rfl | rfl | rfl <;> exact ⟨by decide, by unfold Sz; decide⟩
structure E11 (e : List Int) : Prop where
  len : e.length = 11
  r0 : 0 ≤ e.getD 0 0
  r1 : 0 ≤ e.getD 1 0
  r2 : 0 ≤ e.getD 2 0 ∧ e.getD 2 0 < 2
  r3 : 0 ≤ e.getD 3 0 ∧ e.getD 3 0 < 5
  r4 : 0 ≤ e.getD 4 0 ∧ e.getD 4 0 < 10 ^ 18
  r5 : 0 ≤ e.getD 5 0 ∧ e.getD 5 0 < 30
  r7 : 0 ≤ e.getD 7 0 ∧ e.getD 7 0 < 5
  r8 : 0 ≤ e.getD 8 0 ∧ e.getD 8 0 < 10 ^ 18
  r9 : 0 ≤ e.getD 9 0 ∧ e.getD 9 0 < 30
theorem e11_of (c : Int) : E11 (drawsF c tops11) := by
  have h := draws_in c tops11 fun t ht => (tops11_ok t ht).1
  refine ⟨draws_len c tops11, (h 0 (by decide)).1, (h 1 (by decide)).1, h 2 (by decide), h 3 (by decide), h 4 (by decide), h 5 (by decide), h 7 (by decide), h 8 (by decide), h 9 (by decide)⟩
def tAt (e : List Int) (k n : Int) : Int := if e.getD 10 0 = 0 then k % (n - 1) else e.getD 0 0 % n
def tOt (e : List Int) (k n : Int) : Int := if e.getD 10 0 = 0 then k % (n - 1) + 1 else (e.getD 0 0 % n + 1 + e.getD 1 0 % (n - 1)) % n
def tWo (e : List Int) : Option (Int × Int) := if 0 < e.getD 6 0 then some (if (fracF (e.getD 7 0) (e.getD 8 0) (e.getD 9 0)).1 = 0 then (1, 1) else fracF (e.getD 7 0) (e.getD 8 0) (e.getD 9 0)) else none
def tieE (e : List Int) (k : Int) (walk : List Str) : Tie :=
  ⟨walk.getD (tAt e k walk.length).toNat (Str.ofString ""), walk.getD (tOt e k walk.length).toNat (Str.ofString ""), decide (e.getD 2 0 = 1), fracF (e.getD 3 0) (e.getD 4 0) (e.getD 5 0), tWo e⟩
def tieF (c : Int) (k : Int) (walk : List Str) : Tie := tieE (drawsF c tops11) k walk
structure WalkOk (ps : List Str) (walk : List Str) : Prop where
  l2 : 2 ≤ walk.length
  l7 : walk.length ≤ 7
  nd : walk.Nodup
  sub : ∀ p ∈ walk, p ∈ ps
  nm : ∀ p ∈ walk, NameOk p
theorem tAt_in {e : List Int} (h : E11 e) {k n : Int} (hn : 2 ≤ n) (hk : 0 ≤ k) : 0 ≤ tAt e k n ∧ tAt e k n < n ∧ 0 ≤ tOt e k n ∧ tOt e k n < n ∧ tAt e k n ≠ tOt e k n := by
  unfold tAt tOt
  have a1 := Int.emod_nonneg k (b := n - 1) (by omega)
  have a2 := Int.emod_lt_of_pos k (b := n - 1) (by omega)
  have a3 := Int.emod_nonneg (e.getD 0 0) (b := n) (by omega)
  have a4 := Int.emod_lt_of_pos (e.getD 0 0) (b := n) (by omega)
  have a5 := Int.emod_nonneg (e.getD 1 0) (b := n - 1) (by omega)
  have a6 := Int.emod_lt_of_pos (e.getD 1 0) (b := n - 1) (by omega)
  have a7 := Int.emod_nonneg (e.getD 0 0 % n + 1 + e.getD 1 0 % (n - 1)) (b := n) (by omega)
  have a8 := Int.emod_lt_of_pos (e.getD 0 0 % n + 1 + e.getD 1 0 % (n - 1)) (b := n) (by omega)
  by_cases hz : e.getD 10 0 = 0
  · rw [if_pos hz, if_pos hz]
    omega
  · rw [if_neg hz, if_neg hz]
    refine ⟨a3, a4, a7, a8, fun q => ?_⟩
    generalize e.getD 0 0 % n = u at *
    generalize e.getD 1 0 % (n - 1) = v at *
    by_cases hlt : u + 1 + v < n
    · rw [Int.emod_eq_of_lt (by omega) hlt] at q
      omega
    · have : (u + 1 + v) % n = u + 1 + v - n := by
        rw [← Int.sub_emod_right, Int.emod_eq_of_lt (by omega) (by omega)]
      omega
theorem tieE_ok {e : List Int} (h : E11 e) {k : Int} {ps walk : List Str} (w : WalkOk ps walk) (hk : 0 ≤ k) : TieOk ps (tieE e k walk) := by
  have hl2 := w.l2
  obtain ⟨a1, a2, b1, b2, ne⟩ := tAt_in h (k := k) (n := walk.length) (by omega) hk
  have hA : walk[(tAt e k walk.length).toNat]? = some (tieE e k walk).one := by
    exact at_D _ (by omega)
  have hB : walk[(tOt e k walk.length).toNat]? = some (tieE e k walk).other := by
    exact at_D _ (by omega)
  have f1 := fracF_ok h.r3 h.r4 h.r5
  have f2 := fracF_ok h.r7 h.r8 h.r9
  refine ⟨w.nm _ (List.mem_of_getElem? hA), w.nm _ (List.mem_of_getElem? hB), fun q => ?_, w.sub _ (List.mem_of_getElem? hA), w.sub _ (List.mem_of_getElem? hB), f1.fr, f1.nn, fun q hq => ?_⟩
  · rw [← q] at hB
    have := (List.getElem?_inj (by omega) w.nd).mp (hA.trans hB.symm)
    omega
  · have hq : tWo e = some q := hq
    unfold tWo at hq
    split at hq
    · cases hq
      by_cases z : (fracF (e.getD 7 0) (e.getD 8 0) (e.getD 9 0)).1 = 0
      · rw [if_pos z]
        exact ⟨⟨by decide, by decide⟩, by decide⟩
      · rw [if_neg z]
        have := f2.nn
        exact ⟨f2.fr, by omega⟩
    · cases hq
section
variable {P : Program} {w : World} {K : PySem.W.Frag} {mg : Str → Option Value} {base : Heap} {C : Addr}
inductive R_law_tie : List Dt → (Dt → Prop) → Prop
  | mk (c : Int) (k : Nat) (ps walk : List Str) (hk : k < 100) (h : WalkOk ps walk) : R_law_tie [.int c, .int (k : Nat), .lst (walk.map .str)] (fun d => d = tieD (tieF c (k : Nat) walk))
theorem ok_law_tie (T : Tx K mg C) : Cal P w K mg base "_law_tie" 3 R_law_tie := by
  refine def_cal 2 T.d_law_tie sc_law_tie hb_law_tie (fun ds S h => by cases h; rfl) (fun X b ds S h => ?_)
  cases h with
  | mk c k ps walk hk h =>
    have n0 := b.nm (x := "_law_cell") (i := 0) (by decide +kernel)
    have n1 := b.nm (x := "_law_k") (i := 1) (by decide +kernel)
    have n2 := b.nm (x := "_law_walk") (i := 2) (by decide +kernel)
    have n3 := b.nm (x := "_law_d") (i := 3) (by decide +kernel)
    have n4 := b.nm (x := "_law_at") (i := 4) (by decide +kernel)
    have n5 := b.nm (x := "_law_other") (i := 5) (by decide +kernel)
    have n6 := b.nm (x := "_law_worth") (i := 6) (by decide +kernel)
    have l3 := b.lo (x := "_law_d") (i := 3) (by decide +kernel)
    have l4 := b.lo (x := "_law_at") (i := 4) (by decide +kernel)
    have l5 := b.lo (x := "_law_other") (i := 5) (by decide +kernel)
    have l6 := b.lo (x := "_law_worth") (i := 6) (by decide +kernel)
    have g3 := b.b_len T (by decide +kernel)
    have c1 := (ok_law_draws T).at b.toBs (by decide) (by decide +kernel)
    have c2 := (ok_law_fraction T).at b.toBs (by decide) (by decide +kernel)
    have hpw : CPow 10 18 := ⟨by decide, by decide, by decide⟩
    have r1 : R_law_draws [.int c, .lst [.int 420, .int 60, .int 2, .int 5, .int top18, .int 30, .int 6, .int 5, .int top18, .int 30, .int 3]] (fun d => d = .lst ((drawsF c tops11).map .int)) := R_law_draws.mk c tops11 tops11_ok (by decide)
    have E := e11_of c
    show SD X _ _ ⟨_, fun d => d = tieD (tieE (drawsF c tops11) (k : Nat) walk), _, _, _⟩
    refine sd_asg (by walk_at "fc ev") l3 ?_
    generalize drawsF c tops11 = e at E
    have hl := E.len
    have hl2 := h.l2
    have i0 : atI (e.map Dt.int) 0 = some (.int (e.getD 0 0)) := at_getD (j := 0) (by omega)
    have i1 : atI (e.map Dt.int) 1 = some (.int (e.getD 1 0)) := at_getD (j := 1) (by omega)
    have i2 : atI (e.map Dt.int) 2 = some (.int (e.getD 2 0)) := at_getD (j := 2) (by omega)
    have i6 : atI (e.map Dt.int) 6 = some (.int (e.getD 6 0)) := at_getD (j := 6) (by omega)
    have i10 : atI (e.map Dt.int) 10 = some (.int (e.getD 10 0)) := at_getD (j := 10) (by omega)
    have cutE : ∀ a : Nat, a + 3 ≤ 11 → cut (e.map Dt.int) (some (a : Int)) (some ((a : Int) + (3 : Nat))) = [.int (e.getD a 0), .int (e.getD (a + 1) 0), .int (e.getD (a + 2) 0)] := fun a ha => by
      rw [cut_win _ _ _ (by rw [List.length_map]; omega), ← List.map_drop, ← List.map_take]
      have : (e.drop a).take 3 = [e.getD a 0, e.getD (a + 1) 0, e.getD (a + 2) 0] := by
        refine List.ext_getElem? fun j => ?_
        rw [List.getElem?_take, List.getElem?_drop]
        split
        · rename_i hj
          have : j = 0 ∨ j = 1 ∨ j = 2 := by omega
          rcases this with rfl | rfl | rfl
          · exact at_D _ (by omega)
          · exact at_D _ (by omega)
          · exact at_D _ (by omega)
        · rename_i hj
          rw [List.getElem?_eq_none]
          simp
          omega
      rw [this]
      rfl
    have s7 : SlD X (.lst (e.map .int)) (some 7) (some 10) (.lst [.int (e.getD 7 0), .int (e.getD 8 0), .int (e.getD 9 0)]) := by
      have := cutE 7 (by decide)
      rw [← this]
      exact sl_lst
    have s3 : SlD X (.lst (e.map .int)) (some 3) (some 6) (.lst [.int (e.getD 3 0), .int (e.getD 4 0), .int (e.getD 5 0)]) := by
      have := cutE 3 (by decide)
      rw [← this]
      exact sl_lst
    have r3 := R_law_fraction.mk _ _ _ E.r3 E.r4 E.r5
    have r7 := R_law_fraction.mk _ _ _ E.r7 E.r8 E.r9
    have hn0 : (0 : Int) < ((walk.map Dt.str).length : Nat) := by rw [List.length_map]; omega
    have hn1 : (0 : Int) < ((walk.map Dt.str).length : Nat) - 1 := by rw [List.length_map]; omega
    have eln : (((walk.map Dt.str).length : Nat) : Int) = (walk.length : Nat) := by rw [List.length_map]
    show SD X _ [.fz (.int c), .fz (.int (k : Nat)), .fz (.lst (walk.map .str)), .fz (.lst (e.map .int)), .un, .un, .un] _
    refine sd_asg (d := .int (e.getD 0 0 % ((walk.map Dt.str).length : Nat))) (by walk_at "fc ev") l4 (sd_asg (d := .int ((e.getD 0 0 % ((walk.map Dt.str).length : Nat) + 1 + e.getD 1 0 % (((walk.map Dt.str).length : Nat) - 1)) % ((walk.map Dt.str).length : Nat))) (by walk_at "fc ev") l5 ?_)
    show SD X _ [.fz (.int c), .fz (.int (k : Nat)), .fz (.lst (walk.map .str)), .fz (.lst (e.map .int)), .fz (.int (e.getD 0 0 % ((walk.map Dt.str).length : Nat))), .fz (.int ((e.getD 0 0 % ((walk.map Dt.str).length : Nat) + 1 + e.getD 1 0 % (((walk.map Dt.str).length : Nat) - 1)) % ((walk.map Dt.str).length : Nat))), .un] _
    refine sd_whenP (fun env => env = [.fz (.int c), .fz (.int (k : Nat)), .fz (.lst (walk.map .str)), .fz (.lst (e.map .int)), .fz (.int (tAt e (k : Nat) (walk.length : Nat))), .fz (.int (tOt e (k : Nat) (walk.length : Nat))), .un]) (k := decide (e.getD 10 0 = 0)) (by walk_at "fc t") (fun hc => ?_) (fun hc => ?_) ?_
    · rw [decide_eq_true_eq] at hc
      refine sd_asg (by walk_at "fc ev") l4 (sd_asg (by walk_at "fc ev") l5 (sd_nil ?_))
      unfold tAt tOt
      rw [if_pos hc, if_pos hc, ← eln]
      rfl
    · rw [decide_eq_false_iff_not] at hc
      unfold tAt tOt
      rw [if_neg hc, if_neg hc, ← eln]
    · rintro env rfl
      obtain ⟨a1, a2, b1, b2, ne⟩ := tAt_in E (k := (k : Nat)) (n := (walk.length : Nat)) (by omega) (by omega)
      have hA : atI (walk.map Dt.str) (tAt e (k : Nat) (walk.length : Nat)) = some (.str (tieE e (k : Nat) walk).one) := by
        have : walk[(tAt e (k : Nat) (walk.length : Nat)).toNat]? = some (tieE e (k : Nat) walk).one := by
          exact at_D _ (by omega)
        have := at_map (f := Dt.str) this
        rwa [Int.toNat_of_nonneg a1] at this
      have hB : atI (walk.map Dt.str) (tOt e (k : Nat) (walk.length : Nat)) = some (.str (tieE e (k : Nat) walk).other) := by
        have : walk[(tOt e (k : Nat) (walk.length : Nat)).toNat]? = some (tieE e (k : Nat) walk).other := by
          exact at_D _ (by omega)
        have := at_map (f := Dt.str) this
        rwa [Int.toNat_of_nonneg b1] at this
      have hW : atI [Dt.str (Str.ofString "one"), .str (Str.ofString "both")] (e.getD 2 0) = some (.str (wordS (decide (e.getD 2 0 = 1)))) := by
        have := E.r2
        have : e.getD 2 0 = 0 ∨ e.getD 2 0 = 1 := by omega
        rcases this with q | q <;> rw [q] <;> rfl
      generalize tAt e (k : Nat) (walk.length : Nat) = aa at hA
      generalize tOt e (k : Nat) (walk.length : Nat) = oo at hB
      have eT : tieD (tieE e (k : Nat) walk) = .tup [.str (tieE e (k : Nat) walk).one, .str (tieE e (k : Nat) walk).other, .str (wordS (decide (e.getD 2 0 = 1))), frD (fracF (e.getD 3 0) (e.getD 4 0) (e.getD 5 0)), worthD (tWo e)] := rfl
      rw [eT]
      generalize (tieE e (k : Nat) walk).one = one at hA
      generalize (tieE e (k : Nat) walk).other = other at hB
      refine sd_asg (by walk_at "fc ev") l6 ?_
      show SD X _ [.fz (.int c), .fz (.int (k : Nat)), .fz (.lst (walk.map .str)), .fz (.lst (e.map .int)), .fz (.int aa), .fz (.int oo), .fz .non] _
      refine sd_whenP (fun env => env = [.fz (.int c), .fz (.int (k : Nat)), .fz (.lst (walk.map .str)), .fz (.lst (e.map .int)), .fz (.int aa), .fz (.int oo), .fz (worthD (tWo e))]) (k := decide (0 < e.getD 6 0)) (by walk_at "fc t") (fun hc => ?_) (fun hc => ?_) ?_
      · rw [decide_eq_true_eq] at hc
        refine sd_asg (by walk_at "fc ev") l6 ?_
        unfold tWo
        rw [if_pos hc]
        generalize fracF (e.getD 7 0) (e.getD 8 0) (e.getD 9 0) = q
        show SD X _ [.fz (.int c), .fz (.int (k : Nat)), .fz (.lst (walk.map .str)), .fz (.lst (e.map .int)), .fz (.int aa), .fz (.int oo), .fz (.tup [.int q.1, .int q.2])] _
        refine sd_when (k := decide (q.1 = 0)) (by walk_at "fc t") (fun hz => ?_) (fun hz => sd_nil ?_)
        · rw [decide_eq_true_eq] at hz
          refine sd_asg (by walk_at "fc ev") l6 (sd_nil (sd_nil ?_))
          rw [if_pos hz]
          rfl
        · rw [decide_eq_false_iff_not] at hz
          rw [if_neg hz]
          rfl
      · rw [decide_eq_false_iff_not] at hc
        unfold tWo
        rw [if_neg hc]
        rfl
      · rintro env rfl
        exact sd_ret (by walk_at "fc ev") (by rfl)
end
end Fc

namespace Fc
open PySem PySem.Spec PyProof.Rows L2
/-! ### the law's own defs: cells, web, rooms -/
def tops73 : List Int := [6, 420, 60] ++ (List.replicate 7 ([8, 3] ++ List.replicate 8 26)).flatten
def tops74 : List Int := tops73 ++ [18]
theorem tops_ok {l : List Int} (h : l.all (fun t => decide (0 < t) && decide (t < 1000)) = true) : ∀ t ∈ l, 0 < t ∧ Sz 64 t := fun t ht => by
  have := List.all_eq_true.mp h t ht
  rw [Bool.and_eq_true, decide_eq_true_eq, decide_eq_true_eq] at this
  exact ⟨this.1, sz_of (m := 1000) (by omega) (by omega) (by decide)⟩
theorem tops73_ok : ∀ t ∈ tops73, 0 < t ∧ Sz 64 t := tops_ok (by decide +kernel)
theorem tops74_ok : ∀ t ∈ tops74, 0 < t ∧ Sz 64 t := tops_ok (by decide +kernel)
def headI (sc : List Int) : Int := sc.headD 0
def manyF (sc : List Int) : Int := if (drawsF (headI sc) tops74).getD 73 0 < 14 then (drawsF (headI sc) tops74).getD 73 0 else 14
def cellsA (sc : List Int) : List Int := cut sc (some 1) (some (1 + manyF sc))
def cellsB (sc : List Int) : List Int := cut sc (some (1 + manyF sc)) (some 63)
theorem manyF_in (sc : List Int) : 0 ≤ manyF sc ∧ manyF sc ≤ 14 := by
  have h := draws_in (headI sc) tops74 (fun t ht => (tops74_ok t ht).1) 73 (by decide)
  unfold manyF
  split <;> omega
theorem cellsA_len (sc : List Int) : (cellsA sc).length ≤ 14 := by
  obtain ⟨h1, h2⟩ := manyF_in sc
  unfold cellsA cut
  rw [show (1 + manyF sc) = (((1 + manyF sc).toNat : Nat) : Int) by omega, show (some (1 : Int)) = some ((1 : Nat) : Int) from rfl, HT.sIx_nat, HT.sIx_nat, List.length_take]
  omega
theorem head_at (sc : List Int) : atI (sc.map Dt.int ++ [.int 0]) 0 = some (.int (headI sc)) := by
  cases sc with
  | nil => rfl
  | cons a r => exact atI_nat (j := 0) rfl
section
variable {X : Cx} {env : List Sl}
theorem pv_tops73 {k1 k2 k3 k4 k5 k6 k7 k8 : Nat} {p1 p2 p3 p4 p5 p6 p7 p8 q1 q2 q3 q4 q5 q6 q7 : Pos} :
    PV X (.BinOp (.List [.Constant (.int 6) k1 p1, .Constant (.int 420) k2 p2, .Constant (.int 60) k3 p3] q1) .Add (.BinOp (.BinOp (.List [.Constant (.int 8) k4 p4, .Constant (.int 3) k5 p5] q2) .Add (.BinOp (.List [.Constant (.int 26) k6 p6] q3) .Mult (.Constant (.int 8) k7 p7) q4) q5) .Mult (.Constant (.int 7) k8 p8) q6) q7) env (.lst (tops73.map .int)) := by
  have sl := sizeLine_eq
  have h0 : PVs X [.Constant (.int 26) k6 p6] env [.int 26] := by walk_at "fc evs"
  have h1 : PN X (.BinOp (.List [.Constant (.int 26) k6 p6] q3) .Mult (.Constant (.int 8) k7 p7) q4) env (List.replicate (8 : Int).toNat [Dt.int 26]).flatten := pn_rep (k := 8) h0 pv_int (by show 1 ≤ 100; omega) (by decide) (by decide) (by rw [sl]; decide)
  have h2 : PV X (.List [.Constant (.int 8) k4 p4, .Constant (.int 3) k5 p5] q2) env (.lst [.int 8, .int 3]) := by walk_at "fc ev"
  have h3 := pn_add (pos := q5) h2 h1.pv (by rw [sl]; simp)
  have h4 := pn_repN (pos := q6) (b := .Constant (.int 7) k8 p8) (k := 7) h3 pv_int (by decide) (by decide) (by rw [sl]; simp)
  have h5 : PV X (.List [.Constant (.int 6) k1 p1, .Constant (.int 420) k2 p2, .Constant (.int 60) k3 p3] q1) env (.lst [.int 6, .int 420, .int 60]) := by walk_at "fc ev"
  exact PV.is (pv_bin h5 h4.pv (bin_addL (by rw [sl]; simp))) (by rfl)
end
section
variable {P : Program} {w : World} {K : PySem.W.Frag} {mg : Str → Option Value} {base : Heap} {C : Addr}
inductive R_law_cells : List Dt → (Dt → Prop) → Prop
  | mk (sc : List Int) (h : sc.length ≤ 1000) : R_law_cells [.lst (sc.map .int)] (fun d => d = .tup [.lst ((cellsA sc).map .int), .lst ((cellsB sc).map .int)])
theorem ok_law_cells (T : Tx K mg C) : Cal P w K mg base "_law_cells" 2 R_law_cells := by
  refine def_cal 1 T.d_law_cells sc_law_cells hb_law_cells (fun ds S h => by cases h; rfl) (fun X b ds S h => ?_)
  cases h with
  | mk sc h =>
    have n0 := b.nm (x := "_law_script") (i := 0) (by decide +kernel)
    have n1 := b.nm (x := "_law_d") (i := 1) (by decide +kernel)
    have n2 := b.nm (x := "_law_many") (i := 2) (by decide +kernel)
    have l1 := b.lo (x := "_law_d") (i := 1) (by decide +kernel)
    have l2 := b.lo (x := "_law_many") (i := 2) (by decide +kernel)
    have g1 := b.b_min T (by decide +kernel)
    have c1 := (ok_law_draws T).at b.toBs (by decide) (by decide +kernel)
    have sl := sizeLine_eq
    have hh := head_at sc
    have hs1 : (sc.map Dt.int).length + [Dt.int 0].length ≤ sizeLine := by rw [List.length_map, List.length_singleton]; omega
    have r1 : R_law_draws [.int (headI sc), .lst (tops74.map .int)] (fun d => d = .lst ((drawsF (headI sc) tops74).map .int)) := R_law_draws.mk _ tops74 tops74_ok (by decide)
    refine sd_asg (pv_call c1 (pvs_cons (d := .int (headI sc)) (by walk_at "fc ev") (pvs_cons (d := .lst (tops74.map .int)) (PV.is (pv_bin pv_tops73 (pv_lst (ds := [.int 18]) (by walk_at "fc evs") (by show 1 ≤ 100; omega)) (bin_addL ?_)) (by rfl)) pvs_nil)) r1) l1 ?_
    · rw [sl]
      decide
    have E := draws_len (headI sc) tops74
    have hlt : tops74.length = 74 := by decide
    generalize hd : (drawsF (headI sc) tops74) = e at E
    have i73 : atI (e.map Dt.int) 73 = some (.int (e.getD 73 0)) := at_getD (j := 73) (by omega)
    have hm : CallD X "min" [.int 14, .int (e.getD 73 0)] (.int (manyF sc)) := by
      have := cd_min2 b.calm (X := X) (i := 14) (j := e.getD 73 0)
      unfold manyF
      rw [hd]
      exact this
    have sA : SlD X (.lst (sc.map .int)) (some 1) (some (1 + manyF sc)) (.lst ((cellsA sc).map .int)) := by
      unfold cellsA
      rw [← cut_map]
      exact sl_lst
    have sB : SlD X (.lst (sc.map .int)) (some (1 + manyF sc)) (some 63) (.lst ((cellsB sc).map .int)) := by
      unfold cellsB
      rw [← cut_map]
      exact sl_lst
    refine sd_asg (by walk_at "fc ev") l2 ?_
    exact sd_ret (by walk_at "fc ev") (by rfl)
end
end Fc

namespace Fc
open PySem PySem.Spec PyProof.Rows L2
/-! ### a walk through the places -/
def midP (f l : Int) (z : Str × Nat) : Bool := !decide (((z.2 : Nat) : Int) ∈ [f, l])
def amidF (ps : List Str) (f l : Int) : List Str := (ps.zipIdx.filter (midP f l)).map (·.1)
theorem amid_sub (ps : List Str) (f l : Int) : List.Sublist (amidF ps f l) ps := by
  unfold amidF
  have h := (List.filter_sublist (p := midP f l) (l := ps.zipIdx)).map (·.1)
  rw [List.zipIdx_map_fst] at h
  exact h
theorem walk_ok {ps : List Str} {f l : Nat} (h2 : 2 ≤ ps.length) (h7 : ps.length ≤ 7) (hn : ps.Nodup) (hm : ∀ p ∈ ps, NameOk p) (hf : f < ps.length) (hl : l < ps.length) (hfl : f ≠ l) {a z : Str} (ha : ps[f]? = some a) (hz : ps[l]? = some z) : WalkOk ps ([a] ++ amidF ps f l ++ [z]) ∧ a ≠ z := by
  have hne : a ≠ z := fun e => by
    subst e
    exact hfl ((List.getElem?_inj hf hn).mp (ha.trans hz.symm))
  have hmid : ∀ p ∈ amidF ps f l, p ≠ a ∧ p ≠ z := fun p hp => by
    unfold amidF at hp
    obtain ⟨⟨q, k⟩, hq, rfl⟩ := List.mem_map.mp hp
    rw [List.mem_filter] at hq
    obtain ⟨h1, h3⟩ := hq
    have h1 : ps[k]? = some q := by
      have := List.mem_zipIdx_iff_getElem?.mp h1
      simpa using this
    have hk : k < ps.length := (List.getElem?_eq_some_iff.mp h1).1
    unfold midP at h3
    simp only [Bool.not_eq_true', decide_eq_false_iff_not, List.mem_cons, List.not_mem_nil, or_false, not_or] at h3
    refine ⟨fun e => ?_, fun e => ?_⟩
    · have e : q = a := e
      subst e
      have := (List.getElem?_inj hk hn).mp (h1.trans ha.symm)
      omega
    · have e : q = z := e
      subst e
      have := (List.getElem?_inj hk hn).mp (h1.trans hz.symm)
      omega
  have hs := amid_sub ps f l
  have hsub : ∀ p ∈ [a] ++ amidF ps f l ++ [z], p ∈ ps := fun p hp => by
    rcases List.mem_append.mp hp with q | q
    · rcases List.mem_append.mp q with q | q
      · rw [List.mem_singleton] at q
        rw [q]
        exact List.mem_of_getElem? ha
      · exact hs.subset q
    · rw [List.mem_singleton] at q
      rw [q]
      exact List.mem_of_getElem? hz
  have hnd : ([a] ++ amidF ps f l ++ [z]).Nodup := by
    rw [List.nodup_append]
    refine ⟨?_, by simp, fun x hx y hy e => ?_⟩
    · rw [List.nodup_append]
      refine ⟨by simp, hs.nodup hn, fun x hx y hy e => ?_⟩
      rw [List.mem_singleton] at hx
      exact (hmid y hy).1 (e.symm.trans hx)
    · rw [List.mem_singleton] at hy
      subst hy
      rcases List.mem_append.mp hx with q | q
      · rw [List.mem_singleton] at q
        exact hne (q.symm.trans e)
      · exact (hmid x q).2 e
  refine ⟨⟨?_, ?_, hnd, hsub, fun p hp => hm p (hsub p hp)⟩, hne⟩
  · rw [List.length_append, List.length_append, List.length_singleton, List.length_singleton]
    omega
  · have := List.Nodup.length_le_of_subset hnd hsub
    omega
theorem numOk_of (c : Int) : NumOk ((drawsF c tops73).drop 3) (2 + (drawsF c tops73).getD 0 0).toNat ∧ (2 + (drawsF c tops73).getD 0 0).toNat ≤ 7 ∧ 0 ≤ (drawsF c tops73).getD 0 0 := by
  have h := draws_in c tops73 fun t ht => (tops73_ok t ht).1
  have hl := draws_len c tops73
  have hl2 : tops73.length = 73 := by decide +kernel
  obtain ⟨a1, a2⟩ := h 0 (by omega)
  have a2 : (drawsF c tops73).getD 0 0 < 6 := a2
  have e1 : ∀ k, k < 7 → tops73.getD (3 + 10 * k) 1 = 8 := by decide +kernel
  have e2 : ∀ k, k < 7 → ∀ j, j < 8 → tops73.getD (3 + (10 * k + (2 + j))) 1 = 26 := by decide +kernel
  have ed : ∀ i, ((drawsF c tops73).drop 3).getD i 0 = (drawsF c tops73).getD (3 + i) 0 := fun i => by
    rw [List.getD_eq_getElem?_getD, List.getElem?_drop, List.getD_eq_getElem?_getD]
  refine ⟨⟨?_, fun k hk => ?_, fun k hk j hj => ?_⟩, by omega, a1⟩
  · rw [List.length_drop]
    omega
  · rw [ed, ← e1 k (by omega)]
    exact h _ (by omega)
  · rw [ed, ← e2 k (by omega) j hj]
    exact h _ (by omega)
section
variable {P : Program} {w : World} {K : PySem.W.Frag} {mg : Str → Option Value} {base : Heap} {C : Addr}
inductive R_law_web : List Dt → (Dt → Prop) → Prop
  | mk (sc : List Int) (h : sc.length ≤ 1000) : R_law_web [.lst (sc.map .int)] (fun d => ∃ W, d = webD W ∧ WebOk W ∧ W.ties.length = (cellsA sc).length)
theorem ok_law_web (T : Tx K mg C) : Cal P w K mg base "_law_web" 4 R_law_web := by
  refine def_cal 3 T.d_law_web sc_law_web hb_law_web (fun ds S h => by cases h; rfl) (fun X b ds S h => ?_)
  cases h with
  | mk sc h =>
    have n0 := b.nm (x := "_law_script") (i := 0) (by decide +kernel)
    have n1 := b.nm (x := "_law_d") (i := 1) (by decide +kernel)
    have n2 := b.nm (x := "_law_places") (i := 2) (by decide +kernel)
    have n3 := b.nm (x := "_law_first") (i := 3) (by decide +kernel)
    have n4 := b.nm (x := "_law_last") (i := 4) (by decide +kernel)
    have n5 := b.nm (x := "_law_amid") (i := 5) (by decide +kernel)
    have n6 := b.nm (x := "_law_walk") (i := 6) (by decide +kernel)
    have n7 := b.nm (x := "_law_ties") (i := 7) (by decide +kernel)
    have l1 := b.lo (x := "_law_d") (i := 1) (by decide +kernel)
    have l2 := b.lo (x := "_law_places") (i := 2) (by decide +kernel)
    have l3 := b.lo (x := "_law_first") (i := 3) (by decide +kernel)
    have l4 := b.lo (x := "_law_last") (i := 4) (by decide +kernel)
    have l5 := b.lo (x := "_law_amid") (i := 5) (by decide +kernel)
    have l6 := b.lo (x := "_law_walk") (i := 6) (by decide +kernel)
    have l7 := b.lo (x := "_law_ties") (i := 7) (by decide +kernel)
    have g3 := b.b_len T (by decide +kernel)
    have g4 := b.b_enumerate T (by decide +kernel)
    have c1 := (ok_law_draws T).at b.toBs (by decide) (by decide +kernel)
    have c2 := (ok_law_names T).at b.toBs (by decide) (by decide +kernel)
    have c3 := (ok_law_cells T).at b.toBs (by decide) (by decide +kernel)
    have sl := sizeLine_eq
    have hh := head_at sc
    have hs1 : (sc.map Dt.int).length + [Dt.int 0].length ≤ sizeLine := by rw [List.length_map, List.length_singleton]; omega
    have hlt : tops73.length = 73 := by decide +kernel
    have r1 : R_law_draws [.int (headI sc), .lst (tops73.map .int)] (fun d => d = .lst ((drawsF (headI sc) tops73).map .int)) := R_law_draws.mk _ tops73 tops73_ok (by rw [hlt]; decide)
    have r3 := R_law_cells.mk sc h
    have hcl := cellsA_len sc
    refine sd_asg (pv_call c1 (pvs_cons (d := .int (headI sc)) (by walk_at "fc ev") (pvs_cons (d := .lst (tops73.map .int)) pv_tops73 pvs_nil)) r1) l1 ?_
    obtain ⟨hN, hm7, hd0⟩ := numOk_of (headI sc)
    have hE := draws_in (headI sc) tops73 fun t ht => (tops73_ok t ht).1
    have E := draws_len (headI sc) tops73
    obtain ⟨b1, _⟩ := hE 1 (by omega)
    obtain ⟨b2, _⟩ := hE 2 (by omega)
    generalize (drawsF (headI sc) tops73) = e at E hN hm7 hd0 b1 b2
    have i0 : atI (e.map Dt.int) 0 = some (.int (e.getD 0 0)) := at_getD (j := 0) (by omega)
    have i1 : atI (e.map Dt.int) 1 = some (.int (e.getD 1 0)) := at_getD (j := 1) (by omega)
    have i2 : atI (e.map Dt.int) 2 = some (.int (e.getD 2 0)) := at_getD (j := 2) (by omega)
    have s3 : SlD X (.lst (e.map .int)) (some 3) none (.lst ((e.drop 3).map .int)) := by
      have : cut (e.map Dt.int) (some ((3 : Nat) : Int)) none = (e.drop 3).map .int := by rw [cut_from, List.map_drop]
      rw [← this]
      exact sl_lst
    show SD X _ [.fz (.lst (sc.map .int)), .fz (.lst (e.map .int)), .un, .un, .un, .un, .un, .un, .un, .un, .un] _
    have hmm : (2 + e.getD 0 0) = (((2 + e.getD 0 0).toNat : Nat) : Int) := by omega
    refine sd_asgQ (pq_call c2 (ds := [.lst ((e.drop 3).map .int), .int (((2 + e.getD 0 0).toNat : Nat) : Int)]) (pvs_cons (by walk_at "fc ev") (pvs_cons (PV.is (d := .int (2 + e.getD 0 0)) (by walk_at "fc ev") (by rw [← hmm])) pvs_nil)) (.mk (e.drop 3) _ hm7 hN (by rw [List.length_drop]; omega))) l2 ?_
    rintro d ⟨ps, rfl, hpl, hpn, hpo⟩
    have hp2 : 2 ≤ ps.length := by omega
    have hp7 : ps.length ≤ 7 := by omega
    have eln : ((ps.map Dt.str).length : Int) = (ps.length : Nat) := by rw [List.length_map]
    have hn0 : (0 : Int) < ((ps.map Dt.str).length : Nat) := by rw [List.length_map]; omega
    have hn1 : (0 : Int) < ((ps.map Dt.str).length : Nat) - 1 := by rw [List.length_map]; omega
    show SD X _ [.fz (.lst (sc.map .int)), .fz (.lst (e.map .int)), .fz (.lst (ps.map .str)), .un, .un, .un, .un, .un, .un, .un, .un] _
    have f1 := Int.emod_nonneg (e.getD 1 0) (b := ((ps.map Dt.str).length : Nat)) (by omega)
    have f2 := Int.emod_lt_of_pos (e.getD 1 0) hn0
    have f3 := Int.emod_nonneg (e.getD 2 0) (b := ((ps.map Dt.str).length : Nat) - 1) (by omega)
    have f4 := Int.emod_lt_of_pos (e.getD 2 0) hn1
    refine sd_asg (by walk_at "fc ev") l3 ?_
    refine sd_asg (by walk_at "fc ev") l4 ?_
    have f5 := Int.emod_nonneg (e.getD 1 0 % ((ps.map Dt.str).length : Nat) + 1 + e.getD 2 0 % (((ps.map Dt.str).length : Nat) - 1)) (b := ((ps.map Dt.str).length : Nat)) (by omega)
    have f6 := Int.emod_lt_of_pos (e.getD 1 0 % ((ps.map Dt.str).length : Nat) + 1 + e.getD 2 0 % (((ps.map Dt.str).length : Nat) - 1)) hn0
    have hne : (e.getD 1 0 % ((ps.map Dt.str).length : Nat)) ≠ (e.getD 1 0 % ((ps.map Dt.str).length : Nat) + 1 + e.getD 2 0 % (((ps.map Dt.str).length : Nat) - 1)) % ((ps.map Dt.str).length : Nat) := fun q => by
      generalize e.getD 1 0 % ((ps.map Dt.str).length : Nat) = u at *
      generalize e.getD 2 0 % (((ps.map Dt.str).length : Nat) - 1) = v at *
      generalize (((ps.map Dt.str).length : Nat) : Int) = n at *
      by_cases hlt : u + 1 + v < n
      · rw [Int.emod_eq_of_lt (by omega) hlt] at q
        omega
      · have : (u + 1 + v) % n = u + 1 + v - n := by
          rw [← Int.sub_emod_right, Int.emod_eq_of_lt (by omega) (by omega)]
        omega
    show SD X _ [.fz (.lst (sc.map .int)), .fz (.lst (e.map .int)), .fz (.lst (ps.map .str)), .fz (.int (e.getD 1 0 % ((ps.map Dt.str).length : Nat))), .fz (.int ((e.getD 1 0 % ((ps.map Dt.str).length : Nat) + 1 + e.getD 2 0 % (((ps.map Dt.str).length : Nat) - 1)) % ((ps.map Dt.str).length : Nat))), .un, .un, .un, .un, .un, .un] _
    generalize (e.getD 1 0 % ((ps.map Dt.str).length : Nat) + 1 + e.getD 2 0 % (((ps.map Dt.str).length : Nat) - 1)) % ((ps.map Dt.str).length : Nat) = la at f5 f6 hne
    generalize e.getD 1 0 % ((ps.map Dt.str).length : Nat) = fi at f1 f2 hne
    rw [eln] at f2 f6
    obtain ⟨fi, rfl⟩ := Int.eq_ofNat_of_zero_le f1
    obtain ⟨la, rfl⟩ := Int.eq_ofNat_of_zero_le f5
    have hfi : fi < ps.length := by omega
    have hla : la < ps.length := by omega
    obtain ⟨a, ha⟩ : ∃ a, ps[fi]? = some a := ⟨_, List.getElem?_eq_getElem hfi⟩
    obtain ⟨z, hz⟩ : ∃ a, ps[la]? = some a := ⟨_, List.getElem?_eq_getElem hla⟩
    obtain ⟨hw, haz⟩ := walk_ok hp2 hp7 hpn hpo hfi hla (by omega) ha hz
    have ia : atI (ps.map Dt.str) ((fi : Nat) : Int) = some (.str a) := at_map ha
    have iz : atI (ps.map Dt.str) ((la : Nat) : Int) = some (.str z) := at_map hz
    have pe : ∀ {env : List Sl} {elts : List Expr} {kk : Nat} {tpos p1 pos : Pos} {e : Expr}, PV X e env (.lst (ps.map .str)) → starEach [e] X.env = [(false, eval e X.env)] → PId X (.Tuple elts kk tpos) (.Call (.Name "enumerate" p1) [e] [] pos) env (ps.zipIdx.map fun z => .tup [.int (z.2 : Nat), .str z.1]) := fun h hs => by
      rw [← enumD_map]
      exact pid_enum g4 h hs
    have hal : (amidF ps (fi : Nat) (la : Nat)).length ≤ 7 := by have := (amid_sub ps (fi : Nat) (la : Nat)).length_le; omega
    refine sd_lc (d := .lst ((ps.zipIdx.filter (midP (fi : Nat) (la : Nat))).map fun z => .str z.1)) (lcd_names (xs := ps.zipIdx) (inj := fun z : Str × Nat => [Dt.int (z.2 : Nat), .str z.1]) (is := [8, 9]) [("_law_k", 8), ("_law_place", 9)] (midP (fi : Nat) (la : Nat)) _ b.calm b.eN b.eS b.nd (by rw [List.length_zipIdx]; omega) (pe (by walk_at "fc ev") rfl) (by decide +kernel) (by decide) (fun Y y => ?_) (fun _ _ => rfl) (fun z Y hz y => ptd_if ?_) (fun z Y hz hp y => ?_)) l5 (b.loc (i := 5) (by decide +kernel)) ?_ ?_
    · have Bb := b.toBs.blk y
      exact .cons (Bb.lo (x := "_law_k") (i := 8) (by decide +kernel)) (.cons (Bb.lo (x := "_law_place") (i := 9) (by decide +kernel)) .nil)
    · have Bb := b.toBs.blk y
      have m3 := Bb.nm (x := "_law_first") (i := 3) (by decide +kernel)
      have m4 := Bb.nm (x := "_law_last") (i := 4) (by decide +kernel)
      have m8 := Bb.nm (x := "_law_k") (i := 8) (by decide +kernel)
      exact PB.is (by walk_at "fc t") (by rfl)
    · have Bb := b.toBs.blk y
      have m9 := Bb.nm (x := "_law_place") (i := 9) (by decide +kernel)
      walk_at "fc ev"
    · simp only [swapsWith, Env.kindOf, Env.blockKind, b.eS]
      rfl
    · have e1 : ((ps.zipIdx.filter (midP (fi : Nat) (la : Nat))).map fun z => Dt.str z.1) = (amidF ps (fi : Nat) (la : Nat)).map .str := by
        unfold amidF
        rw [List.map_map]
        all_goals rfl
      rw [e1]
      show SD X _ [.fz (.lst (sc.map .int)), .fz (.lst (e.map .int)), .fz (.lst (ps.map .str)), .fz (.int (fi : Nat)), .fz (.int (la : Nat)), .fz (.lst ((amidF ps (fi : Nat) (la : Nat)).map .str)), .un, .un, .un, .un, .un] _
      have hz1 : [Dt.str a].length + ((amidF ps (fi : Nat) (la : Nat)).map Dt.str).length ≤ sizeLine := by rw [List.length_map, List.length_singleton]; omega
      have hz2 : ([Dt.str a] ++ (amidF ps (fi : Nat) (la : Nat)).map Dt.str).length + [Dt.str z].length ≤ sizeLine := by rw [List.length_append, List.length_map, List.length_singleton, List.length_singleton]; omega
      have ewk : [Dt.str a] ++ (amidF ps (fi : Nat) (la : Nat)).map Dt.str ++ [Dt.str z] = ([a] ++ amidF ps (fi : Nat) (la : Nat) ++ [z]).map .str := by rw [List.map_append, List.map_append]; rfl
      refine sd_asg (by walk_at "fc ev") l6 ?_
      rw [ewk]
      generalize hwk : [a] ++ amidF ps (fi : Nat) (la : Nat) ++ [z] = walk at hw
      show SD X _ [.fz (.lst (sc.map .int)), .fz (.lst (e.map .int)), .fz (.lst (ps.map .str)), .fz (.int (fi : Nat)), .fz (.int (la : Nat)), .fz (.lst ((amidF ps (fi : Nat) (la : Nat)).map .str)), .fz (.lst (walk.map .str)), .un, .un, .un, .un] _
      have pc : ∀ {env : List Sl} {elts : List Expr} {kk : Nat} {tpos p1 pos : Pos} {e : Expr}, PV X e env (.lst ((cellsA sc).map .int)) → starEach [e] X.env = [(false, eval e X.env)] → PId X (.Tuple elts kk tpos) (.Call (.Name "enumerate" p1) [e] [] pos) env ((cellsA sc).zipIdx.map fun z => .tup [.int (z.2 : Nat), .int z.1]) := fun h hs => by
        rw [← enumD_map]
        exact pid_enum g4 h hs
      refine sd_lc (d := .lst (((cellsA sc).zipIdx.filter fun _ => true).map fun z => tieD (tieF z.1 ((z.2 : Nat) : Int) walk))) (lcd_names (xs := (cellsA sc).zipIdx) (inj := fun z : Int × Nat => [Dt.int (z.2 : Nat), .int z.1]) (is := [8, 10]) [("_law_k", 8), ("_law_cell", 10)] (fun _ => true) _ b.calm b.eN b.eS b.nd (by rw [List.length_zipIdx]; omega) (pc (by walk_at "fc ev") rfl) (by decide +kernel) (by decide) (fun Y y => ?_) (fun _ _ => rfl) (fun z Y hz y => ptd_no) (fun z Y hz hp y => ?_)) l7 (b.loc (i := 7) (by decide +kernel)) ?_ ?_
      · have Bb := b.toBs.blk y
        exact .cons (Bb.lo (x := "_law_k") (i := 8) (by decide +kernel)) (.cons (Bb.lo (x := "_law_cell") (i := 10) (by decide +kernel)) .nil)
      · have Bb := b.toBs.blk y
        have m6 := Bb.nm (x := "_law_walk") (i := 6) (by decide +kernel)
        have m8 := Bb.nm (x := "_law_k") (i := 8) (by decide +kernel)
        have m10 := Bb.nm (x := "_law_cell") (i := 10) (by decide +kernel)
        have c4 := (ok_law_tie T).at Bb (by decide) (by decide +kernel)
        obtain ⟨c, k⟩ := z
        have hk : k < 100 := by
          have := List.mem_zipIdx_iff_getElem?.mp hz
          have h3 : (cellsA sc)[k]? = some c := by simpa using this
          have := (List.getElem?_eq_some_iff.mp h3).1
          omega
        have r4 := R_law_tie.mk c k ps walk hk hw
        walk_at "fc ev"
      · simp only [swapsWith, Env.kindOf, Env.blockKind, b.eS]
        rfl
      · rw [List.filter_eq_self.mpr fun _ _ => rfl]
        have e2 : ((cellsA sc).zipIdx.map fun z => tieD (tieF z.1 ((z.2 : Nat) : Int) walk)) = ((cellsA sc).zipIdx.map fun z => tieF z.1 ((z.2 : Nat) : Int) walk).map tieD := by
          rw [List.map_map]
          all_goals rfl
        rw [e2]
        have htl : ((cellsA sc).zipIdx.map fun z => tieF z.1 ((z.2 : Nat) : Int) walk).length = (cellsA sc).length := by rw [List.length_map, List.length_zipIdx]
        have hto : ∀ t ∈ (cellsA sc).zipIdx.map fun z => tieF z.1 ((z.2 : Nat) : Int) walk, TieOk ps t := fun t ht => by
          obtain ⟨z, _, rfl⟩ := List.mem_map.mp ht
          exact tieE_ok (e11_of z.1) hw (by omega)
        generalize (cellsA sc).zipIdx.map (fun z => tieF z.1 ((z.2 : Nat) : Int) walk) = ties at htl hto
        show SD X _ [.fz (.lst (sc.map .int)), .fz (.lst (e.map .int)), .fz (.lst (ps.map .str)), .fz (.int (fi : Nat)), .fz (.int (la : Nat)), .fz (.lst ((amidF ps (fi : Nat) (la : Nat)).map .str)), .fz (.lst (walk.map .str)), .fz (.lst (ties.map tieD)), .un, .un, .un] _
        refine sd_ret (d := .tup [.lst (ps.map .str), .lst (ties.map tieD), .str a, .str z]) (by walk_at "fc ev") ⟨⟨ps, ties, a, z⟩, rfl, ?_, htl⟩
        exact ⟨hp2, hp7, hpn, hpo, by show ties.length ≤ 14; omega, hto, List.mem_of_getElem? ha, List.mem_of_getElem? hz, haz⟩
end
end Fc

namespace Fc
open PySem PySem.Spec PyProof.Rows L2
section
variable {P : Program} {w : World} {K : PySem.W.Frag} {mg : Str → Option Value} {base : Heap} {C : Addr}
def tops14 : List Int := [420, 60, 2, 5, top18, 30, 6, 5, top18, 30, 3, 5, top18, 30]
theorem tops14_ok : ∀ t ∈ tops14, 0 < t ∧ Sz 64 t := by
  intro t ht
  have h18 : top18 = 1000000000000000000 := by decide
  unfold tops14 at ht
  rw [h18] at ht
  simp only [List.mem_cons, List.not_mem_nil, or_false] at ht
  rcases ht with rfl | rfl | rfl | rfl | rfl | rfl | rfl | rfl | rfl | rfl | rfl | rfl | rfl | rfl <;> exact ⟨by decide, by unfold Sz; decide⟩
def roomF (c : Int) : Int × Int := fracF ((drawsF c tops14).getD 11 0) ((drawsF c tops14).getD 12 0) ((drawsF c tops14).getD 13 0)
theorem roomF_in (c : Int) : (0 ≤ (drawsF c tops14).getD 11 0 ∧ (drawsF c tops14).getD 11 0 < 5) ∧ (0 ≤ (drawsF c tops14).getD 12 0 ∧ (drawsF c tops14).getD 12 0 < 10 ^ 18) ∧ (0 ≤ (drawsF c tops14).getD 13 0 ∧ (drawsF c tops14).getD 13 0 < 30) := by
  have h := draws_in c tops14 fun t ht => (tops14_ok t ht).1
  exact ⟨h 11 (by decide), h 12 (by decide), h 13 (by decide)⟩
theorem roomF_ok (c : Int) : FracOk (roomF c) := fracF_ok (roomF_in c).1 (roomF_in c).2.1 (roomF_in c).2.2
inductive R_law_rooms : List Dt → (Dt → Prop) → Prop
  | mk (sc : List Int) (h : sc.length ≤ 1000) : R_law_rooms [.lst (sc.map .int)] (fun d => d = .lst (((cellsA sc).map roomF).map frD))
theorem ok_law_rooms (T : Tx K mg C) : Cal P w K mg base "_law_rooms" 3 R_law_rooms := by
  refine def_cal 2 T.d_law_rooms sc_law_rooms hb_law_rooms (fun ds S h => by cases h; rfl) (fun X b ds S h => ?_)
  cases h with
  | mk sc h =>
    have n0 := b.nm (x := "_law_script") (i := 0) (by decide +kernel)
    have n1 := b.nm (x := "_law_tops") (i := 1) (by decide +kernel)
    have l1 := b.lo (x := "_law_tops") (i := 1) (by decide +kernel)
    have c3 := (ok_law_cells T).at b.toBs (by decide) (by decide +kernel)
    have r3 := R_law_cells.mk sc h
    have hcl := cellsA_len sc
    have hpw : CPow 10 18 := ⟨by decide, by decide, by decide⟩
    refine sd_asg (by walk_at "fc ev") l1 ?_
    show SD X _ [.fz (.lst (sc.map .int)), .fz (.lst (tops14.map .int)), .un] _
    refine sd_ret (d := .lst (((cellsA sc).filter fun _ => true).map fun c => frD (roomF c))) (pv_lc (lcd_name (xs := cellsA sc) (inj := Dt.int) (i := 2) [("_law_cell", 2)] (fun _ => true) _ b.calm b.eN b.eS b.nd (by omega) (pid_list (by walk_at "fc ev")) (by decide +kernel) (by decide) rfl (by decide +kernel) (fun s Y ha y => ptd_no) (fun c Y ha hp y => ?_))) ?_
    · have Bb := b.toBs.blk y
      have m1 := Bb.nm (x := "_law_tops") (i := 1) (by decide +kernel)
      have m2 := Bb.nm (x := "_law_cell") (i := 2) (by decide +kernel)
      have c1 := (ok_law_draws T).at Bb (by decide) (by decide +kernel)
      have c2 := (ok_law_fraction T).at Bb (by decide) (by decide +kernel)
      have r1 := R_law_draws.mk c tops14 tops14_ok (by decide)
      obtain ⟨q1, q2, q3⟩ := roomF_in c
      have r2 := R_law_fraction.mk _ _ _ q1 q2 q3
      have hl := draws_len c tops14
      have hl2 : tops14.length = 14 := by decide
      have s11 : SlD Y (.lst ((drawsF c tops14).map .int)) (some 11) none (.lst [.int ((drawsF c tops14).getD 11 0), .int ((drawsF c tops14).getD 12 0), .int ((drawsF c tops14).getD 13 0)]) := by
        have : cut ((drawsF c tops14).map Dt.int) (some ((11 : Nat) : Int)) none = [.int ((drawsF c tops14).getD 11 0), .int ((drawsF c tops14).getD 12 0), .int ((drawsF c tops14).getD 13 0)] := by
          rw [cut_from, ← List.map_drop]
          generalize drawsF c tops14 = e at hl
          have : e.drop 11 = [e.getD 11 0, e.getD 12 0, e.getD 13 0] := by
            refine List.ext_getElem? fun j => ?_
            rw [List.getElem?_drop]
            by_cases hj : j < 3
            · have : j = 0 ∨ j = 1 ∨ j = 2 := by omega
              rcases this with rfl | rfl | rfl
              · exact at_D _ (by omega)
              · exact at_D _ (by omega)
              · exact at_D _ (by omega)
            · rw [List.getElem?_eq_none (by omega), List.getElem?_eq_none]
              simp
              omega
          rw [this]
          rfl
        rw [← this]
        exact sl_lst
      walk_at "fc ev"
    · rw [List.filter_eq_self.mpr fun _ _ => rfl, List.map_map]
      all_goals rfl
end
end Fc

namespace Fc
open PySem PySem.Spec PyProof.Rows L2
/-! ### the law -/
theorem TakOk.sub {W : Web} {ts ts' : List Int} (h : TakOk W ts) (s : List.Sublist ts' ts) : TakOk W ts' :=
  ⟨h.up.sublist s, fun t ht => h.lo t (s.subset ht), fun t ht => h.wo t (s.subset ht)⟩
theorem TakOk.nil {W : Web} : TakOk W [] := ⟨List.Pairwise.nil, fun t ht => (by cases ht), fun t ht => (by cases ht)⟩
theorem bitsF_ok (W : Web) (bits : Int) : TakOk W (bitsF W bits) ∧ (bitsF W bits).length ≤ W.ties.length := by
  have hs : List.Sublist (bitsF W bits) ((List.range W.ties.length).map fun k => ((k : Nat) : Int)) := by
    unfold bitsF
    have h := (List.filter_sublist (p := bitB bits) (l := W.ties.zipIdx)).map fun z => ((z.2 : Nat) : Int)
    have e : (W.ties.zipIdx.map fun z => ((z.2 : Nat) : Int)) = (List.range W.ties.length).map fun k => ((k : Nat) : Int) := by
      have h2 := List.zipIdx_map_snd 0 W.ties
      rw [← List.range_eq_range'] at h2
      rw [← h2, List.map_map]
      all_goals rfl
    rw [e] at h
    exact h
  refine ⟨⟨?_, fun t ht => ?_, fun t ht z hz => ?_⟩, ?_⟩
  · refine List.Pairwise.sublist hs ?_
    rw [List.pairwise_map]
    exact List.Pairwise.imp (fun h => by omega) List.pairwise_lt_range
  · obtain ⟨k, hk, rfl⟩ := List.mem_map.mp (hs.subset ht)
    rw [List.mem_range] at hk
    omega
  · unfold bitsF at ht
    obtain ⟨⟨y, k⟩, hy, rfl⟩ := List.mem_map.mp ht
    rw [List.mem_filter] at hy
    obtain ⟨h1, h2⟩ := hy
    have h1 : W.ties[k]? = some y := by
      have := List.mem_zipIdx_iff_getElem?.mp h1
      simpa using this
    rw [Int.toNat_natCast] at hz
    rw [show W.ties[k]? = some z from hz] at h1
    cases h1
    unfold bitB at h2
    rw [Bool.and_eq_true] at h2
    intro e
    have h2 := h2.1
    simp only at h2
    rw [e] at h2
    cases h2
  · have := hs.length_le
    rw [List.length_map, List.length_range] at this
    exact this
theorem rmOk_of {W : Web} {sc : List Int} (hw : WebOk W) (hl : W.ties.length = (cellsA sc).length) {ts : List Int} (ht : TakOk W ts) (h14 : ts.length ≤ 14) : RmOk W ((cellsA sc).map roomF) ts := by
  have hq : ∀ q ∈ (cellsA sc).map roomF, FracOk q := fun q hq => by
    obtain ⟨c, _, rfl⟩ := List.mem_map.mp hq
    exact roomF_ok c
  refine ⟨hw, ⟨by rw [List.length_map, hl], fun q h => ⟨(hq q h).fr, (hq q h).nn⟩⟩, ⟨fun q h => ⟨(hq q h).fr.pos, (hq q h).dv⟩⟩, fun q h => (hq q h).sz.mono (by decide), ht, h14⟩
theorem rmOk_tw {W : Web} {qs : List (Int × Int)} (h : RmOk W qs []) (hz : ∀ q ∈ qs, Sz 60 q.1) : RmOk W (qs.map twF) [] := by
  have key : ∀ q ∈ qs.map twF, Fr q ∧ 0 ≤ q.1 ∧ q.2 ∣ bigL ∧ Sz 100 q.1 := fun q' hq' => by
    obtain ⟨q, hq, rfl⟩ := List.mem_map.mp hq'
    obtain ⟨h1, h2⟩ := h.b.each q hq
    have h3 := (h.r.fr q hq).2
    refine ⟨low_fr h1, low_nn (by omega) h1, Int.dvd_trans ⟨gcdI (2 * q.1) q.2, (Int.ediv_mul_cancel (gcdI_dvd_right _ _)).symm⟩ h2, ?_⟩
    refine (low_sz (n := 62) h1 ?_).mono (by decide)
    have := hz q hq
    unfold Sz at this ⊢
    omega
  exact ⟨h.w, ⟨by rw [List.length_map]; exact h.r.len, fun q hq => ⟨(key q hq).1, (key q hq).2.1⟩⟩, ⟨fun q hq => ⟨(key q hq).1.pos, (key q hq).2.2.1⟩⟩, fun q hq => (key q hq).2.2.2, h.t, h.t14⟩
theorem tw_least {W : Web} {qs : List (Int × Int)} (h : RmOk W qs []) : leastI W (inB bigL (qs.map twF)) [] = leastI W (inB bigL qs) [] * 2 := by
  refine least_twice W _ _ _ ?_ fun k hk => ?_
  · unfold inB
    rw [List.length_map, List.length_map, List.length_map]
  · have hk' : k < qs.length := by unfold inB at hk; rwa [List.length_map] at hk
    have hq : qs[k]? = some qs[k] := List.getElem?_eq_getElem hk'
    generalize qs[k] = q at hq
    obtain ⟨h1, h2⟩ := h.b.each q (List.mem_of_getElem? hq)
    have e1 : (inB bigL qs).getD k 0 = q.1 * (bigL / q.2) := by
      unfold inB
      rw [List.getD_eq_getElem?_getD, List.getElem?_map, hq]
      all_goals rfl
    have e2 : (inB bigL (qs.map twF)).getD k 0 = (twF q).1 * (bigL / (twF q).2) := by
      unfold inB
      rw [List.getD_eq_getElem?_getD, List.getElem?_map, List.getElem?_map, hq]
      all_goals rfl
    rw [e1, e2, twF_in h1 h2]
def tops4 : List Int := [16384, 3, 16384, 14]
theorem tops_ok4 : ∀ t ∈ tops4, 0 < t ∧ Sz 64 t := fun t ht => by
  have : ∀ t ∈ tops4, 0 < t ∧ t < 20000 := by decide
  obtain ⟨h1, h2⟩ := this t ht
  exact ⟨h1, sz_of (m := 20000) (by omega) (by omega) (by decide)⟩
section
variable {P : Program} {w : World} {K : PySem.W.Frag} {mg : Str → Option Value} {base : Heap} {C : Addr}
inductive R_law : List Dt → (Dt → Prop) → Prop
  | mk (sc : List Int) (h : sc.length ≤ 1000) : R_law [.lst (sc.map .int)] (fun d => d = .bl true)
theorem ok_law (T : Tx K mg C) {f : Addr} {fd : FuncData} (F : Fun K "law" "law" s_law f fd) : FnOk P w K mg base CX0 11 f fd ["_law_script"] (spD K R_law) := by
  refine def_ok (k := 10) F sc_law (fun ds S h => by cases h; rfl) (fun X b ds S h => ?_)
  cases h with
  | mk sc h =>
    have n0 := b.nm (x := "_law_script") (i := 0) (by decide +kernel)
    have n1 := b.nm (x := "_law_web_here") (i := 1) (by decide +kernel)
    have n2 := b.nm (x := "_law_rooms_here") (i := 2) (by decide +kernel)
    have n3 := b.nm (x := "_law_numbers") (i := 3) (by decide +kernel)
    have n4 := b.nm (x := "_law_whole") (i := 4) (by decide +kernel)
    have n5 := b.nm (x := "_law_twice") (i := 5) (by decide +kernel)
    have n6 := b.nm (x := "_law_cell") (i := 6) (by decide +kernel)
    have n7 := b.nm (x := "_law_d") (i := 7) (by decide +kernel)
    have n8 := b.nm (x := "_law_taking") (i := 8) (by decide +kernel)
    have n9 := b.nm (x := "_law_least") (i := 9) (by decide +kernel)
    have n10 := b.nm (x := "_law_fewer") (i := 10) (by decide +kernel)
    have n11 := b.nm (x := "_law_more") (i := 11) (by decide +kernel)
    have l1 := b.lo (x := "_law_web_here") (i := 1) (by decide +kernel)
    have l2 := b.lo (x := "_law_rooms_here") (i := 2) (by decide +kernel)
    have l3 := b.lo (x := "_law_numbers") (i := 3) (by decide +kernel)
    have l4 := b.lo (x := "_law_whole") (i := 4) (by decide +kernel)
    have l5 := b.lo (x := "_law_twice") (i := 5) (by decide +kernel)
    have l6 := b.lo (x := "_law_cell") (i := 6) (by decide +kernel)
    have l7 := b.lo (x := "_law_d") (i := 7) (by decide +kernel)
    have l8 := b.lo (x := "_law_taking") (i := 8) (by decide +kernel)
    have l9 := b.lo (x := "_law_least") (i := 9) (by decide +kernel)
    have l10 := b.lo (x := "_law_fewer") (i := 10) (by decide +kernel)
    have l11 := b.lo (x := "_law_more") (i := 11) (by decide +kernel)
    have c1 := (ok_law_web T).at b.toBs (by decide) (by decide +kernel)
    have c2 := (ok_law_rooms T).at b.toBs (by decide) (by decide +kernel)
    have c3 := (ok_law_ints T).at b.toBs (by decide) (by decide +kernel)
    have c4 := (ok_law_right T).at b.toBs (by decide) (by decide +kernel)
    have c5 := (ok_law_most T).at b.toBs (by decide) (by decide +kernel)
    have c6 := (ok_law_cells T).at b.toBs (by decide) (by decide +kernel)
    have c7 := (ok_law_draws T).at b.toBs (by decide) (by decide +kernel)
    have c8 := (ok_law_bits T).at b.toBs (by decide) (by decide +kernel)
    have hcl := cellsA_len sc
    have r2 := R_law_rooms.mk sc h
    have r6 := R_law_cells.mk sc h
    refine sd_asgQ (pq_call c1 (by walk_at "fc evs") (.mk sc h)) l1 ?_
    rintro d ⟨W, rfl, hw, hwl⟩
    have hR0 := rmOk_of (ts := []) hw hwl TakOk.nil (by decide)
    have hz60 : ∀ q ∈ (cellsA sc).map roomF, Sz 60 q.1 := fun q hq => by
      obtain ⟨c, _, rfl⟩ := List.mem_map.mp hq
      exact (roomF_ok c).sz
    have hRt : ∀ ts, TakOk W ts → ts.length ≤ 14 → RmOk W ((cellsA sc).map roomF) ts := fun ts h1 h2 => rmOk_of hw hwl h1 h2
    refine sd_asg (by walk_at "fc ev") l2 ?_
    have hql : ((cellsA sc).map roomF).length ≤ 14 := by rw [List.length_map]; exact hcl
    generalize (cellsA sc).map roomF = qs at hR0 hz60 hRt hql
    have r3 := R_law_ints.mk qs (fun q hq => ⟨(hR0.b.each q hq).1, (hR0.b.each q hq).2, (hz60 q hq).mono (by decide)⟩) hql
    show SD X _ [.fz (.lst (sc.map .int)), .fz (webD W), .fz (.lst (qs.map frD)), .un, .un, .un, .un, .un, .un, .un, .un, .un, .un, .un] _
    refine sd_asg (by walk_at "fc ev") l3 ?_
    have r4 : R_law_right [webD W, .lst (qs.map frD), .lst ((inB bigL qs).map .int), .lst []] (fun d => d = .int (leastI W (inB bigL qs) [])) := .mk W qs [] hR0
    refine sd_asg (by walk_at "fc ev") l4 ?_
    have hpos : ∀ x ∈ inB bigL qs, 0 ≤ x := inB_pos bigL_pos fun q hq => ⟨(hR0.r.fr q hq).2, (hR0.b.each q hq).1⟩
    have hmono : ∀ ts ts' : List Int, (∀ t ∈ ts, t ∈ ts') → leastI W (inB bigL qs) ts' ≤ leastI W (inB bigL qs) ts := fun ts ts' hs => least_mono W hpos hs
    have hwsz : Sz 147 (leastI W (inB bigL qs) []) := leastI_sz (by unfold inB; rw [List.length_map]; exact hql) (inL_sz fun q hq => ⟨(hR0.b.each q hq).1, (hz60 q hq).mono (by decide)⟩)
    have hTw := rmOk_tw hR0 hz60
    have r5 : R_law_most [webD W, .lst ((qs.map twF).map frD), .lst []] (fun d => d = frD (low (leastI W (inB bigL (qs.map twF)) []) bigL)) := .mk W (qs.map twF) [] hTw
    rw [tw_least hR0] at r5
    show SD X _ [.fz (.lst (sc.map .int)), .fz (webD W), .fz (.lst (qs.map frD)), .fz (.lst ((inB bigL qs).map .int)), .fz (.int (leastI W (inB bigL qs) [])), .un, .un, .un, .un, .un, .un, .un, .un, .un] _
    have hlm := low_mul (t := leastI W (inB bigL qs) [] * 2) bigL_pos
    have hlz1 := low_sz (n := 149) (x := leastI W (inB bigL qs) [] * 2) bigL_pos (by unfold Sz at hwsz ⊢; omega)
    have hlz2 := low_sz2 (x := leastI W (inB bigL qs) [] * 2) bigL_pos (sz_bigL (x := bigL) (by decide) (Int.dvd_refl _))
    refine sd_no (k := isNon (.int (leastI W (inB bigL qs) []))) (by walk_at "fc t") (by rfl) ?_
    have etw : ((qs.filter fun _ => true).map fun q => frD (twF q)) = (qs.map twF).map frD := by
      rw [List.filter_eq_self.mpr fun _ _ => rfl, List.map_map]
      all_goals rfl
    generalize low (leastI W (inB bigL qs) [] * 2) bigL = tw at r5 hlm hlz1 hlz2
    refine sd_asg (d := .tup [.int tw.1, .int tw.2]) (pv_call c5 (pvs_cons (by walk_at "fc ev") (pvs_cons (PV.is (pv_lc (lcd_name (xs := qs) (inj := frD) (i := 12) [("_law_room", 12)] (fun _ => true) (fun q => frD (twF q)) b.calm b.eN b.eS b.nd (by omega) (pid_list (by walk_at "fc ev")) (by decide +kernel) (by decide) rfl (by decide +kernel) (fun s Y ha y => ptd_no) (fun q Y hq hp y => ?_))) (by rw [etw])) (by walk_at "fc evs"))) r5) l5 ?_
    · have Bb := b.toBs.blk y
      have m12 := Bb.nm (x := "_law_room") (i := 12) (by decide +kernel)
      have d1 := (ok_law_low T).at Bb (by decide) (by decide +kernel)
      have hq0 := (hR0.b.each q hq).1
      have k1 : CMulW 2 q.1 := mulOk (a := 2) (by unfold Sz; decide) (hz60 q hq)
      have rl := R_law_low.mk (2 * q.1) q.2 hq0 ((sz_bigL hq0 (hR0.b.each q hq).2).mono (by decide))
      walk_at "fc ev"
    · show SD X _ [.fz (.lst (sc.map .int)), .fz (webD W), .fz (.lst (qs.map frD)), .fz (.lst ((inB bigL qs).map .int)), .fz (.int (leastI W (inB bigL qs) [])), .fz (.tup [.int tw.1, .int tw.2]), .un, .un, .un, .un, .un, .un, .un, .un] _
      have k1 : CMulW tw.1 2329089562800 := mulOk hlz1 (sz_bigL (x := bigL) (by decide) (Int.dvd_refl _))
      have k2 : CMulW 2 (leastI W (inB bigL qs) []) := mulOk (a := 2) (by unfold Sz; decide) hwsz
      have k3 : CMulW (2 * leastI W (inB bigL qs) []) tw.2 := mulOk (a := 149) (by unfold Sz at hwsz ⊢; omega) hlz2
      have heq : tw.1 * 2329089562800 = 2 * leastI W (inB bigL qs) [] * tw.2 := by
        have : tw.1 * 2329089562800 = leastI W (inB bigL qs) [] * 2 * tw.2 := hlm
        rw [this, Int.mul_comm 2]
      refine sd_no (pb_or (k := isNon (.tup [.int tw.1, .int tw.2])) (k' := !decide (tw.1 * 2329089562800 = 2 * leastI W (inB bigL qs) [] * tw.2)) (by walk_at "fc t") (fun _ => by walk_at "fc t")) (by simp [heq, isNon]) ?_
      clear hlm hlz1 hlz2 heq k1 k2 k3 hTw r5 etw hwsz
      refine sd_for b.po b.calm l6 (pid_list (ds := (cellsB sc).map .int) (pv_ix (pv_call c6 (by walk_at "fc evs") r6) (by walk_at "fc ev") (ix_tp rfl))) (fun n env => ∃ x6 x7 x8 x9 x10 x11, env = [.fz (.lst (sc.map .int)), .fz (webD W), .fz (.lst (qs.map frD)), .fz (.lst ((inB bigL qs).map .int)), .fz (.int (leastI W (inB bigL qs) [])), .fz (.tup [.int tw.1, .int tw.2]), x6, x7, x8, x9, x10, x11, .un, .un]) ⟨.un, .un, .un, .un, .un, .un, rfl⟩ ?_ ?_
      · rintro n d env hd ⟨x6, x7, x8, x9, x10, x11, rfl⟩
        rw [List.getElem?_map] at hd
        cases hc : (cellsB sc)[n]? with
        | none => rw [hc] at hd; cases hd
        | some c =>
          rw [hc] at hd
          cases hd
          have r7 : R_law_draws [.int c, .lst [.int 16384, .int 3, .int 16384, .int 14]] (fun d => d = .lst ((drawsF c tops4).map .int)) := R_law_draws.mk c tops4 (tops_ok4) (by decide)
          have hE := draws_in c tops4 fun t ht => (tops_ok4 t ht).1
          have hl := draws_len c tops4
          obtain ⟨b3, _⟩ := hE 3 (by decide)
          have hl4 : tops4.length = 4 := by decide
          show SD X _ [.fz (.lst (sc.map .int)), .fz (webD W), .fz (.lst (qs.map frD)), .fz (.lst ((inB bigL qs).map .int)), .fz (.int (leastI W (inB bigL qs) [])), .fz (.tup [.int tw.1, .int tw.2]), .fz (.int c), x7, x8, x9, x10, x11, .un, .un] _
          refine sd_asg (by walk_at "fc ev") l7 ?_
          generalize drawsF c tops4 = e at hl b3
          have i0 : atI (e.map Dt.int) 0 = some (.int (e.getD 0 0)) := at_getD (j := 0) (by omega)
          have i1 : atI (e.map Dt.int) 1 = some (.int (e.getD 1 0)) := at_getD (j := 1) (by omega)
          have i2 : atI (e.map Dt.int) 2 = some (.int (e.getD 2 0)) := at_getD (j := 2) (by omega)
          have i3 : atI (e.map Dt.int) 3 = some (.int (e.getD 3 0)) := at_getD (j := 3) (by omega)
          have r8 := R_law_bits.mk W hw.t14 (e.getD 0 0)
          obtain ⟨hb1, hb2⟩ := bitsF_ok W (e.getD 0 0)
          have hb3 := hw.t14
          show SD X _ [.fz (.lst (sc.map .int)), .fz (webD W), .fz (.lst (qs.map frD)), .fz (.lst ((inB bigL qs).map .int)), .fz (.int (leastI W (inB bigL qs) [])), .fz (.tup [.int tw.1, .int tw.2]), .fz (.int c), .fz (.lst (e.map .int)), x8, x9, x10, x11, .un, .un] _
          refine sd_asg (by walk_at "fc ev") l8 ?_
          have hb4 : (bitsF W (e.getD 0 0)).length ≤ 14 := by omega
          generalize bitsF W (e.getD 0 0) = tk at hb1 hb4
          clear hb2
          show SD X _ [.fz (.lst (sc.map .int)), .fz (webD W), .fz (.lst (qs.map frD)), .fz (.lst ((inB bigL qs).map .int)), .fz (.int (leastI W (inB bigL qs) [])), .fz (.tup [.int tw.1, .int tw.2]), .fz (.int c), .fz (.lst (e.map .int)), .fz (.lst (tk.map .int)), x9, x10, x11, .un, .un] _
          refine sd_whenP (fun env => ∃ ts : List Int, env = [.fz (.lst (sc.map .int)), .fz (webD W), .fz (.lst (qs.map frD)), .fz (.lst ((inB bigL qs).map .int)), .fz (.int (leastI W (inB bigL qs) [])), .fz (.tup [.int tw.1, .int tw.2]), .fz (.int c), .fz (.lst (e.map .int)), .fz (.lst (ts.map .int)), x9, x10, x11, .un, .un] ∧ TakOk W ts ∧ ts.length ≤ 14) (k := decide (0 < e.getD 1 0)) (by walk_at "fc t") (fun _ => ?_) (fun _ => ⟨tk, rfl, hb1, hb4⟩) ?_
          · refine sd_asg (d := .lst ((tk.filter fun k => decide (Builtin.bitAnd (e.getD 2 0 / 2 ^ k.toNat) 1 = 1)).map .int)) (pv_lc (lcd_name (xs := tk) (inj := Dt.int) (i := 13) [("_law_k", 13)] (fun k => decide (Builtin.bitAnd (e.getD 2 0 / 2 ^ k.toNat) 1 = 1)) Dt.int b.calm b.eN b.eS b.nd (by omega) (pid_list (by walk_at "fc ev")) (by decide +kernel) (by decide) rfl (by decide +kernel) (fun k Y hk y => ptd_if ?_) (fun k Y hk hp y => ?_))) l8 (sd_nil ⟨_, rfl, hb1.sub List.filter_sublist, by have := List.length_filter_le (fun k => decide (Builtin.bitAnd (e.getD 2 0 / 2 ^ k.toNat) 1 = 1)) tk; omega⟩) ?_
            · have Bb := b.toBs.blk y
              have m7 := Bb.nm (x := "_law_d") (i := 7) (by decide +kernel)
              have m13 := Bb.nm (x := "_law_k") (i := 13) (by decide +kernel)
              have hk0 : 0 ≤ k := (hb1.lo k hk).1
              walk_at "fc t"
            · have Bb := b.toBs.blk y
              have m13 := Bb.nm (x := "_law_k") (i := 13) (by decide +kernel)
              walk_at "fc ev"
            · simp only [swapsWith, Env.kindOf, Env.blockKind, b.eS]
              rfl
          · rintro env ⟨ts, rfl, hts, hts14⟩
            have r9 : R_law_right [webD W, .lst (qs.map frD), .lst ((inB bigL qs).map .int), .lst (ts.map .int)] (fun d => d = .int (leastI W (inB bigL qs) ts)) := .mk W qs ts (hRt ts hts hts14)
            refine sd_asg (by walk_at "fc ev") l9 ?_
            have hle := hmono [] ts (fun t ht => by cases ht)
            show SD X _ [.fz (.lst (sc.map .int)), .fz (webD W), .fz (.lst (qs.map frD)), .fz (.lst ((inB bigL qs).map .int)), .fz (.int (leastI W (inB bigL qs) [])), .fz (.tup [.int tw.1, .int tw.2]), .fz (.int c), .fz (.lst (e.map .int)), .fz (.lst (ts.map .int)), .fz (.int (leastI W (inB bigL qs) ts)), x10, x11, .un, .un] _
            refine sd_no (pb_or (k := isNon (.int (leastI W (inB bigL qs) ts))) (k' := decide (leastI W (inB bigL qs) [] < leastI W (inB bigL qs) ts)) (by walk_at "fc t") (fun _ => by walk_at "fc t")) (by simp [isNon]; omega) ?_
            refine sd_lc (d := .lst ((ts.filter fun k => !decide (k = ts.getD (e.getD 3 0 % ((ts.map Dt.int).length : Nat)).toNat 0)).map .int)) (lcd_name (xs := ts) (inj := Dt.int) (i := 13) [("_law_k", 13)] (fun k => !decide (k = ts.getD (e.getD 3 0 % ((ts.map Dt.int).length : Nat)).toNat 0)) Dt.int b.calm b.eN b.eS b.nd (by omega) (pid_list (by walk_at "fc ev")) (by decide +kernel) (by decide) rfl (by decide +kernel) (fun k Y hk y => ptd_if ?_) (fun k Y hk hp y => ?_)) l10 (b.loc (i := 10) (by decide +kernel)) ?_ ?_
            · have Bb := b.toBs.blk y
              have m7 := Bb.nm (x := "_law_d") (i := 7) (by decide +kernel)
              have m8 := Bb.nm (x := "_law_taking") (i := 8) (by decide +kernel)
              have m13 := Bb.nm (x := "_law_k") (i := 13) (by decide +kernel)
              have g3 := Bb.b_len T (by decide +kernel)
              have hpos : 0 < ts.length := List.length_pos_of_mem hk
              have hn0 : (0 : Int) < ((ts.map Dt.int).length : Nat) := by rw [List.length_map]; omega
              have q1 := Int.emod_nonneg (e.getD 3 0) (b := ((ts.map Dt.int).length : Nat)) (by omega)
              have q2 := Int.emod_lt_of_pos (e.getD 3 0) hn0
              have hix : atI (ts.map Dt.int) (e.getD 3 0 % ((ts.map Dt.int).length : Nat)) = some (.int (ts.getD (e.getD 3 0 % ((ts.map Dt.int).length : Nat)).toNat 0)) := by
                have hlt : (e.getD 3 0 % ((ts.map Dt.int).length : Nat)).toNat < ts.length := by rw [List.length_map] at *; omega
                have := at_getD (xs := ts) hlt
                rwa [Int.toNat_of_nonneg q1] at this
              generalize ts.getD (e.getD 3 0 % ((ts.map Dt.int).length : Nat)).toNat 0 = tt at hix
              walk_at "fc t"
            · have Bb := b.toBs.blk y
              have m13 := Bb.nm (x := "_law_k") (i := 13) (by decide +kernel)
              walk_at "fc ev"
            · simp only [swapsWith, Env.kindOf, Env.blockKind, b.eS]
              rfl
            · have hsub : List.Sublist (ts.filter fun k => !decide (k = ts.getD (e.getD 3 0 % ((ts.map Dt.int).length : Nat)).toNat 0)) ts := List.filter_sublist
              generalize (ts.filter fun k => !decide (k = ts.getD (e.getD 3 0 % ((ts.map Dt.int).length : Nat)).toNat 0)) = fw at hsub
              have hfl := hsub.length_le
              have r10 : R_law_right [webD W, .lst (qs.map frD), .lst ((inB bigL qs).map .int), .lst (fw.map .int)] (fun d => d = .int (leastI W (inB bigL qs) fw)) := .mk W qs fw (hRt fw (hts.sub hsub) (by omega))
              have hle2 := hmono fw ts (fun t ht => hsub.subset ht)
              show SD X _ [.fz (.lst (sc.map .int)), .fz (webD W), .fz (.lst (qs.map frD)), .fz (.lst ((inB bigL qs).map .int)), .fz (.int (leastI W (inB bigL qs) [])), .fz (.tup [.int tw.1, .int tw.2]), .fz (.int c), .fz (.lst (e.map .int)), .fz (.lst (ts.map .int)), .fz (.int (leastI W (inB bigL qs) ts)), .fz (.lst (fw.map .int)), x11, .un, .un] _
              refine sd_asg (by walk_at "fc ev") l11 ?_
              show SD X _ [.fz (.lst (sc.map .int)), .fz (webD W), .fz (.lst (qs.map frD)), .fz (.lst ((inB bigL qs).map .int)), .fz (.int (leastI W (inB bigL qs) [])), .fz (.tup [.int tw.1, .int tw.2]), .fz (.int c), .fz (.lst (e.map .int)), .fz (.lst (ts.map .int)), .fz (.int (leastI W (inB bigL qs) ts)), .fz (.lst (fw.map .int)), .fz (.int (leastI W (inB bigL qs) fw)), .un, .un] _
              refine sd_no (pb_or (k := isNon (.int (leastI W (inB bigL qs) fw))) (k' := decide (leastI W (inB bigL qs) fw < leastI W (inB bigL qs) ts)) (by walk_at "fc t") (fun _ => by walk_at "fc t")) (by simp [isNon]; omega) ?_
              exact sd_nil ⟨.fz (.int c), .fz (.lst (e.map .int)), .fz (.lst (ts.map .int)), .fz (.int (leastI W (inB bigL qs) ts)), .fz (.lst (fw.map .int)), .fz (.int (leastI W (inB bigL qs) fw)), rfl⟩
      · rintro env ⟨x6, x7, x8, x9, x10, x11, rfl⟩
        exact sd_ret (by walk_at "fc ev") (by rfl)
end
end Fc

/-! Fc: what the top has written, the law's head. Printed by genend.py. -/
namespace Fc
open PySem PySem.Spec PyProof.Rows L2
section
variable {K : PySem.W.Frag} {h : Heap} {mg : Str → Option Value}
theorem defAt_mk {x : Str} {st : Stmt} (X : K.In h) (G : h.Ns mainGlobals mg) {f : Addr} {od an : Option Addr} {sl : Array (Option Value)} {oc kV dc pm cd ct : Value} (a : PySem.W.nsIn K mainGlobals x = some (some (.ref f)))
    (l : K.lookup f = some ⟨oc, od, .func (PySem.W.fnOf x x (defArgs st) (defBody st) (defScope st) .none kV dc pm an cd ct), sl⟩) (c : PySem.W.codeIn K cd x = true) (k : PySem.W.keepIn K (.ref f) = true) : DefAt K mg x st :=
  ⟨f, _, fun_mk l c k, PySem.W.mg_of X G a⟩
theorem metAt_mk {C : Addr} {m qual : Str} {st : Stmt} {f : Addr} {od an : Option Addr} {sl : Array (Option Value)} {oc kV dc pm cd ct : Value} (a : PySem.W.findIn K (.ref C) m = some (some (.ref f))) (i : PySem.W.isFn K (.ref f) = true)
    (l : K.lookup f = some ⟨oc, od, .func (PySem.W.fnOf m qual (defArgs st) (defBody st) (defScope st) .none kV dc pm an cd ct), sl⟩) (c : PySem.W.codeIn K cd qual = true) (k : PySem.W.keepIn K (.ref f) = true) : MetAt K C m qual st :=
  ⟨f, _, fun_mk l c k, a, i, k⟩
theorem init_mk {C : Addr} {qual : Str} {st : Stmt} {f : Addr} {od an : Option Addr} {sl : Array (Option Value)} {oc kV dc pm cd ct : Value} (a : PySem.W.findIn K (.ref C) "__init__" = some (some (.ref f))) (i : PySem.W.isFn K (.ref f) = true)
    (l : K.lookup f = some ⟨oc, od, .func (PySem.W.fnOf "__init__" qual (defArgs st) (defBody st) (defScope st) .none kV dc pm an cd ct), sl⟩) (c : PySem.W.codeIn K cd qual = true) (k : PySem.W.keepIn K (.ref f) = true) (mk : PySem.W.makesIn K C = true) (kc : PySem.W.keepIn K (.ref C) = true) : ∃ f fd, Fun K "__init__" qual st f fd ∧ Mk K C f :=
  ⟨f, _, fun_mk l c k, mk, a, i, kc⟩
theorem mc_int {x : Str} {n : Int} {t : Tok} (X : K.In h) (G : h.Ns mainGlobals mg) (a : PySem.W.nsIn K mainGlobals x = some (some (.int n t))) : McAt K mg x (.int n) := ⟨_, .int n, PySem.W.mg_of X G a, ⟨t, rfl⟩, fun _ => .int n⟩
theorem mc_str {x y : Str} {t : Tok} (X : K.In h) (G : h.Ns mainGlobals mg) (a : PySem.W.nsIn K mainGlobals x = some (some (.str y t))) : McAt K mg x (.str y) := ⟨_, .str y, PySem.W.mg_of X G a, ⟨t, rfl⟩, fun _ => .str y⟩
theorem mc_tup {x : Str} {p : Addr} {i j : Int} {t u : Tok} {n : Nat} {dd : Option Addr} {sl : Array (Option Value)} (X : K.In h) (G : h.Ns mainGlobals mg) (a : PySem.W.nsIn K mainGlobals x = some (some (.ref p)))
    (l : K.lookup p = some ⟨.type "tuple", dd, .seq #[.int i t, .int j u] n, sl⟩) : McAt K mg x (.tup [.int i, .int j]) :=
  by
  have v : Vals [V.int i, V.int j] [.int i t, .int j u] := .cons (show RelV (V.int i) (.int i t) from ⟨t, rfl⟩) (.cons (show RelV (V.int j) (.int j u) from ⟨u, rfl⟩) .nil)
  exact ⟨_, .ref p, PySem.W.mg_of X G a, rfl, fun _ => .tup (.inr ⟨_, _, n, l, rfl, rfl, by show 2 ≤ sizeLine; decide, v⟩) (.cons (.int i) (.cons (.int j) .nil))⟩
end
theorem all_mk {l : PySem.W.OpenLaw} {w : World} {K : PySem.W.Frag} {h : Heap} {mg : Str → Option Value} {fa C f4 : Addr} (X : K.In h) (G : h.Ns mainGlobals mg) (hfa : mg "law" = some (.ref fa))
    {od4 an4 : Option Addr} {sl4 : Array (Option Value)} {oc4 kV4 dc4 pm4 cd4 ct4 : Value}
    (aC : PySem.W.nsIn K mainGlobals "Pipes" = some (some (.ref C)))
    (d_is_whole : DefAt K mg "is_whole" s_is_whole)
    (d_divisor : DefAt K mg "divisor" s_divisor)
    (d_is_ratio : DefAt K mg "is_ratio" s_is_ratio)
    (d_is_name : DefAt K mg "is_name" s_is_name)
    (d_lowest : DefAt K mg "lowest" s_lowest)
    (d_plus : DefAt K mg "plus" s_plus)
    (d_minus : DefAt K mg "minus" s_minus)
    (d_sum_of : DefAt K mg "sum_of" s_sum_of)
    (d_is_length : DefAt K mg "is_length" s_is_length)
    (d_is_worth : DefAt K mg "is_worth" s_is_worth)
    (d_is_tie : DefAt K mg "is_tie" s_is_tie)
    (d_look_at_places : DefAt K mg "look_at_places" s_look_at_places)
    (d_look_at_ties : DefAt K mg "look_at_ties" s_look_at_ties)
    (d_look_at_web : DefAt K mg "look_at_web" s_look_at_web)
    (d_is_tie_number : DefAt K mg "is_tie_number" s_is_tie_number)
    (d_is_taking : DefAt K mg "is_taking" s_is_taking)
    (d_look_at_taking : DefAt K mg "look_at_taking" s_look_at_taking)
    (d_is_rooms : DefAt K mg "is_rooms" s_is_rooms)
    (d_look_at_rooms : DefAt K mg "look_at_rooms" s_look_at_rooms)
    (d_going : DefAt K mg "going" s_going)
    (d_amount_in : DefAt K mg "amount_in" s_amount_in)
    (d_amount_of : DefAt K mg "amount_of" s_amount_of)
    (d_is_side : DefAt K mg "is_side" s_is_side)
    (d_leads_out : DefAt K mg "leads_out" s_leads_out)
    (d_room_in : DefAt K mg "room_in" s_room_in)
    (d_room_of : DefAt K mg "room_of" s_room_of)
    (d_common_bottom : DefAt K mg "common_bottom" s_common_bottom)
    (d_p_spare : MetAt K C "spare" "Pipes.spare" s_p_spare)
    (d_p_over : MetAt K C "over" "Pipes.over" s_p_over)
    (d_p_reached : MetAt K C "reached" "Pipes.reached" s_p_reached)
    (d_p_back : MetAt K C "back" "Pipes.back" s_p_back)
    (d_p_send : MetAt K C "send" "Pipes.send" s_p_send)
    (d_p_fill : MetAt K C "fill" "Pipes.fill" s_p_fill)
    (d_p_flow : MetAt K C "flow" "Pipes.flow" s_p_flow)
    (d_most_in : DefAt K mg "most_in" s_most_in)
    (d_most_flow : DefAt K mg "most_flow" s_most_flow)
    (d_law_draws : DefAt K mg "_law_draws" s_law_draws)
    (d_law_low : DefAt K mg "_law_low" s_law_low)
    (d_law_fraction : DefAt K mg "_law_fraction" s_law_fraction)
    (d_law_names : DefAt K mg "_law_names" s_law_names)
    (d_law_tie : DefAt K mg "_law_tie" s_law_tie)
    (d_law_cells : DefAt K mg "_law_cells" s_law_cells)
    (d_law_web : DefAt K mg "_law_web" s_law_web)
    (d_law_rooms : DefAt K mg "_law_rooms" s_law_rooms)
    (d_law_plus : DefAt K mg "_law_plus" s_law_plus)
    (d_law_going : DefAt K mg "_law_going" s_law_going)
    (d_law_bits : DefAt K mg "_law_bits" s_law_bits)
    (d_law_leads_out : DefAt K mg "_law_leads_out" s_law_leads_out)
    (d_law_ints : DefAt K mg "_law_ints" s_law_ints)
    (d_law_sides : DefAt K mg "_law_sides" s_law_sides)
    (d_law_least_room : DefAt K mg "_law_least_room" s_law_least_room)
    (d_law_most : DefAt K mg "_law_most" s_law_most)
    (d_law_right : DefAt K mg "_law_right" s_law_right)
    (i_init : ∃ f fd, Fun K "__init__" "Pipes.__init__" s_p_init f fd ∧ Mk K C f)
    (cl : Cls K C)
    (na_net : PySem.W.findIn K (.ref C) "net" = some none)
    (na_bottom : PySem.W.findIn K (.ref C) "bottom" = some none)
    (na_rooms : PySem.W.findIn K (.ref C) "rooms" = some none)
    (na_amounts : PySem.W.findIn K (.ref C) "amounts" = some none)
    (c_nought : McAt K mg "NOUGHT" (.tup [.int 0, .int 1]))
    (c_signs : McAt K mg "MOST_SIGNS" (.int 8))
    (c_letters : McAt K mg "LETTERS" (.str "abcdefghijklmnopqrstuvwxyz"))
    (c_least : McAt K mg "LEAST_PLACES" (.int 2))
    (c_most : McAt K mg "MOST_PLACES" (.int 7))
    (c_ties : McAt K mg "MOST_TIES" (.int 14))
    (b_isinstance : PySem.W.nsIn K mainGlobals "isinstance" = some none)
    (b_int : PySem.W.nsIn K mainGlobals "int" = some none)
    (b_bool : PySem.W.nsIn K mainGlobals "bool" = some none)
    (b_tuple : PySem.W.nsIn K mainGlobals "tuple" = some none)
    (b_list : PySem.W.nsIn K mainGlobals "list" = some none)
    (b_str : PySem.W.nsIn K mainGlobals "str" = some none)
    (b_len : PySem.W.nsIn K mainGlobals "len" = some none)
    (b_abs : PySem.W.nsIn K mainGlobals "abs" = some none)
    (b_min : PySem.W.nsIn K mainGlobals "min" = some none)
    (b_range : PySem.W.nsIn K mainGlobals "range" = some none)
    (b_enumerate : PySem.W.nsIn K mainGlobals "enumerate" = some none)
    (a4 : PySem.W.nsIn K mainGlobals "law" = some (some (.ref f4))) (l4 : K.lookup f4 = some ⟨oc4, od4, .func (PySem.W.fnOf "law" "law" (defArgs s_law) (defBody s_law) (defScope s_law) .none kV4 dc4 pm4 an4 cd4 ct4), sl4⟩) (c4 : PySem.W.codeIn K cd4 "law" = true) (k4 : PySem.W.keepIn K (.ref f4) = true) :
    ∃ fd : FuncData, (∀ (s : Shared) (v : Value), BindsTo s fd ⟨[v], []⟩ [("_law_script", v)]) ∧ ∀ base : Heap, K.In base → base.Ns mainGlobals mg → FnOk l.prog w K mg base CX0 11 fa fd ["_law_script"] (spD K R_law) := by
  have e := hfa.symm.trans (PySem.W.mg_of X G a4)
  cases e
  have F4 := fun_mk (st := s_law) l4 c4 k4
  have T : Tx K mg C := { mgC := PySem.W.mg_of X G aC, d_is_whole := d_is_whole, d_divisor := d_divisor, d_is_ratio := d_is_ratio, d_is_name := d_is_name, d_lowest := d_lowest, d_plus := d_plus, d_minus := d_minus, d_sum_of := d_sum_of, d_is_length := d_is_length, d_is_worth := d_is_worth, d_is_tie := d_is_tie, d_look_at_places := d_look_at_places, d_look_at_ties := d_look_at_ties, d_look_at_web := d_look_at_web, d_is_tie_number := d_is_tie_number, d_is_taking := d_is_taking, d_look_at_taking := d_look_at_taking, d_is_rooms := d_is_rooms, d_look_at_rooms := d_look_at_rooms, d_going := d_going, d_amount_in := d_amount_in, d_amount_of := d_amount_of, d_is_side := d_is_side, d_leads_out := d_leads_out, d_room_in := d_room_in, d_room_of := d_room_of, d_common_bottom := d_common_bottom, d_p_spare := d_p_spare, d_p_over := d_p_over, d_p_reached := d_p_reached, d_p_back := d_p_back, d_p_send := d_p_send, d_p_fill := d_p_fill, d_p_flow := d_p_flow, d_most_in := d_most_in, d_most_flow := d_most_flow, d_law_draws := d_law_draws, d_law_low := d_law_low, d_law_fraction := d_law_fraction, d_law_names := d_law_names, d_law_tie := d_law_tie, d_law_cells := d_law_cells, d_law_web := d_law_web, d_law_rooms := d_law_rooms, d_law_plus := d_law_plus, d_law_going := d_law_going, d_law_bits := d_law_bits, d_law_leads_out := d_law_leads_out, d_law_ints := d_law_ints, d_law_sides := d_law_sides, d_law_least_room := d_law_least_room, d_law_most := d_law_most, d_law_right := d_law_right, d_law := ⟨fa, _, F4, PySem.W.mg_of X G a4⟩, i_init := i_init, cl := cl, na_net := na_net, na_bottom := na_bottom, na_rooms := na_rooms, na_amounts := na_amounts, c_nought := c_nought, c_signs := c_signs, c_letters := c_letters, c_least := c_least, c_most := c_most, c_ties := c_ties, b_isinstance := PySem.W.mg_none_of X G b_isinstance, b_int := PySem.W.mg_none_of X G b_int, b_bool := PySem.W.mg_none_of X G b_bool, b_tuple := PySem.W.mg_none_of X G b_tuple, b_list := PySem.W.mg_none_of X G b_list, b_str := PySem.W.mg_none_of X G b_str, b_len := PySem.W.mg_none_of X G b_len, b_abs := PySem.W.mg_none_of X G b_abs, b_min := PySem.W.mg_none_of X G b_min, b_range := PySem.W.mg_none_of X G b_range, b_enumerate := PySem.W.mg_none_of X G b_enumerate }
  exact ⟨PySem.W.fnOf "law" "law" (defArgs s_law) (defBody s_law) (defScope s_law) .none kV4 dc4 pm4 an4 cd4 ct4, fun s v => .of_eq rfl, fun base _ _ => ok_law T F4⟩
theorem walk {l : PySem.W.OpenLaw} {q : Program} {loose : List Str} {XP : (Str → Option Value) → Heap → Prop} {YP : World → Heap → Prop} {d : DefRec} {K : Params → PySem.W.Frag} (hn : l.most = some 63) (hdf : d.params.defaults = [])
    (hY : ∀ (w : World) (h : Heap), YP w h → (K w.params).In h)
    (F : ∀ (w : World) (mg : Str → Option Value) (fa : Addr) (h : Heap), (K w.params).In h → h.Ns mainGlobals mg → mg d.name = some (.ref fa) →
      ∃ fd : FuncData, (∀ (s : Shared) (u : Value), BindsTo s fd ⟨[u], []⟩ [("_law_script", u)]) ∧ ∀ base : Heap, (K w.params).In base → base.Ns mainGlobals mg → FnOk l.prog w (K w.params) mg base CX0 11 fa fd ["_law_script"] (spD (K w.params) R_law)) :
    PySem.W.WalkO q loose XP YP l.row.toRowW d [] (fun f vs => PySem.call f vs) :=
  L2.walk_of (n := 63) (k := 11) (x := "_law_script") (CX := fun _ => CX0) (sp := fun w => spD (K w.params) R_law) hn (by decide) hdf ⟨rfl, by decide, by decide⟩ hY F
    (fun _ H a ns hl _ hS => ⟨H, [.lst (ns.map .int)], _, Evl.Ex.refl _, .cons (.lst hS (of_ints ns)) .nil, .mk ns (by omega), fun v d G' H' _ r hd => by
      subst hd
      cases r
      rfl⟩) fun _ _ _ _ _ z => z
end Fc
open PySem PySem.W PyProof.Rows
set_option maxRecDepth 100000 in
set_option maxHeartbeats 0 in
theorem PySem.Challenge.cw_farthestcut_k40_whole_most_by_all_sides_holds : PySem.Challenge.rw_farthestcut_k40_whole_most_by_all_sides.Holds := by
  w_on; o_law; k_head; (case hw => w_witness2)
  k_fill
  refine Fc.walk (l := PySem.Challenge.rw_farthestcut_k40_whole_most_by_all_sides) rfl rfl (fun w h Y => PySem.W.kIn_of Y) ?F
  case F =>
    intro w mg fa h KX G hmg
    refine' Fc.all_mk KX G hmg ?aC ?d_is_whole ?d_divisor ?d_is_ratio ?d_is_name ?d_lowest ?d_plus ?d_minus ?d_sum_of ?d_is_length ?d_is_worth ?d_is_tie ?d_look_at_places ?d_look_at_ties ?d_look_at_web ?d_is_tie_number ?d_is_taking ?d_look_at_taking ?d_is_rooms ?d_look_at_rooms ?d_going ?d_amount_in ?d_amount_of ?d_is_side ?d_leads_out ?d_room_in ?d_room_of ?d_common_bottom ?d_p_spare ?d_p_over ?d_p_reached ?d_p_back ?d_p_send ?d_p_fill ?d_p_flow ?d_most_in ?d_most_flow ?d_law_draws ?d_law_low ?d_law_fraction ?d_law_names ?d_law_tie ?d_law_cells ?d_law_web ?d_law_rooms ?d_law_plus ?d_law_going ?d_law_bits ?d_law_leads_out ?d_law_ints ?d_law_sides ?d_law_least_room ?d_law_most ?d_law_right ?i_init ?cl ?na_net ?na_bottom ?na_rooms ?na_amounts ?c_nought ?c_signs ?c_letters ?c_least ?c_most ?c_ties ?b_isinstance ?b_int ?b_bool ?b_tuple ?b_list ?b_str ?b_len ?b_abs ?b_min ?b_range ?b_enumerate ?a4 ?l4 ?c4 ?k4
    (case aC => k_is)
    (case d_is_whole => refine' Fc.defAt_mk KX G ?a ?l ?c ?k; (case a => k_is); (case l => k_is); (case c => k_is); (case k => k_is))
    (case d_divisor => refine' Fc.defAt_mk KX G ?a ?l ?c ?k; (case a => k_is); (case l => k_is); (case c => k_is); (case k => k_is))
    (case d_is_ratio => refine' Fc.defAt_mk KX G ?a ?l ?c ?k; (case a => k_is); (case l => k_is); (case c => k_is); (case k => k_is))
    (case d_is_name => refine' Fc.defAt_mk KX G ?a ?l ?c ?k; (case a => k_is); (case l => k_is); (case c => k_is); (case k => k_is))
    (case d_lowest => refine' Fc.defAt_mk KX G ?a ?l ?c ?k; (case a => k_is); (case l => k_is); (case c => k_is); (case k => k_is))
    (case d_plus => refine' Fc.defAt_mk KX G ?a ?l ?c ?k; (case a => k_is); (case l => k_is); (case c => k_is); (case k => k_is))
    (case d_minus => refine' Fc.defAt_mk KX G ?a ?l ?c ?k; (case a => k_is); (case l => k_is); (case c => k_is); (case k => k_is))
    (case d_sum_of => refine' Fc.defAt_mk KX G ?a ?l ?c ?k; (case a => k_is); (case l => k_is); (case c => k_is); (case k => k_is))
    (case d_is_length => refine' Fc.defAt_mk KX G ?a ?l ?c ?k; (case a => k_is); (case l => k_is); (case c => k_is); (case k => k_is))
    (case d_is_worth => refine' Fc.defAt_mk KX G ?a ?l ?c ?k; (case a => k_is); (case l => k_is); (case c => k_is); (case k => k_is))
    (case d_is_tie => refine' Fc.defAt_mk KX G ?a ?l ?c ?k; (case a => k_is); (case l => k_is); (case c => k_is); (case k => k_is))
    (case d_look_at_places => refine' Fc.defAt_mk KX G ?a ?l ?c ?k; (case a => k_is); (case l => k_is); (case c => k_is); (case k => k_is))
    (case d_look_at_ties => refine' Fc.defAt_mk KX G ?a ?l ?c ?k; (case a => k_is); (case l => k_is); (case c => k_is); (case k => k_is))
    (case d_look_at_web => refine' Fc.defAt_mk KX G ?a ?l ?c ?k; (case a => k_is); (case l => k_is); (case c => k_is); (case k => k_is))
    (case d_is_tie_number => refine' Fc.defAt_mk KX G ?a ?l ?c ?k; (case a => k_is); (case l => k_is); (case c => k_is); (case k => k_is))
    (case d_is_taking => refine' Fc.defAt_mk KX G ?a ?l ?c ?k; (case a => k_is); (case l => k_is); (case c => k_is); (case k => k_is))
    (case d_look_at_taking => refine' Fc.defAt_mk KX G ?a ?l ?c ?k; (case a => k_is); (case l => k_is); (case c => k_is); (case k => k_is))
    (case d_is_rooms => refine' Fc.defAt_mk KX G ?a ?l ?c ?k; (case a => k_is); (case l => k_is); (case c => k_is); (case k => k_is))
    (case d_look_at_rooms => refine' Fc.defAt_mk KX G ?a ?l ?c ?k; (case a => k_is); (case l => k_is); (case c => k_is); (case k => k_is))
    (case d_going => refine' Fc.defAt_mk KX G ?a ?l ?c ?k; (case a => k_is); (case l => k_is); (case c => k_is); (case k => k_is))
    (case d_amount_in => refine' Fc.defAt_mk KX G ?a ?l ?c ?k; (case a => k_is); (case l => k_is); (case c => k_is); (case k => k_is))
    (case d_amount_of => refine' Fc.defAt_mk KX G ?a ?l ?c ?k; (case a => k_is); (case l => k_is); (case c => k_is); (case k => k_is))
    (case d_is_side => refine' Fc.defAt_mk KX G ?a ?l ?c ?k; (case a => k_is); (case l => k_is); (case c => k_is); (case k => k_is))
    (case d_leads_out => refine' Fc.defAt_mk KX G ?a ?l ?c ?k; (case a => k_is); (case l => k_is); (case c => k_is); (case k => k_is))
    (case d_room_in => refine' Fc.defAt_mk KX G ?a ?l ?c ?k; (case a => k_is); (case l => k_is); (case c => k_is); (case k => k_is))
    (case d_room_of => refine' Fc.defAt_mk KX G ?a ?l ?c ?k; (case a => k_is); (case l => k_is); (case c => k_is); (case k => k_is))
    (case d_common_bottom => refine' Fc.defAt_mk KX G ?a ?l ?c ?k; (case a => k_is); (case l => k_is); (case c => k_is); (case k => k_is))
    (case d_p_spare => refine' Fc.metAt_mk ?a ?i ?l ?c ?k; (case a => k_is); (case i => k_is); (case l => k_is); (case c => k_is); (case k => k_is))
    (case d_p_over => refine' Fc.metAt_mk ?a ?i ?l ?c ?k; (case a => k_is); (case i => k_is); (case l => k_is); (case c => k_is); (case k => k_is))
    (case d_p_reached => refine' Fc.metAt_mk ?a ?i ?l ?c ?k; (case a => k_is); (case i => k_is); (case l => k_is); (case c => k_is); (case k => k_is))
    (case d_p_back => refine' Fc.metAt_mk ?a ?i ?l ?c ?k; (case a => k_is); (case i => k_is); (case l => k_is); (case c => k_is); (case k => k_is))
    (case d_p_send => refine' Fc.metAt_mk ?a ?i ?l ?c ?k; (case a => k_is); (case i => k_is); (case l => k_is); (case c => k_is); (case k => k_is))
    (case d_p_fill => refine' Fc.metAt_mk ?a ?i ?l ?c ?k; (case a => k_is); (case i => k_is); (case l => k_is); (case c => k_is); (case k => k_is))
    (case d_p_flow => refine' Fc.metAt_mk ?a ?i ?l ?c ?k; (case a => k_is); (case i => k_is); (case l => k_is); (case c => k_is); (case k => k_is))
    (case d_most_in => refine' Fc.defAt_mk KX G ?a ?l ?c ?k; (case a => k_is); (case l => k_is); (case c => k_is); (case k => k_is))
    (case d_most_flow => refine' Fc.defAt_mk KX G ?a ?l ?c ?k; (case a => k_is); (case l => k_is); (case c => k_is); (case k => k_is))
    (case d_law_draws => refine' Fc.defAt_mk KX G ?a ?l ?c ?k; (case a => k_is); (case l => k_is); (case c => k_is); (case k => k_is))
    (case d_law_low => refine' Fc.defAt_mk KX G ?a ?l ?c ?k; (case a => k_is); (case l => k_is); (case c => k_is); (case k => k_is))
    (case d_law_fraction => refine' Fc.defAt_mk KX G ?a ?l ?c ?k; (case a => k_is); (case l => k_is); (case c => k_is); (case k => k_is))
    (case d_law_names => refine' Fc.defAt_mk KX G ?a ?l ?c ?k; (case a => k_is); (case l => k_is); (case c => k_is); (case k => k_is))
    (case d_law_tie => refine' Fc.defAt_mk KX G ?a ?l ?c ?k; (case a => k_is); (case l => k_is); (case c => k_is); (case k => k_is))
    (case d_law_cells => refine' Fc.defAt_mk KX G ?a ?l ?c ?k; (case a => k_is); (case l => k_is); (case c => k_is); (case k => k_is))
    (case d_law_web => refine' Fc.defAt_mk KX G ?a ?l ?c ?k; (case a => k_is); (case l => k_is); (case c => k_is); (case k => k_is))
    (case d_law_rooms => refine' Fc.defAt_mk KX G ?a ?l ?c ?k; (case a => k_is); (case l => k_is); (case c => k_is); (case k => k_is))
    (case d_law_plus => refine' Fc.defAt_mk KX G ?a ?l ?c ?k; (case a => k_is); (case l => k_is); (case c => k_is); (case k => k_is))
    (case d_law_going => refine' Fc.defAt_mk KX G ?a ?l ?c ?k; (case a => k_is); (case l => k_is); (case c => k_is); (case k => k_is))
    (case d_law_bits => refine' Fc.defAt_mk KX G ?a ?l ?c ?k; (case a => k_is); (case l => k_is); (case c => k_is); (case k => k_is))
    (case d_law_leads_out => refine' Fc.defAt_mk KX G ?a ?l ?c ?k; (case a => k_is); (case l => k_is); (case c => k_is); (case k => k_is))
    (case d_law_ints => refine' Fc.defAt_mk KX G ?a ?l ?c ?k; (case a => k_is); (case l => k_is); (case c => k_is); (case k => k_is))
    (case d_law_sides => refine' Fc.defAt_mk KX G ?a ?l ?c ?k; (case a => k_is); (case l => k_is); (case c => k_is); (case k => k_is))
    (case d_law_least_room => refine' Fc.defAt_mk KX G ?a ?l ?c ?k; (case a => k_is); (case l => k_is); (case c => k_is); (case k => k_is))
    (case d_law_most => refine' Fc.defAt_mk KX G ?a ?l ?c ?k; (case a => k_is); (case l => k_is); (case c => k_is); (case k => k_is))
    (case d_law_right => refine' Fc.defAt_mk KX G ?a ?l ?c ?k; (case a => k_is); (case l => k_is); (case c => k_is); (case k => k_is))
    (case i_init => refine' Fc.init_mk ?a ?i ?l ?c ?k ?m ?n; (case a => k_is); (case i => k_is); (case l => k_is); (case c => k_is); (case k => k_is); (case m => k_is); (case n => k_is))
    (case cl => refine' ⟨?pg, ?hd, ?po, ?sa⟩; (case pg => k_is); (case hd => k_is); (case po => k_is); (case sa => k_is))
    (case na_net => k_is)
    (case na_bottom => k_is)
    (case na_rooms => k_is)
    (case na_amounts => k_is)
    (case c_nought => refine' Fc.mc_tup KX G ?a ?l; (case a => k_is); (case l => k_is))
    (case c_signs => refine' Fc.mc_int KX G ?a; (case a => k_is))
    (case c_letters => refine' Fc.mc_str KX G ?a; (case a => k_is))
    (case c_least => refine' Fc.mc_int KX G ?a; (case a => k_is))
    (case c_most => refine' Fc.mc_int KX G ?a; (case a => k_is))
    (case c_ties => refine' Fc.mc_int KX G ?a; (case a => k_is))
    (case b_isinstance => k_is)
    (case b_int => k_is)
    (case b_bool => k_is)
    (case b_tuple => k_is)
    (case b_list => k_is)
    (case b_str => k_is)
    (case b_len => k_is)
    (case b_abs => k_is)
    (case b_min => k_is)
    (case b_range => k_is)
    (case b_enumerate => k_is)
    (case a4 => k_is); (case l4 => k_is); (case c4 => k_is); (case k4 => k_is)
