import PyProof.Rows.All
import Wide.All
import OpenK.AllK
import Wide.FinOn
import HandS.ForMost
import HandS.ForExc
import HandS.ExcInit
import HandS.ExcField
import HandS.CallSlots
import HandS.Ends
import PyProof.ReprRoads
import PyProof.ReprLen
import HandS.Style
import PyProof.P3Eq
import HandS.NamedTupGet
import HandS.IsInst
import HandS.FStr
import HandS.Iter
import HandS.DictComp
import HandS.Dict
import HandS.ExcIs
import KE.KExcIs
import KE.OsRunLaw
import HandS.SetKeys
import HandS.Property
import HandS.More
import HandS.WordsDict
import HandS.TupAny
import PyProof.Rows.SortStr
import PyProof.NeKinds
import PyProof.Rows.SetFrom
import HandS.Strs
import KE.DataEq
import HandS.Set
import HandS.SetFor
import HandS.ReplaceLit
import HandS.ReplaceDef
import HandS.ReplaceList
import OpenK.KMeth
import KE.KCallOwn
import HandS.ClsMeth
import HandS.Star
import HandS.RaiseMore
import HandS.ExcCtx
import HandS.SuiteRaise
import HandS.RaiseFrom
import HandS.ExcInitHot
import KE.KExcRaise
import KE.KRevIter
import HandS.Rev
import KE.KDictList
import HandS.Defaults
import HandS.Dict
import HandS.TryOnly
import HandS.Small
import HandS.Flow
import PyProof.InstNe
import HandS.IsInst
import HandS.Style
import HandS.Wide
import PySem.Challenge.RW_patchedplaces_k16_errors
set_option Elab.async false
set_option linter.all false
set_option maxRecDepth 100000
local macro_rules | `(tactic| k_head) => `(tactic| k_headL)
set_option maxHeartbeats 0 in
open_top HdX.top for PySem.Challenge.rw_patchedplaces_k16_errors
namespace Sm
open PySem PySem.Spec PyProof.Rows L2
abbrev Pin := Addr × Obj
def Lk : List Pin → Value → Prop
  | [], c => c = .none
  | p :: r, c => c = .ref p.1 ∧ ∃ (vs : Array Value) (c' : Value), p.2.data = .fields vs ∧ vs[2]? = some c' ∧ Lk r c'
def Zl (cls : Value) (d : Option Addr) (l : List Pin) (o : Obj) : Prop := (o.cls = cls ∧ o.dict = d) ∧ ∃ (vs : Array Value) (c : Value), o.data = .fields vs ∧ vs[2]? = some c ∧ Lk l c
theorem zl_steady {cls : Value} {d : Option Addr} {l : List Pin} : PXN.Steady1 (Zl cls d l) := fun o v ⟨⟨h1, h2⟩, vs, c, h3, h4, h5⟩ =>
  ⟨⟨(Obj.cls_mapFields ..).trans h1, (HandSPX.dict_mapFields ..).trans h2⟩, vs.setIfInBounds 1 v, c, Obj.data_mapFields h3 _, by
    rw [Array.getElem?_setIfInBounds_ne (by decide)]
    exact h4, h5⟩
theorem Zl.zc {cls : Value} {d : Option Addr} {l : List Pin} {o : Obj} (h : Zl cls d l o) : Zc cls d o := h.1
theorem zl_none {cls : Value} {d : Option Addr} {o : Obj} {vs : Array Value} (h : L2N.Zn cls d o) (e : o.data = .fields vs) : Zl cls d [] o := ⟨⟨h.1, h.2.1⟩, vs, .none, e, h.2.2 vs e, rfl⟩
theorem Lk.fields {l : List Pin} : ∀ {c : Value}, Lk l c → ∀ p ∈ l, ∃ vs, p.2.data = .fields vs := by
  induction l with
  | nil => exact fun _ _ h => by cases h
  | cons q r ih =>
    rintro c ⟨_, vs, c', e, _, h⟩ p hp
    rcases List.mem_cons.mp hp with rfl | hp
    · exact ⟨vs, e⟩
    · exact ih h p hp
structure Air (X : Cx) (W : WX) (u : Value) (s' : Shared) (a : Addr) (B : Heap) (sI : Shared) (pins : List Pin) (σ : L2.St) (H : Hp) (cls : Value) (d : Option Addr) (l : List Pin) : Prop where
  u : u = .ref a
  I : Inv X pins σ H sI
  nb : ∀ b o, sI.heap.get? b = some o → b ∉ frs X.stack → B.get? b = some o
  up : sI.heap.UpToSlots s'.heap
  sky : Sky B X.stack a (Zl cls d l) X.env.locals s'.heap
  na : H a = none
  os : s'.os = sI.os
  ag : AllBare s'.gens
  cx : ∀ p ∈ l, B.get? p.1 = some p.2 ∧ H p.1 = none
  w : W cls d σ H
def XE (X : Cx) (W : WX) (u : Value) (s' : Shared) : Prop := ∃ a B sI pins σ H cls d l, Air X W u s' a B sI pins σ H cls d l
def Takes (X : Cx) (W : WX) : Prop := ∀ u s', XE X W u s' → X.xe u s'
theorem Air.imp {X : Cx} {W W' : WX} {u : Value} {s' : Shared} {a : Addr} {B : Heap} {sI : Shared} {pins : List Pin} {σ : L2.St} {H : Hp} {cls : Value} {d : Option Addr} {l : List Pin} (x : Air X W u s' a B sI pins σ H cls d l) (w : W' cls d σ H) : Air X W' u s' a B sI pins σ H cls d l :=
  ⟨x.u, x.I, x.nb, x.up, x.sky, x.na, x.os, x.ag, x.cx, w⟩
theorem Takes.imp {X : Cx} {W W' : WX} (t : Takes X W) (h : ∀ c d σ H, W' c d σ H → W c d σ H) : Takes X W' := fun u s' ⟨a, B, sI, pins, σ, H, cls, d, l, x⟩ => t u s' ⟨a, B, sI, pins, σ, H, cls, d, l, x.imp (h _ _ _ _ x.w)⟩
structure Gone (P : Program) (w : World) (outer : List Env) (H : Hp) (s : Shared) (E : XK) (u : Value) (s' : Shared) (a : Addr) (B : Heap) (H' : Hp) (cls : Value) (d : Option Addr) (l : List Pin) : Prop where
  u : u = .ref a
  fl : HandSPX.FlyingZ B outer a (Zl cls d l) s'.heap
  ok : HOk P w H' B
  ub : UB (frs outer) H H' s.heap B s'.heap
  na : H' a = none
  os : s'.os = s.os
  ag : AllBare s'.gens
  cx : ∀ p ∈ l, B.get? p.1 = some p.2 ∧ H' p.1 = none
  e : E cls d H'
def CX (P : Program) (w : World) (outer : List Env) (H : Hp) (s : Shared) (E : XK) (u : Value) (s' : Shared) : Prop := ∃ a B H' cls d l, Gone P w outer H s E u s' a B H' cls d l
section
variable {X : Cx} {W : WX} {E : XK} {pins : List Pin} {σ : L2.St} {H : Hp} {sI s s' : Shared} {B : Heap} {u : Value}
theorem XE.of_call (I : Inv X pins σ H s) (hW : ∀ cls d H', E cls d H' → W cls d σ H') (c : CX X.prog X.w X.stack H s E u s') : XE X W u s' := by
  obtain ⟨a, B, H', cls, d, l, g⟩ := c
  obtain ⟨G, yes, no⟩ := restrict s'.heap fun b => (B.get? b).isSome || decide (b ∈ frs X.stack)
  have up : ∀ {b : Addr} {o : Obj}, B.get? b = some o → G.get? b = some o := fun {b o} e => (yes b (by rw [e]; rfl)).trans (g.fl.1 b o e)
  have fr : ∀ {b : Addr}, b ∈ frs X.stack → G.get? b = s'.heap.get? b := fun {b} h => yes b (by rw [decide_eq_true h, Bool.or_true])
  have old : ∀ {b : Addr} {o : Obj}, G.get? b = some o → s'.heap.get? b = some o := fun {b o} e => by
    by_cases q : ((B.get? b).isSome || decide (b ∈ frs X.stack)) = true
    · rw [← yes b q]; exact e
    · rw [no b (Bool.eq_false_iff.mpr q)] at e; cases e
  have oldB : ∀ {b : Addr} {o : Obj}, G.get? b = some o → b ∉ frs X.stack → B.get? b = some o := fun {b o} e hb => by
    cases q : B.get? b with
    | some o' => rw [← up q, e]
    | none => rw [no b (by rw [q, decide_eq_false hb]; rfl)] at e; cases e
  have un : Un (frs X.stack) [] H H' s.heap G := by
    refine ⟨fun b o e n hb _ => up (g.ub.keep b o e n hb), fun b o e _ hb _ => ?_, fun b o e n _ => g.ub.free b o e n, fun b o e _ => ?_, g.ub.tups, g.ub.frzs, g.ub.tbls⟩
    · obtain ⟨sl, q⟩ := g.ub.slot b o e hb
      exact ⟨sl, (fr hb).trans q⟩
    · by_cases hb : b ∈ frs X.stack
      · obtain ⟨sl, q⟩ := g.ub.slot b o e hb
        exact ⟨_, (fr hb).trans q⟩
      · obtain ⟨o', q⟩ := g.ub.there b o e hb
        exact ⟨o', up q⟩
  exact ⟨a, B, _, pins, σ, H', cls, d, l, g.u, I.call (ch := []) (g' := s'.gens) (t' := s'.toks) (d' := s'.drawn) un (g.ok.kept fun b o => up) g.ag (fun _ z => nomatch z), fun b o => oldB, Heap.UpToSlots.of_keeps fun b o => old, .inr (.inl g.fl), g.na, g.os, g.ag, g.cx, hW _ _ _ g.e⟩
theorem XE.born {a : Addr} {oe : Obj} {vs : Array Value} {cls : Value} {d : Option Addr} {l : List Pin} (I : Inv X pins σ H sI) (k : ∀ b o, sI.heap.get? b = some o → s'.heap.get? b = some o) (hne : sI.heap.get? a = none) (he : s'.heap.get? a = some oe)
    (hz : Zl cls d l oe) (hd : oe.data = .fields vs) (h1 : vs[1]? = some .none) (na : H a = none) (os : s'.os = sI.os) (ag : AllBare s'.gens) (hl : ∀ p ∈ l, sI.heap.get? p.1 = some p.2 ∧ p.1 ∉ frs X.stack ∧ H p.1 = none) (w : W cls d σ H) : XE X W (.ref a) s' := by
  have off : ∀ {b : Addr} {o : Obj}, (PySem.W.hideAll sI.heap (frs X.stack)).get? b = some o → sI.heap.get? b = some o := fun e => PySem.W.of_hideAll _ e
  have sky : Sky (PySem.W.hideAll sI.heap (frs X.stack)) X.stack a (Zl cls d l) X.env.locals s'.heap := by
    refine .inl ⟨fun b o e => k b o (off e), ?_, Heap.FunFrames.of_keeps (fun b o e _ => ⟨o, k b o e, rfl⟩) (funFrames_none I.stack fun b hb => PySem.W.hideAll_none _ hb), oe, vs, he, hz, hd, h1⟩
    cases q : (PySem.W.hideAll sI.heap (frs X.stack)).get? a with
    | none => rfl
    | some o => rw [off q] at hne; cases hne
  exact ⟨a, PySem.W.hideAll sI.heap (frs X.stack), sI, pins, σ, H, cls, d, l, rfl, I, fun b o e hb => PySem.W.hideAll_get _ e hb, Heap.UpToSlots.of_keeps k, sky, na, os, ag, fun p hp => ⟨PySem.W.hideAll_get _ (hl p hp).1 (hl p hp).2.1, (hl p hp).2.2⟩, w⟩
theorem XE.leave (hs : X.stack = X.env :: X.outer) (hf : X.env.frame = some X.env.locals) (hex : X.ex = []) {E₁ : Value → Shared → Prop} (hW : ∀ cls d σ H, W cls d σ H → E cls d H) (x : XE X W u s') :
    wpAny (model X.prog X.w) X.A (leaving X.env u) (fun _ s'' => CX X.prog X.w X.outer X.H_0 X.s_0 E u s'') E₁ s' := by
  obtain ⟨a, B, sI, pins, σ, H, cls, d, l, x⟩ := x
  have I := x.I
  have frames : X.A.frames = some (X.env :: X.outer) := by rw [I.ok.frames, hs]
  have apart : ∀ {b : Addr} {o : Obj}, X.s_0.heap.get? b = some o → b ∉ X.fs → b ∉ frs X.stack := fun {b o} e hb hm => by
    rcases List.mem_cons.mp (I.stkSub b hm) with rfl | z
    · exact Nat.lt_irrefl _ (Nat.lt_of_lt_of_le (Heap.lt_size e) I.ok.above)
    · exact hb z
  have noex : ∀ b, b ∉ X.ex := fun b => by rw [hex]; exact fun z => by cases z
  have out : ∀ h', HandSPX.FlyingZ B X.outer a (Zl cls d l) h' → s'.heap.UpToSlots h' → CX X.prog X.w X.outer X.H_0 X.s_0 E u { s' with heap := h' } := fun h' fl up' => by
    refine ⟨a, B, H, cls, d, l, x.u, fl, I.inGround x.nb, ?_, x.na, x.os.trans I.os, x.ag, x.cx, hW _ _ _ _ x.w⟩
    refine ⟨fun b o e n hb => x.nb b o (I.base.keep b o e n hb (noex b)) (apart e hb), fun b o e hb => ?_, fun b o e n => I.base.free b o e n (noex b), fun b o e hb => ?_, I.base.tups, I.base.frzs, I.base.tbls⟩
    · obtain ⟨_, o₀, e₀, hnf⟩ := I.ok.funs.mem hb
      obtain rfl := Option.some.inj (e.symm.trans e₀)
      obtain ⟨_, e1⟩ := I.base.slot b o e (I.ok.frf b hb) hb (noex b)
      obtain ⟨_, e2⟩ := x.up b _ e1 hnf
      obtain ⟨sl, e3⟩ := up' b _ e2 hnf
      exact ⟨sl, e3⟩
    · obtain ⟨o', e1⟩ := I.base.there b o e (noex b)
      exact ⟨o', x.nb b o' e1 (apart e hb)⟩
  have sky := x.sky
  rw [hs] at sky
  rw [x.u]
  rw [x.u] at out
  rcases sky with ⟨hB, hn, hl, oe, vs, he, hz, hd, h1⟩ | fl | hd
  · exact PXN.leaving_firstZ zl_steady frames hl hf he hB hn hd h1 hz out
  · exact PXN.leaves_onZ zl_steady frames hf fl out
  · exact HandSPX.leaves_heldZ hf hd out
theorem takes_of (hs : X.stack = X.env :: X.outer) (hf : X.env.frame = some X.env.locals) (hex : X.ex = []) {E₁ : Value → Shared → Prop}
    (hx : X.xe = fun e s' => wpAny (model X.prog X.w) X.A (leaving X.env e) (fun _ s'' => CX X.prog X.w X.outer X.H_0 X.s_0 E e s'') E₁ s') : Takes X (fun cls d _ H => E cls d H) := fun u s' x => by
  rw [hx]
  exact XE.leave (W := fun cls d _ H => E cls d H) hs hf hex (fun _ _ _ _ h => h) x
theorem passes_call (tk : Takes X W) (hW : ∀ cls d σ H, E cls d H → W cls d σ H) : Passes (CX X.prog X.w) X E := fun pins σ H s e s' I c => tk e s' (XE.of_call I (fun cls d H' h => hW cls d σ H' h) c)
theorem passAt (tk : Takes X W) (σ : L2.St) : PassesAt (CX X.prog X.w) X σ (WE W σ) := fun pins H s e s' I c => tk e s' (XE.of_call I (fun _ _ _ h => h) c)
theorem land {M : Model} {A : Around} {E₁ : Value → Shared → Prop} {env : Env} {outer : List Env} {L a : Addr} {Z : Obj → Prop} {Q : Unit → Shared → Prop} (hZ : PXN.Steady1 Z) (hfr : A.frames = some (env :: outer)) (hf : env.frame = some L)
    (x : Sky B (env :: outer) a Z L s.heap) (hQ : ∀ h', HandSPX.FlyingZ B (env :: outer) a Z h' → s.heap.UpToSlots h' → Q () { s with heap := h' }) :
    wpAny M A (noteFrame (.ref a) env) (fun _ s₂ => wpAny M A (setFlight (.ref a) none) Q E₁ s₂) E₁ s := L2N.Sky.land hZ hfr hf x hQ
end
def Warm (A : Around) (l : List Pin) : Prop := (l = [] ∧ A.handled = none) ∨ ∃ (p : Pin) (r : List Pin), l = p :: r ∧ A.handled = some (.ref p.1) ∧ Lk (p :: r) (.ref p.1)
theorem ref_ne {a b : Addr} (h : a ≠ b) : (Value.ref a == Value.ref b) = false := by
  apply Bool.eq_false_iff.mpr
  intro z
  exact h (Value.ref.inj (eq_of_beq z))
section
variable {prog : Program} {w : World} {A : Around} {E : Value → Shared → Prop} {s : Shared} {a : Addr}
theorem unch {R : Result → Shared → Prop} (q : R (.ok (.ret .none)) s) : ∀ (r : List Pin) (x : Pin) (pre : List Pin) (slow : Value) (t : Bool), Lk (x :: r) (.ref x.1) → Lk (pre ++ x :: r) slow → (∀ p ∈ pre ++ x :: r, s.heap.get? p.1 = some p.2 ∧ p.1 ≠ a) →
    codeAny (model prog w) A (.builtin "proto.unchain" ⟨[.ref a, .ref x.1, slow, .bool t], []⟩) R s := by
  intro r
  induction r with
  | nil =>
    rintro x pre slow t ⟨_, vs, c, e1, e2, rfl⟩ _ hp
    have hx := (hp x (List.mem_append_right _ List.mem_cons_self)).1
    refine codeAny_builtin HotX.entry_unchain ?_
    show wpAny _ _ (field (.ref x.1) 2 >>= _) _ _ s
    refine wpAny_bind (wpAny_field hx e1 e2 ?_)
    rw [if_pos (show (Value.none == Value.none) = true from rfl)]
    first
    | exact wpAny_bind (wpAny_pure (wpAny_pure q))
    | exact wpAny_pure q
  | cons y r ih =>
    rintro x pre slow t ⟨_, vs, c, e1, e2, e3⟩ hs hp
    have hx := (hp x (List.mem_append_right _ List.mem_cons_self)).1
    have hy := hp y (List.mem_append_right _ (List.mem_cons_of_mem _ List.mem_cons_self))
    have ec : c = .ref y.1 := e3.1
    subst ec
    have hp' : ∀ {pre' : List Pin}, (∀ p ∈ pre', p ∈ pre ++ [x]) → ∀ p ∈ pre' ++ y :: r, s.heap.get? p.1 = some p.2 ∧ p.1 ≠ a := fun {pre'} hsub p h => by
      refine hp p ?_
      rcases List.mem_append.mp h with h | h
      · rcases List.mem_append.mp (hsub p h) with h | h
        · exact List.mem_append_left _ h
        · exact List.mem_append_right _ (by rw [List.mem_singleton.mp h]; exact List.mem_cons_self)
      · exact List.mem_append_right _ (List.mem_cons_of_mem _ h)
    refine codeAny_builtin HotX.entry_unchain ?_
    show wpAny _ _ (field (.ref x.1) 2 >>= _) _ _ s
    refine wpAny_bind (wpAny_field hx e1 e2 ?_)
    have n1 : ¬ ((Value.ref y.1 == Value.none) = true) := by simp
    have n2 : ¬ ((Value.ref y.1 == Value.ref a) = true) := by rw [ref_ne hy.2]; decide
    rw [if_neg n1]
    rw [if_neg n2]
    have quiet : ∀ args : Args, (Code.builtin "proto.unchain" args).quiet = true := fun args => plainId_quiet (by decide +kernel) args
    by_cases n3 : (Value.ref y.1 == slow) = true
    · rw [if_pos n3]
      refine wpAny_bind (wpAny_rule ?_)
      first
      | exact wpAny_bind (wpAny_pure (wpAny_pure q))
      | exact wpAny_pure q
    rw [if_neg n3]
    cases t with
    | false =>
      rw [if_neg (by decide)]
      refine wpAny_bind (wpAny_pure (wpAny_pure ⟨quiet _, ih y (pre ++ [x]) slow true e3 (by rw [List.append_assoc]; exact hs) (hp' fun _ h => h)⟩))
    | true =>
      rw [if_pos rfl]
      cases pre with
      | nil =>
        obtain ⟨rfl, _⟩ := hs
        exact wpAny_bind (wpAny_field hx e1 e2 (wpAny_pure ⟨quiet _, ih y [] (.ref y.1) false e3 e3 (hp' (pre' := []) fun _ z => (by cases z))⟩))
      | cons z pre =>
        obtain ⟨rfl, us, c2, g1, g2, g3⟩ := hs
        have hz := (hp z List.mem_cons_self).1
        exact wpAny_bind (wpAny_field hz g1 g2 (wpAny_pure ⟨quiet _, ih y (pre ++ [x]) c2 false e3 (by rw [List.append_assoc]; exact g3) (hp' fun p h => List.mem_cons_of_mem _ h)⟩))
def hotH (l : List Pin) (a : Addr) (h : Heap) : Heap := match l with
  | [] => h
  | p :: _ => h.update a (Obj.mapFields (·.setIfInBounds 2 (.ref p.1)))
theorem hotH_ne {l : List Pin} {h : Heap} {b : Addr} (hb : a ≠ b) : (hotH l a h).get? b = h.get? b := by
  cases l with
  | nil => rfl
  | cons p r => exact Heap.get?_update_other _ _ hb
theorem raiseNew_warm {α : Type} {l : List Pin} {oe : Obj} {vs : Array Value} {Q : α → Shared → Prop} (hw : Warm A l) (hl : ∀ p ∈ l, s.heap.get? p.1 = some p.2 ∧ p.1 ≠ a) (ha : s.heap.get? a = some oe) (da : oe.data = .fields vs) (hi : 2 < vs.size)
    (hE : E (.ref a) { s with heap := hotH l a s.heap }) : wpAny (model prog w) A (raiseNew (.ref a) : Sem α) Q E s := by
  unfold raiseNew
  refine wpAny_bind (wpAny_handled ?_)
  rcases hw with ⟨rfl, hh⟩ | ⟨p, r, rfl, hh, lk⟩
  · rw [hh]
    first
    | exact wpAny_throw hE
    | exact wpAny_bind (wpAny_pure (wpAny_throw hE))
  · rw [hh]
    have n0 : (Value.ref p.1 != Value.ref a) = true := by
      unfold bne
      rw [ref_ne (hl p List.mem_cons_self).2]
      rfl
    have step : ∀ {Q' : Unit → Shared → Prop}, Q' () { s with heap := hotH (p :: r) a s.heap } → wpAny (model prog w) A (holding [Value.ref a] (runValue (.builtin "proto.unchain" ⟨[.ref a, .ref p.1, .ref p.1, .bool false], []⟩))) (fun _ s2 => wpAny (model prog w) A (updateField a 2 (.ref p.1)) Q' E s2) E s := fun {Q'} q' =>
      wpAny_holding (wpAny_runValue (unch (by
        show wpAny _ _ _ _ _ _
        exact HotX.chained ha da hi q') r p [] (.ref p.1) false lk lk hl))
    show wpAny _ _ (if (Value.ref p.1 != Value.ref a) = true then _ else _) _ _ _
    rw [if_pos n0]
    exact wpAny_bind (wpAny_mono (step (wpAny_throw hE)) (fun _ _ h => wpAny_bind h) fun _ _ e => e)
end
def WarmC (X : Cx) : Prop := ∃ l : List Pin, Warm X.A l ∧ ∀ p ∈ l, p ∈ X.pn
theorem WarmC.calm {X : Cx} (ok : X.Ok) (hc : X.calm = true) : WarmC X := ⟨[], .inl ⟨rfl, ok.hd hc⟩, fun _ z => nomatch z⟩
def WarmI (X : Cx) : Prop := X.Ok → WarmC X
theorem warm_calm {X : Cx} (hc : X.calm = true) : WarmI X := fun ok => .calm ok hc
theorem inv_pn {X : Cx} {pins : List Pin} {σ : L2.St} {H : Hp} {s : Shared} (I : Inv X pins σ H s) {p : Pin} (hp : p ∈ X.pn) : s.heap.get? p.1 = some p.2 ∧ p.1 ∉ frs X.stack ∧ H p.1 = none := by
  have P := I.pin p (List.mem_append_left _ hp)
  exact ⟨P.1, fun hm => (List.mem_cons.mp (I.stkSub _ hm)).elim P.2.2.1 P.2.2.2.1, P.2.1⟩
theorem ofNe {vs : Array Value} {i j : Nat} {x : Value} (h : i ≠ j) : (vs.setIfInBounds i x)[j]? = vs[j]? := Array.getElem?_setIfInBounds_ne h
theorem hot_rec {A : Around} {l : List Pin} {a : Addr} {h : Heap} {oe : Obj} {vs : Array Value} {cls : Value} {d : Option Addr} (wl : Warm A l) (ha : h.get? a = some oe) (hd : oe.data = .fields vs) (hz : L2N.Zn cls d oe) :
    ∃ (o' : Obj) (vs' : Array Value), (hotH l a h).get? a = some o' ∧ Zl cls d l o' ∧ o'.data = .fields vs' ∧ vs'[1]? = vs[1]? := by
  have h2 := hz.2.2 vs hd
  rcases wl with ⟨rfl, _⟩ | ⟨p, r, rfl, _, lk⟩
  · exact ⟨oe, vs, ha, zl_none hz hd, hd, rfl⟩
  · refine ⟨_, _, Heap.get?_update_self _ ha (Obj.isFreed_of_fields (Obj.data_mapFields hd _)), ⟨⟨(Obj.cls_mapFields ..).trans hz.1, (HandSPX.dict_mapFields ..).trans hz.2.1⟩, _, .ref p.1, Obj.data_mapFields hd _, ?_, lk⟩, Obj.data_mapFields hd _, ofNe (by decide)⟩
    have := (Array.getElem?_eq_some_iff.mp h2).1
    simp [this]
section
variable {X : Cx} {W : WX} {e : Expr} {t : L2.St → Hp → XK → Prop} {pos : Pos}
theorem born_hot {pins : List Pin} {σ : L2.St} {H : Hp} {sI s' : Shared} {h : Heap} {a : Addr} {oe : Obj} {vs : Array Value} {cls : Value} {d : Option Addr} {l : List Pin} (tk : Takes X W) (wl : Warm X.A l) (hl : ∀ p ∈ l, p ∈ X.pn) (I : Inv X pins σ H sI) (k : ∀ b o, sI.heap.get? b = some o → h.get? b = some o)
    (hne : sI.heap.get? a = none) (ha : h.get? a = some oe) (hz : L2N.Zn cls d oe) (hd : oe.data = .fields vs) (h1 : vs[1]? = some .none) (na : H a = none) (os : s'.os = sI.os) (ag : AllBare s'.gens) (q : W cls d σ H) : X.xe (.ref a) { s' with heap := hotH l a h } := by
  obtain ⟨o', vs', g1, g2, g3, g4⟩ := hot_rec wl ha hd hz
  refine tk _ _ (XE.born I (fun b o e => ?_) hne g1 g2 g3 (g4.trans h1) na os ag (fun p hp => inv_pn I (hl p hp)) q)
  have hab : a ≠ b := fun z => by
    rw [← z, hne] at e
    cases e
  show (hotH l a h).get? b = some o
  rw [hotH_ne hab]
  exact k b o e
theorem ps_raiseL (hw : WarmI X) (tk : Takes X W) (he : L2H.PMk5 X e t) : PS X (.Raise (some e) none pos) (fun _ σ H => t σ H fun cls d H' => W cls d σ H') := by
  refine ⟨fun pins s σ H D I h => wpAny_Raise_value (thn (he pins s σ H _ I h) fun u s1 hu => ?_)⟩
  obtain ⟨⟨a, oe, vs, sI, H', cls, d, rfl, J, k, hne, ha, hz, hd, h1, na, os, ag, r, q⟩, h5⟩ := hu
  obtain ⟨r1, r2⟩ := r (model X.prog X.w) sI.heap J.kIn
  obtain ⟨l, wl, hl⟩ := hw J.ok
  have nel : ∀ p ∈ l, s1.heap.get? p.1 = some p.2 ∧ p.1 ≠ a := fun p hp => ⟨k _ _ (inv_pn J (hl p hp)).1, fun z => by
    have := (inv_pn J (hl p hp)).1
    rw [z, hne] at this
    cases this⟩
  exact raise_value_tree (h₀ := sI.heap) ⟨ha, hz.1, hd, k, hne, r1, r2⟩ (setFlight_fresh ha hd h1 (raiseNew_warm wl nel ha hd (Array.getElem?_eq_some_iff.mp (hz.2.2 vs hd)).1 (born_hot tk wl hl J k hne ha hz hd h1 na os ag q)))
end
section
variable {X : Cx} {pins : List Pin} {σ : L2.St} {H : Hp} {s s' sI : Shared} {cls : Value} {d : Option Addr} {l : List Pin} {a : Addr} {B h : Heap} {W : WX}
structure Caught (X : Cx) (pins : List Pin) (s' : Shared) (σ : L2.St) (H : Hp) (cls : Value) (d : Option Addr) (l : List Pin) (a : Addr) (B : Heap) (sI : Shared) (h : Heap) : Prop where
  I : Inv X pins σ H sI
  nb : ∀ b o, sI.heap.get? b = some o → b ∉ frs X.stack → B.get? b = some o
  up : sI.heap.UpToSlots h
  fl : HandSPX.FlyingZ B (X.env :: X.outer) a (Zl cls d l) h
  na : H a = none
  os : s'.os = sI.os
  ag : AllBare s'.gens
  cx : ∀ p ∈ l, B.get? p.1 = some p.2 ∧ H p.1 = none
theorem Caught.inv (c : Caught X pins s' σ H cls d l a B sI h) : Inv X pins σ H { s' with heap := h } := c.I.landed c.nb c.fl.1 c.up c.os c.ag
theorem Caught.again (c : Caught X pins s' σ H cls d l a B sI h) {h' : Heap} (fl : HandSPX.FlyingZ B (X.env :: X.outer) a (Zl cls d l) h') (up : h.UpToSlots h') : Caught X pins s' σ H cls d l a B sI h' := ⟨c.I, c.nb, c.up.trans up, fl, c.na, c.os, c.ag, c.cx⟩
theorem Caught.on (c : Caught X pins s' σ H cls d l a B sI h) (hs : X.stack = X.env :: X.outer) (hf : X.env.frame = some X.env.locals) (tk : Takes X W) (w : W cls d σ H) {α : Type} {Q : α → Shared → Prop} {what : String} :
    wpAny (model X.prog X.w) X.A (passOn what (.ref a) X.env : Sem α) Q X.xe { s' with heap := h } := by
  obtain ⟨k1, k2, k3, oe, vs, T, oT, ts, g1, g2, g3, g4, g5⟩ := id c.fl
  unfold PySem.passOn
  refine wpAny_bind (wpAny_field g1 g3 g4 ?_)
  rw [if_neg (show ¬ ((Value.ref T == Value.none) = true) from by simp)]
  have thrown : wpAny (model X.prog X.w) X.A (setFlight (.ref a) X.env.frame) (fun _ s4 => wpAny (model X.prog X.w) X.A (throw (.ref a) : Sem α) Q X.xe s4) X.xe { s' with heap := h } := by
    rw [hf]
    exact HandSPX.setFlight_upZ c.fl fun h4 hh4 up4 => wpAny_throw (tk _ _ ⟨a, B, sI, pins, σ, H, cls, d, l, rfl, c.I, c.nb, c.up.trans up4, .inr (.inr (hs.symm ▸ hh4)), c.na, c.os, c.ag, c.cx, w⟩)
  first
  | exact wpAny_bind thrown
  | exact wpAny_bind (wpAny_pure (wpAny_bind thrown))
theorem field_off {env : Env} {outer : List Env} {B h : Heap} {b : Addr} {o : Obj} {vs : Array Value} (ff : h.FunFrames B (env :: outer)) (e : h.get? b = some o) (dd : o.data = .fields vs) : b ∉ frs (env :: outer) := fun hm => by
  obtain ⟨_, o', e', hnf⟩ := ff.mem hm
  exact hnf vs (by rw [← Option.some.inj (e.symm.trans e')]; exact dd)
end
section
variable {X : Cx} {pins : List Pin} {σ : L2.St} {H : Hp} {s s' sI : Shared} {cls : Value} {d : Option Addr} {l : List Pin} {a : Addr} {B h : Heap} {W : WX}
theorem try_land {pn : List Pin} {xe : Value → Shared → Prop} {u : Value} {hd : List ExceptHandler} {Q : Flow → Shared → Prop} {E : Value → Shared → Prop} (ok : X.Ok) (hs : X.stack = X.env :: X.outer) (hf : X.env.frame = some X.env.locals) (x : XE (X.tr (X.pn ++ pins) xe) W u s')
    (k : ∀ (a : Addr) (B : Heap) (sI : Shared) (σ : L2.St) (H : Hp) (cls : Value) (d : Option Addr) (l : List Pin) (h : Heap), Caught X pins s' σ H cls d l a B sI h → W cls d σ H → wpAny (model X.prog X.w) X.A (handleBy (.ref a) X.env hd) Q E { s' with heap := h }) :
    wpAny (model X.prog X.w) X.A (noteFrame u X.env) (fun _ s2 => wpAny (model X.prog X.w) X.A (setFlight u none) (fun _ s3 => wpAny (model X.prog X.w) X.A (handleBy u X.env hd) Q E s3) E s2) E s' := by
  obtain ⟨a, B, sI, pins', σ, H, cls, d, l, x⟩ := x
  have J : Inv X pins σ H sI := Inv.ofTry x.I ok
  have fr : X.A.frames = some (X.env :: X.outer) := by rw [ok.frames, hs]
  have sky := x.sky
  rw [show (X.tr (X.pn ++ pins) xe).stack = X.stack from rfl, hs] at sky
  rw [x.u]
  exact land zl_steady fr hf sky fun h fl up => k a B sI σ H cls d l h ⟨J, x.nb, x.up.trans up, fl, x.na, x.os, x.ag, x.cx⟩ x.w
theorem one_clause (c : Caught X pins s' σ H cls d l a B sI h) (hs : X.stack = X.env :: X.outer) (hf : X.env.frame = some X.env.locals) {x : Str} {cv : Value} (hc : Names X x cv) {b : Bool} (hb : PySem.W.exmOne X.K cls cv = some b) (tk : Takes X W) (no : b = false → W cls d σ H) {nm : Option Str} {np pos' : Pos} {st : List Stmt} {Q : Flow → Shared → Prop}
    (yes : b = true → codeAny (model X.prog X.w) (X.A.mark (some (.ref a))) (.handlers (.ref a) [.ExceptHandler none nm st pos'] X.env) (fun r s₂ => match r with
          | .ok f => (match nm with
            | none => Q f s₂
            | some n => wpAny (model X.prog X.w) X.A (do bindName X.env n .none; unbindBehindTheSuite X.env n pos') (fun _ s₃ => Q f s₃) X.xe s₂)
          | .error e => cameBackBy (model X.prog X.w) X.A X.env X.xe e s₂) { s' with heap := h }) :
    wpAny (model X.prog X.w) X.A (handleBy (.ref a) X.env [.ExceptHandler (some (.Name x np)) nm st pos']) Q X.xe { s' with heap := h } := by
  obtain ⟨st', ba, ff, oe, vs, T, oT, ts, g1, g2, g3, _⟩ := id c.fl
  have J := c.inv
  have nf := field_off ff g1 g3
  have nL : a ≠ X.env.locals := fun z => nf (List.mem_filterMap.mpr ⟨X.env, List.mem_cons_self, by rw [hf, z]⟩)
  have nF : a ∉ X.fs := fun z => by
    obtain ⟨e', he', q⟩ := List.mem_filterMap.mp z
    exact nf (List.mem_filterMap.mpr ⟨e', List.mem_cons_of_mem _ he', q⟩)
  have S := J.suite g1 g3 c.na nL nF
  refine wpAny_handleBy_cons (codeAny_handlers_test ?_) (by intro q; cases q)
  have lt : PySem.W.Looks (model X.prog X.w) h (typeOf (.ref a)) cls := fun A Q E s k q => wpAny_typeOf_ref (k _ _ g1) (by rw [g2.1.1]; exact q)
  have lm := PySem.W.exm_one (M := model X.prog X.w) J.kIn lt hb
  have test : ∀ {Q : Value → Shared → Prop} {E : Value → Shared → Prop}, Q cv { s' with heap := h } → wpAny (model X.prog X.w) (X.A.mark (some (.ref a))) (eval (.Name x np) X.env) Q E { s' with heap := h } := fun {Q E} q => by
    obtain ⟨hg, hdbg, hm | ⟨hm, hv, hnn⟩⟩ := hc
    · exact ld_glob (X := X.suite a ((a, oe) :: (X.pn ++ pins))) S hg hm q hdbg
    · exact ld_blt (X := X.suite a ((a, oe) :: (X.pn ++ pins))) S hg hm hv q hnn hdbg
  refine test (lm.here ?_)
  cases b with
  | true => exact yes rfl
  | false => exact wpAny_handleBy_nil (c.on hs hf tk (no rfl))
end
section
variable {X : Cx} {x n : Str} {c : Value} {i : Nat} {body suite : List Stmt} {b₀ : Stmt} {np pos pos' : Pos} {tb : WX → TS} {ts : Addr → Value → Option Addr → TS} {Wout : WX}
theorem sp_ofTry {xe : Value → Shared → Prop} {pins : List Pin} {D : Ends} {f : Flow} {s1 : Shared} (ok : X.Ok) (h : SP (X.tr (X.pn ++ pins) xe) [] D f s1) : SP X pins D f s1 := by
  cases f with
  | next => obtain ⟨σ', H', J, q⟩ := h; exact ⟨σ', H', Inv.ofTry J ok, q⟩
  | brk => obtain ⟨σ', H', J, q⟩ := h; exact ⟨σ', H', Inv.ofTry J ok, q⟩
  | cont => obtain ⟨σ', H', J, q⟩ := h; exact ⟨σ', H', Inv.ofTry J ok, q⟩
  | ret u => obtain ⟨v, σ', H', J, r, q⟩ := h; exact ⟨v, σ', H', Inv.ofTry J ok, r, q⟩
theorem ps_try_as (hs : X.stack = X.env :: X.outer) (hf : X.env.frame = some X.env.locals) (hN : X.N.Nodup) (hi : X.N[i]? = some n) (hln : X.env.kindOf n = some .local) (hc : Names X x c) (tk : Takes X Wout)
    (hb : ∀ (W : WX) (pn : List Pin) (xe : Value → Shared → Prop), Takes (X.tr pn xe) W → PassesOwn (model X.prog X.w) X.A X.env xe → PSs (X.tr pn xe) body (tb W))
    (hsu : ∀ (a : Addr) (oe : Obj) (cls : Value) (d : Option Addr) (pn : List Pin), Zc cls d oe → (∃ vs, oe.data = .fields vs) → PSs (X.suite a ((a, oe) :: pn)) (b₀ :: suite) (ts a cls d)) :
    PS X (.Try body [.ExceptHandler (some (.Name x np)) (some n) (b₀ :: suite) pos'] [] [] pos) (fun D σ H => tb (wAs X.K c i ts Wout D) D σ H) := by
  refine ⟨fun pins s σ H D I h => ?_⟩
  have ok := I.ok
  refine wpAny_Try_except (wpAny_mono ((hb (wAs X.K c i ts Wout D) (X.pn ++ pins) _ (fun u s' xx => try_land (pn := []) (hd := [.ExceptHandler (some (.Name x np)) (some n) (b₀ :: suite) pos']) (Q := SP X pins D) ok hs hf xx fun a B sI σ' H' cls d l h3 ca wx => ?_) PassesOwn.looking).run [] s σ H D (I.toTry _) h) (fun f s1 hsp => ?_) (fun e s1 he => he))
  · obtain ⟨b, hb1, hyes, hno⟩ := wx
    refine one_clause ca hs hf hc hb1 tk hno fun hb => codeAny_handlers_suite_as ?_
    refine HandSPX.lands_againZ ca.fl fun h4 fl4 up4 => ?_
    have c4 := ca.again fl4 up4
    obtain ⟨st', ba, ff, oe, vs, T, oT, ts', g1, g2, g3, _⟩ := id fl4
    have nf := field_off ff g1 g3
    have nL : a ≠ X.env.locals := fun z => nf (List.mem_filterMap.mpr ⟨X.env, List.mem_cons_self, by rw [hf, z]⟩)
    have nF : a ∉ X.fs := fun z => by
      obtain ⟨e', he', q⟩ := List.mem_filterMap.mp z
      exact nf (List.mem_filterMap.mpr ⟨e', List.mem_cons_of_mem _ he', q⟩)
    have S4 := c4.inv.suite g1 g3 c4.na nL nF
    refine store_ok (X := X.suite a ((a, oe) :: (X.pn ++ pins))) (v := .ref a) S4 hN hi (.inl hln) rfl (fun s5 S5 => ?_) (.inr hln)
    refine wpAny_mono ((hsu a oe cls d (X.pn ++ pins) g2.zc ⟨_, g3⟩).run [] s5 _ H' _ S5 (hyes hb a c4.na)) (fun f s6 hsp => ?_) (fun _ _ z => z.elim)
    have done : ∀ {σ6 : L2.St} {H6 : Hp} {Q : Shared → Prop}, Inv (X.suite a ((a, oe) :: (X.pn ++ pins))) [] σ6 H6 s6 → (∀ s7, Inv X pins (σ6.set i none) H6 s7 → Q s7) →
        wpAny (model X.prog X.w) X.A (do bindName X.env n .none; unbindBehindTheSuite X.env n pos') (fun _ s7 => Q s7) X.xe s6 := fun {σ6 H6 Q} S6 hq => gone_ok (S6.unsuite ok) hN hi hln hq
    cases f with
    | next => obtain ⟨σ6, H6, S6, q⟩ := hsp; exact done S6 fun s7 J7 => ⟨_, _, J7, q⟩
    | brk => obtain ⟨σ6, H6, S6, q⟩ := hsp; exact done S6 fun s7 J7 => ⟨_, _, J7, q⟩
    | cont => obtain ⟨σ6, H6, S6, q⟩ := hsp; exact done S6 fun s7 J7 => ⟨_, _, J7, q⟩
    | ret u => obtain ⟨v, σ6, H6, S6, r, q⟩ := hsp; exact done S6 fun s7 J7 => ⟨_, _, _, J7, r, q⟩
  · have z := sp_ofTry ok hsp
    cases f with
    | next => exact wpAny_execs_nil z
    | brk => exact z
    | cont => exact z
    | ret u => exact z
end
structure RmH (k : Nat) (A : Around) : Prop extends L2H.RoomH k A where
  gd : A.guards = some []
section
variable {j k : Nat} {A : Around} {l : List Pin}
theorem RmH.mono (r : RmH k A) (h : j ≤ k) : RmH j A := ⟨r.toRoomH.mono h, r.gd⟩
theorem RmH.deeper (r : RmH (k + 1) A) (e : Env) : RmH k (A.deeper e) := ⟨r.toRoomH.deeper e, r.gd⟩
theorem RmH.make (r : RmH (k + 1) A) (C : Addr) (us : List Value) (kw : List (Str × Value)) : RmH k (A.under (.builtin "type.__call__" ⟨.ref C :: us, kw⟩)) :=
  ⟨r.toRoomH.make C us kw, by
    have plain : (Code.builtin "type.__call__" ⟨Value.ref C :: us, kw⟩).isGuard = false := by simp [Code.isGuard, guardIds]
    have none' : (Code.builtin "type.__call__" ⟨Value.ref C :: us, kw⟩).guards = [] := by unfold Code.guards; rw [plain]; rfl
    show (Around.under A _).guards = _
    unfold Around.under
    simp only [none']
    exact r.gd⟩
theorem RmH.units (r : RmH k A) : A.units + 64 < cLine := by have := r.un; omega
theorem RmH.mark (r : RmH k A) (h : Option Value) : RmH k (A.mark h) := ⟨⟨r.dp, r.un⟩, r.gd⟩
theorem Warm.deeper (h : Warm A l) (e : Env) : Warm (A.deeper e) l := h
theorem Warm.under (h : Warm A l) (c : Code) : Warm (A.under c) l := h
end
structure FnL (P : Program) (w : World) (K : PySem.W.Frag) (mg : Str → Option Value) (base : Heap) (k : Nat) (f : Addr) (fd : FuncData) (ps : List Str) (sp : Sp) : Prop where
  len : ∀ vs H Q E, sp vs H Q E → vs.length = ps.length
  run : ∀ (A : Around) (out : List Env) (s : Shared) (H : Hp) (as : Args) (us : List Value) (vs : List V) (Q : VK) (E : XK) (l : List Pin), RmH k A → Warm A l → (∀ p ∈ l, L2H.PinOk out H s p) → Env0 P w K mg base A out s H → BindsTo s fd as (ps.zip us) → Vals vs us → sp vs H Q E →
    codeAny (model P w) A (.call (.ref f) as) (CR (CX P w) out P w H s Q E) s
abbrev cxL (P : Program) (w : World) (K : PySem.W.Frag) (mg : Str → Option Value) (base : Heap) (N : List Str) (qual : Str) (sc : Scope) (f : Addr) (cd : Value) (A : Around) (out : List Env) (s : Shared) (H : Hp) (E : XK) (l : List Pin) : Cx :=
  { cxOf (CX P w) P w K mg base N qual sc f cd A out s H E with calm := false, pn := l }
section
variable {P : Program} {w : World} {K : PySem.W.Frag} {mg : Str → Option Value} {base : Heap} {k : Nat} {f : Addr} {fd : FuncData} {ps : List Str} {sp : Sp}
theorem FnL.imp {sp' : Sp} (F : FnL P w K mg base k f fd ps sp) (h : ∀ vs H Q E, sp' vs H Q E → sp vs H Q E) : FnL P w K mg base k f fd ps sp' :=
  ⟨fun vs H Q E q => F.len vs H Q E (h _ _ _ _ q), fun A out s H as us vs Q E l a b c d e g q => F.run A out s H as us vs Q E l a b c d e g (h _ _ _ _ q)⟩
theorem repin {X : Cx} {σ : L2.St} {H : Hp} {s : Shared} (l : List Pin) (I : Inv X [] σ H s) (h : ∀ p ∈ l, s.heap.get? p.1 = some p.2 ∧ H p.1 = none ∧ p.1 ≠ X.env.locals ∧ p.1 ∉ X.fs ∧ ∀ v, p.2.data ≠ .cell v) : Inv { X with calm := false, pn := l } [] σ H s := by
  have ok := I.ok
  exact ⟨⟨ok.mod, ok.kind, ok.glob, ok.blt, ok.above, ok.inj, ok.has, ok.cab, (fun z => Bool.noConfusion (show false = true from z)), ok.frames, ok.stk, ok.exf, ok.bs, ok.bsz, ok.noex, ok.exfs, ok.funs, ok.frf⟩, I.os, I.bare, I.base, I.loc, I.cell, I.free, I.freeC, fun p hp => h p (by rw [List.append_nil] at hp; exact hp), I.hok, I.len⟩
theorem start_l {N : List Str} {qual : Str} {sc : Scope} {cd : Value} {A : Around} {out : List Env} {s s1 : Shared} {H : Hp} {E : XK} {us : List Value} {vs : List V} {l : List Pin} (S : FnScope N ps sc) (hw : Warm A l) (hp : ∀ p ∈ l, L2H.PinOk out H s p) (e0 : Env0 P w K mg base A out s H) (hl : vs.length = ps.length) (r : Vals vs us)
    (x : InCallC s s.heap.objs.size (bindL (envOfC qual sc s.heap.objs.size f cd).kindOf (ps.zip us) fun _ => none) (cellsFrom (s.heap.objs.size + 1) sc.names []) (bindC (envOfC qual sc s.heap.objs.size f cd).kindOf (ps.zip us) fun _ => none) s1) :
    Inv (cxL P w K mg base N qual sc f cd A out s H E l) [] (L2.start N vs) H s1 := by
  have pinned : ∀ p ∈ l, s1.heap.get? p.1 = some p.2 ∧ H p.1 = none ∧ p.1 ≠ s.heap.objs.size ∧ p.1 ∉ frs out ∧ ∀ v, p.2.data ≠ .cell v := fun p hq => by
    obtain ⟨h1, tk, rfl, hk⟩ := x.done
    have q := hp p hq
    exact ⟨hk _ _ q.get, q.free, Nat.ne_of_lt (Heap.lt_size q.get), q.nofs, q.nocell⟩
  rcases hw with ⟨rfl, hh⟩ | ⟨p, r', rfl, hh, lk⟩
  · exact repin (X := cxOf (CX P w) P w K mg base N qual sc f cd A out s H E) [] (inv_start S hh e0 hl r x) pinned
  · exact repin (X := L2H.cxH (CX P w) P w K mg base N qual sc f cd A out s H E p) (p :: r') (L2H.inv_startH S (hp p List.mem_cons_self) e0 hl r x) pinned
theorem okL {x qual : Str} {st : Stmt} {N : List Str} (F : Fun K x qual st f fd) (S : FnScope N ps (defScope st)) (len : ∀ vs H Q E, sp vs H Q E → vs.length = ps.length)
    (hb : ∀ (cd : Value) (A : Around) (out : List Env) (s : Shared) (H : Hp) (vs : List V) (Q : VK) (E : XK) (l : List Pin), RmH k (A.deeper (envOfC qual (defScope st) s.heap.objs.size f cd)) → Warm A l → sp vs H Q E →
      ∃ t, PSs (cxL P w K mg base N qual (defScope st) f cd A out s H E l) (defBody st) t ∧ t { nx := fun _ H' => Q .non H', rt := Q } (start N vs) H) : FnL P w K mg base (k + 1) f fd ps sp := by
  obtain ⟨oc, od, kV, doc, pm, an, cd, ct, osl, rfl, lk, hc⟩ := F.ex
  refine ⟨len, fun A out s H as us vs Q E l room hw hp e0 bind val hsp => ?_⟩
  have inS : K.In s.heap := e0.mod.kin.keeps fun b o z => (e0.bs b o z).1
  obtain ⟨t, ht, hq⟩ := hb cd A out s H vs Q E l (room.deeper _) hw hsp
  have kinds : ∀ y ∈ ps.zip us, (defScope st).names.lookup y.1 = some .local ∨ ((defScope st).names.lookup y.1 = some .cell ∧ ((cellsFrom (s.heap.objs.size + 1) (defScope st).names []).lookup y.1).isSome = true) := by
    rintro ⟨n, v⟩ hy
    exact (S.par n (List.of_mem_zip hy).1).imp id fun q => ⟨q, PySem.W.cellsFrom_some _ _ _ (.inl q)⟩
  apply codeAny_call_function room.toRoomH.depth (inS _ _ lk) rfl S.co S.gen rfl (PySem.W.codeRec_of inS hc)
  apply bind
  apply wpAny_newFunctionEnv_cells S.kind kinds
  rintro env rfl s1 x
  have li : s.heap.NoLimit := e0.mod.nolimit.keeps fun b o z => (e0.bs b o z).1
  refine ⟨li.keeps x.toInCall.keep, codeAny_func (wpAny_mono (ht.run [] s1 (start N vs) H _ (start_l S hw hp e0 (len _ _ _ _ hsp) val x) hq) (fun fl s2 z => ?_) fun _ _ z => z)⟩
  cases fl with
  | next => obtain ⟨_, H2, J, q⟩ := z; exact ⟨.non, H2, J.os, J.bare, J.base, J.hok, rfl, q⟩
  | ret u => obtain ⟨v, _, H2, J, rv, q⟩ := z; exact ⟨v, H2, J.os, J.bare, J.base, J.hok, rv, q⟩
  | brk => obtain ⟨_, _, _, q⟩ := z; exact q.elim
  | cont => obtain ⟨_, _, _, q⟩ := z; exact q.elim
end
section
variable {X : Cx} {k : Nat} {f : Addr} {fd : FuncData} {ps : List Str} {sp : Sp} {E : L2.St → XK}
theorem pin_ok {pins : List Pin} {σ : L2.St} {H : Hp} {s : Shared} (I : Inv X pins σ H s) {p : Pin} (hp : p ∈ X.pn) : L2H.PinOk X.stack H s p := by
  have P := I.pin p (List.mem_append_left _ hp)
  exact ⟨P.1, P.2.1, (inv_pn I hp).2.1, P.2.2.2.2⟩
theorem pmkL {x : Str} {e : Expr} {es : List Expr} {ta : TA} {p pos : Pos} {C fI : Addr} (T : OexC X.K C) (iC : PySem.W.findIn X.K (.ref C) "__init__" = some (some (.ref fI))) (tI : PySem.W.typeIn X.K (.ref fI) = some (.type "function"))
    (Fi : FnL X.prog X.w X.K X.mg X.base k fI fd ps sp) (hr : RmH (k + 1) X.A) (hw : WarmI X) (hb : Binds X.K fd ps []) (hx : Passes (CX X.prog X.w) X (fun _ _ _ => False)) (hg : Gl X x) (hm : X.mg x = some (.ref C)) (ha : PA X (e :: es) ta)
    (hdb : (x == ("__debug__" : Str)) = false) (he : starEach (e :: es) X.env = (false, eval e X.env) :: starEach es X.env) (hpl : (backTo pos (starEach es X.env)).any (·.1) = false) : L2H.PMk5 X (.Call (.Name x p) (e :: es) [] pos) (tMkO C sp [] ta) := by
  intro pins s σ H Q I h
  obtain ⟨c1, c2, c3, c4, c5, c6, c7, c8, c9, c10, d0, d1, d2, d3, d5, hC, hbm⟩ := T.cls
  obtain ⟨l, wl, hl⟩ := hw I.ok
  refine wpAny_Call_Name_kw (ld_glob I hg hm ?_ hdb)
  refine PySem.W.callWith_K (h₀ := X.base) I.ok.mod.kin T.kC (thn (ha.run pos pins s σ H _ I h) fun us s1 z => ?_) he hpl
  obtain ⟨vs, H1, I1, r1, _, q1⟩ := z
  refine ⟨I1.kIn, ?_⟩
  show wpAny _ _ (call (.ref C) us) _ _ _
  obtain ⟨hp, g, dr, tk, os⟩ := s1
  -- the address of the new record, its heap
  have grow : ∀ b o, hp.get? b = some o → ((hp.push (PySem.W.kdv_tup us)).push (PySem.HandSPX.excO C hp.objs.size)).get? b = some o := fun b o q => Heap.get?_push_of_some _ (Heap.get?_push_of_some _ q)
  have rec0 : ((hp.push (PySem.W.kdv_tup us)).push (PySem.HandSPX.excO C hp.objs.size)).get? (hp.objs.size + 1) = some (PySem.HandSPX.excO C hp.objs.size) := by heap_get
  have le1 : hp.objs.size ≤ hp.objs.size + 1 := Nat.le_succ _
  have fresh : H1 (hp.objs.size + 1) = none := I1.hok.fresh le1
  generalize hz : (hp.push (PySem.W.kdv_tup us)).push (PySem.HandSPX.excO C hp.objs.size) = h0 at grow rec0
  have I2 : Inv X pins σ (upd H1 (hp.objs.size + 1) (exo (hp.objs.size + 1) C none)) ⟨h0, g, dr, tk, os⟩ := I1.laid (t' := tk) (h' := h0) grow le1 (exo_ok rec0)
  have want := q1 (hp.objs.size + 1) fresh
  rw [List.append_nil] at want
  have both : Vals (V.ref (hp.objs.size + 1) :: vs) (Value.ref (hp.objs.size + 1) :: us) := .cons rfl r1
  have many : (Value.ref (hp.objs.size + 1) :: us).length = ps.length := both.length.symm.trans (Fi.len _ _ _ _ want)
  have short : us.length ≤ sizeLine := by rw [← Paired.length r1, sizeLine_eq]; omega
  have bnd := hb ⟨h0, g, dr, tk, os⟩ (Value.ref (hp.objs.size + 1) :: us) I2.kIn (by rw [List.append_nil]; exact many)
  rw [List.append_nil] at bnd
  have go := Fi.run (X.A.under (.builtin "type.__call__" ⟨.ref C :: us, []⟩)) X.stack ⟨h0, g, dr, tk, os⟩ _ ⟨Value.ref (hp.objs.size + 1) :: us, []⟩ (Value.ref (hp.objs.size + 1) :: us) _ _ (fun _ _ _ => False) l (hr.make C us []) (wl.under _) (fun p h => pin_ok I2 (hl p h)) (I2.env0.make C us []) bnd both want
  subst hz
  refine wpAny_call (PySem.HandSPX.call_own F.excBase_ValueError (fun Y => PySem.HandSPX.refsVE_contains Y c5 hbm) (I1.kIn _ _ hC) (PySem.W.looks_findIn I1.kIn iC) (fun self => PySem.W.bind_fn I1.kIn self tI) short (codeAny_mono go fun out s' z => ?_))
  match out, z with
  | .error er, z => exact hx pins σ _ _ er s' I2 z
  | .ok .next, z => exact z.elim
  | .ok .brk, z => exact z.elim
  | .ok .cont, z => exact z.elim
  | .ok (.ret u), z =>
    obtain ⟨v, H2, os2, bare2, un2, hok2, rv, ev, d, fs, ea, ed, hd1, q2⟩ := z
    subst ev
    obtain ⟨h2, g2, dr2, t2, os'⟩ := s'
    obtain ⟨t0, G, J, kG, ge, hoe, na⟩ := mk_end0 (d2 := dr2) (t2 := t2) I1 le1 grow un2 hok2 os2 bare2 ea ed hd1
    refine ⟨rv, ⟨hp.objs.size + 1, _, _, ⟨G, g2, dr2, t2, os'⟩, _, .ref C, some d, rfl, J, kG, ge, hoe, ⟨rfl, rfl, fun us' e => by cases e; rfl⟩, rfl, rfl, na, rfl, bare2, raises_own T.exC T.tyC, q2⟩, fun b o us' e1 e2 e3 => ?_⟩
    obtain rfl := Value.ref.inj e1
    have e4 : o = _ := Option.some.inj ((show h2.get? (hp.objs.size + 1) = some o from e2).symm.trans hoe)
    rw [e4] at e3
    cases e3
    exact (by decide : 4 < 6)
end
structure RmG (k : Nat) (A : Around) : Prop extends Room k A where
  gd : A.guards = some []
section
variable {j k : Nat} {A : Around}
theorem RmG.mono (r : RmG k A) (h : j ≤ k) : RmG j A := ⟨r.toRoom.mono h, r.gd⟩
theorem RmG.deeper (r : RmG (k + 1) A) (e : Env) : RmG k (A.deeper e) := ⟨r.toRoom.deeper e, r.gd⟩
theorem RmG.make (r : RmG (k + 1) A) (C : Addr) (us : List Value) (kw : List (Str × Value)) : RmG k (A.under (.builtin "type.__call__" ⟨.ref C :: us, kw⟩)) :=
  ⟨r.toRoom.make C us kw, by
    have g : (Code.builtin "type.__call__" ⟨Value.ref C :: us, kw⟩).isGuard = false := by simp [Code.isGuard, guardIds]
    have e : (Code.builtin "type.__call__" ⟨Value.ref C :: us, kw⟩).guards = [] := by unfold Code.guards; rw [g]; rfl
    unfold Around.under
    simp only [e]
    exact r.gd⟩
theorem RmG.units (r : RmG k A) : A.units + 64 < cLine := r.toRoom.units
theorem RmG.hot (r : RmG k A) : RmH k A := ⟨⟨r.dp, r.un⟩, r.gd⟩
end
structure FnG (P : Program) (w : World) (K : PySem.W.Frag) (mg : Str → Option Value) (base : Heap) (CX : CXT) (k : Nat) (f : Addr) (fd : FuncData) (ps : List Str) (sp : Sp) : Prop where
  len : ∀ vs H Q E, sp vs H Q E → vs.length = ps.length
  run : ∀ (A : Around) (out : List Env) (s : Shared) (H : Hp) (as : Args) (us : List Value) (vs : List V) (Q : VK) (E : XK), RmG k A → Env0 P w K mg base A out s H → BindsTo s fd as (ps.zip us) → Vals vs us → sp vs H Q E →
    codeAny (model P w) A (.call (.ref f) as) (CR CX out P w H s Q E) s
section
variable {P : Program} {w : World} {K : PySem.W.Frag} {mg : Str → Option Value} {base : Heap} {CX : CXT} {k : Nat} {f : Addr} {fd : FuncData} {ps : List Str} {sp : Sp}
theorem FnG.imp {sp' : Sp} (F : FnG P w K mg base CX k f fd ps sp) (h : ∀ vs H Q E, sp' vs H Q E → sp vs H Q E) : FnG P w K mg base CX k f fd ps sp' :=
  ⟨fun vs H Q E q => F.len vs H Q E (h _ _ _ _ q), fun A out s H as us vs Q E a b c d e => F.run A out s H as us vs Q E a b c d (h _ _ _ _ e)⟩
theorem FnG.of (F : FnOk P w K mg base CX k f fd ps sp) : FnG P w K mg base CX k f fd ps sp :=
  ⟨F.len, fun A out s H as us vs Q E a b c d e => F.run A out s H as us vs Q E a.toRoom b c d e⟩
theorem okG {x qual : Str} {st : Stmt} {N : List Str} (F : Fun K x qual st f fd) (S : FnScope N ps (defScope st)) (len : ∀ vs H Q E, sp vs H Q E → vs.length = ps.length)
    (hb : ∀ (cd : Value) (A : Around) (out : List Env) (s : Shared) (H : Hp) (vs : List V) (Q : VK) (E : XK), RmG k (A.deeper (envOfC qual (defScope st) s.heap.objs.size f cd)) → sp vs H Q E →
      ∃ t, PSs (cxOf CX P w K mg base N qual (defScope st) f cd A out s H E) (defBody st) t ∧ t { nx := fun _ H' => Q .non H', rt := Q } (start N vs) H) : FnG P w K mg base CX (k + 1) f fd ps sp := by
  obtain ⟨oc, od, kV, doc, pm, an, cd, ct, osl, rfl, lk, hc⟩ := F.ex
  constructor
  · exact len
  intro A out s H as us vs Q E room e0 bind val hsp
  have inS : K.In s.heap := e0.mod.kin.keeps fun b o z => (e0.bs b o z).1
  obtain ⟨t, ht, hq⟩ := hb cd A out s H vs Q E (room.deeper _) hsp
  have kinds : ∀ y ∈ ps.zip us, (defScope st).names.lookup y.1 = some .local ∨ ((defScope st).names.lookup y.1 = some .cell ∧ ((cellsFrom (s.heap.objs.size + 1) (defScope st).names []).lookup y.1).isSome = true) := by
    intro y hy
    obtain ⟨n, v⟩ := y
    exact (S.par n (List.of_mem_zip hy).1).imp id fun q => ⟨q, PySem.W.cellsFrom_some _ _ _ (.inl q)⟩
  apply codeAny_call_function room.toRoom.depth (inS _ _ lk) rfl S.co S.gen rfl (PySem.W.codeRec_of inS hc)
  apply bind
  apply wpAny_newFunctionEnv_cells S.kind kinds
  intro env henv s1 x
  subst henv
  have li : s.heap.NoLimit := e0.mod.nolimit.keeps fun b o z => (e0.bs b o z).1
  refine ⟨li.keeps x.toInCall.keep, codeAny_func (wpAny_mono (ht.run [] s1 (start N vs) H _ (inv_start S room.hd e0 (len _ _ _ _ hsp) val x) hq) (fun fl s2 z => ?_) fun _ _ z => z)⟩
  cases fl with
  | next =>
    obtain ⟨_, H2, J, q⟩ := z
    exact ⟨.non, H2, J.os, J.bare, J.base, J.hok, rfl, q⟩
  | ret u =>
    obtain ⟨v, _, H2, J, rv, q⟩ := z
    exact ⟨v, H2, J.os, J.bare, J.base, J.hok, rv, q⟩
  | brk => obtain ⟨_, _, _, q⟩ := z; exact q.elim
  | cont => obtain ⟨_, _, _, q⟩ := z; exact q.elim
end
section
variable {X : Cx} {CX : CXT} {k : Nat} {f : Addr} {fd : FuncData} {ps : List Str} {sp : Sp} {E : L2.St → XK}
theorem run_fnG {pins : List (Addr × Obj)} {σ : L2.St} {H : Hp} {s : Shared} {Q : VK} {us : List Value} {vs : List V} (F : FnG X.prog X.w X.K X.mg X.base CX k f fd ps sp) (hr : RmG k X.A) (hb : Binds X.K fd ps []) (hx : PassesAt CX X σ (E σ))
    (I : Inv X pins σ H s) (r : Vals vs us) (h : sp vs H Q (E σ)) : wpAny (model X.prog X.w) X.A (call (.ref f) us) (EP X pins σ Q) X.xe s := by
  have hl : us.length = ps.length := r.length.symm.trans (F.len _ _ _ _ h)
  have b := hb s us I.kIn (by simpa using hl)
  rw [List.append_nil] at b
  apply wpAny_call
  apply codeAny_mono (F.run X.A X.stack s H ⟨us, []⟩ us vs Q (E σ) hr I.env0 b r h)
  intro out s' z
  match out, z with
  | .error e, z => exact hx pins H s e s' I z
  | .ok (.ret u), z => exact I.after z
  | .ok .next, z => exact z.elim
  | .ok .brk, z => exact z.elim
  | .ok .cont, z => exact z.elim
theorem pe_callG {x : Str} {p pos : Pos} {e : Expr} {es : List Expr} {t : TA} (F : FnG X.prog X.w X.K X.mg X.base CX k f fd ps sp) (hr : RmG k X.A) (hg : Gl X x) (hm : X.mg x = some (.ref f)) (hk : PySem.W.keepIn X.K (.ref f) = true) (hb : Binds X.K fd ps [])
    (hx : ∀ σ, PassesAt CX X σ (E σ)) (ha : PA X (e :: es) t) (hd : (x == ("__debug__" : Str)) = false) (he : starEach (e :: es) X.env = (false, eval e X.env) :: starEach es X.env) (hp : (backTo pos (starEach es X.env)).any (·.1) = false) :
    PE X (.Call (.Name x p) (e :: es) [] pos) (tCallS sp E t) := by
  constructor
  intro pins s σ H Q I h
  apply wpAny_Call_Name_kw
  apply ld_glob I hg hm _ hd
  have go := ha.run pos pins s σ H _ I h
  exact PySem.W.callWith_K (h₀ := X.base) I.ok.mod.kin hk (thn go fun us s1 z => by
    obtain ⟨vs, H1, J, r, q⟩ := z
    exact ⟨J.kIn, run_fnG F hr hb (hx σ) J r q⟩) he hp
end
section
variable {P : Program} {w : World} {K : PySem.W.Frag} {mg mb : Str → Option Value} {CX : CXT} {k : Nat} {fa a : Addr} {fd : FuncData} {x : Str} {sp : Sp} {s0 : Shared} {us : List Value} {ns : List Int}
theorem law_at {H : Hp} {g : Obj} (KX : K.In s0.heap) (hn : s0.heap.Ns mainGlobals mg) (hb : s0.heap.Ns builtinsNs mb) (hbb : ∀ x : Str, x ≠ "__name__" → mb x = bootBuiltins x) (hl : s0.heap.NoLimit) (hg : s0.gens = #[])
    (ga : s0.heap.get? a = some g) (gl : ∀ es n, g.data ≠ .dict es n) (hr : RmG k callerA) (F : ∀ base : Heap, K.In base → base.Ns mainGlobals mg → FnG P w K mg base CX k fa fd [x] sp) (bi : ∀ (s : Shared) (u : Value), BindsTo s fd ⟨[u], []⟩ [(x, u)])
    (ok : HOk P w H s0.heap) (only : ∀ b, H b ≠ none → b = a ∧ K.lookup a = none ∧ ∃ o xs, H b = some (.frz o (.lst xs))) (hsp : sp [.ref a] H (fun v _ => v = .bl true) fun _ _ _ => False) (hC : ∀ e s', CX [] H s0 (fun _ _ _ => False) e s' → False) :
    codeAny (model P w) callerA (.call (.ref fa) ⟨[.ref a], []⟩) (fun r s' => r = .ok (.ret (.bool true)) ∧ OldK s0.heap s'.heap ∧ s'.os = s0.os ∧ AllBare s'.gens) s0 := by
  have fresh : ∀ b, b ≠ a → H b = none := fun b hb => by
    cases q : H b with
    | none => rfl
    | some u => exact absurd (only b (by rw [q]; exact fun z => by cases z)).1 hb
  have dictN : ∀ {b : Addr} {o : Obj} {es : Array DictEntry} {n : Nat}, s0.heap.get? b = some o → o.data = .dict es n → H b = none := fun {b o es n} e d => fresh b fun hb => by
    subst hb
    rw [ga] at e
    cases e
    exact gl es n d
  have low : ∀ {b : Addr} {m : Str → Option Value}, s0.heap.Ns b m → (hidT s0.heap H).Ns b m := fun {b m} ⟨o, es, n, e, d, r⟩ => ⟨o, es, n, hidT_get e (dictN e d), d, r⟩
  have KB : K.In (hidT s0.heap H) := fun b o e => hidT_get (KX b o e) (by
    cases q : H b with
    | none => rfl
    | some u =>
      obtain ⟨z1, z2, _⟩ := only b (by rw [q]; exact fun z => by cases z)
      subst z1
      rw [z2] at e
      cases e)
  obtain ⟨mc, l1, l2⟩ := hl
  have M : Mod K mg (hidT s0.heap H) := ⟨KB, low hn, ⟨mb, low hb, hbb⟩, ⟨mc, low l1, l2⟩⟩
  have nofr : ∀ b : Addr, b ∉ frs ([] : List Env) := fun b z => by cases z
  have e0 : Env0 P w K mg (hidT s0.heap H) callerA [] s0 H := ⟨rfl, M, fun b o e => of_hidT e, Nat.le_of_eq (hidT_size _ _), trivial, fun b hb => absurd hb (nofr b), ok, .of_eq hg⟩
  apply codeAny_mono ((F _ KB (low hn)).run callerA [] s0 H ⟨[.ref a], []⟩ [.ref a] [.ref a] _ _ hr e0 (bi s0 (.ref a)) (.cons rfl .nil) hsp)
  intro r s' z
  match r, z with
  | .error e, z => exact (hC e s' z).elim
  | .ok .next, z => exact z.elim
  | .ok .brk, z => exact z.elim
  | .ok .cont, z => exact z.elim
  | .ok (.ret u), z =>
    obtain ⟨v, H', hos, bare, un, ok', rv, hv⟩ := z
    cases hv
    obtain rfl : u = Value.bool true := rv
    refine ⟨rfl, OldK.of_keep fun b o e => ?_, hos, bare⟩
    cases q : H b with
    | none => exact un.keep b o e q (nofr b) (by simp)
    | some y =>
      obtain ⟨_, _, ob, xs, z⟩ := only b (by rw [q]; exact fun z => by cases z)
      obtain ⟨g1, _⟩ := ok b _ z
      obtain ⟨g2, _⟩ := ok' b _ (un.frzs b ob _ z)
      rw [e] at g1
      cases g1
      exact g2
theorem law_callG (KX : K.In s0.heap) (hn : s0.heap.Ns mainGlobals mg) (hb : s0.heap.Ns builtinsNs mb) (hbb : ∀ x : Str, x ≠ "__name__" → mb x = bootBuiltins x) (hl : s0.heap.NoLimit) (hg : s0.gens = #[])
    (ga : s0.heap.get? a = some { cls := .type "list", data := .seq us.toArray }) (hi : IntsAre us ns) (hz : ns.length ≤ sizeLine) (hr : RmG k callerA) (F : ∀ base : Heap, K.In base → base.Ns mainGlobals mg → FnG P w K mg base CX k fa fd [x] sp)
    (bi : ∀ (s : Shared) (u : Value), BindsTo s fd ⟨[u], []⟩ [(x, u)]) (hsp : ∀ H : Hp, SqL K H a (ns.map V.int) → sp [.ref a] H (fun v _ => v = .bl true) fun _ _ _ => False) (hC : ∀ H e s', CX [] H s0 (fun _ _ _ => False) e s' → False) :
    codeAny (model P w) callerA (.call (.ref fa) ⟨[.ref a], []⟩) (fun r s' => r = .ok (.ret (.bool true)) ∧ OldK s0.heap s'.heap ∧ s'.os = s0.os ∧ AllBare s'.gens) s0 := by
  have rv := vals_ints hi
  have ln := hi.length
  have nod : ∀ (es : Array DictEntry) (n : Nat), ({ cls := .type "list", data := .seq us.toArray } : Obj).data ≠ .dict es n := fun es n z => by
    have z : Data.seq us.toArray _ = Data.dict es n := z
    cases z
  rcases hk : K.lookup a with _ | o
  · let H : Hp := fun b => if b = a then some (.frz { cls := .type "list", data := .seq us.toArray } (.lst (ns.map V.int))) else none
    have hH : H a = some (.frz { cls := .type "list", data := .seq us.toArray } (.lst (ns.map V.int))) := if_pos rfl
    have hN : ∀ b, b ≠ a → H b = none := fun b hb => if_neg hb
    refine law_at (H := H) KX hn hb hbb hl hg ga nod hr F bi (fun b u z => ?_) (fun b z => ?_) (hsp H (.inl (.inr ⟨_, hH⟩))) (hC H)
    · by_cases e : b = a
      · subst e
        rw [hH] at z
        cases z
        exact ⟨ga, by rw [List.length_map]; exact hz, us, _, rv, ga⟩
      · rw [hN b e] at z; cases z
    · by_cases e : b = a
      · subst e; exact ⟨rfl, hk, _, _, hH⟩
      · exact absurd (hN b e) z
  · have e := KX a o hk
    rw [ga] at e
    cases e
    exact law_at (H := fun _ => none) KX hn hb hbb hl hg ga nod hr F bi (fun b u z => by have z : (none : Option HO) = some u := z; cases z) (fun b z => absurd rfl z)
      (hsp _ (.inr ⟨_, us.toArray, _, hk, rfl, rfl, rfl, by rw [List.size_toArray, ln]; exact hz, by simpa using rv⟩)) (hC _)
theorem walk_ofG {l : PySem.W.OpenLaw} {n : Nat} {q : Program} {loose : List Str} {XP : (Str → Option Value) → Heap → Prop} {YP : World → Heap → Prop} {d : DefRec} {K : Params → PySem.W.Frag} {CX : World → CXT} {sp : World → Sp}
    (hn : l.most = some n) (hz : n ≤ sizeLine) (hdf : d.params.defaults = []) (hr : RmG k callerA) (hY : ∀ (w : World) (h : Heap), YP w h → (K w.params).In h)
    (F : ∀ (w : World) (mg : Str → Option Value) (fa : Addr) (h : Heap), (K w.params).In h → h.Ns mainGlobals mg → mg d.name = some (.ref fa) → ∃ fd : FuncData, (∀ (s : Shared) (u : Value), BindsTo s fd ⟨[u], []⟩ [(x, u)]) ∧
        ∀ base : Heap, (K w.params).In base → base.Ns mainGlobals mg → FnG l.prog w (K w.params) mg base (CX w) k fa fd [x] (sp w))
    (hsp : ∀ (w : World) (H : Hp) (a : Addr) (ns : List Int), ns.length ≤ n → SqL (K w.params) H a (ns.map V.int) → sp w [.ref a] H (fun v _ => v = .bl true) fun _ _ _ => False)
    (hC : ∀ (w : World) (H : Hp) (s : Shared) (e : Value) (s' : Shared), CX w [] H s (fun _ _ _ => False) e s' → False) : PySem.W.WalkO q loose XP YP l.row.toRowW d [] (fun f vs => PySem.call f vs) := by
  apply Att.attach_call hn hdf
  intro w _ s1 mg mb fa _ _ _ _ a us ns G Y _ _ _ hm ho hi hl hg
  have KX := hY w _ Y
  obtain ⟨fd, bi, hF⟩ := F w mg fa _ KX G.T.g hm
  exact law_callG KX G.T.g G.T.b G.T.builtins G.T.nolimit hg ho hi (Nat.le_trans hl hz) hr hF bi (fun H hS => hsp w H a ns hl hS) fun H e s' => hC w H s1 e s'
end
structure KX where
  k : PySem.W.Frag
  mg : Str → Option Value
  ex : Option (Nat × Nat × Addr × Addr)
structure WZ where
  x : WX
  ex : Option (Nat × Nat × Addr × Addr) := none
def exOff (ex : Option (Nat × Nat × Addr × Addr)) (vs : List Nat) : Bool := match ex with
  | none => true
  | some (i, _) => !vs.contains i
def clsV (mg : Str → Option Value) (C : Str) : Value := (mg C).getD .none
inductive IV where
  | non | bl (b : Bool) | int (i : Int) | str (s : Str) | adr (n : Nat) | lst (xs : List IV) | wls (xs : List IV) | tup (xs : List IV) | ref (a : Addr) | ty (n : String)
  deriving Inhabited
inductive Cell where
  | lst (xs : List IV) | dic (kvs : List (Key × IV)) | dicL (kvs : List (Key × IV)) | ins (C : Str) (fs : List (Str × IV)) | xd (fs : List (Str × IV)) | exn (C : Str) (n : Nat)
abbrev Sto := List Cell
abbrev Slots := List (Option IV)
inductive Out (α : Type) where
  | ok (a : α) (S : Sto)
  | exc (C : Str) (n : Nat) (L : Slots) (S : Sto)
  | bad
def Out.bind {α β : Type} : Out α → (α → Sto → Out β) → Out β
  | .ok a S, k => k a S
  | .exc C n L S, _ => .exc C n L S
  | .bad, _ => .bad
@[simp] theorem Out.bind_ok {α β : Type} (a : α) (S : Sto) (k : α → Sto → Out β) : (Out.ok a S).bind k = k a S := rfl
@[simp] theorem Out.bind_exc {α β : Type} (C n L) (S : Sto) (k : α → Sto → Out β) : (Out.exc C n L S).bind k = .exc C n L S := rfl
@[simp] theorem Out.bind_bad {α β : Type} (k : α → Sto → Out β) : (Out.bad).bind k = .bad := rfl
structure Wd where
  rho : List Addr
  F : Hp
  G : Hp
structure Wd.lr (w w' : Wd) : Prop where
  rho : ∃ more, w'.rho = w.rho ++ more
  F : Same w.F w'.F
structure Wd.le (w w' : Wd) : Prop extends Wd.lr w w' where
  G : w'.G = w.G
structure Wd.lz (w w' : Wd) : Prop extends Wd.lr w w' where
  fz : ∀ (a : Addr) (u : Obj) (v : HO), w.G a = some (.frz u v) → w'.G a = some (.frz u v)
theorem Wd.le.lz {w w' : Wd} (h : w.le w') : w.lz w' := ⟨h.1, fun a u v e => by rw [h.G]; exact e⟩
theorem Wd.lr.refl (w : Wd) : w.lr w := ⟨⟨[], by simp⟩, Same.refl _⟩
theorem Wd.lr.trans {a b c : Wd} (h : a.lr b) (k : b.lr c) : a.lr c := by
  obtain ⟨⟨m, e⟩, f⟩ := h
  obtain ⟨⟨m', e'⟩, f'⟩ := k
  exact ⟨⟨m ++ m', by rw [e', e, List.append_assoc]⟩, f.trans f'⟩
theorem Wd.le.refl (w : Wd) : w.le w := ⟨Wd.lr.refl w, rfl⟩
theorem Wd.le.trans {a b c : Wd} (h : a.le b) (k : b.le c) : a.le c := ⟨h.1.trans k.1, k.2.trans h.2⟩
theorem Wd.lr.get {w w' : Wd} (h : w.lr w') {n : Nat} {a : Addr} (e : w.rho[n]? = some a) : w'.rho[n]? = some a := by
  obtain ⟨m, e'⟩ := h.rho
  rw [e', List.getElem?_append_left (List.getElem?_eq_some_iff.mp e).1]
  exact e
mutual
inductive Rel (K : KX) (w : Wd) : V → IV → Prop
  | non : Rel K w .non .non
  | bl (b : Bool) : Rel K w (.bl b) (.bl b)
  | int (i : Int) : Rel K w (.int i) (.int i)
  | str (x : Str) : Rel K w (.str x) (.str x)
  | adr {n : Nat} {a : Addr} : w.rho[n]? = some a → Rel K w (.ref a) (.adr n)
  | lst {a : Addr} {xs : List V} {ivs : List IV} : w.F a = some (.lst xs) → RelL K w xs ivs → Rel K w (.ref a) (.lst ivs)
  | wls {a : Addr} {xs : List V} {ivs : List IV} : SqL K.k w.F a xs → RelL K w xs ivs → Rel K w (.ref a) (.wls ivs)
  | tup {a : Addr} {xs : List V} {ivs : List IV} : SqT K.k w.F a xs → RelL K w xs ivs → Rel K w (.ref a) (.tup ivs)
  | ref (a : Addr) : Rel K w (.ref a) (.ref a)
  | ty (n : String) : Rel K w (.ty n) (.ty n)
inductive RelL (K : KX) (w : Wd) : List V → List IV → Prop
  | nil : RelL K w [] []
  | cons {v : V} {vs : List V} {iv : IV} {ivs : List IV} : Rel K w v iv → RelL K w vs ivs → RelL K w (v :: vs) (iv :: ivs)
end
theorem same_t {K : PySem.W.Frag} {H H' : Hp} {a : Addr} {xs : List V} (e : Same H H') (h : SqT K H a xs) : SqT K H' a xs := by
  rcases h with (h | ⟨o, h⟩) | h
  · exact .inl (.inl (e _ _ h))
  · exact .inl (.inr ⟨o, e _ _ h⟩)
  · exact .inr h
section
variable {K : KX} {w w' : Wd}
mutual
theorem Rel.mono (l : w.lr w') : ∀ (iv : IV) (v : V), Rel K w v iv → Rel K w' v iv
  | .non, _, h => by cases h; exact .non
  | .bl b, _, h => by cases h; exact .bl b
  | .int b, _, h => by cases h; exact .int b
  | .str b, _, h => by cases h; exact .str b
  | .adr n, _, h => by
    cases h with
    | adr e => exact .adr (l.get e)
  | .lst ivs, _, h => by
    cases h with
    | lst e r => exact .lst (l.F _ _ e) (RelL.mono l ivs _ r)
  | .wls ivs, _, h => by
    cases h with
    | wls e r => exact .wls (l.F.seq e) (RelL.mono l ivs _ r)
  | .tup ivs, _, h => by
    cases h with
    | tup e r => exact .tup (same_t l.F e) (RelL.mono l ivs _ r)
  | .ref a, _, h => by cases h; exact .ref a
  | .ty n, _, h => by cases h; exact .ty n
theorem RelL.mono (l : w.lr w') : ∀ (ivs : List IV) (vs : List V), RelL K w vs ivs → RelL K w' vs ivs
  | [], _, h => by cases h; exact .nil
  | iv :: ivs, _, h => by
    cases h with
    | cons a b => exact .cons (Rel.mono l iv _ a) (RelL.mono l ivs _ b)
end
theorem Rel.up {v : V} {iv : IV} (h : Rel K w v iv) (l : w.le w') : Rel K w' v iv := Rel.mono l.1 _ _ h
theorem RelL.up {v : List V} {iv : List IV} (h : RelL K w v iv) (l : w.le w') : RelL K w' v iv := RelL.mono l.1 _ _ h
theorem RelL.length : ∀ {vs : List V} {ivs : List IV}, RelL K w vs ivs → vs.length = ivs.length
  | _, _, .nil => rfl
  | _, _, .cons _ h => by rw [List.length_cons, List.length_cons, RelL.length h]
theorem RelL.get : ∀ {vs : List V} {ivs : List IV} {i : Nat} {iv : IV}, RelL K w vs ivs → ivs[i]? = some iv → ∃ v, vs[i]? = some v ∧ Rel K w v iv
  | _, _, _, _, .nil, e => by simp at e
  | _, _, 0, _, .cons r _, e => by simp at e; subst e; exact ⟨_, rfl, r⟩
  | _, _, i + 1, iv, .cons _ t, e => by
    obtain ⟨u, h1, h2⟩ := RelL.get (i := i) (iv := iv) t (by simpa using e)
    exact ⟨u, by simpa using h1, h2⟩
theorem RelL.append : ∀ {xs ys : List V} {us ws : List IV}, RelL K w xs us → RelL K w ys ws → RelL K w (xs ++ ys) (us ++ ws)
  | _, _, _, _, .nil, s => s
  | _, _, _, _, .cons r t, s => .cons r (RelL.append t s)
theorem RelL.take : ∀ {xs : List V} {us : List IV} (n : Nat), RelL K w xs us → RelL K w (xs.take n) (us.take n)
  | _, _, 0, _ => .nil
  | _, _, _ + 1, .nil => .nil
  | _, _, n + 1, .cons r t => .cons r (RelL.take n t)
theorem RelL.drop : ∀ {xs : List V} {us : List IV} (n : Nat), RelL K w xs us → RelL K w (xs.drop n) (us.drop n)
  | _, _, 0, r => r
  | _, _, _ + 1, .nil => .nil
  | _, _, n + 1, .cons _ t => RelL.drop n t
theorem RelL.set {x : V} {u : IV} (r : Rel K w x u) : ∀ {xs : List V} {us : List IV} (i : Nat), RelL K w xs us → RelL K w (xs.set i x) (us.set i u)
  | _, _, _, .nil => .nil
  | _, _, 0, .cons _ t => .cons r t
  | _, _, i + 1, .cons q t => .cons q (RelL.set r i t)
theorem RelL.one {x : V} {u : IV} (r : Rel K w x u) : RelL K w [x] [u] := .cons r .nil
end
def RelKV {κ : Type} (K : KX) (w : Wd) : List (κ × V) → List (κ × IV) → Prop := Paired fun (p : κ × V) (q : κ × IV) => p.1 = q.1 ∧ Rel K w p.2 q.2
theorem RelKV.mono {κ : Type} {K : KX} {w w' : Wd} (l : w.lr w') {a : List (κ × V)} {b : List (κ × IV)} (h : RelKV K w a b) : RelKV K w' a b :=
  Paired.mapP h fun _ _ z => ⟨z.1, Rel.mono l _ _ z.2⟩
def CellOk (K : KX) (w : Wd) (H : Hp) (a : Addr) : Cell → Prop
  | .lst ivs => ∃ xs, H a = some (.lst xs) ∧ RelL K w xs ivs
  | .dic kvs => ∃ ps, H a = some (.dK ps) ∧ RelKV K w ps kvs
  | .dicL kvs => ∃ o ps, w.G a = some (.frz o (.dK ps)) ∧ H a = some (.frz o (.dK ps)) ∧ RelKV K w ps kvs
  | .ins C fs => ∃ (Ca : Addr) (dx : Addr) (ps : List (Str × V)), K.mg C = some (.ref Ca) ∧ H a = some (.ins Ca dx ps) ∧ RelKV K w ps fs
  | .xd fs => ∃ ps, H a = some (.xd ps) ∧ RelKV K w ps fs
  | .exn C n => ∃ Ca d : Addr, K.mg C = some (.ref Ca) ∧ w.rho[n]? = some d ∧ H a = some (exo a Ca (some d))
theorem CellOk.mono {K : KX} {w w' : Wd} {H H' : Hp} {a : Addr} {c : Cell} (h : CellOk K w H a c) (l : w.lr w') (e : H' a = H a) (g : ∀ o, w.G a = some o → w'.G a = some o) : CellOk K w' H' a c := by
  cases c with
  | lst ivs => obtain ⟨xs, h1, h2⟩ := h; exact ⟨xs, e.trans h1, RelL.mono l _ _ h2⟩
  | dic ivs => obtain ⟨xs, h1, h2⟩ := h; exact ⟨xs, e.trans h1, h2.mono l⟩
  | dicL ivs => obtain ⟨o, xs, h0, h1, h2⟩ := h; exact ⟨o, xs, g _ h0, e.trans h1, h2.mono l⟩
  | ins C ivs => obtain ⟨Ca, dx, xs, h0, h1, h2⟩ := h; exact ⟨Ca, dx, xs, h0, e.trans h1, h2.mono l⟩
  | xd ivs => obtain ⟨xs, h1, h2⟩ := h; exact ⟨xs, e.trans h1, h2.mono l⟩
  | exn C n => obtain ⟨Ca, d, h0, h1, h2⟩ := h; exact ⟨Ca, d, h0, l.get h1, e.trans h2⟩
theorem CellOk.some {K : KX} {w : Wd} {H : Hp} {a : Addr} {c : Cell} (h : CellOk K w H a c) : ∃ o, H a = some o := by
  cases c with
  | lst ivs => obtain ⟨xs, h1, h2⟩ := h; exact ⟨_, h1⟩
  | dic ivs => obtain ⟨xs, h1, h2⟩ := h; exact ⟨_, h1⟩
  | dicL ivs => obtain ⟨o, xs, h0, h1, h2⟩ := h; exact ⟨_, h1⟩
  | ins C ivs => obtain ⟨Ca, dx, xs, h0, h1, h2⟩ := h; exact ⟨_, h1⟩
  | xd ivs => obtain ⟨xs, h1, h2⟩ := h; exact ⟨_, h1⟩
  | exn C n => obtain ⟨Ca, d, h0, h1, h2⟩ := h; exact ⟨_, h2⟩
section
variable {K K' : KX} {w : Wd}
mutual
theorem Rel.cx (hk : K.k = K'.k) : ∀ (iv : IV) (v : V), Rel K w v iv → Rel K' w v iv
  | .non, _, h => by cases h; exact .non
  | .bl b, _, h => by cases h; exact .bl b
  | .int b, _, h => by cases h; exact .int b
  | .str b, _, h => by cases h; exact .str b
  | .adr n, _, h => by
    cases h with
    | adr e => exact .adr e
  | .lst ivs, _, h => by
    cases h with
    | lst e r => exact .lst e (RelL.cx hk ivs _ r)
  | .wls ivs, _, h => by
    cases h with
    | wls e r => exact .wls (hk ▸ e) (RelL.cx hk ivs _ r)
  | .tup ivs, _, h => by
    cases h with
    | tup e r => exact .tup (hk ▸ e) (RelL.cx hk ivs _ r)
  | .ref a, _, h => by cases h; exact .ref a
  | .ty n, _, h => by cases h; exact .ty n
theorem RelL.cx (hk : K.k = K'.k) : ∀ (ivs : List IV) (vs : List V), RelL K w vs ivs → RelL K' w vs ivs
  | [], _, h => by cases h; exact .nil
  | iv :: ivs, _, h => by
    cases h with
    | cons a b => exact .cons (Rel.cx hk iv _ a) (RelL.cx hk ivs _ b)
end
theorem RelKV.cx {κ : Type} (hk : K.k = K'.k) {a : List (κ × V)} {b : List (κ × IV)} (h : RelKV K w a b) : RelKV K' w a b :=
  Paired.mapP h fun _ _ z => ⟨z.1, Rel.cx hk _ _ z.2⟩
theorem CellOk.cx (hk : K.k = K'.k) (hm : K.mg = K'.mg) {H : Hp} {a : Addr} {c : Cell} (h : CellOk K w H a c) : CellOk K' w H a c := by
  cases c with
  | lst ivs => obtain ⟨xs, h1, h2⟩ := h; exact ⟨xs, h1, RelL.cx hk _ _ h2⟩
  | dic ivs => obtain ⟨xs, h1, h2⟩ := h; exact ⟨xs, h1, h2.cx hk⟩
  | dicL ivs => obtain ⟨o, xs, h0, h1, h2⟩ := h; exact ⟨o, xs, h0, h1, h2.cx hk⟩
  | ins C ivs => obtain ⟨Ca, dx, xs, h0, h1, h2⟩ := h; exact ⟨Ca, dx, xs, hm ▸ h0, h1, h2.cx hk⟩
  | xd ivs => obtain ⟨xs, h1, h2⟩ := h; exact ⟨xs, h1, h2.cx hk⟩
  | exn C n => obtain ⟨Ca, d, h0, h1, h2⟩ := h; exact ⟨Ca, d, hm ▸ h0, h1, h2⟩
end
structure R (K : KX) (w : Wd) (S : Sto) (H : Hp) : Prop where
  len : w.rho.length = S.length
  nd : w.rho.Nodup
  cell : ∀ (n : Nat) (c : Cell) (a : Addr), S[n]? = some c → w.rho[n]? = some a → CellOk K w H a c
  own : ∀ (n : Nat) (a : Addr), w.rho[n]? = some a → w.F a = none ∧ (w.G a = none ∨ ∃ kvs, S[n]? = some (.dicL kvs))
  F : Same w.F H
  G : Same w.G H
  dis : ∀ (a : Addr) (o : HO), w.G a = some o → w.F a = none
theorem R.cx {K K' : KX} {w : Wd} {S : Sto} {H : Hp} (r : R K w S H) (hk : K.k = K'.k) (hm : K.mg = K'.mg) : R K' w S H :=
  ⟨r.len, r.nd, fun n c a h1 h2 => (r.cell n c a h1 h2).cx hk hm, r.own, r.F, r.G, r.dis⟩
section
variable {K : KX} {w : Wd} {S : Sto} {H : Hp}
theorem R.there (r : R K w S H) {n : Nat} {a : Addr} (h : w.rho[n]? = some a) : ∃ c, S[n]? = some c ∧ CellOk K w H a c := by
  have := (List.getElem?_eq_some_iff.mp h).1
  have e := List.getElem?_eq_getElem (l := S) (i := n) (by rw [← r.len]; exact this)
  exact ⟨_, e, r.cell n _ a e h⟩
theorem R.ne_new (r : R K w S H) {n : Nat} {a p : Addr} (h : w.rho[n]? = some a) (hp : H p = none) : a ≠ p := by
  obtain ⟨c, _, h2⟩ := r.there h
  obtain ⟨o, h3⟩ := h2.some
  exact ne_of_none h3 hp
theorem R.alloc (r : R K w S H) {p : Addr} {o : HO} {c : Cell} (hp : H p = none) (hc : ∀ w', w.le w' → CellOk K w' (upd H p o) p c) : w.le ⟨w.rho ++ [p], w.F, w.G⟩ ∧ R K ⟨w.rho ++ [p], w.F, w.G⟩ (S ++ [c]) (upd H p o) := by
  have l : w.le ⟨w.rho ++ [p], w.F, w.G⟩ := ⟨⟨⟨[p], rfl⟩, Same.refl _⟩, rfl⟩
  have key : ∀ {n : Nat} {a : Addr}, (w.rho ++ [p])[n]? = some a → (w.rho[n]? = some a ∧ n < w.rho.length) ∨ (n = w.rho.length ∧ a = p) := fun {n a} h => by
    by_cases hn : n < w.rho.length
    · rw [List.getElem?_append_left hn] at h; exact .inl ⟨h, hn⟩
    · have hlt := (List.getElem?_eq_some_iff.mp h).1
      rw [List.length_append, List.length_singleton] at hlt
      have e : n = w.rho.length := by omega
      subst e
      rw [List.getElem?_append_right (Nat.le_refl _), Nat.sub_self] at h
      exact .inr ⟨rfl, (Option.some.inj h).symm⟩
  refine ⟨l, ?_, ?_, fun n c' a h1 h2 => ?_, fun n a h => ?_, fun b u e => ?_, fun b u e => ?_, r.dis⟩
  · show (w.rho ++ [p]).length = (S ++ [c]).length
    rw [List.length_append, List.length_append, r.len]
    rfl
  · show (w.rho ++ [p]).Nodup
    rw [List.nodup_append]
    refine ⟨r.nd, by simp, fun a ha b hb => ?_⟩
    obtain ⟨n, h⟩ := List.getElem?_of_mem ha
    have : b = p := by simpa using hb
    rw [this]
    exact r.ne_new h hp
  · rcases key h2 with ⟨h, hn⟩ | ⟨h, e⟩
    · rw [List.getElem?_append_left (by rw [← r.len]; exact hn)] at h1
      exact (r.cell n c' a h1 h).mono l.1 (upd_ne (r.ne_new h hp)) fun _ z => z
    · subst e
      rw [h, r.len, List.getElem?_append_right (Nat.le_refl _), Nat.sub_self] at h1
      have : c = c' := Option.some.inj h1
      rw [← this]
      exact hc _ l
  · rcases key h with ⟨h, hn⟩ | ⟨h, e⟩
    · obtain ⟨g1, g2⟩ := r.own n a h
      refine ⟨g1, g2.imp id fun ⟨kvs, z⟩ => ⟨kvs, ?_⟩⟩
      rw [List.getElem?_append_left (List.getElem?_eq_some_iff.mp z).1]
      exact z
    · subst e
      constructor
      · cases q : w.F a with
        | none => rfl
        | some u => rw [r.F _ _ q] at hp; cases hp
      · left
        cases q : w.G a with
        | none => rfl
        | some u => rw [r.G _ _ q] at hp; cases hp
  · have := r.F _ _ e
    rw [upd_ne (ne_of_none this hp)]; exact this
  · have := r.G _ _ e
    rw [upd_ne (ne_of_none this hp)]; exact this
theorem R.frz (r : R K w S H) {p : Addr} {o : HO} (hp : H p = none) : w.le ⟨w.rho, upd w.F p o, w.G⟩ ∧ R K ⟨w.rho, upd w.F p o, w.G⟩ S (upd H p o) := by
  have nF : w.F p = none := by
    cases q : w.F p with
    | none => rfl
    | some u => rw [r.F _ _ q] at hp; cases hp
  have l : w.le ⟨w.rho, upd w.F p o, w.G⟩ := ⟨⟨⟨[], by simp⟩, fun b u e => by
    show upd w.F p o b = some u
    rw [upd_ne (ne_of_none e nF)]; exact e⟩, rfl⟩
  refine ⟨l, r.len, r.nd, fun n c a h1 h2 => (r.cell n c a h1 h2).mono l.1 (upd_ne (r.ne_new h2 hp)) (fun _ z => z), fun n a h => ⟨?_, (r.own n a h).2⟩, fun b u e => ?_, fun b u e => ?_, fun b u e => ?_⟩
  · show upd w.F p o a = none
    rw [upd_ne (r.ne_new h hp)]; exact (r.own n a h).1
  · have e : upd w.F p o b = some u := e
    by_cases hb : b = p
    · subst hb; rw [upd_same] at e; rw [upd_same]; exact e
    · rw [upd_ne hb] at e; rw [upd_ne hb]; exact r.F _ _ e
  · have := r.G _ _ e
    rw [upd_ne (ne_of_none this hp)]; exact this
  · show upd w.F p o b = none
    rw [upd_ne (ne_of_none (r.G _ _ e) hp)]; exact r.dis _ _ e
theorem R.write (r : R K w S H) {n : Nat} {a : Addr} {o : HO} {c : Cell} (h : w.rho[n]? = some a) (hc : CellOk K w (upd H a o) a c) (hnl : ∀ kvs, S[n]? ≠ some (.dicL kvs)) : R K w (S.set n c) (upd H a o) := by
  have hG : w.G a = none := (r.own n a h).2.elim id fun ⟨kvs, z⟩ => absurd z (hnl kvs)
  refine ⟨by rw [List.length_set]; exact r.len, r.nd, fun m c' b h1 h2 => ?_, fun m b hm => ?_, fun b u e => ?_, fun b u e => ?_, r.dis⟩
  · by_cases hm : m = n
    · subst hm
      rw [h] at h2; cases h2
      have hlt : m < S.length := by rw [← r.len]; exact (List.getElem?_eq_some_iff.mp h).1
      rw [List.getElem?_set_self hlt] at h1
      cases h1
      exact hc
    · rw [List.getElem?_set_ne (Ne.symm hm)] at h1
      have hb : b ≠ a := fun z => by
        subst z
        obtain ⟨i1, e1⟩ := List.getElem?_eq_some_iff.mp h
        obtain ⟨i2, e2⟩ := List.getElem?_eq_some_iff.mp h2
        exact hm ((List.getElem_inj r.nd).mp (e2.trans e1.symm))
      exact (r.cell m c' b h1 h2).mono (Wd.lr.refl w) (upd_ne hb) fun _ z => z
  · refine ⟨(r.own m b hm).1, ?_⟩
    rcases (r.own m b hm).2 with z | ⟨kvs, z⟩
    · exact .inl z
    · refine .inr ⟨kvs, ?_⟩
      by_cases hmn : m = n
      · subst hmn; exact absurd z (hnl kvs)
      · rw [List.getElem?_set_ne (Ne.symm hmn)]; exact z
  · rw [upd_ne (ne_of_none e (r.own n a h).1)]; exact r.F _ _ e
  · rw [upd_ne (ne_of_none e hG)]; exact r.G _ _ e
theorem R.ghost (r : R K w S H) {p : Addr} {o : HO} (hp : H p = none) : R K ⟨w.rho, w.F, upd w.G p o⟩ S (upd H p o) := by
  have nF : w.F p = none := by
    cases q : w.F p with
    | none => rfl
    | some u => rw [r.F _ _ q] at hp; cases hp
  refine ⟨r.len, r.nd, fun n c a h1 h2 => (r.cell n c a h1 h2).mono (Wd.lr.mk ⟨[], by simp⟩ (Same.refl _)) (upd_ne (r.ne_new h2 hp)) (fun o' z => by
    show upd w.G p o a = some o'
    rw [upd_ne (r.ne_new h2 hp)]; exact z), fun n a h => ⟨(r.own n a h).1, (r.own n a h).2.imp (fun z => ?_) id⟩, fun b u e => ?_, fun b u e => ?_, fun b u e => ?_⟩
  · show upd w.G p o a = none
    rw [upd_ne (r.ne_new h hp)]; exact z
  · have := r.F _ _ e
    rw [upd_ne (ne_of_none this hp)]; exact this
  · have e : upd w.G p o b = some u := e
    by_cases hb : b = p
    · subst hb; rw [upd_same] at e; rw [upd_same]; exact e
    · rw [upd_ne hb] at e; rw [upd_ne hb]; exact r.G _ _ e
  · have e : upd w.G p o b = some u := e
    by_cases hb : b = p
    · subst hb; exact nF
    · rw [upd_ne hb] at e; exact r.dis _ _ e
theorem R.ghostW {rho : List Addr} {F G : Hp} {p : Addr} {o o' : HO} (ho : ∀ u v, o ≠ .frz u v) (r : R K ⟨rho, F, upd G p o⟩ S H) : R K ⟨rho, F, upd G p o'⟩ S (upd H p o') := by
  have hF : F p = none := r.dis p o upd_same
  have hrho : ∀ n a, rho[n]? = some a → a ≠ p := fun n a h z => by
    subst z
    rcases (r.own n a h).2 with t | ⟨kvs, t⟩
    · have t : upd G a o a = none := t
      rw [upd_same] at t
      cases t
    · obtain ⟨o1, ps, h1, _⟩ := r.cell n _ a t h
      have h1 : upd G a o a = _ := h1
      rw [upd_same] at h1
      exact ho _ _ (Option.some.inj h1)
  refine ⟨r.len, r.nd, fun n c a h1 h2 => (r.cell n c a h1 h2).mono (Wd.lr.mk ⟨[], by simp⟩ (Same.refl _)) (upd_ne (hrho n a h2)) (fun o1 z => by
    have z : upd G p o a = some o1 := z
    show upd G p o' a = some o1
    rw [upd_ne (hrho n a h2)] at z ⊢; exact z), fun n a h => ⟨(r.own n a h).1, (r.own n a h).2.imp (fun z => ?_) id⟩, fun b u e => ?_, fun b u e => ?_, fun b u e => ?_⟩
  · show upd G p o' a = none
    rw [upd_ne (hrho n a h)]
    have t : upd G p o a = none := z
    rw [upd_ne (hrho n a h)] at t; exact t
  · have e : F b = some u := e
    rw [upd_ne (ne_of_none e hF)]; exact r.F _ _ e
  · have e : upd G p o' b = some u := e
    by_cases hb : b = p
    · subst hb; rw [upd_same] at e; rw [upd_same]; exact e
    · rw [upd_ne hb] at e; rw [upd_ne hb]; exact r.G b u (by show upd G p o b = some u; rw [upd_ne hb]; exact e)
  · have e : upd G p o' b = some u := e
    by_cases hb : b = p
    · subst hb; exact hF
    · rw [upd_ne hb] at e; exact r.dis b u (by show upd G p o b = some u; rw [upd_ne hb]; exact e)
theorem R.ghostF {rho : List Addr} {F G : Hp} {p : Addr} {o : HO} (ho : ∀ u v, o ≠ .frz u v) (r : R K ⟨rho, F, upd G p o⟩ S H) (hG : G p = none) : R K ⟨rho, upd F p o, G⟩ S H := by
  have hF : F p = none := r.dis p o upd_same
  have hrho : ∀ n a, rho[n]? = some a → a ≠ p := fun n a h z => by
    subst z
    rcases (r.own n a h).2 with t | ⟨kvs, t⟩
    · have t : upd G a o a = none := t
      rw [upd_same] at t
      cases t
    · obtain ⟨o1, ps, h1, _⟩ := r.cell n _ a t h
      have h1 : upd G a o a = _ := h1
      rw [upd_same] at h1
      exact ho _ _ (Option.some.inj h1)
  refine ⟨r.len, r.nd, fun n c a h1 h2 => (r.cell n c a h1 h2).mono ⟨⟨[], by simp⟩, fun b u e => ?_⟩ rfl (fun o1 z => by
    have z : upd G p o a = some o1 := z
    rw [upd_ne (hrho n a h2)] at z; exact z), fun n a h => ⟨?_, (r.own n a h).2.imp (fun z => ?_) id⟩, fun b u e => ?_, fun b u e => ?_, fun b u e => ?_⟩
  · have e : F b = some u := e
    show upd F p o b = some u
    rw [upd_ne (ne_of_none e hF)]; exact e
  · show upd F p o a = none
    rw [upd_ne (hrho n a h)]; exact (r.own n a h).1
  · have t : upd G p o a = none := z
    rw [upd_ne (hrho n a h)] at t; exact t
  · have e : upd F p o b = some u := e
    by_cases hb : b = p
    · subst hb; rw [upd_same] at e; exact r.G b u (by show upd G b o b = some u; rw [upd_same]; exact e)
    · rw [upd_ne hb] at e; exact r.F _ _ e
  · have e : G b = some u := e
    exact r.G b u (by show upd G p o b = some u; rw [upd_ne (ne_of_none e hG)]; exact e)
  · have e : G b = some u := e
    show upd F p o b = none
    rw [upd_ne (ne_of_none e hG)]
    exact r.dis b u (by show upd G p o b = some u; rw [upd_ne (ne_of_none e hG)]; exact e)
theorem R.ghostC {rho : List Addr} {F G : Hp} {p : Addr} {o : HO} {c : Cell} (ho : ∀ u v, o ≠ .frz u v) (r : R K ⟨rho, F, upd G p o⟩ S H) (hG : G p = none) (hc : ∀ w', Wd.lr ⟨rho, F, upd G p o⟩ w' → CellOk K w' H p c) : R K ⟨rho ++ [p], F, G⟩ (S ++ [c]) H := by
  have hF : F p = none := r.dis p o upd_same
  have hrho : ∀ n a, rho[n]? = some a → a ≠ p := fun n a h z => by
    subst z
    rcases (r.own n a h).2 with t | ⟨kvs, t⟩
    · have t : upd G a o a = none := t
      rw [upd_same] at t
      cases t
    · obtain ⟨o1, ps, h1, _⟩ := r.cell n _ a t h
      have h1 : upd G a o a = _ := h1
      rw [upd_same] at h1
      exact ho _ _ (Option.some.inj h1)
  have hlen : rho.length = S.length := r.len
  have l : Wd.lr ⟨rho, F, upd G p o⟩ ⟨rho ++ [p], F, G⟩ := ⟨⟨[p], rfl⟩, Same.refl _⟩
  have key : ∀ {n : Nat} {a : Addr}, (rho ++ [p])[n]? = some a → (rho[n]? = some a ∧ n < rho.length) ∨ (n = rho.length ∧ a = p) := fun {n a} h => by
    by_cases hn : n < rho.length
    · rw [List.getElem?_append_left hn] at h; exact .inl ⟨h, hn⟩
    · have hlt := (List.getElem?_eq_some_iff.mp h).1
      rw [List.length_append, List.length_singleton] at hlt
      have e : n = rho.length := by omega
      subst e
      rw [List.getElem?_append_right (Nat.le_refl _), Nat.sub_self] at h
      exact .inr ⟨rfl, (Option.some.inj h).symm⟩
  refine ⟨?_, ?_, fun n c' a h1 h2 => ?_, fun n a h => ?_, r.F, fun b u e => ?_, fun b u e => ?_⟩
  · show (rho ++ [p]).length = (S ++ [c]).length
    rw [List.length_append, List.length_append, hlen]
    rfl
  · show (rho ++ [p]).Nodup
    rw [List.nodup_append]
    refine ⟨r.nd, by simp, fun a ha b hb => ?_⟩
    obtain ⟨n, h⟩ := List.getElem?_of_mem ha
    have : b = p := by simpa using hb
    rw [this]
    exact hrho n a h
  · rcases key h2 with ⟨h, hn⟩ | ⟨h, e⟩
    · rw [List.getElem?_append_left (by rw [← hlen]; exact hn)] at h1
      exact (r.cell n c' a h1 h).mono l rfl fun o1 z => by
        have z : upd G p o a = some o1 := z
        rw [upd_ne (hrho n a h)] at z; exact z
    · subst e
      rw [h, hlen, List.getElem?_append_right (Nat.le_refl _), Nat.sub_self] at h1
      have : c = c' := Option.some.inj h1
      rw [← this]
      exact hc _ l
  · rcases key h with ⟨h, hn⟩ | ⟨h, e⟩
    · refine ⟨(r.own n a h).1, (r.own n a h).2.imp (fun z => ?_) fun ⟨kvs, z⟩ => ⟨kvs, ?_⟩⟩
      · have t : upd G p o a = none := z
        rw [upd_ne (hrho n a h)] at t; exact t
      · rw [List.getElem?_append_left (List.getElem?_eq_some_iff.mp z).1]; exact z
    · subst e
      exact ⟨hF, .inl hG⟩
  · have e : G b = some u := e
    exact r.G b u (by show upd G p o b = some u; rw [upd_ne (ne_of_none e hG)]; exact e)
  · have e : G b = some u := e
    exact r.dis b u (by show upd G p o b = some u; rw [upd_ne (ne_of_none e hG)]; exact e)
end
structure SR (K : KX) (w : Wd) (σ : L2.St) (Λ : Slots) : Prop where
  len : σ.length = Λ.length
  get : ∀ (i : Nat) (iv : IV), Λ[i]? = some (some iv) → ∃ v, σ[i]? = some (some v) ∧ Rel K w v iv
  ex : ∀ (i n : Nat) (a d : Addr), K.ex = some (i, n, a, d) → Λ[i]? = some none → σ[i]? = some (some (.ref a)) ∧ w.rho[n]? = some d
theorem SR.mono {K : KX} {w w' : Wd} {σ : L2.St} {Λ : Slots} (h : SR K w σ Λ) (l : w.lr w') : SR K w' σ Λ :=
  ⟨h.len, fun i iv e => let ⟨v, h1, h2⟩ := h.get i iv e; ⟨v, h1, Rel.mono l _ _ h2⟩, fun i n a d e1 e2 => ⟨(h.ex i n a d e1 e2).1, l.get (h.ex i n a d e1 e2).2⟩⟩
theorem SR.up {K : KX} {w w' : Wd} {σ : L2.St} {Λ : Slots} (h : SR K w σ Λ) (l : w.le w') : SR K w' σ Λ := h.mono l.1
theorem SR.set {K : KX} {w : Wd} {σ : L2.St} {Λ : Slots} (h : SR K w σ Λ) (i : Nat) {v : V} {iv : IV} (r : Rel K w v iv) : SR K w (σ.set i (some v)) (Λ.set i (some iv)) := by
  refine ⟨by rw [List.length_set, List.length_set]; exact h.len, fun j jv e => ?_, fun j n a d e1 e2 => ?_⟩
  · by_cases hj : j = i
    · subst hj
      have hlt : j < Λ.length := by have := (List.getElem?_eq_some_iff.mp e).1; rwa [List.length_set] at this
      rw [List.getElem?_set_self hlt] at e
      have : iv = jv := Option.some.inj (Option.some.inj e)
      rw [← this]
      exact ⟨v, by rw [List.getElem?_set_self (by rw [h.len]; exact hlt)], r⟩
    · rw [List.getElem?_set_ne (Ne.symm hj)] at e
      rw [List.getElem?_set_ne (Ne.symm hj)]
      exact h.get j jv e
  · by_cases hj : j = i
    · subst hj
      have hlt : j < Λ.length := by have := (List.getElem?_eq_some_iff.mp e2).1; rwa [List.length_set] at this
      rw [List.getElem?_set_self hlt] at e2
      cases e2
    · rw [List.getElem?_set_ne (Ne.symm hj)] at e2
      rw [List.getElem?_set_ne (Ne.symm hj)]
      exact h.ex j n a d e1 e2
theorem SR.setN {K : KX} {w : Wd} {σ : L2.St} {Λ : Slots} (h : SR K w σ Λ) (i : Nat) (u : Option V) (hx : exOff K.ex [i] = true) : SR K w (σ.set i u) (Λ.set i none) := by
  refine ⟨by rw [List.length_set, List.length_set]; exact h.len, fun j jv e => ?_, fun j n a d e1 e2 => ?_⟩
  · by_cases hj : j = i
    · subst hj
      have hlt : j < Λ.length := by have := (List.getElem?_eq_some_iff.mp e).1; rwa [List.length_set] at this
      rw [List.getElem?_set_self hlt] at e
      cases e
    · rw [List.getElem?_set_ne (Ne.symm hj)] at e
      rw [List.getElem?_set_ne (Ne.symm hj)]
      exact h.get j jv e
  · have hj : j ≠ i := fun z => by
      rw [e1, z] at hx
      simp [exOff] at hx
    rw [List.getElem?_set_ne (Ne.symm hj)] at e2
    rw [List.getElem?_set_ne (Ne.symm hj)]
    exact h.ex j n a d e1 e2
def Post {α : Type} (K : KX) (W : WX) (w : Wd) (o : Out α) (P : Wd → Hp → Sto → α → Prop) : Prop :=
  match o with
  | .ok a S' => ∀ w' H', w.le w' → R K w' S' H' → P w' H' S' a
  | .exc C n L S' => ∀ w' H' a σ', w.le w' → R K w' S' H' → SR K w' σ' L → w'.rho[n]? = some a → W (clsV K.mg C) (some a) σ' H'
  | .bad => False
section
variable {K : KX} {W : WX} {w : Wd} {α β : Type}
theorem Post.bind {o : Out α} {k : α → Sto → Out β} {P : Wd → Hp → Sto → β → Prop} (h : Post K W w (o.bind k) P) : Post K W w o fun w' H' S' a => Post K W w' (k a S') P := by
  cases o with
  | ok a S' =>
    intro w' H' l r
    have h : Post K W w (k a S') P := h
    show Post K W w' (k a S') P
    cases e : k a S' with
    | ok b S2 =>
      rw [e] at h
      exact fun w2 H2 l2 r2 => h w2 H2 (l.trans l2) r2
    | exc C n L S2 =>
      rw [e] at h
      exact fun w2 H2 a2 σ2 l2 r2 s2 g => h w2 H2 a2 σ2 (l.trans l2) r2 s2 g
    | bad =>
      rw [e] at h
      exact h
  | exc C n L S' => exact h
  | bad => exact h
theorem Post.imp {o : Out α} {P P' : Wd → Hp → Sto → α → Prop} (h : Post K W w o P) (f : ∀ w' H' S' a, w.le w' → R K w' S' H' → P w' H' S' a → P' w' H' S' a) : Post K W w o P' := by
  cases o with
  | ok a S' => exact fun w' H' l r => f w' H' S' a l r (h w' H' l r)
  | exc C n L S' => exact h
  | bad => exact h
theorem Post.now {a : α} {S : Sto} {H : Hp} {P : Wd → Hp → Sto → α → Prop} (h : Post K W w (.ok a S) P) (r : R K w S H) : P w H S a := h w H (Wd.le.refl w) r
theorem Post.ok {a : α} {S : Sto} {H : Hp} {w' : Wd} {P : Wd → Hp → Sto → α → Prop} (h : Post K W w (.ok a S) P) (l : w.le w') (r : R K w' S H) : P w' H S a := h w' H l r
end
abbrev IE := Slots → Sto → Out IV
abbrev IT := Slots → Sto → Out Bool
abbrev IA := Slots → Sto → Out (List IV)
inductive Fl where
  | nx (L : Slots) | rt (v : IV) | bk (L : Slots) | ct (L : Slots)
abbrev IS := Slots → Sto → Out Fl
abbrev IG := IV → Slots → Sto → Out Slots
def eM (K : KX) (W : WX) (m : IE) : TE := fun σ H Q => ∃ w S Λ, R K w S H ∧ SR K w σ Λ ∧ Post K W w (m Λ S) fun w' H' _ iv => ∀ v, Rel K w' v iv → Q v H'
def tM (K : KX) (W : WX) (m : IT) : TT := fun σ H Q => ∃ w S Λ, R K w S H ∧ SR K w σ Λ ∧ Post K W w (m Λ S) fun _ H' _ b => Q b H'
def aM (K : KX) (W : WX) (m : IA) : TA := fun σ H Q => ∃ w S Λ, R K w S H ∧ SR K w σ Λ ∧ Post K W w (m Λ S) fun w' H' _ ivs => ∀ vs, RelL K w' vs ivs → Q vs H'
def FlP (K : KX) (w : Wd) (D : Ends) (H : Hp) : Fl → Prop
  | .nx L => ∀ σ, SR K w σ L → D.nx σ H
  | .rt iv => ∀ v, Rel K w v iv → D.rt v H
  | .bk L => ∀ σ, SR K w σ L → D.bk σ H
  | .ct L => ∀ σ, SR K w σ L → D.ct σ H
def sM (K : KX) (W : WX) (m : IS) : TS := fun D σ H => ∃ w S Λ, R K w S H ∧ SR K w σ Λ ∧ Post K W w (m Λ S) fun w' H' _ fl => FlP K w' D H' fl
def gM (K : KX) (W : WX) (m : IG) : TG := fun v σ H Q => ∃ w S Λ iv, R K w S H ∧ SR K w σ Λ ∧ Rel K w v iv ∧ Post K W w (m iv Λ S) fun w' H' _ L => ∀ σ', SR K w' σ' L → Q σ' H'
theorem _root_.L2.PE.imp {X : Cx} {e : Expr} {t t' : TE} (h : PE X e t) (f : ∀ σ H Q, t' σ H Q → t σ H Q) : PE X e t' := ⟨fun pins s σ H Q I q => h.run pins s σ H Q I (f σ H Q q)⟩
theorem _root_.L2.PT.imp {X : Cx} {e : Expr} {t t' : TT} (h : PT X e t) (f : ∀ σ H Q, t' σ H Q → t σ H Q) : PT X e t' := ⟨fun pins s σ H Q I q => h.run pins s σ H Q I (f σ H Q q)⟩
theorem _root_.L2.PW.imp {X : Cx} {e : Expr} {t t' : TT} (h : PW X e t) (f : ∀ σ H Q, t' σ H Q → t σ H Q) : PW X e t' := ⟨fun wh pins s σ H Q I q => h.run wh pins s σ H Q I (f σ H Q q)⟩
theorem _root_.L2.PA.imp {X : Cx} {e : List Expr} {t t' : TA} (h : PA X e t) (f : ∀ σ H Q, t' σ H Q → t σ H Q) : PA X e t' := ⟨fun p pins s σ H Q I q => h.run p pins s σ H Q I (f σ H Q q)⟩
theorem _root_.L2.PS.imp {X : Cx} {e : Stmt} {t t' : TS} (h : PS X e t) (f : ∀ D σ H, t' D σ H → t D σ H) : PS X e t' := ⟨fun pins s σ H D I q => h.run pins s σ H D I (f D σ H q)⟩
theorem _root_.L2.PSs.imp {X : Cx} {e : List Stmt} {t t' : TS} (h : PSs X e t) (f : ∀ D σ H, t' D σ H → t D σ H) : PSs X e t' := ⟨fun pins s σ H D I q => h.run pins s σ H D I (f D σ H q)⟩
theorem _root_.L2.PG.imp {X : Cx} {e : Expr} {t t' : TG} (h : PG X e t) (f : ∀ v σ H Q, t' v σ H Q → t v σ H Q) : PG X e t' := ⟨fun pins s σ H v u Q I r q => h.run pins s σ H v u Q I r (f v σ H Q q)⟩
theorem _root_.L2.PTs.imp {X : Cx} {e : List Expr} {t t' : TT} (h : PTs X e t) (f : ∀ σ H Q, t' σ H Q → t σ H Q) : PTs X e t' := ⟨fun pins s σ H Q I q => h.run pins s σ H Q I (f σ H Q q)⟩
def chk {α : Type} (p : Prop) [Decidable p] (o : Out α) : Out α := if p then o else .bad
theorem chk_pos {α : Type} {p : Prop} [Decidable p] {o : Out α} (h : p) : chk p o = o := if_pos h
theorem chk_neg {α : Type} {p : Prop} [Decidable p] {o : Out α} (h : ¬ p) : chk p o = .bad := if_neg h
theorem chk_post {α : Type} {K : KX} {W : WX} {w : Wd} {p : Prop} [Decidable p] {o : Out α} {P : Wd → Hp → Sto → α → Prop} (h : Post K W w (chk p o) P) : p ∧ Post K W w o P := by
  by_cases hp : p
  · rw [chk_pos hp] at h; exact ⟨hp, h⟩
  · rw [chk_neg hp] at h; exact h.elim
abbrev kx (X : Cx) (W : WZ) : KX := ⟨X.K, X.mg, W.ex⟩
def iVar (i : Nat) : IE := fun Λ S => match Λ[i]? with
  | some (some iv) => .ok iv S
  | _ => .bad
def iC (iv : IV) : IE := fun _ S => .ok iv S
section
variable {X : Cx} {W : WZ} {pos : Pos}
abbrev DE (X : Cx) (W : WZ) (e : Expr) (m : IE) : Prop := PE X e (eM (kx X W) W.x m)
abbrev DT (X : Cx) (W : WZ) (e : Expr) (m : IT) : Prop := PT X e (tM (kx X W) W.x m)
abbrev DW (X : Cx) (W : WZ) (e : Expr) (m : IT) : Prop := PW X e (tM (kx X W) W.x m)
abbrev DA (X : Cx) (W : WZ) (e : List Expr) (m : IA) : Prop := PA X e (aM (kx X W) W.x m)
abbrev DS (X : Cx) (W : WZ) (e : Stmt) (m : IS) : Prop := PS X e (sM (kx X W) W.x m)
abbrev DSs (X : Cx) (W : WZ) (e : List Stmt) (m : IS) : Prop := PSs X e (sM (kx X W) W.x m)
abbrev DG (X : Cx) (W : WZ) (e : Expr) (m : IG) : Prop := PG X e (gM (kx X W) W.x m)
theorem de_var (i : Nat) {x : Str} (hN : X.N[i]? = some x := by rfl) (hv : Vis X.env.scope x := by first | exact Or.inl rfl | exact Or.inr (Or.inl rfl) | exact Or.inr (Or.inr rfl)) (hd : (x == ("__debug__" : Str)) = false := by decide)
    (hcd : (x == ("__classdict__" : Str)) = false := by decide) : DE X W (.Name x pos) (iVar i) :=
  (pe_var hN hv hd hcd).imp fun σ H Q ⟨w, S, Λ, r, s, p⟩ => by
    unfold iVar at p
    split at p
    · rename_i iv e
      obtain ⟨v, h1, h2⟩ := s.get i iv e
      exact ⟨v, h1, p.now r v h2⟩
    · exact p.elim
theorem de_c {e : Expr} {v : V} {iv : IV} (h : PE X e (tC v)) (hr : ∀ w, Rel (kx X W) w v iv) : DE X W e (iC iv) :=
  h.imp fun σ H Q ⟨w, S, Λ, r, s, p⟩ => p.now r v (hr w)
theorem de_int {i j} : DE X W (.Constant (.int i) j pos) (iC (.int i)) := de_c pe_int fun _ => .int i
theorem de_bl {i j} : DE X W (.Constant (.bool i) j pos) (iC (.bl i)) := de_c pe_bl fun _ => .bl i
theorem de_str {i j} : DE X W (.Constant (.str i) j pos) (iC (.str i)) := de_c pe_str fun _ => .str i
theorem de_non {j} : DE X W (.Constant .none j pos) (iC .non) := de_c pe_non fun _ => .non
end
def OpS (K : KX) (W : WX) (r : R2) (f : IV → IV → Sto → Out IV) : Prop := ∀ (w : Wd) (S : Sto) (H : Hp) (x y : V) (ix iy : IV) (Q : VK), R K w S H → Rel K w x ix → Rel K w y iy →
  Post K W w (f ix iy S) (fun w' H' _ iv => ∀ v, Rel K w' v iv → Q v H') → r x y H Q
def UnS (K : KX) (W : WX) (r : V → Hp → VK → Prop) (f : IV → Sto → Out IV) : Prop := ∀ (w : Wd) (S : Sto) (H : Hp) (x : V) (ix : IV) (Q : VK), R K w S H → Rel K w x ix →
  Post K W w (f ix S) (fun w' H' _ iv => ∀ v, Rel K w' v iv → Q v H') → r x H Q
def CaS (K : KX) (W : WX) (r : List V → Hp → VK → Prop) (f : List IV → Sto → Out IV) : Prop := ∀ (w : Wd) (S : Sto) (H : Hp) (xs : List V) (ix : List IV) (Q : VK), R K w S H → RelL K w xs ix →
  Post K W w (f ix S) (fun w' H' _ iv => ∀ v, Rel K w' v iv → Q v H') → r xs H Q
def MtS (K : KX) (W : WX) (r : V → List V → Hp → VK → Prop) (f : IV → List IV → Sto → Out IV) : Prop := ∀ (w : Wd) (S : Sto) (H : Hp) (x : V) (xs : List V) (io : IV) (ix : List IV) (Q : VK), R K w S H → Rel K w x io → RelL K w xs ix →
  Post K W w (f io ix S) (fun w' H' _ iv => ∀ v, Rel K w' v iv → Q v H') → r x xs H Q
def iBin (f : IV → IV → Sto → Out IV) (ma mb : IE) : IE := fun Λ S => (ma Λ S).bind fun x S1 => (mb Λ S1).bind fun y S2 => f x y S2
def iUn (f : IV → Sto → Out IV) (ma : IE) : IE := fun Λ S => (ma Λ S).bind fun x S1 => f x S1
def iNil : IA := fun _ S => .ok [] S
def iCons (ma : IE) (mr : IA) : IA := fun Λ S => (ma Λ S).bind fun x S1 => (mr Λ S1).bind fun xs S2 => .ok (x :: xs) S2
def iCa (f : List IV → Sto → Out IV) (ma : IA) : IE := fun Λ S => (ma Λ S).bind fun x S1 => f x S1
section
variable {K : KX} {W : WX} {σ : L2.St} {H : Hp} {Q : VK}
theorem eM_bin {r : R2} {f : IV → IV → Sto → Out IV} {ma mb : IE} (ho : OpS K W r f) (h : eM K W (iBin f ma mb) σ H Q) : tOp r (eM K W ma) (eM K W mb) σ H Q := by
  obtain ⟨w, S, Λ, r0, s0, p⟩ := h
  exact ⟨w, S, Λ, r0, s0, p.bind.imp fun w1 H1 S1 ix l1 r1 p1 v1 rv1 => ⟨w1, S1, Λ, r1, s0.up l1, p1.bind.imp fun w2 H2 S2 iy l2 r2 p2 v2 rv2 => ho w2 S2 H2 _ _ _ _ _ r2 (rv1.up l2) rv2 p2⟩⟩
theorem eM_un {r : V → Hp → VK → Prop} {f : IV → Sto → Out IV} {ma : IE} (ho : UnS K W r f) (h : eM K W (iUn f ma) σ H Q) : tUn r (eM K W ma) σ H Q := by
  obtain ⟨w, S, Λ, r0, s0, p⟩ := h
  exact ⟨w, S, Λ, r0, s0, p.bind.imp fun w1 H1 S1 ix l1 r1 p1 v1 rv1 => ho w1 S1 H1 _ _ _ r1 rv1 p1⟩
theorem eM_ca {r : List V → Hp → VK → Prop} {f : List IV → Sto → Out IV} {ma : IA} (ho : CaS K W r f) (h : eM K W (iCa f ma) σ H Q) : tCB r (aM K W ma) σ H Q := by
  obtain ⟨w, S, Λ, r0, s0, p⟩ := h
  exact ⟨w, S, Λ, r0, s0, p.bind.imp fun w1 H1 S1 ix l1 r1 p1 v1 rv1 => ho w1 S1 H1 _ _ _ r1 rv1 p1⟩
end
section
variable {X : Cx} {W : WZ} {pos : Pos} {a b c : Expr} {ma mb mc : IE} {e : Expr} {es : List Expr} {me : IE} {mr : IA}
theorem da_nil : DA X W [] iNil := pa_nil.imp fun σ H Q ⟨w, S, Λ, r0, s0, p⟩ => p.now r0 [] .nil
theorem da_cons (ha : DE X W e me) (hr : DA X W es mr) (hs : starEach (e :: es) X.env = (false, eval e X.env) :: starEach es X.env := by rfl) : DA X W (e :: es) (iCons me mr) :=
  (pa_cons ha hr hs).imp fun σ H Q ⟨w, S, Λ, r0, s0, p⟩ => ⟨w, S, Λ, r0, s0, p.bind.imp fun w1 H1 S1 ix l1 r1 p1 v1 rv1 => ⟨w1, S1, Λ, r1, s0.up l1, p1.bind.imp fun w2 H2 S2 iy l2 r2 p2 v2 rv2 => p2.now r2 _ (.cons (rv1.up l2) rv2)⟩⟩
theorem de_bin {op : Operator} {r : R2} {f : IV → IV → Sto → Out IV} (ho : OpR X (binaryOp op) r) (hs : OpS (kx X W) W.x r f) (ha : DE X W a ma) (hb : DE X W b mb) : DE X W (.BinOp a op b pos) (iBin f ma mb) :=
  (pe_op ho ha hb).imp fun _ _ _ h => eM_bin hs h
theorem de_un {op : UnaryOp} {r : V → Hp → VK → Prop} {f : IV → Sto → Out IV} (ho : UnR X (unaryOp op) r) (hs : UnS (kx X W) W.x r f) (ha : DE X W a ma) : DE X W (.UnaryOp op a pos) (iUn f ma) :=
  (pe_un ho ha).imp fun _ _ _ h => eM_un hs h
theorem de_cmp {op : CmpOp} {r : R2} {f : IV → IV → Sto → Out IV} (ho : OpR X (compareOp op) r) (hs : OpS (kx X W) W.x r f) (ha : DE X W a ma) (hb : DE X W b mb) (hm : behindInMarks op b = false := by first | exact nomark _ | rfl) : DE X W (.Compare a [op] [b] pos) (iBin f ma mb) :=
  (pe_cmpR ho ha hb hm).imp fun _ _ _ h => eM_bin hs h
def asB {α : Type} (x : IV) (k : Bool → Out α) : Out α := match x with
  | .bl b => k b
  | _ => .bad
def iTest (m : IE) : IT := fun Λ S => (m Λ S).bind fun x S1 => asB x fun b => .ok b S1
theorem asB_post {α : Type} {K : KX} {W : WX} {w : Wd} {x : IV} {v : V} {k : Bool → Out α} {P : Wd → Hp → Sto → α → Prop} (h : Post K W w (asB x k) P) (r : Rel K w v x) : ∃ b, x = .bl b ∧ v = .bl b ∧ Post K W w (k b) P := by
  unfold asB at h
  split at h
  · rename_i b
    cases r
    exact ⟨_, rfl, rfl, h⟩
  · exact h.elim
theorem dt_cmp {op : CmpOp} {r : R2} {f : IV → IV → Sto → Out IV} (ho : OpR X (compareOp op) r) (hs : OpS (kx X W) W.x r f) (ha : DE X W a ma) (hb : DE X W b mb) (hm : behindInMarks op b = false := by first | exact nomark _ | rfl) : DT X W (.Compare a [op] [b] pos) (iTest (iBin f ma mb)) :=
  (pt_cmpR ho ha hb hm).imp fun σ H Q ⟨w, S, Λ, r0, s0, p⟩ => eM_bin hs ⟨w, S, Λ, r0, s0, p.bind.imp fun w1 H1 S1 ix l1 r1 p1 v1 rv1 => by
    obtain ⟨b, rfl, rfl, q⟩ := asB_post p1 rv1
    exact ⟨b, rfl, q.now r1⟩⟩
def iChain (f g : IV → IV → Sto → Out IV) (ma mb mc : IE) : IE := fun Λ S => (ma Λ S).bind fun x S1 => (mb Λ S1).bind fun y S2 => (f x y S2).bind fun z S3 => asB z fun k => if k = true then (mc Λ S3).bind fun u S4 => g y u S4 else .ok (.bl false) S3
end
def asI {α : Type} (x : IV) (k : Int → Out α) : Out α := match x with
  | .int b => k b
  | _ => .bad
def asS {α : Type} (x : IV) (k : Str → Out α) : Out α := match x with
  | .str b => k b
  | _ => .bad
def lstOf (S : Sto) : IV → Option (List IV)
  | .lst xs => some xs
  | .wls xs => some xs
  | .adr n => match S[n]? with
    | some (.lst xs) => some xs
    | _ => none
  | _ => none
def lstX (S : Sto) : IV → Option (List IV)
  | .lst xs => some xs
  | .adr n => match S[n]? with
    | some (.lst xs) => some xs
    | _ => none
  | _ => none
def tupOf : IV → Option (List IV)
  | .tup xs => some xs
  | _ => none
section
variable {K : KX} {W : WX} {w : Wd} {S : Sto} {H : Hp} {α : Type} {P : Wd → Hp → Sto → α → Prop}
theorem asI_post {x : IV} {v : V} {k : Int → Out α} (h : Post K W w (asI x k) P) (r : Rel K w v x) : ∃ b, x = .int b ∧ v = .int b ∧ Post K W w (k b) P := by
  unfold asI at h
  split at h
  · rename_i b
    cases r
    exact ⟨_, rfl, rfl, h⟩
  · exact h.elim
theorem lstOf_sq {iv : IV} {v : V} {ivs : List IV} (e : lstOf S iv = some ivs) (r : R K w S H) (rv : Rel K w v iv) : ∃ a xs, v = .ref a ∧ SqL K.k H a xs ∧ RelL K w xs ivs := by
  cases iv with
  | lst ys =>
    cases e
    cases rv with
    | lst h1 h2 => exact ⟨_, _, rfl, .of (r.F _ _ h1), h2⟩
  | wls ys =>
    cases e
    cases rv with
    | wls h1 h2 => exact ⟨_, _, rfl, r.F.seq h1, h2⟩
  | adr n =>
    cases rv with
    | adr h1 =>
      unfold lstOf at e
      cases q : S[n]? with
      | none => simp only [q] at e; cases e
      | some c =>
        simp only [q] at e
        cases c with
        | lst ys =>
          cases e
          obtain ⟨xs, h2, h3⟩ := r.cell n _ _ q h1
          exact ⟨_, _, rfl, .of h2, h3⟩
        | _ => cases e
  | _ => cases e
theorem lstX_sq {iv : IV} {v : V} {ivs : List IV} (e : lstX S iv = some ivs) (r : R K w S H) (rv : Rel K w v iv) : ∃ a xs, v = .ref a ∧ H a = some (.lst xs) ∧ RelL K w xs ivs := by
  cases iv with
  | lst ys =>
    cases e
    cases rv with
    | lst h1 h2 => exact ⟨_, _, rfl, (r.F _ _ h1), h2⟩
  | adr n =>
    cases rv with
    | adr h1 =>
      unfold lstX at e
      cases q : S[n]? with
      | none => simp only [q] at e; cases e
      | some c =>
        simp only [q] at e
        cases c with
        | lst ys =>
          cases e
          obtain ⟨xs, h2, h3⟩ := r.cell n _ _ q h1
          exact ⟨_, _, rfl, h2, h3⟩
        | _ => cases e
  | _ => cases e
theorem tupOf_sq {iv : IV} {v : V} {ivs : List IV} (e : tupOf iv = some ivs) (r : R K w S H) (rv : Rel K w v iv) : ∃ a xs, v = .ref a ∧ SqT K.k H a xs ∧ RelL K w xs ivs := by
  cases iv with
  | tup ys =>
    cases e
    cases rv with
    | tup h1 h2 => exact ⟨_, _, rfl, same_t r.F h1, h2⟩
  | _ => cases e
def orBad {β : Type} (o : Option β) (k : β → Out α) : Out α := match o with
  | some b => k b
  | none => .bad
theorem orBad_post {β : Type} {o : Option β} {k : β → Out α} (h : Post K W w (orBad o k) P) : ∃ b, o = some b ∧ Post K W w (k b) P := by
  unfold orBad at h
  split at h
  · exact ⟨_, rfl, h⟩
  · exact h.elim
@[simp] theorem orBad_some {β : Type} {b : β} {k : β → Out α} : orBad (some b) k = k b := rfl
end
def mkF (ivs : List IV) (S : Sto) : Out IV := chk (ivs.length ≤ sizeLine) (.ok (.lst ivs) S)
def mkC (ivs : List IV) (S : Sto) : Out IV := chk (ivs.length ≤ sizeLine) (.ok (.adr S.length) (S ++ [.lst ivs]))
def mkL (cell : Bool) (ivs : List IV) (S : Sto) : Out IV := if cell = true then mkC ivs S else mkF ivs S
def mkT (ivs : List IV) (S : Sto) : Out IV := chk (ivs.length ≤ sizeLine) (.ok (.tup ivs) S)
section
variable {K : KX} {W : WX} {w : Wd} {S : Sto} {H : Hp} {Q : VK}
theorem mkL_post {cell : Bool} {ivs : List IV} {xs : List V} (h : Post K W w (mkL cell ivs S) fun w' H' _ iv => ∀ v, Rel K w' v iv → Q v H') (r : R K w S H) (rx : RelL K w xs ivs) : xs.length ≤ sizeLine ∧ ∀ p, H p = none → Q (.ref p) (upd H p (.lst xs)) := by
  rw [rx.length]
  cases cell with
  | true =>
    obtain ⟨h1, h⟩ := chk_post (show Post K W w (mkC ivs S) _ from h)
    refine ⟨h1, fun p hp => ?_⟩
    obtain ⟨l, r'⟩ := r.alloc (c := .lst ivs) (o := .lst xs) hp fun w' l => ⟨xs, upd_same, rx.up l⟩
    refine h _ _ l r' _ (.adr ?_)
    show (w.rho ++ [p])[S.length]? = some p
    rw [← r.len, List.getElem?_append_right (Nat.le_refl _), Nat.sub_self]
    rfl
  | false =>
    obtain ⟨h1, h⟩ := chk_post (show Post K W w (mkF ivs S) _ from h)
    refine ⟨h1, fun p hp => ?_⟩
    obtain ⟨l, r'⟩ := r.frz (o := .lst xs) hp
    exact h _ _ l r' _ (.lst upd_same (rx.up l))
theorem mkT_post {ivs : List IV} {xs : List V} (h : Post K W w (mkT ivs S) fun w' H' _ iv => ∀ v, Rel K w' v iv → Q v H') (r : R K w S H) (rx : RelL K w xs ivs) : xs.length ≤ sizeLine ∧ ∀ p, H p = none → Q (.ref p) (upd H p (.tup xs)) := by
  rw [rx.length]
  obtain ⟨h1, h⟩ := chk_post h
  refine ⟨h1, fun p hp => ?_⟩
  obtain ⟨l, r'⟩ := r.frz (o := .tup xs) hp
  exact h _ _ l r' _ (.tup (.of upd_same) (rx.up l))
end
section
variable {X : Cx} {W : WZ} {pos : Pos} {es : List Expr} {m : IA}
def iLst (cell : Bool) (m : IA) : IE := iCa (mkL cell) m
def iTup (m : IA) : IE := iCa mkT m
theorem de_lst (cell : Bool) (h : DA X W es m) : DE X W (.List es pos) (iLst cell m) :=
  (pe_lst h).imp fun σ H Q ⟨w, S, Λ, r0, s0, p⟩ => ⟨w, S, Λ, r0, s0, p.bind.imp fun w1 H1 S1 ix l1 r1 p1 v1 rv1 => mkL_post p1 r1 rv1⟩
theorem de_tup {x1} (h : DA X W es m) : DE X W (.Tuple es x1 pos) (iTup m) :=
  (pe_tup h).imp fun σ H Q ⟨w, S, Λ, r0, s0, p⟩ => ⟨w, S, Λ, r0, s0, p.bind.imp fun w1 H1 S1 ix l1 r1 p1 v1 rv1 => mkT_post p1 r1 rv1⟩
end
instance (i j : Int) : Decidable (CMul i j) := by unfold CMul; infer_instance
instance (i j : Int) : Decidable (CDiv i j) := by unfold CDiv; infer_instance
instance (i j : Int) : Decidable (CPow i j) := by unfold CPow; infer_instance
def fI (C : Int → Int → Prop) [∀ i j, Decidable (C i j)] (g : Int → Int → Int) (x y : IV) (S : Sto) : Out IV := asI x fun i => asI y fun j => chk (C i j) (.ok (.int (g i j)) S)
def fB (g : Int → Int → Bool) (x y : IV) (S : Sto) : Out IV := asI x fun i => asI y fun j => .ok (.bl (g i j)) S
section
variable {K : KX} {W : WX}
theorem os_I {C : Int → Int → Prop} [∀ i j, Decidable (C i j)] {g : Int → Int → Int} : OpS K W (rI C fun i j => .int (g i j)) (fI C g) := fun w S H x y ix iy Q r rx ry p => by
  obtain ⟨i, rfl, rfl, p⟩ := asI_post p rx
  obtain ⟨j, rfl, rfl, p⟩ := asI_post p ry
  obtain ⟨c, p⟩ := chk_post p
  exact ⟨i, j, rfl, rfl, c, p.now r _ (.int _)⟩
theorem os_B {g : Int → Int → Bool} : OpS K W (rI0 fun i j => .bl (g i j)) (fB g) := fun w S H x y ix iy Q r rx ry p => by
  obtain ⟨i, rfl, rfl, p⟩ := asI_post p rx
  obtain ⟨j, rfl, rfl, p⟩ := asI_post p ry
  exact ⟨i, j, rfl, rfl, p.now r _ (.bl _)⟩
end
def fAdd (x y : IV) (S : Sto) : Out IV := match x, y with
  | .int i, .int j => .ok (.int (i + j)) S
  | .str a, .str b => chk (a.length + b.length ≤ sizeLine) (.ok (.str (a ++ b)) S)
  | a, b => orBad (lstX S a) fun xs => orBad (lstX S b) fun ys => mkF (xs ++ ys) S
abbrev rAddS : R2 := fun x y H Q => ∃ i j, x = .str i ∧ y = .str j ∧ i.length + j.length ≤ sizeLine ∧ Q (.str (i ++ j)) H
abbrev rAddI : R2 := rI0 fun i j => .int (i + j)
abbrev rAddA : R2 := fun x y H Q => rAddI x y H Q ∨ ((fun x y H Q => rAddS x y H Q ∨ rCat x y H Q) : R2) x y H Q
theorem op_addA {X : Cx} : OpR X (binaryOp .Add) rAddA := op_add.or (op_add_str.or op_cat)
theorem os_add {K : KX} {W : WX} : OpS K W rAddA fAdd := fun w S H x y ix iy Q r rx ry p => by
  unfold fAdd at p
  split at p
  · rename_i i j
    cases rx; cases ry
    exact .inl ⟨_, _, rfl, rfl, p.now r _ (.int _)⟩
  · rename_i i j
    cases rx; cases ry
    obtain ⟨c, p⟩ := chk_post p
    exact .inr (.inl ⟨_, _, rfl, rfl, c, p.now r _ (.str _)⟩)
  · obtain ⟨xs, e1, p⟩ := orBad_post p
    obtain ⟨ys, e2, p⟩ := orBad_post p
    obtain ⟨a, vs, rfl, h1, q1⟩ := lstX_sq e1 r rx
    obtain ⟨b, us, rfl, h2, q2⟩ := lstX_sq e2 r ry
    obtain ⟨c, k⟩ := mkL_post (cell := false) p r (q1.append q2)
    exact .inr (.inr ⟨_, _, _, _, rfl, rfl, h1, h2, by rw [List.length_append] at c; exact c, k⟩)
def fCatC (x y : IV) (S : Sto) : Out IV := orBad (lstX S x) fun xs => orBad (lstX S y) fun ys => mkC (xs ++ ys) S
theorem os_catC {K : KX} {W : WX} : OpS K W rCat fCatC := fun w S H x y ix iy Q r rx ry p => by
  obtain ⟨xs, e1, p⟩ := orBad_post p
  obtain ⟨ys, e2, p⟩ := orBad_post p
  obtain ⟨a, vs, rfl, h1, q1⟩ := lstX_sq e1 r rx
  obtain ⟨b, us, rfl, h2, q2⟩ := lstX_sq e2 r ry
  obtain ⟨c, k⟩ := mkL_post (cell := true) p r (q1.append q2)
  exact ⟨_, _, _, _, rfl, rfl, h1, h2, by rw [List.length_append] at c; exact c, k⟩
abbrev fMul := fI CMul fun i j => i * j
abbrev fDiv := fI CDiv fun i j => i / j
abbrev fMod := fI (fun _ j => 0 < j) fun i j => i % j
abbrev fPow := fI CPow fun i j => i ^ j.toNat
def fNeg (x : IV) (S : Sto) : Out IV := asI x fun i => .ok (.int (-i)) S
theorem us_neg {K : KX} {W : WX} : UnS K W (rU fun i => .int (-i)) fNeg := fun w S H x ix Q r rx p => by
  obtain ⟨i, rfl, rfl, p⟩ := asI_post p rx
  exact ⟨i, rfl, p.now r _ (.int _)⟩
abbrev fLt := fB fun i j => decide (i < j)
abbrev fGt := fB fun i j => decide (j < i)
abbrev fGe := fB fun i j => decide (j ≤ i)
def viewL (f : IV → Option PyData) : List IV → Option (List PyData)
  | [] => some []
  | x :: xs => match f x, viewL f xs with
    | some d, some ds => some (d :: ds)
    | _, _ => none
def view : Nat → Sto → IV → Option PyData
  | 0, _, _ => none
  | n + 1, S, x => match x with
    | .non => some .none
    | .bl b => some (.bool b)
    | .int i => some (.int i)
    | .str s => some (.str s)
    | .lst xs => (viewL (view n S) xs).map .list
    | .wls xs => (viewL (view n S) xs).map .list
    | .tup xs => (viewL (view n S) xs).map .tuple
    | .adr m => match S[m]? with
      | some (.lst xs) => (viewL (view n S) xs).map .list
      | _ => none
    | _ => none
section
variable {K : KX} {w : Wd} {S : Sto} {H : Hp}
theorem viewL_dp {f : IV → Option PyData} (hf : ∀ x d v, f x = some d → Rel K w v x → Dp K.k H v d) : ∀ (xs : List IV) (ds : List PyData) (vs : List V), viewL f xs = some ds → RelL K w vs xs → DpAll K.k H vs ds
  | [], _, _, e, h => by
    cases h; cases e; exact .nil
  | x :: xs, ds, _, e, h => by
    cases h with
    | cons a b =>
      unfold viewL at e
      split at e
      · rename_i d ds' e1 e2
        cases e
        exact .cons (hf _ _ _ e1 a) (viewL_dp hf xs _ _ e2 b)
      · cases e
theorem view_dp (r : R K w S H) : ∀ (n : Nat) (x : IV) (d : PyData) (v : V), view n S x = some d → Rel K w v x → Dp K.k H v d
  | 0, _, _, _, e, _ => by cases e
  | n + 1, x, d, v, e, h => by
    have ih := view_dp r n
    unfold view at e
    cases x with
    | non => cases e; cases h; exact .non
    | bl b => cases e; cases h; exact .bl _
    | int b => cases e; cases h; exact .int _
    | str b => cases e; cases h; exact .str _
    | lst xs =>
      obtain ⟨ds, e1, e2⟩ := Option.map_eq_some_iff.mp e
      subst e2
      cases h with
      | lst h1 h2 => exact .lst (.of (r.F _ _ h1)) (viewL_dp ih xs ds _ e1 h2)
    | wls xs =>
      obtain ⟨ds, e1, e2⟩ := Option.map_eq_some_iff.mp e
      subst e2
      cases h with
      | wls h1 h2 => exact .lst (r.F.seq h1) (viewL_dp ih xs ds _ e1 h2)
    | tup xs =>
      obtain ⟨ds, e1, e2⟩ := Option.map_eq_some_iff.mp e
      subst e2
      cases h with
      | tup h1 h2 => exact .tup (same_t r.F h1) (viewL_dp ih xs ds _ e1 h2)
    | adr m =>
      cases h with
      | adr h1 =>
        cases q : S[m]? with
        | none => simp only [q] at e; cases e
        | some c =>
          simp only [q] at e
          cases c with
          | lst xs =>
            obtain ⟨ds, e1, e2⟩ := Option.map_eq_some_iff.mp e
            subst e2
            obtain ⟨vs, h2, h3⟩ := r.cell m _ _ q h1
            exact .lst (.of h2) (viewL_dp ih xs ds _ e1 h3)
          | _ => cases e
    | _ => cases e
end
def eqB (S : Sto) (x y : IV) : Option Bool := match x, y with
  | .int i, .int j => some (decide (i = j))
  | .str a, .str b => some (decide (a = b))
  | .bl a, .bl b => some (decide (a = b))
  | a, b => match view 8 S a, view 8 S b with
    | some d, some e => if SeqAt.shaped d = true ∧ SeqAt.shaped e = true then some (PyData.eqv d e) else none
    | _, _ => none
def fEq (x y : IV) (S : Sto) : Out IV := orBad (eqB S x y) fun b => .ok (.bl b) S
def fNe (x y : IV) (S : Sto) : Out IV := orBad (eqB S x y) fun b => .ok (.bl (!b)) S
abbrev rEqA (K : PySem.W.Frag) : R2 := fun x y H Q => rEq x y H Q ∨ rEqD K x y H Q
abbrev rNeA (K : PySem.W.Frag) : R2 := fun x y H Q => rNe x y H Q ∨ rNeD K x y H Q
theorem op_eqA {X : Cx} (hu : X.A.units + 64 < cLine) : OpR X (compareOp .Eq) (rEqA X.K) := op_eq.or (op_eqD hu)
theorem op_neA {X : Cx} (hu : X.A.units + 64 < cLine) : OpR X (compareOp .NotEq) (rNeA X.K) := op_ne.or (op_neD hu)
theorem eqB_cases {K : KX} {w : Wd} {S : Sto} {H : Hp} {x y : V} {ix iy : IV} {b : Bool} (r : R K w S H) (rx : Rel K w x ix) (ry : Rel K w y iy) (e : eqB S ix iy = some b) :
    (scal x y = true ∧ b = decide (x = y)) ∨ ∃ d e, Dp K.k H x d ∧ Dp K.k H y e ∧ SeqAt.shaped d = true ∧ SeqAt.shaped e = true ∧ b = PyData.eqv d e := by
  unfold eqB at e
  split at e
  · cases rx; cases ry; cases e
    exact .inl ⟨rfl, by simp⟩
  · cases rx; cases ry; cases e
    exact .inl ⟨rfl, by simp⟩
  · cases rx; cases ry; cases e
    exact .inl ⟨rfl, by simp⟩
  · split at e
    · rename_i d d' h1 h2
      split at e
      · rename_i hs
        cases e
        exact .inr ⟨d, d', view_dp r _ _ _ _ h1 rx, view_dp r _ _ _ _ h2 ry, hs.1, hs.2, rfl⟩
      · cases e
    · cases e
theorem os_eq {K : KX} {W : WX} : OpS K W (rEqA K.k) fEq := fun w S H x y ix iy Q r rx ry p => by
  obtain ⟨b, e, p⟩ := orBad_post p
  rcases eqB_cases r rx ry e with ⟨h1, h2⟩ | ⟨d, d', h1, h2, h3, h4, h5⟩
  · subst h2; exact .inl ⟨h1, p.now r _ (.bl _)⟩
  · subst h5; exact .inr ⟨d, d', h1, h2, h3, h4, p.now r _ (.bl _)⟩
theorem os_ne {K : KX} {W : WX} : OpS K W (rNeA K.k) fNe := fun w S H x y ix iy Q r rx ry p => by
  obtain ⟨b, e, p⟩ := orBad_post p
  rcases eqB_cases r rx ry e with ⟨h1, h2⟩ | ⟨d, d', h1, h2, h3, h4, h5⟩
  · subst h2; exact .inl ⟨h1, p.now r _ (.bl _)⟩
  · subst h5; exact .inr ⟨d, d', h1, h2, h3, h4, p.now r _ (.bl _)⟩
def isN : IV → Bool
  | .non => true
  | _ => false
def gIsN : IV → IV → Sto → Out IV := fun x y S => match y with | .non => .ok (.bl (isN x)) S | _ => .bad
def gNotN : IV → IV → Sto → Out IV := fun x y S => match y with | .non => .ok (.bl (!isN x)) S | _ => .bad
def scV : IV → Option V
  | .non => some .non
  | .bl b => some (.bl b)
  | .int i => some (.int i)
  | .str s => some (.str s)
  | _ => none
def scVs : List IV → Option (List V)
  | [] => some []
  | x :: xs => match scV x, scVs xs with
    | some v, some vs => some (v :: vs)
    | _, _ => none
def seqOf (S : Sto) (x : IV) : Option (List IV) := match tupOf x with
  | some xs => some xs
  | none => lstOf S x
theorem seqOf_sq {K : KX} {w : Wd} {S : Sto} {H : Hp} {iv : IV} {v : V} {ivs : List IV} (e : seqOf S iv = some ivs) (r : R K w S H) (rv : Rel K w v iv) : ∃ a xs, v = .ref a ∧ (SqL K.k H a xs ∨ SqT K.k H a xs) ∧ RelL K w xs ivs := by
  unfold seqOf at e
  split at e
  · rename_i xs h
    cases e
    obtain ⟨a, xs, h1, h2, h3⟩ := tupOf_sq h r rv
    exact ⟨a, xs, h1, .inr h2, h3⟩
  · obtain ⟨a, xs, h1, h2, h3⟩ := lstOf_sq e r rv
    exact ⟨a, xs, h1, .inl h2, h3⟩
def sgn (s : Str) : Option Nat := match s.cps.toList with
  | [c] => some c
  | _ => none
def inB (S : Sto) (x y : IV) : Option Bool := match y with
  | .str z => match x with
    | .str s => (sgn s).map fun c => decide (c ∈ z.cps.toList)
    | _ => none
  | y => match scV x, seqOf S y with
    | some u, some ys => (scVs ys).map fun us => inV u us
    | _, _ => none
def fIn (x y : IV) (S : Sto) : Out IV := orBad (inB S x y) fun b => .ok (.bl b) S
def fNotIn (x y : IV) (S : Sto) : Out IV := orBad (inB S x y) fun b => .ok (.bl (!b)) S
def truB (S : Sto) (x : IV) : Option Bool := match x with
  | .non => some false
  | .bl b => some b
  | .int i => some (i != 0)
  | .str y => if y.length ≤ sizeLine then some ((y.length : Int) != 0) else none
  | .tup xs => some (!xs.isEmpty)
  | .adr n => match S[n]? with
    | some (.lst xs) => some (!xs.isEmpty)
    | some (.dic kvs) => some (!kvs.isEmpty)
    | _ => none
  | x => (lstOf S x).map fun xs => !xs.isEmpty
theorem RelL.empty {K : KX} {w : Wd} {xs : List V} {ivs : List IV} (r : RelL K w xs ivs) : (!ivs.isEmpty) = !xs.isEmpty := by cases r <;> rfl
theorem truB_rel {K : KX} {w : Wd} {S : Sto} {H : Hp} {x : V} {ix : IV} {b : Bool} (r : R K w S H) (rx : Rel K w x ix) (e : truB S ix = some b) : TruV K.k x H b := by
  have lst : ∀ {ys}, lstOf S ix = some ys → b = (!ys.isEmpty) → TruV K.k x H b := fun {ys} h1 h2 => by
    obtain ⟨a, xs, rfl, h3, h4⟩ := lstOf_sq h1 r rx
    exact .inl ⟨xs, h3, by rw [h2, h4.empty]⟩
  unfold truB at e
  split at e
  · cases rx; cases e; rfl
  · cases rx; cases e; rfl
  · cases rx; cases e; rfl
  · cases rx
    split at e
    · cases e
      exact ⟨by assumption, rfl⟩
    · cases e
  · cases rx with
    | tup h1 h2 =>
      cases e
      exact .inr (.inl ⟨_, same_t r.F h1, by rw [h2.empty]⟩)
  · cases rx with
    | adr h1 =>
      split at e
      · rename_i q
        cases e
        obtain ⟨xs, h2, h3⟩ := r.cell _ _ _ q h1
        exact .inl ⟨xs, .of h2, by rw [h3.empty]⟩
      · rename_i q
        cases e
        obtain ⟨xs, h2, h3⟩ := r.cell _ _ _ q h1
        refine .inr (.inr ⟨xs, h2, ?_⟩)
        cases h3 <;> rfl
      · cases e
  · obtain ⟨ys, h1, h2⟩ := Option.map_eq_some_iff.mp e
    exact lst h1 h2.symm
def iTru (m : IE) : IT := fun Λ S => (m Λ S).bind fun x S1 => orBad (truB S1 x) fun b => .ok b S1
def iAnd (c d : IT) : IT := fun Λ S => (c Λ S).bind fun b S1 => if b = true then d Λ S1 else .ok false S1
def iOr (c d : IT) : IT := fun Λ S => (c Λ S).bind fun b S1 => if b = true then .ok true S1 else d Λ S1
def iNot (c : IT) : IT := fun Λ S => (c Λ S).bind fun b S1 => .ok (!b) S1
def iAndV (c d : IE) : IE := fun Λ S => (c Λ S).bind fun x S1 => asB x fun b => if b = true then d Λ S1 else .ok (.bl false) S1
def iOrV (c d : IE) : IE := fun Λ S => (c Λ S).bind fun x S1 => asB x fun b => if b = true then .ok (.bl true) S1 else d Λ S1
def iNotV (c : IE) : IE := fun Λ S => (c Λ S).bind fun x S1 => asB x fun b => .ok (.bl (!b)) S1
def iIf {α : Type} (c : IT) (a b : Slots → Sto → Out α) : Slots → Sto → Out α := fun Λ S => (c Λ S).bind fun k S1 => if k = true then a Λ S1 else b Λ S1
section
variable {X : Cx} {W : WZ} {pos : Pos} {a b c : Expr} {rest : List Expr} {ma mb : IE} {ta tb tc : IT}
theorem dt_tru (ha : DE X W a ma) (he : ∀ whole, isTrue a X.env whole = (do let v ← whole; standAt a.pos; holding [v] (truthy v)) := by intro _; rfl) : DT X W a (iTru ma) :=
  (pt_truth ha he).imp fun σ H Q ⟨w, S, Λ, r0, s0, p⟩ => ⟨w, S, Λ, r0, s0, p.bind.imp fun w1 H1 S1 ix l1 r1 p1 v1 rv1 => by
    obtain ⟨b, e, q⟩ := orBad_post p1
    exact ⟨b, truB_rel r1 rv1 e, q.now r1⟩⟩
theorem dt_w (h : DW X W a ta) : DT X W a ta := PW.pt h
theorem dw_or1 (h : DT X W a ta) : DW X W (.BoolOp .Or [a] pos) ta := pw_or1 h
theorem dw_or (ha : DT X W a ta) (hb : DW X W (.BoolOp .Or (b :: rest) pos) tb) : DW X W (.BoolOp .Or (a :: b :: rest) pos) (iOr ta tb) :=
  (pw_or ha hb).imp fun σ H Q ⟨w, S, Λ, r0, s0, p⟩ => ⟨w, S, Λ, r0, s0, p.bind.imp fun w1 H1 S1 k l1 r1 p1 => by
    cases k with
    | true => rw [if_pos rfl] at p1 ⊢; exact p1.now r1
    | false => rw [if_neg Bool.false_ne_true] at p1 ⊢; exact ⟨w1, S1, Λ, r1, s0.up l1, p1⟩⟩
theorem dt_not (ha : DT X W a ta) : DT X W (.UnaryOp .Not a pos) (iNot ta) :=
  (pt_not ha).imp fun σ H Q ⟨w, S, Λ, r0, s0, p⟩ => ⟨w, S, Λ, r0, s0, p.bind.imp fun w1 H1 S1 k l1 r1 p1 => p1.now r1⟩
theorem de_one {op} (h : DE X W a ma) : DE X W (.BoolOp op [a] pos) ma := pe_one h
theorem de_and (ha : DE X W a ma) (hb : DE X W (.BoolOp .And (b :: rest) pos) mb) : DE X W (.BoolOp .And (a :: b :: rest) pos) (iAndV ma mb) :=
  (pe_and ha hb).imp fun σ H Q ⟨w, S, Λ, r0, s0, p⟩ => ⟨w, S, Λ, r0, s0, p.bind.imp fun w1 H1 S1 ix l1 r1 p1 v1 rv1 => by
    obtain ⟨k, rfl, rfl, p1⟩ := asB_post p1 rv1
    refine ⟨k, rfl, ?_⟩
    cases k with
    | true => rw [if_pos rfl] at p1 ⊢; exact ⟨w1, S1, Λ, r1, s0.up l1, p1⟩
    | false => rw [if_neg Bool.false_ne_true] at p1 ⊢; exact p1.now r1 _ (.bl _)⟩
theorem de_if (hc : DT X W c tc) (ha : DE X W a ma) (hb : DE X W b mb) : DE X W (.IfExp c a b pos) (iIf tc ma mb) :=
  (pe_ifExp hc ha hb).imp fun σ H Q ⟨w, S, Λ, r0, s0, p⟩ => ⟨w, S, Λ, r0, s0, p.bind.imp fun w1 H1 S1 k l1 r1 p1 => by
    cases k with
    | true => rw [if_pos rfl] at p1 ⊢; exact ⟨w1, S1, Λ, r1, s0.up l1, p1⟩
    | false => rw [if_neg Bool.false_ne_true] at p1 ⊢; exact ⟨w1, S1, Λ, r1, s0.up l1, p1⟩⟩
end
theorem atI_rel {K : KX} {w : Wd} {xs : List V} {ivs : List IV} {i : Int} {iv : IV} (r : RelL K w xs ivs) (e : atI ivs i = some iv) : ∃ v, atI xs i = some v ∧ Rel K w v iv := by
  unfold atI at e ⊢
  rw [r.length]
  cases h : ixN ivs.length i with
  | none => rw [h] at e; cases e
  | some j =>
    rw [h] at e
    exact r.get e
def fIx (x y : IV) (S : Sto) : Out IV := asI y fun i => match x with
  | .str z => chk (z.length ≤ sizeLine) (orBad (atI z.cps.toList i) fun c => .ok (.str ⟨#[c]⟩) S)
  | .tup xs => orBad (atI xs i) fun v => .ok v S
  | x => orBad (lstOf S x) fun xs => orBad (atI xs i) fun v => .ok v S
theorem os_ix {K : KX} {W : WX} : OpS K W (rIx K.k) fIx := fun w S H x y ix iy Q r rx ry p => by
  obtain ⟨i, rfl, rfl, p⟩ := asI_post p ry
  split at p
  · cases rx
    obtain ⟨h1, p⟩ := chk_post p
    obtain ⟨c, h2, p⟩ := orBad_post p
    exact .inr (.inr ⟨_, _, _, rfl, rfl, h1, h2, p.now r _ (.str _)⟩)
  · cases rx with
    | tup h1 h2 =>
      obtain ⟨c, h3, p⟩ := orBad_post p
      obtain ⟨v, h4, h5⟩ := atI_rel h2 h3
      exact .inr (.inl ⟨_, _, _, v, rfl, rfl, same_t r.F h1, h4, p.now r _ h5⟩)
  · obtain ⟨ivs, h0, p⟩ := orBad_post p
    obtain ⟨c, h3, p⟩ := orBad_post p
    obtain ⟨a, xs, rfl, h1, h2⟩ := lstOf_sq h0 r rx
    obtain ⟨v, h4, h5⟩ := atI_rel h2 h3
    exact .inl ⟨_, _, _, v, rfl, rfl, h1, h4, p.now r _ h5⟩
abbrev IO := Slots → Sto → Out (Option Int)
def iNoPart : IO := fun _ S => .ok none S
def iPart (m : IE) : IO := fun Λ S => (m Λ S).bind fun x S1 => asI x fun i => .ok (some i) S1
theorem _root_.L2.PO.imp {X : Cx} {e : Option Expr} {t t' : TO} (h : PO X e t) (f : ∀ σ H Q, t' σ H Q → t σ H Q) : PO X e t' := ⟨fun pins s σ H Q I q => h.run pins s σ H Q I (f σ H Q q)⟩
def cutI (xs : List IV) (lo hi : Option Int) : List IV := (xs.drop (HT.sIx xs.length 0 lo)).take (HT.sIx xs.length xs.length hi - HT.sIx xs.length 0 lo)
def fSl (cell : Bool) (x : IV) (lo hi : Option Int) (S : Sto) : Out IV := match x with
  | .str z => chk (z.length ≤ sizeLine) (.ok (.str (cutS z lo hi)) S)
  | x => orBad (lstOf S x) fun xs => mkL cell (cutI xs lo hi) S
def iSl (cell : Bool) (m : IE) (ml mh : IO) : IE := fun Λ S => (m Λ S).bind fun x S1 => (ml Λ S1).bind fun lo S2 => (mh Λ S2).bind fun hi S3 => fSl cell x lo hi S3
section
variable {X : Cx} {W : WZ} {pos p2 : Pos} {a b e : Expr} {ma mb me : IE} {lo hi : Option Expr} {ml mh : IO}
theorem de_ix (ha : DE X W a ma) (hb : DE X W b mb) (hs : PlainIx b := by exact fun _ _ => rfl) : DE X W (.Subscript a b pos) (iBin fIx ma mb) :=
  (pe_ix ix_seq ha hb hs).imp fun _ _ _ h => eM_bin os_ix h
end
def spM (K : PySem.W.Frag) (mg : Str → Option Value) (np : Nat) (mf : List IV → Sto → Out IV) : Sp := fun vs H Q E => vs.length = np ∧ ∃ w S ivs, R ⟨K, mg, none⟩ w S H ∧ RelL ⟨K, mg, none⟩ w vs ivs ∧ Post ⟨K, mg, none⟩ (fun c d _ H => E c d H) w (mf ivs S) fun w' H' _ iv => ∀ v, Rel ⟨K, mg, none⟩ w' v iv → Q v H'
def mDef (n : Nat) (body : IS) : List IV → Sto → Out IV := fun ivs S => match body (ivs.map some ++ List.replicate (n - ivs.length) none) S with
  | .ok (.rt iv) S' => .ok iv S'
  | .ok (.nx _) S' => .ok .non S'
  | .ok _ _ => .bad
  | .exc C k _ S' => .exc C k [] S'
  | .bad => .bad
def relab (Λ : Slots) : Out IV → Out IV
  | .exc C n _ S => .exc C n Λ S
  | o => o
def iCall (np : Nat) (mf : List IV → Sto → Out IV) (ma : IA) : IE := fun Λ S => (ma Λ S).bind fun xs S1 => chk (xs.length = np) (relab Λ (mf xs S1))
theorem relab_post {K : KX} {W : WX} {w : Wd} {Λ : Slots} {σ : L2.St} {o : Out IV} {P : Wd → Hp → Sto → IV → Prop} (h : Post K W w (relab Λ o) P) (s : SR K w σ Λ) : Post K (fun c d _ H => W c d σ H) w o P := by
  cases o with
  | ok iv S2 => exact h
  | exc C n L S2 => exact fun w2 H2 a σ2 l2 r2 s2 e => h w2 H2 a σ l2 r2 (s.up l2) e
  | bad => exact h
def iCall0 (mf : List IV → Sto → Out IV) : IE := fun _ S => match mf [] S with
  | .ok iv S2 => .ok iv S2
  | _ => .bad
section
variable {X : Cx} {W : WX} {pos p : Pos} {k : Nat} {f : Addr} {fd : FuncData} {ps : List Str} {mf : List IV → Sto → Out IV} {x : Str} {e : Expr} {es : List Expr} {ma : IA} {np : Nat}
theorem sr_nil {K : KX} {w : Wd} : SR K w [] [] := ⟨rfl, fun i iv e => by simp at e, fun i n a d _ e => by simp at e⟩
theorem de_call (F : FnG X.prog X.w X.K X.mg X.base (CX X.prog X.w) k f fd ps (spM X.K X.mg np mf)) (tk : Takes X W) (hr : RmG k X.A) (hm : X.mg x = some (.ref f)) (hk : PySem.W.keepIn X.K (.ref f) = true) (hb : Binds X.K fd ps [])
    (ha : DA X ⟨W, none⟩ (e :: es) ma) (hg : Gl X x := by rfl) (hdb : (x == ("__debug__" : Str)) = false := by decide) (he : starEach (e :: es) X.env = (false, eval e X.env) :: starEach es X.env := by rfl) (hpl : (backTo pos (starEach es X.env)).any (·.1) = false := by rfl) :
    DE X ⟨W, none⟩ (.Call (.Name x p) (e :: es) [] pos) (iCall np mf ma) :=
  (pe_callG F hr hg hm hk hb (E := WE W) (fun σ => passAt tk σ) ha hdb he hpl).imp fun σ H Q ⟨w, S, Λ, r0, s0, p⟩ => ⟨w, S, Λ, r0, s0, p.bind.imp fun w1 H1 S1 xs l1 r1 p1 vs rv => by
    obtain ⟨h1, q⟩ := chk_post p1
    exact ⟨rv.length.trans h1, w1, S1, xs, r1, rv, relab_post q (s0.up l1)⟩⟩
end
theorem Post.up {K : KX} {W : WX} {w w' : Wd} {α : Type} {o : Out α} {P : Wd → Hp → Sto → α → Prop} (h : Post K W w o P) (l : w.le w') : Post K W w' o P := by
  cases o with
  | ok a S' => exact fun w2 H2 l2 r2 => h w2 H2 (l.trans l2) r2
  | exc C n L S' => exact fun w2 H2 a σ l2 r2 s2 e => h w2 H2 a σ (l.trans l2) r2 s2 e
  | bad => exact h
def iNext : IS := fun Λ S => .ok (.nx Λ) S
def fSeq (b : IS) (fl : Fl) (S : Sto) : Out Fl := match fl with
  | .nx L => b L S
  | o => .ok o S
def iSeq (a b : IS) : IS := fun Λ S => (a Λ S).bind fun fl S1 => fSeq b fl S1
def iDrop (m : IE) : IS := fun Λ S => (m Λ S).bind fun _ S1 => .ok (.nx Λ) S1
def iRet (m : IE) : IS := fun Λ S => (m Λ S).bind fun x S1 => .ok (.rt x) S1
def iRetN : IS := fun _ S => .ok (.rt .non) S
def iBrk : IS := fun Λ S => .ok (.bk Λ) S
def iCnt : IS := fun Λ S => .ok (.ct Λ) S
def iName (i : Nat) : IG := fun x Λ S => .ok (Λ.set i (some x)) S
def iAsg (m : IE) (g : IG) : IS := fun Λ S => (m Λ S).bind fun x S1 => (g x Λ S1).bind fun L S2 => .ok (.nx L) S2
def iSet (i : Nat) (m : IE) : IS := fun Λ S => (m Λ S).bind fun x S1 => .ok (.nx (Λ.set i (some x))) S1
section
variable {X : Cx} {W : WZ} {pos pos' : Pos} {st : Stmt} {rest : List Stmt} {m u : IS} {e : Expr} {me : IE} {g : IG}
theorem dss_nil : DSs X W [] iNext := pss_nil.imp fun D σ H ⟨w, S, Λ, r0, s0, p⟩ => p.now r0 σ s0
theorem dss_cons (h1 : DS X W st m) (h2 : DSs X W rest u) : DSs X W (st :: rest) (iSeq m u) :=
  (pss_cons h1 h2).imp fun D σ H ⟨w, S, Λ, r0, s0, p⟩ => ⟨w, S, Λ, r0, s0, p.bind.imp fun w1 H1 S1 fl l1 r1 p1 => by
    cases fl with
    | nx L => exact fun σ' s' => ⟨w1, S1, L, r1, s', p1⟩
    | rt iv => exact p1.now r1
    | bk L => exact p1.now r1
    | ct L => exact p1.now r1⟩
theorem dss_one (h1 : DS X W st m) : DSs X W [st] m := pss_one h1
theorem ds_expr (he : DE X W e me) (hs : swapsWith e none pos.line X.env = pure false := by rfl) : DS X W (.Expr e pos) (iDrop me) :=
  (ps_expr he hs).imp fun D σ H ⟨w, S, Λ, r0, s0, p⟩ => ⟨w, S, Λ, r0, s0, p.bind.imp fun w1 H1 S1 ix l1 r1 p1 v1 rv1 => p1.now r1 σ (s0.up l1)⟩
theorem ds_ret (he : DE X W e me) : DS X W (.Return (some e) pos) (iRet me) :=
  (ps_ret he).imp fun D σ H ⟨w, S, Λ, r0, s0, p⟩ => ⟨w, S, Λ, r0, s0, p.bind.imp fun w1 H1 S1 ix l1 r1 p1 v1 rv1 => p1.now r1 v1 rv1⟩
theorem ds_if {c : Expr} {a b : List Stmt} {tc : IT} (hc : DT X W c tc) (ha : DSs X W a m) (hb : DSs X W b u) : DS X W (.If c a b pos) (iIf tc m u) :=
  (ps_if hc ha hb).imp fun D σ H ⟨w, S, Λ, r0, s0, p⟩ => ⟨w, S, Λ, r0, s0, p.bind.imp fun w1 H1 S1 k l1 r1 p1 => by
    cases k with
    | true => rw [if_pos rfl] at p1 ⊢; exact ⟨w1, S1, Λ, r1, s0.up l1, p1⟩
    | false => rw [if_neg Bool.false_ne_true] at p1 ⊢; exact ⟨w1, S1, Λ, r1, s0.up l1, p1⟩⟩
theorem dg_name (i : Nat) {x : Str} (hN : X.N.Nodup) (hi : X.N[i]? = some x := by rfl) (hx : Loc X.env.scope x := by first | exact Or.inl rfl | exact Or.inr rfl) (hf : X.fn x = true ∨ X.env.scope.names.lookup x = some .local := by first | exact .inl rfl | exact .inr rfl) : DG X W (.Name x pos) (iName i) :=
  (pg_name hN hi hx hf).imp fun v σ H Q ⟨w, S, Λ, iv, r0, s0, rv, p⟩ => p.now r0 _ (s0.set i rv)
theorem ds_set (i : Nat) {x : Str} (hN : X.N.Nodup) (he : DE X W e me) (hi : X.N[i]? = some x := by rfl) (hx : Loc X.env.scope x := by first | exact Or.inl rfl | exact Or.inr rfl) (hs : swapsWith e (some (.Name x pos')) pos.line X.env = pure false := by rfl)
    (hf : X.fn x = true ∨ X.env.scope.names.lookup x = some .local := by first | exact .inl rfl | exact .inr rfl) : DS X W (.Assign [.Name x pos'] e pos) (iSet i me) :=
  (ps_set hN hi hx he hs hf).imp fun D σ H ⟨w, S, Λ, r0, s0, p⟩ => ⟨w, S, Λ, r0, s0, p.bind.imp fun w1 H1 S1 ix l1 r1 p1 v1 rv1 => p1.now r1 _ ((s0.up l1).set i rv1)⟩
theorem ds_asg {tg : Expr} (he : DE X W e me) (hg : DG X W tg g) (hs : swapsWithSole [tg] e pos.line X.env = pure false := by rfl) (hw : swappedStores [tg] e X.env = pure none := by rfl)
    (h1 : (assignEach [tg] X.env).map (·.2) = [assign tg X.env] := by rfl) : DS X W (.Assign [tg] e pos) (iAsg me g) :=
  (ps_asg he hg hs hw h1).imp fun D σ H ⟨w, S, Λ, r0, s0, p⟩ => ⟨w, S, Λ, r0, s0, p.bind.imp fun w1 H1 S1 ix l1 r1 p1 v1 rv1 => ⟨w1, S1, Λ, ix, r1, s0.up l1, rv1, p1.bind.imp fun w2 H2 S2 L l2 r2 p2 => p2.now r2⟩⟩
def iAug (i : Nat) (f : IV → IV → Sto → Out IV) (m : IE) : IS := fun Λ S => (iVar i Λ S).bind fun x S0 => (m Λ S0).bind fun y S1 => (f x y S1).bind fun z S2 => .ok (.nx (Λ.set i (some z))) S2
abbrev IGs := List IV → Slots → Sto → Out Slots
def iGNil : IGs := fun xs Λ S => match xs with
  | [] => .ok Λ S
  | _ => .bad
def iGCons (g : IG) (r : IGs) : IGs := fun xs Λ S => match xs with
  | x :: xs => (g x Λ S).bind fun L S1 => r xs L S1
  | [] => .bad
def gsM (K : KX) (W : WX) (m : IGs) : TGs := fun vs σ H Q => ∃ w S Λ ivs, R K w S H ∧ SR K w σ Λ ∧ RelL K w vs ivs ∧ Post K W w (m ivs Λ S) fun w' H' _ L => ∀ σ', SR K w' σ' L → Q σ' H'
theorem _root_.L2.PGs.imp {X : Cx} {e : List Expr} {t t' : TGs} (h : PGs X e t) (f : ∀ v σ H Q, t' v σ H Q → t v σ H Q) : PGs X e t' := ⟨fun pins s σ H v u Q I r q => h.run pins s σ H v u Q I r (f v σ H Q q)⟩
abbrev DGs (X : Cx) (W : WZ) (e : List Expr) (m : IGs) : Prop := PGs X e (gsM (kx X W) W.x m)
theorem dgs_nil : DGs X W [] iGNil := pgs_nil.imp fun v σ H Q ⟨w, S, Λ, ivs, r0, s0, rv, p⟩ => by
  cases rv with
  | nil => exact ⟨rfl, Post.now (show Post (kx X W) W.x w (Out.ok Λ S) _ from p) r0 σ s0⟩
  | cons a b => exact p.elim
theorem dgs_cons {es : List Expr} {r : IGs} (h1 : DG X W e g) (h2 : DGs X W es r) (hs : (assignEach (e :: es) X.env).map (·.2) = assign e X.env :: (assignEach es X.env).map (·.2) := by rfl) : DGs X W (e :: es) (iGCons g r) :=
  (pgs_cons h1 h2 hs).imp fun v σ H Q ⟨w, S, Λ, ivs, r0, s0, rv, p⟩ => by
    cases rv with
    | nil => exact p.elim
    | cons a b =>
      have p : Post (kx X W) W.x w ((g _ Λ S).bind fun L S1 => r _ L S1) (fun w' H' _ L => ∀ σ', SR (kx X W) w' σ' L → Q σ' H') := p
      exact ⟨_, _, rfl, w, S, Λ, _, r0, s0, a, p.bind.imp fun w1 H1 S1 L l1 r1 p1 σ' s' => ⟨w1, S1, L, _, r1, s', b.up l1, p1⟩⟩
def iGTup (n : Nat) (gs : IGs) : IG := fun x Λ S => orBad (tupOf x) fun xs => chk (xs.length = n) (gs xs Λ S)
theorem dg_tup {es : List Expr} {k n : Nat} {gs : IGs} (hc : X.calm = true) (h : DGs X W es gs) (hn : (assignEach es X.env).length = n := by rfl) (hst : (assignEach es X.env).findIdx? (·.1) = none := by rfl) : DG X W (.Tuple es k pos) (iGTup n gs) :=
  (pg_tup hc h hn hst).imp fun v σ H Q ⟨w, S, Λ, iv, r0, s0, rv, p⟩ => by
    obtain ⟨ivs, h1, p⟩ := orBad_post p
    obtain ⟨h2, p⟩ := chk_post p
    obtain ⟨a, xs, e1, e2, e3⟩ := tupOf_sq h1 r0 rv
    exact ⟨a, xs, e1, e2, e3.length.trans h2, w, S, Λ, ivs, r0, s0, e3, p⟩
def iGSub (mo mi : IE) : IG := fun x Λ S => (mo Λ S).bind fun o S1 => (mi Λ S1).bind fun i S2 => asI i fun k => match o with
  | .adr n => (match S2[n]? with
    | some (.lst xs) => orBad (ixN xs.length k) fun j => .ok Λ (S2.set n (.lst (xs.set j x)))
    | _ => .bad)
  | _ => .bad
theorem dg_sub {o i : Expr} {mo mi : IE} (ho : DE X W o mo) (hi : DE X W i mi)
    (ha : ∀ v, assign (.Subscript o i pos) X.env v = (do
      let ov ← holding [v] (eval o X.env)
      let iv ← holding [v, ov] (eval i X.env)
      standAt pos
      holding [v, ov, iv] (setItem ov iv v)
      release [v, ov, iv] []) := by intro _; rfl) : DG X W (.Subscript o i pos) (iGSub mo mi) :=
  (pg_sub ho hi set_list ha).imp fun v σ H Q ⟨w, S, Λ, iv, r0, s0, rv, p⟩ => ⟨w, S, Λ, r0, s0, p.bind.imp fun w1 H1 S1 o1 l1 r1 p1 v1 rv1 => ⟨w1, S1, Λ, r1, s0.up l1, p1.bind.imp fun w2 H2 S2 i2 l2 r2 p2 v2 rv2 => by
    obtain ⟨k, rfl, rfl, q⟩ := asI_post p2 rv2
    have rv1 := rv1.up l2
    cases rv1 with
    | adr hrho =>
      rename_i n a
      cases hq : S2[n]? with
      | none => simp only [hq] at q; exact q.elim
      | some c =>
        simp only [hq] at q
        cases c with
        | lst xs =>
          obtain ⟨j, hj, q⟩ := orBad_post q
          obtain ⟨vs, h1, h2⟩ := r2.cell n _ a hq hrho
          have rw' : R (kx X W) w2 (S2.set n (.lst (xs.set j iv))) (upd H2 a (.lst (vs.set j v))) := r2.write hrho ⟨_, upd_same, h2.set (rv.up (l1.trans l2)) j⟩ (fun _ e => by rw [hq] at e; cases e)
          exact ⟨a, vs, k, j, rfl, rfl, h1, by rw [h2.length]; exact hj, q.now rw' σ (s0.up (l1.trans l2))⟩
        | _ => exact q.elim
    | _ => exact q.elim⟩⟩
end
structure Src where
  items : List IV
  keep : Option Nat
def Src.stay (s : Src) (S : Sto) : Prop := match s.keep with
  | none => True
  | some n => S[n]? = some (.lst s.items)
open Classical in
noncomputable def chkP {α : Type} (p : Prop) (o : Out α) : Out α := if p then o else .bad
theorem chkP_pos {α : Type} {p : Prop} {o : Out α} (h : p) : chkP p o = o := if_pos h
theorem chkP_neg {α : Type} {p : Prop} {o : Out α} (h : ¬ p) : chkP p o = .bad := if_neg h
theorem chkP_post {α : Type} {K : KX} {W : WX} {w : Wd} {p : Prop} {o : Out α} {P : Wd → Hp → Sto → α → Prop} (h : Post K W w (chkP p o) P) : p ∧ Post K W w o P := by
  by_cases hp : p
  · rw [chkP_pos hp] at h; exact ⟨hp, h⟩
  · rw [chkP_neg hp] at h; exact h.elim
structure ItR (K : KX) (w0 : Wd) (J : It) (s : Src) : Prop where
  go : ∀ (w : Wd) (S : Sto) (H : Hp) (i : Nat), w0.lz w → R K w S H → s.stay S → i < s.items.length → J.go i H
  stop : ∀ (w : Wd) (S : Sto) (H : Hp) (i : Nat), w0.lz w → R K w S H → s.stay S → s.items.length ≤ i → J.stop i H
  yld : ∀ (w : Wd) (S : Sto) (H : Hp) (i : Nat) (iv : IV) (x : V) (H' : Hp), w0.lz w → R K w S H → s.stay S → s.items[i]? = some iv → J.yld i H x H' → ∃ w', w.le w' ∧ R K w' S H' ∧ Rel K w' x iv
abbrev IW := Slots → Sto → Out Src
def wM (K : KX) (W : WX) (m : IW) : TI := fun σ H Rr => ∃ w S Λ, R K w S H ∧ SR K w σ Λ ∧ Post K W w (m Λ S) fun w' H' S' s => ∀ J, ItR K w' J s → Rr J H'
abbrev DI (X : Cx) (W : WZ) (tg e : Expr) (m : IW) : Prop := PI X tg e (wM (kx X W) W.x m)
theorem _root_.L2.PI.imp {X : Cx} {tg e : Expr} {t t' : TI} (h : PI X tg e t) (f : ∀ σ H Q, t' σ H Q → t σ H Q) : PI X tg e t' := ⟨fun pins s σ H Q I q => h.run pins s σ H Q I (f σ H Q q)⟩
def fSrcL (x : IV) (S : Sto) : Out Src := match x with
  | .adr n => (match S[n]? with
    | some (.lst xs) => .ok ⟨xs, some n⟩ S
    | _ => .bad)
  | x => orBad (lstOf S x) fun xs => .ok ⟨xs, none⟩ S
def iSrcL (m : IE) : IW := fun Λ S => (m Λ S).bind fun x S1 => fSrcL x S1
theorem fSrcL_cases {K : KX} {W : WX} {w : Wd} {S : Sto} {H : Hp} {x : V} {ix : IV} {P : Wd → Hp → Sto → Src → Prop} (h : Post K W w (fSrcL ix S) P) (r : R K w S H) (rx : Rel K w x ix) :
    ∃ a s, x = .ref a ∧ (∃ xs, SqL K.k H a xs) ∧ Post K W w (.ok s S) P ∧ ItR K w (Itl K.k a) s := by
  have mk : ∀ {a : Addr} {s : Src}, (∀ w' S' H', w.lr w' → R K w' S' H' → s.stay S' → ∃ xs, SqL K.k H' a xs ∧ RelL K w' xs s.items) → ItR K w (Itl K.k a) s := fun {a s} f => by
    refine ⟨fun w' S' H' i l r' st hi => ?_, fun w' S' H' i l r' st hi => ?_, fun w' S' H' i iv x H2 l r' st hi hy => ?_⟩
    · obtain ⟨xs, h1, h2⟩ := f w' S' H' l.1 r' st
      obtain ⟨v, h3, _⟩ := h2.get (List.getElem?_eq_getElem hi)
      exact ⟨xs, v, h1, h3⟩
    · obtain ⟨xs, h1, h2⟩ := f w' S' H' l.1 r' st
      exact ⟨xs, h1, by rw [h2.length]; exact hi⟩
    · obtain ⟨xs, h1, h2⟩ := f w' S' H' l.1 r' st
      obtain ⟨e1, e2⟩ := hy
      subst e1
      obtain ⟨v, h3, h4⟩ := h2.get hi
      have := (e2 xs h1).symm.trans h3
      cases this
      exact ⟨w', Wd.le.refl _, r', h4⟩
  unfold fSrcL at h
  split at h
  · cases rx with
    | adr hrho =>
      split at h
      · rename_i n xs hq
        rename_i a _ _
        obtain ⟨vs, h1, h2⟩ := r.cell _ _ _ hq hrho
        refine ⟨_, _, rfl, ⟨vs, .of h1⟩, h, mk fun w' S' H' l r' st => ?_⟩
        obtain ⟨us, h3, h4⟩ := r'.cell _ _ _ (show S'[_]? = some (.lst xs) from st) (l.get hrho)
        exact ⟨us, .of h3, h4⟩
      · exact h.elim
  · rename_i hn
    obtain ⟨xs, e, h⟩ := orBad_post h
    cases ix with
    | lst ys =>
      cases e
      cases rx with
      | lst h1 h2 => exact ⟨_, _, rfl, ⟨_, .of (r.F _ _ h1)⟩, h, mk fun w' S' H' l r' st => ⟨_, .of (r'.F _ _ (l.F _ _ h1)), RelL.mono l _ _ h2⟩⟩
    | wls ys =>
      cases e
      cases rx with
      | wls h1 h2 => exact ⟨_, _, rfl, ⟨_, r.F.seq h1⟩, h, mk fun w' S' H' l r' st => ⟨_, r'.F.seq (l.F.seq h1), RelL.mono l _ _ h2⟩⟩
    | adr n => exact absurd rfl (hn n)
    | _ => cases e
def rangeI (lo : Int) (n : Nat) : List IV := (List.range n).map fun (i : Nat) => .int (lo + i)
theorem itR_range {K : KX} {w : Wd} {lo : Int} {n : Nat} : ItR K w (Itr lo n) ⟨rangeI lo n, none⟩ := by
  refine ⟨fun w' S' H' i l r' st hi => ?_, fun w' S' H' i l r' st hi => ?_, fun w' S' H' i iv x H2 l r' st hi hy => ?_⟩
  · show i < n
    simpa [rangeI] using hi
  · show n ≤ i
    simpa [rangeI] using hi
  · obtain ⟨e1, e2⟩ := hy
    subst e1 e2
    refine ⟨w', Wd.le.refl _, r', ?_⟩
    have hi : (rangeI lo n)[i]? = some iv := hi
    unfold rangeI at hi
    rw [List.getElem?_map] at hi
    obtain ⟨j, h1, h2⟩ := Option.map_eq_some_iff.mp hi
    obtain ⟨hj, h3⟩ := List.getElem?_eq_some_iff.mp h1
    rw [List.getElem_range] at h3
    subst h3 h2
    exact .int _
instance (j : Int) : Decidable (-(2 ^ 62) ≤ j ∧ j < 2 ^ 62) := by infer_instance
def iSrcR1 (m : IE) : IW := fun Λ S => (m Λ S).bind fun x S1 => asI x fun j => chk (-(2 ^ 62) ≤ j ∧ j < 2 ^ 62) (.ok ⟨rangeI 0 j.toNat, none⟩ S1)
def iSrcR2 (m m' : IE) : IW := fun Λ S => (m Λ S).bind fun x S1 => (m' Λ S1).bind fun y S2 => asI x fun i => asI y fun j => chk (-(2 ^ 62) ≤ i ∧ i < 2 ^ 62 ∧ -(2 ^ 62) ≤ j ∧ j < 2 ^ 62) (.ok ⟨rangeI i (j - i).toNat, none⟩ S2)
def iSrcS (m : IE) : IW := fun Λ S => (m Λ S).bind fun x S1 => asS x fun z => .ok ⟨z.cps.toList.map fun c => .str ⟨#[c]⟩, none⟩ S1
section
variable {X : Cx} {W : WZ} {tg e e' : Expr} {m m' : IE} {p pos : Pos}
theorem di_list (h : DE X W e m) : DI X W tg e (iSrcL m) := (pi_list h).imp fun σ H Q ⟨w, S, Λ, r0, s0, p⟩ => ⟨w, S, Λ, r0, s0, p.bind.imp fun w1 H1 S1 ix l1 r1 p1 v1 rv1 => by
  obtain ⟨a, s, h1, h2, h3, h4⟩ := fSrcL_cases p1 r1 rv1
  exact ⟨a, h1, h2, h3.now r1 _ h4⟩⟩
theorem di_range1 (hm : X.mg "range" = none) (ha : DA X W [e] (iCons m iNil)) (hg : Gl X "range" := by rfl) (hs : starEach [e] X.env = [(false, eval e X.env)] := by rfl) : DI X W tg (.Call (.Name "range" p) [e] [] pos) (iSrcR1 m) :=
  (pi_range1 hg hm ha hs).imp fun σ H Q ⟨w, S, Λ, r0, s0, p⟩ => ⟨w, S, Λ, r0, s0, by
    unfold iCons iNil
    cases h : m Λ S with
    | ok x S1 =>
      unfold iSrcR1 at p
      rw [h] at p
      intro w1 H1 l1 r1 vs rv
      cases rv with
      | cons a b =>
        cases b
        obtain ⟨j, rfl, rfl, q⟩ := asI_post (p.up l1) a
        obtain ⟨hj, q⟩ := chk_post q
        exact ⟨j, rfl, hj.1, hj.2, q.now r1 _ itR_range⟩
    | exc C n L S1 => unfold iSrcR1 at p; rw [h] at p; exact p
    | bad => unfold iSrcR1 at p; rw [h] at p; exact p⟩
end
noncomputable def iIter (s : Src) (g : IG) (b : IS) : List IV → Slots → Sto → Out Fl
  | [], Λ, S => chkP (s.stay S) (.ok (.nx Λ) S)
  | x :: xs, Λ, S => chkP (s.stay S) ((g x Λ S).bind fun Λ1 S1 => (b Λ1 S1).bind fun fl S2 => match fl with
    | .nx L => iIter s g b xs L S2
    | .ct L => iIter s g b xs L S2
    | .bk L => .ok (.nx L) S2
    | .rt v => .ok (.rt v) S2)
noncomputable def iFor (ms : IW) (g : IG) (b : IS) : IS := fun Λ S => (ms Λ S).bind fun s S1 => iIter s g b s.items Λ S1
theorem for_loop {K : KX} {W : WX} {g : IG} {b : IS} {D : Ends} {σ : L2.St} {H1 : Hp} {J : It} {s : Src} {w1 : Wd} {S1 : Sto} {Λ : Slots} (hJ : ItR K w1 J s) (r1 : R K w1 S1 H1) (s0 : SR K w1 σ Λ) (p1 : Post K W w1 (iIter s g b s.items Λ S1) fun w' H' _ fl => FlP K w' D H' fl) : tFor (fun _ H Rr => Rr J H) (gM K W g) (sM K W b) D σ H1 := by
  refine ⟨fun i m σ H => m = s.items.length - i ∧ i ≤ s.items.length ∧ ∃ w2 S2 L, w1.le w2 ∧ R K w2 S2 H ∧ SR K w2 σ L ∧ Post K W w2 (iIter s g b (s.items.drop i) L S2) fun w' H' _ fl => FlP K w' D H' fl,
    ⟨s.items.length, by simp, Nat.zero_le _, w1, S1, Λ, Wd.le.refl _, r1, s0, by rw [List.drop_zero]; exact p1⟩, ?_⟩
  rintro i m σ2 H2 ⟨rfl, hi, w2, S2, L, l2, r2, s2, p2⟩
  by_cases hlt : i < s.items.length
  · rw [List.drop_eq_getElem_cons hlt] at p2
    obtain ⟨st, p2⟩ := chkP_post (show Post K W w2 (chkP (s.stay S2) _) _ from p2)
    refine .inr ⟨hJ.go w2 S2 H2 i l2.lz r2 st hlt, fun σ' H' => i + 1 ≤ s.items.length ∧ ∃ w3 S3 L3, w1.le w3 ∧ R K w3 S3 H' ∧ SR K w3 σ' L3 ∧ Post K W w3 (iIter s g b (s.items.drop (i + 1)) L3 S3) fun w' H' _ fl => FlP K w' D H' fl,
      fun σ' H' h' => ⟨s.items.length - (i + 1), by omega, rfl, h'.1, h'.2⟩, fun x H' y => ?_⟩
    obtain ⟨w3, l3, r3, rv⟩ := hJ.yld w2 S2 H2 i _ x H' l2.lz r2 st (List.getElem?_eq_getElem hlt) y
    refine ⟨w3, S2, L, _, r3, s2.up l3, rv, (p2.up l3).bind.imp fun w4 H4 S4 L4 l4 r4 p4 σ4 s4 => ⟨w4, S4, L4, r4, s4, p4.bind.imp fun w5 H5 S5 fl l5 r5 p5 => ?_⟩⟩
    have lA := l2.trans (l3.trans (l4.trans l5))
    cases fl with
    | nx L5 => exact fun σ5 s5 => ⟨hlt, w5, S5, L5, lA, r5, s5, p5⟩
    | ct L5 => exact fun σ5 s5 => ⟨hlt, w5, S5, L5, lA, r5, s5, p5⟩
    | bk L5 => exact Post.now (show Post K W w5 (Out.ok (Fl.nx L5) S5) (fun w' H' _ fl => FlP K w' D H' fl) from p5) r5
    | rt v => exact Post.now (show Post K W w5 (Out.ok (Fl.rt v) S5) (fun w' H' _ fl => FlP K w' D H' fl) from p5) r5
  · have e : i = s.items.length := by omega
    subst e
    rw [List.drop_length] at p2
    obtain ⟨st, p2⟩ := chkP_post (show Post K W w2 (chkP (s.stay S2) _) _ from p2)
    exact .inl ⟨hJ.stop w2 S2 H2 _ l2.lz r2 st (Nat.le_refl _), p2.now r2 σ2 s2⟩
theorem for_M {K : KX} {W : WX} {ms : IW} {g : IG} {b : IS} {D : Ends} {σ : L2.St} {H : Hp} (h : sM K W (iFor ms g b) D σ H) : tFor (wM K W ms) (gM K W g) (sM K W b) D σ H := by
  obtain ⟨w, S, Λ, r0, s0, p⟩ := h
  exact ⟨w, S, Λ, r0, s0, p.bind.imp fun w1 H1 S1 s l1 r1 p1 J hJ => for_loop hJ r1 (s0.up l1) p1⟩
section
variable {X : Cx} {W : WZ} {pos : Pos} {tg iter : Expr} {body : List Stmt} {ms : IW} {g : IG} {b : IS}
theorem ds_for (hp : PassesOwn (model X.prog X.w) X.A X.env X.xe) (hc : X.calm = true) (hi : DI X W tg iter ms) (hg : DG X W tg g) (hb : DSs X W body b) (hs : ∀ x, foldedSetIterable iter X.env x = pure x := by intro _; rfl) : DS X W (.For tg iter body [] pos) (iFor ms g b) :=
  (ps_for hp hc hi hg hb hs).imp fun D σ H h => for_M h
end
def W0 : WX := fun _ _ _ _ => False
def noX {α : Type} : Out α → Out α
  | .exc _ _ _ _ => .bad
  | o => o
@[simp] theorem noX_ok {α : Type} (a : α) (S : Sto) : noX (.ok a S) = .ok a S := rfl
@[simp] theorem noX_bad {α : Type} : noX (.bad : Out α) = .bad := rfl
def wipeI (Λ : Slots) : List Nat → Slots
  | [] => Λ
  | v :: vs => (wipeI Λ vs).set v none
theorem sr_wipe {K : KX} {w : Wd} {σ : L2.St} {Λ : Slots} (s : SR K w σ Λ) (hx : K.ex = none) : ∀ vs : List Nat, SR K w (wipe σ vs) (wipeI Λ vs)
  | [] => s
  | v :: vs => (sr_wipe s hx vs).setN v none (by rw [hx]; rfl)
theorem wipe_get {σ : L2.St} {j : Nat} : ∀ {vs : List Nat}, (wipe σ vs)[j]? = if j ∈ vs then σ[j]?.map (fun _ => none) else σ[j]?
  | [] => by simp [wipe]
  | v :: vs => by
    unfold wipe
    by_cases h : v = j
    · subst h
      rw [if_pos List.mem_cons_self]
      by_cases hl : v < (wipe σ vs).length
      · rw [List.getElem?_set_self hl]
        rw [wipe_length] at hl
        rw [List.getElem?_eq_getElem hl]
        rfl
      · have hl' := hl
        rw [wipe_length] at hl'
        rw [List.getElem?_eq_none (by rw [List.length_set]; omega), List.getElem?_eq_none (by omega)]
        rfl
    · rw [List.getElem?_set_ne h, wipe_get (vs := vs)]
      have : (j ∈ v :: vs) ↔ j ∈ vs := by
        rw [List.mem_cons]
        exact ⟨fun z => z.elim (fun e => absurd e.symm h) id, .inr⟩
      by_cases hj : j ∈ vs
      · rw [if_pos hj, if_pos (this.mpr hj)]
      · rw [if_neg hj, if_neg fun z => hj (this.mp z)]
theorem wipe_set {σ : L2.St} {i : Nat} {u : Option V} {vs : List Nat} (h : i ∈ vs) : wipe (σ.set i u) vs = wipe σ vs := by
  refine List.ext_getElem? fun j => ?_
  rw [wipe_get, wipe_get]
  by_cases hj : j ∈ vs
  · rw [if_pos hj, if_pos hj]
    by_cases e : i = j
    · subst e
      by_cases hl : i < σ.length
      · rw [List.getElem?_set_self hl, List.getElem?_eq_getElem hl]; rfl
      · rw [List.getElem?_eq_none (by rw [List.length_set]; omega), List.getElem?_eq_none (by omega)]
    · rw [List.getElem?_set_ne e]
  · rw [if_neg hj, if_neg hj]
    have e : i ≠ j := fun e => hj (e ▸ h)
    rw [List.getElem?_set_ne e]
theorem wipe_wipe {σ : L2.St} : ∀ {vs ws : List Nat}, (∀ v ∈ ws, v ∈ vs) → wipe (wipe σ ws) vs = wipe σ vs
  | vs, [], _ => rfl
  | vs, w :: ws, h => by
    show wipe ((wipe σ ws).set w none) vs = wipe σ vs
    rw [wipe_set (h w List.mem_cons_self), wipe_wipe fun v hv => h v (List.mem_cons_of_mem _ hv)]
structure GC (K : KX) (vs : List Nat) (g : TG) (gi : IV → Slots → Option Slots) : Prop where
  run : ∀ (w : Wd) (S : Sto) (H : Hp) (σ : L2.St) (Λ : Slots) (x : V) (ix : IV) (L : Slots) (Q : L2.St → Hp → Prop), R K w S H → SR K w σ Λ → Rel K w x ix → gi ix Λ = some L → (∀ σ', SR K w σ' L → wipe σ' vs = wipe σ vs → Q σ' H) → g x σ H Q
def giN (j : Nat) (x : IV) (Λ : Slots) : Option Slots := some (Λ.set j (some x))
theorem gc_name {K : KX} {vs : List Nat} {j : Nat} (h : j ∈ vs) : GC K vs (gName j) (giN j) :=
  ⟨fun w S H σ Λ x ix L Q r s rx e k => by
    cases e
    exact k _ (s.set j rx) (wipe_set h)⟩
noncomputable def iLcGo (s : Src) (gi : IV → Slots → Option Slots) (tt : IT) (te : IE) : List IV → Slots → Sto → List IV → Out (List IV)
  | [], _, S, acc => chkP (s.stay S) (.ok acc S)
  | x :: xs, Λ, S, acc => chkP (s.stay S) (orBad (gi x Λ) fun L => (noX (tt L S)).bind fun b S1 => if b = true then (noX (te L S1)).bind fun y S2 => chk (acc.length < sizeLine) (iLcGo s gi tt te xs Λ S2 (acc ++ [y])) else iLcGo s gi tt te xs Λ S1 acc)
noncomputable def iLc (cell : Bool) (ms : IW) (gi : IV → Slots → Option Slots) (tt : IT) (te : IE) (vs : List Nat) : IE := fun Λ S => (ms Λ S).bind fun s S1 => (iLcGo s gi tt te s.items (wipeI Λ vs) S1 []).bind fun acc S2 => mkL cell acc S2
def iYes : IT := fun _ S => .ok true S
abbrev DTs (X : Cx) (W : WZ) (e : List Expr) (m : IT) : Prop := PTs X e (tM (kx X W) W.x m)
theorem noX_post {α : Type} {K : KX} {w w' : Wd} {o : Out α} {P : Wd → Hp → Sto → α → Prop} (h : ∀ a S, noX o = .ok a S → ∀ w2 H2, w.le w2 → R K w2 S H2 → P w2 H2 S a) (hb : noX o ≠ .bad) : Post K W0 w o P := by
  cases o with
  | ok a S => exact h a S rfl
  | exc C n L S => exact absurd rfl hb
  | bad => exact absurd rfl hb
theorem lc_M {K : KX} {W : WX} {cell : Bool} {ms : IW} {g : TG} {gi : IV → Slots → Option Slots} {tt : IT} {te : IE} {vs : List Nat} {σ : L2.St} {H : Hp} {Q : VK} (hg : GC K vs g gi) (hx : K.ex = none) (h : eM K W (iLc cell ms gi tt te vs) σ H Q) :
    tLc (wM K W ms) g (tM K W0 tt) (eM K W0 te) vs σ H Q := by
  obtain ⟨w, S, Λ, r0, s0, p⟩ := h
  refine ⟨w, S, Λ, r0, s0, p.bind.imp fun w1 H1 S1 s l1 r1 p1 J hJ => ?_⟩
  intro D hD
  have hG : w1.G D = none := by
    cases q : w1.G D with
    | none => rfl
    | some u => rw [r1.G _ _ q] at hD; cases hD
  have s1 := sr_wipe (s0.up l1) hx vs
  -- the word at turn i: the new list at D is a ghost
  let Z : Nat → Hp → Prop := fun i H => i ≤ s.items.length ∧ ∃ (rho : List Addr) (F : Hp) (S2 : Sto) (xs : List V) (acc : List IV), w1.le ⟨rho, F, w1.G⟩ ∧ R K ⟨rho, F, upd w1.G D (.lst xs)⟩ S2 H ∧ RelL K ⟨rho, F, w1.G⟩ xs acc ∧
    Post K W ⟨rho, F, w1.G⟩ ((iLcGo s gi tt te (s.items.drop i) (wipeI Λ vs) S2 acc).bind fun acc S2 => mkL cell acc S2) fun w' H' _ iv => ∀ v, Rel K w' v iv → Q v H'
  refine ⟨fun i m H => m = s.items.length - i ∧ Z i H, ⟨s.items.length, by simp, Nat.zero_le _, w1.rho, w1.F, S1, [], [], Wd.le.refl w1, r1.ghost hD, .nil, by rw [List.drop_zero]; exact p1⟩, ?_⟩
  rintro i m H2 ⟨rfl, hi, rho, F, S2, xs, acc, l2, r2, rl, p2⟩
  have l2' : w1.lr ⟨rho, F, upd w1.G D (.lst xs)⟩ := ⟨l2.rho, l2.F⟩
  have l2z : w1.lz ⟨rho, F, upd w1.G D (.lst xs)⟩ := ⟨l2', fun a u v e => by
    show upd w1.G D (.lst xs) a = some (.frz u v)
    rw [upd_ne (ne_of_none e hG)]; exact e⟩
  by_cases hlt : i < s.items.length
  · rw [List.drop_eq_getElem_cons hlt] at p2
    have st : s.stay S2 := by
      by_cases hs : s.stay S2
      · exact hs
      · exact (show Post K W ⟨rho, F, w1.G⟩ ((chkP (s.stay S2) _).bind _) _ from p2) |> fun z => by rw [chkP_neg hs] at z; exact z.elim
    have p2 : Post K W ⟨rho, F, w1.G⟩ ((orBad (gi s.items[i] (wipeI Λ vs)) fun L => (noX (tt L S2)).bind fun b S1 => if b = true then (noX (te L S1)).bind fun y S2 => chk (acc.length < sizeLine) (iLcGo s gi tt te (s.items.drop (i + 1)) (wipeI Λ vs) S2 (acc ++ [y])) else iLcGo s gi tt te (s.items.drop (i + 1)) (wipeI Λ vs) S1 acc).bind fun acc S2 => mkL cell acc S2) (fun w' H' _ iv => ∀ v, Rel K w' v iv → Q v H') := by
      have z := (show Post K W ⟨rho, F, w1.G⟩ ((chkP (s.stay S2) _).bind _) _ from p2)
      rw [chkP_pos st] at z
      exact z
    refine .inr ⟨hJ.go _ S2 H2 i l2z r2 st hlt, Z (i + 1), fun H' z => ⟨s.items.length - (i + 1), by omega, rfl, z⟩, fun x H' y => ?_⟩
    obtain ⟨⟨rho3, F3, G3⟩, l3, r3, rv⟩ := hJ.yld _ S2 H2 i _ x H' l2z r2 st (List.getElem?_eq_getElem hlt) y
    have hG3 : G3 = upd w1.G D (.lst xs) := l3.G
    subst hG3
    have l23 : w1.le ⟨rho3, F3, w1.G⟩ := ⟨⟨(l2'.trans l3.1).rho, (l2'.trans l3.1).F⟩, rfl⟩
    have lp3 : Wd.le ⟨rho, F, w1.G⟩ ⟨rho3, F3, w1.G⟩ := ⟨⟨l3.rho, l3.F⟩, rfl⟩
    cases hgi : gi s.items[i] (wipeI Λ vs) with
    | none => rw [hgi] at p2; exact p2.elim
    | some L =>
      rw [hgi, orBad_some] at p2
      have sw : SR K ⟨rho3, F3, upd w1.G D (.lst xs)⟩ (wipe σ vs) (wipeI Λ vs) := s1.mono (l2'.trans l3.1)
      refine hg.run _ S2 H' _ _ x _ L _ r3 sw rv hgi fun σ' s' hw => ⟨by rw [hw, wipe_wipe fun _ hv => hv], ?_⟩
      refine ⟨_, S2, L, r3, s', noX_post (w' := ⟨rho, F, w1.G⟩) (fun b S3 e3 w4 H4 l4 r4 => ?_) fun hb => ?_⟩
      · rw [e3, Out.bind_ok] at p2
        obtain ⟨rho4, F4, G4⟩ := w4
        have hG4 : G4 = upd w1.G D (.lst xs) := l4.G
        subst hG4
        have lp4 : Wd.le ⟨rho, F, w1.G⟩ ⟨rho4, F4, w1.G⟩ := lp3.trans ⟨⟨l4.rho, l4.F⟩, rfl⟩
        cases b with
        | true =>
          rw [if_pos rfl] at p2 ⊢
          refine ⟨_, S3, L, r4, s'.up l4, noX_post (w' := ⟨rho, F, w1.G⟩) (fun y S5 e5 w5 H5 l5 r5 v5 rv5 => ?_) fun hb => ?_⟩
          · rw [e5, Out.bind_ok] at p2
            obtain ⟨rho5, F5, G5⟩ := w5
            have hG5 : G5 = upd w1.G D (.lst xs) := l5.G
            subst hG5
            have lp5 : Wd.le ⟨rho, F, w1.G⟩ ⟨rho5, F5, w1.G⟩ := lp4.trans ⟨⟨l5.rho, l5.F⟩, rfl⟩
            have hz : acc.length < sizeLine := by
              by_cases hz : acc.length < sizeLine
              · exact hz
              · rw [chk_neg hz] at p2; exact p2.elim
            rw [chk_pos hz] at p2
            refine ⟨xs, r5.G D _ upd_same, by rw [rl.length]; exact hz, hlt, rho5, F5, S5, xs ++ [v5], acc ++ [y], l2.trans lp5, R.ghostW (fun _ _ z => by cases z) r5, (rl.up lp5).append (.one (Rel.mono (w := ⟨rho5, F5, upd w1.G D (.lst xs)⟩) (w' := ⟨rho5, F5, w1.G⟩) ⟨⟨[], by simp⟩, Same.refl _⟩ _ _ rv5)), p2.up lp5⟩
          · rw [hb] at p2; exact p2.elim
        | false =>
          rw [if_neg Bool.false_ne_true] at p2 ⊢
          exact ⟨hlt, rho4, F4, S3, xs, acc, l2.trans lp4, r4, rl.up lp4, p2.up lp4⟩
      · rw [hb] at p2; exact p2.elim
  · have e : i = s.items.length := by omega
    subst e
    rw [List.drop_length] at p2
    have st : s.stay S2 := by
      by_cases hs : s.stay S2
      · exact hs
      · exact (show Post K W ⟨rho, F, w1.G⟩ ((chkP (s.stay S2) _).bind _) _ from p2) |> fun z => by rw [chkP_neg hs] at z; exact z.elim
    have p2 : Post K W ⟨rho, F, w1.G⟩ (mkL cell acc S2) (fun w' H' _ iv => ∀ v, Rel K w' v iv → Q v H') := by
      have z := (show Post K W ⟨rho, F, w1.G⟩ ((chkP (s.stay S2) _).bind _) _ from p2)
      rw [chkP_pos st] at z
      exact z
    refine .inl ⟨hJ.stop _ S2 H2 _ l2z r2 st (Nat.le_refl _), ?_⟩
    have hF : F D = none := r2.dis D _ upd_same
    cases cell with
    | true =>
      obtain ⟨h1, q⟩ := chk_post (show Post K W ⟨rho, F, w1.G⟩ (mkC acc S2) _ from p2)
      have r5 := R.ghostC (c := .lst acc) (fun _ _ z => by cases z) r2 hG fun w' l' => ⟨xs, r2.G D _ upd_same, RelL.mono (w := ⟨rho, F, w1.G⟩) ⟨l'.rho, l'.F⟩ _ _ rl⟩
      refine q ⟨rho ++ [D], F, w1.G⟩ H2 ⟨⟨⟨[D], rfl⟩, Same.refl _⟩, rfl⟩ r5 _ (.adr ?_)
      show (rho ++ [D])[S2.length]? = some D
      have hlen : rho.length = S2.length := r2.len
      rw [← hlen, List.getElem?_append_right (Nat.le_refl _), Nat.sub_self]
      rfl
    | false =>
      obtain ⟨h1, q⟩ := chk_post (show Post K W ⟨rho, F, w1.G⟩ (mkF acc S2) _ from p2)
      have lf : Wd.le ⟨rho, F, w1.G⟩ ⟨rho, upd F D (.lst xs), w1.G⟩ := ⟨⟨⟨[], by simp⟩, fun b u e => by
        show upd F D (.lst xs) b = some u
        rw [upd_ne (ne_of_none e hF)]; exact e⟩, rfl⟩
      exact q ⟨rho, upd F D (.lst xs), w1.G⟩ H2 lf (R.ghostF (fun _ _ z => by cases z) r2 hG) _ (.lst upd_same (rl.up lf))
section
variable {X : Cx} {W : WZ} {pos spos : Pos} {elt tg iter : Expr} {ifs : List Expr} {scope : Scope} {own : List (Str × Nat)} {ms : IW} {g : TG} {gi : IV → Slots → Option Slots} {tt : IT} {te : IE}
theorem dts_one {c : Expr} {t : IT} (h : DT X W c t) : DTs X W [c] t := pts_one h
theorem de_lc (cell : Bool) (hc : X.calm = true) (hN : X.N.Nodup) (hi : DI X W tg iter ms) (ok : BlkOk X.N X.env.scope scope own)
    (hg : ∀ (s : Shared) (H : Hp) (C : Addr) (cl : List (Str × Addr)) (fp : List Addr), PG (X.blk s H scope (compEnvC scope cl C X.env) fp) tg g) (hgc : GC (kx X W) (own.map (·.2)) g gi) (ht : ∀ (s : Shared) (H : Hp) (C : Addr) (cl : List (Str × Addr)) (fp : List Addr), DTs (X.blk s H scope (compEnvC scope cl C X.env) fp) ⟨W0, W.ex⟩ ifs tt)
    (he : ∀ (s : Shared) (H : Hp) (C : Addr) (cl : List (Str × Addr)) (fp : List Addr), DE (X.blk s H scope (compEnvC scope cl C X.env) fp) ⟨W0, W.ex⟩ elt te) (hs : ∀ x, foldedSetIterable iter X.env x = pure x := by intro _; rfl) (hx : W.ex = none := by rfl) :
    DE X W (.ListComp elt [⟨tg, iter, ifs, 0⟩] scope pos) (iLc cell ms gi tt te (own.map (·.2))) :=
  (pe_lc hc hN hi ok hg ht he hs).imp fun σ H Q h => lc_M hgc hx h
end
section
variable {P : Program} {w : World} {K : PySem.W.Frag} {mg : Str → Option Value} {base : Heap}
abbrev DX (P : Program) (w : World) (K : PySem.W.Frag) (mg : Str → Option Value) (base : Heap) (N : List Str) (qual : Str) (sc : Scope) (f : Addr) (cdv : Value) (A : Around) (outer : List Env) (s : Shared) (H : Hp) (E : XK) : Cx :=
  cxOf (CX P w) P w K mg base N qual sc f cdv A outer s H E
abbrev WEx (E : XK) : WX := fun c d _ H => E c d H
theorem start_sr {K : KX} {w : Wd} {N : List Str} {vs : List V} {ivs : List IV} (r : RelL K w vs ivs) (hx : K.ex = none) : SR K w (L2.start N vs) (ivs.map some ++ List.replicate (N.length - ivs.length) none) := by
  unfold L2.start
  rw [r.length]
  refine ⟨by simp [r.length], fun i iv e => ?_, fun i n a d e _ => by rw [hx] at e; cases e⟩
  by_cases hi : i < ivs.length
  · rw [List.getElem?_append_left (by simpa using hi), List.getElem?_map] at e
    obtain ⟨jv, e1, e2⟩ := Option.map_eq_some_iff.mp e
    cases e2
    obtain ⟨v, h1, h2⟩ := r.get e1
    exact ⟨v, by rw [List.getElem?_append_left (by rw [List.length_map, r.length]; exact hi), List.getElem?_map, h1]; rfl, h2⟩
  · rw [List.getElem?_append_right (by simpa using Nat.le_of_not_lt hi)] at e
    obtain ⟨h1, h2⟩ := List.getElem?_eq_some_iff.mp e
    rw [List.getElem_replicate] at h2
    cases h2
theorem ok_def {x qual : Str} {st : Stmt} {f : Addr} {fd : FuncData} {N ps : List Str} {k : Nat} {body : IS} (F : Fun K x qual st f fd) (Sc : FnScope N ps (defScope st))
    (hb : ∀ (cdv : Value) (A : Around) (outer : List Env) (s : Shared) (H : Hp) (E : XK), RmG k (A.deeper (envOfC qual (defScope st) s.heap.objs.size f cdv)) →
      Takes (DX P w K mg base N qual (defScope st) f cdv A outer s H E) (WEx E) → PassesOwn (model P w) (DX P w K mg base N qual (defScope st) f cdv A outer s H E).A (DX P w K mg base N qual (defScope st) f cdv A outer s H E).env (DX P w K mg base N qual (defScope st) f cdv A outer s H E).xe →
      DSs (DX P w K mg base N qual (defScope st) f cdv A outer s H E) ⟨WEx E, none⟩ (defBody st) body) : FnG P w K mg base (CX P w) (k + 1) f fd ps (spM K mg ps.length (mDef N.length body)) := by
  refine okG F Sc (fun vs H Q E h => h.1) fun cdv A outer s H vs Q E hr h => ?_
  obtain ⟨hl, w0, S, ivs, r0, rl, p⟩ := h
  refine ⟨_, hb cdv A outer s H E hr (takes_of rfl rfl rfl rfl) (passes_of rfl), w0, S, _, r0, start_sr rl rfl, ?_⟩
  unfold mDef at p
  cases e : body (ivs.map some ++ List.replicate (N.length - ivs.length) none) S with
  | ok fl S' =>
    simp only [e] at p
    intro w' H' l r
    cases fl with
    | nx L => exact fun σ' s' => p w' H' l r _ .non
    | rt iv => exact p w' H' l r
    | bk L => exact p.elim
    | ct L => exact p.elim
  | exc C n L S' =>
    simp only [e] at p
    exact fun w' H' a σ' l r s' ea => p w' H' a [] l r sr_nil ea
  | bad =>
    simp only [e] at p
    exact p
end
section
variable {X : Cx} {W : WZ} {p pos : Pos} {e : Expr} {es : List Expr} {ma : IA} {x : Str} {id T : String} {r : List V → Hp → VK → Prop} {f : List IV → Sto → Out IV}
theorem de_cb (hc : CallR X (.builtin id) r) (hs : CaS (kx X W) W.x r f) (hm : X.mg x = none) (hv : bootBuiltins x = some (.builtin id)) (ha : DA X W (e :: es) ma) (hg : Gl X x := by rfl) (hn : x ≠ "__name__" := by decide) (hdb : (x == ("__debug__" : Str)) = false := by decide)
    (he : starEach (e :: es) X.env = (false, eval e X.env) :: starEach es X.env := by rfl) (hpl : (backTo pos (starEach es X.env)).any (·.1) = false := by rfl) : DE X W (.Call (.Name x p) (e :: es) [] pos) (iCa f ma) :=
  (pe_callB hc hg hm hv ha hn hdb he hpl).imp fun σ H Q h => eM_ca hs h
theorem de_ct (hc : CallR X (.type T) r) (hs : CaS (kx X W) W.x r f) (hm : X.mg x = none) (hv : bootBuiltins x = some (.type T)) (ha : DA X W (e :: es) ma) (hg : Gl X x := by rfl) (hn : x ≠ "__name__" := by decide) (hdb : (x == ("__debug__" : Str)) = false := by decide)
    (he : starEach (e :: es) X.env = (false, eval e X.env) :: starEach es X.env := by rfl) (hpl : (backTo pos (starEach es X.env)).any (·.1) = false := by rfl) : DE X W (.Call (.Name x p) (e :: es) [] pos) (iCa f ma) :=
  (pe_callTy hc hg hm hv ha hn hdb he hpl).imp fun σ H Q h => eM_ca hs h
end
section
variable {K : KX} {W : WX} {w : Wd} {α : Type} {P : Wd → Hp → Sto → α → Prop}
def a1 {α : Type} (xs : List IV) (k : IV → Out α) : Out α := match xs with
  | [x] => k x
  | _ => .bad
def a2 {α : Type} (xs : List IV) (k : IV → IV → Out α) : Out α := match xs with
  | [x, y] => k x y
  | _ => .bad
theorem a1_post {xs : List IV} {vs : List V} {k : IV → Out α} (h : Post K W w (a1 xs k) P) (r : RelL K w vs xs) : ∃ v x, vs = [v] ∧ xs = [x] ∧ Rel K w v x ∧ Post K W w (k x) P := by
  unfold a1 at h
  split at h
  · cases r with
    | cons a b => cases b; exact ⟨_, _, rfl, rfl, a, h⟩
  · exact h.elim
theorem a2_post {xs : List IV} {vs : List V} {k : IV → IV → Out α} (h : Post K W w (a2 xs k) P) (r : RelL K w vs xs) : ∃ v x u y, vs = [v, u] ∧ xs = [x, y] ∧ Rel K w v x ∧ Rel K w u y ∧ Post K W w (k x y) P := by
  unfold a2 at h
  split at h
  · cases r with
    | cons a b =>
      cases b with
      | cons b c => cases c; exact ⟨_, _, _, _, rfl, rfl, a, b, h⟩
  · exact h.elim
end
def lenN (S : Sto) (x : IV) : Option Nat := match x with
  | .str s => if s.length ≤ sizeLine then some s.length else none
  | x => (seqOf S x).map List.length
theorem lenN_rel {K : KX} {w : Wd} {S : Sto} {H : Hp} {v : V} {x : IV} {n : Nat} (r : R K w S H) (rx : Rel K w v x) (e : lenN S x = some n) : LenV K.k v H n := by
  unfold lenN at e
  split at e
  · cases rx
    split at e
    · cases e; exact ⟨by assumption, rfl⟩
    · cases e
  · obtain ⟨ys, h1, h2⟩ := Option.map_eq_some_iff.mp e
    obtain ⟨a, xs, rfl, h3, h4⟩ := seqOf_sq h1 r rx
    rcases h3 with h3 | h3
    · exact .inl ⟨xs, h3, by rw [h4.length, h2]⟩
    · exact .inr ⟨xs, h3, by rw [h4.length, h2]⟩
def fLen (xs : List IV) (S : Sto) : Out IV := a1 xs fun x => orBad (lenN S x) fun n => .ok (.int n) S
theorem cs_len {K : KX} {W : WX} : CaS K W (fun xs H Q => ∃ x n, xs = [x] ∧ LenV K.k x H n ∧ Q (.int n) H) fLen := fun w S H xs ix Q r rx p => by
  obtain ⟨v, x, rfl, rfl, rv, p⟩ := a1_post p rx
  obtain ⟨n, e, p⟩ := orBad_post p
  exact ⟨v, n, rfl, lenN_rel r rv e, p.now r _ (.int _)⟩
def fAbs (xs : List IV) (S : Sto) : Out IV := a1 xs fun x => asI x fun i => .ok (.int (if i < 0 then -i else i)) S
theorem cs_abs {K : KX} {W : WX} : CaS K W (fun xs H Q => ∃ i, xs = [.int i] ∧ Q (.int (if i < 0 then -i else i)) H) fAbs := fun w S H xs ix Q r rx p => by
  obtain ⟨v, x, rfl, rfl, rv, p⟩ := a1_post p rx
  obtain ⟨i, rfl, rfl, p⟩ := asI_post p rv
  exact ⟨i, rfl, p.now r _ (.int _)⟩
def fInt (xs : List IV) (S : Sto) : Out IV := a1 xs fun x => match x with
  | .int i => .ok (.int i) S
  | .bl k => .ok (.int (if k then 1 else 0)) S
  | _ => .bad
theorem cs_int {K : KX} {W : WX} : CaS K W (fun xs H Q => (∃ i, xs = [.int i] ∧ Q (.int i) H) ∨ ∃ k, xs = [.bl k] ∧ Q (.int (if k then 1 else 0)) H) fInt := fun w S H xs ix Q r rx p => by
  obtain ⟨v, x, rfl, rfl, rv, p⟩ := a1_post p rx
  cases rv with
  | int i => exact .inl ⟨i, rfl, (show Post K W w (Out.ok (IV.int i) S) _ from p).now r _ (Rel.int _)⟩
  | bl k => exact .inr ⟨k, rfl, (show Post K W w (Out.ok (IV.int (if k then 1 else 0)) S) _ from p).now r _ (Rel.int _)⟩
  | _ => exact p.elim
def fMax2 (xs : List IV) (S : Sto) : Out IV := a2 xs fun x y => asI x fun i => asI y fun j => .ok (.int (if j > i then j else i)) S
def fMin2 (xs : List IV) (S : Sto) : Out IV := a2 xs fun x y => asI x fun i => asI y fun j => .ok (.int (if j < i then j else i)) S
theorem cs_max2 {K : KX} {W : WX} : CaS K W (fun xs H Q => ∃ i j, xs = [.int i, .int j] ∧ Q (.int (if j > i then j else i)) H) fMax2 := fun w S H xs ix Q r rx p => by
  obtain ⟨v, x, u, y, rfl, rfl, rv, ru, p⟩ := a2_post p rx
  obtain ⟨i, rfl, rfl, p⟩ := asI_post p rv
  obtain ⟨j, rfl, rfl, p⟩ := asI_post p ru
  exact ⟨i, j, rfl, p.now r _ (.int _)⟩
theorem cs_min2 {K : KX} {W : WX} : CaS K W (fun xs H Q => ∃ i j, xs = [.int i, .int j] ∧ Q (.int (if j < i then j else i)) H) fMin2 := fun w S H xs ix Q r rx p => by
  obtain ⟨v, x, u, y, rfl, rfl, rv, ru, p⟩ := a2_post p rx
  obtain ⟨i, rfl, rfl, p⟩ := asI_post p rv
  obtain ⟨j, rfl, rfl, p⟩ := asI_post p ru
  exact ⟨i, j, rfl, p.now r _ (.int _)⟩
def tyN (S : Sto) (x : IV) : Option String := match x with
  | .non => some "NoneType"
  | .bl _ => some "bool"
  | .int _ => some "int"
  | .str _ => some "str"
  | .lst _ => some "list"
  | .tup _ => some "tuple"
  | .adr n => match S[n]? with
    | some (.lst _) => some "list"
    | some (.dic _) => some "dict"
    | _ => none
  | _ => none
theorem tyN_rel {K : KX} {w : Wd} {S : Sto} {H : Hp} {v : V} {x : IV} {t : String} (r : R K w S H) (rx : Rel K w v x) (e : tyN S x = some t) : TyX K.k H v (.type t) := by
  cases x with
  | non => cases rx; cases e; exact .base .non
  | bl b => cases rx; cases e; exact .base (.bl _)
  | int b => cases rx; cases e; exact .base (.int _)
  | str b => cases rx; cases e; exact .base (.str _)
  | lst ys =>
    cases e
    cases rx with
    | lst h1 h2 => exact .base (.lst (r.F _ _ h1))
  | tup ys =>
    cases e
    cases rx with
    | tup h1 h2 =>
      rcases same_t r.F h1 with (h | ⟨o, h⟩) | ⟨o, its, n, h, hc, _⟩
      · exact .base (.tup h)
      · exact .fTuple h
      · exact .kTuple h hc
  | adr n =>
    cases rx with
    | adr hrho =>
      unfold tyN at e
      cases q : S[n]? with
      | none => simp only [q] at e; cases e
      | some c =>
        simp only [q] at e
        cases c with
        | lst ys =>
          cases e
          obtain ⟨xs, h2, h3⟩ := r.cell n _ _ q hrho
          exact .base (.lst h2)
        | dic ys =>
          cases e
          obtain ⟨xs, h2, h3⟩ := r.cell n _ _ q hrho
          exact .base (.dK h2)
        | _ => cases e
  | _ => cases e
def kitN (t n : String) : Option Bool := kitB t n
def fIsi (xs : List IV) (S : Sto) : Out IV := a2 xs fun x c => match c with
  | .ty n => orBad (tyN S x) fun t => orBad (kitN t n) fun b => .ok (.bl b) S
  | _ => .bad
theorem cs_isi {K : KX} {W : WX} : CaS K W (rIsi K.k) fIsi := fun w S H xs ix Q r rx p => by
  obtain ⟨v, x, u, y, rfl, rfl, rv, ru, p⟩ := a2_post p rx
  cases ru with
  | ty n =>
    obtain ⟨t, e1, p⟩ := orBad_post p
    obtain ⟨b, e2, p⟩ := orBad_post p
    exact ⟨v, _, _, _, b, rfl, .ty n, tyN_rel r rv e1, kit_ty e2, p.now r _ (.bl _)⟩
  | _ => exact p.elim
theorem de_ty {X : Cx} {W : WZ} {x : Str} {pos : Pos} {T : String} (hm : X.mg x = none) (hv : bootBuiltins x = some (.type T)) (hg : Gl X x := by rfl) (hn : x ≠ "__name__" := by decide) (hd : (x == ("__debug__" : Str)) = false := by decide) : DE X W (.Name x pos) (iC (.ty T)) :=
  de_c (pe_bltn hg hm hv (v := .ty T) rfl hn hd) fun _ => .ty T
def hasTy (T : String) (S : Sto) (x : IV) : Bool := match x with
  | .str _ => T == "str"
  | x => T == "list" && (lstOf S x).isSome
theorem hasTy_rel {K : KX} {w : Wd} {S : Sto} {H : Hp} {v : V} {x : IV} {T : String} (r : R K w S H) (rx : Rel K w v x) (e : hasTy T S x = true) : tyV K.k T v H := by
  unfold hasTy at e
  split at e
  · cases rx
    exact beq_iff_eq.mp e
  · obtain ⟨e1, e2⟩ := Bool.and_eq_true_iff.mp e
    obtain ⟨ys, h⟩ := Option.isSome_iff_exists.mp e2
    obtain ⟨a, xs, rfl, h3, h4⟩ := lstOf_sq h r rx
    exact .inl ⟨beq_iff_eq.mp e1, xs, h3⟩
def iBM (T : String) (f : IV → List IV → Sto → Out IV) (mo : IE) (ma : IA) : IE := fun Λ S => (mo Λ S).bind fun o S1 => chk (hasTy T S1 o = true) ((ma Λ S1).bind fun xs S2 => f o xs S2)
section
variable {X : Cx} {W : WZ} {pos apos : Pos} {o e : Expr} {es : List Expr} {mo : IE} {ma : IA} {T id : String} {name : Str} {r : V → List V → Hp → VK → Prop} {f : IV → List IV → Sto → Out IV}
theorem de_bm (pa : PlainAttrs T) (slot : Slot T name id) (hty : typeOf (.builtin id) = pure (.type "method_descriptor")) (hm : MtR X id r) (hs : MtS (kx X W) W.x r f) (ho : DE X W o mo) (ha : DA X W (e :: es) ma)
    (hbase : attributeBase o name X.env (eval o X.env) = eval o X.env := by rfl)
    (hfew : ((backTo pos (starEach (e :: es) X.env)).all (fun x => !x.1) && (backToKw pos (keywordEach [] X.env)).all (fun x => x.1.isSome)
      && decide ((e :: es).length + ([] : List Keyword).length + (if ([] : List Keyword).isEmpty then 0 else 1) < 30)) = true := by rfl)
    (hline : (apos.endLine == pos.line) = true := by rfl) (hst : starEach (e :: es) X.env = (false, eval e X.env) :: starEach es X.env := by rfl) (hplain : (backTo pos (starEach es X.env)).any (·.1) = false := by rfl) :
    DE X W (.Call (.Attribute o name apos) (e :: es) [] pos) (iBM T f mo ma) :=
  (pe_bm pa slot hty hm ho ha hbase hfew hline hst hplain).imp fun σ H Q ⟨w, S, Λ, r0, s0, p⟩ => ⟨w, S, Λ, r0, s0, p.bind.imp fun w1 H1 S1 ix l1 r1 p1 v1 rv1 => by
    obtain ⟨h1, p1⟩ := chk_post p1
    exact ⟨hasTy_rel r1 rv1 h1, w1, S1, Λ, r1, s0.up l1, p1.bind.imp fun w2 H2 S2 xs l2 r2 p2 vs rvs => hs w2 S2 H2 _ _ _ _ _ r2 (rv1.up l2) rvs p2⟩⟩
end
def onL {α : Type} (S : Sto) (x : IV) (k : Nat → List IV → Out α) : Out α := match x with
  | .adr n => (match S[n]? with
    | some (.lst xs) => k n xs
    | _ => .bad)
  | _ => .bad
theorem onL_post {α : Type} {K : KX} {W : WX} {w : Wd} {S : Sto} {H : Hp} {v : V} {x : IV} {k : Nat → List IV → Out α} {P : Wd → Hp → Sto → α → Prop} (h : Post K W w (onL S x k) P) (r : R K w S H) (rx : Rel K w v x) :
    ∃ n xs a vs, S[n]? = some (.lst xs) ∧ w.rho[n]? = some a ∧ v = .ref a ∧ H a = some (.lst vs) ∧ RelL K w vs xs ∧ Post K W w (k n xs) P := by
  unfold onL at h
  split at h
  · cases rx with
    | adr hrho =>
      split at h
      · rename_i q
        obtain ⟨vs, h2, h3⟩ := r.cell _ _ _ q hrho
        exact ⟨_, _, _, vs, q, hrho, rfl, h2, h3, h⟩
      · exact h.elim
  · exact h.elim
def fApp (o : IV) (xs : List IV) (S : Sto) : Out IV := a1 xs fun y => onL S o fun n ys => chk (ys.length < sizeLine) (.ok .non (S.set n (.lst (ys ++ [y]))))
theorem ms_app {K : KX} {W : WX} : MtS K W rAppend fApp := fun w S H x xs io ix Q r ro rx p => by
  obtain ⟨v, y, rfl, rfl, rv, p⟩ := a1_post p rx
  obtain ⟨n, ys, a, vs, h1, h2, rfl, h3, h4, p⟩ := onL_post p r ro
  obtain ⟨c, p⟩ := chk_post p
  exact ⟨a, vs, v, rfl, rfl, h3, by rw [h4.length]; exact c, p.now (r.write h2 ⟨_, upd_same, h4.append (.one rv)⟩ (fun _ e => by rw [h1] at e; cases e)) _ .non⟩
def fExt (o : IV) (xs : List IV) (S : Sto) : Out IV := a1 xs fun y => onL S o fun n ys => orBad (lstX S y) fun zs => chk (ys.length + zs.length ≤ sizeLine) (.ok .non (S.set n (.lst (ys ++ zs))))
section
variable {P : Program} {w : World} {K : PySem.W.Frag} {mg : Str → Option Value} {base : Heap}
def Cal (P : Program) (w : World) (K : PySem.W.Frag) (mg : Str → Option Value) (base : Heap) (x : Str) (k : Nat) (ps : List Str) (m : List IV → Sto → Out IV) : Prop :=
  ∃ (f : Addr) (fd : FuncData), mg x = some (.ref f) ∧ PySem.W.keepIn K (.ref f) = true ∧ L2.Binds K fd ps [] ∧ FnG P w K mg base (CX P w) k f fd ps (spM K mg ps.length m)
def Loc (K : PySem.W.Frag) (mg : Str → Option Value) (x : Str) (st : Stmt) (ps : List Str) : Prop := ∃ (f : Addr) (fd : FuncData), mg x = some (.ref f) ∧ Fun K x x st f fd ∧ L2.Binds K fd ps []
theorem cal_def {x : Str} {st : Stmt} {N ps : List Str} {k : Nat} {body : IS} (L : Loc K mg x st ps) (Sc : FnScope N ps (defScope st))
    (hb : ∀ (f : Addr) (cdv : Value) (A : Around) (outer : List Env) (s : Shared) (H : Hp) (E : XK), RmG k (A.deeper (envOfC x (defScope st) s.heap.objs.size f cdv)) →
      Takes (DX P w K mg base N x (defScope st) f cdv A outer s H E) (WEx E) → PassesOwn (model P w) (DX P w K mg base N x (defScope st) f cdv A outer s H E).A (DX P w K mg base N x (defScope st) f cdv A outer s H E).env (DX P w K mg base N x (defScope st) f cdv A outer s H E).xe →
      DSs (DX P w K mg base N x (defScope st) f cdv A outer s H E) ⟨WEx E, none⟩ (defBody st) body) : Cal P w K mg base x (k + 1) ps (mDef N.length body) := by
  obtain ⟨f, fd, h1, h2, h3⟩ := L
  exact ⟨f, fd, h1, h2.kp, h3, ok_def h2 Sc (hb f)⟩
end
section
variable {X : Cx} {W : WX} {pos p : Pos} {k : Nat} {ps : List Str} {mf : List IV → Sto → Out IV} {x : Str} {e : Expr} {es : List Expr} {ma : IA}
theorem de_callC {np : Nat} (c : Cal X.prog X.w X.K X.mg X.base x k ps mf) (tk : Takes X W) (hr : RmG k X.A) (ha : DA X ⟨W, none⟩ (e :: es) ma) (hg : Gl X x := by rfl) (hnp : ps.length = np := by rfl) (hdb : (x == ("__debug__" : Str)) = false := by decide)
    (he : starEach (e :: es) X.env = (false, eval e X.env) :: starEach es X.env := by rfl) (hpl : (backTo pos (starEach es X.env)).any (·.1) = false := by rfl) : DE X ⟨W, none⟩ (.Call (.Name x p) (e :: es) [] pos) (iCall np mf ma) := by
  obtain ⟨f, fd, h1, h2, h3, h4⟩ := c
  rw [← hnp]
  exact de_call h4 tk hr h1 h2 h3 ha hg hdb he hpl
end
variable {Λ L : Slots} {S S' : Sto}
@[simp] theorem iVar_s {i : Nat} {x : IV} (h : Λ[i]? = some (some x)) : iVar i Λ S = .ok x S := by unfold iVar; rw [h]
@[simp] theorem iC_e (x : IV) : iC x Λ S = .ok x S := rfl
@[simp] theorem iBin_e (f : IV → IV → Sto → Out IV) (a b : IE) : iBin f a b Λ S = (a Λ S).bind fun x S1 => (b Λ S1).bind fun y S2 => f x y S2 := rfl
@[simp] theorem iUn_e (f : IV → Sto → Out IV) (a : IE) : iUn f a Λ S = (a Λ S).bind fun x S1 => f x S1 := rfl
@[simp] theorem iNil_e : iNil Λ S = .ok [] S := rfl
@[simp] theorem iCons_e (a : IE) (b : IA) : iCons a b Λ S = (a Λ S).bind fun x S1 => (b Λ S1).bind fun xs S2 => .ok (x :: xs) S2 := rfl
@[simp] theorem iCa_e (f : List IV → Sto → Out IV) (a : IA) : iCa f a Λ S = (a Λ S).bind fun x S1 => f x S1 := rfl
@[simp] theorem asI_i {α : Type} (i : Int) (k : Int → Out α) : asI (.int i) k = k i := rfl
@[simp] theorem asS_s {α : Type} (i : Str) (k : Str → Out α) : asS (.str i) k = k i := rfl
@[simp] theorem asB_b {α : Type} (i : Bool) (k : Bool → Out α) : asB (.bl i) k = k i := rfl
@[simp] theorem a1_1 {α : Type} (x : IV) (k : IV → Out α) : a1 [x] k = k x := rfl
@[simp] theorem a2_2 {α : Type} (x y : IV) (k : IV → IV → Out α) : a2 [x, y] k = k x y := rfl
@[simp] theorem iTest_e (m : IE) : iTest m Λ S = (m Λ S).bind fun x S1 => asB x fun b => .ok b S1 := rfl
@[simp] theorem iTru_e (m : IE) : iTru m Λ S = (m Λ S).bind fun x S1 => orBad (truB S1 x) fun b => .ok b S1 := rfl
@[simp] theorem truB_bl (b : Bool) : truB S (.bl b) = some b := rfl
@[simp] theorem truB_non : truB S .non = some false := rfl
@[simp] theorem iAnd_e (c d : IT) : iAnd c d Λ S = (c Λ S).bind fun b S1 => if b = true then d Λ S1 else .ok false S1 := rfl
@[simp] theorem iOr_e (c d : IT) : iOr c d Λ S = (c Λ S).bind fun b S1 => if b = true then .ok true S1 else d Λ S1 := rfl
@[simp] theorem iNot_e (c : IT) : iNot c Λ S = (c Λ S).bind fun b S1 => .ok (!b) S1 := rfl
@[simp] theorem iAndV_e (c d : IE) : iAndV c d Λ S = (c Λ S).bind fun x S1 => asB x fun b => if b = true then d Λ S1 else .ok (.bl false) S1 := rfl
@[simp] theorem iOrV_e (c d : IE) : iOrV c d Λ S = (c Λ S).bind fun x S1 => asB x fun b => if b = true then .ok (.bl true) S1 else d Λ S1 := rfl
@[simp] theorem iNotV_e (c : IE) : iNotV c Λ S = (c Λ S).bind fun x S1 => asB x fun b => .ok (.bl (!b)) S1 := rfl
@[simp] theorem iIf_e {α : Type} (c : IT) (a b : Slots → Sto → Out α) : iIf c a b Λ S = (c Λ S).bind fun k S1 => if k = true then a Λ S1 else b Λ S1 := rfl
@[simp] theorem iChain_e (f g : IV → IV → Sto → Out IV) (a b c : IE) : iChain f g a b c Λ S = (a Λ S).bind fun x S1 => (b Λ S1).bind fun y S2 => (f x y S2).bind fun z S3 => asB z fun k => if k = true then (c Λ S3).bind fun u S4 => g y u S4 else .ok (.bl false) S3 := rfl
@[simp] theorem iSl_e (cell : Bool) (m : IE) (ml mh : IO) : iSl cell m ml mh Λ S = (m Λ S).bind fun x S1 => (ml Λ S1).bind fun lo S2 => (mh Λ S2).bind fun hi S3 => fSl cell x lo hi S3 := rfl
@[simp] theorem iNoPart_e : iNoPart Λ S = .ok none S := rfl
@[simp] theorem iPart_e (m : IE) : iPart m Λ S = (m Λ S).bind fun x S1 => asI x fun i => .ok (some i) S1 := rfl
@[simp] theorem iLst_e (cell : Bool) (m : IA) : iLst cell m Λ S = (m Λ S).bind fun xs S1 => mkL cell xs S1 := rfl
@[simp] theorem iTup_e (m : IA) : iTup m Λ S = (m Λ S).bind fun xs S1 => mkT xs S1 := rfl
@[simp] theorem mkL_t (xs : List IV) : mkL true xs S = chk (xs.length ≤ sizeLine) (.ok (.adr S.length) (S ++ [.lst xs])) := rfl
@[simp] theorem mkL_f (xs : List IV) : mkL false xs S = chk (xs.length ≤ sizeLine) (.ok (.lst xs) S) := rfl
@[simp] theorem mkT_e (xs : List IV) : mkT xs S = chk (xs.length ≤ sizeLine) (.ok (.tup xs) S) := rfl
@[simp] theorem iNext_e : iNext Λ S = .ok (.nx Λ) S := rfl
@[simp] theorem iSeq_e (a b : IS) : iSeq a b Λ S = (a Λ S).bind fun fl S1 => fSeq b fl S1 := rfl
@[simp] theorem fSeq_nx (b : IS) : fSeq b (.nx L) S = b L S := rfl
@[simp] theorem fSeq_rt (b : IS) (v : IV) : fSeq b (.rt v) S = .ok (.rt v) S := rfl
@[simp] theorem fSeq_bk (b : IS) : fSeq b (.bk L) S = .ok (.bk L) S := rfl
@[simp] theorem fSeq_ct (b : IS) : fSeq b (.ct L) S = .ok (.ct L) S := rfl
@[simp] theorem iDrop_e (m : IE) : iDrop m Λ S = (m Λ S).bind fun _ S1 => .ok (.nx Λ) S1 := rfl
@[simp] theorem iRet_e (m : IE) : iRet m Λ S = (m Λ S).bind fun x S1 => .ok (.rt x) S1 := rfl
@[simp] theorem iRetN_e : iRetN Λ S = .ok (.rt .non) S := rfl
@[simp] theorem iBrk_e : iBrk Λ S = .ok (.bk Λ) S := rfl
@[simp] theorem iCnt_e : iCnt Λ S = .ok (.ct Λ) S := rfl
@[simp] theorem iName_e (i : Nat) (x : IV) : iName i x Λ S = .ok (Λ.set i (some x)) S := rfl
@[simp] theorem iAsg_e (m : IE) (g : IG) : iAsg m g Λ S = (m Λ S).bind fun x S1 => (g x Λ S1).bind fun L S2 => .ok (.nx L) S2 := rfl
@[simp] theorem iSet_e (i : Nat) (m : IE) : iSet i m Λ S = (m Λ S).bind fun x S1 => .ok (.nx (Λ.set i (some x))) S1 := rfl
@[simp] theorem iGSub_e (mo mi : IE) (x : IV) : iGSub mo mi x Λ S = (mo Λ S).bind fun o S1 => (mi Λ S1).bind fun i S2 => asI i fun k => onL S2 o fun n xs => orBad (ixN xs.length k) fun j => .ok Λ (S2.set n (.lst (xs.set j x))) := rfl
theorem onL_s {α : Type} {n : Nat} {xs : List IV} {k : Nat → List IV → Out α} (h : S[n]? = some (.lst xs)) : onL S (.adr n) k = k n xs := by unfold onL; simp only [h]
@[simp] theorem iFor_e (ms : IW) (g : IG) (b : IS) : iFor ms g b Λ S = (ms Λ S).bind fun s S1 => iIter s g b s.items Λ S1 := rfl
@[simp] theorem iSrcR1_e (m : IE) : iSrcR1 m Λ S = (m Λ S).bind fun x S1 => asI x fun j => chk (-(2 ^ 62) ≤ j ∧ j < 2 ^ 62) (.ok ⟨rangeI 0 j.toNat, none⟩ S1) := rfl
@[simp] theorem iSrcS_e (m : IE) : iSrcS m Λ S = (m Λ S).bind fun x S1 => asS x fun z => .ok ⟨z.cps.toList.map fun c => .str ⟨#[c]⟩, none⟩ S1 := rfl
@[simp] theorem iSrcL_e (m : IE) : iSrcL m Λ S = (m Λ S).bind fun x S1 => fSrcL x S1 := rfl
@[simp] theorem fSrcL_l (xs : List IV) : fSrcL (.lst xs) S = .ok ⟨xs, none⟩ S := rfl
@[simp] theorem fSrcL_w (xs : List IV) : fSrcL (.wls xs) S = .ok ⟨xs, none⟩ S := rfl
@[simp] theorem iLc_e (cell : Bool) (ms : IW) (gi : IV → Slots → Option Slots) (tt : IT) (te : IE) (vs : List Nat) : iLc cell ms gi tt te vs Λ S = (ms Λ S).bind fun s S1 => (iLcGo s gi tt te s.items (wipeI Λ vs) S1 []).bind fun acc S2 => mkL cell acc S2 := rfl
@[simp] theorem iYes_e : iYes Λ S = .ok true S := rfl
@[simp] theorem giN_e (j : Nat) (x : IV) : giN j x Λ = some (Λ.set j (some x)) := rfl
@[simp] theorem iCall_e (np : Nat) (mf : List IV → Sto → Out IV) (a : IA) : iCall np mf a Λ S = (a Λ S).bind fun xs S1 => chk (xs.length = np) (relab Λ (mf xs S1)) := rfl
@[simp] theorem relab_ok (v : IV) : relab Λ (.ok v S) = .ok v S := rfl
@[simp] theorem relab_bad : relab Λ .bad = .bad := rfl
@[simp] theorem iBM_e (T : String) (f : IV → List IV → Sto → Out IV) (mo : IE) (ma : IA) : iBM T f mo ma Λ S = (mo Λ S).bind fun o S1 => chk (hasTy T S1 o = true) ((ma Λ S1).bind fun xs S2 => f o xs S2) := rfl
@[simp] theorem fI_i (C : Int → Int → Prop) [∀ i j, Decidable (C i j)] (g : Int → Int → Int) (i j : Int) : fI C g (.int i) (.int j) S = chk (C i j) (.ok (.int (g i j)) S) := rfl
@[simp] theorem fB_i (g : Int → Int → Bool) (i j : Int) : fB g (.int i) (.int j) S = .ok (.bl (g i j)) S := rfl
@[simp] theorem fAdd_i (i j : Int) : fAdd (.int i) (.int j) S = .ok (.int (i + j)) S := rfl
@[simp] theorem fAdd_s (a b : Str) : fAdd (.str a) (.str b) S = chk (a.length + b.length ≤ sizeLine) (.ok (.str (a ++ b)) S) := rfl
@[simp] theorem fAdd_l (a b : List IV) : fAdd (.lst a) (.lst b) S = mkF (a ++ b) S := rfl
@[simp] theorem mkF_e (a : List IV) : mkF a S = chk (a.length ≤ sizeLine) (.ok (.lst a) S) := rfl
@[simp] theorem fIx_l (xs : List IV) (i : Int) : fIx (.lst xs) (.int i) S = orBad (atI xs i) fun v => .ok v S := rfl
@[simp] theorem fIx_w (xs : List IV) (i : Int) : fIx (.wls xs) (.int i) S = orBad (atI xs i) fun v => .ok v S := rfl
@[simp] theorem fIx_t (xs : List IV) (i : Int) : fIx (.tup xs) (.int i) S = orBad (atI xs i) fun v => .ok v S := rfl
@[simp] theorem fIx_s (z : Str) (i : Int) : fIx (.str z) (.int i) S = chk (z.length ≤ sizeLine) (orBad (atI z.cps.toList i) fun c => .ok (.str ⟨#[c]⟩) S) := rfl
theorem fIx_a {n : Nat} {xs : List IV} {i : Int} (h : S[n]? = some (.lst xs)) : fIx (.adr n) (.int i) S = orBad (atI xs i) fun v => .ok v S := by
  show orBad (lstOf S (.adr n)) _ = _
  unfold lstOf
  simp only [h]
  rfl
@[simp] theorem fInt_i (i : Int) : fInt [.int i] S = .ok (.int i) S := rfl
@[simp] theorem fInt_b (i : Bool) : fInt [.bl i] S = .ok (.int (if i then 1 else 0)) S := rfl
@[simp] theorem fAbs_i (i : Int) : fAbs [.int i] S = .ok (.int (if i < 0 then -i else i)) S := rfl
@[simp] theorem fLen_e (x : IV) : fLen [x] S = orBad (lenN S x) fun n => .ok (.int n) S := rfl
@[simp] theorem lenN_s (s : Str) : lenN S (.str s) = if s.length ≤ sizeLine then some s.length else none := rfl
@[simp] theorem lenN_l (s : List IV) : lenN S (.lst s) = some s.length := rfl
@[simp] theorem lenN_w (s : List IV) : lenN S (.wls s) = some s.length := rfl
@[simp] theorem lenN_t (s : List IV) : lenN S (.tup s) = some s.length := rfl
@[simp] theorem fMax2_i (i j : Int) : fMax2 [.int i, .int j] S = .ok (.int (if j > i then j else i)) S := rfl
@[simp] theorem fMin2_i (i j : Int) : fMin2 [.int i, .int j] S = .ok (.int (if j < i then j else i)) S := rfl
@[simp] theorem fIsi_e (x : IV) (n : String) : fIsi [x, .ty n] S = orBad (tyN S x) fun t => orBad (kitN t n) fun b => .ok (.bl b) S := rfl
@[simp] theorem tyN_non : tyN S .non = some "NoneType" := rfl
@[simp] theorem tyN_bl (b : Bool) : tyN S (.bl b) = some "bool" := rfl
@[simp] theorem tyN_int (b : Int) : tyN S (.int b) = some "int" := rfl
@[simp] theorem tyN_str (b : Str) : tyN S (.str b) = some "str" := rfl
@[simp] theorem tyN_lst (b : List IV) : tyN S (.lst b) = some "list" := rfl
@[simp] theorem tyN_tup (b : List IV) : tyN S (.tup b) = some "tuple" := rfl
@[simp] theorem fIn_e (x y : IV) : fIn x y S = orBad (inB S x y) fun b => .ok (.bl b) S := rfl
@[simp] theorem fNotIn_e (x y : IV) : fNotIn x y S = orBad (inB S x y) fun b => .ok (.bl (!b)) S := rfl
@[simp] theorem fEq_e (x y : IV) : fEq x y S = orBad (eqB S x y) fun b => .ok (.bl b) S := rfl
@[simp] theorem fNe_e (x y : IV) : fNe x y S = orBad (eqB S x y) fun b => .ok (.bl (!b)) S := rfl
@[simp] theorem eqB_i (i j : Int) : eqB S (.int i) (.int j) = some (decide (i = j)) := rfl
@[simp] theorem eqB_s (i j : Str) : eqB S (.str i) (.str j) = some (decide (i = j)) := rfl
@[simp] theorem eqB_b (i j : Bool) : eqB S (.bl i) (.bl j) = some (decide (i = j)) := rfl
@[simp] theorem gIsN_e (x : IV) : gIsN x .non S = .ok (.bl (isN x)) S := rfl
@[simp] theorem gNotN_e (x : IV) : gNotN x .non S = .ok (.bl (!isN x)) S := rfl
@[simp] theorem fSl_s (cell : Bool) (z : Str) (lo hi : Option Int) : fSl cell (.str z) lo hi S = chk (z.length ≤ sizeLine) (.ok (.str (cutS z lo hi)) S) := rfl
@[simp] theorem fSl_l (cell : Bool) (z : List IV) (lo hi : Option Int) : fSl cell (.lst z) lo hi S = mkL cell (cutI z lo hi) S := rfl
theorem mDef_e (n : Nat) (b : IS) (xs : List IV) : mDef n b xs S = match b (xs.map some ++ List.replicate (n - xs.length) none) S with
  | .ok (.rt iv) S' => .ok iv S'
  | .ok (.nx _) S' => .ok .non S'
  | .ok _ _ => .bad
  | .exc C k _ S' => .exc C k [] S'
  | .bad => .bad := rfl
theorem mDef_rt {n : Nat} {b : IS} {xs : List IV} {v : IV} (h : b (xs.map some ++ List.replicate (n - xs.length) none) S = .ok (.rt v) S') : mDef n b xs S = .ok v S' := by unfold mDef; simp only [h]
@[simp] theorem atI_0 {α : Type} (x : α) (xs : List α) : atI (x :: xs) 0 = some x := atI_nat (xs := x :: xs) (j := 0) rfl
@[simp] theorem atI_1 {α : Type} (x y : α) (xs : List α) : atI (x :: y :: xs) 1 = some y := atI_nat (xs := x :: y :: xs) (j := 1) rfl
@[simp] theorem atI_2 {α : Type} (x y z : α) (xs : List α) : atI (x :: y :: z :: xs) 2 = some z := atI_nat (xs := x :: y :: z :: xs) (j := 2) rfl
theorem atI_lt {α : Type} {xs : List α} {i : Int} (h0 : 0 ≤ i) (h : i < xs.length) : ∃ v, atI xs i = some v ∧ v ∈ xs := by
  obtain ⟨n, rfl⟩ := Int.eq_ofNat_of_zero_le h0
  have hn : n < xs.length := by exact_mod_cast h
  exact ⟨xs[n], atI_nat (List.getElem?_eq_getElem hn), List.getElem_mem hn⟩
@[simp] theorem ixN_0 (n : Nat) : ixN (n + 1) 0 = some 0 := by unfold ixN; rw [if_pos (by omega), if_pos (by omega)]; rfl
@[simp] theorem ixN_1 (n : Nat) : ixN (n + 2) 1 = some 1 := by unfold ixN; rw [if_pos (by omega), if_pos (by omega)]; rfl
@[simp] theorem ixN_2 (n : Nat) : ixN (n + 3) 2 = some 2 := by unfold ixN; rw [if_pos (by omega), if_pos (by omega)]; rfl
abbrev sg (s : Str) : List Nat := s.cps.toList
theorem sg_len (s : Str) : (sg s).length = s.length := by simp [sg, Str.length]
theorem sg_app (a b : Str) : sg (a ++ b) = sg a ++ sg b := by
  show (a.cps ++ b.cps).toList = _
  simp [sg]
theorem len_app (a b : Str) : (a ++ b).length = a.length + b.length := by rw [← sg_len, sg_app, List.length_append, sg_len, sg_len]
def okS (s : Str) : Prop := ∀ c ∈ sg s, c < 1114112
theorem okS_b {s : Str} (h : okS s) : PyData.strOk s = true := by
  unfold PyData.strOk
  rw [← Array.all_toList]
  exact List.all_eq_true.mpr fun c hc => decide_eq_true (h c hc)
theorem okS_app {a b : Str} (ha : okS a) (hb : okS b) : okS (a ++ b) := fun c hc => by
  rw [sg_app] at hc
  exact (List.mem_append.mp hc).elim (ha c) (hb c)
theorem viewL_strs {f : IV → Option PyData} (hf : ∀ s, f (.str s) = some (.str s)) : ∀ zs : List Str, viewL f (zs.map IV.str) = some (zs.map PyData.str)
  | [] => rfl
  | z :: zs => by
    show viewL f (.str z :: zs.map IV.str) = _
    unfold viewL
    rw [hf, viewL_strs hf zs]
    rfl
theorem canLay_strs : ∀ {zs : List Str}, (∀ z ∈ zs, okS z) → PyData.canLayAll0 (zs.map PyData.str) = true
  | [], _ => by simp [PyData.canLayAll0]
  | z :: zs, h => by
    show PyData.canLayAll0 (.str z :: zs.map PyData.str) = true
    rw [PyData.canLayAll0, PyData.canLay0, okS_b (h z List.mem_cons_self), canLay_strs fun y hy => h y (List.mem_cons_of_mem _ hy)]
    rfl
theorem depth_strs : ∀ zs : List Str, PyData.depthAll (zs.map PyData.str) = 0
  | [] => by simp [PyData.depthAll]
  | z :: zs => by
    show PyData.depthAll (.str z :: zs.map PyData.str) = 0
    rw [PyData.depthAll, PyData.depth, depth_strs zs]
    rfl
theorem eqv_strs : ∀ zs ys : List Str, PyData.eqvAll (zs.map PyData.str) (ys.map PyData.str) = decide (zs = ys)
  | [], [] => by simp [PyData.eqvAll]
  | [], y :: ys => by simp [PyData.eqvAll]
  | z :: zs, [] => by simp [PyData.eqvAll]
  | z :: zs, y :: ys => by
    show PyData.eqvAll (.str z :: zs.map PyData.str) (.str y :: ys.map PyData.str) = _
    rw [PyData.eqvAll, PyData.eqv, eqv_strs zs ys]
    by_cases h1 : z = y
    · subst h1
      by_cases h2 : zs = ys
      · subst h2; simp
      · simp [h2]
    · simp [h1]
theorem shaped_strs {zs : List Str} (h : ∀ z ∈ zs, okS z) : SeqAt.shaped (.list (zs.map PyData.str)) = true := by
  unfold SeqAt.shaped
  rw [PyData.canLay0, PyData.depth, canLay_strs h, depth_strs]
  rfl
theorem eqB_lst {S : Sto} {x y : List IV} {d e : PyData} (h1 : view 8 S (.lst x) = some d) (h2 : view 8 S (.lst y) = some e) (s1 : SeqAt.shaped d = true) (s2 : SeqAt.shaped e = true) : eqB S (.lst x) (.lst y) = some (PyData.eqv d e) := by
  show (match view 8 S (.lst x), view 8 S (.lst y) with
    | some d, some e => if SeqAt.shaped d = true ∧ SeqAt.shaped e = true then some (PyData.eqv d e) else none
    | _, _ => none) = _
  rw [h1, h2]
  show (if SeqAt.shaped d = true ∧ SeqAt.shaped e = true then some (PyData.eqv d e) else none) = _
  rw [if_pos ⟨s1, s2⟩]
theorem view_strs {S : Sto} (n : Nat) (zs : List Str) : view (n + 2) S (.lst (zs.map IV.str)) = some (.list (zs.map PyData.str)) := by
  show (viewL (view (n + 1) S) (zs.map IV.str)).map PyData.list = _
  rw [viewL_strs fun s => rfl]
  rfl
theorem eqB_strs {S : Sto} {zs ys : List Str} (hz : ∀ z ∈ zs, okS z) (hy : ∀ z ∈ ys, okS z) : eqB S (.lst (zs.map IV.str)) (.lst (ys.map IV.str)) = some (decide (zs = ys)) := by
  rw [eqB_lst (view_strs 6 zs) (view_strs 6 ys) (shaped_strs hz) (shaped_strs hy), PyData.eqv, eqv_strs]
section
variable {K : PySem.W.Frag} {mg : Str → Option Value} {h : Heap}
theorem loc_mk {x : Str} {st : Stmt} {ps : List Str} {f : Addr} {od an : Option Addr} {sl : Array (Option Value)} {oc kV dc pm cd ct : Value} (X : K.In h) (G : h.Ns mainGlobals mg)
    (a : PySem.W.nsIn K mainGlobals x = some (some (.ref f))) (l : K.lookup f = some ⟨oc, od, .func (PySem.W.fnOf x x (defArgs st) (defBody st) (defScope st) .none kV dc pm an cd ct), sl⟩) (c : PySem.W.codeIn K cd x = true) (k : PySem.W.keepIn K (.ref f) = true)
    (hb : ∀ (kV doc pm : Value) (an : Option Addr) (cdv ct : Value) (us : List Value), us.length = ps.length → bindArgs (PySem.W.fnOf x x (defArgs st) (defBody st) (defScope st) .none kV doc pm an cdv ct) ⟨us, []⟩ = pure (ps.zip us)) : Loc K mg x st ps :=
  have F := fun_mk (st := st) l c k
  ⟨f, _, PySem.W.mg_of X G a, F, F.binds hb⟩
end
theorem sp_law {K : PySem.W.Frag} {mg : Str → Option Value} {m : List IV → Sto → Out IV} {n : Nat} (hm : ∀ ns : List Int, ns.length ≤ n → ∃ S', m [.wls (ns.map IV.int)] [] = .ok (.bl true) S') {H : Hp} {a : Addr} {ns : List Int} {Q : VK} {E : XK} (hl : ns.length ≤ n) (hS : SqL K H a (ns.map V.int)) (hq : ∀ H', Q (.bl true) H') :
    spM K mg 1 m [.ref a] H Q E := by
  obtain ⟨S', e⟩ := hm ns hl
  have rl : ∀ {w : Wd} (l : List Int), RelL ⟨K, mg, none⟩ w (l.map V.int) (l.map IV.int) := fun {w} l => by
    induction l with
    | nil => exact .nil
    | cons x l ih => exact .cons (.int x) ih
  refine ⟨rfl, ⟨[], H, fun _ => none⟩, [], [.wls (ns.map IV.int)], ?_, .one (.wls hS (rl ns)), ?_⟩
  · refine ⟨rfl, List.nodup_nil, fun n c a h => ?_, fun n a h => ?_, Same.refl _, fun b o h => ?_, fun b o h => ?_⟩
    · simp at h
    · simp at h
    · have h : (none : Option HO) = some o := h
      cases h
    · have h : (none : Option HO) = some o := h
      cases h
  · rw [e]
    intro w' H' l r v rv
    cases rv
    exact hq H'
def lawSp (K : PySem.W.Frag) (n : Nat) : Sp := fun vs H Q _ => ∃ (a : Addr) (ns : List Int), vs = [.ref a] ∧ ns.length ≤ n ∧ SqL K H a (ns.map V.int) ∧ ∀ H', Q (.bl true) H'
section
variable {K : PySem.W.Frag} {h : Heap} {mg : Str → Option Value}
theorem law_mk {x y : Str} {st : Stmt} {f fa : Addr} {od an : Option Addr} {sl : Array (Option Value)} {oc kV dc pm cd ct : Value} (X : K.In h) (G : h.Ns mainGlobals mg) (hfa : mg x = some (.ref fa))
    (a : PySem.W.nsIn K mainGlobals x = some (some (.ref f))) (l : K.lookup f = some ⟨oc, od, .func (PySem.W.fnOf x x (defArgs st) (defBody st) (defScope st) .none kV dc pm an cd ct), sl⟩) (c : PySem.W.codeIn K cd x = true) (k : PySem.W.keepIn K (.ref f) = true)
    (hb : ∀ (kV doc pm : Value) (an : Option Addr) (cdv ct u : Value), bindArgs (PySem.W.fnOf x x (defArgs st) (defBody st) (defScope st) .none kV doc pm an cdv ct) ⟨[u], []⟩ = pure [(y, u)])
    {P : Program} {w : World} {n : Nat} {m : List IV → Sto → Out IV} (hm : ∀ ns : List Int, ns.length ≤ 63 → ∃ S', m [.wls (ns.map IV.int)] [] = .ok (.bl true) S') (H : ∀ (fd : FuncData), Fun K x x st fa fd → ∀ base : Heap, K.In base → base.Ns mainGlobals mg → FnG P w K mg base (CX P w) n fa fd [y] (spM K mg 1 m)) :
    ∃ fd : FuncData, (∀ (s : Shared) (v : Value), BindsTo s fd ⟨[v], []⟩ [(y, v)]) ∧ ∀ base : Heap, K.In base → base.Ns mainGlobals mg → FnG P w K mg base (CX P w) n fa fd [y] (lawSp K 63) := by
  have e := hfa.symm.trans (PySem.W.mg_of X G a)
  cases e
  have F := fun_mk (st := st) l c k
  exact ⟨_, fun s v => .of_eq (hb _ _ _ _ _ _ v), fun base kin ns => (H _ F base kin ns).imp fun vs H Q E ⟨a, xs, e, hl, hS, hq⟩ => by
    subst e
    exact sp_law hm hl hS hq⟩
end
structure BaseC (K : PySem.W.Frag) (mg : Str → Option Value) (x : Str) : Prop where
  ex : ∃ C : Addr, mg x = some (.ref C) ∧ PySem.W.specialIn K (.ref C) "__getattribute__" = some (some (.builtin "type.__getattribute__")) ∧ PySem.W.typeIn K (.ref C) = some (.type "type") ∧
    PySem.W.readsIn K C (.type "type") = true ∧ PySem.W.findCls K (.ref C) (.type "type") "__init__" = some (.val (.builtin "ValueError.__init__"))
section
variable {X : Cx} {e : Expr} {es : List Expr} {ta : TA} {x : Str} {p1 p2 pos : Pos}
theorem pe_clsinit {pl : Sem Bool} (hg : Gl X x) (B : BaseC X.K X.mg x) (hdb : (x == ("__debug__" : Str)) = false) (ha : PA X (e :: es) ta)
    (hc : eval (.Call (.Attribute (.Name x p1) "__init__" p2) (e :: es) [] pos) X.env = (do
      let ov ← eval (.Name x p1) X.env
      standAt p2.atName
      let (f, first) ← holding [ov] (getMethod ov "__init__" pl)
      callWith pos f first (backTo pos (starEach (e :: es) X.env)) (backToKw pos (keywordEach [] X.env))) := by rfl)
    (he : starEach (e :: es) X.env = (false, eval e X.env) :: starEach es X.env := by rfl) (hpl : (backTo pos (starEach es X.env)).any (·.1) = false := by rfl) :
    PE X (.Call (.Attribute (.Name x p1) "__init__" p2) (e :: es) [] pos) (tVeI X.K ta) := by
  obtain ⟨C, hm, ga, ty, rd, fc⟩ := B.ex
  refine ⟨fun pins s σ H Q I h => ?_⟩
  refine PySem.W.methodCall_KW (ld_glob I hg hm ?_ hdb) hc
  obtain ⟨m, fr⟩ := I.fr
  refine PySem.W.method_of_cls fr I.ok.mod.kin ga (PySem.W.cls_val fr I.ok.mod.kin ty rd fc (by decide +kernel) ?_)
  show wpAny _ _ (callWith pos (Value.builtin "ValueError.__init__") [] (backTo pos (starEach (e :: es) X.env)) []) _ _ _
  refine PyProof.Rows.callWith_method1 (thn (ha.run pos pins _ σ H _ (I.tok _) h) fun us s1 ⟨vs, H1, I1, r1, a, C, ws, ev, hl, T, ea, q⟩ => ?_) he hpl
  subst ev
  cases r1 with
  | @cons _ u0 _ ur ra rw' =>
    obtain rfl : u0 = Value.ref a := ra
    have hlen : ur.length ≤ sizeLine := by
      rw [← Paired.length rw', sizeLine_eq]
      omega
    exact oinit_ok T I1 ea hlen fun s' J => ⟨.non, H1, J, rfl, q⟩
end
def exSp (K : PySem.W.Frag) (f : Str) : Sp := fun vs H Q _ => ∃ (a C : Addr) (v : V), vs = [.ref a, v] ∧ OexC K C ∧ PySem.W.findIn K (.ref C) f = some none ∧ H a = some (exo a C none) ∧
  ∀ dx, H dx = none → dx ≠ a → Q .non (upd (upd H dx (exd dx [(f, v)])) a (exo a C (some dx)))
structure EClsAt (K : PySem.W.Frag) (mg : Str → Option Value) (x : Str) (f : Str) (C : Addr) : Prop where
  m : mg x = some (.ref C)
  o : OexC K C
  nf : PySem.W.findIn K (.ref C) f = some none
structure ECal (P : Program) (w : World) (K : PySem.W.Frag) (mg : Str → Option Value) (base : Heap) (x f : Str) : Prop where
  ex : ∃ (C fI : Addr) (fd : FuncData) (a b : Str), EClsAt K mg x f C ∧ PySem.W.findIn K (.ref C) "__init__" = some (some (.ref fI)) ∧ PySem.W.typeIn K (.ref fI) = some (.type "function") ∧
    L2.Binds K fd [a, b] [] ∧ FnL P w K mg base 1 fI fd [a, b] (exSp K f)
section
variable {P : Program} {w : World} {K : PySem.W.Frag} {mg : Str → Option Value} {base : Heap}
def tInit (K : PySem.W.Frag) (f z : Str) : TS := tSeq (tDrop (tVeI K (tCons (tVar 0) (tCons (tC (.str z)) tNil)))) (tOst K f (tVar 0) (tVar 1))
theorem einit_ok {qual : Str} {st : Stmt} {fI : Addr} {fd : FuncData} {f a b z : Str} (F : Fun K "__init__" qual st fI fd) (Sc : FnScope [a, b] [a, b] (defScope st))
    (hb : ∀ (cdv : Value) (A : Around) (outer : List Env) (s : Shared) (H : Hp) (E : XK) (l : List Pin), PSs (cxL P w K mg base [a, b] qual (defScope st) fI cdv A outer s H E l) (defBody st) (tInit K f z)) : FnL P w K mg base 1 fI fd [a, b] (exSp K f) := by
  refine okL F Sc (fun vs H Q E h => by obtain ⟨_, _, _, rfl, _⟩ := h; rfl) fun cdv A outer s H vs Q E l hr hw h => ?_
  obtain ⟨e, C, v, rfl, T, nf, ha, q⟩ := h
  exact ⟨_, hb cdv A outer s H E l, .ref e, rfl, e, C, [.str z], rfl, by simp, T, ha, v, rfl, .ref e, rfl, e, C, rfl, T, nf, .inl ⟨ha, fun dx hn hne => q dx hn hne⟩⟩
end
section
variable {X : Cx} {W : WZ} {e : Expr} {es : List Expr} {ma : IA} {x f : Str} {p pos rpos : Pos}
theorem exc_hp {H1 : Hp} {a dx : Addr} {o o' o'' o3 : HO} (ha : H1 a = none) (hne : dx ≠ a) : upd (del (upd (upd (upd H1 a o) dx o') a o'') a) dx o3 = upd H1 dx o3 := by
  funext b
  by_cases hb : b = dx
  · rw [hb, upd_same, upd_same]
  · rw [upd_ne hb, upd_ne hb]
    by_cases hc : b = a
    · rw [hc, del_same, ha]
    · rw [del_ne hc, upd_ne hc, upd_ne hb, upd_ne hc]
theorem pmk_e (c : ECal X.prog X.w X.K X.mg X.base x f) (tk : Takes X W.x) (hr : RmH 2 X.A) (hw : WarmI X) (hg : Gl X x) (ha : DA X W (e :: es) ma) (hdb : (x == ("__debug__" : Str)) = false)
    (he : starEach (e :: es) X.env = (false, eval e X.env) :: starEach es X.env) (hpl : (backTo pos (starEach es X.env)).any (·.1) = false) :
    L2H.PMk5 X (.Call (.Name x p) (e :: es) [] pos) (fun σ H Q => aM (kx X W) W.x ma σ H fun vs H' => ∃ v, vs = [v] ∧ ∀ d, H' d = none → Q (clsV X.mg x) (some d) (upd H' d (.xd [(f, v)]))) := by
  obtain ⟨C, fI, fd, a, b, ec, iC, tI, bi, F⟩ := c.ex
  have hcl : clsV X.mg x = .ref C := by unfold clsV; rw [ec.m]; rfl
  intro pins s σ H Q I h
  refine pmkL ec.o iC tI F hr hw bi (passes_call tk fun _ _ _ _ z => z.elim) hg ec.m ha hdb he hpl pins s σ H Q I ?_
  obtain ⟨w, S, Λ, r0, s0, p⟩ := h
  refine ⟨w, S, Λ, r0, s0, p.imp fun w1 H1 S1 ivs l1 r1 p1 vs rv => ?_⟩
  obtain ⟨v, rfl, q⟩ := p1 vs rv
  refine ⟨by simp, fun e he => ⟨e, C, v, rfl, ec.o, ec.nf, upd_same, fun dx hdx hne => ⟨rfl, dx, [(f, v)], upd_same, by rw [upd_ne hne, upd_same], by rwa [upd_ne hne] at hdx, ?_⟩⟩⟩
  rw [exc_hp he hne, ← hcl]
  exact q dx (by rwa [upd_ne hne] at hdx)
def iRaise (x f : Str) (ma : IA) : IS := fun Λ S => (ma Λ S).bind fun xs S1 => a1 xs fun v => .exc x S1.length Λ (S1 ++ [.xd [(f, v)]])
theorem raise_post (h : DA X W (e :: es) ma) {D : Ends} {σ : L2.St} {H : Hp} (hx : W.ex = none) (p : sM (kx X W) W.x (iRaise x f ma) D σ H) : aM (kx X W) W.x ma σ H fun vs H' => ∃ v, vs = [v] ∧ ∀ d, H' d = none → W.x (clsV X.mg x) (some d) σ (upd H' d (.xd [(f, v)])) := by
  obtain ⟨w, S, Λ, r0, s0, p⟩ := p
  refine ⟨w, S, Λ, r0, s0, p.bind.imp fun w1 H1 S1 xs l1 r1 p1 vs rv => ?_⟩
  obtain ⟨v, y, rfl, rfl, rv, p1⟩ := a1_post p1 rv
  refine ⟨v, rfl, fun d hd => ?_⟩
  obtain ⟨l2, r2⟩ := r1.alloc (p := d) (o := .xd [(f, v)]) (c := .xd [(f, y)]) hd fun w' l' => ⟨_, upd_same, .cons ⟨rfl, rv.up l'⟩ .nil⟩
  exact p1 _ _ d σ l2 r2 ((s0.up l1).up l2) (by
    show (w1.rho ++ [d])[S1.length]? = some d
    rw [← r1.len]
    simp)
theorem ds_raise (hc : X.calm = true) (tk : Takes X W.x) (hr : RmG 2 X.A) (c : ECal X.prog X.w X.K X.mg X.base x f) (ha : DA X W (e :: es) ma) (hg : Gl X x := by rfl) (hdb : (x == ("__debug__" : Str)) = false := by decide)
    (he : starEach (e :: es) X.env = (false, eval e X.env) :: starEach es X.env := by rfl) (hpl : (backTo pos (starEach es X.env)).any (·.1) = false := by rfl) (hx : W.ex = none := by rfl) :
    DS X W (.Raise (some (.Call (.Name x p) (e :: es) [] pos)) none rpos) (iRaise x f ma) :=
  (ps_raiseL (warm_calm hc) tk (pmk_e c tk hr.hot (warm_calm hc) hg ha hdb he hpl)).imp fun D σ H h => raise_post ha hx h
end
def Fl.gone (i : Nat) : Fl → Fl
  | .nx L => .nx (L.set i none)
  | .bk L => .bk (L.set i none)
  | .ct L => .ct (L.set i none)
  | .rt v => .rt v
def iTryAs (tab : List (Str × Bool)) (i : Nat) (mb : IS) (ms : Str → Nat → IS) : IS := fun Λ S => match mb Λ S with
  | .exc C n L S' => (match tab.lookup C with
    | some true => (noX (ms C n (L.set i none) S')).bind fun fl S2 => .ok (fl.gone i) S2
    | some false => .exc C n L S'
    | none => .bad)
  | o => o
section
variable {X : Cx} {W : WX} {x n : Str} {c : Value} {i : Nat} {body suite : List Stmt} {b₀ : Stmt} {np pos pos' : Pos} {mb : IS} {ms : Str → Nat → IS} {tab : List (Str × Bool)}
theorem sr_out {K K' : KX} {w : Wd} {σ : L2.St} {L : Slots} (i : Nat) (hk : K'.k = K.k) (hx : K.ex = none) (s : SR K' w σ L) : SR K w (σ.set i none) (L.set i none) := by
  refine ⟨by rw [List.length_set, List.length_set]; exact s.len, fun j jv e => ?_, fun j n a d e _ => by rw [hx] at e; cases e⟩
  by_cases hj : j = i
  · subst hj
    have hlt : j < L.length := by have := (List.getElem?_eq_some_iff.mp e).1; rwa [List.length_set] at this
    rw [List.getElem?_set_self hlt] at e
    cases e
  · rw [List.getElem?_set_ne (Ne.symm hj)] at e
    rw [List.getElem?_set_ne (Ne.symm hj)]
    obtain ⟨v, h1, h2⟩ := s.get j jv e
    exact ⟨v, h1, Rel.cx hk _ _ h2⟩
theorem sr_in {K : KX} {w : Wd} {σ : L2.St} {L : Slots} {i n : Nat} {a d : Addr} (hd : w.rho[n]? = some d) (s : SR K w σ L) : SR ⟨K.k, K.mg, some (i, n, a, d)⟩ w (σ.set i (some (.ref a))) (L.set i none) := by
  refine ⟨by rw [List.length_set, List.length_set]; exact s.len, fun j jv e => ?_, fun j n' a' d' e1 e2 => ?_⟩
  · by_cases hj : j = i
    · subst hj
      have hlt : j < L.length := by have := (List.getElem?_eq_some_iff.mp e).1; rwa [List.length_set] at this
      rw [List.getElem?_set_self hlt] at e
      cases e
    · rw [List.getElem?_set_ne (Ne.symm hj)] at e
      rw [List.getElem?_set_ne (Ne.symm hj)]
      obtain ⟨v, h1, h2⟩ := s.get j jv e
      exact ⟨v, h1, Rel.cx (K := K) (K' := ⟨K.k, K.mg, some (i, n, a, d)⟩) rfl _ _ h2⟩
  · have e1 : some (i, n, a, d) = some (j, n', a', d') := e1
    cases e1
    have hlt : i < L.length := by have := (List.getElem?_eq_some_iff.mp e2).1; rwa [List.length_set] at this
    exact ⟨by rw [List.getElem?_set_self (by rw [s.len]; exact hlt)], hd⟩
theorem ds_try (hs : X.stack = X.env :: X.outer) (hf : X.env.frame = some X.env.locals) (hN : X.N.Nodup) (i : Nat) (hi : X.N[i]? = some n) (hln : X.env.kindOf n = some .local) (hc : Names X x c) (tk : Takes X W)
    (hT : ∀ C b, tab.lookup C = some b → PySem.W.exmOne X.K (clsV X.mg C) c = some b)
    (hb : ∀ (W' : WX) (pn : List (Addr × Obj)) (xe : Value → Shared → Prop), Takes (X.tr pn xe) W' → PassesOwn (model X.prog X.w) X.A X.env xe → DSs (X.tr pn xe) ⟨W', none⟩ body mb)
    (hsu : ∀ (C : Str) (m : Nat) (a d : Addr) (oe : Obj) (pn : List (Addr × Obj)), tab.lookup C = some true → Zc (clsV X.mg C) (some d) oe → (∃ vs, oe.data = .fields vs) → DSs (X.suite a ((a, oe) :: pn)) ⟨W0, some (i, m, a, d)⟩ (b₀ :: suite) (ms C m)) :
    DS X ⟨W, none⟩ (.Try body [.ExceptHandler (some (.Name x np)) (some n) (b₀ :: suite) pos'] [] [] pos) (iTryAs tab i mb ms) := by
  have h1 := ps_try_as (X := X) (x := x) (n := n) (c := c) (i := i) (body := body) (suite := suite) (b₀ := b₀) (np := np) (pos := pos) (pos' := pos') (tb := fun W' => sM (kx X ⟨W', none⟩) W' mb)
    (ts := fun a cls d D σ H => ∃ C m dd, d = some dd ∧ cls = clsV X.mg C ∧ tab.lookup C = some true ∧ sM ⟨X.K, X.mg, some (i, m, a, dd)⟩ W0 (ms C m) D σ H) (Wout := W) hs hf hN hi hln hc tk
    (fun W' pn xe t po => hb W' pn xe t po) (fun a oe cls d pn hz hd => ⟨fun pins s σ H D I h => by
      obtain ⟨C, m, dd, rfl, rfl, ht, q⟩ := h
      exact (hsu C m a dd oe pn ht hz hd).run pins s σ H D I q⟩)
  refine h1.imp fun D σ H ⟨w, S, Λ, r0, s0, p⟩ => ⟨w, S, Λ, r0, s0, ?_⟩
  unfold iTryAs at p
  cases e : mb Λ S with
  | ok fl S' => rw [e] at p; exact p
  | bad => rw [e] at p; exact p
  | exc C m L S' =>
    rw [e] at p
    have p : Post (kx X ⟨W, none⟩) W w (match tab.lookup C with
      | some true => (noX (ms C m (L.set i none) S')).bind fun fl S2 => .ok (fl.gone i) S2
      | some false => .exc C m L S'
      | none => .bad) _ := p
    intro w' H' a' σ' l r s hr
    cases ht : tab.lookup C with
    | none => rw [ht] at p; exact p.elim
    | some b =>
      refine ⟨b, hT C b ht, fun hb => ?_, fun hb => ?_⟩
      · subst hb
        rw [ht] at p
        intro a ha
        refine ⟨C, m, a', rfl, rfl, ht, w', S', L.set i none, r.cx rfl rfl, sr_in hr s, ?_⟩
        have p : Post (kx X ⟨W, none⟩) W w ((noX (ms C m (L.set i none) S')).bind fun fl S2 => .ok (fl.gone i) S2) _ := p
        cases em : ms C m (L.set i none) S' with
        | ok fl S2 =>
          rw [em] at p
          intro w2 H2 l2 r2
          have p2 := p w2 H2 (l.trans l2) (r2.cx rfl rfl)
          cases fl with
          | nx L2 => exact fun σ2 s2 => p2 _ (sr_out (K := kx X ⟨W, none⟩) (K' := ⟨X.K, X.mg, some (i, m, a, a')⟩) i rfl rfl s2)
          | bk L2 => exact fun σ2 s2 => p2 _ (sr_out (K := kx X ⟨W, none⟩) (K' := ⟨X.K, X.mg, some (i, m, a, a')⟩) i rfl rfl s2)
          | ct L2 => exact fun σ2 s2 => p2 _ (sr_out (K := kx X ⟨W, none⟩) (K' := ⟨X.K, X.mg, some (i, m, a, a')⟩) i rfl rfl s2)
          | rt v => exact fun v' rv => p2 v' (Rel.cx (K := ⟨X.K, X.mg, some (i, m, a, a')⟩) (K' := kx X ⟨W, none⟩) rfl _ _ rv)
        | exc C2 m2 L2 S2 => rw [em] at p; exact p.elim
        | bad => rw [em] at p; exact p.elim
      · subst hb
        rw [ht] at p
        exact p w' H' a' σ' l r s hr
end
def iXf (i m : Nat) (f : Str) : IE := fun Λ S => match Λ[i]?, S[m]? with
  | some none, some (.xd fs) => (match fs.lookup f with
    | some v => .ok v S
    | none => .bad)
  | _, _ => .bad
theorem relKV_lookup {K : KX} {w : Wd} {f : Str} : ∀ {ps : List (Str × V)} {fs : List (Str × IV)} {iv : IV}, RelKV K w ps fs → fs.lookup f = some iv → ∃ v, ps.lookup f = some v ∧ Rel K w v iv
  | _, _, _, .nil, e => by cases e
  | (k, v) :: ps, (k', u) :: fs, iv, .cons ⟨h1, h2⟩ t, e => by
    have h1 : k = k' := h1
    subst h1
    unfold List.lookup at e ⊢
    cases hk : f == k with
    | true =>
      rw [hk] at e
      cases e
      exact ⟨v, rfl, h2⟩
    | false =>
      rw [hk] at e
      exact relKV_lookup t e
section
variable {X : Cx} {i m : Nat} {a d : Addr} {oe : Obj} {pn : List (Addr × Obj)} {n f C : Str} {p pos : Pos}
theorem de_xf (hz : Zc (clsV X.mg C) (some d) oe) (hf : ∃ vs, oe.data = .fields vs) (hC : ∃ Ca, X.mg C = some (.ref Ca) ∧ XfC X.K Ca ∧ PySem.W.findIn X.K (.ref Ca) f = some none)
    (hN : X.N[i]? = some n := by rfl) (hv : Vis X.env.scope n := by first | exact Or.inl rfl | exact Or.inr (Or.inl rfl) | exact Or.inr (Or.inr rfl)) (hd : (n == ("__debug__" : Str)) = false := by decide)
    (hcd : (n == ("__classdict__" : Str)) = false := by decide) (hb : attributeBase (.Name n p) f X.env (eval (.Name n p) X.env) = eval (.Name n p) X.env := by rfl) :
    DE (X.suite a ((a, oe) :: pn)) ⟨W0, some (i, m, a, d)⟩ (.Attribute (.Name n p) f pos) (iXf i m f) := by
  obtain ⟨Ca, hm, hxf, hno⟩ := hC
  have hcl : clsV X.mg C = .ref Ca := by unfold clsV; rw [hm]; rfl
  refine (pe_xf (X := X) (cls := clsV X.mg C) (d := some d) hxf hno hz hf (pe_var (X := X.suite a ((a, oe) :: pn)) hN hv hd hcd) hb).imp fun σ H Q ⟨w, S, Λ, r0, s0, p⟩ => ?_
  unfold iXf at p
  split at p
  · rename_i fs h1 h2
    obtain ⟨g1, g2⟩ := s0.ex i m a d rfl h1
    obtain ⟨ps, h3, h4⟩ := r0.cell m _ d h2 g2
    split at p
    · rename_i iv h5
      obtain ⟨v, h6, h7⟩ := relKV_lookup h4 h5
      exact ⟨.ref a, g1, rfl, hcl, d, ps, v, rfl, h3, h6, p.now r0 v h7⟩
    · exact p.elim
  · exact p.elim
end
def onI {α : Type} (S : Sto) (C : Str) (x : IV) (k : Nat → List (Str × IV) → Out α) : Out α := match x with
  | .adr n => (match S[n]? with
    | some (.ins D fs) => if D = C then k n fs else .bad
    | _ => .bad)
  | _ => .bad
theorem RelKV.up {κ : Type} {K : KX} {w w' : Wd} {a : List (κ × V)} {b : List (κ × IV)} (h : RelKV K w a b) (l : w.le w') : RelKV K w' a b := h.mono l.1
def fFld (C f : Str) (x : IV) (S : Sto) : Out IV := onI S C x fun _ fs => orBad (fs.lookup f) fun v => .ok v S
def MCal (P : Program) (w : World) (K : PySem.W.Frag) (mg : Str → Option Value) (base : Heap) (C m : Str) (k : Nat) (ps : List Str) (mf : List IV → Sto → Out IV) : Prop :=
  ∃ (Ca f : Addr) (fd : FuncData), mg C = some (.ref Ca) ∧ Cls K Ca ∧ Meth K Ca m f ∧ L2.Binds K fd ps [] ∧ FnG P w K mg base (CX P w) k f fd ps (spM K mg ps.length mf)
def iBad {α : Type} : Slots → Sto → Out α := fun _ _ => .bad
section
variable {X : Cx} {W : WZ}
theorem de_bad {e : Expr} : DE X W e iBad := ⟨fun _ _ _ _ _ _ ⟨_, _, _, _, _, p⟩ => p.elim⟩
end
def valI (kvs : List (Key × IV)) (k : Key) : Option IV := (kvs.find? fun kv => decide (kv.1 = k)).map (·.2)
def putK' (kvs : List (Key × IV)) (k : Key) (v : IV) : List (Key × IV) :=
  if (kvs.any fun kv => decide (kv.1 = k)) = true then kvs.map (fun kv => if kv.1 = k then (kv.1, v) else kv) else kvs ++ [(k, v)]
def fTuple (xs : List IV) (S : Sto) : Out IV := a1 xs fun x => match x with
  | .tup ys => .ok (.tup ys) S
  | x => orBad (lstX S x) fun ys => mkT ys S
def iXIs (i m : Nat) (b : Bool) : IE := fun Λ S => match Λ[i]?, S[m]? with
  | some none, some (.xd _) => .ok (.bl b) S
  | _, _ => .bad
theorem call_isX {X : Cx} {a d Ca : Addr} {oe : Obj} {pn : List (Addr × Obj)} (C : ExcC X.K Ca) (hz : Zc (.ref Ca) (some d) oe) (hf : ∃ vs, oe.data = .fields vs) :
    CallR (X.suite a ((a, oe) :: pn)) (.builtin "isinstance") (fun xs H Q => ∃ (c : V) (cv : Value) (b : Bool), xs = [.ref a, c] ∧ (∀ u, RelV c u → u = cv) ∧ PySem.W.kitOne X.K (.ref Ca) cv = some b ∧ (∃ fs, H d = some (.xd fs)) ∧ Q (.bl b) H) := by
  intro pins s σ H xs us Q I r h
  obtain ⟨c, cv, b, rfl, hcv, e, ⟨fs, hx⟩, q⟩ := h
  cases r with
  | cons rx rr =>
    cases rr with
    | cons rt rr =>
      cases rr
      cases rx
      have ec := hcv _ rt
      subst ec
      obtain ⟨hget, _⟩ := I.pin (a, oe) (List.mem_append.mpr (.inl List.mem_cons_self))
      obtain ⟨vs, hv⟩ := hf
      obtain ⟨mA, hns, hr⟩ := (show ObjOk X.prog X.w H s.heap d (.xd fs) from I.hok d _ hx)
      obtain ⟨od, ho, hl⟩ := lookIn_ns hns
      have J : PySem.W.InstAt s.heap a oe Ca (some od) := ⟨hget, hz.1, by unfold PySem.W.notCls; rw [hv] <;> rfl, by rw [hz.2]; exact ho⟩
      have hcl : (PySem.W.clsIn X.K Ca).isSome = true := by
        obtain ⟨cd, hc, _⟩ := PySem.W.any_some C.hd
        rw [hc]; rfl
      exact PySem.W.kia_one (PySem.W.kitx_exc hcl C.hg C.hk C.hs C.ha C.hn C.ht C.hm) I.kIn J e (fun z => nomatch z) fun tk => ⟨.bl b, H, I.kept (t' := tk) fun _ _ z => z, rfl, q⟩
section
variable {X : Cx} {i m : Nat} {a d : Addr} {oe : Obj} {pn : List (Addr × Obj)} {n C x : Str} {p q r pos : Pos}
def ClsN (mg : Str → Option Value) (x : Str) (cv : Value) : Prop := (mg x = some cv ∧ ∃ A, cv = .ref A) ∨ (mg x = none ∧ bootBuiltins x = some cv ∧ ∃ T, cv = .type T)
theorem de_isX {b : Bool} {cv : Value} (hz : Zc (clsV X.mg C) (some d) oe) (hf : ∃ vs, oe.data = .fields vs) (hC : ∃ Ca, X.mg C = some (.ref Ca) ∧ ExcC X.K Ca ∧ PySem.W.kitOne X.K (.ref Ca) cv = some b) (hx : ClsN X.mg x cv)
    (hm : X.mg "isinstance" = none) (hgx : Gl X x := by rfl) (hg : Gl X "isinstance" := by rfl) (hxn : x ≠ "__name__" := by decide) (hdx : (x == ("__debug__" : Str)) = false := by decide)
    (hN : X.N[i]? = some n := by rfl) (hv : Vis X.env.scope n := by first | exact Or.inl rfl | exact Or.inr (Or.inl rfl) | exact Or.inr (Or.inr rfl)) (hd : (n == ("__debug__" : Str)) = false := by decide)
    (hcd : (n == ("__classdict__" : Str)) = false := by decide) (hst : starEach [.Name n q, .Name x r] X.env = (false, eval (.Name n q) X.env) :: starEach [.Name x r] X.env := by rfl) (hst2 : starEach [.Name x r] X.env = (false, eval (.Name x r) X.env) :: starEach [] X.env := by rfl)
    (hpl : (backTo pos (starEach [.Name x r] X.env)).any (·.1) = false := by rfl) :
    DE (X.suite a ((a, oe) :: pn)) ⟨W0, some (i, m, a, d)⟩ (.Call (.Name "isinstance" p) [.Name n q, .Name x r] [] pos) (iXIs i m b) := by
  obtain ⟨Ca, hmC, hE, hk⟩ := hC
  have hcl : clsV X.mg C = .ref Ca := by unfold clsV; rw [hmC]; rfl
  have key : ∃ c : V, (∀ u, RelV c u → u = cv) ∧ PE (X.suite a ((a, oe) :: pn)) (.Name x r) (tC c) := by
    rcases hx with ⟨h1, A, rfl⟩ | ⟨h1, h2, T, rfl⟩
    · exact ⟨.ref A, fun u ru => ru, pe_glob (X := X.suite a ((a, oe) :: pn)) hgx h1 (v := .ref A) rfl hdx⟩
    · exact ⟨.ty T, fun u ru => ru, pe_bltn (X := X.suite a ((a, oe) :: pn)) hgx h1 h2 (v := .ty T) rfl hxn hdx⟩
  obtain ⟨c, hcv, hpe⟩ := key
  have P1 := pe_callB (X := X.suite a ((a, oe) :: pn)) (x := "isinstance") (p := p) (pos := pos) (call_isX hE (hcl ▸ hz) hf) hg hm rfl
    (pa_cons (X := X.suite a ((a, oe) :: pn)) (pe_var (X := X.suite a ((a, oe) :: pn)) hN hv hd hcd) (pa_cons (X := X.suite a ((a, oe) :: pn)) hpe pa_nil hst2) hst) (by decide) (by decide) hst hpl
  refine P1.imp fun σ H Q ⟨w, S, Λ, r0, s0, p⟩ => ?_
  unfold iXIs at p
  split at p
  · rename_i fs h1 h2
    obtain ⟨g1, g2⟩ := s0.ex i m a d rfl h1
    obtain ⟨ps, h3, h4⟩ := r0.cell m _ d h2 g2
    exact ⟨.ref a, g1, c, cv, b, rfl, hcv, hk, ⟨ps, h3⟩, p.now r0 _ (.bl b)⟩
  · exact p.elim
end
def TryT (K : PySem.W.Frag) (mg : Str → Option Value) (x : Str) (tab : List (Str × Bool)) : Prop := (∃ D : Addr, mg x = some (.ref D)) ∧ ∀ C b, tab.lookup C = some b → PySem.W.exmOne K (clsV mg C) (clsV mg x) = some b
def XfT (K : PySem.W.Frag) (mg : Str → Option Value) (tab : List (Str × Bool)) (f : Str) : Prop := ∀ C, tab.lookup C = some true → ∃ Ca : Addr, mg C = some (.ref Ca) ∧ XfC K Ca ∧ PySem.W.findIn K (.ref Ca) f = some none
def XiT (K : PySem.W.Frag) (mg : Str → Option Value) (tab : List (Str × Bool)) (x : Str) (ist : List (Str × Bool)) : Prop := ∃ cv : Value, ClsN mg x cv ∧ ∀ C, tab.lookup C = some true → ∀ b, ist.lookup C = some b → ∃ Ca : Addr, mg C = some (.ref Ca) ∧ ExcC K Ca ∧ PySem.W.kitOne K (.ref Ca) cv = some b
section
variable {X : Cx} {W : WX} {x n : Str} {body suite : List Stmt} {b₀ : Stmt} {np pos pos' : Pos} {mb : IS} {ms : Str → Nat → IS} {tab : List (Str × Bool)}
theorem ds_tryN (hs : X.stack = X.env :: X.outer) (hf : X.env.frame = some X.env.locals) (hN : X.N.Nodup) (i : Nat) (hT : TryT X.K X.mg x tab) (tk : Takes X W)
    (hb : ∀ (W' : WX) (pn : List (Addr × Obj)) (xe : Value → Shared → Prop), Takes (X.tr pn xe) W' → PassesOwn (model X.prog X.w) X.A X.env xe → DSs (X.tr pn xe) ⟨W', none⟩ body mb)
    (hsu : ∀ (C : Str) (m : Nat) (a d : Addr) (oe : Obj) (pn : List (Addr × Obj)), tab.lookup C = some true → Zc (clsV X.mg C) (some d) oe → (∃ vs, oe.data = .fields vs) → DSs (X.suite a ((a, oe) :: pn)) ⟨W0, some (i, m, a, d)⟩ (b₀ :: suite) (ms C m))
    (hi : X.N[i]? = some n := by rfl) (hln : X.env.kindOf n = some .local := by rfl) (hg : Gl X x := by rfl) (hd : (x == ("__debug__" : Str)) = false := by decide) :
    DS X ⟨W, none⟩ (.Try body [.ExceptHandler (some (.Name x np)) (some n) (b₀ :: suite) pos'] [] [] pos) (iTryAs tab i mb ms) := by
  obtain ⟨⟨D, hD⟩, hT⟩ := hT
  refine ds_try (c := clsV X.mg x) hs hf hN i hi hln ⟨hg, hd, .inl ?_⟩ tk hT hb hsu
  unfold clsV
  rw [hD]
  rfl
end
def iXIsT (i m : Nat) (ist : List (Str × Bool)) (C : Str) : IE := match ist.lookup C with
  | some b => iXIs i m b
  | none => iBad
section
variable {X : Cx} {i m : Nat} {a d : Addr} {oe : Obj} {pn : List (Addr × Obj)} {n C x f : Str} {p q r pos : Pos} {tab ist : List (Str × Bool)}
theorem de_isXT (h : XiT X.K X.mg tab x ist) (hC : tab.lookup C = some true) (hz : Zc (clsV X.mg C) (some d) oe) (hf : ∃ vs, oe.data = .fields vs)
    (hm : X.mg "isinstance" = none) (hgx : Gl X x := by rfl) (hg : Gl X "isinstance" := by rfl) (hxn : x ≠ "__name__" := by decide) (hdx : (x == ("__debug__" : Str)) = false := by decide)
    (hN : X.N[i]? = some n := by rfl) (hv : Vis X.env.scope n := by first | exact Or.inl rfl | exact Or.inr (Or.inl rfl) | exact Or.inr (Or.inr rfl)) (hd : (n == ("__debug__" : Str)) = false := by decide)
    (hcd : (n == ("__classdict__" : Str)) = false := by decide) (hst : starEach [.Name n q, .Name x r] X.env = (false, eval (.Name n q) X.env) :: starEach [.Name x r] X.env := by rfl) (hst2 : starEach [.Name x r] X.env = (false, eval (.Name x r) X.env) :: starEach [] X.env := by rfl)
    (hpl : (backTo pos (starEach [.Name x r] X.env)).any (·.1) = false := by rfl) :
    DE (X.suite a ((a, oe) :: pn)) ⟨W0, some (i, m, a, d)⟩ (.Call (.Name "isinstance" p) [.Name n q, .Name x r] [] pos) (iXIsT i m ist C) := by
  obtain ⟨cv, h1, h2⟩ := h
  unfold iXIsT
  split
  · rename_i b hb
    exact de_isX hz hf (h2 C hC b hb) h1 hm hgx hg hxn hdx hN hv hd hcd hst hst2 hpl
  · exact de_bad
theorem de_xfT (h : XfT X.K X.mg tab f) (hC : tab.lookup C = some true) (hz : Zc (clsV X.mg C) (some d) oe) (hf : ∃ vs, oe.data = .fields vs)
    (hN : X.N[i]? = some n := by rfl) (hv : Vis X.env.scope n := by first | exact Or.inl rfl | exact Or.inr (Or.inl rfl) | exact Or.inr (Or.inr rfl)) (hd : (n == ("__debug__" : Str)) = false := by decide)
    (hcd : (n == ("__classdict__" : Str)) = false := by decide) (hb : attributeBase (.Name n p) f X.env (eval (.Name n p) X.env) = eval (.Name n p) X.env := by rfl) :
    DE (X.suite a ((a, oe) :: pn)) ⟨W0, some (i, m, a, d)⟩ (.Attribute (.Name n p) f pos) (iXf i m f) := de_xf hz hf (h C hC) hN hv hd hcd hb
end
section
variable {K : PySem.W.Frag} {h : Heap} {mg : Str → Option Value}
theorem base_mk {x : Str} {Ca : Addr} (X : K.In h) (G : h.Ns mainGlobals mg) (hm : PySem.W.nsIn K mainGlobals x = some (some (.ref Ca))) (ga : PySem.W.specialIn K (.ref Ca) "__getattribute__" = some (some (.builtin "type.__getattribute__"))) (ty : PySem.W.typeIn K (.ref Ca) = some (.type "type"))
    (rd : PySem.W.readsIn K Ca (.type "type") = true) (fc : PySem.W.findCls K (.ref Ca) (.type "type") "__init__" = some (.val (.builtin "ValueError.__init__"))) : BaseC K mg x := ⟨Ca, PySem.W.mg_of X G hm, ga, ty, rd, fc⟩
def ELoc (K : PySem.W.Frag) (mg : Str → Option Value) (x f a b qual : Str) (st : Stmt) : Prop := ∃ (C fI : Addr) (fd : FuncData), EClsAt K mg x f C ∧ PySem.W.findIn K (.ref C) "__init__" = some (some (.ref fI)) ∧ PySem.W.typeIn K (.ref fI) = some (.type "function") ∧
  L2.Binds K fd [a, b] [] ∧ Fun K "__init__" qual st fI fd
theorem oex_mk {C : Addr} {nm q : Str} {N : Addr} {bs bm : List Value} {sn : List Str} {sub : List Value} {ab : Bool} {col : Option Bool} {dd : Option Addr} {k0 k1 k2 k3 k5 : Option Value} (lk : K.lookup C = some (excClassObj nm q C N bs bm true sn sub ab col dd k0 k1 k2 k3 k5 "ValueError.__new__"))
    (rv : PySem.HandSPX.refsVE bm = true) (sa : PySem.W.findIn K (.ref C) "__setattr__" = some (some (.builtin "object.__setattr__"))) (exC : PySem.W.subIn K (.ref C) (.type "BaseException") = some true) (tyC : PySem.W.typeIn K (.ref C) = some (.type "type")) (kC : PySem.W.keepIn K (.ref C) = true) : OexC K C :=
  ⟨⟨nm, q, N, bs, bm, sn, sub, ab, col, dd, k0, k1, k2, k3, k5, lk, rv⟩, sa, exC, tyC, kC⟩
theorem ecal_def {P : Program} {w : World} {base : Heap} {x f a b qual z : Str} {st : Stmt} (L : ELoc K mg x f a b qual st) (Sc : FnScope [a, b] [a, b] (defScope st))
    (hb : ∀ (fI : Addr) (cdv : Value) (A : Around) (outer : List Env) (s : Shared) (H : Hp) (E : XK) (l : List Pin), PSs (cxL P w K mg base [a, b] qual (defScope st) fI cdv A outer s H E l) (defBody st) (tInit K f z)) : ECal P w K mg base x f := by
  obtain ⟨C, fI, fd, h1, h2, h3, h4, h5⟩ := L
  exact ⟨C, fI, fd, a, b, h1, h2, h3, h4, einit_ok h5 Sc (hb fI)⟩
theorem clsV_mk {C : Str} {Ca : Addr} (X : K.In h) (G : h.Ns mainGlobals mg) (hm : PySem.W.nsIn K mainGlobals C = some (some (.ref Ca))) : clsV mg C = .ref Ca := by
  unfold clsV
  rw [PySem.W.mg_of X G hm]
  rfl
def AllT (P : Str → Bool → Prop) : List (Str × Bool) → Prop
  | [] => True
  | (C, b) :: t => P C b ∧ AllT P t
theorem allT_of {P : Str → Bool → Prop} : ∀ {t : List (Str × Bool)}, AllT P t → ∀ C b, t.lookup C = some b → P C b
  | [], _, _, _, e => by cases e
  | (D, c) :: t, h, C, b, e => by
    unfold List.lookup at e
    cases hk : C == D with
    | true =>
      rw [hk] at e
      have := beq_iff_eq.mp hk
      subst this
      cases e
      exact h.1
    | false =>
      rw [hk] at e
      exact allT_of h.2 C b e
end
def fAddI (x y : IV) (S : Sto) : Out IV := asI x fun i => asI y fun j => .ok (.int (i + j)) S
end Sm
namespace Sm
open PySem
theorem xi_of {tab ist : List (Str × Bool)} {P : Str → Bool → Prop} (h : ∀ C b, ist.lookup C = some b → tab.lookup C = some true → P C b) (C : Str) (hC : tab.lookup C = some true) (b : Bool) (hb : ist.lookup C = some b) : P C b := h C b hb hC
end Sm
namespace Sm
open PySem PySem.Spec PyProof.Rows L2
def iPar (i j : Nat) (ma : IA) : IS := fun Λ S => (ma Λ S).bind fun xs S1 => a2 xs fun x y => .ok (.nx ((Λ.set i (some x)).set j (some y))) S1
section
variable {K : PySem.W.Frag} {t : Value} {D : Addr} {b : Bool}
theorem em_mk {cls : Value} (ex : PySem.W.subIn K (.ref D) (.type "BaseException") = some true) (hd : PySem.W.hasDictIn K D = true) (ty : PySem.W.typeIn K (.ref D) = some (.type "type")) (su : PySem.W.subIn K cls (.ref D) = some b) : PySem.W.exmOne K cls (.ref D) = some b := PySem.W.exm_ref ex hd ty su
theorem kit_mk (hd : PySem.W.hasDictIn K D = true) (ty : PySem.W.typeIn K (.ref D) = some (.type "type")) (su : PySem.W.subIn K t (.ref D) = some b) : PySem.W.kitCls K t (.ref D) = some b := by
  obtain ⟨cd, hc, _⟩ := PySem.W.any_some hd
  have e2 : ((PySem.W.clsIn K D).isSome && PySem.W.typeIn K (.ref D) == some (.type "type")) = true := by rw [hc, ty] <;> rfl
  show (if ((PySem.W.clsIn K D).isSome && PySem.W.typeIn K (.ref D) == some (.type "type")) = true then PySem.W.subIn K t (.ref D) else none) = some b
  rw [if_pos e2]
  exact su
theorem ko_t (hd : PySem.W.hasDictIn K D = true) (ty : PySem.W.typeIn K (.ref D) = some (.type "type")) (su : PySem.W.subIn K t (.ref D) = some true) : PySem.W.kitOne K t (.ref D) = some true := by
  unfold PySem.W.kitOne
  split
  · rfl
  · exact kit_mk hd ty su
theorem ko_f (hd : PySem.W.hasDictIn K D = true) (ty : PySem.W.typeIn K (.ref D) = some (.type "type")) (su : PySem.W.subIn K t (.ref D) = some false) (ne : (t == .ref D) = false) : PySem.W.kitOne K t (.ref D) = some false := by
  unfold PySem.W.kitOne
  rw [ne, if_neg Bool.false_ne_true]
  exact kit_mk hd ty su
theorem ko_ty {C : Addr} {T : String} (mt : PySem.W.kitMeta T = true) (su : PySem.W.subIn K (.ref C) (.type T) = some b) : PySem.W.kitOne K (.ref C) (.type T) = some b := by
  unfold PySem.W.kitOne
  rw [show ((Value.ref C) == Value.type T) = false from rfl, if_neg Bool.false_ne_true]
  show (if PySem.W.kitMeta T = true then PySem.W.subIn K (.ref C) (.type T) else none) = some b
  rw [if_pos mt]
  exact su
end
theorem szL : (sizeLine : Nat) = 16777216 := sizeLine_eq
def Ext (ds : List Nat) (S S' : Sto) : Prop := S.length ≤ S'.length ∧ ∀ m c, S[m]? = some c → m ∉ ds → S'[m]? = some c
section
variable {ds es : List Nat} {S S1 S2 : Sto} {n : Nat} {c : Cell}
theorem Ext.refl : Ext ds S S := ⟨Nat.le_refl _, fun _ _ h _ => h⟩
theorem Ext.get (h : Ext ds S S1) (e : S[n]? = some c) (hn : n ∉ ds := by simp) : S1[n]? = some c := h.2 n c e hn
theorem lt_some {α : Type} {xs : List α} {i : Nat} {x : α} (h : xs[i]? = some x) : i < xs.length := (List.getElem?_eq_some_iff.mp h).1
theorem Ext.trans' (h : Ext ds S S1) (k : Ext es S1 S2) (he : ∀ e ∈ es, e ∈ ds ∨ S.length ≤ e) : Ext ds S S2 :=
  ⟨Nat.le_trans h.1 k.1, fun m c e hm => k.2 m c (h.2 m c e hm) fun z => (he m z).elim hm fun l => absurd (lt_some e) (by omega)⟩
theorem Ext.trans (h : Ext ds S S1) (k : Ext ds S1 S2) : Ext ds S S2 := h.trans' k fun _ z => .inl z
theorem Ext.up (h : Ext ds S S1) (hs : ∀ e ∈ ds, e ∈ es) : Ext es S S1 := ⟨h.1, fun m c e hm => h.2 m c e fun z => hm (hs m z)⟩
theorem Ext.nil (h : Ext [] S S1) : Ext ds S S1 := h.up fun _ z => by cases z
theorem Ext.app (T : Sto) : Ext ds S (S ++ T) := ⟨by simp, fun m c e _ => by rw [List.getElem?_append_left (lt_some e)]; exact e⟩
theorem Ext.set (hn : n ∈ ds ∨ S.length ≤ n) : Ext ds S (S.set n c) := ⟨by simp, fun m d e hm => by
  have : n ≠ m := fun z => hn.elim (fun q => hm (z ▸ q)) fun q => absurd (lt_some e) (by omega)
  rw [List.getElem?_set_ne this]; exact e⟩
theorem get_new (S : Sto) (c : Cell) : (S ++ [c])[S.length]? = some c := by simp
end
section
variable {Λ Λ1 : Slots} {S S1 : Sto} {a b : IS} {m : IE} {v : IV} {i : Nat} {o : Out Fl} {c : IT}
theorem md_rt {n : Nat} {b : IS} {xs : List IV} (h : b (xs.map some ++ List.replicate (n - xs.length) none) S = .ok (.rt v) S1) : mDef n b xs S = .ok v S1 := mDef_rt h
theorem md_nx {n : Nat} {b : IS} {xs : List IV} (h : b (xs.map some ++ List.replicate (n - xs.length) none) S = .ok (.nx Λ1) S1) : mDef n b xs S = .ok .non S1 := by rw [mDef_e, h]
end
section
variable {α : Type} {cell : Bool} {ms : IW} {gi : IV → Slots → Option Slots} {tt : IT} {te : IE} {vs : List Nat} {Λ : Slots} {S S1 : Sto} {k : Option Nat}
theorem lcgo_map {s : Src} (e : α → IV) (T : α → Bool) (F : α → IV) (st : s.stay S) : ∀ (as : List α) (acc : List IV), (∀ a ∈ as, ∃ L, gi (e a) Λ = some L ∧ tt L S = .ok (T a) S ∧ (T a = true → te L S = .ok (F a) S)) → acc.length + as.length ≤ sizeLine →
    iLcGo s gi tt te (as.map e) Λ S acc = .ok (acc ++ (as.filter T).map F) S
  | [], acc, _, _ => by show iLcGo s gi tt te [] Λ S acc = _; unfold iLcGo; rw [chkP_pos st]; simp
  | a :: as, acc, h, hl => by
    obtain ⟨L, h1, h2, h3⟩ := h a List.mem_cons_self
    rw [List.length_cons] at hl
    show iLcGo s gi tt te (e a :: as.map e) Λ S acc = _
    unfold iLcGo
    rw [chkP_pos st, h1, orBad_some, h2, noX_ok, Out.bind_ok]
    cases hT : T a with
    | true =>
      rw [if_pos rfl, h3 hT, noX_ok, Out.bind_ok, chk_pos (by omega), lcgo_map e T F st as _ (fun b hb => h b (List.mem_cons_of_mem _ hb)) (by rw [List.length_append, List.length_singleton]; omega), List.filter_cons, hT]
      simp
    | false =>
      rw [if_neg Bool.false_ne_true, lcgo_map e T F st as _ (fun b hb => h b (List.mem_cons_of_mem _ hb)) (by omega), List.filter_cons, hT]
      simp
theorem lc_map (as : List α) (e : α → IV) (T : α → Bool) (F : α → IV) (hs : ms Λ S = .ok ⟨as.map e, k⟩ S1) (st : Src.stay ⟨as.map e, k⟩ S1)
    (h : ∀ a ∈ as, ∃ L, gi (e a) (wipeI Λ vs) = some L ∧ tt L S1 = .ok (T a) S1 ∧ (T a = true → te L S1 = .ok (F a) S1)) (hl : as.length ≤ sizeLine) : iLc cell ms gi tt te vs Λ S = mkL cell ((as.filter T).map F) S1 := by
  rw [iLc_e, hs]
  simp only [Out.bind_ok]
  rw [lcgo_map e T F st as [] h (by simpa using hl)]
  rfl
end
theorem rangeI_map (lo : Int) (n : Nat) : rangeI lo n = (List.range n).map fun i : Nat => IV.int (lo + i) := rfl
end Sm
set_option maxHeartbeats 2000000
namespace PySem
open Sem (wp)
end PySem
set_option maxHeartbeats 2000000
namespace L2
open PySem PySem.Spec PyProof.Rows
end L2
namespace Sm
open PySem PySem.Spec PyProof.Rows L2
set_option maxHeartbeats 2000000
noncomputable def iLcGoX (s : Src) (gi : IV → Slots → Option Slots) (tt : IT) (te : IE) (Λ0 : Slots) : List IV → Slots → Sto → List IV → Out (List IV)
  | [], _, S, acc => chkP (s.stay S) (.ok acc S)
  | x :: xs, Λ, S, acc => chkP (s.stay S) (orBad (gi x Λ) fun L => (noX (tt L S)).bind fun b S1 => if b = true then (relab Λ0 (te L S1)).bind fun y S2 => chk (acc.length < sizeLine) (iLcGoX s gi tt te Λ0 xs Λ S2 (acc ++ [y])) else iLcGoX s gi tt te Λ0 xs Λ S1 acc)
noncomputable def iLcX (cell : Bool) (ms : IW) (gi : IV → Slots → Option Slots) (tt : IT) (te : IE) (vs : List Nat) : IE := fun Λ S => (ms Λ S).bind fun s S1 => (iLcGoX s gi tt te Λ s.items (wipeI Λ vs) S1 []).bind fun acc S2 => mkL cell acc S2
@[simp] theorem iLcX_e (cell : Bool) (ms : IW) (gi : IV → Slots → Option Slots) (tt : IT) (te : IE) (vs : List Nat) (Λ : Slots) (S : Sto) : iLcX cell ms gi tt te vs Λ S = (ms Λ S).bind fun s S1 => (iLcGoX s gi tt te Λ s.items (wipeI Λ vs) S1 []).bind fun acc S2 => mkL cell acc S2 := rfl
end Sm
namespace Sm
open PySem PySem.Spec PyProof.Rows L2 NwS
end Sm
namespace Sm
open PySem PySem.Spec PyProof.Rows L2
end Sm
namespace Sm
open PySem PySem.Spec PyProof.Rows L2
end Sm
namespace Sm
open PySem PySem.Spec PyProof.Rows L2 NwS
end Sm
namespace Sm
open PySem PySem.Spec PyProof.Rows L2
end Sm
set_option maxHeartbeats 1000000
namespace Lw
open PySem PySem.Spec PyProof.Rows L2 Sm
def Dr (S : Sto) (n : Nat) (K : Nat) : Prop := ∃ a b c : Int, S[n]? = some (.lst [.int a, .int b, .int c]) ∧ 0 ≤ c ∧ c ≤ K
theorem Dr.up {S : Sto} {n K M : Nat} (h : Dr S n K) (l : K ≤ M) : Dr S n M := by
  obtain ⟨a, b, c, e, c0, c1⟩ := h
  exact ⟨a, b, c, e, c0, by omega⟩
theorem Dr.lt {S : Sto} {n K : Nat} (h : Dr S n K) : n < S.length := by
  obtain ⟨a, b, c, e, _⟩ := h
  exact lt_some e
theorem Dr.ext {S S' : Sto} {n K : Nat} {ds : List Nat} (h : Dr S n K) (x : Ext ds S S') (hn : n ∉ ds := by simp) : Dr S' n K := by
  obtain ⟨a, b, c, e, c0, c1⟩ := h
  exact ⟨a, b, c, x.get e hn, c0, c1⟩
def sourceB (P : Int) (cc : Int) (D : Int) : IS := (iSeq (iSet 2 (iIf (iTest (iBin fLt (iVar 1) (iCa fLen (iCons (iVar 0) iNil)))) (iBin fIx (iVar 0) (iVar 1)) (iC (.int 0)))) (iSeq (iSet 3 (iIf (iTest (iBin fGe (iCa fAbs (iCons (iVar 2) iNil)) (iBin fPow (iC (.int 10)) (iC (.int 18))))) (iCa fAbs (iCons (iVar 2) iNil)) (iC (.int 0))))
  (iRet (iLst true (iCons (iVar 3) (iCons (iBin fAdd (iBin fAdd (iBin fMod (iCa fInt (iCons (iVar 2) iNil)) (iC (.int P))) (iBin fMul (iC (.int cc)) (iVar 1))) (iC (.int D))) (iCons (iC (.int 0)) iNil)))))))
theorem source_ok {P cc D : Int} (hP : 0 < P) (hc : -(2 ^ 64) < cc ∧ cc < 2 ^ 64) {S : Sto} {ns : List Int} {i : Nat} : ∃ S', mDef 4 (sourceB P cc D) [.wls (ns.map IV.int), .int i] S = .ok (.adr S.length) S' ∧ Dr S' S.length 0 ∧ Ext [] S S' ∧ S'.length = S.length + 1 := by
  have z3 : (3 : Nat) ≤ sizeLine := by rw [szL]; decide
  have kp : CPow 10 18 := by decide
  have km : CMul cc (i : Int) := .inl ⟨hc.1, hc.2⟩
  obtain ⟨c, hc⟩ : ∃ c : Int, (iIf (iTest (iBin fLt (iVar 1) (iCa fLen (iCons (iVar 0) iNil)))) (iBin fIx (iVar 0) (iVar 1)) (iC (.int 0)) : IE) [some (.wls (ns.map IV.int)), some (.int i), none, none] S = .ok (.int c) S := by
    by_cases h : i < ns.length
    · refine ⟨ns[i], ?_⟩
      have e : atI (ns.map IV.int) (i : Int) = some (.int ns[i]) := atI_nat (by rw [List.getElem?_map, List.getElem?_eq_getElem h]; rfl)
      simp [iVar_s, h, e]
    · refine ⟨0, ?_⟩
      simp [iVar_s, h]
  let a : Int := if (10 : Int) ^ 18 ≤ (if c < 0 then -c else c) then (if c < 0 then -c else c) else 0
  refine ⟨S ++ [.lst [.int a, .int (c % P + cc * i + D), .int 0]], ?_, ⟨_, _, _, get_new _ _, Int.le_refl 0, Int.le_refl 0⟩, .app _, by simp⟩
  refine mDef_rt ?_
  unfold sourceB
  rw [iSeq_e, iSet_e]
  show ((Out.bind (iIf _ _ _ [some (.wls (ns.map IV.int)), some (.int i), none, none] S) _).bind _) = _
  rw [hc]
  by_cases h : (10 : Int) ^ 18 ≤ (if c < 0 then -c else c)
  · have ha : a = (if c < 0 then -c else c) := if_pos h
    have h' : (1000000000000000000 : Int) ≤ (if c < 0 then -c else c) := h
    simp [iVar_s, kp, chk_pos, km, z3, h', hP, ha]
  · have ha : a = 0 := if_neg h
    have h' : ¬ (1000000000000000000 : Int) ≤ (if c < 0 then -c else c) := h
    simp [iVar_s, kp, chk_pos, km, z3, h', hP, ha]
set_option maxHeartbeats 2000000
def alpha : Str := "abcdefghijklmnopqrstuvwxyz"
theorem alpha_lt {c : Nat} (h : c ∈ sg alpha) : c < 1114112 := by
  have h2 : (sg alpha).all (fun c => decide (c < 1114112)) = true := by decide +kernel
  exact of_decide_eq_true (List.all_eq_true.mp h2 c h)
def Abc (s : Str) : Prop := ∀ c ∈ sg s, c ∈ sg alpha
theorem Abc.ok {s : Str} (h : Abc s) : okS s := fun c hc => alpha_lt (h c hc)
structure Pool (ps kept : List Str) : Prop where
  abc : ∀ p ∈ ps, Abc p
  len : ∀ p ∈ ps, 1 ≤ p.length ∧ p.length ≤ 5
  nk : ∀ p ∈ ps, p ∉ kept
  nd : ps.Nodup
def keptA : List Str := ["ahead", "all", "as", "at", "call", "class", "def", "end", "for", "from", "keep", "none", "often"]
def keptB : List Str := ["once", "or", "patch", "set", "stand", "start", "stop", "table", "test", "using", "with"]
def keptL : List Str := keptA ++ keptB
set_option maxHeartbeats 2000000
abbrev NR := Str × List Str
structure RsOk (rs : List NR) : Prop where
  n : rs.length ≤ 100000
  r : ∀ p ∈ rs, p.2.length ≤ 100000 ∧ okS p.1 ∧ ∀ s ∈ p.2, okS s
theorem RsOk.ok {rs : List NR} (h : RsOk rs) : ∀ r ∈ rs.map (fun p : NR => p.1 :: p.2), ∀ s ∈ r, okS s := fun r hr s hs => by
  obtain ⟨p, hp, rfl⟩ := List.mem_map.mp hr
  obtain ⟨_, h2, h3⟩ := h.r p hp
  exact (List.mem_cons.mp hs).elim (fun e => e ▸ h2) (h3 s)
set_option maxHeartbeats 2000000
end Lw
set_option maxHeartbeats 4000000
namespace RD
open PySem PySem.Spec PyProof.Rows L2 Sm
def c_KEYWORDS : List Str := ["ahead", "all", "as", "at", "call", "class", "def", "either", "end", "for", "from", "\x69mport", "keep", "module", "none", "often", "once", "or", "outside", "patch", "set", "stand", "start", "stop", "table", "test", "using", "with"]
set_option maxHeartbeats 2000000
def alpha : Str := "abcdefghijklmnopqrstuvwxyz"
def abc (s : Str) : Bool := (sg s).all (fun c => decide (c ∈ sg alpha))
def nameB (s : Str) : Bool := decide (1 ≤ s.length ∧ s.length ≤ 8) && abc s && !decide (s ∈ c_KEYWORDS)
def wordsOf (s : Str) : List Str := Txt.split s " "
structure LnOk (s : Str) : Prop where
  len : s.length ≤ 1000000
  cnt : (wordsOf s).length ≤ 1000000
  ok : ∀ w ∈ wordsOf s, w.length ≤ 1000000 ∧ okS w
structure Mod where
  name : Str
  a : Nat
  d : Nat
  rows : List IV
  decl : List (Str × Nat)
def declV (l : List (Str × Nat)) : List (Key × IV) := l.map fun p => (.inr p.1, .int p.2)
structure RQ where
  pos : Nat
  ms : List Mod
  places : List (Key × IV)
  defs : List (Key × IV)
  kept : IV
def rFs (r : Nat) (L : List Str) (pos : Nat) (kept : IV) : List (Str × IV) :=
  [("lines", .lst (L.map .str)), ("at", .int pos), ("modules", .adr (r + 1)), ("rows", .adr (r + 2)), ("declared", .adr (r + 3)), ("places", .adr (r + 4)), ("defs", .adr (r + 5)), ("kept", kept)]
structure MR (S : Sto) (r : Nat) (m : Mod) : Prop where
  a : S[m.a]? = some (.lst m.rows)
  d : S[m.d]? = some (.dic (declV m.decl))
  la : r + 5 < m.a
  ld : r + 5 < m.d
  nm : nameB m.name = true
  db : ∀ p ∈ m.decl, p.2 < 1000000
structure Rep (B : Sto) (r : Nat) (L : List Str) (S : Sto) (q : RQ) : Prop where
  base : Ext [] B S
  bl : B.length ≤ r
  self : S[r]? = some (.ins "Reader" (rFs r L q.pos q.kept))
  mods : S[r + 1]? = some (.lst (q.ms.map fun m => .str m.name))
  rows : S[r + 2]? = some (.dic (q.ms.map fun m => (.inr m.name, .adr m.a)))
  decl : S[r + 3]? = some (.dic (q.ms.map fun m => (.inr m.name, .adr m.d)))
  places : S[r + 4]? = some (.dic q.places)
  defs : S[r + 5]? = some (.dic q.defs)
  ms : ∀ m ∈ q.ms, MR S r m
  na : (q.ms.map (·.a)).Nodup
  nd : (q.ms.map (·.d)).Nodup
  nn : (q.ms.map (·.name)).Nodup
theorem bs {B S : Sto} {n : Nat} {c : Cell} (h : Ext [] B S) (hn : B.length ≤ n) : Ext [] B (S.set n c) := h.trans' (.set (ds := [n]) (.inl (by simp))) fun e he => .inr (by rw [List.mem_singleton.mp he]; exact hn)
theorem ba {B S T : Sto} (h : Ext [] B S) : Ext [] B (S ++ T) := h.trans (.app T)
def Err {α : Type} (B : Sto) (o : Out α) (k : Int) : Prop := ∃ n Λ S', o = .exc "BadLine" n Λ S' ∧ S'[n]? = some (.xd [("at", .int k)]) ∧ Ext [] B S'
theorem Err.bind {B : Sto} {α β : Type} {o : Out α} {k : Int} (h : Err B o k) (f : α → Sto → Out β) : Err B (o.bind f) k := by
  obtain ⟨n, Λ, S', e, h⟩ := h
  exact ⟨n, Λ, S', by rw [e]; rfl, h⟩
section
variable {B : Sto} {r : Nat} {L : List Str} {S : Sto} {q : RQ}
@[simp] theorem iUn_fld {C f : Str} {m : IE} {Λ : Slots} : iUn (fFld C f) m Λ S = (m Λ S).bind fun x S1 => fFld C f x S1 := rfl
end
set_option maxHeartbeats 2000000
theorem get_app {S T : Sto} {n : Nat} {c : Cell} (h : S[n]? = some c) : (S ++ T)[n]? = some c := by
  rw [List.getElem?_append_left (List.getElem?_eq_some_iff.mp h).1]; exact h
theorem get_set {S : Sto} {n m : Nat} {c c' : Cell} (h : S[n]? = some c) (hn : m ≠ n) : (S.set m c')[n]? = some c := by
  rw [List.getElem?_set_ne hn]; exact h
section
variable {B : Sto} {r : Nat} {L : List Str} {S : Sto} {q : RQ}
theorem MR.app {m : Mod} (h : MR S r m) (T : Sto) : MR (S ++ T) r m := ⟨get_app h.a, get_app h.d, h.la, h.ld, h.nm, h.db⟩
theorem MR.set {m : Mod} (h : MR S r m) {n : Nat} {c : Cell} (ha : n ≠ m.a) (hd : n ≠ m.d) : MR (S.set n c) r m := ⟨get_set h.a ha, get_set h.d hd, h.la, h.ld, h.nm, h.db⟩
theorem Rep.app (h : Rep B r L S q) (T : Sto) : Rep B r L (S ++ T) q :=
  ⟨h.base.trans (.app T), h.bl, get_app h.self, get_app h.mods, get_app h.rows, get_app h.decl, get_app h.places, get_app h.defs, fun m hm => (h.ms m hm).app T, h.na, h.nd, h.nn⟩
@[simp] theorem fNeg_i (i : Int) : fNeg (.int i) S = .ok (.int (-i)) S := rfl
end
set_option maxHeartbeats 2000000
section
variable {B : Sto} {c : IT} {b : IS} {Λ L : Slots} {S S1 S2 : Sto} {o : Out Fl}
theorem Err.nb {B : Sto} {α : Type} {o : Out α} {k : Int} (h : Err B o k) : o ≠ .bad := by
  obtain ⟨n, Λ', S', e, h⟩ := h
  rw [e]; simp
end
def isL (c : Nat) : Bool := decide (c ∈ sg alpha)
def lets (cs : List Nat) : Nat := (cs.takeWhile isL).length
def stepP (s : Str) : Option (Str × Str × Str) := match sg s with
  | [] => none
  | c :: cs => if c = 91 then (if (Txt.partition (cutS s (some 1) none) "]").2.1 = "" ∨ nameB (Txt.partition (cutS s (some 1) none) "]").1 = false then none else some ("[", (Txt.partition (cutS s (some 1) none) "]").1, (Txt.partition (cutS s (some 1) none) "]").2.2))
    else if c = 46 then (if nameB (cutS s (some 1) (some ((1 + lets cs : Nat) : Int))) = true then some (".", cutS s (some 1) (some ((1 + lets cs : Nat) : Int)), cutS s (some ((1 + lets cs : Nat) : Int)) none) else none)
    else none
@[simp] theorem tupOf_t (xs : List IV) : tupOf (.tup xs) = some xs := rfl
@[simp] theorem iGTup_e (n : Nat) (g : IGs) (v : IV) (Λ : Slots) (S : Sto) : iGTup n g v Λ S = orBad (tupOf v) fun xs => chk (xs.length = n) (g xs Λ S) := rfl
@[simp] theorem iGCons_e (g : IG) (r : IGs) (x : IV) (xs : List IV) (Λ : Slots) (S : Sto) : iGCons g r (x :: xs) Λ S = (g x Λ S).bind fun L S1 => r xs L S1 := rfl
@[simp] theorem iGNil_e (Λ : Slots) (S : Sto) : iGNil [] Λ S = .ok Λ S := rfl
set_option maxHeartbeats 2000000
def stepsP : Nat → Str → List (Str × Str) → Option (List (Str × Str))
  | 0, _, _ => none
  | n + 1, rest, acc => if rest = "" then some acc else match stepP rest with
    | none => none
    | some (a, b, r) => if acc.length = 3 then none else stepsP n r (acc ++ [(a, b)])
def pathP (s : Str) : Option (Str × List (Str × Str)) :=
  if nameB (cutS s none (some (lets (sg s) : Int))) = true then (stepsP 5 (cutS s (some (lets (sg s) : Int)) none) []).map fun st => (cutS s none (some (lets (sg s) : Int)), st) else none
def ivSt (p : Str × Str) : IV := .tup [.str p.1, .str p.2]
def ivPath (s : Str) : Option (Str × List (Str × Str)) → IV
  | none => .non
  | some (hd, st) => .tup [.str s, .str hd, .tup (st.map ivSt)]
theorem lenN_a {S : Sto} {n : Nat} {xs : List IV} (h : S[n]? = some (.lst xs)) : lenN S (.adr n) = some xs.length := by
  unfold lenN seqOf tupOf lstOf
  simp only [h]
  rfl
set_option maxHeartbeats 2000000
def lab (a b : Str) : Str := ((Str.empty ++ a) ++ ".") ++ b
set_option maxHeartbeats 4000000
section
variable {B : Sto} {r : Nat} {L : List Str} {S : Sto} {q : RQ}
def modQ (q : RQ) (n : Str) (a d : Nat) : RQ := { q with pos := q.pos + 1, ms := q.ms ++ [⟨n, a, d, [], []⟩], places := putK' q.places (.inr n) (.int q.pos) }
end
set_option maxHeartbeats 4000000
structure Blk where
  kind : Str
  start : Nat
  a : Nat
  starts : List Nat
def ivBlk (k : Blk) : IV := .tup [.str k.kind, .int k.start, .adr k.a]
structure BQ where
  hid : Option Str
  line : Nat
  body : List IV
  blocks : List Blk
def ivHid : Option Str → IV
  | none => .non
  | some s => .str s
def bFs (b r : Nat) (p : BQ) : List (Str × IV) := [("reader", .adr r), ("hidden", ivHid p.hid), ("line", .int p.line), ("body", .adr (b + 1)), ("blocks", .adr (b + 2))]
structure RepB (b r : Nat) (S : Sto) (q : RQ) (p : BQ) : Prop where
  self : S[b]? = some (.ins "BodyReader" (bFs b r p))
  body : S[b + 1]? = some (.lst p.body)
  blocks : S[b + 2]? = some (.lst (p.blocks.map ivBlk))
  lo : r + 5 < b
  ms : ∀ m ∈ q.ms, m.a < b ∧ m.d < b
  st : ∀ k ∈ p.blocks, S[k.a]? = some (.lst (k.starts.map fun i => .int (i : Nat))) ∧ b + 2 < k.a
  nd : (p.blocks.map (·.a)).Nodup
section
variable {B : Sto} {b r : Nat} {L : List Str} {S : Sto} {q : RQ} {p : BQ}
theorem RepB.app (h : RepB b r S q p) (T : Sto) : RepB b r (S ++ T) q p := ⟨get_app h.self, get_app h.body, get_app h.blocks, h.lo, h.ms, fun k hk => ⟨get_app (h.st k hk).1, (h.st k hk).2⟩, h.nd⟩
end
set_option maxHeartbeats 4000000
section
variable {B : Sto} {b r : Nat} {L : List Str} {S : Sto} {q : RQ} {p : BQ}
def isCall : IV → Bool
  | .tup (.str w :: _) => decide (w = "call")
  | _ => false
def rowOk : IV → Bool
  | .tup (.str _ :: _) => true
  | _ => false
end
set_option maxHeartbeats 4000000
structure DefV where
  key : Str
  v : IV
  body : List IV
structure DefV.Ok (d : DefV) : Prop where
  row : ∃ row, (∀ S, fIx d.v (.int 1) S = .ok row S) ∧ ∀ S, fIx row (.int 5) S = .ok (.tup d.body) S
  rows : ∀ v ∈ d.body, rowOk v = true
  len : d.body.length ≤ 1000
set_option maxHeartbeats 4000000
theorem split_lines {L : List Str} (hne : L ≠ []) (h : ∀ s ∈ L, 10 ∉ sg s) : Txt.split (Txt.join "\n" L) "\n" = L :=
  TL.split_join (y := "\n") (s := 10) (S := []) (by decide +kernel) (by decide +kernel) hne h
set_option maxHeartbeats 4000000
structure TxOk (t : Str) (L : List Str) : Prop where
  len : t.length ≤ 1000000
  ne : ¬ t = ""
  sp : Txt.split t "\n" = L
  cnt : L.length ≤ 1000000
set_option maxHeartbeats 2000000
abbrev Path := Str × List (Str × Str)
abbrev Decl := List (Str × Nat)
def aboveD (d : Decl) (s : Str) (line : Nat) : Option Path := match pathP s with
  | some p => (match d.lookup p.1 with
    | some k => if k < line then some p else none
    | none => none)
  | none => none
def headM (own : Decl) (hid : Option Str) (s : Str) (d : Option Decl) (line : Nat) (may : Bool) : Option Path := match d with
  | some d => (match pathP s with
    | some p => if (d.lookup p.1).isSome = true then some p else none
    | none => none)
  | none => (match pathP s with
    | none => none
    | some pt => if some pt.1 = hid then (if may = true then some pt else none) else aboveD own s line)
section
variable {B : Sto} {b r : Nat} {L : List Str} {S : Sto} {q : RQ} {p : BQ}
def callRowM (md : IV) (x : Str) (pt : Path) : IV := .tup [.str "call", md, ivPath x (some pt)]
end
set_option maxHeartbeats 2000000
def lineM (own : Decl) (hid : Option Str) (x : Str) (line : Nat) : Option Nat := if some x = hid then some line else match own.lookup x with
  | some k => if k < line then some k else none
  | none => none
def keepRow (w : Str) (md : IV) (x t : Str) (pt : Path) : IV := .tup [.str w, md, .str x, ivPath t (some pt)]
def keepW (w : Str) : Bool := decide (w = "keep") || decide (w = "once")
set_option maxHeartbeats 2000000
def setOr (here : Nat) (body : List IV) (s : Nat) : List IV := body.set (s - 1) (.tup [.str "or", .int here])
def endBody (k : Blk) (body : List IV) : List IV := if k.kind = ("often" : Str) then (body.set k.start (.tup [.str "often", .int body.length])) ++ [.tup [.str "end", .int k.start]]
  else ((k.starts.drop 1).foldl (setOr body.length) (body.set k.start (.tup [.str "either", .tup (k.starts.map fun i => .int (i : Nat)), .int body.length]))) ++ [.tup [.str "end", .int (-1)]]
set_option maxHeartbeats 2000000
structure Ctx where
  ab : List (Str × Decl)
  own : Decl
  hid : Option Str
  line : Nat
abbrev BlkM := Str × Nat × List Nat
structure BM where
  body : List IV
  blocks : List BlkM
  kept : IV
def strip (k : Blk) : BlkM := (k.kind, k.start, k.starts)
def callM (c : Ctx) (x : BM) (md : IV) (d : Option Decl) (ws : List Str) : Option BM := match ws with
  | [t] => (headM c.own c.hid t d c.line true).map fun pt => { x with body := x.body ++ [callRowM md t pt] }
  | _ => none
def keepM (c : Ctx) (x : BM) (pos : Nat) (md : IV) (d : Option Decl) (w : Str) (ws : List Str) : Option BM := match ws with
  | [y, e, t] => if keepW w = true ∧ e = ("=" : Str) then (lineM c.own c.hid y c.line).bind fun ln => (headM c.own c.hid t d ln false).map fun pt => { x with body := x.body ++ [keepRow w md y t pt], kept := if isN x.kept = true then .int pos else x.kept } else none
  | _ => none
def actM (c : Ctx) (x : BM) (pos : Nat) (md : IV) (d : Option Decl) (ws : List Str) : Option BM := match ws with
  | [] => none
  | w :: ws => if w = ("call" : Str) then callM c x md d ws else keepM c x pos md d w ws
def impRow (n : Str) : IV := .tup [.str "\x69mport", .str n]
def endM (k : BlkM) (body : List IV) : List IV := endBody ⟨k.1, k.2.1, 0, k.2.2⟩ body
def blkM (x : BM) (w : Str) : Option BM := if x.blocks.length < 4 then some { x with body := x.body ++ [.tup [.str w]], blocks := x.blocks ++ [(w, x.body.length, [x.body.length + 1])] } else none
def orM (x : BM) : Option BM := match x.blocks.getLast? with
  | some k => if k.1 = ("either" : Str) ∧ k.2.2.length < 5 then some { x with body := x.body ++ [.tup [.str "or"]], blocks := x.blocks.dropLast ++ [(k.1, k.2.1, k.2.2 ++ [x.body.length + 1])] } else none
  | none => none
def endbM (x : BM) : Option BM := match x.blocks.getLast? with
  | some k => if k.1 = ("often" : Str) ∨ 1 < k.2.2.length then some { x with body := endM k x.body, blocks := x.blocks.dropLast } else none
  | none => none
def impM (c : Ctx) (x : BM) (ws : List Str) : Option BM := match ws with
  | [n] => if (c.ab.lookup n).isSome = true then some { x with body := x.body ++ [impRow n] } else none
  | _ => none
def fromM (c : Ctx) (x : BM) (pos : Nat) (ws : List Str) : Option BM := match ws with
  | n :: a :: as => (match c.ab.lookup n with
    | some d => actM c x pos (.str n) (some d) (a :: as)
    | none => none)
  | _ => none
def rowM (c : Ctx) (x : BM) (pos : Nat) (ws : List Str) : Option BM :=
  if ws = [("either" : Str)] ∨ ws = [("often" : Str)] then blkM x (ws.headD ("" : Str))
  else if ws = [("or" : Str)] then orM x
  else if ws = [("end" : Str)] then endbM x
  else if ws.head? = some ("\x69mport" : Str) then impM c x ws.tail
  else if ws.head? = some ("from" : Str) then fromM c x pos ws.tail
  else actM c x pos .non none ws
structure RepM (b r : Nat) (S : Sto) (q : RQ) (c : Ctx) (x : BM) (p : BQ) : Prop where
  B : RepB b r S q p
  hid : p.hid = c.hid
  line : p.line = c.line
  body : p.body = x.body
  blocks : p.blocks.map strip = x.blocks
  kept : q.kept = x.kept
set_option maxHeartbeats 2000000
section
variable {B : Sto} {b r : Nat} {L : List Str} {S : Sto} {q : RQ} {p : BQ} {c : Ctx} {x : BM} {init : List Mod} {m : Mod}
def Step (B : Sto) (b r : Nat) (L : List Str) (q : RQ) (c : Ctx) (x' : BM) (S' : Sto) : Prop := ∃ p', Rep B r L S' { q with kept := x'.kept } ∧ RepM b r S' { q with kept := x'.kept } c x' p'
theorem q_kept (q : RQ) {k : IV} (h : q.kept = k) : ({ q with kept := k } : RQ) = q := by rw [← h]
theorem Step.of (M : RepM b r S q c x p) {S' : Sto} {x' : BM} {p' : BQ} (R : Rep B r L S' q) (hB : RepB b r S' q p') (hk : x'.kept = x.kept) (h1 : p'.hid = p.hid) (h2 : p'.line = p.line) (h3 : p'.body = x'.body) (h4 : p'.blocks.map strip = x'.blocks) : Step B b r L q c x' S' := by
  have e : ({ q with kept := x'.kept } : RQ) = q := q_kept q (by rw [hk, M.kept])
  unfold Step
  rw [e]
  exact ⟨p', R, hB, h1.trans M.hid, h2.trans M.line, h3, h4, by rw [M.kept, hk]⟩
end
set_option maxHeartbeats 2000000
def bodyM (c : Ctx) : List Str → BM → Nat → Except Nat (BM × Nat)
  | [], x, pos => .error pos
  | s :: ls, x, pos => if wordsOf s = [("end" : Str)] ∧ x.blocks = [] then .ok (x, pos + 1) else match rowM c x pos (wordsOf s) with
    | none => .error pos
    | some x' => bodyM c ls x' (pos + 1)
set_option maxHeartbeats 2000000
section
variable {B : Sto} {r : Nat} {L : List Str} {S : Sto} {q : RQ} {init : List Mod} {m : Mod} {w : Str} {ws : List Str}
def addQ (q : RQ) (init : List Mod) (m : Mod) (n : Str) (row : IV) : RQ :=
  { q with pos := q.pos + 1, ms := init ++ [{ m with decl := m.decl ++ [(n, q.pos)], rows := m.rows ++ [row] }], places := putK' q.places (.inr (lab m.name n)) (.int q.pos) }
def impRowT (n x : Str) (pos : Nat) : IV := .tup [.str "\x69mport", .str n, .int pos, .str x]
def asW (k : Nat) (ws : List Str) : Bool := decide (ws.length = k) || (decide (ws.length = k + 2) && decide (ws[k]? = some ("as" : Str)))
end
set_option maxHeartbeats 2000000
def fromRowT (n x y : Str) (pos : Nat) : IV := .tup [.str "from", .str n, .int pos, .str x, .str y]
def bindRowT (n : Str) (pos : Nat) (v : IV) : IV := .tup [.str "bind", .str n, .int pos, v]
def worthD (d : Decl) (s : Str) (line : Nat) : Option IV := if s = ("none" : Str) then some .non else (aboveD d s line).map fun p => ivPath s (some p)
set_option maxHeartbeats 2000000
section
variable {B : Sto} {r : Nat} {L : List Str} {S : Sto} {q : RQ} {init : List Mod} {m : Mod} {w : Str} {ws : List Str}
def defRowM (n : Str) (line : Nat) (hid : Option Str) (pv : IV) (body : List IV) : IV := .tup [.str "def", .str n, .int line, ivHid hid, pv, .tup body]
def labH (l hd : Str) : Str := (((Str.empty ++ l) ++ ("(" : Str)) ++ hd) ++ (")" : Str)
def hidPl (ps : List (Key × IV)) (l : Str) (hid : Option Str) (line : Nat) : List (Key × IV) := match hid with
  | none => ps
  | some hd => putK' ps (.inr (labH l hd)) (.int line)
def defQM (q : RQ) (init : List Mod) (m : Mod) (n : Str) (hid : Option Str) (row : IV) (k : Nat) (kept : IV) : RQ :=
  { pos := k, kept := kept, ms := init ++ [{ m with decl := m.decl ++ [(n, q.pos)], rows := m.rows ++ [row] }], places := hidPl (putK' q.places (.inr (lab m.name n)) (.int q.pos)) (lab m.name n) hid q.pos, defs := putK' q.defs (.inr (lab m.name n)) (.tup [.str m.name, row]) }
end
set_option maxHeartbeats 2000000
section
variable {B : Sto} {r : Nat} {L : List Str} {S : Sto} {q : RQ} {init : List Mod} {m : Mod} {w : Str} {ws : List Str}
def ctxD (q : RQ) (init : List Mod) (m : Mod) (n : Str) (hid : Option Str) : Ctx := ⟨init.map fun m => (m.name, m.decl), m.decl ++ [(n, q.pos)], hid, q.pos⟩
end
set_option maxHeartbeats 2000000
def hdrM (d : Decl) (pos : Nat) (ws : List Str) : Option (Str × Option Str × IV) := match ws with
  | [n] => some (n, none, .non)
  | [n, u, hd, e, t] => if u = ("using" : Str) ∧ nameB hd = true ∧ e = ("=" : Str) then (aboveD d t pos).map fun p => (n, some hd, ivPath t (some p)) else none
  | _ => none
section
variable {B : Sto} {r : Nat} {L : List Str} {S : Sto} {q : RQ} {init : List Mod} {m : Mod} {w : Str} {ws : List Str}
def defM (init : List Mod) (m : Mod) (q : RQ) (L : List Str) (ws : List Str) : Except Nat RQ := match hdrM m.decl q.pos ws with
  | none => .error q.pos
  | some (n, hid, pv) => if nameB n = true ∧ m.decl.lookup n = none then (match bodyM (ctxD q init m n hid) (L.drop (q.pos + 1)) ⟨[], [], q.kept⟩ (q.pos + 1) with
    | .ok (x', pos') => .ok (defQM q init m n hid (defRowM n q.pos hid pv x'.body) pos' x'.kept)
    | .error k => .error k) else .error q.pos
end
set_option maxHeartbeats 2000000
def labE (l s0 a s1 : Str) : Str := (((Str.empty ++ l) ++ s0) ++ a) ++ s1
def entRow (a : Str) (v : IV) (pos : Nat) : IV := .tup [.str a, v, .int pos]
def ent1 (d : Decl) (l s0 s1 : Str) (line : Nat) (pl : List (Key × IV)) (ws : List Str) : Option (Str × IV) := match ws with
  | [a, e, t] => if (e = ("=" : Str) ∧ nameB a = true) ∧ valI pl (.inr (labE l s0 a s1)) = none then (worthD d t line).map fun v => (a, v) else none
  | _ => none
def entM (d : Decl) (l s0 s1 : Str) (line : Nat) : List Str → List (Key × IV) → Nat → List IV → Except Nat (List IV × List (Key × IV) × Nat)
  | [], _, pos, _ => .error pos
  | s :: ls, pl, pos, acc => if wordsOf s = [("end" : Str)] then .ok (acc, pl, pos + 1) else match ent1 d l s0 s1 line pl (wordsOf s) with
    | none => .error pos
    | some (a, v) => entM d l s0 s1 line ls (putK' pl (.inr (labE l s0 a s1)) (.int pos)) (pos + 1) (acc ++ [entRow a v pos])
set_option maxHeartbeats 2000000
def tabQ (q : RQ) (init : List Mod) (m : Mod) (n : Str) (row : IV) (pl : List (Key × IV)) (pos : Nat) : RQ :=
  { q with pos := pos, ms := init ++ [{ m with decl := m.decl ++ [(n, q.pos)], rows := m.rows ++ [row] }], places := pl }
def boxM (init : List Mod) (m : Mod) (q : RQ) (L : List Str) (n s0 s1 : Str) (row : IV → IV) : Except Nat RQ :=
  if nameB n = true ∧ m.decl.lookup n = none then (match entM (m.decl ++ [(n, q.pos)]) (lab m.name n) s0 s1 q.pos (L.drop (q.pos + 1)) (putK' q.places (.inr (lab m.name n)) (.int q.pos)) (q.pos + 1) [] with
    | .ok (acc, pl, pos) => .ok (tabQ q init m n (row (.tup acc)) pl pos)
    | .error k => .error k) else .error q.pos
section
variable {B : Sto} {r : Nat} {L : List Str} {S : Sto} {q : RQ} {init : List Mod} {m : Mod} {w : Str} {ws : List Str}
def tabRow (n : Str) (line : Nat) (v : IV) : IV := .tup [.str "table", .str n, .int line, v]
def tableM (init : List Mod) (m : Mod) (q : RQ) (L : List Str) (ws : List Str) : Except Nat RQ := match ws with
  | [n] => boxM init m q L n "[" "]" (tabRow n q.pos)
  | _ => .error q.pos
end
set_option maxHeartbeats 2000000
def pathV (d : Decl) (pos : Nat) (t : Str) : IV := match aboveD d t pos with
  | some p => ivPath t (some p)
  | none => .non
def clsB (ws : List Str) : Bool := decide (ws.length = 1) || (decide (3 ≤ ws.length ∧ ws.length ≤ 5) && decide (ws[1]? = some ("from" : Str)))
def clsRow (n : Str) (line : Nat) (bs : List IV) (v : IV) : IV := .tup [.str "class", .str n, .int line, .tup bs, v]
def classM (init : List Mod) (m : Mod) (q : RQ) (L : List Str) (ws : List Str) : Except Nat RQ := if clsB ws = true then (match ws with
  | n :: ts => boxM init m q L n "." "" (clsRow n q.pos ((ts.drop 1).map (pathV m.decl q.pos)))
  | [] => .error q.pos) else .error q.pos
section
variable {B : Sto} {r : Nat} {L : List Str} {S : Sto} {q : RQ} {init : List Mod} {m : Mod} {w : Str} {ws : List Str}
def BasesOk (d : Decl) (pos : Nat) (ws : List Str) : Prop := ∀ t ∈ ws.drop 2, aboveD d t pos ≠ none
end
set_option maxHeartbeats 2000000
def outRowT (n : Str) (pos : Nat) : IV := .tup [.str "outside", .str n, .int pos]
def freshB (m : Mod) (n : Str) : Bool := nameB n && (m.decl.lookup n).isNone
def outM (init : List Mod) (m : Mod) (q : RQ) (ws : List Str) : Except Nat RQ := match ws with
  | [n] => if freshB m n = true then .ok (addQ q init m n (outRowT n q.pos)) else .error q.pos
  | _ => .error q.pos
def impQ (init : List Mod) (m : Mod) (q : RQ) (ws : List Str) : Except Nat RQ := match ws[0]?, ws.getLast? with
  | some x, some n => if (asW 1 ws = true ∧ x ∈ init.map (·.name)) ∧ freshB m n = true then .ok (addQ q init m n (impRowT n x q.pos)) else .error q.pos
  | _, _ => .error q.pos
def abB (init : List Mod) (x y : Str) : Bool := match (init.map fun m => (m.name, m.decl)).lookup x with
  | some d => (d.lookup y).isSome
  | none => false
def fromQ (init : List Mod) (m : Mod) (q : RQ) (ws : List Str) : Except Nat RQ := match ws[0]?, ws[2]?, ws.getLast? with
  | some x, some y, some n => if (asW 3 ws = true ∧ ws[1]? = some ("\x69mport" : Str) ∧ abB init x y = true) ∧ freshB m n = true then .ok (addQ q init m n (fromRowT n x y q.pos)) else .error q.pos
  | _, _, _ => .error q.pos
def nameQ (init : List Mod) (m : Mod) (q : RQ) (w : Str) (ws : List Str) : Except Nat RQ := match ws with
  | [e, t] => if e = ("=" : Str) ∧ freshB m w = true then (match worthD m.decl t q.pos with
    | some v => .ok (addQ q init m w (bindRowT w q.pos v))
    | none => .error q.pos) else .error q.pos
  | _ => .error q.pos
def rowQ (init : List Mod) (m : Mod) (q : RQ) (L : List Str) (w : Str) (ws : List Str) : Except Nat RQ :=
  if w = ("outside" : Str) then outM init m q ws
  else if w = ("\x69mport" : Str) then impQ init m q ws
  else if w = ("from" : Str) then fromQ init m q ws
  else if w = ("table" : Str) then tableM init m q L ws
  else if w = ("class" : Str) then classM init m q L ws
  else if w = ("def" : Str) then defM init m q L ws
  else nameQ init m q w ws
set_option maxHeartbeats 2000000
def em (m : Mod) : Mod := { m with a := 0, d := 0 }
def er (q : RQ) : RQ := { q with ms := q.ms.map em }
def topM (L : List Str) (q : RQ) (s : Str) : Except Nat RQ := match wordsOf s with
  | [] => .error q.pos
  | w :: ws => if w = ("module" : Str) then (match ws with
      | [n] => if nameB n = true ∧ n ∉ q.ms.map (·.name) then .ok (modQ q n 0 0) else .error q.pos
      | _ => .error q.pos)
    else (match q.ms.getLast? with
      | none => .error q.pos
      | some m => rowQ q.ms.dropLast m q L w ws)
def readM (L : List Str) : Nat → RQ → Except Nat RQ
  | 0, q => .ok q
  | n + 1, q => match L[q.pos]? with
    | none => .ok q
    | some s => (match topM L q s with
      | .ok q' => readM L n q'
      | .error k => .error k)
section
variable {B : Sto} {r : Nat} {L : List Str} {S : Sto} {q : RQ} {init : List Mod} {m : Mod} {w : Str} {ws : List Str}
def ClsOk (q : RQ) (s : Str) : Prop := ∀ ws m, wordsOf s = ("class" : Str) :: ws → clsB ws = true → q.ms.getLast? = some m → BasesOk m.decl q.pos ws
end
set_option maxHeartbeats 2000000
structure Bd (q : RQ) : Prop where
  places : q.places.length ≤ 2 * q.pos
  ms : q.ms.length ≤ q.pos
  rows : ∀ m ∈ q.ms, m.rows.length ≤ q.pos
  decl : ∀ m ∈ q.ms, m.decl.length ≤ q.pos
  defs : q.defs.length ≤ q.pos
theorem Bd.next {q q' : RQ} {init : List Mod} {m m' : Mod} (h : Bd q) (hq : q.ms = init ++ [m]) (hq' : q'.ms = init ++ [m']) (hp : q.pos < q'.pos) (h1 : q'.places.length ≤ 2 * q'.pos) (h2 : m'.rows.length ≤ m.rows.length + 1) (h3 : m'.decl.length ≤ m.decl.length + 1) (h4 : q'.defs.length ≤ q.defs.length + 1) : Bd q' := by
  have mm : m ∈ q.ms := by rw [hq]; simp
  have a := h.rows m mm
  have b := h.decl m mm
  have c := h.ms
  have d := h.defs
  refine ⟨h1, ?_, fun x hx => ?_, fun x hx => ?_, by omega⟩
  · rw [hq'] ; rw [hq] at c
    rw [List.length_append] at c ⊢
    simp only [List.length_singleton] at c ⊢
    omega
  · rw [hq'] at hx
    rcases List.mem_append.mp hx with hx | hx
    · have := h.rows x (by rw [hq]; exact List.mem_append.mpr (.inl hx)); omega
    · rw [List.mem_singleton.mp hx]; omega
  · rw [hq'] at hx
    rcases List.mem_append.mp hx with hx | hx
    · have := h.decl x (by rw [hq]; exact List.mem_append.mpr (.inl hx)); omega
    · rw [List.mem_singleton.mp hx]; omega
set_option maxHeartbeats 2000000
def clsM (L : List Str) : Nat → RQ → Prop
  | 0, _ => True
  | n + 1, q => match L[q.pos]? with
    | none => True
    | some s => ClsOk q s ∧ ∀ q', topM L q s = .ok q' → clsM L n q'
theorem clsM_none {L : List Str} (h : ∀ s ∈ L, (wordsOf s).head? ≠ some ("class" : Str)) : ∀ (n : Nat) (q : RQ), clsM L n q
  | 0, _ => trivial
  | n + 1, q => by
    unfold clsM
    split
    · trivial
    · rename_i s hs
      refine ⟨fun ws m hw => ?_, fun q' _ => clsM_none h n q'⟩
      exact absurd (by rw [hw]; rfl) (h s (List.mem_of_getElem? hs))
set_option maxHeartbeats 2000000
def zQ : RQ := ⟨0, [], [], [], .non⟩
set_option maxHeartbeats 2000000
def RowsB (body : List IV) : Prop := ∀ v ∈ body, rowOk v = true
theorem RowsB.app {body : List IV} {v : IV} (h : RowsB body) (hv : rowOk v = true) : RowsB (body ++ [v]) := fun u hu => by
  rcases List.mem_append.mp hu with hu | hu
  · exact h u hu
  · rw [List.mem_singleton.mp hu]; exact hv
theorem RowsB.set {body : List IV} {i : Nat} {v : IV} (h : RowsB body) (hv : rowOk v = true) : RowsB (body.set i v) := fun u hu => by
  rcases List.mem_or_eq_of_mem_set hu with hu | hu
  · exact h u hu
  · rw [hu]; exact hv
set_option maxHeartbeats 2000000
def DKv (N : Nat) (kv : Key × IV) : Prop := ∃ (k : Str) (m a b c d e : IV) (body : List IV), kv = (.inr k, .tup [m, .tup [a, b, c, d, e, .tup body]]) ∧ RowsB body ∧ body.length ≤ N
structure DQ (N : Nat) (defs : List (Key × IV)) : Prop where
  kv : ∀ kv ∈ defs, DKv N kv
  nd : (defs.map (·.1)).Nodup
theorem DQ.put {N : Nat} {defs : List (Key × IV)} (h : DQ N defs) {k : Str} {v : IV} (hv : DKv N (.inr k, v)) : DQ N (putK' defs (.inr k) v) := by
  unfold putK'
  split
  · refine ⟨fun kv hkv => ?_, ?_⟩
    · obtain ⟨u, hu, rfl⟩ := List.mem_map.mp hkv
      split
      · rename_i e
        rw [e]
        exact hv
      · exact h.kv u hu
    · rw [List.map_map]
      have : ((fun x : Key × IV => x.1) ∘ fun kv : Key × IV => if kv.1 = Sum.inr k then (kv.1, v) else kv) = fun kv => kv.1 := by
        funext kv
        simp only [Function.comp]
        split <;> rfl
      rw [this]
      exact h.nd
  · rename_i hn
    refine ⟨fun kv hkv => ?_, ?_⟩
    · rcases List.mem_append.mp hkv with hkv | hkv
      · exact h.kv kv hkv
      · rw [List.mem_singleton.mp hkv]; exact hv
    · rw [List.map_append, List.nodup_append]
      refine ⟨h.nd, by simp, fun a ha b hb e => hn ?_⟩
      obtain ⟨u, hu, rfl⟩ := List.mem_map.mp ha
      simp only [List.map_cons, List.map_nil, List.mem_singleton] at hb
      exact List.any_eq_true.mpr ⟨u, hu, decide_eq_true (e.trans hb)⟩
set_option maxHeartbeats 2000000
section
variable {q q' : RQ} {init : List Mod} {m : Mod} {L : List Str} {w : Str} {ws : List Str}
theorem DQ.up {N M : Nat} {defs : List (Key × IV)} (h : DQ N defs) (hl : N ≤ M) : DQ M defs := ⟨fun kv hkv => by
  obtain ⟨k, m, a, b, c, d, e, body, e1, e2, e3⟩ := h.kv kv hkv
  exact ⟨k, m, a, b, c, d, e, body, e1, e2, by omega⟩, h.nd⟩
end
set_option maxHeartbeats 2000000
theorem words_spl (s : Str) : (wordsOf s).map sg = TL.spl [32] 0 [] (sg s) := TL.split_spl s " " (by decide +kernel) (TL.kind_ok (by decide +kernel))
theorem spl_bd : ∀ (l acc : List Nat) (M : Nat), acc.length + l.length ≤ M → (∀ p ∈ TL.spl [32] 0 acc l, p.length ≤ M ∧ ∀ c ∈ p, c ∈ acc ∨ c ∈ l) ∧ (TL.spl [32] 0 acc l).length ≤ l.length + 1
  | [], acc, M, hM => by
    rw [TL.spl_nil]
    refine ⟨fun p hp => ?_, Nat.le_refl _⟩
    rw [List.mem_singleton.mp hp]
    exact ⟨by simpa using hM, fun c hc => .inl hc⟩
  | c :: r, acc, M, hM => by
    rw [List.length_cons] at hM
    by_cases h : TL.pre [32] (c :: r) = true
    · rw [TL.spl_hit h]
      obtain ⟨h1, h2⟩ := spl_bd r [] M (by simp; omega)
      refine ⟨fun p hp => ?_, by rw [List.length_cons, List.length_cons]; exact Nat.succ_le_succ h2⟩
      rcases List.mem_cons.mp hp with rfl | hp
      · exact ⟨by omega, fun c hc => .inl hc⟩
      · obtain ⟨g1, g2⟩ := h1 p hp
        exact ⟨g1, fun d hd => .inr (List.mem_cons_of_mem _ ((g2 d hd).elim (fun z => by cases z) id))⟩
    · rw [TL.spl_miss (by simpa using h)]
      obtain ⟨h1, h2⟩ := spl_bd r (acc ++ [c]) M (by rw [List.length_append, List.length_singleton]; omega)
      refine ⟨fun p hp => ?_, by rw [List.length_cons]; omega⟩
      obtain ⟨g1, g2⟩ := h1 p hp
      refine ⟨g1, fun d hd => ?_⟩
      rcases g2 d hd with z | z
      · rcases List.mem_append.mp z with z | z
        · exact .inl z
        · rw [List.mem_singleton.mp z]; exact .inr List.mem_cons_self
      · exact .inr (List.mem_cons_of_mem _ z)
theorem LnOk.of {s : Str} (hl : s.length ≤ 900000) (h : okS s) : LnOk s := by
  obtain ⟨h1, h2⟩ := spl_bd (sg s) [] s.length (by rw [← sg_len]; simp)
  have hc : (wordsOf s).length ≤ s.length + 1 := by
    have := congrArg List.length (words_spl s)
    rw [List.length_map] at this
    rw [this, ← sg_len]
    exact h2
  refine ⟨by omega, by omega, fun w hw => ?_⟩
  have : sg w ∈ TL.spl [32] 0 [] (sg s) := by rw [← words_spl]; exact List.mem_map.mpr ⟨w, hw, rfl⟩
  obtain ⟨g1, g2⟩ := h1 _ this
  refine ⟨by rw [← sg_len]; omega, fun c hc => ?_⟩
  rcases g2 c hc with z | z
  · cases z
  · exact h c z
structure LineOk (m : Nat) (s : Str) : Prop where
  len : s.length ≤ m
  ok : okS s
  nl : 10 ∉ sg s
theorem joinL_len (m : Nat) : ∀ parts : List (List Nat), (∀ p ∈ parts, p.length ≤ m) → (TL.joinL [10] parts).length ≤ (m + 1) * parts.length
  | [], _ => Nat.zero_le _
  | [p], h => by
    have := h p List.mem_cons_self
    simp [TL.joinL]
    omega
  | p :: q :: r, h => by
    have h1 := h p List.mem_cons_self
    have h2 := joinL_len m (q :: r) fun z hz => h z (List.mem_cons_of_mem _ hz)
    have e : TL.joinL [10] (p :: q :: r) = p ++ ([10] ++ TL.joinL [10] (q :: r)) := rfl
    rw [e, List.length_append, List.length_append, List.length_cons, List.length_cons (a := p), Nat.mul_add]
    simp only [List.length_cons, List.length_nil] at *
    omega
theorem sg_joinN (L : List Str) : sg (PySem.Txt.join "\n" L) = TL.joinL [10] (L.map sg) := by
  rw [TL.join_eq]
  exact TL.tl_join "\n" L
theorem TxOk.of {L : List Str} {m : Nat} (hne : L ≠ []) (h0 : L ≠ [("" : Str)]) (h : ∀ s ∈ L, LineOk m s) (hm : (m + 1) * L.length ≤ 1000000) : TxOk (PySem.Txt.join "\n" L) L := by
  refine ⟨?_, fun e => h0 ?_, split_lines hne fun s hs => (h s hs).nl, ?_⟩
  · rw [← sg_len, sg_joinN]
    refine Nat.le_trans (joinL_len m _ fun p hp => ?_) (by rw [List.length_map]; exact hm)
    obtain ⟨s, hs, rfl⟩ := List.mem_map.mp hp
    rw [sg_len]
    exact (h s hs).len
  · have := split_lines hne fun s hs => (h s hs).nl
    rw [e] at this
    rw [← this]
    decide +kernel
  · have : L.length ≤ (m + 1) * L.length := Nat.le_mul_of_pos_left _ (by omega)
    omega
theorem LineOk.ln {m : Nat} {s : Str} (h : LineOk m s) (hm : m ≤ 900000) : LnOk s := .of (by have := h.len; omega) h.ok
theorem LineOk.up {m k : Nat} {s : Str} (h : LineOk m s) (hm : m ≤ k) : LineOk k s := ⟨Nat.le_trans h.len hm, h.ok, h.nl⟩
theorem LineOk.app {m k : Nat} {a b : Str} (h : LineOk m a) (g : LineOk k b) : LineOk (m + k) (a ++ b) :=
  ⟨by rw [len_app]; have := h.len; have := g.len; omega, okS_app h.ok g.ok, fun z => by rw [sg_app] at z; exact (List.mem_append.mp z).elim h.nl g.nl⟩
def Go (L : List Str) (q q' : RQ) : Prop := ∃ k, k + q.pos ≤ q'.pos ∧ ∀ n, readM L (n + k) q = readM L n q'
theorem Go.refl (L : List Str) (q : RQ) : Go L q q := ⟨0, by omega, fun _ => rfl⟩
theorem Go.trans {L : List Str} {a b c : RQ} (h : Go L a b) (g : Go L b c) : Go L a c := by
  obtain ⟨k, h1, h2⟩ := h
  obtain ⟨j, g1, g2⟩ := g
  exact ⟨k + j, by omega, fun n => by rw [show n + (k + j) = (n + j) + k by omega, h2, g2]⟩
theorem Go.le {L : List Str} {a b : RQ} (h : Go L a b) : a.pos ≤ b.pos := by
  obtain ⟨k, h1, _⟩ := h
  omega
def BGo (c : Ctx) (ls : List Str) (x x' : BM) : Prop := ∀ (pos : Nat) (rest : List Str), bodyM c (ls ++ rest) x pos = bodyM c rest x' (pos + ls.length)
theorem BGo.nil (c : Ctx) (x : BM) : BGo c [] x x := fun pos rest => rfl
theorem BGo.app {c : Ctx} {l1 l2 : List Str} {x y z : BM} (h : BGo c l1 x y) (g : BGo c l2 y z) : BGo c (l1 ++ l2) x z := fun pos rest => by
  rw [List.append_assoc, h, g, List.length_append, Nat.add_assoc]
theorem BGo.one {c : Ctx} {s : Str} {x x' : BM} (h : ∀ pos, rowM c x pos (wordsOf s) = some x') (hn : wordsOf s ≠ [("end" : Str)] ∨ x.blocks ≠ []) : BGo c [s] x x' := fun pos rest => by
  show bodyM c (s :: rest) x pos = _
  rw [bodyM, if_neg (fun z => hn.elim (fun q => q z.1) fun q => q z.2), h]
  rfl
theorem BGo.bad {c : Ctx} {ls rest : List Str} {x x' : BM} {s : Str} (h : BGo c ls x x') (pos : Nat) (hs : rowM c x' (pos + ls.length) (wordsOf s) = none) (hn : wordsOf s ≠ [("end" : Str)] ∨ x'.blocks ≠ []) : bodyM c (ls ++ s :: rest) x pos = .error (pos + ls.length) := by
  rw [h, bodyM, if_neg (fun z => hn.elim (fun q => q z.1) fun q => q z.2), hs]
def NC (body : List IV) (i : Nat) : Prop := ∀ u, body[i]? = some u → isCall u = false
structure BNc (x : BM) : Prop where
  b : ∀ k ∈ x.blocks, (k.2.1 < x.body.length ∧ NC x.body k.2.1) ∧ ∀ s ∈ k.2.2.drop 1, s - 1 < x.body.length ∧ NC x.body (s - 1)
theorem nc_app {body : List IV} {i : Nat} {v : IV} (h : i < body.length) (n : NC body i) : NC (body ++ [v]) i := fun u e => n u (by rwa [List.getElem?_append_left h] at e)
theorem BNc.app {x : BM} (n : BNc x) {v kept : IV} : BNc ⟨x.body ++ [v], x.blocks, kept⟩ := ⟨fun k hk => by
  obtain ⟨⟨a, b⟩, c⟩ := n.b k hk
  have e : (x.body ++ [v]).length = x.body.length + 1 := by simp
  exact ⟨⟨by show _ < (x.body ++ [v]).length; omega, nc_app a b⟩, fun s hs => ⟨by have := (c s hs).1; show _ < (x.body ++ [v]).length; omega, nc_app (c s hs).1 (c s hs).2⟩⟩⟩
set_option maxHeartbeats 2000000
def pB (s : Str) : Bool := (pathP s).isSome
def nz (s : Str) : Bool := !decide (s = ("" : Str))
def formB : List Str → Bool
  | [a] => decide (a ∈ ([("end" : Str), ("or" : Str), ("either" : Str), ("often" : Str)] : List Str))
  | [a, b] => (decide (a ∈ ([("module" : Str), ("outside" : Str), ("table" : Str), ("class" : Str), ("def" : Str)] : List Str)) && nameB b) || (decide (a = ("\x69mport" : Str)) && nz b) || (decide (a = ("call" : Str)) && pB b)
  | [a, b, c] => (nameB a && decide (b = ("=" : Str))) && (decide (c = ("none" : Str)) || pB c)
  | [a, b, c, d] => (decide (a = ("\x69mport" : Str)) && nz b && decide (c = ("as" : Str)) && nameB d) || (decide (a = ("from" : Str)) && nz b && decide (c = ("\x69mport" : Str)) && nameB d) || (decide (a = ("from" : Str)) && nz b && decide (c = ("call" : Str)) && pB d) || (decide (a = ("class" : Str)) && nameB b && decide (c = ("from" : Str)) && pB d) || (keepW a && nz b && decide (c = ("=" : Str)) && pB d)
  | [a, b, c, d, e] => decide (a = ("class" : Str)) && nameB b && decide (c = ("from" : Str)) && pB d && pB e
  | [a, b, c, d, e, f] => (decide (a = ("from" : Str)) && nz b && decide (c = ("\x69mport" : Str)) && nz d && decide (e = ("as" : Str)) && nameB f) || (decide (a = ("class" : Str)) && nameB b && decide (c = ("from" : Str)) && pB d && pB e && pB f) || (decide (a = ("def" : Str)) && nameB b && decide (c = ("using" : Str)) && nameB d && decide (e = ("=" : Str)) && pB f) || (decide (a = ("from" : Str)) && nz b && keepW c && nz d && decide (e = ("=" : Str)) && pB f)
  | _ => false
def opW : List Str → Int
  | [] => 0
  | w :: _ => if w ∈ ([("table" : Str), ("class" : Str), ("def" : Str), ("either" : Str), ("often" : Str)] : List Str) then 1 else if w = ("end" : Str) then -1 else 0
def netL (ls : List Str) : Int := (ls.map fun s => opW (wordsOf s)).sum
theorem netL_nil : netL [] = 0 := rfl
theorem netL_cons (s : Str) (ls : List Str) : netL (s :: ls) = opW (wordsOf s) + netL ls := by
  unfold netL
  rw [List.map_cons, List.sum_cons]
def GoodL (ls : List Str) : Prop := ∀ s ∈ ls, formB (wordsOf s) = true
theorem GoodL.nil : GoodL [] := fun _ h => (by cases h)
theorem GoodL.cons {s : Str} {ls : List Str} (h : formB (wordsOf s) = true) (g : GoodL ls) : GoodL (s :: ls) := fun x hx => by
  rcases List.mem_cons.mp hx with rfl | hx
  · exact h
  · exact g x hx
theorem GoodL.app {a b : List Str} (h : GoodL a) (g : GoodL b) : GoodL (a ++ b) := fun x hx => by
  rcases List.mem_append.mp hx with hx | hx
  · exact h x hx
  · exact g x hx
def modW (ws : List Str) : Prop := ws.head? = some ("module" : Str)
def GoodD : Int → List Str → Prop
  | _, [] => True
  | d, s :: u => (formB (wordsOf s) = true ∧ (0 < d → ¬ modW (wordsOf s))) ∧ GoodD (d + opW (wordsOf s)) u
theorem GoodD.app : ∀ {a b : List Str} {d : Int}, GoodD d a → GoodD (d + netL a) b → GoodD d (a ++ b)
  | [], b, d, _, g => by rw [netL_nil, Int.add_zero] at g; exact g
  | s :: a, b, d, h, g => ⟨h.1, h.2.app (by rw [netL_cons, ← Int.add_assoc] at g; exact g)⟩
theorem GoodD.at : ∀ {a b : List Str} {d : Int} {s : Str}, GoodD d (a ++ s :: b) → 0 < d + netL a → ¬ modW (wordsOf s)
  | [], b, d, s, h, z => h.1.2 (by rw [netL_nil, Int.add_zero] at z; exact z)
  | x :: a, b, d, s, h, z => GoodD.at (a := a) h.2 (by rw [netL_cons, ← Int.add_assoc] at z; exact z)
set_option maxHeartbeats 2000000
def LOk {α : Type} (F : List Str → Except Nat α) (d : Int) (ls : List Str) (v : α) (n : Nat) : Prop :=
  ∃ u rest, ls = u ++ rest ∧ u.length = n ∧ GoodD d u ∧ d + netL u = 0 ∧ ∀ rest', F (u ++ rest') = .ok v
def LErr {α : Type} (F : List Str → Except Nat α) (d : Int) (ls : List Str) (n : Nat) (k : Nat) : Prop :=
  (∃ u s rest, ls = u ++ s :: rest ∧ u.length = n ∧ GoodD d u ∧ ∀ rest', F (u ++ s :: rest') = .error k) ∨ (ls.length = n ∧ GoodD d ls ∧ 0 < d + netL ls)
section
variable {α : Type} {F G : List Str → Except Nat α} {d e : Int} {ls : List Str} {v : α} {n k : Nat} {s : Str}
theorem LOk.cons (h : LOk F d ls v n) (hs : formB (wordsOf s) = true ∧ (0 < e → ¬ modW (wordsOf s))) (he : e + opW (wordsOf s) = d) (hg : ∀ ls', G (s :: ls') = F ls') : LOk G e (s :: ls) v (n + 1) := by
  obtain ⟨u, rest, rfl, hn, g, z, f⟩ := h
  exact ⟨s :: u, rest, rfl, by rw [List.length_cons, hn], ⟨hs, by rw [he]; exact g⟩, by rw [netL_cons]; omega, fun r => (hg _).trans (f r)⟩
theorem LErr.cons (h : LErr F d ls n k) (hs : formB (wordsOf s) = true ∧ (0 < e → ¬ modW (wordsOf s))) (he : e + opW (wordsOf s) = d) (hg : ∀ ls', G (s :: ls') = F ls') : LErr G e (s :: ls) (n + 1) k := by
  rcases h with ⟨u, t, rest, rfl, hn, g, f⟩ | ⟨hn, g, z⟩
  · exact .inl ⟨s :: u, t, rest, rfl, by rw [List.length_cons, hn], ⟨hs, by rw [he]; exact g⟩, fun r => (hg _).trans (f r)⟩
  · exact .inr ⟨by rw [List.length_cons, hn], ⟨hs, by rw [he]; exact g⟩, by rw [netL_cons]; omega⟩
theorem LErr.here (hg : ∀ ls', G (s :: ls') = .error k) : LErr G e (s :: ls) 0 k := .inl ⟨[], s, ls, rfl, rfl, trivial, hg⟩
theorem LOk.here (hs : formB (wordsOf s) = true ∧ (0 < e → ¬ modW (wordsOf s))) (he : e + opW (wordsOf s) = 0) (hg : ∀ ls', G (s :: ls') = .ok v) : LOk G e (s :: ls) v 1 := ⟨[s], ls, rfl, rfl, ⟨hs, trivial⟩, by rw [netL_cons, netL_nil]; omega, hg⟩
theorem LOk.map {β : Type} {F' : List Str → Except Nat β} {w : β} (h : LOk F d ls v n) (hg : ∀ ls', F ls' = .ok v → F' ls' = .ok w) : LOk F' d ls w n := by
  obtain ⟨u, rest, e, hn, g, z, f⟩ := h
  exact ⟨u, rest, e, hn, g, z, fun r => hg _ (f r)⟩
theorem LErr.map {β : Type} {F' : List Str → Except Nat β} (h : LErr F d ls n k) (hg : ∀ ls', F ls' = .error k → F' ls' = .error k) : LErr F' d ls n k := by
  rcases h with ⟨u, t, rest, e, hn, g, f⟩ | h
  · exact .inl ⟨u, t, rest, e, hn, g, fun r => hg _ (f r)⟩
  · exact .inr h
end
set_option maxHeartbeats 2000000
end RD
set_option maxHeartbeats 1000000
namespace Sm
open PySem PySem.Spec PyProof.Rows L2
def Wp {α : Type} (o : Out α) (Q : α → Sto → Prop) : Prop := ∃ a S, o = .ok a S ∧ Q a S
structure Chk (p q : Prop) : Prop where
  l : p
  r : q
section
variable {α β : Type} {S S1 : Sto} {Λ Λ1 : Slots}
theorem Wp.ok {a : α} {Q : α → Sto → Prop} (q : Q a S) : Wp (.ok a S) Q := ⟨a, S, rfl, q⟩
theorem Wp.of {o : Out α} {a : α} {Q : α → Sto → Prop} (e : o = .ok a S) (q : Q a S) : Wp o Q := ⟨a, S, e, q⟩
theorem Wp.bind {o : Out α} {k : α → Sto → Out β} {Q : β → Sto → Prop} (h : Wp o fun a S => Wp (k a S) Q) : Wp (o.bind k) Q := by
  obtain ⟨a, S, rfl, h⟩ := h
  exact h
theorem Wp.imp {o : Out α} {P Q : α → Sto → Prop} (h : Wp o P) (f : ∀ a S, P a S → Q a S) : Wp o Q := by
  obtain ⟨a, S, e, h⟩ := h
  exact ⟨a, S, e, f a S h⟩
theorem wp_chk {p : Prop} [Decidable p] {o : Out α} {Q : α → Sto → Prop} (h : Chk p (Wp o Q)) : Wp (chk p o) Q := by rw [chk_pos h.l]; exact h.r
theorem wp_orBad {o : Option β} {b : β} {k : β → Out α} {Q : α → Sto → Prop} (e : o = some b) (h : Wp (k b) Q) : Wp (orBad o k) Q := by rw [e]; exact h
section
variable {Q : IV → Sto → Prop} {a b c d : IE} {f g : IV → IV → Sto → Out IV} {ma : IA}
theorem wp_var {i : Nat} {x : IV} (h : Λ[i]? = some (some x)) (q : Q x S) : Wp (iVar i Λ S) Q := .of (iVar_s h) q
theorem wp_c {x : IV} (q : Q x S) : Wp (iC x Λ S) Q := .ok q
theorem wp_bin (h : Wp (a Λ S) fun x S1 => Wp (b Λ S1) fun y S2 => Wp (f x y S2) Q) : Wp (iBin f a b Λ S) Q := .bind (h.imp fun _ _ h => .bind h)
theorem wp_un {f : IV → Sto → Out IV} (h : Wp (a Λ S) fun x S1 => Wp (f x S1) Q) : Wp (iUn f a Λ S) Q := .bind h
theorem wp_ca {f : List IV → Sto → Out IV} (h : Wp (ma Λ S) fun x S1 => Wp (f x S1) Q) : Wp (iCa f ma Λ S) Q := .bind h
theorem wp_nil {Q : List IV → Sto → Prop} (q : Q [] S) : Wp (iNil Λ S) Q := .ok q
theorem wp_cons {Q : List IV → Sto → Prop} (h : Wp (a Λ S) fun x S1 => Wp (ma Λ S1) fun xs S2 => Q (x :: xs) S2) : Wp (iCons a ma Λ S) Q := .bind (h.imp fun _ _ h => .bind (h.imp fun _ _ q => .ok q))
theorem wp_lst {cell : Bool} (h : Wp (ma Λ S) fun x S1 => Wp (mkL cell x S1) Q) : Wp (iLst cell ma Λ S) Q := .bind h
theorem wp_tup (h : Wp (ma Λ S) fun x S1 => Wp (mkT x S1) Q) : Wp (iTup ma Λ S) Q := .bind h
theorem wp_call {np : Nat} {mf : List IV → Sto → Out IV} (h : Wp (ma Λ S) fun xs S1 => Chk (xs.length = np) (Wp (mf xs S1) Q)) : Wp (iCall np mf ma Λ S) Q := .bind (h.imp fun xs S1 h => by
  obtain ⟨e, v, S2, e2, q⟩ := h
  rw [chk_pos e, e2]
  exact .ok q)
theorem wp_call0 {mf : List IV → Sto → Out IV} (h : Wp (mf [] S) Q) : Wp (iCall0 mf Λ S) Q := by
  obtain ⟨v, S2, e2, q⟩ := h
  unfold iCall0
  rw [e2]
  exact .ok q
theorem wp_bm {T : String} {f : IV → List IV → Sto → Out IV} (h : Wp (a Λ S) fun o S1 => Chk (hasTy T S1 o = true) (Wp (ma Λ S1) fun xs S2 => Wp (f o xs S2) Q)) : Wp (iBM T f a ma Λ S) Q := .bind (h.imp fun _ _ h => wp_chk ⟨h.l, .bind h.r⟩)
theorem wp_sl {cell : Bool} {ml mh : IO} (h : Wp (a Λ S) fun x S1 => Wp (ml Λ S1) fun lo S2 => Wp (mh Λ S2) fun hi S3 => Wp (fSl cell x lo hi S3) Q) : Wp (iSl cell a ml mh Λ S) Q := .bind (h.imp fun _ _ h => .bind (h.imp fun _ _ h => .bind h))
theorem wp_noPart {Q : Option Int → Sto → Prop} (q : Q none S) : Wp (iNoPart Λ S) Q := .ok q
theorem wp_asI {k : Int → Out α} {Q : α → Sto → Prop} {i : Int} (q : Wp (k i) Q) : Wp (asI (.int i) k) Q := q
theorem wp_part {Q : Option Int → Sto → Prop} {a : IE} (h : Wp (a Λ S) fun x S1 => ∃ i : Int, x = .int i ∧ Q (some i) S1) : Wp (iPart a Λ S) Q := .bind (h.imp fun _ _ ⟨i, e, q⟩ => by rw [e]; exact .ok q)
end
section
variable {Q : Bool → Sto → Prop} {m : IE} {c d : IT}
theorem wp_test (h : Wp (m Λ S) fun x S1 => ∃ b : Bool, x = .bl b ∧ Q b S1) : Wp (iTest m Λ S) Q := .bind (h.imp fun _ _ ⟨b, e, q⟩ => by rw [e]; exact .ok q)
theorem wp_tru (h : Wp (m Λ S) fun x S1 => ∃ b : Bool, truB S1 x = some b ∧ Q b S1) : Wp (iTru m Λ S) Q := .bind (h.imp fun _ _ ⟨b, e, q⟩ => wp_orBad e (.ok q))
theorem ex_bl {b : Bool} {P : Bool → Prop} (q : P b) : ∃ b' : Bool, IV.bl b = .bl b' ∧ P b' := ⟨b, rfl, q⟩
theorem ex_int {i : Int} {P : Int → Prop} (q : P i) : ∃ i' : Int, IV.int i = .int i' ∧ P i' := ⟨i, rfl, q⟩
theorem tr_bl {b : Bool} {P : Bool → Prop} (q : P b) : ∃ b' : Bool, truB S (.bl b) = some b' ∧ P b' := ⟨b, rfl, q⟩
theorem wp_or (h : Wp (c Λ S) fun b S1 => (b = true → Q true S1) ∧ (b = false → Wp (d Λ S1) Q)) : Wp (iOr c d Λ S) Q := .bind (h.imp fun b S1 h => by
  cases b with
  | true => exact .ok (h.1 rfl)
  | false => exact h.2 rfl)
theorem wp_not (h : Wp (c Λ S) fun b S1 => Q (!b) S1) : Wp (iNot c Λ S) Q := .bind (h.imp fun _ _ q => .ok q)
theorem wp_if {Q : α → Sto → Prop} {a b : Slots → Sto → Out α} (h : Wp (c Λ S) fun k S1 => (k = true → Wp (a Λ S1) Q) ∧ (k = false → Wp (b Λ S1) Q)) : Wp (iIf c a b Λ S) Q := .bind (h.imp fun k S1 h => by
  cases k with
  | true => exact h.1 rfl
  | false => exact h.2 rfl)
end
theorem te_and {c d : IT} {B C : Bool} (h : Wp (c Λ S) fun k S1 => k = B ∧ S1 = S) (g : Wp (d Λ S) fun k S1 => k = C ∧ S1 = S) : Wp (iAnd c d Λ S) fun k S1 => k = (B && C) ∧ S1 = S := by
  obtain ⟨_, _, e1, rfl, rfl⟩ := h
  obtain ⟨_, _, e2, rfl, rfl⟩ := g
  refine .bind (.of e1 ?_)
  rename_i k _ _
  cases k with
  | true => exact .of e2 ⟨rfl, rfl⟩
  | false => exact .ok ⟨rfl, rfl⟩
theorem te_or {c d : IT} {B C : Bool} (h : Wp (c Λ S) fun k S1 => k = B ∧ S1 = S) (g : Wp (d Λ S) fun k S1 => k = C ∧ S1 = S) : Wp (iOr c d Λ S) fun k S1 => k = (B || C) ∧ S1 = S := by
  obtain ⟨_, _, e1, rfl, rfl⟩ := h
  obtain ⟨_, _, e2, rfl, rfl⟩ := g
  refine .bind (.of e1 ?_)
  rename_i k _ _
  cases k with
  | false => exact .of e2 ⟨rfl, rfl⟩
  | true => exact .ok ⟨rfl, rfl⟩
theorem wp_ifP {Q : α → Sto → Prop} {c : IT} {a b : Slots → Sto → Out α} {B : Bool} (h : Wp (c Λ S) fun k S1 => k = B ∧ S1 = S) (ht : B = true → Wp (a Λ S) Q) (hf : B = false → Wp (b Λ S) Q) : Wp (iIf c a b Λ S) Q := by
  obtain ⟨_, _, e1, rfl, rfl⟩ := h
  refine .bind (.of e1 ?_)
  rename_i k _
  cases k with
  | true => exact ht rfl
  | false => exact hf rfl
section
variable {Q : IV → Sto → Prop} {c d : IE}
theorem te_andV {c d : IE} {B C : Bool} (h : Wp (c Λ S) fun k S1 => k = .bl B ∧ S1 = S) (g : Wp (d Λ S) fun k S1 => k = .bl C ∧ S1 = S) : Wp (iAndV c d Λ S) fun k S1 => k = .bl (B && C) ∧ S1 = S := by
  obtain ⟨_, _, e1, rfl, rfl⟩ := h
  obtain ⟨_, _, e2, rfl, rfl⟩ := g
  refine .bind (.of e1 ?_)
  cases B with
  | true => exact .of e2 ⟨rfl, rfl⟩
  | false => exact .ok ⟨rfl, rfl⟩
theorem te_orV {c d : IE} {B C : Bool} (h : Wp (c Λ S) fun k S1 => k = .bl B ∧ S1 = S) (g : Wp (d Λ S) fun k S1 => k = .bl C ∧ S1 = S) : Wp (iOrV c d Λ S) fun k S1 => k = .bl (B || C) ∧ S1 = S := by
  obtain ⟨_, _, e1, rfl, rfl⟩ := h
  obtain ⟨_, _, e2, rfl, rfl⟩ := g
  refine .bind (.of e1 ?_)
  cases B with
  | false => exact .of e2 ⟨rfl, rfl⟩
  | true => exact .ok ⟨rfl, rfl⟩
theorem wp_notV (h : Wp (c Λ S) fun x S1 => ∃ b : Bool, x = .bl b ∧ Q (.bl (!b)) S1) : Wp (iNotV c Λ S) Q := .bind (h.imp fun _ _ ⟨b, e, q⟩ => by rw [e]; exact .ok q)
theorem wp_andV (h : Wp (c Λ S) fun x S1 => ∃ b : Bool, x = .bl b ∧ (b = true → Wp (d Λ S1) Q) ∧ (b = false → Q (.bl false) S1)) : Wp (iAndV c d Λ S) Q := .bind (h.imp fun _ _ ⟨b, e, h1, h2⟩ => by
  rw [e]
  cases b with
  | true => exact h1 rfl
  | false => exact .ok (h2 rfl))
theorem wp_orV (h : Wp (c Λ S) fun x S1 => ∃ b : Bool, x = .bl b ∧ (b = true → Q (.bl true) S1) ∧ (b = false → Wp (d Λ S1) Q)) : Wp (iOrV c d Λ S) Q := .bind (h.imp fun _ _ ⟨b, e, h1, h2⟩ => by
  rw [e]
  cases b with
  | true => exact .ok (h1 rfl)
  | false => exact h2 rfl)
end
section
variable {Q : Fl → Sto → Prop} {a b : IS} {m : IE} {i : Nat}
theorem wp_next (q : Q (.nx Λ) S) : Wp (iNext Λ S) Q := .ok q
theorem wp_seq (h : Wp (a Λ S) fun fl S1 => Wp (fSeq b fl S1) Q) : Wp (iSeq a b Λ S) Q := .bind h
theorem ex_nx {J : Slots → Prop} (j : J Λ) : ∃ L, Fl.nx Λ = .nx L ∧ J L := ⟨Λ, rfl, j⟩
theorem wp_nx (h : Wp (b Λ S) Q) : Wp (fSeq b (.nx Λ) S) Q := h
theorem wp_rt {v : IV} (q : Q (.rt v) S) : Wp (fSeq b (.rt v) S) Q := .ok q
theorem wp_bk (q : Q (.bk Λ) S) : Wp (fSeq b (.bk Λ) S) Q := .ok q
theorem wp_ct (q : Q (.ct Λ) S) : Wp (fSeq b (.ct Λ) S) Q := .ok q
theorem wp_drop (h : Wp (m Λ S) fun _ S1 => Q (.nx Λ) S1) : Wp (iDrop m Λ S) Q := .bind (h.imp fun _ _ q => .ok q)
theorem wp_ret (h : Wp (m Λ S) fun x S1 => Q (.rt x) S1) : Wp (iRet m Λ S) Q := .bind (h.imp fun _ _ q => .ok q)
theorem wp_retN (q : Q (.rt .non) S) : Wp (iRetN Λ S) Q := .ok q
theorem wp_brk (q : Q (.bk Λ) S) : Wp (iBrk Λ S) Q := .ok q
theorem wp_cnt (q : Q (.ct Λ) S) : Wp (iCnt Λ S) Q := .ok q
theorem wp_set (h : Wp (m Λ S) fun x S1 => Q (.nx (Λ.set i (some x))) S1) : Wp (iSet i m Λ S) Q := .bind (h.imp fun _ _ q => .ok q)
theorem wp_asg {g : IG} (h : Wp (m Λ S) fun x S1 => Wp (g x Λ S1) fun L S2 => Q (.nx L) S2) : Wp (iAsg m g Λ S) Q := .bind (h.imp fun _ _ h => .bind (h.imp fun _ _ q => .ok q))
theorem wp_aug {f : IV → IV → Sto → Out IV} {x : IV} (e : Λ[i]? = some (some x)) (h : Wp (m Λ S) fun y S1 => Wp (f x y S1) fun z S2 => Q (.nx (Λ.set i (some z))) S2) : Wp (iAug i f m Λ S) Q := by
  unfold iAug
  rw [iVar_s e]
  exact .bind (.ok (.bind (h.imp fun _ _ h => .bind (h.imp fun _ _ q => .ok q))))
theorem wp_par {j : Nat} {ma : IA} (h : Wp (ma Λ S) fun xs S1 => ∃ x y : IV, xs = [x, y] ∧ Q (.nx ((Λ.set i (some x)).set j (some y))) S1) : Wp (iPar i j ma Λ S) Q := .bind (h.imp fun _ _ ⟨x, y, e, q⟩ => by rw [e]; exact .ok q)
theorem ex_two {x y : IV} {P : IV → IV → Prop} (q : P x y) : ∃ x' y' : IV, [x, y] = [x', y'] ∧ P x' y' := ⟨x, y, rfl, q⟩
theorem wp_name {Q : Slots → Sto → Prop} {x : IV} (q : Q (Λ.set i (some x)) S) : Wp (iName i x Λ S) Q := .ok q
theorem wp_gnil {Q : Slots → Sto → Prop} (q : Q Λ S) : Wp (iGNil [] Λ S) Q := .ok q
theorem wp_gcons {Q : Slots → Sto → Prop} {g : IG} {r : IGs} {x : IV} {xs : List IV} (h : Wp (g x Λ S) fun L S1 => Wp (r xs L S1) Q) : Wp (iGCons g r (x :: xs) Λ S) Q := .bind h
theorem wp_gtup {Q : Slots → Sto → Prop} {n : Nat} {gs : IGs} {xs : List IV} (h : Chk (xs.length = n) (Wp (gs xs Λ S) Q)) : Wp (iGTup n gs (.tup xs) Λ S) Q := wp_chk h
end
def FlQ (Q : IV → Sto → Prop) : Fl → Sto → Prop
  | .rt v, S => Q v S
  | .nx _, S => Q .non S
  | _, _ => False
theorem fq_rt {Q : IV → Sto → Prop} {v : IV} (q : Q v S) : FlQ Q (.rt v) S := q
theorem fq_nx {Q : IV → Sto → Prop} (q : Q .non S) : FlQ Q (.nx Λ) S := q
theorem wp_def {n : Nat} {b : IS} {xs : List IV} {Q : IV → Sto → Prop} (h : Wp (b (xs.map some ++ List.replicate (n - xs.length) none) S) (FlQ Q)) : Wp (mDef n b xs S) Q := by
  obtain ⟨fl, S', e, q⟩ := h
  cases fl with
  | rt v => exact .of (md_rt e) q
  | nx L => exact .of (md_nx e) q
  | bk L => exact q.elim
  | ct L => exact q.elim
def LpQ (I : Slots → Sto → Prop) (Q : Fl → Sto → Prop) : Fl → Sto → Prop
  | .nx L, S => I L S
  | .ct L, S => I L S
  | .bk L, S => Q (.nx L) S
  | .rt v, S => Q (.rt v) S
section
variable {I : Slots → Sto → Prop} {Q : Fl → Sto → Prop}
theorem lq_nx (q : I Λ S) : LpQ I Q (.nx Λ) S := q
theorem lq_ct (q : I Λ S) : LpQ I Q (.ct Λ) S := q
theorem lq_bk (q : Q (.nx Λ) S) : LpQ I Q (.bk Λ) S := q
theorem lq_rt {v : IV} (q : Q (.rt v) S) : LpQ I Q (.rt v) S := q
end
theorem wp_iter {s : Src} {g : IG} {b : IS} {Q : Fl → Sto → Prop} (e : α → IV) (I : Nat → Slots → Sto → Prop) (st : ∀ i Λ S, I i Λ S → s.stay S) :
    ∀ (as : List α) (i : Nat) (Λ : Slots) (S : Sto), I i Λ S → (∀ j Λ S a, as[j]? = some a → I (i + j) Λ S → Wp (g (e a) Λ S) fun L S1 => Wp (b L S1) (LpQ (I (i + j + 1)) Q)) → (∀ Λ S, I (i + as.length) Λ S → Q (.nx Λ) S) → Wp (iIter s g b (as.map e) Λ S) Q
  | [], i, Λ, S, h0, _, q => by
    show Wp (iIter s g b [] Λ S) Q
    unfold iIter
    rw [chkP_pos (st i Λ S h0)]
    exact .ok (q Λ S h0)
  | a :: as, i, Λ, S, h0, h, q => by
    show Wp (iIter s g b (e a :: as.map e) Λ S) Q
    rw [iIter, chkP_pos (st i Λ S h0)]
    refine .bind ((h 0 Λ S a rfl h0).imp fun L S1 h1 => .bind (h1.imp fun fl S2 h2 => ?_))
    have go : ∀ L, I (i + 0 + 1) L S2 → Wp (iIter s g b (as.map e) L S2) Q := fun L hI => wp_iter e I st as (i + 1) L S2 hI (fun j Λ S x hx hI => by
      have z := h (j + 1) Λ S x (by simpa using hx)
      rw [show i + (j + 1) = i + 1 + j by omega] at z
      exact z hI) fun Λ S hI => q Λ S (by rw [List.length_cons, show i + (as.length + 1) = i + 1 + as.length by omega]; exact hI)
    cases fl with
    | nx L => exact go L h2
    | ct L => exact go L h2
    | bk L => exact .ok h2
    | rt v => exact .ok h2
theorem wp_forK {ms : IW} {g : IG} {b : IS} {Q : Fl → Sto → Prop} (h : Wp (ms Λ S) fun s S1 => Wp (iIter s g b s.items Λ S1) Q) : Wp (iFor ms g b Λ S) Q := .bind h
theorem wp_it {g : IG} {b : IS} {Q : Fl → Sto → Prop} (as : List α) (e : α → IV) (I : Nat → Slots → Sto → Prop) {k : Option Nat} (h0 : I 0 Λ S) (st : ∀ i Λ S, I i Λ S → Src.stay ⟨as.map e, k⟩ S)
    (h : ∀ i Λ S a, as[i]? = some a → I i Λ S → Wp (g (e a) Λ S) fun L S1 => Wp (b L S1) (LpQ (I (i + 1)) Q)) (q : ∀ Λ S, I as.length Λ S → Q (.nx Λ) S) : Wp (iIter ⟨as.map e, k⟩ g b (as.map e) Λ S) Q :=
  wp_iter e I st as 0 Λ S h0 (fun j Λ S a ha hI => by
    rw [Nat.zero_add] at hI ⊢
    exact h j Λ S a ha hI) fun Λ S hI => q Λ S (by rw [Nat.zero_add] at hI; exact hI)
theorem wp_range {m : IE} {Q : Src → Sto → Prop} (h : Wp (m Λ S) fun x S1 => ∃ j : Int, x = .int j ∧ Chk (-(2 ^ 62) ≤ j ∧ j < 2 ^ 62) (Q ⟨(List.range j.toNat).map fun i : Nat => IV.int i, none⟩ S1)) : Wp (iSrcR1 m Λ S) Q := .bind (h.imp fun _ _ ⟨j, e, c, q⟩ => by
  rw [e]
  refine wp_asI (wp_chk ⟨c, .ok ?_⟩)
  rw [rangeI_map]
  simp only [Int.zero_add]
  exact q)
theorem wp_range2 {m m' : IE} {Q : Src → Sto → Prop} (h : Wp (m Λ S) fun x S1 => Wp (m' Λ S1) fun y S2 => ∃ i j : Int, x = .int i ∧ y = .int j ∧ Chk (-(2 ^ 62) ≤ i ∧ i < 2 ^ 62 ∧ -(2 ^ 62) ≤ j ∧ j < 2 ^ 62) (Q ⟨(List.range (j - i).toNat).map fun k : Nat => IV.int (i + k), none⟩ S2)) : Wp (iSrcR2 m m' Λ S) Q := .bind (h.imp fun _ _ h => .bind (h.imp fun _ _ ⟨i, j, e, e', c, q⟩ => by
  rw [e, e']
  exact wp_asI (wp_asI (wp_chk ⟨c, .ok q⟩))))
theorem wp_srcL {m : IE} {Q : Src → Sto → Prop} (h : Wp (m Λ S) fun x S1 => Wp (fSrcL x S1) Q) : Wp (iSrcL m Λ S) Q := .bind h
theorem stay_n {as : List α} {e : α → IV} {I : Nat → Slots → Sto → Prop} : ∀ i Λ S, I i Λ S → Src.stay ⟨as.map e, none⟩ S := fun _ _ _ _ => trivial
theorem wp_yes {Q : Bool → Sto → Prop} (q : Q true S) : Wp (iYes Λ S) Q := .ok q
theorem wp_lcm {cell : Bool} {ms : IW} {gi : IV → Slots → Option Slots} {tt : IT} {te : IE} {vs : List Nat} {Q : IV → Sto → Prop} (as : List α) (e : α → IV) (T : α → Bool) (F : α → IV) {k : Option Nat} (hs : Wp (ms Λ S) fun s S1 => s = ⟨as.map e, k⟩ ∧ S1 = S) (st : Src.stay ⟨as.map e, k⟩ S)
    (h : ∀ a ∈ as, ∃ L, gi (e a) (wipeI Λ vs) = some L ∧ Wp (tt L S) fun b S1 => b = T a ∧ S1 = S ∧ (b = true → Wp (te L S) fun y S2 => y = F a ∧ S2 = S)) (hl : as.length ≤ sizeLine)
    (q : Wp (mkL cell ((as.filter T).map F) S) Q) : Wp (iLc cell ms gi tt te vs Λ S) Q := by
  obtain ⟨s, S1, e1, rfl, rfl⟩ := hs
  rw [lc_map as e T F e1 st (fun a ha => by
    obtain ⟨L, h1, b, S1, h2, rfl, rfl, h3⟩ := h a ha
    refine ⟨L, h1, h2, fun hb => ?_⟩
    obtain ⟨y, S2, h4, rfl, rfl⟩ := h3 hb
    exact h4) hl]
  exact q
theorem one_len (c : Nat) : (Str.mk #[c]).length = 1 := rfl
theorem cdiv_mk {i j : Int} (h0 : 0 < j) (h1 : j < 1073741824) : CDiv i j := ⟨h0, h1⟩
theorem cmul_l {i j : Int} (h0 : -(2 ^ 64) < i) (h1 : i < 2 ^ 64) : CMul i j := .inl ⟨h0, h1⟩
theorem cmul_r {i j : Int} (h0 : -(2 ^ 64) < j) (h1 : j < 2 ^ 64) : CMul i j := .inr ⟨h0, h1⟩
section
variable {Q : IV → Sto → Prop}
theorem wp_fI {C : Int → Int → Prop} [∀ i j, Decidable (C i j)] {g : Int → Int → Int} {i j : Int} (h : Chk (C i j) (Q (.int (g i j)) S)) : Wp (fI C g (.int i) (.int j) S) Q := wp_chk ⟨h.l, .ok h.r⟩
theorem wp_fB {g : Int → Int → Bool} {i j : Int} (q : Q (.bl (g i j)) S) : Wp (fB g (.int i) (.int j) S) Q := .ok q
theorem wp_addi {i j : Int} (q : Q (.int (i + j)) S) : Wp (fAdd (.int i) (.int j) S) Q := .ok q
theorem wp_addI {i j : Int} (q : Q (.int (i + j)) S) : Wp (fAddI (.int i) (.int j) S) Q := .ok q
theorem wp_adds {a b : Str} (h : Chk (a.length + b.length ≤ sizeLine) (Q (.str (a ++ b)) S)) : Wp (fAdd (.str a) (.str b) S) Q := wp_chk ⟨h.l, .ok h.r⟩
theorem wp_addl {a b : List IV} (h : Chk ((a ++ b).length ≤ sizeLine) (Q (.lst (a ++ b)) S)) : Wp (fAdd (.lst a) (.lst b) S) Q := wp_chk ⟨h.l, .ok h.r⟩
theorem wp_neg {i : Int} (q : Q (.int (-i)) S) : Wp (fNeg (.int i) S) Q := .ok q
theorem wp_mkf {a : List IV} (h : Chk (a.length ≤ sizeLine) (Q (.lst a) S)) : Wp (mkL false a S) Q := wp_chk ⟨h.l, .ok h.r⟩
theorem wp_mkF {a : List IV} (h : Chk (a.length ≤ sizeLine) (Q (.lst a) S)) : Wp (mkF a S) Q := wp_chk ⟨h.l, .ok h.r⟩
theorem wp_mkT {a : List IV} (h : Chk (a.length ≤ sizeLine) (Q (.tup a) S)) : Wp (mkT a S) Q := wp_chk ⟨h.l, .ok h.r⟩
theorem wp_ixl {xs : List IV} {i : Int} {v : IV} (e : atI xs i = some v) (q : Q v S) : Wp (fIx (.lst xs) (.int i) S) Q := by rw [fIx_l]; exact wp_orBad e (.ok q)
theorem wp_ixt {xs : List IV} {i : Int} {v : IV} (e : atI xs i = some v) (q : Q v S) : Wp (fIx (.tup xs) (.int i) S) Q := by rw [fIx_t]; exact wp_orBad e (.ok q)
theorem wp_inti {i : Int} (q : Q (.int i) S) : Wp (fInt [.int i] S) Q := .ok q
theorem wp_intb {i : Bool} (q : Q (.int (if i then 1 else 0)) S) : Wp (fInt [.bl i] S) Q := .ok q
theorem wp_len {x : IV} {n : Nat} (e : lenN S x = some n) (q : Q (.int n) S) : Wp (fLen [x] S) Q := by rw [fLen_e, e]; exact .ok q
theorem wp_max2 {i j : Int} (q : Q (.int (if j > i then j else i)) S) : Wp (fMax2 [.int i, .int j] S) Q := .ok q
theorem wp_min2 {i j : Int} (q : Q (.int (if j < i then j else i)) S) : Wp (fMin2 [.int i, .int j] S) Q := .ok q
theorem wp_isi {x : IV} {n t : String} {b : Bool} (e : tyN S x = some t) (k : kitN t n = some b) (q : Q (.bl b) S) : Wp (fIsi [x, .ty n] S) Q := by rw [fIsi_e, e, orBad_some, k]; exact .ok q
theorem wp_eq {x y : IV} {b : Bool} (e : eqB S x y = some b) (q : Q (.bl b) S) : Wp (fEq x y S) Q := by rw [fEq_e, e]; exact .ok q
theorem wp_ne {x y : IV} {b : Bool} (e : eqB S x y = some b) (q : Q (.bl (!b)) S) : Wp (fNe x y S) Q := by rw [fNe_e, e]; exact .ok q
theorem wp_eqi {i j : Int} (q : Q (.bl (decide (i = j))) S) : Wp (fEq (.int i) (.int j) S) Q := .ok q
theorem wp_nei {i j : Int} (q : Q (.bl (!decide (i = j))) S) : Wp (fNe (.int i) (.int j) S) Q := .ok q
theorem wp_eqs {i j : Str} (q : Q (.bl (decide (i = j))) S) : Wp (fEq (.str i) (.str j) S) Q := .ok q
theorem wp_nes {i j : Str} (q : Q (.bl (!decide (i = j))) S) : Wp (fNe (.str i) (.str j) S) Q := .ok q
theorem wp_isN {x : IV} (q : Q (.bl (isN x)) S) : Wp (gIsN x .non S) Q := .ok q
theorem wp_notN {x : IV} (q : Q (.bl (!isN x)) S) : Wp (gNotN x .non S) Q := .ok q
theorem wp_sls {cell : Bool} {z : Str} {lo hi : Option Int} (h : Chk (z.length ≤ sizeLine) (Q (.str (cutS z lo hi)) S)) : Wp (fSl cell (.str z) lo hi S) Q := wp_chk ⟨h.l, .ok h.r⟩
theorem wp_sll {cell : Bool} {z : List IV} {lo hi : Option Int} (h : Wp (mkL cell (cutI z lo hi) S) Q) : Wp (fSl cell (.lst z) lo hi S) Q := h
end
end
structure Hd (n K : Nat) (fs : List (Nat × Cell)) (S : Sto) : Prop where
  dr : Lw.Dr S n K
  get : ∀ p ∈ fs, S[p.1]? = some p.2
  nd : (n :: fs.map (·.1)).Nodup
section
variable {n K : Nat} {fs : List (Nat × Cell)} {S S' : Sto} {l : Nat} {c : Cell}
theorem Hd.at (h : Hd n K fs S) (i : Nat) (e : fs[i]? = some (l, c)) : S[l]? = some c := h.get (l, c) (List.mem_of_getElem? e)
theorem Hd.up {M : Nat} (h : Hd n K fs S) (l : K ≤ M) : Hd n M fs S := ⟨h.dr.up l, h.get, h.nd⟩
theorem Hd.ne (h : Hd n K fs S) (i : Nat) (e : fs[i]? = some (l, c)) : l ≠ n := fun z => by
  have := (List.nodup_cons.mp h.nd).1
  exact this (z ▸ List.mem_map.mpr ⟨(l, c), List.mem_of_getElem? e, rfl⟩)
theorem Hd.lt (h : Hd n K fs S) {p : Nat × Cell} (hp : p ∈ fs) : p.1 < S.length := lt_some (h.get p hp)
theorem Hd.ext {ds : List Nat} {M : Nat} (h : Hd n K fs S) (x : Ext ds S S') (d : Lw.Dr S' n M) (hd : ∀ p ∈ fs, p.1 ∉ ds) : Hd n M fs S' := ⟨d, fun p hp => x.2 _ _ (h.get p hp) (hd p hp), h.nd⟩
theorem Hd.ext0 (h : Hd n K fs S) (x : Ext [] S S') : Hd n K fs S' := h.ext x (h.dr.ext x) (fun _ _ z => by cases z)
theorem Hd.extn {M : Nat} (h : Hd n K fs S) (x : Ext [n] S S') (d : Lw.Dr S' n M) : Hd n M fs S' := h.ext x d fun p hp z => by
  have := (List.nodup_cons.mp h.nd).1
  exact this (List.mem_map.mpr ⟨p, hp, List.mem_singleton.mp z⟩)
theorem Hd.alloc (h : Hd n K fs S) (c : Cell) : Hd n K ((S.length, c) :: fs) (S ++ [c]) := by
  have x : Ext [] S (S ++ [c]) := .app _
  have h' := h.ext0 x
  refine ⟨h'.dr, fun p hp => ?_, ?_⟩
  · rcases List.mem_cons.mp hp with rfl | hp
    · exact get_new _ _
    · exact h'.get p hp
  · obtain ⟨h1, h2⟩ := List.nodup_cons.mp h.nd
    refine List.nodup_cons.mpr ⟨fun z => ?_, List.nodup_cons.mpr ⟨fun z => ?_, h2⟩⟩
    · rcases List.mem_cons.mp z with z | z
      · have q := h.dr.lt
        have z : n = S.length := z
        omega
      · exact h1 z
    · obtain ⟨p, hp, e⟩ := List.mem_map.mp z
      have := h.lt hp
      exact absurd (show p.1 = S.length from e) (by omega)
theorem Hd.put (h : Hd n K fs S) (i : Nat) (e : fs[i]? = some (l, c)) (d : Cell) : Hd n K (fs.set i (l, d)) (S.set l d) := by
  have hl : l < S.length := lt_some (h.at i e)
  have hi := lt_some e
  have ek : (fs.set i (l, d)).map (·.1) = fs.map (·.1) := by
    refine List.ext_getElem? fun j => ?_
    rw [List.getElem?_map, List.getElem?_map]
    by_cases hj : i = j
    · subst hj
      rw [List.getElem?_set_self hi, e]
      rfl
    · rw [List.getElem?_set_ne hj]
  refine ⟨h.dr.ext (Ext.set (ds := [l]) (.inl (by simp))) (by simp [(h.ne i e).symm]), fun p hp => ?_, by rw [ek]; exact h.nd⟩
  obtain ⟨j, hj⟩ := List.getElem?_of_mem hp
  by_cases hij : i = j
  · subst hij
    rw [List.getElem?_set_self hi] at hj
    cases hj
    exact List.getElem?_set_self hl
  · rw [List.getElem?_set_ne hij] at hj
    have hne : l ≠ p.1 := fun z => by
      have nd := (List.nodup_cons.mp h.nd).2
      have a1 : (fs.map (·.1))[i]? = some l := by rw [List.getElem?_map, e]; rfl
      have a2 : (fs.map (·.1))[j]? = some l := by rw [List.getElem?_map, hj, z]; rfl
      obtain ⟨i1, e1⟩ := List.getElem?_eq_some_iff.mp a1
      obtain ⟨i2, e2⟩ := List.getElem?_eq_some_iff.mp a2
      exact hij ((List.getElem_inj nd).mp (e1.trans e2.symm))
    rw [List.getElem?_set_ne hne]
    exact h.get p (List.mem_of_getElem? hj)
theorem Hd.sub {gs : List (Nat × Cell)} (h : Hd n K fs S) (hs : gs.Sublist fs) : Hd n K gs S := ⟨h.dr, fun p hp => h.get p (hs.subset hp), h.nd.sublist ((hs.map _).cons₂ n)⟩
theorem Hd.tail {p : Nat × Cell} (h : Hd n K (p :: fs) S) : Hd n K fs S := h.sub (List.sublist_cons_self p fs)
theorem Hd.nil {fs : List (Nat × Cell)} (h : Hd n K fs S) : Hd n K [] S := h.sub (List.nil_sublist _)
section
variable {Q : IV → Sto → Prop}
theorem wp_mkt {xs : List IV} (h : Hd n K fs S) (q : Chk (xs.length ≤ sizeLine) (∀ (l : Nat) (S' : Sto), Hd n K ((l, .lst xs) :: fs) S' → Q (.adr l) S')) : Wp (mkL true xs S) Q := wp_chk ⟨q.l, .ok (q.r _ _ (h.alloc _))⟩
theorem wp_mkc {xs : List IV} (h : Hd n K fs S) (q : Chk (xs.length ≤ sizeLine) (∀ (l : Nat) (S' : Sto), Hd n K ((l, .lst xs) :: fs) S' → Q (.adr l) S')) : Wp (mkC xs S) Q := wp_chk ⟨q.l, .ok (q.r _ _ (h.alloc _))⟩
theorem wp_app {xs : List IV} {v : IV} (h : Hd n K fs S) (i : Nat) (e : fs[i]? = some (l, .lst xs)) (q : Chk (xs.length < sizeLine) (∀ S' : Sto, Hd n K (fs.set i (l, .lst (xs ++ [v]))) S' → Q .non S')) : Wp (fApp (.adr l) [v] S) Q := by
  show Wp (onL S (.adr l) fun n ys => chk (ys.length < sizeLine) (.ok .non (S.set n (.lst (ys ++ [v]))))) Q
  rw [onL_s (h.at i e)]
  exact wp_chk ⟨q.l, .ok (q.r _ (h.put i e _))⟩
theorem wp_ext {xs zs : List IV} {y : IV} (h : Hd n K fs S) (i : Nat) (e : fs[i]? = some (l, .lst xs)) (ey : lstX S y = some zs) (q : Chk (xs.length + zs.length ≤ sizeLine) (∀ S' : Sto, Hd n K (fs.set i (l, .lst (xs ++ zs))) S' → Q .non S')) : Wp (fExt (.adr l) [y] S) Q := by
  show Wp (onL S (.adr l) fun n ys => orBad (lstX S y) fun zs => chk (ys.length + zs.length ≤ sizeLine) (.ok .non (S.set n (.lst (ys ++ zs))))) Q
  rw [onL_s (h.at i e)]
  exact wp_orBad ey (wp_chk ⟨q.l, .ok (q.r _ (h.put i e _))⟩)
theorem cty_a {xs : List IV} (g : S[l]? = some (.lst xs)) : hasTy "list" S (.adr l) = true := by
  unfold hasTy lstOf
  simp only [g]
  rfl
theorem lstX_a {xs : List IV} (g : S[l]? = some (.lst xs)) : lstX S (.adr l) = some xs := by
  unfold lstX
  simp only [g]
theorem seqOf_a {xs : List IV} (g : S[l]? = some (.lst xs)) : seqOf S (.adr l) = some xs := by
  unfold seqOf tupOf lstOf
  simp only [g]
theorem lenN_a {xs : List IV} (g : S[l]? = some (.lst xs)) : lenN S (.adr l) = some xs.length := by
  show (seqOf S (.adr l)).map _ = _
  rw [seqOf_a g]
  rfl
theorem srcL_l {xs : List IV} {Q : Src → Sto → Prop} (q : Q ⟨xs, none⟩ S) : Wp (fSrcL (.lst xs) S) Q := .ok q
theorem wp_adda {y : IV} {xs ys : List IV} (g : S[l]? = some (.lst xs)) (e2 : lstX S y = some ys) (h : Chk (xs.length + ys.length ≤ sizeLine) (Q (.lst (xs ++ ys)) S)) : Wp (fAdd (.adr l) y S) Q := by
  show Wp (orBad (lstX S (.adr l)) fun xs => orBad (lstX S y) fun ys => mkF (xs ++ ys) S) Q
  exact wp_orBad (lstX_a g) (wp_orBad e2 (wp_mkF ⟨by rw [List.length_append]; exact h.l, h.r⟩))
theorem wp_addb {a : List IV} {ys : List IV} (g : S[l]? = some (.lst ys)) (h : Chk (a.length + ys.length ≤ sizeLine) (Q (.lst (a ++ ys)) S)) : Wp (fAdd (.lst a) (.adr l) S) Q := by
  show Wp (orBad (lstX S (.lst a)) fun xs => orBad (lstX S (.adr l)) fun ys => mkF (xs ++ ys) S) Q
  exact wp_orBad rfl (wp_orBad (lstX_a g) (wp_mkF ⟨by rw [List.length_append]; exact h.l, h.r⟩))
theorem wp_appV {Λ : Slots} {Q : Fl → Sto → Prop} {i : Nat} {a : IE} {ys : List IV} (hv : Λ[i]? = some (some (.adr l))) (g : S[l]? = some (.lst ys)) (h : Wp (a Λ S) fun v S1 => ∃ (n K : Nat) (fs : List (Nat × Cell)) (k : Nat) (xs : List IV), Hd n K fs S1 ∧ fs[k]? = some (l, .lst xs) ∧ Chk (xs.length < sizeLine) (∀ S' : Sto, Hd n K (fs.set k (l, .lst (xs ++ [v]))) S' → Q (.nx Λ) S')) : Wp (iDrop (iBM "list" fApp (iVar i) (iCons a iNil)) Λ S) Q := by
  refine wp_drop (wp_bm (wp_var hv ⟨cty_a g, wp_cons (h.imp fun v S1 h => wp_nil ?_)⟩))
  obtain ⟨n, K, fs, k, xs, h, e, q⟩ := h
  exact wp_app h k e q
theorem wp_extV {Λ : Slots} {Q : Fl → Sto → Prop} {i : Nat} {a : IE} {ys : List IV} (hv : Λ[i]? = some (some (.adr l))) (g : S[l]? = some (.lst ys)) (h : Wp (a Λ S) fun v S1 => ∃ (n K : Nat) (fs : List (Nat × Cell)) (k : Nat) (xs zs : List IV), Hd n K fs S1 ∧ fs[k]? = some (l, .lst xs) ∧ lstX S1 v = some zs ∧ Chk (xs.length + zs.length ≤ sizeLine) (∀ S' : Sto, Hd n K (fs.set k (l, .lst (xs ++ zs))) S' → Q (.nx Λ) S')) : Wp (iDrop (iBM "list" fExt (iVar i) (iCons a iNil)) Λ S) Q := by
  refine wp_drop (wp_bm (wp_var hv ⟨cty_a g, wp_cons (h.imp fun v S1 h => wp_nil ?_)⟩))
  obtain ⟨n, K, fs, k, xs, zs, h, e, e2, q⟩ := h
  exact wp_ext h k e e2 q
theorem catC_w {x y : IV} {xs ys : List IV} (h : Hd n K fs S) (ex : lstX S x = some xs) (ey : lstX S y = some ys) (q : Chk ((xs ++ ys).length ≤ sizeLine) (∀ (l : Nat) (S' : Sto), Hd n K ((l, .lst (xs ++ ys)) :: fs) S' → Q (.adr l) S')) : Wp (fCatC x y S) Q := wp_orBad ex (wp_orBad ey (wp_mkc h q))
end
end
end Sm
namespace Lw
open PySem PySem.Spec PyProof.Rows L2 Sm
theorem wp_sourceB {P cc D : Int} (hP : 0 < P) (hc : -(2 ^ 64) < cc ∧ cc < 2 ^ 64) {S : Sto} {ns : List Int} {i : Nat} {Q : IV → Sto → Prop} (q : ∀ (n : Nat) (S' : Sto), Hd n 0 [] S' → Q (.adr n) S') : Wp (mDef 4 (sourceB P cc D) [.wls (ns.map IV.int), .int i] S) Q := by
  obtain ⟨S', e, d, x, l⟩ := source_ok (P := P) (cc := cc) (D := D) hP hc (S := S) (ns := ns) (i := i)
  exact .of e (q _ _ ⟨d, fun _ z => (by cases z), List.nodup_cons.mpr ⟨fun z => (by cases z), List.nodup_nil⟩⟩)
end Lw
set_option maxHeartbeats 1000000
namespace Sm
open PySem PySem.Spec PyProof.Rows L2
def Wx {α : Type} (o : Out α) (Q : α → Sto → Prop) (E : Str → Nat → Slots → Sto → Prop) : Prop := match o with
  | .ok a S => Q a S
  | .exc C n L S => E C n L S
  | .bad => False
section
variable {α β : Type} {S S1 : Sto} {Λ : Slots} {E : Str → Nat → Slots → Sto → Prop}
theorem Wx.of {o : Out α} {Q : α → Sto → Prop} (h : Wp o Q) : Wx o Q E := by
  obtain ⟨a, S, rfl, q⟩ := h
  exact q
theorem Wx.bind {o : Out α} {k : α → Sto → Out β} {Q : β → Sto → Prop} (h : Wx o (fun a S => Wx (k a S) Q E) E) : Wx (o.bind k) Q E := by
  cases o with
  | ok a S => exact h
  | exc C n L S => exact h
  | bad => exact h
theorem Wx.imp {o : Out α} {P Q : α → Sto → Prop} {F : Str → Nat → Slots → Sto → Prop} (h : Wx o P F) (f : ∀ a S, P a S → Q a S) (g : ∀ C n L S, F C n L S → E C n L S) : Wx o Q E := by
  cases o with
  | ok a S => exact f a S h
  | exc C n L S => exact g C n L S h
  | bad => exact h
theorem wp_xis {i m : Nat} {ist : List (Str × Bool)} {C : Str} {b : Bool} {fs : List (Str × IV)} {Q : IV → Sto → Prop} (e : ist.lookup C = some b) (h1 : Λ[i]? = some none) (h2 : S[m]? = some (.xd fs)) (q : Q (.bl b) S) : Wp (iXIsT i m ist C Λ S) Q := by
  unfold iXIsT
  rw [e]
  show Wp (iXIs i m b Λ S) Q
  unfold iXIs
  rw [h1, h2]
  exact .ok q
theorem wp_xf {i m : Nat} {f : Str} {v : IV} {fs : List (Str × IV)} {Q : IV → Sto → Prop} (h1 : Λ[i]? = some none) (h2 : S[m]? = some (.xd fs)) (h3 : fs.lookup f = some v) (q : Q v S) : Wp (iXf i m f Λ S) Q := by
  unfold iXf
  rw [h1, h2]
  simp only [h3]
  exact .ok q
end
end Sm
namespace RD
open PySem PySem.Spec PyProof.Rows L2 Sm
structure PLn (L : List Str) : Prop where
  tx : TxOk (PySem.Txt.join "\n" L) L
  n : L.length ≤ 1000
  ok : ∀ s ∈ L, LnOk s
  cl : clsM L (L.length + 1) zQ
theorem PLn.of {L : List Str} {m : Nat} (hne : L ≠ []) (h0 : L ≠ [("" : Str)]) (h : ∀ s ∈ L, LineOk m s) (hn : L.length ≤ 1000) (hm : m ≤ 900) (hc : ∀ s ∈ L, (wordsOf s).head? ≠ some ("class" : Str)) : PLn L :=
  ⟨.of hne h0 h (Nat.le_trans (Nat.mul_le_mul (by omega : m + 1 ≤ 901) hn) (by decide)), hn, fun s hs => (h s hs).ln (by omega), clsM_none hc _ _⟩
set_option maxHeartbeats 1000000
end RD
namespace Lw
open PySem PySem.Spec PyProof.Rows L2 Sm RD
theorem kw_b : c_KEYWORDS.all (fun k => decide (k ∈ keptL) || decide (5 < k.length)) = true := by decide +kernel
theorem Pool.nb {ps : List Str} (h : Pool ps keptL) : ∀ x ∈ ps, nameB x = true ∧ x.length ≤ 5 := fun x hx => by
  obtain ⟨l1, l2⟩ := h.len x hx
  refine ⟨?_, l2⟩
  unfold nameB RD.abc
  rw [Bool.and_eq_true, Bool.and_eq_true, List.all_eq_true]
  refine ⟨⟨decide_eq_true ⟨l1, by omega⟩, fun c hc => decide_eq_true (h.abc x hx c hc)⟩, ?_⟩
  rw [Bool.not_eq_true', decide_eq_false_iff_not]
  intro z
  have := List.all_eq_true.mp kw_b x z
  rw [Bool.or_eq_true, decide_eq_true_eq, decide_eq_true_eq] at this
  rcases this with q | q
  · exact h.nk x hx q
  · omega
structure Names (ps : List Str) : Prop where
  len : ps.length = 12
  nd : ps.Nodup
  nb : ∀ x ∈ ps, nameB x = true ∧ x.length ≤ 5
theorem Names.get {ps : List Str} (h : Names ps) (i : Nat) (hi : i < 12) : ∃ x, ps[i]? = some x ∧ nameB x = true ∧ x.length ≤ 5 := by
  have hl : i < ps.length := by rw [h.len]; exact hi
  exact ⟨ps[i], List.getElem?_eq_getElem hl, h.nb _ (List.getElem_mem hl)⟩
theorem Names.ne {ps : List Str} (h : Names ps) {i j : Nat} {x y : Str} (hx : ps[i]? = some x) (hy : ps[j]? = some y) (hij : i ≠ j) : x ≠ y := fun e => by
  subst e
  obtain ⟨i1, e1⟩ := List.getElem?_eq_some_iff.mp hx
  obtain ⟨i2, e2⟩ := List.getElem?_eq_some_iff.mp hy
  exact hij ((List.getElem_inj h.nd).mp (e1.trans e2.symm))
theorem Names.at {ps : List Str} {i : Nat} {x : Str} (hx : ps[i]? = some x) : atI (ps.map IV.str) (i : Int) = some (.str x) := atI_nat (by rw [List.getElem?_map, hx]; rfl)
end Lw
set_option maxHeartbeats 1000000
namespace Sm
open PySem PySem.Spec PyProof.Rows L2
end Sm
namespace RD
open PySem PySem.Spec PyProof.Rows L2 Sm
end RD
set_option maxHeartbeats 1000000
set_option maxHeartbeats 2000000
namespace Sm
open PySem PySem.Spec PyProof.Rows L2
end Sm
set_option maxHeartbeats 2000000
namespace SetR
open PySem PySem.Spec PyProof.Rows L2
def tx (e : Int × Value) : Str := match e.2 with | .str x _ => x | _ => Str.empty
def TE (P : Program) (w : World) (e : Int × Value) : Prop := ∃ x u, e.2 = Value.str x u ∧ e.1 = (PySem.strKind P w).hash x
structure Rep (P : Program) (w : World) (o : Obj) (es : Array (Int × Value)) (ep : Nat) (t : SetTable) (L : List Str) : Prop where
  x : o.ExactSet
  d : o.data = .set es ep t
  e : ∀ z ∈ es.toList, TE P w z
  p : (es.toList.map tx).Perm L
  n : L.Nodup
  b : es.size < scanBound
  f : t.fits es.size = true
  r : Ris t.place.toList
  l : w.params.followText "set-order" = true ∨ t.led = true
def TxR (P : Program) (w : World) (h : Heap) (a : Addr) (L : List Str) : Prop := ∃ o es ep t, h.get? a = some o ∧ Rep P w o es ep t L
section
variable {P : Program} {w : World} {h : Heap} {a : Addr} {L : List Str} {o : Obj} {es : Array (Int × Value)} {ep : Nat} {t : SetTable}
theorem te_is {z : Int × Value} (g : TE P w z) (k : Str) : (PySem.strKind P w).is k z.2 = true ↔ tx z = k := by
  obtain ⟨x, u, e1, _⟩ := g
  unfold tx
  rw [e1]
  show Value.isStrOf k (.str x u) = true ↔ x = k
  simp [Value.isStrOf]
theorem Rep.size (R : Rep P w o es ep t L) : es.size = L.length := by
  have := R.p.length_eq
  rwa [List.length_map, Array.length_toList] at this
theorem Rep.has (R : Rep P w o es ep t L) (k : Str) : k ∈ L ↔ ∃ z ∈ es.toList, (PySem.strKind P w).is k z.2 = true := by
  rw [← R.p.mem_iff, List.mem_map]
  exact ⟨fun ⟨z, hz, q⟩ => ⟨z, hz, (te_is (R.e z hz) k).mpr q⟩, fun ⟨z, hz, q⟩ => ⟨z, hz, (te_is (R.e z hz) k).mp q⟩⟩
theorem TxR.keep {h' : Heap} (R : TxR P w h a L) (k : ∀ o, h.get? a = some o → h'.get? a = some o) : TxR P w h' a L := by
  obtain ⟨o, es, ep, t, ho, r⟩ := R
  exact ⟨o, es, ep, t, k o ho, r⟩
end
end SetR
set_option maxHeartbeats 2000000
namespace Sm
open PySem PySem.Spec PyProof.Rows L2 SetR
end Sm
set_option maxHeartbeats 2000000
namespace Sm
open PySem PySem.Spec PyProof.Rows L2
set_option maxHeartbeats 2000000
set_option maxHeartbeats 400000
section
variable {X : Cx} {i m : Nat} {a d : Addr} {oe : Obj} {pn : List (Addr × Obj)} {n C : Str} {p q pos : Pos}
theorem cls_pe {X : Cx} {x : Str} {r : Pos} {cv : Value} (hx : ClsN X.mg x cv) (hgx : Gl X x) (hxn : x ≠ "__name__") (hdx : (x == ("__debug__" : Str)) = false) :
    ∃ c : V, (∀ u, RelV c u → u = cv) ∧ PE X (.Name x r) (tC c) := by
  rcases hx with ⟨h1, A, rfl⟩ | ⟨h1, h2, T, rfl⟩
  · exact ⟨.ref A, fun u ru => ru, pe_glob hgx h1 (v := .ref A) rfl hdx⟩
  · exact ⟨.ty T, fun u ru => ru, pe_bltn hgx h1 h2 (v := .ty T) rfl hxn hdx⟩
end
def a3 {α : Type} (xs : List IV) (k : IV → IV → IV → Out α) : Out α := match xs with
  | [x, y, z] => k x y z
  | _ => .bad
theorem a3_post {α : Type} {K : KX} {W : WX} {w : Wd} {P : Wd → Hp → Sto → α → Prop} {xs : List IV} {vs : List V} {k : IV → IV → IV → Out α} (h : Post K W w (a3 xs k) P) (r : RelL K w vs xs) :
    ∃ v x u y t z, vs = [v, u, t] ∧ xs = [x, y, z] ∧ Rel K w v x ∧ Rel K w u y ∧ Rel K w t z ∧ Post K W w (k x y z) P := by
  unfold a3 at h
  split at h
  · cases r with
    | cons a b =>
      cases b with
      | cons b c =>
        cases c with
        | cons c d => cases d; exact ⟨_, _, _, _, _, _, rfl, rfl, a, b, c, h⟩
  · exact h.elim
def iPar3 (i j l : Nat) (ma : IA) : IS := fun Λ S => (ma Λ S).bind fun xs S1 => a3 xs fun x y z => .ok (.nx (((Λ.set i (some x)).set j (some y)).set l (some z))) S1
theorem ds_par3 {X : Cx} {W : WZ} {pos : Pos} {x y z : Str} {a b c : Expr} {ma : IA} {px py pz pt : Pos} {kt k2 pt2} (i j l : Nat) (hc : X.calm = true) (hN : X.N.Nodup) (ha : DA X W [a, b, c] ma) (hij : i ≠ j := by decide) (hil : i ≠ l := by decide) (hjl : j ≠ l := by decide)
    (hi : X.N[i]? = some x := by rfl) (hj : X.N[j]? = some y := by rfl) (hl : X.N[l]? = some z := by rfl)
    (hx : X.env.scope.names.lookup x = some .local := by rfl) (hy : X.env.scope.names.lookup y = some .local := by rfl) (hz : X.env.scope.names.lookup z = some .local := by rfl)
    (hw : swappedStores [.Tuple [.Name x px, .Name y py, .Name z pz] kt pt] (.Tuple [a, b, c] k2 pt2) X.env = pure (some [x, y, z]) := by rfl)
    (hs : swapsWithSole [.Tuple [.Name x px, .Name y py, .Name z pz] kt pt] (.Tuple [a, b, c] k2 pt2) pos.line X.env = pure false := by rfl) :
    DS X W (.Assign [.Tuple [.Name x px, .Name y py, .Name z pz] kt pt] (.Tuple [a, b, c] k2 pt2) pos) (iPar3 i j l ma) :=
  (ps_par3 hc hN hi hj hl hij hil hjl hx hy hz ha hw hs).imp fun D σ H ⟨w, S, Λ, r0, s0, p⟩ => ⟨w, S, Λ, r0, s0, p.bind.imp fun w1 H1 S1 ix l1 r1 p1 vs rvs => by
    obtain ⟨v, x, u, y, t, z, rfl, rfl, rv, ru, rt, q⟩ := a3_post p1 rvs
    exact ⟨v, u, t, rfl, q.now r1 _ ((((s0.up l1).set i rv).set j ru).set l rt)⟩⟩
end Sm
namespace PySem.W
open PySem PySem.Calls PyProof.Rows Builtin
end PySem.W
namespace Sm
open PySem PySem.Spec PyProof.Rows L2 NwS
end Sm
namespace Sm
open PySem PySem.Spec PyProof.Rows L2
structure TurnL (P : Program) (w : World) (K : PySem.W.Frag) (tg : Expr) (J : It) (fp : List Addr) (it : Addr) (tn : Nat → Heap → Prop) : Prop extends Turn P w K tg J fp it tn where
  next : ∀ (Y : Cx), Y.prog = P → Y.w = w → Y.K = K → ∀ (i : Nat) (pins : List Pin) (s : Shared) (σ : L2.St) (H : Hp) (E : Value → Shared → Prop), Inv Y pins σ H s → (∀ b ∈ fp, FpOk Y pins H b) → tn i s.heap → J.go i H →
    wpAny (model P w) Y.A (pyNext (.ref it)) (fun r s1 => ∃ u, r = some u ∧ wpAny (model P w) Y.A (letOwnedTupleGo tg (.ref it) u) (fun _ s2 => ∃ x H', Inv Y pins σ H' s2 ∧ RelV x u ∧ J.yld i H x H' ∧ tn (i + 1) s2.heap ∧ ∀ b ∈ fp, H' b = none) E s1) E s
  over : ∀ (Y : Cx), Y.prog = P → Y.w = w → Y.K = K → WarmC Y → ∀ (i : Nat) (pins : List Pin) (s : Shared) (σ : L2.St) (H : Hp) (E : Value → Shared → Prop), Inv Y pins σ H s → (∀ b ∈ fp, FpOk Y pins H b) → tn i s.heap → J.stop i H →
    wpAny (model P w) Y.A (pyNext (.ref it)) (fun r s1 => r = none ∧ Inv Y pins σ H s1) E s
structure PIL (X : Cx) (tg iter : Expr) (wi : TI) : Prop where
  run : ∀ (pins : List Pin) (s : Shared) (σ : L2.St) (H : Hp) (R : It → Hp → Prop), Inv X pins σ H s → wi σ H R →
    wpAny (model X.prog X.w) X.A (eval iter X.env) (fun v s1 => wpAny (model X.prog X.w) X.A (pyIter v) (fun itv s2 => ∃ (it : Addr) (fp : List Addr) (tn : Nat → Heap → Prop) (J : It) (H' : Hp), itv = .ref it ∧ Inv X pins σ H' s2 ∧ TurnL X.prog X.w X.K tg J fp it tn ∧ tn 0 s2.heap ∧ (∀ b ∈ fp, FpOk X pins H' b) ∧ R J H') X.xe s1) X.xe s
theorem PIL.imp {X : Cx} {tg e : Expr} {t t' : TI} (h : PIL X tg e t) (f : ∀ σ H Q, t' σ H Q → t σ H Q) : PIL X tg e t' := ⟨fun pins s σ H Q I q => h.run pins s σ H Q I (f σ H Q q)⟩
section
variable {P : Program} {w : World} {K : PySem.W.Frag} {mg : Str → Option Value} {base : Heap}
def CalL (P : Program) (w : World) (K : PySem.W.Frag) (mg : Str → Option Value) (base : Heap) (x : Str) (k : Nat) (ps : List Str) (m : List IV → Sto → Out IV) : Prop :=
  ∃ (f : Addr) (fd : FuncData), mg x = some (.ref f) ∧ PySem.W.keepIn K (.ref f) = true ∧ L2.Binds K fd ps [] ∧ FnL P w K mg base k f fd ps (spM K mg ps.length m)
def MCalL (P : Program) (w : World) (K : PySem.W.Frag) (mg : Str → Option Value) (base : Heap) (C m : Str) (k : Nat) (ps : List Str) (mf : List IV → Sto → Out IV) : Prop :=
  ∃ (Ca f : Addr) (fd : FuncData), mg C = some (.ref Ca) ∧ Cls K Ca ∧ Meth K Ca m f ∧ L2.Binds K fd ps [] ∧ FnL P w K mg base k f fd ps (spM K mg ps.length mf)
theorem FnL.calm {k : Nat} {f : Addr} {fd : FuncData} {ps : List Str} {sp : Sp} (F : FnL P w K mg base k f fd ps sp) : FnG P w K mg base (CX P w) k f fd ps sp :=
  ⟨F.len, fun A out s H as us vs Q E a b c d e => F.run A out s H as us vs Q E [] a.hot (.inl ⟨rfl, a.hd⟩) (fun _ z => nomatch z) b c d e⟩
theorem CalL.calm {x : Str} {k : Nat} {ps : List Str} {m : List IV → Sto → Out IV} (c : CalL P w K mg base x k ps m) : Cal P w K mg base x k ps m := let ⟨f, fd, h1, h2, h3, h4⟩ := c; ⟨f, fd, h1, h2, h3, h4.calm⟩
theorem MCalL.calm {C m : Str} {k : Nat} {ps : List Str} {mf : List IV → Sto → Out IV} (c : MCalL P w K mg base C m k ps mf) : MCal P w K mg base C m k ps mf := let ⟨Ca, f, fd, h1, h2, h3, h4, h5⟩ := c; ⟨Ca, f, fd, h1, h2, h3, h4, h5.calm⟩
end
def tMkV (C : Addr) (sp : Sp) (ta : TA) : TE := fun σ H Q => ta σ H fun vs H1 => vs.length ≤ 1000 ∧ ∀ a, H1 a = none → sp (.ref a :: vs) (upd H1 a (exo a C none))
  (fun v H2 => v = .non ∧ ∃ (d : Addr) (fs : List (Str × V)), H2 a = some (exo a C (some d)) ∧ H2 d = some (exd d fs) ∧ Q (.ref a) (upd H2 d (.xd fs))) (fun _ _ _ => False)
section
variable {X : Cx} {k : Nat} {f : Addr} {fd : FuncData} {ps : List Str} {sp : Sp} {E : L2.St → XK}
theorem pe_excV {x : Str} {e : Expr} {es : List Expr} {ta : TA} {p pos : Pos} {C fI : Addr} (T : OexC X.K C) (iC : PySem.W.findIn X.K (.ref C) "__init__" = some (some (.ref fI))) (tI : PySem.W.typeIn X.K (.ref fI) = some (.type "function"))
    (Fi : FnL X.prog X.w X.K X.mg X.base k fI fd ps sp) (hr : RmH (k + 1) X.A) (hw : WarmI X) (hb : Binds X.K fd ps []) (hx : Passes (CX X.prog X.w) X (fun _ _ _ => False)) (hg : Gl X x) (hm : X.mg x = some (.ref C)) (ha : PA X (e :: es) ta)
    (hdb : (x == ("__debug__" : Str)) = false) (he : starEach (e :: es) X.env = (false, eval e X.env) :: starEach es X.env) (hpl : (backTo pos (starEach es X.env)).any (·.1) = false) : PE X (.Call (.Name x p) (e :: es) [] pos) (tMkV C sp ta) := by
  refine ⟨fun pins s σ H Q I h => ?_⟩
  obtain ⟨c1, c2, c3, c4, c5, c6, c7, c8, c9, c10, d0, d1, d2, d3, d5, hC, hbm⟩ := T.cls
  obtain ⟨l, wl, hl⟩ := hw I.ok
  refine wpAny_Call_Name_kw (ld_glob I hg hm ?_ hdb)
  refine PySem.W.callWith_K (h₀ := X.base) I.ok.mod.kin T.kC (thn (ha.run pos pins s σ H _ I h) fun us s1 z => ?_) he hpl
  obtain ⟨vs, H1, I1, r1, _, q1⟩ := z
  refine ⟨I1.kIn, ?_⟩
  show wpAny _ _ (call (.ref C) us) _ _ _
  obtain ⟨hp, g, dr, tk, os⟩ := s1
  have grow : ∀ b o, hp.get? b = some o → ((hp.push (PySem.W.kdv_tup us)).push (PySem.HandSPX.excO C hp.objs.size)).get? b = some o := fun b o q => Heap.get?_push_of_some _ (Heap.get?_push_of_some _ q)
  have rec0 : ((hp.push (PySem.W.kdv_tup us)).push (PySem.HandSPX.excO C hp.objs.size)).get? (hp.objs.size + 1) = some (PySem.HandSPX.excO C hp.objs.size) := by heap_get
  have le1 : hp.objs.size ≤ hp.objs.size + 1 := Nat.le_succ _
  have fresh : H1 (hp.objs.size + 1) = none := I1.hok.fresh le1
  generalize hz : (hp.push (PySem.W.kdv_tup us)).push (PySem.HandSPX.excO C hp.objs.size) = h0 at grow rec0
  have I2 : Inv X pins σ (upd H1 (hp.objs.size + 1) (exo (hp.objs.size + 1) C none)) ⟨h0, g, dr, tk, os⟩ := I1.laid (t' := tk) (h' := h0) grow le1 (exo_ok rec0)
  have want := q1 (hp.objs.size + 1) fresh
  have both : Vals (V.ref (hp.objs.size + 1) :: vs) (Value.ref (hp.objs.size + 1) :: us) := .cons rfl r1
  have many : (Value.ref (hp.objs.size + 1) :: us).length = ps.length := both.length.symm.trans (Fi.len _ _ _ _ want)
  have short : us.length ≤ sizeLine := by rw [← Paired.length r1, sizeLine_eq]; omega
  have bnd := hb ⟨h0, g, dr, tk, os⟩ (Value.ref (hp.objs.size + 1) :: us) I2.kIn (by rw [List.append_nil]; exact many)
  rw [List.append_nil] at bnd
  have go := Fi.run (X.A.under (.builtin "type.__call__" ⟨.ref C :: us, []⟩)) X.stack ⟨h0, g, dr, tk, os⟩ _ ⟨Value.ref (hp.objs.size + 1) :: us, []⟩ (Value.ref (hp.objs.size + 1) :: us) _ _ (fun _ _ _ => False) l (hr.make C us []) (wl.under _) (fun p h => pin_ok I2 (hl p h)) (I2.env0.make C us []) bnd both want
  subst hz
  refine wpAny_call (PySem.HandSPX.call_own F.excBase_ValueError (fun Y => PySem.HandSPX.refsVE_contains Y c5 hbm) (I1.kIn _ _ hC) (PySem.W.looks_findIn I1.kIn iC) (fun self => PySem.W.bind_fn I1.kIn self tI) short (codeAny_mono go fun out s' z => ?_))
  match out, z with
  | .error er, z => exact hx pins σ _ _ er s' I2 z
  | .ok .next, z => exact z.elim
  | .ok .brk, z => exact z.elim
  | .ok .cont, z => exact z.elim
  | .ok (.ret u), z =>
    obtain ⟨v, H2, J, rv, ev, d, fs, ea, ed, q2⟩ := I2.after z
    subst ev
    obtain ⟨h2, g2, dr2, t2, os'⟩ := s'
    obtain ⟨mA, hns, rel⟩ := exd_at J.hok ed
    have hex : ∃ o, h2.get? d = some o := by
      obtain ⟨o, _, _, e', _⟩ := hns
      exact ⟨o, e'⟩
    have J2 := J.write (t' := t2) (x := d) (e := d) (h' := h2) (o := .xd fs) (by rw [ed]; exact True.intro) (.inl rfl) (fun b o _ q => q) hex ⟨mA, hns, rel⟩
    exact ⟨rv, ⟨.ref (hp.objs.size + 1), _, J2, rfl, q2⟩⟩
end
def iExn (x f : Str) (ma : IA) : IE := fun Λ S => (ma Λ S).bind fun xs S1 => a1 xs fun v => .ok (.adr (S1.length + 1)) (S1 ++ [.xd [(f, v)]] ++ [.exn x S1.length])
theorem exn_hp {H1 : Hp} {a dx : Addr} {o o' o'' o3 : HO} (hne : dx ≠ a) : upd (upd (upd (upd H1 a o) dx o') a o'') dx o3 = upd (upd H1 dx o3) a o'' := by
  funext b
  by_cases hb : b = dx
  · rw [hb, upd_same, upd_ne hne, upd_same]
  · rw [upd_ne hb]
    by_cases hc : b = a
    · rw [hc, upd_same, upd_same]
    · rw [upd_ne hc, upd_ne hb, upd_ne hc, upd_ne hc, upd_ne hb]
section
variable {X : Cx} {W : WZ} {e : Expr} {es : List Expr} {ma : IA} {x f : Str} {p pos rpos : Pos}
theorem exn_two {K : KX} {w1 : Wd} {S1 : Sto} {H1 : Hp} {a dx C : Addr} {fs : List (Str × V)} {gs : List (Str × IV)} {x : Str} (r1 : R K w1 S1 H1) (hm : K.mg x = some (.ref C)) (ha : H1 a = none) (hd : H1 dx = none) (hne : dx ≠ a) (rf : ∀ w', w1.le w' → RelKV K w' fs gs) :
    ∃ w3, w1.le w3 ∧ R K w3 (S1 ++ [.xd gs] ++ [.exn x S1.length]) (upd (upd H1 dx (.xd fs)) a (exo a C (some dx))) ∧ Rel K w3 (.ref a) (.adr (S1.length + 1)) := by
  obtain ⟨l2, r2⟩ := r1.alloc (p := dx) (o := .xd fs) (c := .xd gs) hd fun w' l' => ⟨_, upd_same, rf w' l'⟩
  have ha2 : upd H1 dx (.xd fs) a = none := by rw [upd_ne (Ne.symm hne)]; exact ha
  have hat : (w1.rho ++ [dx])[S1.length]? = some dx := by rw [← r1.len]; simp
  obtain ⟨l3, r3⟩ := r2.alloc (p := a) (o := exo a C (some dx)) (c := .exn x S1.length) ha2 fun w' l' => ⟨C, dx, hm, l'.1.get hat, upd_same⟩
  refine ⟨_, l2.trans l3, r3, .adr ?_⟩
  show ((w1.rho ++ [dx]) ++ [a])[S1.length + 1]? = some a
  have hl : (w1.rho ++ [dx]).length = S1.length + 1 := by rw [List.length_append, r1.len]; rfl
  rw [← hl]; simp
theorem de_exn (c : ECal X.prog X.w X.K X.mg X.base x f) (tk : Takes X W.x) (hr : RmH 2 X.A) (hw : WarmI X) (ha : DA X W (e :: es) ma) (hg : Gl X x := by rfl) (hdb : (x == ("__debug__" : Str)) = false := by decide)
    (he : starEach (e :: es) X.env = (false, eval e X.env) :: starEach es X.env := by rfl) (hpl : (backTo pos (starEach es X.env)).any (·.1) = false := by rfl) :
    DE X W (.Call (.Name x p) (e :: es) [] pos) (iExn x f ma) := by
  obtain ⟨C, fI, fd, a, b, ec, iC, tI, bi, F⟩ := c.ex
  refine (pe_excV ec.o iC tI F hr hw bi (passes_call tk fun _ _ _ _ z => z.elim) hg ec.m ha hdb he hpl).imp fun σ H Q ⟨w, S, Λ, r0, s0, p⟩ => ?_
  refine ⟨w, S, Λ, r0, s0, p.bind.imp fun w1 H1 S1 ivs l1 r1 p1 vs rv => ?_⟩
  obtain ⟨v, y, rfl, rfl, rv, p1⟩ := a1_post p1 rv
  refine ⟨by simp, fun e he => ⟨e, C, v, rfl, ec.o, ec.nf, upd_same, fun dx hdx hne => ⟨rfl, dx, [(f, v)], upd_same, by rw [upd_ne hne, upd_same], ?_⟩⟩⟩
  rw [exn_hp hne]
  obtain ⟨w3, l3, r3, rx⟩ := exn_two (K := kx X W) (fs := [(f, v)]) (gs := [(f, y)]) r1 ec.m he (by rwa [upd_ne hne] at hdx) hne fun w' l' => .cons ⟨rfl, rv.up l'⟩ .nil
  exact p1 _ _ l3 r3 _ rx
end
def exSp2 (K : PySem.W.Frag) (f g : Str) : Sp := fun vs H Q _ => ∃ (a C : Addr) (v u : V), vs = [.ref a, v, u] ∧ OexC K C ∧ PySem.W.findIn K (.ref C) f = some none ∧ PySem.W.findIn K (.ref C) g = some none ∧ H a = some (exo a C none) ∧
  ∀ dx, H dx = none → dx ≠ a → Q .non (upd (upd (upd H dx (exd dx [(f, v)])) a (exo a C (some dx))) dx (exd dx [(g, u), (f, v)]))
structure E2Cal (P : Program) (w : World) (K : PySem.W.Frag) (mg : Str → Option Value) (base : Heap) (x f g : Str) : Prop where
  ex : ∃ (C fI : Addr) (fd : FuncData) (a b c : Str), EClsAt K mg x f C ∧ PySem.W.findIn K (.ref C) g = some none ∧ PySem.W.findIn K (.ref C) "__init__" = some (some (.ref fI)) ∧ PySem.W.typeIn K (.ref fI) = some (.type "function") ∧
    L2.Binds K fd [a, b, c] [] ∧ FnL P w K mg base 1 fI fd [a, b, c] (exSp2 K f g)
section
variable {P : Program} {w : World} {K : PySem.W.Frag} {mg : Str → Option Value} {base : Heap}
def tInit2 (K : PySem.W.Frag) (f g z : Str) : TS := tSeq (tDrop (tVeI K (tCons (tVar 0) (tCons (tC (.str z)) tNil)))) (tSeq (tOst K f (tVar 0) (tVar 1)) (tOst K g (tVar 0) (tVar 2)))
theorem einit2_ok {qual : Str} {st : Stmt} {fI : Addr} {fd : FuncData} {f g a b c z : Str} (F : Fun K "__init__" qual st fI fd) (Sc : FnScope [a, b, c] [a, b, c] (defScope st))
    (hb : ∀ (cdv : Value) (A : Around) (outer : List Env) (s : Shared) (H : Hp) (E : XK) (l : List Pin), PSs (cxL P w K mg base [a, b, c] qual (defScope st) fI cdv A outer s H E l) (defBody st) (tInit2 K f g z)) : FnL P w K mg base 1 fI fd [a, b, c] (exSp2 K f g) := by
  refine okL F Sc (fun vs H Q E h => by obtain ⟨_, _, _, _, rfl, _⟩ := h; rfl) fun cdv A outer s H vs Q E l hr hw h => ?_
  obtain ⟨e, C, v, u, rfl, T, nf, ng, ha, q⟩ := h
  refine ⟨_, hb cdv A outer s H E l, .ref e, rfl, e, C, [.str z], rfl, by simp, T, ha, v, rfl, .ref e, rfl, e, C, rfl, T, nf, .inl ⟨ha, fun dx hn hne => ?_⟩⟩
  exact ⟨u, rfl, .ref e, rfl, e, C, rfl, T, ng, .inr ⟨dx, [(f, v)], upd_same, by rw [upd_ne hne, upd_same], by simp, q dx hn hne⟩⟩
theorem e2cal_def {x f g a b c qual z : Str} {st : Stmt} (L : ∃ (C fI : Addr) (fd : FuncData), EClsAt K mg x f C ∧ PySem.W.findIn K (.ref C) g = some none ∧ PySem.W.findIn K (.ref C) "__init__" = some (some (.ref fI)) ∧ PySem.W.typeIn K (.ref fI) = some (.type "function") ∧
      L2.Binds K fd [a, b, c] [] ∧ Fun K "__init__" qual st fI fd) (Sc : FnScope [a, b, c] [a, b, c] (defScope st))
    (hb : ∀ (fI : Addr) (cdv : Value) (A : Around) (outer : List Env) (s : Shared) (H : Hp) (E : XK) (l : List Pin), PSs (cxL P w K mg base [a, b, c] qual (defScope st) fI cdv A outer s H E l) (defBody st) (tInit2 K f g z)) : E2Cal P w K mg base x f g := by
  obtain ⟨C, fI, fd, h1, h2, h3, h4, h5, h6⟩ := L
  exact ⟨C, fI, fd, a, b, c, h1, h2, h3, h4, h5, einit2_ok h6 Sc (hb fI)⟩
def E2Loc (K : PySem.W.Frag) (mg : Str → Option Value) (x f g a b c qual : Str) (st : Stmt) : Prop := ∃ (C fI : Addr) (fd : FuncData), EClsAt K mg x f C ∧ PySem.W.findIn K (.ref C) g = some none ∧ PySem.W.findIn K (.ref C) "__init__" = some (some (.ref fI)) ∧ PySem.W.typeIn K (.ref fI) = some (.type "function") ∧
      L2.Binds K fd [a, b, c] [] ∧ Fun K "__init__" qual st fI fd
end
def iExn2 (x f g : Str) (ma : IA) : IE := fun Λ S => (ma Λ S).bind fun xs S1 => a2 xs fun v u => .ok (.adr (S1.length + 1)) (S1 ++ [.xd [(g, u), (f, v)]] ++ [.exn x S1.length])
theorem exn_hp2 {H1 : Hp} {a dx : Addr} {o o' o'' o3 o4 : HO} (hne : dx ≠ a) : upd (upd (upd (upd (upd H1 a o) dx o') a o'') dx o3) dx o4 = upd (upd H1 dx o4) a o'' := by
  rw [upd_upd, exn_hp hne]
section
variable {X : Cx} {W : WZ} {e : Expr} {es : List Expr} {ma : IA} {x f g : Str} {p pos rpos : Pos}
theorem de_exn2 (c : E2Cal X.prog X.w X.K X.mg X.base x f g) (tk : Takes X W.x) (hr : RmH 2 X.A) (hw : WarmI X) (ha : DA X W (e :: es) ma) (hg : Gl X x := by rfl) (hdb : (x == ("__debug__" : Str)) = false := by decide)
    (he : starEach (e :: es) X.env = (false, eval e X.env) :: starEach es X.env := by rfl) (hpl : (backTo pos (starEach es X.env)).any (·.1) = false := by rfl) :
    DE X W (.Call (.Name x p) (e :: es) [] pos) (iExn2 x f g ma) := by
  obtain ⟨C, fI, fd, a, b, c', ec, ng, iC, tI, bi, F⟩ := c.ex
  refine (pe_excV ec.o iC tI F hr hw bi (passes_call tk fun _ _ _ _ z => z.elim) hg ec.m ha hdb he hpl).imp fun σ H Q ⟨w, S, Λ, r0, s0, p⟩ => ?_
  refine ⟨w, S, Λ, r0, s0, p.bind.imp fun w1 H1 S1 ivs l1 r1 p1 vs rv => ?_⟩
  obtain ⟨v, y, u, z, rfl, rfl, rv, ru, p1⟩ := a2_post p1 rv
  refine ⟨by simp, fun e he => ⟨e, C, v, u, rfl, ec.o, ec.nf, ng, upd_same, fun dx hdx hne => ⟨rfl, dx, [(g, u), (f, v)], by rw [upd_ne (Ne.symm hne), upd_same], upd_same, ?_⟩⟩⟩
  rw [exn_hp2 hne]
  obtain ⟨w3, l3, r3, rx⟩ := exn_two (K := kx X W) (fs := [(g, u), (f, v)]) (gs := [(g, z), (f, y)]) r1 ec.m he (by rwa [upd_ne hne] at hdx) hne fun w' l' => .cons ⟨rfl, ru.up l'⟩ (.cons ⟨rfl, rv.up l'⟩ .nil)
  exact p1 _ _ l3 r3 _ rx
end
def onX {α : Type} (S : Sto) (x : IV) (k : Str → List (Str × IV) → Out α) : Out α := match x with
  | .adr m => (match S[m]? with
    | some (.exn C n) => (match S[n]? with
      | some (.xd fs) => k C fs
      | _ => .bad)
    | _ => .bad)
  | _ => .bad
theorem onX_s {α : Type} {S : Sto} {C : Str} {m n : Nat} {fs : List (Str × IV)} {k : Str → List (Str × IV) → Out α} (h : S[m]? = some (.exn C n)) (h2 : S[n]? = some (.xd fs)) : onX S (.adr m) k = k C fs := by
  unfold onX; simp only [h, h2]
theorem onX_post {α : Type} {K : KX} {W : WX} {w : Wd} {S : Sto} {H : Hp} {v : V} {x : IV} {k : Str → List (Str × IV) → Out α} {P : Wd → Hp → Sto → α → Prop} (h : Post K W w (onX S x k) P) (r : R K w S H) (rx : Rel K w v x) :
    ∃ (C : Str) (fs : List (Str × IV)) (a Ca d : Addr) (ps : List (Str × V)), v = .ref a ∧ K.mg C = some (.ref Ca) ∧ H a = some (exo a Ca (some d)) ∧ H d = some (.xd ps) ∧ RelKV K w ps fs ∧ Post K W w (k C fs) P := by
  unfold onX at h
  split at h
  · cases rx with
    | adr hrho =>
      split at h
      · rename_i q
        split at h
        · rename_i q2
          obtain ⟨Ca, d, h0, h1, h2⟩ := r.cell _ _ _ q hrho
          obtain ⟨ps, h3, h4⟩ := r.cell _ _ _ q2 h1
          exact ⟨_, _, _, Ca, d, ps, rfl, h0, h2, h3, h4, h⟩
        · exact h.elim
      · exact h.elim
  · exact h.elim
theorem pe_xfV {X : Cx} {e : Expr} {te : TE} {pos : Pos} {n : Str} (he : PE X e te) (hb : attributeBase e n X.env (eval e X.env) = eval e X.env) :
    PE X (.Attribute e n pos) (fun σ H Q => te σ H fun x H1 => ∃ (a C dd : Addr) (fs : List (Str × V)) (v : V), x = .ref a ∧ H1 a = some (exo a C (some dd)) ∧ XfC X.K C ∧ PySem.W.findIn X.K (.ref C) n = some none ∧ H1 dd = some (.xd fs) ∧ fs.lookup n = some v ∧ Q v H1) := by
  refine ⟨fun pins s σ H Q I h => ?_⟩
  refine attr_of hb (thn (he.run pins s σ H _ I h) fun u s1 hh => ?_)
  obtain ⟨x, H1, I1, rx, a, C, dd, fs, v, ex, eo, T, hno, ea, l, q⟩ := hh
  subst ex
  obtain rfl : u = Value.ref a := rx
  obtain ⟨t1, ha⟩ := exo_at I1.hok eo
  have hx : ObjOk X.prog X.w H1 s1.heap dd (.xd fs) := I1.hok dd _ ea
  obtain ⟨mA, hns, hr⟩ := hx
  obtain ⟨od, ho, hl⟩ := lookIn_ns hns
  obtain ⟨u, hu, ru⟩ := RelO.some_of (v := v) (o := mA n) (by rw [← l]; exact hr n)
  have J : PySem.W.InstAt s1.heap a _ C (some od) := ⟨ha, rfl, rfl, ho⟩
  exact HandSPX.exc_get I1.kIn J T.ga T.gg T.exC (PySem.W.findObj_own T.hdC hno rfl (by rw [hl, hu])) (handed_of ru) ⟨v, H1, I1.tok _, ru, q⟩
def fXn (tab : List (Str × Bool)) (f : Str) (x : IV) (S : Sto) : Out IV := onX S x fun C fs => chk (tab.lookup C = some true) (orBad (fs.lookup f) fun v => .ok v S)
theorem de_xnf {X : Cx} {W : WZ} {e : Expr} {m : IE} {pos : Pos} {f : Str} {tab : List (Str × Bool)} (h : XfT X.K X.mg tab f) (he : DE X W e m) (hb : attributeBase e f X.env (eval e X.env) = eval e X.env := by rfl) :
    DE X W (.Attribute e f pos) (iUn (fXn tab f) m) := by
  refine (pe_xfV he hb).imp fun σ H Q ⟨w, S, Λ, r0, s0, p⟩ => ⟨w, S, Λ, r0, s0, p.bind.imp fun w1 H1 S1 ix l1 r1 p1 v1 rv1 => ?_⟩
  obtain ⟨C, fs, a, Ca, d, ps, h1, h2, h3, h4, h5, q⟩ := onX_post p1 r1 rv1
  obtain ⟨ht, q⟩ := chk_post q
  obtain ⟨iv, h7, q⟩ := orBad_post q
  obtain ⟨v, h8, h9⟩ := relKV_lookup h5 h7
  obtain ⟨Cb, g1, g2, g3⟩ := h C ht
  cases g1.symm.trans h2
  exact ⟨a, Ca, d, ps, v, h1, h3, g2, g3, h4, h8, q.now r1 v h9⟩
theorem call_isV {X : Cx} : CallR X (.builtin "isinstance") (fun xs H Q => ∃ (a C dd : Addr) (fs : List (Str × V)) (c : V) (cv : Value) (b : Bool), xs = [.ref a, c] ∧ (∀ u, RelV c u → u = cv) ∧ H a = some (exo a C (some dd)) ∧ H dd = some (.xd fs) ∧ ExcC X.K C ∧ PySem.W.kitOne X.K (.ref C) cv = some b ∧ Q (.bl b) H) := by
  intro pins s σ H xs us Q I r h
  obtain ⟨a, Ca, d, fs, c, cv, b, rfl, hcv, hea, hx, C, e, q⟩ := h
  cases r with
  | cons rx rr =>
    cases rr with
    | cons rt rr =>
      cases rr
      cases rx
      have ec := hcv _ rt
      subst ec
      obtain ⟨t1, hget⟩ := exo_at I.hok hea
      obtain ⟨mA, hns, hr⟩ := (show ObjOk X.prog X.w H s.heap d (.xd fs) from I.hok d _ hx)
      obtain ⟨od, ho, hl⟩ := lookIn_ns hns
      have J : PySem.W.InstAt s.heap a _ Ca (some od) := ⟨hget, rfl, rfl, ho⟩
      have hcl : (PySem.W.clsIn X.K Ca).isSome = true := by
        obtain ⟨cd, hc, _⟩ := PySem.W.any_some C.hd
        rw [hc]; rfl
      exact PySem.W.kia_one (PySem.W.kitx_exc hcl C.hg C.hk C.hs C.ha C.hn C.ht C.hm) I.kIn J e (fun z => nomatch z) fun tk => ⟨.bl b, H, I.kept (t' := tk) fun _ _ z => z, rfl, q⟩
def ExT (K : PySem.W.Frag) (mg : Str → Option Value) (tab : List (Str × Bool)) : Prop := ∀ C, tab.lookup C = some true → ∃ Ca : Addr, mg C = some (.ref Ca) ∧ ExcC K Ca
def KiT (K : PySem.W.Frag) (mg : Str → Option Value) (x : Str) (ist : List (Str × Bool)) : Prop := ∃ cv : Value, ClsN mg x cv ∧ ∀ C b, ist.lookup C = some b → ∃ Ca : Addr, mg C = some (.ref Ca) ∧ PySem.W.kitOne K (.ref Ca) cv = some b
def fIsX (tab ist : List (Str × Bool)) (x : IV) (S : Sto) : Out IV := onX S x fun C _ => chk (tab.lookup C = some true) (orBad (ist.lookup C) fun b => .ok (.bl b) S)
theorem de_isV {X : Cx} {W : WZ} {e : Expr} {m : IE} {p pos pc : Pos} {x : Str} {tab ist : List (Str × Bool)} (hT : ExT X.K X.mg tab) (hK : KiT X.K X.mg x ist) (hm : X.mg "isinstance" = none) (he : DE X W e m) (hg : Gl X "isinstance" := by rfl) (hgx : Gl X x := by rfl) (hxn : x ≠ "__name__" := by decide) (hdx : (x == ("__debug__" : Str)) = false := by decide)
    (hs : starEach [e, .Name x pc] X.env = (false, eval e X.env) :: starEach [.Name x pc] X.env := by rfl) (hs2 : starEach [.Name x pc] X.env = (false, eval (.Name x pc) X.env) :: starEach [] X.env := by rfl) (hpl : (backTo pos (starEach [.Name x pc] X.env)).any (·.1) = false := by rfl) :
    DE X W (.Call (.Name "isinstance" p) [e, .Name x pc] [] pos) (iUn (fIsX tab ist) m) := by
  obtain ⟨cv, hx, hK⟩ := hK
  obtain ⟨c, hcv, hpe⟩ := cls_pe (r := pc) hx hgx hxn hdx
  refine (pe_callB call_isV hg hm (by decide +kernel) (pa_cons he (pa_cons hpe pa_nil hs2) hs) (by decide) (by decide) hs hpl).imp fun σ H Q ⟨w, S, Λ, r0, s0, q⟩ => ?_
  refine ⟨w, S, Λ, r0, s0, q.bind.imp fun w1 H1 S1 ix l1 r1 p1 v1 rv1 => ?_⟩
  obtain ⟨C, fs, a, Ca, d, ps, h1, h2, h3, h4, h5, q⟩ := onX_post p1 r1 rv1
  obtain ⟨ht, q⟩ := chk_post q
  obtain ⟨b, h7, q⟩ := orBad_post q
  obtain ⟨Cb, g1, g2⟩ := hT C ht
  obtain ⟨Cc, g3, g4⟩ := hK C b h7
  cases g1.symm.trans h2
  cases g3.symm.trans h2
  subst h1
  exact ⟨a, Ca, d, ps, c, cv, b, rfl, hcv, h3, h4, g2, g4, q.now r1 _ (.bl b)⟩
section
variable {K : PySem.W.Frag} {h : Heap} {mg : Str → Option Value}
abbrev ERow := Str × Addr × List Value
def EAt (K : PySem.W.Frag) (mg : Str → Option Value) (r : ERow) : Prop := mg r.1 = some (.ref r.2.1) ∧ ExcC K r.2.1 ∧ ∃ cd, PySem.W.clsIn K r.2.1 = some cd ∧ cd.mro = .ref r.2.1 :: r.2.2
def AllE (P : ERow → Prop) : List ERow → Prop
  | [] => True
  | r :: t => P r ∧ AllE P t
theorem allE_get {P : ERow → Prop} : ∀ {t : List ERow}, AllE P t → ∀ r ∈ t, P r
  | [], _, _, h => by cases h
  | a :: t, h, r, hr => by
    rcases List.mem_cons.mp hr with e | e
    · rw [e]; exact h.1
    · exact allE_get h.2 r e
theorem lookup_map {α : Type} {g : ERow → α} {C : Str} {b : α} : ∀ {t : List ERow}, (t.map fun r => (r.1, g r)).lookup C = some b → ∃ r ∈ t, r.1 = C ∧ g r = b
  | [], e => by cases e
  | a :: t, e => by
    rw [List.map_cons] at e
    unfold List.lookup at e
    cases hk : C == a.1 with
    | true =>
      rw [hk] at e
      exact ⟨a, List.mem_cons_self, (beq_iff_eq.mp hk).symm, Option.some.inj e⟩
    | false =>
      rw [hk] at e
      obtain ⟨r, h1, h2⟩ := lookup_map e
      exact ⟨r, List.mem_cons_of_mem _ h1, h2⟩
theorem ext_mk {t : List ERow} {tab : List (Str × Bool)} (h : AllE (EAt K mg) t) (e : (t.map fun r => (r.1, true)) = tab) : ExT K mg tab := fun C hC => by
  rw [← e] at hC
  obtain ⟨r, h1, rfl, _⟩ := lookup_map (g := fun _ => true) hC
  have z := allE_get h r h1
  exact ⟨r.2.1, z.1, z.2.1⟩
theorem kit_ref {A D : Addr} {cd : ClassData} {bm : List Value} (hd : PySem.W.hasDictIn K D = true) (ty : PySem.W.typeIn K (.ref D) = some (.type "type")) (hc : PySem.W.clsIn K A = some cd) (hm : cd.mro = .ref A :: bm) : PySem.W.kitOne K (.ref A) (.ref D) = some ((Value.ref A :: bm).contains (.ref D)) := by
  have su : PySem.W.subIn K (.ref A) (.ref D) = some ((Value.ref A :: bm).contains (.ref D)) := by
    show PySem.W.mroIn K A (.ref D) = _
    unfold PySem.W.mroIn
    rw [hc, Option.bind_some, hm]
    rfl
  by_cases e : (Value.ref A == Value.ref D) = true
  · unfold PySem.W.kitOne
    rw [if_pos e]
    have e' := beq_iff_eq.mp e
    rw [e']
    simp
  · have e2 : (Value.ref A == Value.ref D) = false := by simpa using e
    cases hb : (Value.ref A :: bm).contains (.ref D) with
    | true => exact ko_t hd ty (su.trans (by rw [hb]))
    | false => exact ko_f hd ty (su.trans (by rw [hb])) e2
theorem kiT_ref {t : List ERow} {x : Str} {D : Addr} {ist : List (Str × Bool)} (X : K.In h) (G : h.Ns mainGlobals mg) (al : AllE (EAt K mg) t) (m : PySem.W.nsIn K mainGlobals x = some (some (.ref D))) (hd : PySem.W.hasDictIn K D = true) (ty : PySem.W.typeIn K (.ref D) = some (.type "type"))
    (e : (t.map fun r => (r.1, (Value.ref r.2.1 :: r.2.2).contains (.ref D))) = ist) : KiT K mg x ist := by
  refine ⟨.ref D, .inl ⟨PySem.W.mg_of X G m, D, rfl⟩, fun C b hb => ?_⟩
  rw [← e] at hb
  obtain ⟨r, h1, rfl, h2⟩ := lookup_map (g := fun r => (Value.ref r.2.1 :: r.2.2).contains (.ref D)) hb
  obtain ⟨z1, z2, cd, z3, z4⟩ := allE_get al r h1
  exact ⟨r.2.1, z1, by rw [kit_ref hd ty z3 z4, h2]⟩
theorem kiT_ty {t : List ERow} {T : String} {ist : List (Str × Bool)} (X : K.In h) (G : h.Ns mainGlobals mg) (al : AllE (EAt K mg) t) (z : PySem.W.nsIn K mainGlobals T = some none) (bo : bootBuiltins T = some (.type T)) (mt : PySem.W.kitMeta T = true)
    (e : (t.map fun r => (r.1, (Value.ref r.2.1 :: r.2.2).contains (.type T))) = ist) : KiT K mg T ist := by
  refine ⟨.type T, .inr ⟨PySem.W.mg_none_of X G z, bo, T, rfl⟩, fun C b hb => ?_⟩
  rw [← e] at hb
  obtain ⟨r, h1, rfl, h2⟩ := lookup_map (g := fun r => (Value.ref r.2.1 :: r.2.2).contains (.type T)) hb
  obtain ⟨z1, z2, cd, z3, z4⟩ := allE_get al r h1
  refine ⟨r.2.1, z1, ko_ty mt ?_⟩
  show PySem.W.mroIn K r.2.1 (.type T) = _
  unfold PySem.W.mroIn
  rw [z3, Option.bind_some, z4, h2]
  rfl
end
instance (i j : Int) : Decidable (CDivW i j) := by unfold CDivW; infer_instance
abbrev fDivW := fI CDivW fun i j => i / j
structure EPack (K : PySem.W.Frag) (x : Str) (fs ps : List Str) (qual : Str) (st : Stmt) (A : Addr) (bm : List Value) : Prop where
  m : PySem.W.nsIn K mainGlobals x = some (some (.ref A))
  o : OexC K A
  nf : ∀ f ∈ fs, PySem.W.findIn K (.ref A) f = some none
  cl : ∃ cd, PySem.W.clsIn K A = some cd ∧ cd.mro = .ref A :: bm
  ec : ExcC K A
  it : ∃ (fI : Addr) (fd : FuncData), PySem.W.findIn K (.ref A) "__init__" = some (some (.ref fI)) ∧ PySem.W.typeIn K (.ref fI) = some (.type "function") ∧ L2.Binds K fd ps [] ∧ Fun K "__init__" qual st fI fd
theorem epack_mk {K : PySem.W.Frag} {x qual nm q : Str} {fs ps : List Str} {st : Stmt} {A fI N : Addr} {bs bm : List Value} {sn : List Str} {sub : List Value} {ab : Bool} {col : Option Bool} {dd : Option Addr} {k0 k1 k2 k3 k5 : Option Value} {od an : Option Addr} {sl : Array (Option Value)} {oc kV dc pm cd ct : Value}
    (m : PySem.W.nsIn K mainGlobals x = some (some (.ref A)))
    (lk : K.lookup A = some (excClassObj nm q A N bs bm true sn sub ab col dd k0 k1 k2 k3 k5 "ValueError.__new__")) (rv : PySem.HandSPX.refsVE bm = true) (sa : PySem.W.findIn K (.ref A) "__setattr__" = some (some (.builtin "object.__setattr__")))
    (ex : PySem.W.subIn K (.ref A) (.type "BaseException") = some true) (ty : PySem.W.typeIn K (.ref A) = some (.type "type")) (kc : PySem.W.keepIn K (.ref A) = true) (nf : ∀ f ∈ fs, PySem.W.findIn K (.ref A) f = some none)
    (xg : PySem.W.findIn K (.ref A) "__getattribute__" = some (some (.builtin "BaseException.__getattribute__"))) (xk : PySem.W.findIn K (.ref A) "__getattr__" = some none) (hd : PySem.W.hasDictIn K A = true)
    (xa : PySem.W.findIn K (.ref A) "__class__" = some (some (.builtin "object.__class__"))) (xn : PySem.W.specialIn K (.builtin "object.__class__") "__get__" = some (some (.builtin "getset_descriptor.__get__"))) (xt : PySem.W.takesIn K (.builtin "object.__class__") = some true) (xm : PySem.W.mroIn K A (.type "object") = some true)
    (ic : PySem.W.findIn K (.ref A) "__init__" = some (some (.ref fI))) (tI : PySem.W.typeIn K (.ref fI) = some (.type "function"))
    (l : K.lookup fI = some ⟨oc, od, .func (PySem.W.fnOf "__init__" qual (defArgs st) (defBody st) (defScope st) .none kV dc pm an cd ct), sl⟩) (cc : PySem.W.codeIn K cd qual = true) (k : PySem.W.keepIn K (.ref fI) = true)
    (hb : ∀ (kV doc pm : Value) (an : Option Addr) (cdv ct : Value) (us : List Value), us.length = ps.length → bindArgs (PySem.W.fnOf "__init__" qual (defArgs st) (defBody st) (defScope st) .none kV doc pm an cdv ct) ⟨us, []⟩ = pure (ps.zip us)) : EPack K x fs ps qual st A bm :=
  have F := fun_mk (st := st) l cc k
  ⟨m, oex_mk lk rv sa ex ty kc, nf, ⟨{ name := nm, bases := bs, mro := .ref A :: bm, ns := N, qualname := q, hasDict := true, slotNames := sn, subclasses := sub, abstract := ab, collection := col, hasDel := false }, by unfold PySem.W.clsIn; rw [lk] <;> rfl, rfl⟩,
    ⟨xg, xk, ex, hd, xa, xn, xt, xm⟩, fI, _, ic, tI, F.binds hb, F⟩
section
variable {K : PySem.W.Frag} {h : Heap} {mg : Str → Option Value} {x qual a b c f g : Str} {fs ps : List Str} {st : Stmt} {A : Addr} {bm : List Value}
theorem EPack.loc (p : EPack K x [f] [a, b] qual st A bm) (X : K.In h) (G : h.Ns mainGlobals mg) : ELoc K mg x f a b qual st := by
  obtain ⟨fI, fd, i1, i2, i3, i4⟩ := p.it
  exact ⟨A, fI, fd, ⟨PySem.W.mg_of X G p.m, p.o, p.nf _ (by simp)⟩, i1, i2, i3, i4⟩
theorem EPack.loc2 (p : EPack K x [f, g] [a, b, c] qual st A bm) (X : K.In h) (G : h.Ns mainGlobals mg) : E2Loc K mg x f g a b c qual st := by
  obtain ⟨fI, fd, i1, i2, i3, i4⟩ := p.it
  exact ⟨A, fI, fd, ⟨PySem.W.mg_of X G p.m, p.o, p.nf _ (by simp)⟩, p.nf _ (by simp), i1, i2, i3, i4⟩
theorem EPack.eat (p : EPack K x fs ps qual st A bm) (X : K.In h) (G : h.Ns mainGlobals mg) : EAt K mg (x, A, bm) := ⟨PySem.W.mg_of X G p.m, p.ec, p.cl⟩
theorem EPack.xf (p : EPack K x fs ps qual st A bm) (X : K.In h) (G : h.Ns mainGlobals mg) (hf : f ∈ fs) : ∃ Ca : Addr, mg x = some (.ref Ca) ∧ XfC K Ca ∧ PySem.W.findIn K (.ref Ca) f = some none :=
  ⟨A, PySem.W.mg_of X G p.m, ⟨p.ec.hg, p.ec.hk, p.ec.hs, p.ec.hd⟩, p.nf _ hf⟩
theorem EPack.ki (p : EPack K x fs ps qual st A bm) {t : List ERow} {ist : List (Str × Bool)} (X : K.In h) (G : h.Ns mainGlobals mg) (al : AllE (EAt K mg) t)
    (e : (t.map fun r => (r.1, (Value.ref r.2.1 :: r.2.2).contains (.ref A))) = ist) : KiT K mg x ist := kiT_ref X G al p.m p.ec.hd p.o.tyC e
def exT : List Str → List (Addr × List Value) → List ERow
  | n :: ns, r :: rs => (n, r.1, r.2) :: exT ns rs
  | _, _ => []
def istOf (t : List ERow) (c : Value) : List (Str × Bool) := t.map fun r => (r.1, (Value.ref r.2.1 :: r.2.2).contains c)
end
end Sm
set_option maxHeartbeats 4000000
namespace GP
open PySem PySem.Spec PyProof.Rows L2 Sm
theorem lits : ("abcdefghijklmnopqrstuvwxyz" : Str).length = 26 ∧ ("ahead" : Str).length = 5 ∧ ("all" : Str).length = 3 ∧ ("as" : Str).length = 2 ∧ ("at" : Str).length = 2 ∧ ("call" : Str).length = 4 ∧ ("class" : Str).length = 5 ∧ ("def" : Str).length = 3 ∧ ("end" : Str).length = 3 ∧ ("for" : Str).length = 3 ∧ ("from" : Str).length = 4 ∧ ("keep" : Str).length = 4 ∧ ("none" : Str).length = 4 ∧ ("often" : Str).length = 5 ∧ ("once" : Str).length = 4 ∧ ("or" : Str).length = 2 ∧ ("patch" : Str).length = 5 ∧ ("set" : Str).length = 3 ∧ ("stand" : Str).length = 5 ∧ ("start" : Str).length = 5 ∧ ("stop" : Str).length = 4 ∧ ("table" : Str).length = 5 ∧ ("test" : Str).length = 4 ∧ ("using" : Str).length = 5 ∧ ("with" : Str).length = 4 ∧ ("" : Str).length = 0 ∧ ("x" : Str).length = 1 ∧ ("module" : Str).length = 6 ∧ ("]" : Str).length = 1 ∧ ("." : Str).length = 1 ∧ ("[" : Str).length = 1 ∧ ("function" : Str).length = 8 ∧ ("\x69mport" : Str).length = 6 ∧ ("either" : Str).length = 6 ∧ ("outside" : Str).length = 7 ∧ ("bind" : Str).length = 4 ∧ ("\x69mport " : Str).length = 7 ∧ (" " : Str).length = 1 ∧ ("from " : Str).length = 5 ∧ (" = " : Str).length = 3 ∧ ("outside " : Str).length = 8 ∧ (" as " : Str).length = 4 ∧ (" from " : Str).length = 6 ∧ (" \x69mport " : Str).length = 8 ∧ (" using " : Str).length = 7 ∧ ("def " : Str).length = 4 ∧ ("module " : Str).length = 7 := by decide +kernel
noncomputable def b__law_source : IS := (iSeq (iSet 2 (iIf (iTest (iBin fLt (iVar 1) (iCa fLen (iCons (iVar 0) iNil)))) (iBin fIx (iVar 0) (iVar 1)) (iC (.int 0)))) (iSeq (iSet 3 (iIf (iTest (iBin fGe (iCa fAbs (iCons (iVar 2) iNil)) (iBin fPow (iC (.int 10)) (iC (.int 18))))) (iCa fAbs (iCons (iVar 2) iNil)) (iC (.int 0)))) (iRet (iLst true (iCons (iVar 3) (iCons (iBin fAdd (iBin fAdd (iBin fMod (iCa fInt (iCons (iVar 2) iNil)) (iC (.int 2147483587))) (iBin fMul (iC (.int 7919)) (iVar 1))) (iC (.int 11))) (iCons (iC (.int 0)) iNil)))))))
noncomputable def m__law_source : List IV → Sto → Out IV := mDef 4 b__law_source
noncomputable def b__law_draw : IS := (iSeq (iIf (iTest (iBin fGt (iBin fIx (iVar 0) (iC (.int 0))) (iC (.int 0)))) (iSeq (iSet 2 (iBin fMod (iCa fInt (iCons (iBin fIx (iVar 0) (iC (.int 0))) iNil)) (iVar 1))) (iSeq (iAsg (iBin fDiv (iBin fIx (iVar 0) (iC (.int 0))) (iVar 1)) (iGSub (iVar 0) (iC (.int 0)))) (iRet (iVar 2)))) iNext) (iSeq (iAsg (iBin fAdd (iBin fIx (iVar 0) (iC (.int 2))) (iC (.int 1))) (iGSub (iVar 0) (iC (.int 2)))) (iSeq (iAsg (iBin fMod (iCa fInt (iCons (iBin fAdd (iBin fAdd (iBin fMul (iBin fIx (iVar 0) (iC (.int 1))) (iC (.int 39373))) (iBin fMul (iBin fMul (iBin fIx (iVar 0) (iC (.int 2))) (iBin fIx (iVar 0) (iC (.int 2)))) (iC (.int 30011)))) (iC (.int 1013))) iNil)) (iC (.int 2147483563))) (iGSub (iVar 0) (iC (.int 1)))) (iSeq (iSet 3 (iBin fDiv (iBin fIx (iVar 0) (iC (.int 1))) (iC (.int 128)))) (iRet (iBin fMod (iBin fMod (iCa fInt (iCons (iBin fAdd (iBin fMul (iVar 3) (iVar 3)) (iBin fIx (iVar 0) (iC (.int 1)))) iNil)) (iC (.int 2147399993))) (iVar 1)))))))
noncomputable def m__law_draw : List IV → Sto → Out IV := mDef 4 b__law_draw
end GP
set_option maxHeartbeats 4000000
namespace K16
open PySem PySem.Spec PyProof.Rows L2 Sm
def exAll : List (Str × Bool) := [("BadLine", true), ("TooMany", true), ("BadPath", true), ("BadTarget", true), ("NoModule", true), ("NoOutside", true), ("NoPlace", true), ("NoClass", true), ("NoOrder", true), ("NoPatch", true), ("NoStand", true), ("NotLoaded", true), ("Missing", true), ("Uncallable", true), ("Started", true), ("Idle", true), ("BadLetter", true), ("BadKind", true), ("BadPlaces", true), ("Keeps", true), ("CanFail", true), ("BadChange", true), ("Unequal", true)]
def exIs_ValueError : List (Str × Bool) := [("BadLine", true), ("TooMany", true), ("BadPath", true), ("BadTarget", true), ("NoModule", true), ("NoOutside", true), ("NoPlace", true), ("NoClass", true), ("NoOrder", true), ("NoPatch", true), ("NoStand", true), ("NotLoaded", true), ("Missing", true), ("Uncallable", true), ("Started", true), ("Idle", true), ("BadLetter", true), ("BadKind", true), ("BadPlaces", true), ("Keeps", true), ("CanFail", true), ("BadChange", true), ("Unequal", true)]
def exIs_PatchedError : List (Str × Bool) := [("BadLine", true), ("TooMany", true), ("BadPath", true), ("BadTarget", true), ("NoModule", true), ("NoOutside", true), ("NoPlace", true), ("NoClass", true), ("NoOrder", true), ("NoPatch", true), ("NoStand", true), ("NotLoaded", true), ("Missing", true), ("Uncallable", true), ("Started", true), ("Idle", true), ("BadLetter", true), ("BadKind", true), ("BadPlaces", true), ("Keeps", true), ("CanFail", true), ("BadChange", true), ("Unequal", true)]
def exIs_BadLine : List (Str × Bool) := [("BadLine", true), ("TooMany", false), ("BadPath", false), ("BadTarget", false), ("NoModule", false), ("NoOutside", false), ("NoPlace", false), ("NoClass", false), ("NoOrder", false), ("NoPatch", false), ("NoStand", false), ("NotLoaded", false), ("Missing", false), ("Uncallable", false), ("Started", false), ("Idle", false), ("BadLetter", false), ("BadKind", false), ("BadPlaces", false), ("Keeps", false), ("CanFail", false), ("BadChange", false), ("Unequal", false)]
def exIs_TooMany : List (Str × Bool) := [("BadLine", false), ("TooMany", true), ("BadPath", false), ("BadTarget", false), ("NoModule", false), ("NoOutside", false), ("NoPlace", false), ("NoClass", false), ("NoOrder", false), ("NoPatch", false), ("NoStand", false), ("NotLoaded", false), ("Missing", false), ("Uncallable", false), ("Started", false), ("Idle", false), ("BadLetter", false), ("BadKind", false), ("BadPlaces", false), ("Keeps", false), ("CanFail", false), ("BadChange", false), ("Unequal", false)]
def exIs_BadTarget : List (Str × Bool) := [("BadLine", false), ("TooMany", false), ("BadPath", false), ("BadTarget", true), ("NoModule", false), ("NoOutside", false), ("NoPlace", false), ("NoClass", false), ("NoOrder", false), ("NoPatch", false), ("NoStand", false), ("NotLoaded", false), ("Missing", false), ("Uncallable", false), ("Started", false), ("Idle", false), ("BadLetter", false), ("BadKind", false), ("BadPlaces", false), ("Keeps", false), ("CanFail", false), ("BadChange", false), ("Unequal", false)]
def exIs_NoModule : List (Str × Bool) := [("BadLine", false), ("TooMany", false), ("BadPath", false), ("BadTarget", false), ("NoModule", true), ("NoOutside", false), ("NoPlace", false), ("NoClass", false), ("NoOrder", false), ("NoPatch", false), ("NoStand", false), ("NotLoaded", false), ("Missing", false), ("Uncallable", false), ("Started", false), ("Idle", false), ("BadLetter", false), ("BadKind", false), ("BadPlaces", false), ("Keeps", false), ("CanFail", false), ("BadChange", false), ("Unequal", false)]
def exIs_NoOutside : List (Str × Bool) := [("BadLine", false), ("TooMany", false), ("BadPath", false), ("BadTarget", false), ("NoModule", false), ("NoOutside", true), ("NoPlace", false), ("NoClass", false), ("NoOrder", false), ("NoPatch", false), ("NoStand", false), ("NotLoaded", false), ("Missing", false), ("Uncallable", false), ("Started", false), ("Idle", false), ("BadLetter", false), ("BadKind", false), ("BadPlaces", false), ("Keeps", false), ("CanFail", false), ("BadChange", false), ("Unequal", false)]
def exIs_NoPlace : List (Str × Bool) := [("BadLine", false), ("TooMany", false), ("BadPath", false), ("BadTarget", false), ("NoModule", false), ("NoOutside", false), ("NoPlace", true), ("NoClass", false), ("NoOrder", false), ("NoPatch", false), ("NoStand", false), ("NotLoaded", false), ("Missing", false), ("Uncallable", false), ("Started", false), ("Idle", false), ("BadLetter", false), ("BadKind", false), ("BadPlaces", false), ("Keeps", false), ("CanFail", false), ("BadChange", false), ("Unequal", false)]
def exIs_NoClass : List (Str × Bool) := [("BadLine", false), ("TooMany", false), ("BadPath", false), ("BadTarget", false), ("NoModule", false), ("NoOutside", false), ("NoPlace", false), ("NoClass", true), ("NoOrder", false), ("NoPatch", false), ("NoStand", false), ("NotLoaded", false), ("Missing", false), ("Uncallable", false), ("Started", false), ("Idle", false), ("BadLetter", false), ("BadKind", false), ("BadPlaces", false), ("Keeps", false), ("CanFail", false), ("BadChange", false), ("Unequal", false)]
def exIs_NoOrder : List (Str × Bool) := [("BadLine", false), ("TooMany", false), ("BadPath", false), ("BadTarget", false), ("NoModule", false), ("NoOutside", false), ("NoPlace", false), ("NoClass", false), ("NoOrder", true), ("NoPatch", false), ("NoStand", false), ("NotLoaded", false), ("Missing", false), ("Uncallable", false), ("Started", false), ("Idle", false), ("BadLetter", false), ("BadKind", false), ("BadPlaces", false), ("Keeps", false), ("CanFail", false), ("BadChange", false), ("Unequal", false)]
def exIs_NoPatch : List (Str × Bool) := [("BadLine", false), ("TooMany", false), ("BadPath", false), ("BadTarget", false), ("NoModule", false), ("NoOutside", false), ("NoPlace", false), ("NoClass", false), ("NoOrder", false), ("NoPatch", true), ("NoStand", false), ("NotLoaded", false), ("Missing", false), ("Uncallable", false), ("Started", false), ("Idle", false), ("BadLetter", false), ("BadKind", false), ("BadPlaces", false), ("Keeps", false), ("CanFail", false), ("BadChange", false), ("Unequal", false)]
def exIs_NoStand : List (Str × Bool) := [("BadLine", false), ("TooMany", false), ("BadPath", false), ("BadTarget", false), ("NoModule", false), ("NoOutside", false), ("NoPlace", false), ("NoClass", false), ("NoOrder", false), ("NoPatch", false), ("NoStand", true), ("NotLoaded", false), ("Missing", false), ("Uncallable", false), ("Started", false), ("Idle", false), ("BadLetter", false), ("BadKind", false), ("BadPlaces", false), ("Keeps", false), ("CanFail", false), ("BadChange", false), ("Unequal", false)]
def exIs_NotLoaded : List (Str × Bool) := [("BadLine", false), ("TooMany", false), ("BadPath", false), ("BadTarget", false), ("NoModule", false), ("NoOutside", false), ("NoPlace", false), ("NoClass", false), ("NoOrder", false), ("NoPatch", false), ("NoStand", false), ("NotLoaded", true), ("Missing", false), ("Uncallable", false), ("Started", false), ("Idle", false), ("BadLetter", false), ("BadKind", false), ("BadPlaces", false), ("Keeps", false), ("CanFail", false), ("BadChange", false), ("Unequal", false)]
def exIs_Missing : List (Str × Bool) := [("BadLine", false), ("TooMany", false), ("BadPath", false), ("BadTarget", false), ("NoModule", false), ("NoOutside", false), ("NoPlace", false), ("NoClass", false), ("NoOrder", false), ("NoPatch", false), ("NoStand", false), ("NotLoaded", false), ("Missing", true), ("Uncallable", false), ("Started", false), ("Idle", false), ("BadLetter", false), ("BadKind", false), ("BadPlaces", false), ("Keeps", false), ("CanFail", false), ("BadChange", false), ("Unequal", false)]
def exIs_Uncallable : List (Str × Bool) := [("BadLine", false), ("TooMany", false), ("BadPath", false), ("BadTarget", false), ("NoModule", false), ("NoOutside", false), ("NoPlace", false), ("NoClass", false), ("NoOrder", false), ("NoPatch", false), ("NoStand", false), ("NotLoaded", false), ("Missing", false), ("Uncallable", true), ("Started", false), ("Idle", false), ("BadLetter", false), ("BadKind", false), ("BadPlaces", false), ("Keeps", false), ("CanFail", false), ("BadChange", false), ("Unequal", false)]
def exIs_Started : List (Str × Bool) := [("BadLine", false), ("TooMany", false), ("BadPath", false), ("BadTarget", false), ("NoModule", false), ("NoOutside", false), ("NoPlace", false), ("NoClass", false), ("NoOrder", false), ("NoPatch", false), ("NoStand", false), ("NotLoaded", false), ("Missing", false), ("Uncallable", false), ("Started", true), ("Idle", false), ("BadLetter", false), ("BadKind", false), ("BadPlaces", false), ("Keeps", false), ("CanFail", false), ("BadChange", false), ("Unequal", false)]
def exIs_Idle : List (Str × Bool) := [("BadLine", false), ("TooMany", false), ("BadPath", false), ("BadTarget", false), ("NoModule", false), ("NoOutside", false), ("NoPlace", false), ("NoClass", false), ("NoOrder", false), ("NoPatch", false), ("NoStand", false), ("NotLoaded", false), ("Missing", false), ("Uncallable", false), ("Started", false), ("Idle", true), ("BadLetter", false), ("BadKind", false), ("BadPlaces", false), ("Keeps", false), ("CanFail", false), ("BadChange", false), ("Unequal", false)]
def exIs_BadLetter : List (Str × Bool) := [("BadLine", false), ("TooMany", false), ("BadPath", false), ("BadTarget", false), ("NoModule", false), ("NoOutside", false), ("NoPlace", false), ("NoClass", false), ("NoOrder", false), ("NoPatch", false), ("NoStand", false), ("NotLoaded", false), ("Missing", false), ("Uncallable", false), ("Started", false), ("Idle", false), ("BadLetter", true), ("BadKind", false), ("BadPlaces", false), ("Keeps", false), ("CanFail", false), ("BadChange", false), ("Unequal", false)]
def exIs_BadKind : List (Str × Bool) := [("BadLine", false), ("TooMany", false), ("BadPath", false), ("BadTarget", false), ("NoModule", false), ("NoOutside", false), ("NoPlace", false), ("NoClass", false), ("NoOrder", false), ("NoPatch", false), ("NoStand", false), ("NotLoaded", false), ("Missing", false), ("Uncallable", false), ("Started", false), ("Idle", false), ("BadLetter", false), ("BadKind", true), ("BadPlaces", false), ("Keeps", false), ("CanFail", false), ("BadChange", false), ("Unequal", false)]
def exIs_BadPlaces : List (Str × Bool) := [("BadLine", false), ("TooMany", false), ("BadPath", false), ("BadTarget", false), ("NoModule", false), ("NoOutside", false), ("NoPlace", false), ("NoClass", false), ("NoOrder", false), ("NoPatch", false), ("NoStand", false), ("NotLoaded", false), ("Missing", false), ("Uncallable", false), ("Started", false), ("Idle", false), ("BadLetter", false), ("BadKind", false), ("BadPlaces", true), ("Keeps", false), ("CanFail", false), ("BadChange", false), ("Unequal", false)]
def exIs_Keeps : List (Str × Bool) := [("BadLine", false), ("TooMany", false), ("BadPath", false), ("BadTarget", false), ("NoModule", false), ("NoOutside", false), ("NoPlace", false), ("NoClass", false), ("NoOrder", false), ("NoPatch", false), ("NoStand", false), ("NotLoaded", false), ("Missing", false), ("Uncallable", false), ("Started", false), ("Idle", false), ("BadLetter", false), ("BadKind", false), ("BadPlaces", false), ("Keeps", true), ("CanFail", false), ("BadChange", false), ("Unequal", false)]
def exIs_CanFail : List (Str × Bool) := [("BadLine", false), ("TooMany", false), ("BadPath", false), ("BadTarget", false), ("NoModule", false), ("NoOutside", false), ("NoPlace", false), ("NoClass", false), ("NoOrder", false), ("NoPatch", false), ("NoStand", false), ("NotLoaded", false), ("Missing", false), ("Uncallable", false), ("Started", false), ("Idle", false), ("BadLetter", false), ("BadKind", false), ("BadPlaces", false), ("Keeps", false), ("CanFail", true), ("BadChange", false), ("Unequal", false)]
def exIs_BadChange : List (Str × Bool) := [("BadLine", false), ("TooMany", false), ("BadPath", false), ("BadTarget", false), ("NoModule", false), ("NoOutside", false), ("NoPlace", false), ("NoClass", false), ("NoOrder", false), ("NoPatch", false), ("NoStand", false), ("NotLoaded", false), ("Missing", false), ("Uncallable", false), ("Started", false), ("Idle", false), ("BadLetter", false), ("BadKind", false), ("BadPlaces", false), ("Keeps", false), ("CanFail", false), ("BadChange", true), ("Unequal", false)]
def exIs_Unequal : List (Str × Bool) := [("BadLine", false), ("TooMany", false), ("BadPath", false), ("BadTarget", false), ("NoModule", false), ("NoOutside", false), ("NoPlace", false), ("NoClass", false), ("NoOrder", false), ("NoPatch", false), ("NoStand", false), ("NotLoaded", false), ("Missing", false), ("Uncallable", false), ("Started", false), ("Idle", false), ("BadLetter", false), ("BadKind", false), ("BadPlaces", false), ("Keeps", false), ("CanFail", false), ("BadChange", false), ("Unequal", true)]
def exIs_BadPath : List (Str × Bool) := [("BadLine", false), ("TooMany", false), ("BadPath", true), ("BadTarget", false), ("NoModule", false), ("NoOutside", false), ("NoPlace", false), ("NoClass", false), ("NoOrder", false), ("NoPatch", false), ("NoStand", false), ("NotLoaded", false), ("Missing", false), ("Uncallable", false), ("Started", false), ("Idle", false), ("BadLetter", false), ("BadKind", false), ("BadPlaces", false), ("Keeps", false), ("CanFail", false), ("BadChange", false), ("Unequal", false)]
def exNames : List Str := ["BadLine", "TooMany", "BadPath", "BadTarget", "NoModule", "NoOutside", "NoPlace", "NoClass", "NoOrder", "NoPatch", "NoStand", "NotLoaded", "Missing", "Uncallable", "Started", "Idle", "BadLetter", "BadKind", "BadPlaces", "Keeps", "CanFail", "BadChange", "Unequal"]
theorem lits : ("BadLine" : Str).length = 7 ∧ ("TooMany" : Str).length = 7 ∧ ("BadTarget" : Str).length = 9 ∧ ("NoModule" : Str).length = 8 ∧ ("NoOutside" : Str).length = 9 ∧ ("NoPlace" : Str).length = 7 ∧ ("NoClass" : Str).length = 7 ∧ ("NoOrder" : Str).length = 7 ∧ ("NoPatch" : Str).length = 7 ∧ ("NoStand" : Str).length = 7 ∧ ("NotLoaded" : Str).length = 9 ∧ ("Missing" : Str).length = 7 ∧ ("Uncallable" : Str).length = 10 ∧ ("Started" : Str).length = 7 ∧ ("Idle" : Str).length = 4 ∧ ("BadLetter" : Str).length = 9 ∧ ("BadKind" : Str).length = 7 ∧ ("BadPlaces" : Str).length = 9 ∧ ("Keeps" : Str).length = 5 ∧ ("CanFail" : Str).length = 7 ∧ ("BadChange" : Str).length = 9 ∧ ("Unequal" : Str).length = 7 ∧ ("BadPath" : Str).length = 7 ∧ ("p" : Str).length = 1 ∧ ("" : Str).length = 0 ∧ ("ahead" : Str).length = 5 ∧ ("m" : Str).length = 1 ∧ ("m.C" : Str).length = 3 := by decide +kernel
def topS (i : Nat) : Stmt := PySem.Challenge.pw_patchedplaces_k16_errors.main.body.getD i (.Pass ⟨0, 0, 0, 0⟩)
section
variable {P : Program} {w : World} {K : PySem.W.Frag} {mg : Str → Option Value} {base : Heap}
abbrev s_Idle___init__ : Stmt := inClass (topS 17) 0
theorem sc_Idle : FnScope ["self", "name"] ["self", "name"] (defScope s_Idle___init__) := ⟨rfl, rfl, rfl, by decide +kernel, rfl, by decide +kernel, by decide +kernel⟩
theorem ok_e_Idle (L : ELoc K mg "Idle" "name" "self" "name" "Idle.__init__" s_Idle___init__) (b_PatchedError : BaseC K mg "PatchedError") : ECal P w K mg base "Idle" "name" :=
  ecal_def (z := "not started") L sc_Idle fun fI cdv A outer s H E l => pss_cons (ps_expr (pe_clsinit rfl b_PatchedError (by decide) (pa_cons (pe_var (i := 0) rfl (Or.inl rfl)) (pa_cons pe_str pa_nil)))) (pss_one (ps_ost (pe_var (i := 0) rfl (Or.inl rfl)) (pe_var (i := 1) rfl (Or.inl rfl))))
abbrev s_NoStand___init__ : Stmt := inClass (topS 12) 0
theorem sc_NoStand : FnScope ["self", "name"] ["self", "name"] (defScope s_NoStand___init__) := ⟨rfl, rfl, rfl, by decide +kernel, rfl, by decide +kernel, by decide +kernel⟩
theorem ok_e_NoStand (L : ELoc K mg "NoStand" "name" "self" "name" "NoStand.__init__" s_NoStand___init__) (b_PatchedError : BaseC K mg "PatchedError") : ECal P w K mg base "NoStand" "name" :=
  ecal_def (z := "no such stand-in") L sc_NoStand fun fI cdv A outer s H E l => pss_cons (ps_expr (pe_clsinit rfl b_PatchedError (by decide) (pa_cons (pe_var (i := 0) rfl (Or.inl rfl)) (pa_cons pe_str pa_nil)))) (pss_one (ps_ost (pe_var (i := 0) rfl (Or.inl rfl)) (pe_var (i := 1) rfl (Or.inl rfl))))
abbrev s_NoPatch___init__ : Stmt := inClass (topS 11) 0
theorem sc_NoPatch : FnScope ["self", "name"] ["self", "name"] (defScope s_NoPatch___init__) := ⟨rfl, rfl, rfl, by decide +kernel, rfl, by decide +kernel, by decide +kernel⟩
theorem ok_e_NoPatch (L : ELoc K mg "NoPatch" "name" "self" "name" "NoPatch.__init__" s_NoPatch___init__) (b_PatchedError : BaseC K mg "PatchedError") : ECal P w K mg base "NoPatch" "name" :=
  ecal_def (z := "no such patch") L sc_NoPatch fun fI cdv A outer s H E l => pss_cons (ps_expr (pe_clsinit rfl b_PatchedError (by decide) (pa_cons (pe_var (i := 0) rfl (Or.inl rfl)) (pa_cons pe_str pa_nil)))) (pss_one (ps_ost (pe_var (i := 0) rfl (Or.inl rfl)) (pe_var (i := 1) rfl (Or.inl rfl))))
abbrev s_NoOrder___init__ : Stmt := inClass (topS 10) 0
theorem sc_NoOrder : FnScope ["self", "rows"] ["self", "rows"] (defScope s_NoOrder___init__) := ⟨rfl, rfl, rfl, by decide +kernel, rfl, by decide +kernel, by decide +kernel⟩
theorem ok_e_NoOrder (L : ELoc K mg "NoOrder" "rows" "self" "rows" "NoOrder.__init__" s_NoOrder___init__) (b_PatchedError : BaseC K mg "PatchedError") : ECal P w K mg base "NoOrder" "rows" :=
  ecal_def (z := "no order") L sc_NoOrder fun fI cdv A outer s H E l => pss_cons (ps_expr (pe_clsinit rfl b_PatchedError (by decide) (pa_cons (pe_var (i := 0) rfl (Or.inl rfl)) (pa_cons pe_str pa_nil)))) (pss_one (ps_ost (pe_var (i := 0) rfl (Or.inl rfl)) (pe_var (i := 1) rfl (Or.inl rfl))))
abbrev s_NoClass___init__ : Stmt := inClass (topS 9) 0
theorem sc_NoClass : FnScope ["self", "label"] ["self", "label"] (defScope s_NoClass___init__) := ⟨rfl, rfl, rfl, by decide +kernel, rfl, by decide +kernel, by decide +kernel⟩
theorem ok_e_NoClass (L : ELoc K mg "NoClass" "label" "self" "label" "NoClass.__init__" s_NoClass___init__) (b_PatchedError : BaseC K mg "PatchedError") : ECal P w K mg base "NoClass" "label" :=
  ecal_def (z := "no such class") L sc_NoClass fun fI cdv A outer s H E l => pss_cons (ps_expr (pe_clsinit rfl b_PatchedError (by decide) (pa_cons (pe_var (i := 0) rfl (Or.inl rfl)) (pa_cons pe_str pa_nil)))) (pss_one (ps_ost (pe_var (i := 0) rfl (Or.inl rfl)) (pe_var (i := 1) rfl (Or.inl rfl))))
abbrev s_NoPlace___init__ : Stmt := inClass (topS 8) 0
theorem sc_NoPlace : FnScope ["self", "place"] ["self", "place"] (defScope s_NoPlace___init__) := ⟨rfl, rfl, rfl, by decide +kernel, rfl, by decide +kernel, by decide +kernel⟩
theorem ok_e_NoPlace (L : ELoc K mg "NoPlace" "place" "self" "place" "NoPlace.__init__" s_NoPlace___init__) (b_PatchedError : BaseC K mg "PatchedError") : ECal P w K mg base "NoPlace" "place" :=
  ecal_def (z := "no such place") L sc_NoPlace fun fI cdv A outer s H E l => pss_cons (ps_expr (pe_clsinit rfl b_PatchedError (by decide) (pa_cons (pe_var (i := 0) rfl (Or.inl rfl)) (pa_cons pe_str pa_nil)))) (pss_one (ps_ost (pe_var (i := 0) rfl (Or.inl rfl)) (pe_var (i := 1) rfl (Or.inl rfl))))
abbrev s_NoOutside___init__ : Stmt := inClass (topS 7) 0
theorem sc_NoOutside : FnScope ["self", "label"] ["self", "label"] (defScope s_NoOutside___init__) := ⟨rfl, rfl, rfl, by decide +kernel, rfl, by decide +kernel, by decide +kernel⟩
theorem ok_e_NoOutside (L : ELoc K mg "NoOutside" "label" "self" "label" "NoOutside.__init__" s_NoOutside___init__) (b_PatchedError : BaseC K mg "PatchedError") : ECal P w K mg base "NoOutside" "label" :=
  ecal_def (z := "no such outside function") L sc_NoOutside fun fI cdv A outer s H E l => pss_cons (ps_expr (pe_clsinit rfl b_PatchedError (by decide) (pa_cons (pe_var (i := 0) rfl (Or.inl rfl)) (pa_cons pe_str pa_nil)))) (pss_one (ps_ost (pe_var (i := 0) rfl (Or.inl rfl)) (pe_var (i := 1) rfl (Or.inl rfl))))
abbrev s_NoModule___init__ : Stmt := inClass (topS 6) 0
theorem sc_NoModule : FnScope ["self", "name"] ["self", "name"] (defScope s_NoModule___init__) := ⟨rfl, rfl, rfl, by decide +kernel, rfl, by decide +kernel, by decide +kernel⟩
theorem ok_e_NoModule (L : ELoc K mg "NoModule" "name" "self" "name" "NoModule.__init__" s_NoModule___init__) (b_PatchedError : BaseC K mg "PatchedError") : ECal P w K mg base "NoModule" "name" :=
  ecal_def (z := "no such module") L sc_NoModule fun fI cdv A outer s H E l => pss_cons (ps_expr (pe_clsinit rfl b_PatchedError (by decide) (pa_cons (pe_var (i := 0) rfl (Or.inl rfl)) (pa_cons pe_str pa_nil)))) (pss_one (ps_ost (pe_var (i := 0) rfl (Or.inl rfl)) (pe_var (i := 1) rfl (Or.inl rfl))))
abbrev s_BadTarget___init__ : Stmt := inClass (topS 5) 0
theorem sc_BadTarget : FnScope ["self", "target"] ["self", "target"] (defScope s_BadTarget___init__) := ⟨rfl, rfl, rfl, by decide +kernel, rfl, by decide +kernel, by decide +kernel⟩
theorem ok_e_BadTarget (L : ELoc K mg "BadTarget" "target" "self" "target" "BadTarget.__init__" s_BadTarget___init__) (b_PatchedError : BaseC K mg "PatchedError") : ECal P w K mg base "BadTarget" "target" :=
  ecal_def (z := "not a target") L sc_BadTarget fun fI cdv A outer s H E l => pss_cons (ps_expr (pe_clsinit rfl b_PatchedError (by decide) (pa_cons (pe_var (i := 0) rfl (Or.inl rfl)) (pa_cons pe_str pa_nil)))) (pss_one (ps_ost (pe_var (i := 0) rfl (Or.inl rfl)) (pe_var (i := 1) rfl (Or.inl rfl))))
abbrev s_BadPath___init__ : Stmt := inClass (topS 4) 0
theorem sc_BadPath : FnScope ["self", "path"] ["self", "path"] (defScope s_BadPath___init__) := ⟨rfl, rfl, rfl, by decide +kernel, rfl, by decide +kernel, by decide +kernel⟩
theorem ok_e_BadPath (L : ELoc K mg "BadPath" "path" "self" "path" "BadPath.__init__" s_BadPath___init__) (b_PatchedError : BaseC K mg "PatchedError") : ECal P w K mg base "BadPath" "path" :=
  ecal_def (z := "not a path of the project") L sc_BadPath fun fI cdv A outer s H E l => pss_cons (ps_expr (pe_clsinit rfl b_PatchedError (by decide) (pa_cons (pe_var (i := 0) rfl (Or.inl rfl)) (pa_cons pe_str pa_nil)))) (pss_one (ps_ost (pe_var (i := 0) rfl (Or.inl rfl)) (pe_var (i := 1) rfl (Or.inl rfl))))
abbrev s_TooMany___init__ : Stmt := inClass (topS 3) 0
theorem sc_TooMany : FnScope ["self", "what"] ["self", "what"] (defScope s_TooMany___init__) := ⟨rfl, rfl, rfl, by decide +kernel, rfl, by decide +kernel, by decide +kernel⟩
theorem ok_e_TooMany (L : ELoc K mg "TooMany" "what" "self" "what" "TooMany.__init__" s_TooMany___init__) (b_PatchedError : BaseC K mg "PatchedError") : ECal P w K mg base "TooMany" "what" :=
  ecal_def (z := "too many") L sc_TooMany fun fI cdv A outer s H E l => pss_cons (ps_expr (pe_clsinit rfl b_PatchedError (by decide) (pa_cons (pe_var (i := 0) rfl (Or.inl rfl)) (pa_cons pe_str pa_nil)))) (pss_one (ps_ost (pe_var (i := 0) rfl (Or.inl rfl)) (pe_var (i := 1) rfl (Or.inl rfl))))
abbrev s_BadLine___init__ : Stmt := inClass (topS 2) 0
theorem sc_BadLine : FnScope ["self", "at"] ["self", "at"] (defScope s_BadLine___init__) := ⟨rfl, rfl, rfl, by decide +kernel, rfl, by decide +kernel, by decide +kernel⟩
theorem ok_e_BadLine (L : ELoc K mg "BadLine" "at" "self" "at" "BadLine.__init__" s_BadLine___init__) (b_PatchedError : BaseC K mg "PatchedError") : ECal P w K mg base "BadLine" "at" :=
  ecal_def (z := "wrong line") L sc_BadLine fun fI cdv A outer s H E l => pss_cons (ps_expr (pe_clsinit rfl b_PatchedError (by decide) (pa_cons (pe_var (i := 0) rfl (Or.inl rfl)) (pa_cons pe_str pa_nil)))) (pss_one (ps_ost (pe_var (i := 0) rfl (Or.inl rfl)) (pe_var (i := 1) rfl (Or.inl rfl))))
abbrev s_BadChange___init__ : Stmt := inClass (topS 23) 0
theorem sc_BadChange : FnScope ["self", "at"] ["self", "at"] (defScope s_BadChange___init__) := ⟨rfl, rfl, rfl, by decide +kernel, rfl, by decide +kernel, by decide +kernel⟩
theorem ok_e_BadChange (L : ELoc K mg "BadChange" "at" "self" "at" "BadChange.__init__" s_BadChange___init__) (b_PatchedError : BaseC K mg "PatchedError") : ECal P w K mg base "BadChange" "at" :=
  ecal_def (z := "not a change") L sc_BadChange fun fI cdv A outer s H E l => pss_cons (ps_expr (pe_clsinit rfl b_PatchedError (by decide) (pa_cons (pe_var (i := 0) rfl (Or.inl rfl)) (pa_cons pe_str pa_nil)))) (pss_one (ps_ost (pe_var (i := 0) rfl (Or.inl rfl)) (pe_var (i := 1) rfl (Or.inl rfl))))
abbrev s_CanFail___init__ : Stmt := inClass (topS 22) 0
theorem sc_CanFail : FnScope ["self", "path"] ["self", "path"] (defScope s_CanFail___init__) := ⟨rfl, rfl, rfl, by decide +kernel, rfl, by decide +kernel, by decide +kernel⟩
theorem ok_e_CanFail (L : ELoc K mg "CanFail" "path" "self" "path" "CanFail.__init__" s_CanFail___init__) (b_PatchedError : BaseC K mg "PatchedError") : ECal P w K mg base "CanFail" "path" :=
  ecal_def (z := "the call can fail") L sc_CanFail fun fI cdv A outer s H E l => pss_cons (ps_expr (pe_clsinit rfl b_PatchedError (by decide) (pa_cons (pe_var (i := 0) rfl (Or.inl rfl)) (pa_cons pe_str pa_nil)))) (pss_one (ps_ost (pe_var (i := 0) rfl (Or.inl rfl)) (pe_var (i := 1) rfl (Or.inl rfl))))
abbrev s_Keeps___init__ : Stmt := inClass (topS 21) 0
theorem sc_Keeps : FnScope ["self", "at"] ["self", "at"] (defScope s_Keeps___init__) := ⟨rfl, rfl, rfl, by decide +kernel, rfl, by decide +kernel, by decide +kernel⟩
theorem ok_e_Keeps (L : ELoc K mg "Keeps" "at" "self" "at" "Keeps.__init__" s_Keeps___init__) (b_PatchedError : BaseC K mg "PatchedError") : ECal P w K mg base "Keeps" "at" :=
  ecal_def (z := "a row keeps a value") L sc_Keeps fun fI cdv A outer s H E l => pss_cons (ps_expr (pe_clsinit rfl b_PatchedError (by decide) (pa_cons (pe_var (i := 0) rfl (Or.inl rfl)) (pa_cons pe_str pa_nil)))) (pss_one (ps_ost (pe_var (i := 0) rfl (Or.inl rfl)) (pe_var (i := 1) rfl (Or.inl rfl))))
abbrev s_BadPlaces___init__ : Stmt := inClass (topS 20) 0
theorem sc_BadPlaces : FnScope ["self", "at"] ["self", "at"] (defScope s_BadPlaces___init__) := ⟨rfl, rfl, rfl, by decide +kernel, rfl, by decide +kernel, by decide +kernel⟩
theorem ok_e_BadPlaces (L : ELoc K mg "BadPlaces" "at" "self" "at" "BadPlaces.__init__" s_BadPlaces___init__) (b_PatchedError : BaseC K mg "PatchedError") : ECal P w K mg base "BadPlaces" "at" :=
  ecal_def (z := "not a place") L sc_BadPlaces fun fI cdv A outer s H E l => pss_cons (ps_expr (pe_clsinit rfl b_PatchedError (by decide) (pa_cons (pe_var (i := 0) rfl (Or.inl rfl)) (pa_cons pe_str pa_nil)))) (pss_one (ps_ost (pe_var (i := 0) rfl (Or.inl rfl)) (pe_var (i := 1) rfl (Or.inl rfl))))
abbrev s_BadKind___init__ : Stmt := inClass (topS 19) 0
theorem sc_BadKind : FnScope ["self", "kind"] ["self", "kind"] (defScope s_BadKind___init__) := ⟨rfl, rfl, rfl, by decide +kernel, rfl, by decide +kernel, by decide +kernel⟩
theorem ok_e_BadKind (L : ELoc K mg "BadKind" "kind" "self" "kind" "BadKind.__init__" s_BadKind___init__) (b_PatchedError : BaseC K mg "PatchedError") : ECal P w K mg base "BadKind" "kind" :=
  ecal_def (z := "not a kind of finding") L sc_BadKind fun fI cdv A outer s H E l => pss_cons (ps_expr (pe_clsinit rfl b_PatchedError (by decide) (pa_cons (pe_var (i := 0) rfl (Or.inl rfl)) (pa_cons pe_str pa_nil)))) (pss_one (ps_ost (pe_var (i := 0) rfl (Or.inl rfl)) (pe_var (i := 1) rfl (Or.inl rfl))))
abbrev s_BadLetter___init__ : Stmt := inClass (topS 18) 0
theorem sc_BadLetter : FnScope ["self", "letter"] ["self", "letter"] (defScope s_BadLetter___init__) := ⟨rfl, rfl, rfl, by decide +kernel, rfl, by decide +kernel, by decide +kernel⟩
theorem ok_e_BadLetter (L : ELoc K mg "BadLetter" "letter" "self" "letter" "BadLetter.__init__" s_BadLetter___init__) (b_PatchedError : BaseC K mg "PatchedError") : ECal P w K mg base "BadLetter" "letter" :=
  ecal_def (z := "not a possible letter") L sc_BadLetter fun fI cdv A outer s H E l => pss_cons (ps_expr (pe_clsinit rfl b_PatchedError (by decide) (pa_cons (pe_var (i := 0) rfl (Or.inl rfl)) (pa_cons pe_str pa_nil)))) (pss_one (ps_ost (pe_var (i := 0) rfl (Or.inl rfl)) (pe_var (i := 1) rfl (Or.inl rfl))))
abbrev s_Started___init__ : Stmt := inClass (topS 16) 0
theorem sc_Started : FnScope ["self", "name"] ["self", "name"] (defScope s_Started___init__) := ⟨rfl, rfl, rfl, by decide +kernel, rfl, by decide +kernel, by decide +kernel⟩
theorem ok_e_Started (L : ELoc K mg "Started" "name" "self" "name" "Started.__init__" s_Started___init__) (b_PatchedError : BaseC K mg "PatchedError") : ECal P w K mg base "Started" "name" :=
  ecal_def (z := "started already") L sc_Started fun fI cdv A outer s H E l => pss_cons (ps_expr (pe_clsinit rfl b_PatchedError (by decide) (pa_cons (pe_var (i := 0) rfl (Or.inl rfl)) (pa_cons pe_str pa_nil)))) (pss_one (ps_ost (pe_var (i := 0) rfl (Or.inl rfl)) (pe_var (i := 1) rfl (Or.inl rfl))))
abbrev s_Uncallable___init__ : Stmt := inClass (topS 15) 0
theorem sc_Uncallable : FnScope ["self", "path"] ["self", "path"] (defScope s_Uncallable___init__) := ⟨rfl, rfl, rfl, by decide +kernel, rfl, by decide +kernel, by decide +kernel⟩
theorem ok_e_Uncallable (L : ELoc K mg "Uncallable" "path" "self" "path" "Uncallable.__init__" s_Uncallable___init__) (b_PatchedError : BaseC K mg "PatchedError") : ECal P w K mg base "Uncallable" "path" :=
  ecal_def (z := "not callable") L sc_Uncallable fun fI cdv A outer s H E l => pss_cons (ps_expr (pe_clsinit rfl b_PatchedError (by decide) (pa_cons (pe_var (i := 0) rfl (Or.inl rfl)) (pa_cons pe_str pa_nil)))) (pss_one (ps_ost (pe_var (i := 0) rfl (Or.inl rfl)) (pe_var (i := 1) rfl (Or.inl rfl))))
abbrev s_Missing___init__ : Stmt := inClass (topS 14) 0
theorem sc_Missing : FnScope ["self", "path"] ["self", "path"] (defScope s_Missing___init__) := ⟨rfl, rfl, rfl, by decide +kernel, rfl, by decide +kernel, by decide +kernel⟩
theorem ok_e_Missing (L : ELoc K mg "Missing" "path" "self" "path" "Missing.__init__" s_Missing___init__) (b_PatchedError : BaseC K mg "PatchedError") : ECal P w K mg base "Missing" "path" :=
  ecal_def (z := "missing") L sc_Missing fun fI cdv A outer s H E l => pss_cons (ps_expr (pe_clsinit rfl b_PatchedError (by decide) (pa_cons (pe_var (i := 0) rfl (Or.inl rfl)) (pa_cons pe_str pa_nil)))) (pss_one (ps_ost (pe_var (i := 0) rfl (Or.inl rfl)) (pe_var (i := 1) rfl (Or.inl rfl))))
abbrev s_NotLoaded___init__ : Stmt := inClass (topS 13) 0
theorem sc_NotLoaded : FnScope ["self", "at"] ["self", "at"] (defScope s_NotLoaded___init__) := ⟨rfl, rfl, rfl, by decide +kernel, rfl, by decide +kernel, by decide +kernel⟩
theorem ok_e_NotLoaded (L : ELoc K mg "NotLoaded" "at" "self" "at" "NotLoaded.__init__" s_NotLoaded___init__) (b_PatchedError : BaseC K mg "PatchedError") : ECal P w K mg base "NotLoaded" "at" :=
  ecal_def (z := "a module fails to load") L sc_NotLoaded fun fI cdv A outer s H E l => pss_cons (ps_expr (pe_clsinit rfl b_PatchedError (by decide) (pa_cons (pe_var (i := 0) rfl (Or.inl rfl)) (pa_cons pe_str pa_nil)))) (pss_one (ps_ost (pe_var (i := 0) rfl (Or.inl rfl)) (pe_var (i := 1) rfl (Or.inl rfl))))
abbrev s_Unequal___init__ : Stmt := inClass (topS 24) 0
theorem sc_Unequal : FnScope ["self", "first", "second"] ["self", "first", "second"] (defScope s_Unequal___init__) := ⟨rfl, rfl, rfl, by decide +kernel, rfl, by decide +kernel, by decide +kernel⟩
theorem ok_e_Unequal (L : E2Loc K mg "Unequal" "first" "second" "self" "first" "second" "Unequal.__init__" s_Unequal___init__) (b_PatchedError : BaseC K mg "PatchedError") : E2Cal P w K mg base "Unequal" "first" "second" :=
  e2cal_def (z := "different numbers of tests") L sc_Unequal fun fI cdv A outer s H E l => pss_cons (ps_expr (pe_clsinit rfl b_PatchedError (by decide) (pa_cons (pe_var (i := 0) rfl (Or.inl rfl)) (pa_cons pe_str pa_nil)))) (pss_cons (ps_ost (pe_var (i := 0) rfl (Or.inl rfl)) (pe_var (i := 1) rfl (Or.inl rfl))) (pss_one (ps_ost (pe_var (i := 0) rfl (Or.inl rfl)) (pe_var (i := 2) rfl (Or.inl rfl)))))
abbrev s__law_source : Stmt := topS 26
abbrev n__law_source : List Str := ["_law_script", "_law_place", "_law_cell", "_law_digits"]
theorem sc__law_source : FnScope n__law_source ["_law_script", "_law_place"] (defScope s__law_source) := ⟨rfl, rfl, rfl, by decide +kernel, rfl, by decide +kernel, by decide +kernel⟩
noncomputable def b__law_source : IS := (iSeq (iSet 2 (iIf (iTest (iBin fLt (iVar 1) (iCa fLen (iCons (iVar 0) iNil)))) (iBin fIx (iVar 0) (iVar 1)) (iC (.int 0)))) (iSeq (iSet 3 (iIf (iTest (iBin fGe (iCa fAbs (iCons (iVar 2) iNil)) (iBin fPow (iC (.int 10)) (iC (.int 18))))) (iCa fAbs (iCons (iVar 2) iNil)) (iC (.int 0)))) (iRet (iLst true (iCons (iVar 3) (iCons (iBin fAdd (iBin fAdd (iBin fMod (iCa fInt (iCons (iVar 2) iNil)) (iC (.int 2147483587))) (iBin fMul (iC (.int 7919)) (iVar 1))) (iC (.int 11))) (iCons (iC (.int 0)) iNil)))))))
noncomputable def m__law_source : List IV → Sto → Out IV := mDef 4 b__law_source
theorem ok__law_source  (L : Loc K mg "_law_source" s__law_source ["_law_script", "_law_place"]) (z_int : mg "int" = none) (z_abs : mg "abs" = none) (z_len : mg "len" = none) : Cal P w K mg base "_law_source" 1 ["_law_script", "_law_place"] m__law_source :=
  cal_def (N := n__law_source) L sc__law_source fun f cdv A outer s H E hr tk po => (dss_cons (ds_set 2 sc__law_source.nd (de_if (dt_cmp op_lt os_B (de_var 1) (de_cb call_len cs_len z_len (by decide +kernel) (da_cons (de_var 0) da_nil))) (de_ix (de_var 0) (de_var 1)) de_int)) (dss_cons (ds_set 3 sc__law_source.nd (de_if (dt_cmp op_ge os_B (de_cb call_abs cs_abs z_abs (by decide +kernel) (da_cons (de_var 2) da_nil)) (de_bin op_pow os_I de_int de_int)) (de_cb call_abs cs_abs z_abs (by decide +kernel) (da_cons (de_var 2) da_nil)) de_int)) (dss_one (ds_ret (de_lst true (da_cons (de_var 3) (da_cons (de_bin op_addA os_add (de_bin op_addA os_add (de_bin op_mod os_I (de_ct call_int1 cs_int z_int (by decide +kernel) (da_cons (de_var 2) da_nil)) de_int) (de_bin op_mul os_I de_int (de_var 1))) de_int) (da_cons de_int da_nil))))))))
abbrev s__law_draw : Stmt := topS 27
abbrev n__law_draw : List Str := ["_law_s", "_law_many", "_law_digit", "_law_high"]
theorem sc__law_draw : FnScope n__law_draw ["_law_s", "_law_many"] (defScope s__law_draw) := ⟨rfl, rfl, rfl, by decide +kernel, rfl, by decide +kernel, by decide +kernel⟩
noncomputable def b__law_draw : IS := (iSeq (iIf (iTest (iBin fGt (iBin fIx (iVar 0) (iC (.int 0))) (iC (.int 0)))) (iSeq (iSet 2 (iBin fMod (iCa fInt (iCons (iBin fIx (iVar 0) (iC (.int 0))) iNil)) (iVar 1))) (iSeq (iAsg (iBin fDivW (iBin fIx (iVar 0) (iC (.int 0))) (iVar 1)) (iGSub (iVar 0) (iC (.int 0)))) (iRet (iVar 2)))) iNext) (iSeq (iAsg (iBin fAdd (iBin fIx (iVar 0) (iC (.int 2))) (iC (.int 1))) (iGSub (iVar 0) (iC (.int 2)))) (iSeq (iAsg (iBin fMod (iCa fInt (iCons (iBin fAdd (iBin fAdd (iBin fMul (iBin fIx (iVar 0) (iC (.int 1))) (iC (.int 39373))) (iBin fMul (iBin fMul (iBin fIx (iVar 0) (iC (.int 2))) (iBin fIx (iVar 0) (iC (.int 2)))) (iC (.int 30011)))) (iC (.int 1013))) iNil)) (iC (.int 2147483563))) (iGSub (iVar 0) (iC (.int 1)))) (iSeq (iSet 3 (iBin fDiv (iBin fIx (iVar 0) (iC (.int 1))) (iC (.int 128)))) (iRet (iBin fMod (iBin fMod (iCa fInt (iCons (iBin fAdd (iBin fMul (iVar 3) (iVar 3)) (iBin fIx (iVar 0) (iC (.int 1)))) iNil)) (iC (.int 2147399993))) (iVar 1)))))))
noncomputable def m__law_draw : List IV → Sto → Out IV := mDef 4 b__law_draw
theorem ok__law_draw  (L : Loc K mg "_law_draw" s__law_draw ["_law_s", "_law_many"]) (z_int : mg "int" = none) : Cal P w K mg base "_law_draw" 1 ["_law_s", "_law_many"] m__law_draw :=
  cal_def (N := n__law_draw) L sc__law_draw fun f cdv A outer s H E hr tk po => (dss_cons (ds_if (dt_cmp op_gt os_B (de_ix (de_var 0) de_int) de_int) (dss_cons (ds_set 2 sc__law_draw.nd (de_bin op_mod os_I (de_ct call_int1 cs_int z_int (by decide +kernel) (da_cons (de_ix (de_var 0) de_int) da_nil)) (de_var 1))) (dss_cons (ds_asg (de_bin op_fdivW os_I (de_ix (de_var 0) de_int) (de_var 1)) (dg_sub (de_var 0) de_int)) (dss_one (ds_ret (de_var 2))))) dss_nil) (dss_cons (ds_asg (de_bin op_addA os_add (de_ix (de_var 0) de_int) de_int) (dg_sub (de_var 0) de_int)) (dss_cons (ds_asg (de_bin op_mod os_I (de_ct call_int1 cs_int z_int (by decide +kernel) (da_cons (de_bin op_addA os_add (de_bin op_addA os_add (de_bin op_mul os_I (de_ix (de_var 0) de_int) de_int) (de_bin op_mul os_I (de_bin op_mul os_I (de_ix (de_var 0) de_int) (de_ix (de_var 0) de_int)) de_int)) de_int) da_nil)) de_int) (dg_sub (de_var 0) de_int)) (dss_cons (ds_set 3 sc__law_draw.nd (de_bin op_fdiv os_I (de_ix (de_var 0) de_int) de_int)) (dss_one (ds_ret (de_bin op_mod os_I (de_bin op_mod os_I (de_ct call_int1 cs_int z_int (by decide +kernel) (da_cons (de_bin op_addA os_add (de_bin op_mul os_I (de_var 3) (de_var 3)) (de_ix (de_var 0) de_int)) da_nil)) de_int) (de_var 1))))))))
abbrev s__law_kinds : Stmt := topS 28
abbrev n__law_kinds : List Str := ["_law_e", "_law_found", "_law_pair"]
theorem sc__law_kinds : FnScope n__law_kinds ["_law_e"] (defScope s__law_kinds) := ⟨rfl, rfl, rfl, by decide +kernel, rfl, by decide +kernel, by decide +kernel⟩
noncomputable def b__law_kinds : IS := (iSeq (iSet 1 (iLst false (iCons (iTup (iCons (iC (.str "BadLine")) (iCons (iUn (fIsX exAll exIs_BadLine) (iVar 0)) iNil))) (iCons (iTup (iCons (iC (.str "TooMany")) (iCons (iUn (fIsX exAll exIs_TooMany) (iVar 0)) iNil))) iNil)))) (iSeq (iSet 1 (iBin fAdd (iVar 1) (iLst false (iCons (iTup (iCons (iC (.str "BadTarget")) (iCons (iUn (fIsX exAll exIs_BadTarget) (iVar 0)) iNil))) (iCons (iTup (iCons (iC (.str "NoModule")) (iCons (iUn (fIsX exAll exIs_NoModule) (iVar 0)) iNil))) iNil))))) (iSeq (iSet 1 (iBin fAdd (iVar 1) (iLst false (iCons (iTup (iCons (iC (.str "NoOutside")) (iCons (iUn (fIsX exAll exIs_NoOutside) (iVar 0)) iNil))) (iCons (iTup (iCons (iC (.str "NoPlace")) (iCons (iUn (fIsX exAll exIs_NoPlace) (iVar 0)) iNil))) iNil))))) (iSeq (iSet 1 (iBin fAdd (iVar 1) (iLst false (iCons (iTup (iCons (iC (.str "NoClass")) (iCons (iUn (fIsX exAll exIs_NoClass) (iVar 0)) iNil))) (iCons (iTup (iCons (iC (.str "NoOrder")) (iCons (iUn (fIsX exAll exIs_NoOrder) (iVar 0)) iNil))) iNil))))) (iSeq (iSet 1 (iBin fAdd (iVar 1) (iLst false (iCons (iTup (iCons (iC (.str "NoPatch")) (iCons (iUn (fIsX exAll exIs_NoPatch) (iVar 0)) iNil))) (iCons (iTup (iCons (iC (.str "NoStand")) (iCons (iUn (fIsX exAll exIs_NoStand) (iVar 0)) iNil))) iNil))))) (iSeq (iSet 1 (iBin fAdd (iVar 1) (iLst false (iCons (iTup (iCons (iC (.str "NotLoaded")) (iCons (iUn (fIsX exAll exIs_NotLoaded) (iVar 0)) iNil))) (iCons (iTup (iCons (iC (.str "Missing")) (iCons (iUn (fIsX exAll exIs_Missing) (iVar 0)) iNil))) iNil))))) (iSeq (iSet 1 (iBin fAdd (iVar 1) (iLst false (iCons (iTup (iCons (iC (.str "Uncallable")) (iCons (iUn (fIsX exAll exIs_Uncallable) (iVar 0)) iNil))) (iCons (iTup (iCons (iC (.str "Started")) (iCons (iUn (fIsX exAll exIs_Started) (iVar 0)) iNil))) iNil))))) (iSeq (iSet 1 (iBin fAdd (iVar 1) (iLst false (iCons (iTup (iCons (iC (.str "Idle")) (iCons (iUn (fIsX exAll exIs_Idle) (iVar 0)) iNil))) (iCons (iTup (iCons (iC (.str "BadLetter")) (iCons (iUn (fIsX exAll exIs_BadLetter) (iVar 0)) iNil))) iNil))))) (iSeq (iSet 1 (iBin fAdd (iVar 1) (iLst false (iCons (iTup (iCons (iC (.str "BadKind")) (iCons (iUn (fIsX exAll exIs_BadKind) (iVar 0)) iNil))) (iCons (iTup (iCons (iC (.str "BadPlaces")) (iCons (iUn (fIsX exAll exIs_BadPlaces) (iVar 0)) iNil))) iNil))))) (iSeq (iSet 1 (iBin fAdd (iVar 1) (iLst false (iCons (iTup (iCons (iC (.str "Keeps")) (iCons (iUn (fIsX exAll exIs_Keeps) (iVar 0)) iNil))) (iCons (iTup (iCons (iC (.str "CanFail")) (iCons (iUn (fIsX exAll exIs_CanFail) (iVar 0)) iNil))) iNil))))) (iSeq (iSet 1 (iBin fAdd (iVar 1) (iLst false (iCons (iTup (iCons (iC (.str "BadChange")) (iCons (iUn (fIsX exAll exIs_BadChange) (iVar 0)) iNil))) (iCons (iTup (iCons (iC (.str "Unequal")) (iCons (iUn (fIsX exAll exIs_Unequal) (iVar 0)) iNil))) iNil))))) (iSeq (iSet 1 (iBin fAdd (iVar 1) (iLst false (iCons (iTup (iCons (iC (.str "BadPath")) (iCons (iUn (fIsX exAll exIs_BadPath) (iVar 0)) iNil))) iNil)))) (iRet (iLc false (iSrcL (iVar 1)) (giN 2) (iTru (iBin fIx (iVar 2) (iC (.int 1)))) (iBin fIx (iVar 2) (iC (.int 0))) [2]))))))))))))))
noncomputable def m__law_kinds : List IV → Sto → Out IV := mDef 3 b__law_kinds
theorem wd__law_kinds {x0 : IV} {S : Sto} {Q : IV → Sto → Prop} (h : Wp (b__law_kinds [some x0, none, none] S) (FlQ Q)) : Wp (m__law_kinds [x0] S) Q := wp_def h
theorem ok__law_kinds  (L : Loc K mg "_law_kinds" s__law_kinds ["_law_e"]) (z_isinstance : mg "isinstance" = none) (xe_all : ExT K mg exAll) (ki_BadPath : KiT K mg "BadPath" exIs_BadPath) (ki_Unequal : KiT K mg "Unequal" exIs_Unequal) (ki_BadChange : KiT K mg "BadChange" exIs_BadChange) (ki_CanFail : KiT K mg "CanFail" exIs_CanFail) (ki_Keeps : KiT K mg "Keeps" exIs_Keeps) (ki_BadPlaces : KiT K mg "BadPlaces" exIs_BadPlaces) (ki_BadKind : KiT K mg "BadKind" exIs_BadKind) (ki_BadLetter : KiT K mg "BadLetter" exIs_BadLetter) (ki_Idle : KiT K mg "Idle" exIs_Idle) (ki_Started : KiT K mg "Started" exIs_Started) (ki_Uncallable : KiT K mg "Uncallable" exIs_Uncallable) (ki_Missing : KiT K mg "Missing" exIs_Missing) (ki_NotLoaded : KiT K mg "NotLoaded" exIs_NotLoaded) (ki_NoStand : KiT K mg "NoStand" exIs_NoStand) (ki_NoPatch : KiT K mg "NoPatch" exIs_NoPatch) (ki_NoOrder : KiT K mg "NoOrder" exIs_NoOrder) (ki_NoClass : KiT K mg "NoClass" exIs_NoClass) (ki_NoPlace : KiT K mg "NoPlace" exIs_NoPlace) (ki_NoOutside : KiT K mg "NoOutside" exIs_NoOutside) (ki_NoModule : KiT K mg "NoModule" exIs_NoModule) (ki_BadTarget : KiT K mg "BadTarget" exIs_BadTarget) (ki_TooMany : KiT K mg "TooMany" exIs_TooMany) (ki_BadLine : KiT K mg "BadLine" exIs_BadLine) : Cal P w K mg base "_law_kinds" 1 ["_law_e"] m__law_kinds :=
  cal_def (N := n__law_kinds) L sc__law_kinds fun f cdv A outer s H E hr tk po => (dss_cons (ds_set 1 sc__law_kinds.nd (de_lst false (da_cons (de_tup (da_cons de_str (da_cons (de_isV xe_all ki_BadLine z_isinstance (de_var 0)) da_nil))) (da_cons (de_tup (da_cons de_str (da_cons (de_isV xe_all ki_TooMany z_isinstance (de_var 0)) da_nil))) da_nil)))) (dss_cons (ds_set 1 sc__law_kinds.nd (de_bin op_addA os_add (de_var 1) (de_lst false (da_cons (de_tup (da_cons de_str (da_cons (de_isV xe_all ki_BadTarget z_isinstance (de_var 0)) da_nil))) (da_cons (de_tup (da_cons de_str (da_cons (de_isV xe_all ki_NoModule z_isinstance (de_var 0)) da_nil))) da_nil))))) (dss_cons (ds_set 1 sc__law_kinds.nd (de_bin op_addA os_add (de_var 1) (de_lst false (da_cons (de_tup (da_cons de_str (da_cons (de_isV xe_all ki_NoOutside z_isinstance (de_var 0)) da_nil))) (da_cons (de_tup (da_cons de_str (da_cons (de_isV xe_all ki_NoPlace z_isinstance (de_var 0)) da_nil))) da_nil))))) (dss_cons (ds_set 1 sc__law_kinds.nd (de_bin op_addA os_add (de_var 1) (de_lst false (da_cons (de_tup (da_cons de_str (da_cons (de_isV xe_all ki_NoClass z_isinstance (de_var 0)) da_nil))) (da_cons (de_tup (da_cons de_str (da_cons (de_isV xe_all ki_NoOrder z_isinstance (de_var 0)) da_nil))) da_nil))))) (dss_cons (ds_set 1 sc__law_kinds.nd (de_bin op_addA os_add (de_var 1) (de_lst false (da_cons (de_tup (da_cons de_str (da_cons (de_isV xe_all ki_NoPatch z_isinstance (de_var 0)) da_nil))) (da_cons (de_tup (da_cons de_str (da_cons (de_isV xe_all ki_NoStand z_isinstance (de_var 0)) da_nil))) da_nil))))) (dss_cons (ds_set 1 sc__law_kinds.nd (de_bin op_addA os_add (de_var 1) (de_lst false (da_cons (de_tup (da_cons de_str (da_cons (de_isV xe_all ki_NotLoaded z_isinstance (de_var 0)) da_nil))) (da_cons (de_tup (da_cons de_str (da_cons (de_isV xe_all ki_Missing z_isinstance (de_var 0)) da_nil))) da_nil))))) (dss_cons (ds_set 1 sc__law_kinds.nd (de_bin op_addA os_add (de_var 1) (de_lst false (da_cons (de_tup (da_cons de_str (da_cons (de_isV xe_all ki_Uncallable z_isinstance (de_var 0)) da_nil))) (da_cons (de_tup (da_cons de_str (da_cons (de_isV xe_all ki_Started z_isinstance (de_var 0)) da_nil))) da_nil))))) (dss_cons (ds_set 1 sc__law_kinds.nd (de_bin op_addA os_add (de_var 1) (de_lst false (da_cons (de_tup (da_cons de_str (da_cons (de_isV xe_all ki_Idle z_isinstance (de_var 0)) da_nil))) (da_cons (de_tup (da_cons de_str (da_cons (de_isV xe_all ki_BadLetter z_isinstance (de_var 0)) da_nil))) da_nil))))) (dss_cons (ds_set 1 sc__law_kinds.nd (de_bin op_addA os_add (de_var 1) (de_lst false (da_cons (de_tup (da_cons de_str (da_cons (de_isV xe_all ki_BadKind z_isinstance (de_var 0)) da_nil))) (da_cons (de_tup (da_cons de_str (da_cons (de_isV xe_all ki_BadPlaces z_isinstance (de_var 0)) da_nil))) da_nil))))) (dss_cons (ds_set 1 sc__law_kinds.nd (de_bin op_addA os_add (de_var 1) (de_lst false (da_cons (de_tup (da_cons de_str (da_cons (de_isV xe_all ki_Keeps z_isinstance (de_var 0)) da_nil))) (da_cons (de_tup (da_cons de_str (da_cons (de_isV xe_all ki_CanFail z_isinstance (de_var 0)) da_nil))) da_nil))))) (dss_cons (ds_set 1 sc__law_kinds.nd (de_bin op_addA os_add (de_var 1) (de_lst false (da_cons (de_tup (da_cons de_str (da_cons (de_isV xe_all ki_BadChange z_isinstance (de_var 0)) da_nil))) (da_cons (de_tup (da_cons de_str (da_cons (de_isV xe_all ki_Unequal z_isinstance (de_var 0)) da_nil))) da_nil))))) (dss_cons (ds_set 1 sc__law_kinds.nd (de_bin op_addA os_add (de_var 1) (de_lst false (da_cons (de_tup (da_cons de_str (da_cons (de_isV xe_all ki_BadPath z_isinstance (de_var 0)) da_nil))) da_nil)))) (dss_one (ds_ret (de_lc (own := [("_law_pair", 2)]) false rfl sc__law_kinds.nd (di_list (de_var 1)) (blkOk_by (own := [("_law_pair", 2)]) (N := n__law_kinds) (sc := defScope s__law_kinds) (by decide +kernel)) (fun _ _ _ _ _ => pg_name (i := 2) sc__law_kinds.nd rfl (Or.inl rfl)) (gc_name (by decide)) (fun _ _ _ _ _ => dts_one (dt_tru (de_ix (de_var 2) de_int))) (fun _ _ _ _ _ => (de_ix (de_var 2) de_int)))))))))))))))))
abbrev s__law_is : Stmt := topS 29
abbrev n__law_is : List Str := ["_law_e", "_law_name", "_law_field", "_law_value"]
theorem sc__law_is : FnScope n__law_is ["_law_e", "_law_name", "_law_field", "_law_value"] (defScope s__law_is) := ⟨rfl, rfl, rfl, by decide +kernel, rfl, by decide +kernel, by decide +kernel⟩
noncomputable def b__law_is : IS := (iSeq (iIf (iOr (iNot (iTru (iUn (fIsX exAll exIs_PatchedError) (iVar 0)))) (iOr (iNot (iTru (iUn (fIsX exAll exIs_ValueError) (iVar 0)))) (iTest (iBin fNe (iCall 1 m__law_kinds (iCons (iVar 0) iNil)) (iLst false (iCons (iVar 1) iNil)))))) (iRet (iC (.bl false))) iNext) (iRet (iAndV (iBin fEq (iVar 2) (iVar 3)) (iBin fEq (iCa fIsi (iCons (iVar 2) (iCons (iC (.ty "bool")) iNil))) (iCa fIsi (iCons (iVar 3) (iCons (iC (.ty "bool")) iNil)))))))
noncomputable def m__law_is : List IV → Sto → Out IV := mDef 4 b__law_is
theorem wd__law_is {x0 x1 x2 x3 : IV} {S : Sto} {Q : IV → Sto → Prop} (h : Wp (b__law_is [some x0, some x1, some x2, some x3] S) (FlQ Q)) : Wp (m__law_is [x0, x1, x2, x3] S) Q := wp_def h
theorem ok__law_is  (L : Loc K mg "_law_is" s__law_is ["_law_e", "_law_name", "_law_field", "_law_value"]) (z_bool : mg "bool" = none) (z_isinstance : mg "isinstance" = none) (xe_all : ExT K mg exAll) (ki_PatchedError : KiT K mg "PatchedError" exIs_PatchedError) (ki_ValueError : KiT K mg "ValueError" exIs_ValueError) (c__law_kinds : Cal P w K mg base "_law_kinds" 1 ["_law_e"] m__law_kinds) : Cal P w K mg base "_law_is" 2 ["_law_e", "_law_name", "_law_field", "_law_value"] m__law_is :=
  cal_def (N := n__law_is) L sc__law_is fun f cdv A outer s H E hr tk po => (dss_cons (ds_if (dt_w (dw_or (dt_not (dt_tru (de_isV xe_all ki_PatchedError z_isinstance (de_var 0)))) (dw_or (dt_not (dt_tru (de_isV xe_all ki_ValueError z_isinstance (de_var 0)))) (dw_or1 (dt_cmp (op_neA hr.units) os_ne (de_callC c__law_kinds tk (hr.mono (by decide)) (da_cons (de_var 0) da_nil)) (de_lst false (da_cons (de_var 1) da_nil))))))) (dss_one (ds_ret de_bl)) dss_nil) (dss_one (ds_ret (de_and (de_cmp (op_eqA hr.units) os_eq (de_var 2) (de_var 3)) (de_one (de_cmp (op_eqA hr.units) os_eq (de_cb call_isi cs_isi z_isinstance (by decide +kernel) (da_cons (de_var 2) (da_cons (de_ty z_bool (by decide +kernel)) da_nil))) (de_cb call_isi cs_isi z_isinstance (by decide +kernel) (da_cons (de_var 3) (da_cons (de_ty z_bool (by decide +kernel)) da_nil)))))))))
abbrev s__law_raised : Stmt := topS 30
abbrev n__law_raised : List Str := ["_law_value", "_law_e"]
theorem sc__law_raised : FnScope n__law_raised ["_law_value"] (defScope s__law_raised) := ⟨rfl, rfl, rfl, by decide +kernel, rfl, by decide +kernel, by decide +kernel⟩
noncomputable def b__law_raised : IS := (iSeq (iTryAs [("Idle", true)] 1 (iRaise "Idle" "name" (iCons (iVar 0) iNil)) (fun C m => (iRet (iAndV (iXIsT 1 m [("Idle", true)] C) (iBin fEq (iXf 1 m "name") (iVar 0)))))) (iRet (iC (.bl false))))
noncomputable def m__law_raised : List IV → Sto → Out IV := mDef 2 b__law_raised
theorem wd__law_raised {x0 : IV} {S : Sto} {Q : IV → Sto → Prop} (h : Wp (b__law_raised [some x0, none] S) (FlQ Q)) : Wp (m__law_raised [x0] S) Q := wp_def h
theorem ok__law_raised  (L : Loc K mg "_law_raised" s__law_raised ["_law_value"]) (tt__law_raised_0_PatchedError : TryT K mg "PatchedError" [("Idle", true)]) (z_isinstance : mg "isinstance" = none) (xi__law_raised_0_Idle : XiT K mg [("Idle", true)] "Idle" [("Idle", true)]) (xf__law_raised_0_name : XfT K mg [("Idle", true)] "name") (e_Idle : ECal P w K mg base "Idle" "name") : Cal P w K mg base "_law_raised" 3 ["_law_value"] m__law_raised :=
  cal_def (N := n__law_raised) L sc__law_raised fun f cdv A outer s H E hr tk po => (dss_cons (ds_tryN rfl rfl sc__law_raised.nd 1 tt__law_raised_0_PatchedError tk (fun W' pn xe tk' po' => (dss_one (ds_raise rfl tk' (hr.mono (by decide)) e_Idle (da_cons (de_var 0) da_nil)))) (fun C m a d oe pn hC hz hf => (dss_one (ds_ret (de_and (de_isXT xi__law_raised_0_Idle hC hz hf z_isinstance) (de_one (de_cmp (op_eqA hr.units) os_eq (de_xfT xf__law_raised_0_name hC hz hf) (de_var 0)))))))) (dss_one (ds_ret de_bl)))
abbrev s__law_some : Stmt := topS 31
abbrev n__law_some : List Str := ["_law_v", "_law_one", "_law_two", "_law_three", "_law_four", "_law_found"]
theorem sc__law_some : FnScope n__law_some ["_law_v"] (defScope s__law_some) := ⟨rfl, rfl, rfl, by decide +kernel, rfl, by decide +kernel, by decide +kernel⟩
noncomputable def b__law_some : IS := (iSeq (iAsg (iTup (iCons (iExn "BadLine" "at" (iCons (iVar 0) iNil)) (iCons (iExn "TooMany" "what" (iCons (iVar 0) iNil)) (iCons (iExn "BadPath" "path" (iCons (iVar 0) iNil)) (iCons (iExn "BadTarget" "target" (iCons (iVar 0) iNil)) iNil))))) (iGTup 4 (iGCons (iName 1) (iGCons (iName 2) (iGCons (iName 3) (iGCons (iName 4) iGNil)))))) (iSeq (iSet 5 (iLst true (iCons (iTup (iCons (iVar 1) (iCons (iC (.str "BadLine")) (iCons (iUn (fXn [("BadLine", true), ("NotLoaded", true), ("BadPlaces", true), ("Keeps", true), ("BadChange", true)] "at") (iVar 1)) iNil)))) (iCons (iTup (iCons (iVar 2) (iCons (iC (.str "TooMany")) (iCons (iUn (fXn [("TooMany", true)] "what") (iVar 2)) iNil)))) (iCons (iTup (iCons (iVar 3) (iCons (iC (.str "BadPath")) (iCons (iUn (fXn [("BadPath", true), ("Missing", true), ("Uncallable", true), ("CanFail", true)] "path") (iVar 3)) iNil)))) iNil))))) (iSeq (iDrop (iBM "list" fApp (iVar 5) (iCons (iTup (iCons (iVar 4) (iCons (iC (.str "BadTarget")) (iCons (iUn (fXn [("BadTarget", true)] "target") (iVar 4)) iNil)))) iNil))) (iSeq (iAsg (iTup (iCons (iExn "NoModule" "name" (iCons (iVar 0) iNil)) (iCons (iExn "NoOutside" "label" (iCons (iVar 0) iNil)) (iCons (iExn "NoPlace" "place" (iCons (iVar 0) iNil)) (iCons (iExn "NoClass" "label" (iCons (iVar 0) iNil)) iNil))))) (iGTup 4 (iGCons (iName 1) (iGCons (iName 2) (iGCons (iName 3) (iGCons (iName 4) iGNil)))))) (iSeq (iSet 5 (iBin fAdd (iVar 5) (iLst false (iCons (iTup (iCons (iVar 1) (iCons (iC (.str "NoModule")) (iCons (iUn (fXn [("NoModule", true), ("NoPatch", true), ("NoStand", true), ("Started", true), ("Idle", true)] "name") (iVar 1)) iNil)))) (iCons (iTup (iCons (iVar 2) (iCons (iC (.str "NoOutside")) (iCons (iUn (fXn [("NoOutside", true), ("NoClass", true)] "label") (iVar 2)) iNil)))) iNil))))) (iSeq (iSet 5 (iBin fAdd (iVar 5) (iLst false (iCons (iTup (iCons (iVar 3) (iCons (iC (.str "NoPlace")) (iCons (iUn (fXn [("NoPlace", true)] "place") (iVar 3)) iNil)))) (iCons (iTup (iCons (iVar 4) (iCons (iC (.str "NoClass")) (iCons (iUn (fXn [("NoOutside", true), ("NoClass", true)] "label") (iVar 4)) iNil)))) iNil))))) (iSeq (iPar3 1 2 3 (iCons (iExn "NoOrder" "rows" (iCons (iVar 0) iNil)) (iCons (iExn "NoPatch" "name" (iCons (iVar 0) iNil)) (iCons (iExn "NoStand" "name" (iCons (iVar 0) iNil)) iNil)))) (iSeq (iSet 5 (iBin fAdd (iVar 5) (iLst false (iCons (iTup (iCons (iVar 1) (iCons (iC (.str "NoOrder")) (iCons (iUn (fXn [("NoOrder", true)] "rows") (iVar 1)) iNil)))) (iCons (iTup (iCons (iVar 2) (iCons (iC (.str "NoPatch")) (iCons (iUn (fXn [("NoModule", true), ("NoPatch", true), ("NoStand", true), ("Started", true), ("Idle", true)] "name") (iVar 2)) iNil)))) iNil))))) (iRet (iBin fAdd (iVar 5) (iLst false (iCons (iTup (iCons (iVar 3) (iCons (iC (.str "NoStand")) (iCons (iUn (fXn [("NoModule", true), ("NoPatch", true), ("NoStand", true), ("Started", true), ("Idle", true)] "name") (iVar 3)) iNil)))) iNil))))))))))))
noncomputable def m__law_some : List IV → Sto → Out IV := mDef 6 b__law_some
theorem wd__law_some {x0 : IV} {S : Sto} {Q : IV → Sto → Prop} (h : Wp (b__law_some [some x0, none, none, none, none, none] S) (FlQ Q)) : Wp (m__law_some [x0] S) Q := wp_def h
theorem ok__law_some  (L : Loc K mg "_law_some" s__law_some ["_law_v"]) (xv_name : XfT K mg [("NoModule", true), ("NoPatch", true), ("NoStand", true), ("Started", true), ("Idle", true)] "name") (xv_rows : XfT K mg [("NoOrder", true)] "rows") (xv_label : XfT K mg [("NoOutside", true), ("NoClass", true)] "label") (xv_place : XfT K mg [("NoPlace", true)] "place") (xv_target : XfT K mg [("BadTarget", true)] "target") (xv_path : XfT K mg [("BadPath", true), ("Missing", true), ("Uncallable", true), ("CanFail", true)] "path") (xv_what : XfT K mg [("TooMany", true)] "what") (xv_at : XfT K mg [("BadLine", true), ("NotLoaded", true), ("BadPlaces", true), ("Keeps", true), ("BadChange", true)] "at") (e_NoStand : ECal P w K mg base "NoStand" "name") (e_NoPatch : ECal P w K mg base "NoPatch" "name") (e_NoOrder : ECal P w K mg base "NoOrder" "rows") (e_NoClass : ECal P w K mg base "NoClass" "label") (e_NoPlace : ECal P w K mg base "NoPlace" "place") (e_NoOutside : ECal P w K mg base "NoOutside" "label") (e_NoModule : ECal P w K mg base "NoModule" "name") (e_BadTarget : ECal P w K mg base "BadTarget" "target") (e_BadPath : ECal P w K mg base "BadPath" "path") (e_TooMany : ECal P w K mg base "TooMany" "what") (e_BadLine : ECal P w K mg base "BadLine" "at") : Cal P w K mg base "_law_some" 3 ["_law_v"] m__law_some :=
  cal_def (N := n__law_some) L sc__law_some fun f cdv A outer s H E hr tk po => (dss_cons (ds_asg (de_tup (da_cons (de_exn e_BadLine tk (hr.mono (by decide)).hot (warm_calm rfl) (da_cons (de_var 0) da_nil)) (da_cons (de_exn e_TooMany tk (hr.mono (by decide)).hot (warm_calm rfl) (da_cons (de_var 0) da_nil)) (da_cons (de_exn e_BadPath tk (hr.mono (by decide)).hot (warm_calm rfl) (da_cons (de_var 0) da_nil)) (da_cons (de_exn e_BadTarget tk (hr.mono (by decide)).hot (warm_calm rfl) (da_cons (de_var 0) da_nil)) da_nil))))) (dg_tup (n := 4) rfl (dgs_cons (dg_name 1 sc__law_some.nd) (dgs_cons (dg_name 2 sc__law_some.nd) (dgs_cons (dg_name 3 sc__law_some.nd) (dgs_cons (dg_name 4 sc__law_some.nd) dgs_nil)))))) (dss_cons (ds_set 5 sc__law_some.nd (de_lst true (da_cons (de_tup (da_cons (de_var 1) (da_cons de_str (da_cons (de_xnf xv_at (de_var 1)) da_nil)))) (da_cons (de_tup (da_cons (de_var 2) (da_cons de_str (da_cons (de_xnf xv_what (de_var 2)) da_nil)))) (da_cons (de_tup (da_cons (de_var 3) (da_cons de_str (da_cons (de_xnf xv_path (de_var 3)) da_nil)))) da_nil))))) (dss_cons (ds_expr (de_bm PySem.F.plainAttrs_list PySem.F.slot_list_append PySem.F.type_list_append mt_append ms_app (de_var 5) (da_cons (de_tup (da_cons (de_var 4) (da_cons de_str (da_cons (de_xnf xv_target (de_var 4)) da_nil)))) da_nil))) (dss_cons (ds_asg (de_tup (da_cons (de_exn e_NoModule tk (hr.mono (by decide)).hot (warm_calm rfl) (da_cons (de_var 0) da_nil)) (da_cons (de_exn e_NoOutside tk (hr.mono (by decide)).hot (warm_calm rfl) (da_cons (de_var 0) da_nil)) (da_cons (de_exn e_NoPlace tk (hr.mono (by decide)).hot (warm_calm rfl) (da_cons (de_var 0) da_nil)) (da_cons (de_exn e_NoClass tk (hr.mono (by decide)).hot (warm_calm rfl) (da_cons (de_var 0) da_nil)) da_nil))))) (dg_tup (n := 4) rfl (dgs_cons (dg_name 1 sc__law_some.nd) (dgs_cons (dg_name 2 sc__law_some.nd) (dgs_cons (dg_name 3 sc__law_some.nd) (dgs_cons (dg_name 4 sc__law_some.nd) dgs_nil)))))) (dss_cons (ds_set 5 sc__law_some.nd (de_bin op_addA os_add (de_var 5) (de_lst false (da_cons (de_tup (da_cons (de_var 1) (da_cons de_str (da_cons (de_xnf xv_name (de_var 1)) da_nil)))) (da_cons (de_tup (da_cons (de_var 2) (da_cons de_str (da_cons (de_xnf xv_label (de_var 2)) da_nil)))) da_nil))))) (dss_cons (ds_set 5 sc__law_some.nd (de_bin op_addA os_add (de_var 5) (de_lst false (da_cons (de_tup (da_cons (de_var 3) (da_cons de_str (da_cons (de_xnf xv_place (de_var 3)) da_nil)))) (da_cons (de_tup (da_cons (de_var 4) (da_cons de_str (da_cons (de_xnf xv_label (de_var 4)) da_nil)))) da_nil))))) (dss_cons (ds_par3 1 2 3 rfl sc__law_some.nd (da_cons (de_exn e_NoOrder tk (hr.mono (by decide)).hot (warm_calm rfl) (da_cons (de_var 0) da_nil)) (da_cons (de_exn e_NoPatch tk (hr.mono (by decide)).hot (warm_calm rfl) (da_cons (de_var 0) da_nil)) (da_cons (de_exn e_NoStand tk (hr.mono (by decide)).hot (warm_calm rfl) (da_cons (de_var 0) da_nil)) da_nil)))) (dss_cons (ds_set 5 sc__law_some.nd (de_bin op_addA os_add (de_var 5) (de_lst false (da_cons (de_tup (da_cons (de_var 1) (da_cons de_str (da_cons (de_xnf xv_rows (de_var 1)) da_nil)))) (da_cons (de_tup (da_cons (de_var 2) (da_cons de_str (da_cons (de_xnf xv_name (de_var 2)) da_nil)))) da_nil))))) (dss_one (ds_ret (de_bin op_addA os_add (de_var 5) (de_lst false (da_cons (de_tup (da_cons (de_var 3) (da_cons de_str (da_cons (de_xnf xv_name (de_var 3)) da_nil)))) da_nil)))))))))))))
abbrev s__law_others : Stmt := topS 32
abbrev n__law_others : List Str := ["_law_v", "_law_one", "_law_two", "_law_three", "_law_four", "_law_found"]
theorem sc__law_others : FnScope n__law_others ["_law_v"] (defScope s__law_others) := ⟨rfl, rfl, rfl, by decide +kernel, rfl, by decide +kernel, by decide +kernel⟩
noncomputable def b__law_others : IS := (iSeq (iAsg (iTup (iCons (iExn "NotLoaded" "at" (iCons (iVar 0) iNil)) (iCons (iExn "Missing" "path" (iCons (iVar 0) iNil)) (iCons (iExn "Uncallable" "path" (iCons (iVar 0) iNil)) (iCons (iExn "Started" "name" (iCons (iVar 0) iNil)) iNil))))) (iGTup 4 (iGCons (iName 1) (iGCons (iName 2) (iGCons (iName 3) (iGCons (iName 4) iGNil)))))) (iSeq (iSet 5 (iLst true (iCons (iTup (iCons (iVar 1) (iCons (iC (.str "NotLoaded")) (iCons (iUn (fXn [("BadLine", true), ("NotLoaded", true), ("BadPlaces", true), ("Keeps", true), ("BadChange", true)] "at") (iVar 1)) iNil)))) (iCons (iTup (iCons (iVar 2) (iCons (iC (.str "Missing")) (iCons (iUn (fXn [("BadPath", true), ("Missing", true), ("Uncallable", true), ("CanFail", true)] "path") (iVar 2)) iNil)))) (iCons (iTup (iCons (iVar 3) (iCons (iC (.str "Uncallable")) (iCons (iUn (fXn [("BadPath", true), ("Missing", true), ("Uncallable", true), ("CanFail", true)] "path") (iVar 3)) iNil)))) iNil))))) (iSeq (iDrop (iBM "list" fApp (iVar 5) (iCons (iTup (iCons (iVar 4) (iCons (iC (.str "Started")) (iCons (iUn (fXn [("NoModule", true), ("NoPatch", true), ("NoStand", true), ("Started", true), ("Idle", true)] "name") (iVar 4)) iNil)))) iNil))) (iSeq (iAsg (iTup (iCons (iExn "Idle" "name" (iCons (iVar 0) iNil)) (iCons (iExn "BadLetter" "letter" (iCons (iVar 0) iNil)) (iCons (iExn "BadKind" "kind" (iCons (iVar 0) iNil)) (iCons (iExn "BadPlaces" "at" (iCons (iVar 0) iNil)) iNil))))) (iGTup 4 (iGCons (iName 1) (iGCons (iName 2) (iGCons (iName 3) (iGCons (iName 4) iGNil)))))) (iSeq (iSet 5 (iBin fCatC (iVar 5) (iLst false (iCons (iTup (iCons (iVar 1) (iCons (iC (.str "Idle")) (iCons (iUn (fXn [("NoModule", true), ("NoPatch", true), ("NoStand", true), ("Started", true), ("Idle", true)] "name") (iVar 1)) iNil)))) (iCons (iTup (iCons (iVar 2) (iCons (iC (.str "BadLetter")) (iCons (iUn (fXn [("BadLetter", true)] "letter") (iVar 2)) iNil)))) (iCons (iTup (iCons (iVar 3) (iCons (iC (.str "BadKind")) (iCons (iUn (fXn [("BadKind", true)] "kind") (iVar 3)) iNil)))) iNil)))))) (iSeq (iDrop (iBM "list" fApp (iVar 5) (iCons (iTup (iCons (iVar 4) (iCons (iC (.str "BadPlaces")) (iCons (iUn (fXn [("BadLine", true), ("NotLoaded", true), ("BadPlaces", true), ("Keeps", true), ("BadChange", true)] "at") (iVar 4)) iNil)))) iNil))) (iSeq (iPar3 1 2 3 (iCons (iExn "Keeps" "at" (iCons (iVar 0) iNil)) (iCons (iExn "CanFail" "path" (iCons (iVar 0) iNil)) (iCons (iExn "BadChange" "at" (iCons (iVar 0) iNil)) iNil)))) (iSeq (iSet 5 (iBin fAdd (iVar 5) (iLst false (iCons (iTup (iCons (iVar 1) (iCons (iC (.str "Keeps")) (iCons (iUn (fXn [("BadLine", true), ("NotLoaded", true), ("BadPlaces", true), ("Keeps", true), ("BadChange", true)] "at") (iVar 1)) iNil)))) (iCons (iTup (iCons (iVar 2) (iCons (iC (.str "CanFail")) (iCons (iUn (fXn [("BadPath", true), ("Missing", true), ("Uncallable", true), ("CanFail", true)] "path") (iVar 2)) iNil)))) iNil))))) (iRet (iBin fAdd (iVar 5) (iLst false (iCons (iTup (iCons (iVar 3) (iCons (iC (.str "BadChange")) (iCons (iUn (fXn [("BadLine", true), ("NotLoaded", true), ("BadPlaces", true), ("Keeps", true), ("BadChange", true)] "at") (iVar 3)) iNil)))) iNil))))))))))))
noncomputable def m__law_others : List IV → Sto → Out IV := mDef 6 b__law_others
theorem wd__law_others {x0 : IV} {S : Sto} {Q : IV → Sto → Prop} (h : Wp (b__law_others [some x0, none, none, none, none, none] S) (FlQ Q)) : Wp (m__law_others [x0] S) Q := wp_def h
theorem ok__law_others  (L : Loc K mg "_law_others" s__law_others ["_law_v"]) (xv_at : XfT K mg [("BadLine", true), ("NotLoaded", true), ("BadPlaces", true), ("Keeps", true), ("BadChange", true)] "at") (xv_path : XfT K mg [("BadPath", true), ("Missing", true), ("Uncallable", true), ("CanFail", true)] "path") (xv_kind : XfT K mg [("BadKind", true)] "kind") (xv_letter : XfT K mg [("BadLetter", true)] "letter") (xv_name : XfT K mg [("NoModule", true), ("NoPatch", true), ("NoStand", true), ("Started", true), ("Idle", true)] "name") (e_BadChange : ECal P w K mg base "BadChange" "at") (e_CanFail : ECal P w K mg base "CanFail" "path") (e_Keeps : ECal P w K mg base "Keeps" "at") (e_BadPlaces : ECal P w K mg base "BadPlaces" "at") (e_BadKind : ECal P w K mg base "BadKind" "kind") (e_BadLetter : ECal P w K mg base "BadLetter" "letter") (e_Idle : ECal P w K mg base "Idle" "name") (e_Started : ECal P w K mg base "Started" "name") (e_Uncallable : ECal P w K mg base "Uncallable" "path") (e_Missing : ECal P w K mg base "Missing" "path") (e_NotLoaded : ECal P w K mg base "NotLoaded" "at") : Cal P w K mg base "_law_others" 3 ["_law_v"] m__law_others :=
  cal_def (N := n__law_others) L sc__law_others fun f cdv A outer s H E hr tk po => (dss_cons (ds_asg (de_tup (da_cons (de_exn e_NotLoaded tk (hr.mono (by decide)).hot (warm_calm rfl) (da_cons (de_var 0) da_nil)) (da_cons (de_exn e_Missing tk (hr.mono (by decide)).hot (warm_calm rfl) (da_cons (de_var 0) da_nil)) (da_cons (de_exn e_Uncallable tk (hr.mono (by decide)).hot (warm_calm rfl) (da_cons (de_var 0) da_nil)) (da_cons (de_exn e_Started tk (hr.mono (by decide)).hot (warm_calm rfl) (da_cons (de_var 0) da_nil)) da_nil))))) (dg_tup (n := 4) rfl (dgs_cons (dg_name 1 sc__law_others.nd) (dgs_cons (dg_name 2 sc__law_others.nd) (dgs_cons (dg_name 3 sc__law_others.nd) (dgs_cons (dg_name 4 sc__law_others.nd) dgs_nil)))))) (dss_cons (ds_set 5 sc__law_others.nd (de_lst true (da_cons (de_tup (da_cons (de_var 1) (da_cons de_str (da_cons (de_xnf xv_at (de_var 1)) da_nil)))) (da_cons (de_tup (da_cons (de_var 2) (da_cons de_str (da_cons (de_xnf xv_path (de_var 2)) da_nil)))) (da_cons (de_tup (da_cons (de_var 3) (da_cons de_str (da_cons (de_xnf xv_path (de_var 3)) da_nil)))) da_nil))))) (dss_cons (ds_expr (de_bm PySem.F.plainAttrs_list PySem.F.slot_list_append PySem.F.type_list_append mt_append ms_app (de_var 5) (da_cons (de_tup (da_cons (de_var 4) (da_cons de_str (da_cons (de_xnf xv_name (de_var 4)) da_nil)))) da_nil))) (dss_cons (ds_asg (de_tup (da_cons (de_exn e_Idle tk (hr.mono (by decide)).hot (warm_calm rfl) (da_cons (de_var 0) da_nil)) (da_cons (de_exn e_BadLetter tk (hr.mono (by decide)).hot (warm_calm rfl) (da_cons (de_var 0) da_nil)) (da_cons (de_exn e_BadKind tk (hr.mono (by decide)).hot (warm_calm rfl) (da_cons (de_var 0) da_nil)) (da_cons (de_exn e_BadPlaces tk (hr.mono (by decide)).hot (warm_calm rfl) (da_cons (de_var 0) da_nil)) da_nil))))) (dg_tup (n := 4) rfl (dgs_cons (dg_name 1 sc__law_others.nd) (dgs_cons (dg_name 2 sc__law_others.nd) (dgs_cons (dg_name 3 sc__law_others.nd) (dgs_cons (dg_name 4 sc__law_others.nd) dgs_nil)))))) (dss_cons (ds_set 5 sc__law_others.nd (de_bin op_cat os_catC (de_var 5) (de_lst false (da_cons (de_tup (da_cons (de_var 1) (da_cons de_str (da_cons (de_xnf xv_name (de_var 1)) da_nil)))) (da_cons (de_tup (da_cons (de_var 2) (da_cons de_str (da_cons (de_xnf xv_letter (de_var 2)) da_nil)))) (da_cons (de_tup (da_cons (de_var 3) (da_cons de_str (da_cons (de_xnf xv_kind (de_var 3)) da_nil)))) da_nil)))))) (dss_cons (ds_expr (de_bm PySem.F.plainAttrs_list PySem.F.slot_list_append PySem.F.type_list_append mt_append ms_app (de_var 5) (da_cons (de_tup (da_cons (de_var 4) (da_cons de_str (da_cons (de_xnf xv_at (de_var 4)) da_nil)))) da_nil))) (dss_cons (ds_par3 1 2 3 rfl sc__law_others.nd (da_cons (de_exn e_Keeps tk (hr.mono (by decide)).hot (warm_calm rfl) (da_cons (de_var 0) da_nil)) (da_cons (de_exn e_CanFail tk (hr.mono (by decide)).hot (warm_calm rfl) (da_cons (de_var 0) da_nil)) (da_cons (de_exn e_BadChange tk (hr.mono (by decide)).hot (warm_calm rfl) (da_cons (de_var 0) da_nil)) da_nil)))) (dss_cons (ds_set 5 sc__law_others.nd (de_bin op_addA os_add (de_var 5) (de_lst false (da_cons (de_tup (da_cons (de_var 1) (da_cons de_str (da_cons (de_xnf xv_at (de_var 1)) da_nil)))) (da_cons (de_tup (da_cons (de_var 2) (da_cons de_str (da_cons (de_xnf xv_path (de_var 2)) da_nil)))) da_nil))))) (dss_one (ds_ret (de_bin op_addA os_add (de_var 5) (de_lst false (da_cons (de_tup (da_cons (de_var 3) (da_cons de_str (da_cons (de_xnf xv_at (de_var 3)) da_nil)))) da_nil)))))))))))))
abbrev s_law : Stmt := topS 33
abbrev n_law : List Str := ["_law_script", "_law_place", "_law_s", "_law_n", "_law_some_here", "_law_v", "_law_e", "_law_name", "_law_field"]
theorem sc_law : FnScope n_law ["_law_script"] (defScope s_law) := ⟨rfl, rfl, rfl, by decide +kernel, rfl, by decide +kernel, by decide +kernel⟩
noncomputable def b_law : IS := (iSeq (iFor (iSrcR1 (iCa fMax2 (iCons (iC (.int 1)) (iCons (iCa fMin2 (iCons (iC (.int 8)) (iCons (iCa fLen (iCons (iVar 0) iNil)) iNil))) iNil)))) (iName 1) (iSeq (iSet 2 (iCall 2 m__law_source (iCons (iVar 0) (iCons (iVar 1) iNil)))) (iSeq (iSet 3 (iCall 2 m__law_draw (iCons (iVar 2) (iCons (iBin fPow (iC (.int 10)) (iC (.int 18))) iNil)))) (iSeq (iSet 4 (iLst false (iCons (iVar 3) (iCons (iUn fNeg (iVar 3)) (iCons (iC (.str "p")) (iCons (iC (.str "")) (iCons (iC .non) (iCons (iC (.bl true)) (iCons (iC (.bl false)) (iCons (iLst false (iCons (iVar 3) iNil)) (iCons (iTup (iCons (iC (.str "ahead")) (iCons (iC (.str "m")) iNil))) (iCons (iLst false (iCons (iLst false (iCons (iC (.str "m.C")) iNil)) iNil)) (iCons (iC (.int 0)) (iCons (iC (.int 1)) iNil)))))))))))))) (iSeq (iSet 5 (iBin fIx (iVar 4) (iCall 2 m__law_draw (iCons (iVar 2) (iCons (iC (.int 12)) iNil))))) (iSeq (iFor (iSrcL (iBin fAdd (iCall 1 m__law_some (iCons (iVar 5) iNil)) (iCall 1 m__law_others (iCons (iVar 5) iNil)))) (iGTup 3 (iGCons (iName 6) (iGCons (iName 7) (iGCons (iName 8) iGNil)))) (iIf (iNot (iTru (iCall 4 m__law_is (iCons (iVar 6) (iCons (iVar 7) (iCons (iVar 8) (iCons (iVar 5) iNil))))))) (iRet (iC (.bl false))) iNext)) (iSeq (iSet 6 (iExn2 "Unequal" "first" "second" (iCons (iVar 5) (iCons (iVar 3) iNil)))) (iIf (iOr (iNot (iTru (iCall 4 m__law_is (iCons (iVar 6) (iCons (iC (.str "Unequal")) (iCons (iUn (fXn [("Unequal", true)] "first") (iVar 6)) (iCons (iVar 5) iNil))))))) (iOr (iTest (iBin fNe (iUn (fXn [("Unequal", true)] "second") (iVar 6)) (iVar 3))) (iNot (iTru (iCall 1 m__law_raised (iCons (iVar 5) iNil)))))) (iRet (iC (.bl false))) iNext)))))))) (iRet (iC (.bl true))))
noncomputable def m_law : List IV → Sto → Out IV := mDef 9 b_law
theorem wd_law {x0 : IV} {S : Sto} {Q : IV → Sto → Prop} (h : Wp (b_law [some x0, none, none, none, none, none, none, none, none] S) (FlQ Q)) : Wp (m_law [x0] S) Q := wp_def h
theorem ok_law  {f : Addr} {fd : FuncData} (F : Fun K "law" "law" s_law f fd) (z_range : mg "range" = none) (z_len : mg "len" = none) (z_min : mg "min" = none) (z_max : mg "max" = none) (xv_first : XfT K mg [("Unequal", true)] "first") (xv_second : XfT K mg [("Unequal", true)] "second") (c__law_is : Cal P w K mg base "_law_is" 2 ["_law_e", "_law_name", "_law_field", "_law_value"] m__law_is) (c__law_raised : Cal P w K mg base "_law_raised" 3 ["_law_value"] m__law_raised) (e_Unequal : E2Cal P w K mg base "Unequal" "first" "second") (c__law_some : Cal P w K mg base "_law_some" 3 ["_law_v"] m__law_some) (c__law_others : Cal P w K mg base "_law_others" 3 ["_law_v"] m__law_others) (c__law_draw : Cal P w K mg base "_law_draw" 1 ["_law_s", "_law_many"] m__law_draw) (c__law_source : Cal P w K mg base "_law_source" 1 ["_law_script", "_law_place"] m__law_source) : FnG P w K mg base (Sm.CX P w) 4 f fd ["_law_script"] (spM K mg 1 m_law) :=
  ok_def (N := n_law) F sc_law fun cdv A outer s H E hr tk po => (dss_cons (ds_for po rfl (di_range1 z_range (da_cons (de_cb (call_max2 rfl) cs_max2 z_max (by decide +kernel) (da_cons de_int (da_cons (de_cb (call_min2 rfl) cs_min2 z_min (by decide +kernel) (da_cons de_int (da_cons (de_cb call_len cs_len z_len (by decide +kernel) (da_cons (de_var 0) da_nil)) da_nil))) da_nil))) da_nil)) (dg_name 1 sc_law.nd) (dss_cons (ds_set 2 sc_law.nd (de_callC c__law_source tk (hr.mono (by decide)) (da_cons (de_var 0) (da_cons (de_var 1) da_nil)))) (dss_cons (ds_set 3 sc_law.nd (de_callC c__law_draw tk (hr.mono (by decide)) (da_cons (de_var 2) (da_cons (de_bin op_pow os_I de_int de_int) da_nil)))) (dss_cons (ds_set 4 sc_law.nd (de_lst false (da_cons (de_var 3) (da_cons (de_un un_neg us_neg (de_var 3)) (da_cons de_str (da_cons de_str (da_cons de_non (da_cons de_bl (da_cons de_bl (da_cons (de_lst false (da_cons (de_var 3) da_nil)) (da_cons (de_tup (da_cons de_str (da_cons de_str da_nil))) (da_cons (de_lst false (da_cons (de_lst false (da_cons de_str da_nil)) da_nil)) (da_cons de_int (da_cons de_int da_nil)))))))))))))) (dss_cons (ds_set 5 sc_law.nd (de_ix (de_var 4) (de_callC c__law_draw tk (hr.mono (by decide)) (da_cons (de_var 2) (da_cons de_int da_nil))))) (dss_cons (ds_for po rfl (di_list (de_bin op_addA os_add (de_callC c__law_some tk (hr.mono (by decide)) (da_cons (de_var 5) da_nil)) (de_callC c__law_others tk (hr.mono (by decide)) (da_cons (de_var 5) da_nil)))) (dg_tup (n := 3) rfl (dgs_cons (dg_name 6 sc_law.nd) (dgs_cons (dg_name 7 sc_law.nd) (dgs_cons (dg_name 8 sc_law.nd) dgs_nil)))) (dss_one (ds_if (dt_not (dt_tru (de_callC c__law_is tk (hr.mono (by decide)) (da_cons (de_var 6) (da_cons (de_var 7) (da_cons (de_var 8) (da_cons (de_var 5) da_nil))))))) (dss_one (ds_ret de_bl)) dss_nil))) (dss_cons (ds_set 6 sc_law.nd (de_exn2 e_Unequal tk (hr.mono (by decide)).hot (warm_calm rfl) (da_cons (de_var 5) (da_cons (de_var 3) da_nil)))) (dss_one (ds_if (dt_w (dw_or (dt_not (dt_tru (de_callC c__law_is tk (hr.mono (by decide)) (da_cons (de_var 6) (da_cons de_str (da_cons (de_xnf xv_first (de_var 6)) (da_cons (de_var 5) da_nil))))))) (dw_or (dt_cmp (op_neA hr.units) os_ne (de_xnf xv_second (de_var 6)) (de_var 3)) (dw_or1 (dt_not (dt_tru (de_callC c__law_raised tk (hr.mono (by decide)) (da_cons (de_var 5) da_nil)))))))) (dss_one (ds_ret de_bl)) dss_nil))))))))) (dss_one (ds_ret de_bl)))
end
set_option maxHeartbeats 4000000
local macro_rules | `(tactic| decreasing_trivial) => `(tactic| first | assumption | with_unfolding_all exact Eq.refl _ | omega | (simp only [szL, len_app, one_len, lits, List.length_append, List.length_cons, List.length_map, List.length_nil, List.length_replicate]; omega) | decide | exact trivial | exact cdiv_mk (by decide) (by decide) | exact cmul_l (by omega) (by omega) | exact cmul_r (by omega) (by omega))
local macro_rules | `(tactic| decreasing_trivial_pre_omega) => `(tactic| with_reducible first
  | refine wp_seq ?_ | (refine wp_appV (by with_unfolding_all exact rfl) (Hd.at (by assumption) 0 (by with_unfolding_all exact rfl)) ?_) | (refine wp_extV (by with_unfolding_all exact rfl) (Hd.at (by assumption) 0 (by with_unfolding_all exact rfl)) ?_) | (refine wp_appV (by with_unfolding_all exact rfl) (Hd.at (by assumption) 1 (by with_unfolding_all exact rfl)) ?_) | (refine wp_extV (by with_unfolding_all exact rfl) (Hd.at (by assumption) 1 (by with_unfolding_all exact rfl)) ?_) | (refine wp_appV (by with_unfolding_all exact rfl) (Hd.at (by assumption) 2 (by with_unfolding_all exact rfl)) ?_) | (refine wp_extV (by with_unfolding_all exact rfl) (Hd.at (by assumption) 2 (by with_unfolding_all exact rfl)) ?_) | (refine wp_appV (by with_unfolding_all exact rfl) (Hd.at (by assumption) 3 (by with_unfolding_all exact rfl)) ?_) | (refine wp_extV (by with_unfolding_all exact rfl) (Hd.at (by assumption) 3 (by with_unfolding_all exact rfl)) ?_) | refine wp_nx ?_ | refine wp_set ?_ | (apply wp_var; with_unfolding_all exact rfl) | refine wp_c ?_ | refine wp_bin ?_ | refine wp_cons ?_ | refine wp_nil ?_ | refine wp_ca ?_ | refine wp_call ?_ | refine wp_bm ?_ | refine wp_drop ?_ | refine wp_ret ?_ | refine wp_rt ?_ | refine wp_un ?_
  | (refine Chk.mk ?_ ?_; decreasing_trivial)
  | refine wp_lst ?_ | refine wp_tup ?_ | refine wp_mkf ?_ | refine wp_mkT ?_ | refine wp_fI ?_ | refine wp_fB ?_ | refine wp_addi ?_ | refine wp_addI ?_ | refine wp_adds ?_ | refine wp_addl ?_
  | refine wp_test ?_ | refine wp_tru ?_ | refine ex_bl ?_ | refine tr_bl ?_ | refine ex_int ?_ | refine wp_not ?_ | refine wp_eqi ?_ | refine wp_nei ?_ | refine wp_eqs ?_ | refine wp_nes ?_ | refine wp_inti ?_ | refine wp_intb ?_ | refine wp_max2 ?_ | refine wp_min2 ?_ | refine wp_isN ?_ | refine wp_notN ?_
  | (refine ⟨_, _, _, 0, _, (by assumption), (by with_unfolding_all exact rfl), ?_⟩) | (refine ⟨_, _, _, 0, _, _, (by assumption), (by with_unfolding_all exact rfl), (by with_unfolding_all exact rfl), ?_⟩) | (refine wp_len (Sm.lenN_a (Hd.at (by assumption) 0 (by with_unfolding_all exact rfl))) ?_) | (refine ⟨_, _, _, 1, _, (by assumption), (by with_unfolding_all exact rfl), ?_⟩) | (refine ⟨_, _, _, 1, _, _, (by assumption), (by with_unfolding_all exact rfl), (by with_unfolding_all exact rfl), ?_⟩) | (refine wp_len (Sm.lenN_a (Hd.at (by assumption) 1 (by with_unfolding_all exact rfl))) ?_) | (refine ⟨_, _, _, 2, _, (by assumption), (by with_unfolding_all exact rfl), ?_⟩) | (refine ⟨_, _, _, 2, _, _, (by assumption), (by with_unfolding_all exact rfl), (by with_unfolding_all exact rfl), ?_⟩) | (refine wp_len (Sm.lenN_a (Hd.at (by assumption) 2 (by with_unfolding_all exact rfl))) ?_) | (refine ⟨_, _, _, 3, _, (by assumption), (by with_unfolding_all exact rfl), ?_⟩) | (refine ⟨_, _, _, 3, _, _, (by assumption), (by with_unfolding_all exact rfl), (by with_unfolding_all exact rfl), ?_⟩) | (refine wp_len (Sm.lenN_a (Hd.at (by assumption) 3 (by with_unfolding_all exact rfl))) ?_) | (refine wp_len (lenN_l _) ?_) | (refine wp_len (lenN_t _) ?_) | (refine wp_len (lenN_w _) ?_)
  | (refine wp_adda (Hd.at (by assumption) 0 (by with_unfolding_all exact rfl)) (by with_unfolding_all exact rfl) ?_) | (refine wp_adda (Hd.at (by assumption) 1 (by with_unfolding_all exact rfl)) (by with_unfolding_all exact rfl) ?_) | (refine wp_adda (Hd.at (by assumption) 2 (by with_unfolding_all exact rfl)) (by with_unfolding_all exact rfl) ?_) | (refine wp_adda (Hd.at (by assumption) 3 (by with_unfolding_all exact rfl)) (by with_unfolding_all exact rfl) ?_) | (refine wp_addb (Hd.at (by assumption) 0 (by with_unfolding_all exact rfl)) ?_) | (refine wp_addb (Hd.at (by assumption) 1 (by with_unfolding_all exact rfl)) ?_) | (refine wp_addb (Hd.at (by assumption) 2 (by with_unfolding_all exact rfl)) ?_) | (refine wp_addb (Hd.at (by assumption) 3 (by with_unfolding_all exact rfl)) ?_)
  | (refine wp_isi (b := true) (by with_unfolding_all exact rfl) (by decide +kernel) ?_) | (refine wp_isi (b := false) (by with_unfolding_all exact rfl) (by decide +kernel) ?_) | (refine wp_xis (b := true) (by decide +kernel) (by with_unfolding_all exact rfl) (by assumption) ?_) | (refine wp_xis (b := false) (by decide +kernel) (by with_unfolding_all exact rfl) (by assumption) ?_) | (refine wp_xf (by with_unfolding_all exact rfl) (by assumption) (by with_unfolding_all exact rfl) ?_)
  | refine wp_next ?_ | refine wp_retN ?_ | refine wp_brk ?_ | refine wp_cnt ?_ | refine wp_bk ?_ | refine wp_ct ?_ | refine fq_rt ?_ | refine fq_nx ?_ | refine lq_nx ?_ | refine lq_ct ?_ | refine lq_bk ?_ | refine lq_rt ?_ | refine wp_name ?_ | refine wp_asg ?_ | refine wp_gtup ?_ | refine wp_gcons ?_ | refine wp_gnil ?_
  | refine wp_sl ?_ | refine wp_noPart ?_ | refine wp_part ?_ | refine wp_sls ?_ | refine wp_sll ?_ | refine wp_notV ?_ | refine wp_andV ?_ | refine wp_orV ?_ | (apply wp_aug; with_unfolding_all exact rfl) | refine wp_par ?_ | refine ex_two ?_ | refine wp_yes ?_ | refine wp_range ?_ | refine wp_range2 ?_ | refine wp_srcL ?_ | refine srcL_l ?_ | refine wp_neg ?_ | exact And.intro (Eq.refl _) (Eq.refl _) | apply te_and | apply te_or | apply te_andV | apply te_orV | (apply wp_ifP; (focus (decreasing_tactic; done))) | refine ex_nx ?_ | refine fun (_ : Sto) (_ : Hd _ _ _ _) => ?_ | refine wp_call0 ?_)
local macro_rules | `(tactic| decreasing_tactic) => `(tactic| repeat decreasing_trivial_pre_omega)
section
variable {n K : Nat} {fs : List (Nat × Cell)} {S : Sto} {Λ : Slots} {Q : IV → Sto → Prop}
theorem wp_source {ns : List Int} {i : Nat} (q : ∀ (n : Nat) (S' : Sto), Hd n 0 [] S' → Q (.adr n) S') : Wp (m__law_source [.wls (ns.map IV.int), .int i] S) Q := Lw.wp_sourceB (P := 2147483587) (cc := 7919) (D := 11) (by decide) ⟨by decide, by decide⟩ q
theorem draw_ok {m : Int} (h : Lw.Dr S n K) (hN : K ≤ 1000000) (h0 : 0 < m) (h1 : m < 2 ^ 60) :
    ∃ r S', m__law_draw [.adr n, .int m] S = .ok (.int r) S' ∧ 0 ≤ r ∧ r < m ∧ Lw.Dr S' n (K + 1) ∧ Ext [n] S S' := by
  obtain ⟨a, b, c, e, c0, c1⟩ := h
  have hn : n < S.length := lt_some e
  have hd : CDivW a m := wide_div (b := 60) h0 (by omega) (by decide) (by decide)
  have ex : ∀ c, Ext [n] S (S.set n c) := fun c => Ext.set (.inl (by simp))
  by_cases ha : 0 < a
  · refine ⟨a % m, S.set n (.lst [.int (a / m), .int b, .int c]), mDef_rt ?_, Int.emod_nonneg _ (by omega), Int.emod_lt_of_pos _ h0, ⟨_, _, _, List.getElem?_set_self hn, c0, by omega⟩, ex _⟩
    unfold b__law_draw
    simp [iVar_s, fIx_a e, ha, chk_pos, h0, hd, onL_s e]
  · generalize hy : (b * 39373 + (c + 1) * (c + 1) * 30011 + 1013) % 2147483563 = y
    have y1 : y < 2147483563 := hy ▸ Int.emod_lt_of_pos _ (by decide)
    have y0 : 0 ≤ y := hy ▸ Int.emod_nonneg _ (by omega)
    have k1 : CMul b 39373 := .inr ⟨by decide, by decide⟩
    have k2 : CMul (c + 1) (c + 1) := .inl ⟨by omega, by omega⟩
    have k3 : CMul ((c + 1) * (c + 1)) 30011 := .inr ⟨by decide, by decide⟩
    have k4 : CDiv y 128 := ⟨by decide, by decide⟩
    have z0 : 0 ≤ y / 128 := Int.ediv_nonneg y0 (by omega)
    have z1 : y / 128 ≤ y := Int.ediv_le_self _ y0
    have k5 : CMul (y / 128) (y / 128) := .inl ⟨by omega, by omega⟩
    refine ⟨(y / 128 * (y / 128) + y) % 2147399993 % m, S.set n (.lst [.int a, .int y, .int (c + 1)]), mDef_rt ?_, Int.emod_nonneg _ (by omega), Int.emod_lt_of_pos _ h0, ⟨_, _, _, List.getElem?_set_self hn, by omega, by omega⟩, ex _⟩
    have e1 : (S.set n (.lst [.int a, .int b, .int (c + 1)]))[n]? = some (.lst [.int a, .int b, .int (c + 1)]) := List.getElem?_set_self hn
    have e2 : (S.set n (.lst [.int a, .int y, .int (c + 1)]))[n]? = some (.lst [.int a, .int y, .int (c + 1)]) := List.getElem?_set_self hn
    unfold b__law_draw
    simp [iVar_s, fIx_a e, fIx_a e1, fIx_a e2, ha, chk_pos, h0, onL_s e, onL_s e1, k1, k2, k3, hy, k4, k5]
theorem wp_draw {m : Int} (h : Hd n K fs S) (hK : K ≤ 1000000) (h0 : 0 < m) (h1 : m < 2 ^ 60) (q : ∀ (r : Int) (S' : Sto), Hd n (K + 1) fs S' → 0 ≤ r → r < m → Q (.int r) S') : Wp (m__law_draw [.adr n, .int m] S) Q := by
  obtain ⟨r, S', e, a, b, c, d⟩ := draw_ok h.dr hK h0 h1
  exact .of e (q r S' (h.extn d c) a b)
theorem Hd.two (h : Hd n K fs S) (gs : List (Str × IV)) (x : Str) : Hd n K ((S.length + 1, .exn x S.length) :: (S.length, .xd gs) :: fs) (S ++ [.xd gs] ++ [.exn x S.length]) := by
  have h2 := (h.alloc (.xd gs)).alloc (.exn x S.length)
  rw [List.length_append, List.length_singleton] at h2
  exact h2
theorem wp_exn {i : Nat} {v : IV} {x f : Str} (hv : Λ[i]? = some (some v)) (h : Hd n K fs S) (q : ∀ (l d : Nat) (S' : Sto), Hd n K ((l, .exn x d) :: (d, .xd [(f, v)]) :: fs) S' → Q (.adr l) S') : Wp (iExn x f (iCons (iVar i) iNil) Λ S) Q := by
  refine .bind (wp_cons (wp_var hv (wp_nil ?_)))
  exact .ok (q _ _ _ (Hd.two h _ _))
theorem wp_exn2 {i j : Nat} {v u : IV} {x f g : Str} (hv : Λ[i]? = some (some v)) (hu : Λ[j]? = some (some u)) (h : Hd n K fs S) (q : ∀ (l d : Nat) (S' : Sto), Hd n K ((l, .exn x d) :: (d, .xd [(g, u), (f, v)]) :: fs) S' → Q (.adr l) S') : Wp (iExn2 x f g (iCons (iVar i) (iCons (iVar j) iNil)) Λ S) Q := by
  refine .bind (wp_cons (wp_var hv (wp_cons (wp_var hu (wp_nil ?_)))))
  exact .ok (q _ _ _ (Hd.two h _ _))
theorem wp_xn {tab : List (Str × Bool)} {f x : Str} {l d : Nat} {gs : List (Str × IV)} {v : IV} (h : Hd n K fs S) (h1 : (l, .exn x d) ∈ fs) (h2 : (d, .xd gs) ∈ fs) (ht : tab.lookup x = some true) (hl : gs.lookup f = some v) (q : Q v S) : Wp (fXn tab f (.adr l) S) Q := by
  unfold fXn
  rw [onX_s (h.get _ h1) (h.get _ h2)]
  exact wp_chk ⟨ht, wp_orBad hl (.ok q)⟩
theorem wp_isX {tab ist : List (Str × Bool)} {x : Str} {l d : Nat} {gs : List (Str × IV)} {b : Bool} (h : Hd n K fs S) (h1 : (l, .exn x d) ∈ fs) (h2 : (d, .xd gs) ∈ fs) (ht : tab.lookup x = some true) (hl : ist.lookup x = some b) (q : Q (.bl b) S) : Wp (fIsX tab ist (.adr l) S) Q := by
  unfold fIsX
  rw [onX_s (h.get _ h1) (h.get _ h2)]
  exact wp_chk ⟨ht, wp_orBad hl (.ok q)⟩
end
def Vok (v : IV) : Prop := (∃ i, v = .int i) ∨ (v = .str "p" ∨ v = .str "") ∨ v = .non ∨ (∃ b, v = .bl b) ∨ (∃ i, v = .lst [.int i]) ∨ v = .tup [.str "ahead", .str "m"] ∨ v = .lst [.lst [.str "m.C"]]
theorem eq_same {v : IV} {S : Sto} (h : Vok v) : eqB S v v = some true := by
  have key : ∀ (d : PyData), view 8 S v = some d → SeqAt.shaped d = true → PyData.eqv d d = true → (match view 8 S v, view 8 S v with
    | some d, some e => if SeqAt.shaped d = true ∧ SeqAt.shaped e = true then some (PyData.eqv d e) else none
    | _, _ => none) = some true := fun d h1 h2 h3 => by
    rw [h1]
    show (if SeqAt.shaped d = true ∧ SeqAt.shaped d = true then some (PyData.eqv d d) else none) = _
    rw [if_pos ⟨h2, h2⟩, h3]
  rcases h with ⟨i, rfl⟩ | (rfl | rfl) | rfl | ⟨b, rfl⟩ | ⟨i, rfl⟩ | rfl | rfl
  · rw [eqB_i, decide_eq_true rfl]
  · rw [eqB_s, decide_eq_true rfl]
  · rw [eqB_s, decide_eq_true rfl]
  · exact key .none rfl (by decide +kernel) (by decide +kernel)
  · rw [eqB_b, decide_eq_true rfl]
  · refine key (.list [.int i]) rfl ?_ ?_
    · simp [SeqAt.shaped, PyData.canLay0, PyData.depth, PyData.canLayAll0, PyData.depthAll]
    · simp [PyData.eqv, PyData.eqvAll]
  · exact key (.tuple [.str "ahead", .str "m"]) rfl (by decide +kernel) (by decide +kernel)
  · exact key (.list [.list [.str "m.C"]]) rfl (by decide +kernel) (by decide +kernel)
def isBool : IV → Bool
  | .bl _ => true
  | _ => false
theorem isi_v {v : IV} {S : Sto} {Q : IV → Sto → Prop} (h : Vok v) (q : Q (.bl (isBool v)) S) : Wp (fIsi [v, .ty "bool"] S) Q := by
  rcases h with ⟨i, rfl⟩ | (rfl | rfl) | rfl | ⟨b, rfl⟩ | ⟨i, rfl⟩ | rfl | rfl <;> exact wp_isi (by with_unfolding_all exact rfl) (by with_unfolding_all exact rfl) q
set_option maxHeartbeats 8000000
def names : List Str := ["BadLine", "TooMany", "BadTarget", "NoModule", "NoOutside", "NoPlace", "NoClass", "NoOrder", "NoPatch", "NoStand", "NotLoaded", "Missing", "Uncallable", "Started", "Idle", "BadLetter", "BadKind", "BadPlaces", "Keeps", "CanFail", "BadChange", "Unequal", "BadPath"]
theorem tab_c : ∀ C ∈ names, exAll.lookup C = some true := by decide +kernel
theorem pe_c : ∀ C ∈ names, exIs_PatchedError.lookup C = some true := by decide +kernel
theorem ve_c : ∀ C ∈ names, exIs_ValueError.lookup C = some true := by decide +kernel
theorem is_BadLine : ∀ C ∈ names, exIs_BadLine.lookup C = some (decide (C = "BadLine")) := by decide +kernel
theorem is_TooMany : ∀ C ∈ names, exIs_TooMany.lookup C = some (decide (C = "TooMany")) := by decide +kernel
theorem is_BadTarget : ∀ C ∈ names, exIs_BadTarget.lookup C = some (decide (C = "BadTarget")) := by decide +kernel
theorem is_NoModule : ∀ C ∈ names, exIs_NoModule.lookup C = some (decide (C = "NoModule")) := by decide +kernel
theorem is_NoOutside : ∀ C ∈ names, exIs_NoOutside.lookup C = some (decide (C = "NoOutside")) := by decide +kernel
theorem is_NoPlace : ∀ C ∈ names, exIs_NoPlace.lookup C = some (decide (C = "NoPlace")) := by decide +kernel
theorem is_NoClass : ∀ C ∈ names, exIs_NoClass.lookup C = some (decide (C = "NoClass")) := by decide +kernel
theorem is_NoOrder : ∀ C ∈ names, exIs_NoOrder.lookup C = some (decide (C = "NoOrder")) := by decide +kernel
theorem is_NoPatch : ∀ C ∈ names, exIs_NoPatch.lookup C = some (decide (C = "NoPatch")) := by decide +kernel
theorem is_NoStand : ∀ C ∈ names, exIs_NoStand.lookup C = some (decide (C = "NoStand")) := by decide +kernel
theorem is_NotLoaded : ∀ C ∈ names, exIs_NotLoaded.lookup C = some (decide (C = "NotLoaded")) := by decide +kernel
theorem is_Missing : ∀ C ∈ names, exIs_Missing.lookup C = some (decide (C = "Missing")) := by decide +kernel
theorem is_Uncallable : ∀ C ∈ names, exIs_Uncallable.lookup C = some (decide (C = "Uncallable")) := by decide +kernel
theorem is_Started : ∀ C ∈ names, exIs_Started.lookup C = some (decide (C = "Started")) := by decide +kernel
theorem is_Idle : ∀ C ∈ names, exIs_Idle.lookup C = some (decide (C = "Idle")) := by decide +kernel
theorem is_BadLetter : ∀ C ∈ names, exIs_BadLetter.lookup C = some (decide (C = "BadLetter")) := by decide +kernel
theorem is_BadKind : ∀ C ∈ names, exIs_BadKind.lookup C = some (decide (C = "BadKind")) := by decide +kernel
theorem is_BadPlaces : ∀ C ∈ names, exIs_BadPlaces.lookup C = some (decide (C = "BadPlaces")) := by decide +kernel
theorem is_Keeps : ∀ C ∈ names, exIs_Keeps.lookup C = some (decide (C = "Keeps")) := by decide +kernel
theorem is_CanFail : ∀ C ∈ names, exIs_CanFail.lookup C = some (decide (C = "CanFail")) := by decide +kernel
theorem is_BadChange : ∀ C ∈ names, exIs_BadChange.lookup C = some (decide (C = "BadChange")) := by decide +kernel
theorem is_Unequal : ∀ C ∈ names, exIs_Unequal.lookup C = some (decide (C = "Unequal")) := by decide +kernel
theorem is_BadPath : ∀ C ∈ names, exIs_BadPath.lookup C = some (decide (C = "BadPath")) := by decide +kernel
def row (C : Str) (D : Str) : IV := .tup [.str D, .bl (decide (C = D))]
theorem flt_c : ∀ C ∈ names, names.filter (fun D => decide (C = D)) = [C] := by decide +kernel
theorem ok_c : ∀ C ∈ names, okS C := by
  have h : names.all (fun C => (sg C).all fun c => decide (c < 1114112)) = true := by decide +kernel
  intro C hC c hc
  exact of_decide_eq_true (List.all_eq_true.mp (List.all_eq_true.mp h C hC) c hc)
section
variable {n K : Nat} {fs : List (Nat × Cell)} {S : Sto} {Λ : Slots} {Q : IV → Sto → Prop} {C : Str} {l d : Nat} {gs : List (Str × IV)}
theorem kinds_ok (h : Hd n K fs S) (hC : C ∈ names) (h1 : (l, .exn C d) ∈ fs) (h2 : (d, .xd gs) ∈ fs) (q : Q (.lst [.str C]) S) : Wp (m__law_kinds [.adr l] S) Q := by
  refine wd__law_kinds ?_
  have i_BadLine : ∀ {Q : IV → Sto → Prop}, Q (.bl (decide (C = "BadLine"))) S → Wp (fIsX exAll exIs_BadLine (.adr l) S) Q := fun q => wp_isX h h1 h2 (tab_c C hC) (is_BadLine C hC) q
  have i_TooMany : ∀ {Q : IV → Sto → Prop}, Q (.bl (decide (C = "TooMany"))) S → Wp (fIsX exAll exIs_TooMany (.adr l) S) Q := fun q => wp_isX h h1 h2 (tab_c C hC) (is_TooMany C hC) q
  have i_BadTarget : ∀ {Q : IV → Sto → Prop}, Q (.bl (decide (C = "BadTarget"))) S → Wp (fIsX exAll exIs_BadTarget (.adr l) S) Q := fun q => wp_isX h h1 h2 (tab_c C hC) (is_BadTarget C hC) q
  have i_NoModule : ∀ {Q : IV → Sto → Prop}, Q (.bl (decide (C = "NoModule"))) S → Wp (fIsX exAll exIs_NoModule (.adr l) S) Q := fun q => wp_isX h h1 h2 (tab_c C hC) (is_NoModule C hC) q
  have i_NoOutside : ∀ {Q : IV → Sto → Prop}, Q (.bl (decide (C = "NoOutside"))) S → Wp (fIsX exAll exIs_NoOutside (.adr l) S) Q := fun q => wp_isX h h1 h2 (tab_c C hC) (is_NoOutside C hC) q
  have i_NoPlace : ∀ {Q : IV → Sto → Prop}, Q (.bl (decide (C = "NoPlace"))) S → Wp (fIsX exAll exIs_NoPlace (.adr l) S) Q := fun q => wp_isX h h1 h2 (tab_c C hC) (is_NoPlace C hC) q
  have i_NoClass : ∀ {Q : IV → Sto → Prop}, Q (.bl (decide (C = "NoClass"))) S → Wp (fIsX exAll exIs_NoClass (.adr l) S) Q := fun q => wp_isX h h1 h2 (tab_c C hC) (is_NoClass C hC) q
  have i_NoOrder : ∀ {Q : IV → Sto → Prop}, Q (.bl (decide (C = "NoOrder"))) S → Wp (fIsX exAll exIs_NoOrder (.adr l) S) Q := fun q => wp_isX h h1 h2 (tab_c C hC) (is_NoOrder C hC) q
  have i_NoPatch : ∀ {Q : IV → Sto → Prop}, Q (.bl (decide (C = "NoPatch"))) S → Wp (fIsX exAll exIs_NoPatch (.adr l) S) Q := fun q => wp_isX h h1 h2 (tab_c C hC) (is_NoPatch C hC) q
  have i_NoStand : ∀ {Q : IV → Sto → Prop}, Q (.bl (decide (C = "NoStand"))) S → Wp (fIsX exAll exIs_NoStand (.adr l) S) Q := fun q => wp_isX h h1 h2 (tab_c C hC) (is_NoStand C hC) q
  have i_NotLoaded : ∀ {Q : IV → Sto → Prop}, Q (.bl (decide (C = "NotLoaded"))) S → Wp (fIsX exAll exIs_NotLoaded (.adr l) S) Q := fun q => wp_isX h h1 h2 (tab_c C hC) (is_NotLoaded C hC) q
  have i_Missing : ∀ {Q : IV → Sto → Prop}, Q (.bl (decide (C = "Missing"))) S → Wp (fIsX exAll exIs_Missing (.adr l) S) Q := fun q => wp_isX h h1 h2 (tab_c C hC) (is_Missing C hC) q
  have i_Uncallable : ∀ {Q : IV → Sto → Prop}, Q (.bl (decide (C = "Uncallable"))) S → Wp (fIsX exAll exIs_Uncallable (.adr l) S) Q := fun q => wp_isX h h1 h2 (tab_c C hC) (is_Uncallable C hC) q
  have i_Started : ∀ {Q : IV → Sto → Prop}, Q (.bl (decide (C = "Started"))) S → Wp (fIsX exAll exIs_Started (.adr l) S) Q := fun q => wp_isX h h1 h2 (tab_c C hC) (is_Started C hC) q
  have i_Idle : ∀ {Q : IV → Sto → Prop}, Q (.bl (decide (C = "Idle"))) S → Wp (fIsX exAll exIs_Idle (.adr l) S) Q := fun q => wp_isX h h1 h2 (tab_c C hC) (is_Idle C hC) q
  have i_BadLetter : ∀ {Q : IV → Sto → Prop}, Q (.bl (decide (C = "BadLetter"))) S → Wp (fIsX exAll exIs_BadLetter (.adr l) S) Q := fun q => wp_isX h h1 h2 (tab_c C hC) (is_BadLetter C hC) q
  have i_BadKind : ∀ {Q : IV → Sto → Prop}, Q (.bl (decide (C = "BadKind"))) S → Wp (fIsX exAll exIs_BadKind (.adr l) S) Q := fun q => wp_isX h h1 h2 (tab_c C hC) (is_BadKind C hC) q
  have i_BadPlaces : ∀ {Q : IV → Sto → Prop}, Q (.bl (decide (C = "BadPlaces"))) S → Wp (fIsX exAll exIs_BadPlaces (.adr l) S) Q := fun q => wp_isX h h1 h2 (tab_c C hC) (is_BadPlaces C hC) q
  have i_Keeps : ∀ {Q : IV → Sto → Prop}, Q (.bl (decide (C = "Keeps"))) S → Wp (fIsX exAll exIs_Keeps (.adr l) S) Q := fun q => wp_isX h h1 h2 (tab_c C hC) (is_Keeps C hC) q
  have i_CanFail : ∀ {Q : IV → Sto → Prop}, Q (.bl (decide (C = "CanFail"))) S → Wp (fIsX exAll exIs_CanFail (.adr l) S) Q := fun q => wp_isX h h1 h2 (tab_c C hC) (is_CanFail C hC) q
  have i_BadChange : ∀ {Q : IV → Sto → Prop}, Q (.bl (decide (C = "BadChange"))) S → Wp (fIsX exAll exIs_BadChange (.adr l) S) Q := fun q => wp_isX h h1 h2 (tab_c C hC) (is_BadChange C hC) q
  have i_Unequal : ∀ {Q : IV → Sto → Prop}, Q (.bl (decide (C = "Unequal"))) S → Wp (fIsX exAll exIs_Unequal (.adr l) S) Q := fun q => wp_isX h h1 h2 (tab_c C hC) (is_Unequal C hC) q
  have i_BadPath : ∀ {Q : IV → Sto → Prop}, Q (.bl (decide (C = "BadPath"))) S → Wp (fIsX exAll exIs_BadPath (.adr l) S) Q := fun q => wp_isX h h1 h2 (tab_c C hC) (is_BadPath C hC) q
  unfold b__law_kinds
  repeat (first | decreasing_trivial_pre_omega | refine i_BadLine ?_ | refine i_TooMany ?_ | refine i_BadTarget ?_ | refine i_NoModule ?_ | refine i_NoOutside ?_ | refine i_NoPlace ?_ | refine i_NoClass ?_ | refine i_NoOrder ?_ | refine i_NoPatch ?_ | refine i_NoStand ?_ | refine i_NotLoaded ?_ | refine i_Missing ?_ | refine i_Uncallable ?_ | refine i_Started ?_ | refine i_Idle ?_ | refine i_BadLetter ?_ | refine i_BadKind ?_ | refine i_BadPlaces ?_ | refine i_Keeps ?_ | refine i_CanFail ?_ | refine i_BadChange ?_ | refine i_Unequal ?_ | refine i_BadPath ?_)
  refine wp_lcm (k := none) (names : List Str) (row C) (fun D => decide (C = D)) IV.str (wp_srcL (wp_var (by with_unfolding_all exact rfl) (srcL_l ⟨rfl, rfl⟩))) trivial (fun D hD => ⟨_, rfl, ?_⟩) (by decide) ?_
  · refine wp_tru (wp_bin (wp_var (by with_unfolding_all exact rfl) (wp_c (wp_ixt (v := .bl (decide (C = D))) rfl (tr_bl ⟨rfl, rfl, fun _ => ?_⟩)))))
    exact wp_bin (wp_var (by with_unfolding_all exact rfl) (wp_c (wp_ixt (v := .str D) rfl ⟨rfl, rfl⟩)))
  · rw [flt_c C hC]
    exact wp_mkf ⟨by show 1 ≤ sizeLine; decide, q⟩
theorem is_ok {v : IV} (h : Hd n K fs S) (hC : C ∈ names) (h1 : (l, .exn C d) ∈ fs) (h2 : (d, .xd gs) ∈ fs) (hv : Vok v) (q : Q (.bl true) S) : Wp (m__law_is [.adr l, .str C, v, v] S) Q := by
  refine wd__law_is ?_
  unfold b__law_is
  refine wp_seq (wp_ifP (B := false) ?_ (fun z => by cases z) fun _ => wp_next (wp_nx (wp_ret ?_)))
  · refine te_or (B := false) (C := false) ?_ (te_or (B := false) (C := false) ?_ ?_)
    · exact wp_not (wp_tru (wp_un (wp_var rfl (wp_isX h h1 h2 (tab_c C hC) (pe_c C hC) (tr_bl ⟨rfl, rfl⟩)))))
    · exact wp_not (wp_tru (wp_un (wp_var rfl (wp_isX h h1 h2 (tab_c C hC) (ve_c C hC) (tr_bl ⟨rfl, rfl⟩)))))
    · refine wp_test (wp_bin (wp_call (wp_cons (wp_var rfl (wp_nil ⟨rfl, kinds_ok h hC h1 h2 ?_⟩)))))
      refine wp_lst (wp_cons (wp_var rfl (wp_nil (wp_mkf ⟨by show 1 ≤ sizeLine; decide, ?_⟩))))
      refine wp_ne (b := true) ?_ (ex_bl ⟨rfl, rfl⟩)
      have z := eqB_strs (S := S) (zs := [C]) (ys := [C]) (fun z hz => ?_) (fun z hz => ?_)
      · rw [show [C].map IV.str = [.str C] from rfl] at z
        rw [z, decide_eq_true rfl]
      all_goals
        rw [List.mem_singleton.mp hz]
        exact ok_c C hC
  · refine wp_andV (wp_bin (wp_var rfl (wp_var rfl (wp_eq (eq_same hv) (ex_bl ⟨fun _ => ?_, fun z => by cases z⟩)))))
    refine wp_bin (wp_ca (wp_cons (wp_var rfl (wp_cons (wp_c (wp_nil (isi_v hv ?_)))))))
    refine wp_ca (wp_cons (wp_var rfl (wp_cons (wp_c (wp_nil (isi_v hv ?_))))))
    refine wp_eq (b := true) ?_ (fq_rt q)
    rw [eqB_b, decide_eq_true rfl]
theorem raised_ok {v : IV} (h : Hd n K fs S) (hv : Vok v) (q : ∀ S', Hd n K fs S' → Q (.bl true) S') : Wp (m__law_raised [v] S) Q := by
  refine wd__law_raised ?_
  unfold b__law_raised
  have hl : (S ++ [.xd [("name", v)]])[S.length]? = some (.xd [("name", v)]) := get_new _ _
  have e : iRaise "Idle" "name" (iCons (iVar 0) iNil) [some v, none] S = .exc "Idle" S.length [some v, none] (S ++ [.xd [("name", v)]]) := rfl
  have e2 : (iRet (iAndV (iXIsT 1 S.length [("Idle", true)] "Idle") (iBin fEq (iXf 1 S.length "name") (iVar 0)))) [some v, none] (S ++ [.xd [("name", v)]]) = .ok (.rt (.bl true)) (S ++ [.xd [("name", v)]]) := by
    simp [iXIsT, iXIs, iXf, hl, iVar_s, eq_same hv]
  have e3 : iTryAs [("Idle", true)] 1 (iRaise "Idle" "name" (iCons (iVar 0) iNil)) (fun C m => (iRet (iAndV (iXIsT 1 m [("Idle", true)] C) (iBin fEq (iXf 1 m "name") (iVar 0))))) [some v, none] S = .ok (.rt (.bl true)) (S ++ [.xd [("name", v)]]) := by
    unfold iTryAs
    rw [e]
    show (noX ((iRet (iAndV (iXIsT 1 S.length [("Idle", true)] "Idle") (iBin fEq (iXf 1 S.length "name") (iVar 0)))) [some v, none] (S ++ [.xd [("name", v)]]))).bind _ = _
    rw [e2]
    rfl
  exact wp_seq (.of e3 (wp_rt (fq_rt (q _ (h.ext0 (.app _))))))
end
set_option maxHeartbeats 8000000
def eRow (v : IV) (p : Str × Nat) : IV := .tup [.adr p.2, .str p.1, v]
def EsOk (v : IV) (gs : List (Nat × Cell)) (p : Str × Nat) : Prop := p.1 ∈ names ∧ ∃ (d : Nat) (f : Str), (p.2, .exn p.1 d) ∈ gs ∧ (d, .xd [(f, v)]) ∈ gs
section
variable {n K : Nat} {fs : List (Nat × Cell)} {S : Sto} {Λ : Slots} {Q : IV → Sto → Prop}
theorem wp_par3 {Q : Fl → Sto → Prop} {i j k : Nat} {ma : IA} (h : Wp (ma Λ S) fun xs S1 => ∃ x y z : IV, xs = [x, y, z] ∧ Q (.nx (((Λ.set i (some x)).set j (some y)).set k (some z))) S1) : Wp (iPar3 i j k ma Λ S) Q := .bind (h.imp fun _ _ ⟨x, y, z, e, q⟩ => by rw [e]; exact .ok q)
theorem ex_three {x y z : IV} {P : IV → IV → IV → Prop} (q : P x y z) : ∃ x' y' z' : IV, [x, y, z] = [x', y', z'] ∧ P x' y' z' := ⟨x, y, z, rfl, q⟩
theorem wp_addm {y : IV} {l : Nat} {xs ys : List IV} (h : Hd n K fs S) (g : (l, .lst xs) ∈ fs) (e2 : lstX S y = some ys) (c : Chk (xs.length + ys.length ≤ sizeLine) (Q (.lst (xs ++ ys)) S)) : Wp (fAdd (.adr l) y S) Q := wp_adda (h.get _ g) e2 c
theorem lstX_m {l : Nat} {xs : List IV} (h : Hd n K fs S) (g : (l, .lst xs) ∈ fs) : lstX S (.adr l) = some xs := lstX_a (h.get _ g)
theorem es_nil {v : IV} {gs : List (Nat × Cell)} : ∀ p ∈ ([] : List (Str × Nat)), EsOk v gs p := fun _ h => by cases h
theorem es_cons {v : IV} {gs : List (Nat × Cell)} {C f : Str} {l d : Nat} {es : List (Str × Nat)} (hC : C ∈ names) (h1 : (l, .exn C d) ∈ gs) (h2 : (d, .xd [(f, v)]) ∈ gs) (h : ∀ p ∈ es, EsOk v gs p) : ∀ p ∈ (C, l) :: es, EsOk v gs p := List.forall_mem_cons.mpr ⟨⟨hC, d, f, h1, h2⟩, h⟩
theorem some_ok {v : IV} (h : Hd n K fs S) (q : ∀ (es : List (Str × Nat)) (gs : List (Nat × Cell)) (S' : Sto), Hd n K gs S' → (∀ p ∈ fs, p ∈ gs) → (∀ p ∈ es, EsOk v gs p) → es.length ≤ 12 → Q (.lst (es.map (eRow v))) S') : Wp (m__law_some [v] S) Q := by
  refine wd__law_some ?_
  unfold b__law_some
  repeat (first | decreasing_trivial_pre_omega | (refine wp_appV (by with_unfolding_all exact rfl) (Hd.at (by assumption) 8 (by with_unfolding_all exact rfl)) ?_) | (refine ⟨_, _, _, 8, _, (by assumption), (by with_unfolding_all exact rfl), ?_⟩) | (refine wp_exn (v := v) (by with_unfolding_all exact rfl) (by assumption) fun _ _ _ _ => ?_) | (refine wp_xn (v := v) (by assumption) (by repeat (first | exact List.mem_cons_self | apply List.mem_cons_of_mem)) (by repeat (first | exact List.mem_cons_self | apply List.mem_cons_of_mem)) (by decide +kernel) rfl ?_) | refine wp_par3 ?_ | refine ex_three ?_ | (refine wp_addm (by assumption) (by repeat (first | exact List.mem_cons_self | apply List.mem_cons_of_mem)) rfl ⟨by decreasing_trivial, ?_⟩) | (refine catC_w (by assumption) (lstX_m (by assumption) (by repeat (first | exact List.mem_cons_self | apply List.mem_cons_of_mem))) (by with_unfolding_all exact rfl) ⟨by decreasing_trivial, fun _ _ _ => ?_⟩) | (refine wp_mkt (by assumption) ⟨by decreasing_trivial, fun _ _ _ => ?_⟩))
  refine q [("BadLine", _), ("TooMany", _), ("BadPath", _), ("BadTarget", _), ("NoModule", _), ("NoOutside", _), ("NoPlace", _), ("NoClass", _), ("NoOrder", _), ("NoPatch", _), ("NoStand", _)] _ _ (by assumption) ?_ ?_ (by simp)
  · intro p hp
    repeat (first | assumption | apply List.mem_cons_of_mem)
  · repeat (first | exact es_nil | refine es_cons (by decide +kernel) (by repeat (first | exact List.mem_cons_self | apply List.mem_cons_of_mem)) (by repeat (first | exact List.mem_cons_self | apply List.mem_cons_of_mem)) ?_)
theorem others_ok {v : IV} (h : Hd n K fs S) (q : ∀ (es : List (Str × Nat)) (gs : List (Nat × Cell)) (S' : Sto), Hd n K gs S' → (∀ p ∈ fs, p ∈ gs) → (∀ p ∈ es, EsOk v gs p) → es.length ≤ 12 → Q (.lst (es.map (eRow v))) S') : Wp (m__law_others [v] S) Q := by
  refine wd__law_others ?_
  unfold b__law_others
  repeat (first | decreasing_trivial_pre_omega | (refine wp_appV (by with_unfolding_all exact rfl) (Hd.at (by assumption) 8 (by with_unfolding_all exact rfl)) ?_) | (refine ⟨_, _, _, 8, _, (by assumption), (by with_unfolding_all exact rfl), ?_⟩) | (refine wp_exn (v := v) (by with_unfolding_all exact rfl) (by assumption) fun _ _ _ _ => ?_) | (refine wp_xn (v := v) (by assumption) (by repeat (first | exact List.mem_cons_self | apply List.mem_cons_of_mem)) (by repeat (first | exact List.mem_cons_self | apply List.mem_cons_of_mem)) (by decide +kernel) rfl ?_) | refine wp_par3 ?_ | refine ex_three ?_ | (refine wp_addm (by assumption) (by repeat (first | exact List.mem_cons_self | apply List.mem_cons_of_mem)) rfl ⟨by decreasing_trivial, ?_⟩) | (refine catC_w (by assumption) (lstX_m (by assumption) (by repeat (first | exact List.mem_cons_self | apply List.mem_cons_of_mem))) (by with_unfolding_all exact rfl) ⟨by decreasing_trivial, fun _ _ _ => ?_⟩) | (refine wp_mkt (by assumption) ⟨by decreasing_trivial, fun _ _ _ => ?_⟩))
  refine q [("NotLoaded", _), ("Missing", _), ("Uncallable", _), ("Started", _), ("Idle", _), ("BadLetter", _), ("BadKind", _), ("BadPlaces", _), ("Keeps", _), ("CanFail", _), ("BadChange", _)] _ _ (by assumption) ?_ ?_ (by simp)
  · intro p hp
    repeat (first | assumption | apply List.mem_cons_of_mem)
  · repeat (first | exact es_nil | refine es_cons (by decide +kernel) (by repeat (first | exact List.mem_cons_self | apply List.mem_cons_of_mem)) (by repeat (first | exact List.mem_cons_self | apply List.mem_cons_of_mem)) ?_)
end
set_option maxHeartbeats 8000000
def vals (r : Int) : List IV := [.int r, .int (-r), .str "p", .str "", .non, .bl true, .bl false, .lst [.int r], .tup [.str "ahead", .str "m"], .lst [.lst [.str "m.C"]], .int 0, .int 1]
theorem vals_ok {r : Int} : ∀ v ∈ vals r, Vok v := by
  intro v hv
  simp only [vals, List.mem_cons, List.not_mem_nil, or_false] at hv
  rcases hv with rfl | rfl | rfl | rfl | rfl | rfl | rfl | rfl | rfl | rfl | rfl | rfl
  · exact .inl ⟨_, rfl⟩
  · exact .inl ⟨_, rfl⟩
  · exact .inr (.inl (.inl rfl))
  · exact .inr (.inl (.inr rfl))
  · exact .inr (.inr (.inl rfl))
  · exact .inr (.inr (.inr (.inl ⟨_, rfl⟩)))
  · exact .inr (.inr (.inr (.inl ⟨_, rfl⟩)))
  · exact .inr (.inr (.inr (.inr (.inl ⟨_, rfl⟩))))
  · exact .inr (.inr (.inr (.inr (.inr (.inl rfl)))))
  · exact .inr (.inr (.inr (.inr (.inr (.inr rfl)))))
  · exact .inl ⟨_, rfl⟩
  · exact .inl ⟨_, rfl⟩
def wL (ns : List Int) (a b c d e f g h : Option IV) : Slots := [some (.wls (ns.map IV.int)), a, b, c, d, e, f, g, h]
section
variable {n K : Nat} {fs : List (Nat × Cell)} {S : Sto} {Q : Fl → Sto → Prop}
theorem loop_ok {ns : List Int} {v : IV} {a b c d : Option IV} {f g h : Option IV} (hd : Hd n K fs S) (hv : Vok v) (q : ∀ (f g h : Option IV) (gs : List (Nat × Cell)) (S' : Sto), Hd n K gs S' → Q (.nx (wL ns a b c d (some v) f g h)) S') :
    Wp (iFor (iSrcL (iBin fAdd (iCall 1 m__law_some (iCons (iVar 5) iNil)) (iCall 1 m__law_others (iCons (iVar 5) iNil)))) (iGTup 3 (iGCons (iName 6) (iGCons (iName 7) (iGCons (iName 8) iGNil)))) (iIf (iNot (iTru (iCall 4 m__law_is (iCons (iVar 6) (iCons (iVar 7) (iCons (iVar 8) (iCons (iVar 5) iNil))))))) (iRet (iC (.bl false))) iNext) (wL ns a b c d (some v) f g h) S) Q := by
  refine wp_forK (wp_srcL (wp_bin (wp_call (wp_cons (wp_var rfl (wp_nil ⟨rfl, some_ok hd fun es1 gs1 S1 h1 m1 k1 l1 => ?_⟩))))))
  refine wp_call (wp_cons (wp_var rfl (wp_nil ⟨rfl, others_ok h1 fun es2 gs2 S2 h2 m2 k2 l2 => ?_⟩)))
  refine wp_addl ⟨?_, srcL_l ?_⟩
  · rw [List.length_append, List.length_map, List.length_map, szL]; omega
  rw [← List.map_append]
  have hk : ∀ p ∈ es1 ++ es2, EsOk v gs2 p := fun p hp => by
    rcases List.mem_append.mp hp with hp | hp
    · obtain ⟨x1, x2, x3, x4, x5⟩ := k1 p hp
      exact ⟨x1, x2, x3, m2 _ x4, m2 _ x5⟩
    · exact k2 p hp
  refine wp_it (es1 ++ es2) (eRow v) (fun _ L S' => S' = S2 ∧ ∃ f g h, L = wL ns a b c d (some v) f g h) ⟨rfl, f, g, h, rfl⟩ stay_n (fun i L S' p hp hI => ?_) fun L S' hI => ?_
  · obtain ⟨rfl, f, g, h, rfl⟩ := hI
    obtain ⟨x1, x2, x3, x4, x5⟩ := hk p (List.mem_of_getElem? hp)
    refine wp_gtup ⟨rfl, wp_gcons (wp_name (wp_gcons (wp_name (wp_gcons (wp_name (wp_gnil ?_))))))⟩
    refine wp_ifP (B := false) ?_ (fun z => by cases z) fun _ => wp_next (lq_nx ⟨rfl, _, _, _, rfl⟩)
    exact wp_not (wp_tru (wp_call (wp_cons (wp_var rfl (wp_cons (wp_var rfl (wp_cons (wp_var rfl (wp_cons (wp_var rfl (wp_nil ⟨rfl, is_ok h2 x1 x4 x5 hv (tr_bl ⟨rfl, rfl⟩)⟩)))))))))))
  · obtain ⟨rfl, f, g, h, rfl⟩ := hI
    exact q f g h gs2 _ h2
theorem law_ok {xs : List Int} (h : xs.length ≤ 63) : ∃ S', m_law [.wls (xs.map IV.int)] [] = .ok (.bl true) S' := by
  have key : Wp (m_law [.wls (xs.map IV.int)] []) fun v _ => v = .bl true := by
    refine wd_law ?_
    unfold b_law
    refine wp_seq ?_
    refine wp_forK (wp_range (wp_ca (wp_cons (wp_c (wp_cons (wp_ca (wp_cons (wp_c (wp_cons (wp_ca (wp_cons (wp_var rfl (wp_nil (wp_len (lenN_w _) (wp_nil (wp_min2 (wp_nil (wp_max2 ⟨_, rfl, ?_, ?_⟩))))))))))))))))))
    · rw [List.length_map]
      constructor <;> (repeat' split) <;> omega
    refine wp_it (List.range _) (fun i : Nat => IV.int i) (fun _ L S => ∃ a b c d e f g h, L = wL xs a b c d e f g h) (k := none) ⟨none, none, none, none, none, none, none, none, rfl⟩ stay_n (fun i L S a ha hI => ?_) fun L S hI => ?_
    · obtain ⟨a1, b, c, d, e, f, g, hh, rfl⟩ := hI
      refine wp_name (wp_seq (wp_set (wp_call (wp_cons (wp_var rfl (wp_cons (wp_var rfl (wp_nil ⟨rfl, wp_source fun n S hd => wp_nx ?_⟩))))))))
      refine wp_seq (wp_set (wp_call (wp_cons (wp_var rfl (wp_cons (wp_bin (wp_c (wp_c (wp_fI ⟨by decide, wp_nil ⟨rfl, wp_draw hd (by decide) (by decide) (by decide) fun r S hd r0 r1 => wp_nx ?_⟩⟩)))))))))
      refine wp_seq (wp_set (Wp.imp (P := fun x S1 => x = .lst (vals r) ∧ S1 = S) ?_ ?_))
      · decreasing_tactic
      rintro _ _ ⟨rfl, rfl⟩
      refine wp_nx (wp_seq (wp_set (wp_bin (wp_var rfl (wp_call (wp_cons (wp_var rfl (wp_cons (wp_c (wp_nil ⟨rfl, wp_draw hd (by decide) (by decide) (by decide) fun j S hd j0 j1 => ?_⟩))))))))))
      obtain ⟨v, hv, hm⟩ := atI_lt (xs := vals r) j0 (by show j < 12; exact j1)
      refine wp_ixl hv (wp_nx (wp_seq (loop_ok (ns := xs) hd (vals_ok v hm) fun f g hh gs S hd => wp_nx ?_)))
      refine wp_seq (wp_set (wp_exn2 (v := v) (u := .int r) rfl rfl hd fun l d S hd => wp_nx ?_))
      have m1 : (l, Cell.exn "Unequal" d) ∈ (l, Cell.exn "Unequal" d) :: (d, .xd [("second", .int r), ("first", v)]) :: gs := List.mem_cons_self
      have m2 : (d, Cell.xd [("second", .int r), ("first", v)]) ∈ (l, Cell.exn "Unequal" d) :: (d, .xd [("second", .int r), ("first", v)]) :: gs := List.mem_cons_of_mem _ List.mem_cons_self
      refine wp_if (wp_or (wp_not (wp_tru (wp_call (wp_cons (wp_var rfl (wp_cons (wp_c (wp_cons (wp_un (wp_var rfl (wp_xn hd m1 m2 (by decide +kernel) rfl (wp_cons (wp_var rfl (wp_nil ⟨rfl, is_ok hd (by decide +kernel) m1 m2 (vals_ok v hm) (tr_bl ⟨fun z => (by cases z), fun _ => ?_⟩)⟩)))))))))))))))
      refine wp_or (wp_test (wp_bin (wp_un (wp_var rfl (wp_xn hd m1 m2 (by decide +kernel) rfl (wp_var rfl (wp_nei (ex_bl ⟨fun z => ?_, fun _ => ?_⟩))))))))
      · simp at z
      refine wp_not (wp_tru (wp_call (wp_cons (wp_var rfl (wp_nil ⟨rfl, raised_ok hd (vals_ok v hm) fun S' hd' => tr_bl ⟨fun z => (by cases z), fun _ => ?_⟩⟩)))))
      exact wp_next (lq_nx ⟨_, _, _, _, _, _, _, _, rfl⟩)
    · exact wp_nx (wp_ret (wp_c (fq_rt rfl)))
  obtain ⟨v, S', e, rfl⟩ := key
  exact ⟨S', e⟩
end
end K16
namespace K16
open PySem PySem.Spec PyProof.Rows L2 Sm RD GP
set_option maxHeartbeats 40000000 in
theorem all_mk {l : PySem.W.OpenLaw} {w : World} {K : PySem.W.Frag} {h : Heap} {mg : Str → Option Value} {fa : Addr} (X : K.In h) (G : h.Ns mainGlobals mg) (hfa : mg "law" = some (.ref fa))
    {A_PatchedError : Addr}
    {A_Idle : Addr}
    {A_NoModule : Addr}
    {bm_NoModule : List Value}
    {A_NoPatch : Addr}
    {bm_NoPatch : List Value}
    {A_NoStand : Addr}
    {bm_NoStand : List Value}
    {A_Started : Addr}
    {bm_Started : List Value}
    {bm_Idle : List Value}
    {A_NoOrder : Addr}
    {bm_NoOrder : List Value}
    {A_NoOutside : Addr}
    {bm_NoOutside : List Value}
    {A_NoClass : Addr}
    {bm_NoClass : List Value}
    {A_NoPlace : Addr}
    {bm_NoPlace : List Value}
    {A_BadTarget : Addr}
    {bm_BadTarget : List Value}
    {A_BadPath : Addr}
    {bm_BadPath : List Value}
    {A_Missing : Addr}
    {bm_Missing : List Value}
    {A_Uncallable : Addr}
    {bm_Uncallable : List Value}
    {A_CanFail : Addr}
    {bm_CanFail : List Value}
    {A_TooMany : Addr}
    {bm_TooMany : List Value}
    {A_BadLine : Addr}
    {bm_BadLine : List Value}
    {A_NotLoaded : Addr}
    {bm_NotLoaded : List Value}
    {A_BadPlaces : Addr}
    {bm_BadPlaces : List Value}
    {A_Keeps : Addr}
    {bm_Keeps : List Value}
    {A_BadChange : Addr}
    {bm_BadChange : List Value}
    {A_BadKind : Addr}
    {bm_BadKind : List Value}
    {A_BadLetter : Addr}
    {bm_BadLetter : List Value}
    {A_Unequal : Addr}
    {bm_Unequal : List Value}
    {f__law_source : Addr} {od__law_source an__law_source : Option Addr} {sl__law_source : Array (Option Value)} {oc__law_source kV__law_source dc__law_source pm__law_source cd__law_source ct__law_source : Value}
    {f__law_draw : Addr} {od__law_draw an__law_draw : Option Addr} {sl__law_draw : Array (Option Value)} {oc__law_draw kV__law_draw dc__law_draw pm__law_draw cd__law_draw ct__law_draw : Value}
    {f__law_kinds : Addr} {od__law_kinds an__law_kinds : Option Addr} {sl__law_kinds : Array (Option Value)} {oc__law_kinds kV__law_kinds dc__law_kinds pm__law_kinds cd__law_kinds ct__law_kinds : Value}
    {f__law_is : Addr} {od__law_is an__law_is : Option Addr} {sl__law_is : Array (Option Value)} {oc__law_is kV__law_is dc__law_is pm__law_is cd__law_is ct__law_is : Value}
    {f__law_raised : Addr} {od__law_raised an__law_raised : Option Addr} {sl__law_raised : Array (Option Value)} {oc__law_raised kV__law_raised dc__law_raised pm__law_raised cd__law_raised ct__law_raised : Value}
    {f__law_some : Addr} {od__law_some an__law_some : Option Addr} {sl__law_some : Array (Option Value)} {oc__law_some kV__law_some dc__law_some pm__law_some cd__law_some ct__law_some : Value}
    {f__law_others : Addr} {od__law_others an__law_others : Option Addr} {sl__law_others : Array (Option Value)} {oc__law_others kV__law_others dc__law_others pm__law_others cd__law_others ct__law_others : Value}
    {f_law : Addr} {od_law an_law : Option Addr} {sl_law : Array (Option Value)} {oc_law kV_law dc_law pm_law cd_law ct_law : Value}
    (z_int : PySem.W.nsIn K mainGlobals "int" = some none)
    (z_abs : PySem.W.nsIn K mainGlobals "abs" = some none)
    (z_len : PySem.W.nsIn K mainGlobals "len" = some none)
    (z_isinstance : PySem.W.nsIn K mainGlobals "isinstance" = some none)
    (z_bool : PySem.W.nsIn K mainGlobals "bool" = some none)
    (m_PatchedError : PySem.W.nsIn K mainGlobals "PatchedError" = some (some (.ref A_PatchedError)))
    (m_Idle : PySem.W.nsIn K mainGlobals "Idle" = some (some (.ref A_Idle)))
    (ex_PatchedError : PySem.W.subIn K (.ref A_PatchedError) (.type "BaseException") = some true)
    (hd_PatchedError : PySem.W.hasDictIn K A_PatchedError = true)
    (ty_PatchedError : PySem.W.typeIn K (.ref A_PatchedError) = some (.type "type"))
    (su_Idle_PatchedError : PySem.W.subIn K (.ref A_Idle) (.ref A_PatchedError) = some true)
    (xg_Idle : PySem.W.findIn K (.ref A_Idle) "__getattribute__" = some (some (.builtin "BaseException.__getattribute__")))
    (xk_Idle : PySem.W.findIn K (.ref A_Idle) "__getattr__" = some none)
    (ex_Idle : PySem.W.subIn K (.ref A_Idle) (.type "BaseException") = some true)
    (hd_Idle : PySem.W.hasDictIn K A_Idle = true)
    (xa_Idle : PySem.W.findIn K (.ref A_Idle) "__class__" = some (some (.builtin "object.__class__")))
    (xn : PySem.W.specialIn K (.builtin "object.__class__") "__get__" = some (some (.builtin "getset_descriptor.__get__")))
    (xt : PySem.W.takesIn K (.builtin "object.__class__") = some true)
    (xm_Idle : PySem.W.mroIn K A_Idle (.type "object") = some true)
    (ty_Idle : PySem.W.typeIn K (.ref A_Idle) = some (.type "type"))
    (su_Idle_Idle : PySem.W.subIn K (.ref A_Idle) (.ref A_Idle) = some true)
    (na_Idle_name : PySem.W.findIn K (.ref A_Idle) "name" = some none)
    (hx_NoModule : Sm.EPack K "NoModule" ["name"] ["self", "name"] "NoModule.__init__" s_NoModule___init__ A_NoModule bm_NoModule)
    (hx_NoPatch : Sm.EPack K "NoPatch" ["name"] ["self", "name"] "NoPatch.__init__" s_NoPatch___init__ A_NoPatch bm_NoPatch)
    (hx_NoStand : Sm.EPack K "NoStand" ["name"] ["self", "name"] "NoStand.__init__" s_NoStand___init__ A_NoStand bm_NoStand)
    (hx_Started : Sm.EPack K "Started" ["name"] ["self", "name"] "Started.__init__" s_Started___init__ A_Started bm_Started)
    (hx_Idle : Sm.EPack K "Idle" ["name"] ["self", "name"] "Idle.__init__" s_Idle___init__ A_Idle bm_Idle)
    (hx_NoOrder : Sm.EPack K "NoOrder" ["rows"] ["self", "rows"] "NoOrder.__init__" s_NoOrder___init__ A_NoOrder bm_NoOrder)
    (hx_NoOutside : Sm.EPack K "NoOutside" ["label"] ["self", "label"] "NoOutside.__init__" s_NoOutside___init__ A_NoOutside bm_NoOutside)
    (hx_NoClass : Sm.EPack K "NoClass" ["label"] ["self", "label"] "NoClass.__init__" s_NoClass___init__ A_NoClass bm_NoClass)
    (hx_NoPlace : Sm.EPack K "NoPlace" ["place"] ["self", "place"] "NoPlace.__init__" s_NoPlace___init__ A_NoPlace bm_NoPlace)
    (hx_BadTarget : Sm.EPack K "BadTarget" ["target"] ["self", "target"] "BadTarget.__init__" s_BadTarget___init__ A_BadTarget bm_BadTarget)
    (hx_BadPath : Sm.EPack K "BadPath" ["path"] ["self", "path"] "BadPath.__init__" s_BadPath___init__ A_BadPath bm_BadPath)
    (hx_Missing : Sm.EPack K "Missing" ["path"] ["self", "path"] "Missing.__init__" s_Missing___init__ A_Missing bm_Missing)
    (hx_Uncallable : Sm.EPack K "Uncallable" ["path"] ["self", "path"] "Uncallable.__init__" s_Uncallable___init__ A_Uncallable bm_Uncallable)
    (hx_CanFail : Sm.EPack K "CanFail" ["path"] ["self", "path"] "CanFail.__init__" s_CanFail___init__ A_CanFail bm_CanFail)
    (hx_TooMany : Sm.EPack K "TooMany" ["what"] ["self", "what"] "TooMany.__init__" s_TooMany___init__ A_TooMany bm_TooMany)
    (hx_BadLine : Sm.EPack K "BadLine" ["at"] ["self", "at"] "BadLine.__init__" s_BadLine___init__ A_BadLine bm_BadLine)
    (hx_NotLoaded : Sm.EPack K "NotLoaded" ["at"] ["self", "at"] "NotLoaded.__init__" s_NotLoaded___init__ A_NotLoaded bm_NotLoaded)
    (hx_BadPlaces : Sm.EPack K "BadPlaces" ["at"] ["self", "at"] "BadPlaces.__init__" s_BadPlaces___init__ A_BadPlaces bm_BadPlaces)
    (hx_Keeps : Sm.EPack K "Keeps" ["at"] ["self", "at"] "Keeps.__init__" s_Keeps___init__ A_Keeps bm_Keeps)
    (hx_BadChange : Sm.EPack K "BadChange" ["at"] ["self", "at"] "BadChange.__init__" s_BadChange___init__ A_BadChange bm_BadChange)
    (hx_BadKind : Sm.EPack K "BadKind" ["kind"] ["self", "kind"] "BadKind.__init__" s_BadKind___init__ A_BadKind bm_BadKind)
    (hx_BadLetter : Sm.EPack K "BadLetter" ["letter"] ["self", "letter"] "BadLetter.__init__" s_BadLetter___init__ A_BadLetter bm_BadLetter)
    (z_range : PySem.W.nsIn K mainGlobals "range" = some none)
    (z_min : PySem.W.nsIn K mainGlobals "min" = some none)
    (z_max : PySem.W.nsIn K mainGlobals "max" = some none)
    (hx_Unequal : Sm.EPack K "Unequal" ["first", "second"] ["self", "first", "second"] "Unequal.__init__" s_Unequal___init__ A_Unequal bm_Unequal)
    (rd_PatchedError : PySem.W.readsIn K A_PatchedError (.type "type") = true)
    (ga_PatchedError : PySem.W.specialIn K (.ref A_PatchedError) "__getattribute__" = some (some (.builtin "type.__getattribute__")))
    (bi_PatchedError : PySem.W.findCls K (.ref A_PatchedError) (.type "type") "__init__" = some (.val (.builtin "ValueError.__init__")))
    (zz_ValueError : PySem.W.nsIn K mainGlobals "ValueError" = some none)
    (kt_all : ([(.ref A_BadPath), (.ref A_Unequal), (.ref A_BadChange), (.ref A_CanFail), (.ref A_Keeps), (.ref A_BadPlaces), (.ref A_BadKind), (.ref A_BadLetter), (.ref A_Idle), (.ref A_Started), (.ref A_Uncallable), (.ref A_Missing), (.ref A_NotLoaded), (.ref A_NoStand), (.ref A_NoPatch), (.ref A_NoOrder), (.ref A_NoClass), (.ref A_NoPlace), (.ref A_NoOutside), (.ref A_NoModule), (.ref A_BadTarget), (.ref A_TooMany), (.ref A_BadLine), (.ref A_PatchedError), (.type "ValueError")] : List Value).map (Sm.istOf (Sm.exT exNames [(A_BadLine, bm_BadLine), (A_TooMany, bm_TooMany), (A_BadPath, bm_BadPath), (A_BadTarget, bm_BadTarget), (A_NoModule, bm_NoModule), (A_NoOutside, bm_NoOutside), (A_NoPlace, bm_NoPlace), (A_NoClass, bm_NoClass), (A_NoOrder, bm_NoOrder), (A_NoPatch, bm_NoPatch), (A_NoStand, bm_NoStand), (A_NotLoaded, bm_NotLoaded), (A_Missing, bm_Missing), (A_Uncallable, bm_Uncallable), (A_Started, bm_Started), (A_Idle, bm_Idle), (A_BadLetter, bm_BadLetter), (A_BadKind, bm_BadKind), (A_BadPlaces, bm_BadPlaces), (A_Keeps, bm_Keeps), (A_CanFail, bm_CanFail), (A_BadChange, bm_BadChange), (A_Unequal, bm_Unequal)])) = [exIs_BadPath, exIs_Unequal, exIs_BadChange, exIs_CanFail, exIs_Keeps, exIs_BadPlaces, exIs_BadKind, exIs_BadLetter, exIs_Idle, exIs_Started, exIs_Uncallable, exIs_Missing, exIs_NotLoaded, exIs_NoStand, exIs_NoPatch, exIs_NoOrder, exIs_NoClass, exIs_NoPlace, exIs_NoOutside, exIs_NoModule, exIs_BadTarget, exIs_TooMany, exIs_BadLine, exIs_PatchedError, exIs_ValueError])
    (a__law_source : PySem.W.nsIn K mainGlobals "_law_source" = some (some (.ref f__law_source)))
    (l__law_source : K.lookup f__law_source = some ⟨oc__law_source, od__law_source, .func (PySem.W.fnOf "_law_source" "_law_source" (defArgs s__law_source) (defBody s__law_source) (defScope s__law_source) .none kV__law_source dc__law_source pm__law_source an__law_source cd__law_source ct__law_source), sl__law_source⟩)
    (c__law_source : PySem.W.codeIn K cd__law_source "_law_source" = true)
    (k__law_source : PySem.W.keepIn K (.ref f__law_source) = true)
    (a__law_draw : PySem.W.nsIn K mainGlobals "_law_draw" = some (some (.ref f__law_draw)))
    (l__law_draw : K.lookup f__law_draw = some ⟨oc__law_draw, od__law_draw, .func (PySem.W.fnOf "_law_draw" "_law_draw" (defArgs s__law_draw) (defBody s__law_draw) (defScope s__law_draw) .none kV__law_draw dc__law_draw pm__law_draw an__law_draw cd__law_draw ct__law_draw), sl__law_draw⟩)
    (c__law_draw : PySem.W.codeIn K cd__law_draw "_law_draw" = true)
    (k__law_draw : PySem.W.keepIn K (.ref f__law_draw) = true)
    (a__law_kinds : PySem.W.nsIn K mainGlobals "_law_kinds" = some (some (.ref f__law_kinds)))
    (l__law_kinds : K.lookup f__law_kinds = some ⟨oc__law_kinds, od__law_kinds, .func (PySem.W.fnOf "_law_kinds" "_law_kinds" (defArgs s__law_kinds) (defBody s__law_kinds) (defScope s__law_kinds) .none kV__law_kinds dc__law_kinds pm__law_kinds an__law_kinds cd__law_kinds ct__law_kinds), sl__law_kinds⟩)
    (c__law_kinds : PySem.W.codeIn K cd__law_kinds "_law_kinds" = true)
    (k__law_kinds : PySem.W.keepIn K (.ref f__law_kinds) = true)
    (a__law_is : PySem.W.nsIn K mainGlobals "_law_is" = some (some (.ref f__law_is)))
    (l__law_is : K.lookup f__law_is = some ⟨oc__law_is, od__law_is, .func (PySem.W.fnOf "_law_is" "_law_is" (defArgs s__law_is) (defBody s__law_is) (defScope s__law_is) .none kV__law_is dc__law_is pm__law_is an__law_is cd__law_is ct__law_is), sl__law_is⟩)
    (c__law_is : PySem.W.codeIn K cd__law_is "_law_is" = true)
    (k__law_is : PySem.W.keepIn K (.ref f__law_is) = true)
    (a__law_raised : PySem.W.nsIn K mainGlobals "_law_raised" = some (some (.ref f__law_raised)))
    (l__law_raised : K.lookup f__law_raised = some ⟨oc__law_raised, od__law_raised, .func (PySem.W.fnOf "_law_raised" "_law_raised" (defArgs s__law_raised) (defBody s__law_raised) (defScope s__law_raised) .none kV__law_raised dc__law_raised pm__law_raised an__law_raised cd__law_raised ct__law_raised), sl__law_raised⟩)
    (c__law_raised : PySem.W.codeIn K cd__law_raised "_law_raised" = true)
    (k__law_raised : PySem.W.keepIn K (.ref f__law_raised) = true)
    (a__law_some : PySem.W.nsIn K mainGlobals "_law_some" = some (some (.ref f__law_some)))
    (l__law_some : K.lookup f__law_some = some ⟨oc__law_some, od__law_some, .func (PySem.W.fnOf "_law_some" "_law_some" (defArgs s__law_some) (defBody s__law_some) (defScope s__law_some) .none kV__law_some dc__law_some pm__law_some an__law_some cd__law_some ct__law_some), sl__law_some⟩)
    (c__law_some : PySem.W.codeIn K cd__law_some "_law_some" = true)
    (k__law_some : PySem.W.keepIn K (.ref f__law_some) = true)
    (a__law_others : PySem.W.nsIn K mainGlobals "_law_others" = some (some (.ref f__law_others)))
    (l__law_others : K.lookup f__law_others = some ⟨oc__law_others, od__law_others, .func (PySem.W.fnOf "_law_others" "_law_others" (defArgs s__law_others) (defBody s__law_others) (defScope s__law_others) .none kV__law_others dc__law_others pm__law_others an__law_others cd__law_others ct__law_others), sl__law_others⟩)
    (c__law_others : PySem.W.codeIn K cd__law_others "_law_others" = true)
    (k__law_others : PySem.W.keepIn K (.ref f__law_others) = true)
    (a_law : PySem.W.nsIn K mainGlobals "law" = some (some (.ref f_law)))
    (l_law : K.lookup f_law = some ⟨oc_law, od_law, .func (PySem.W.fnOf "law" "law" (defArgs s_law) (defBody s_law) (defScope s_law) .none kV_law dc_law pm_law an_law cd_law ct_law), sl_law⟩)
    (c_law : PySem.W.codeIn K cd_law "law" = true)
    (k_law : PySem.W.keepIn K (.ref f_law) = true)
    : ∃ fd : FuncData, (∀ (s : Shared) (v : Value), BindsTo s fd ⟨[v], []⟩ [("_law_script", v)]) ∧ ∀ base : Heap, K.In base → base.Ns mainGlobals mg → FnG l.prog w K mg base (Sm.CX l.prog w) 4 fa fd ["_law_script"] (lawSp K 63) := by
  have z_int := PySem.W.mg_none_of X G z_int
  have z_abs := PySem.W.mg_none_of X G z_abs
  have z_len := PySem.W.mg_none_of X G z_len
  have z_isinstance := PySem.W.mg_none_of X G z_isinstance
  have z_bool := PySem.W.mg_none_of X G z_bool
  have em_Idle_PatchedError : PySem.W.exmOne K (.ref A_Idle) (.ref A_PatchedError) = some true := em_mk ex_PatchedError hd_PatchedError ty_PatchedError su_Idle_PatchedError
  have tt__law_raised_0_PatchedError : TryT K mg "PatchedError" [("Idle", true)] := ⟨⟨A_PatchedError, PySem.W.mg_of X G m_PatchedError⟩, fun C b e => allT_of (t := [("Idle", true)]) (P := fun C b => PySem.W.exmOne K (clsV mg C) (clsV mg "PatchedError") = some b) ⟨by show PySem.W.exmOne K (clsV mg "Idle") (clsV mg "PatchedError") = some true; rw [clsV_mk X G m_Idle, clsV_mk X G m_PatchedError]; exact em_Idle_PatchedError, trivial⟩ C b e⟩
  have ko_Idle_Idle : PySem.W.kitOne K (.ref A_Idle) (.ref A_Idle) = some true := ko_t hd_Idle ty_Idle su_Idle_Idle
  have xi__law_raised_0_Idle : XiT K mg [("Idle", true)] "Idle" [("Idle", true)] := ⟨(.ref A_Idle), .inl ⟨PySem.W.mg_of X G m_Idle, _, rfl⟩, fun C hC b hb => xi_of (tab := [("Idle", true)]) (fun C b => allT_of (t := [("Idle", true)]) (P := fun C b => ([("Idle", true)] : List (Str × Bool)).lookup C = some true → ∃ Ca : Addr, mg C = some (.ref Ca) ∧ L2.ExcC K Ca ∧ PySem.W.kitOne K (.ref Ca) (.ref A_Idle) = some b) ⟨fun _ => ⟨A_Idle, PySem.W.mg_of X G m_Idle, ⟨xg_Idle, xk_Idle, ex_Idle, hd_Idle, xa_Idle, xn, xt, xm_Idle⟩, ko_Idle_Idle⟩, trivial⟩ C b) C hC b hb⟩
  have xf__law_raised_0_name : XfT K mg [("Idle", true)] "name" := fun C hC => allT_of (t := [("Idle", true)]) (P := fun C b => b = true → ∃ Ca : Addr, mg C = some (.ref Ca) ∧ L2.XfC K Ca ∧ PySem.W.findIn K (.ref Ca) "name" = some none) ⟨fun _ => ⟨A_Idle, PySem.W.mg_of X G m_Idle, ⟨xg_Idle, xk_Idle, ex_Idle, hd_Idle⟩, na_Idle_name⟩, trivial⟩ C true hC rfl
  have xv_name : XfT K mg [("NoModule", true), ("NoPatch", true), ("NoStand", true), ("Started", true), ("Idle", true)] "name" := fun C hC => allT_of (t := [("NoModule", true), ("NoPatch", true), ("NoStand", true), ("Started", true), ("Idle", true)]) (P := fun C b => b = true → ∃ Ca : Addr, mg C = some (.ref Ca) ∧ L2.XfC K Ca ∧ PySem.W.findIn K (.ref Ca) "name" = some none) ⟨fun _ => hx_NoModule.xf X G (by decide), fun _ => hx_NoPatch.xf X G (by decide), fun _ => hx_NoStand.xf X G (by decide), fun _ => hx_Started.xf X G (by decide), fun _ => hx_Idle.xf X G (by decide), trivial⟩ C true hC rfl
  have xv_rows : XfT K mg [("NoOrder", true)] "rows" := fun C hC => allT_of (t := [("NoOrder", true)]) (P := fun C b => b = true → ∃ Ca : Addr, mg C = some (.ref Ca) ∧ L2.XfC K Ca ∧ PySem.W.findIn K (.ref Ca) "rows" = some none) ⟨fun _ => hx_NoOrder.xf X G (by decide), trivial⟩ C true hC rfl
  have xv_label : XfT K mg [("NoOutside", true), ("NoClass", true)] "label" := fun C hC => allT_of (t := [("NoOutside", true), ("NoClass", true)]) (P := fun C b => b = true → ∃ Ca : Addr, mg C = some (.ref Ca) ∧ L2.XfC K Ca ∧ PySem.W.findIn K (.ref Ca) "label" = some none) ⟨fun _ => hx_NoOutside.xf X G (by decide), fun _ => hx_NoClass.xf X G (by decide), trivial⟩ C true hC rfl
  have xv_place : XfT K mg [("NoPlace", true)] "place" := fun C hC => allT_of (t := [("NoPlace", true)]) (P := fun C b => b = true → ∃ Ca : Addr, mg C = some (.ref Ca) ∧ L2.XfC K Ca ∧ PySem.W.findIn K (.ref Ca) "place" = some none) ⟨fun _ => hx_NoPlace.xf X G (by decide), trivial⟩ C true hC rfl
  have xv_target : XfT K mg [("BadTarget", true)] "target" := fun C hC => allT_of (t := [("BadTarget", true)]) (P := fun C b => b = true → ∃ Ca : Addr, mg C = some (.ref Ca) ∧ L2.XfC K Ca ∧ PySem.W.findIn K (.ref Ca) "target" = some none) ⟨fun _ => hx_BadTarget.xf X G (by decide), trivial⟩ C true hC rfl
  have xv_path : XfT K mg [("BadPath", true), ("Missing", true), ("Uncallable", true), ("CanFail", true)] "path" := fun C hC => allT_of (t := [("BadPath", true), ("Missing", true), ("Uncallable", true), ("CanFail", true)]) (P := fun C b => b = true → ∃ Ca : Addr, mg C = some (.ref Ca) ∧ L2.XfC K Ca ∧ PySem.W.findIn K (.ref Ca) "path" = some none) ⟨fun _ => hx_BadPath.xf X G (by decide), fun _ => hx_Missing.xf X G (by decide), fun _ => hx_Uncallable.xf X G (by decide), fun _ => hx_CanFail.xf X G (by decide), trivial⟩ C true hC rfl
  have xv_what : XfT K mg [("TooMany", true)] "what" := fun C hC => allT_of (t := [("TooMany", true)]) (P := fun C b => b = true → ∃ Ca : Addr, mg C = some (.ref Ca) ∧ L2.XfC K Ca ∧ PySem.W.findIn K (.ref Ca) "what" = some none) ⟨fun _ => hx_TooMany.xf X G (by decide), trivial⟩ C true hC rfl
  have xv_at : XfT K mg [("BadLine", true), ("NotLoaded", true), ("BadPlaces", true), ("Keeps", true), ("BadChange", true)] "at" := fun C hC => allT_of (t := [("BadLine", true), ("NotLoaded", true), ("BadPlaces", true), ("Keeps", true), ("BadChange", true)]) (P := fun C b => b = true → ∃ Ca : Addr, mg C = some (.ref Ca) ∧ L2.XfC K Ca ∧ PySem.W.findIn K (.ref Ca) "at" = some none) ⟨fun _ => hx_BadLine.xf X G (by decide), fun _ => hx_NotLoaded.xf X G (by decide), fun _ => hx_BadPlaces.xf X G (by decide), fun _ => hx_Keeps.xf X G (by decide), fun _ => hx_BadChange.xf X G (by decide), trivial⟩ C true hC rfl
  have xv_kind : XfT K mg [("BadKind", true)] "kind" := fun C hC => allT_of (t := [("BadKind", true)]) (P := fun C b => b = true → ∃ Ca : Addr, mg C = some (.ref Ca) ∧ L2.XfC K Ca ∧ PySem.W.findIn K (.ref Ca) "kind" = some none) ⟨fun _ => hx_BadKind.xf X G (by decide), trivial⟩ C true hC rfl
  have xv_letter : XfT K mg [("BadLetter", true)] "letter" := fun C hC => allT_of (t := [("BadLetter", true)]) (P := fun C b => b = true → ∃ Ca : Addr, mg C = some (.ref Ca) ∧ L2.XfC K Ca ∧ PySem.W.findIn K (.ref Ca) "letter" = some none) ⟨fun _ => hx_BadLetter.xf X G (by decide), trivial⟩ C true hC rfl
  have z_range := PySem.W.mg_none_of X G z_range
  have z_min := PySem.W.mg_none_of X G z_min
  have z_max := PySem.W.mg_none_of X G z_max
  have xv_first : XfT K mg [("Unequal", true)] "first" := fun C hC => allT_of (t := [("Unequal", true)]) (P := fun C b => b = true → ∃ Ca : Addr, mg C = some (.ref Ca) ∧ L2.XfC K Ca ∧ PySem.W.findIn K (.ref Ca) "first" = some none) ⟨fun _ => hx_Unequal.xf X G (by decide), trivial⟩ C true hC rfl
  have xv_second : XfT K mg [("Unequal", true)] "second" := fun C hC => allT_of (t := [("Unequal", true)]) (P := fun C b => b = true → ∃ Ca : Addr, mg C = some (.ref Ca) ∧ L2.XfC K Ca ∧ PySem.W.findIn K (.ref Ca) "second" = some none) ⟨fun _ => hx_Unequal.xf X G (by decide), trivial⟩ C true hC rfl
  have b_PatchedError : BaseC K mg "PatchedError" := base_mk X G m_PatchedError ga_PatchedError ty_PatchedError rd_PatchedError bi_PatchedError
  have LE_Idle := hx_Idle.loc X G
  have LE_NoStand := hx_NoStand.loc X G
  have LE_NoPatch := hx_NoPatch.loc X G
  have LE_NoOrder := hx_NoOrder.loc X G
  have LE_NoClass := hx_NoClass.loc X G
  have LE_NoPlace := hx_NoPlace.loc X G
  have LE_NoOutside := hx_NoOutside.loc X G
  have LE_NoModule := hx_NoModule.loc X G
  have LE_BadTarget := hx_BadTarget.loc X G
  have LE_BadPath := hx_BadPath.loc X G
  have LE_TooMany := hx_TooMany.loc X G
  have LE_BadLine := hx_BadLine.loc X G
  have LE_BadChange := hx_BadChange.loc X G
  have LE_CanFail := hx_CanFail.loc X G
  have LE_Keeps := hx_Keeps.loc X G
  have LE_BadPlaces := hx_BadPlaces.loc X G
  have LE_BadKind := hx_BadKind.loc X G
  have LE_BadLetter := hx_BadLetter.loc X G
  have LE_Started := hx_Started.loc X G
  have LE_Uncallable := hx_Uncallable.loc X G
  have LE_Missing := hx_Missing.loc X G
  have LE_NotLoaded := hx_NotLoaded.loc X G
  have LE_Unequal := hx_Unequal.loc2 X G
  have AE : AllE (EAt K mg) (Sm.exT exNames [(A_BadLine, bm_BadLine), (A_TooMany, bm_TooMany), (A_BadPath, bm_BadPath), (A_BadTarget, bm_BadTarget), (A_NoModule, bm_NoModule), (A_NoOutside, bm_NoOutside), (A_NoPlace, bm_NoPlace), (A_NoClass, bm_NoClass), (A_NoOrder, bm_NoOrder), (A_NoPatch, bm_NoPatch), (A_NoStand, bm_NoStand), (A_NotLoaded, bm_NotLoaded), (A_Missing, bm_Missing), (A_Uncallable, bm_Uncallable), (A_Started, bm_Started), (A_Idle, bm_Idle), (A_BadLetter, bm_BadLetter), (A_BadKind, bm_BadKind), (A_BadPlaces, bm_BadPlaces), (A_Keeps, bm_Keeps), (A_CanFail, bm_CanFail), (A_BadChange, bm_BadChange), (A_Unequal, bm_Unequal)]) := ⟨hx_BadLine.eat X G, hx_TooMany.eat X G, hx_BadPath.eat X G, hx_BadTarget.eat X G, hx_NoModule.eat X G, hx_NoOutside.eat X G, hx_NoPlace.eat X G, hx_NoClass.eat X G, hx_NoOrder.eat X G, hx_NoPatch.eat X G, hx_NoStand.eat X G, hx_NotLoaded.eat X G, hx_Missing.eat X G, hx_Uncallable.eat X G, hx_Started.eat X G, hx_Idle.eat X G, hx_BadLetter.eat X G, hx_BadKind.eat X G, hx_BadPlaces.eat X G, hx_Keeps.eat X G, hx_CanFail.eat X G, hx_BadChange.eat X G, hx_Unequal.eat X G, trivial⟩
  have xe_all : ExT K mg exAll := ext_mk AE rfl
  have ki_BadPath : KiT K mg "BadPath" exIs_BadPath := hx_BadPath.ki X G AE (congrArg (fun l => l.getD 0 []) kt_all)
  have ki_Unequal : KiT K mg "Unequal" exIs_Unequal := hx_Unequal.ki X G AE (congrArg (fun l => l.getD 1 []) kt_all)
  have ki_BadChange : KiT K mg "BadChange" exIs_BadChange := hx_BadChange.ki X G AE (congrArg (fun l => l.getD 2 []) kt_all)
  have ki_CanFail : KiT K mg "CanFail" exIs_CanFail := hx_CanFail.ki X G AE (congrArg (fun l => l.getD 3 []) kt_all)
  have ki_Keeps : KiT K mg "Keeps" exIs_Keeps := hx_Keeps.ki X G AE (congrArg (fun l => l.getD 4 []) kt_all)
  have ki_BadPlaces : KiT K mg "BadPlaces" exIs_BadPlaces := hx_BadPlaces.ki X G AE (congrArg (fun l => l.getD 5 []) kt_all)
  have ki_BadKind : KiT K mg "BadKind" exIs_BadKind := hx_BadKind.ki X G AE (congrArg (fun l => l.getD 6 []) kt_all)
  have ki_BadLetter : KiT K mg "BadLetter" exIs_BadLetter := hx_BadLetter.ki X G AE (congrArg (fun l => l.getD 7 []) kt_all)
  have ki_Idle : KiT K mg "Idle" exIs_Idle := hx_Idle.ki X G AE (congrArg (fun l => l.getD 8 []) kt_all)
  have ki_Started : KiT K mg "Started" exIs_Started := hx_Started.ki X G AE (congrArg (fun l => l.getD 9 []) kt_all)
  have ki_Uncallable : KiT K mg "Uncallable" exIs_Uncallable := hx_Uncallable.ki X G AE (congrArg (fun l => l.getD 10 []) kt_all)
  have ki_Missing : KiT K mg "Missing" exIs_Missing := hx_Missing.ki X G AE (congrArg (fun l => l.getD 11 []) kt_all)
  have ki_NotLoaded : KiT K mg "NotLoaded" exIs_NotLoaded := hx_NotLoaded.ki X G AE (congrArg (fun l => l.getD 12 []) kt_all)
  have ki_NoStand : KiT K mg "NoStand" exIs_NoStand := hx_NoStand.ki X G AE (congrArg (fun l => l.getD 13 []) kt_all)
  have ki_NoPatch : KiT K mg "NoPatch" exIs_NoPatch := hx_NoPatch.ki X G AE (congrArg (fun l => l.getD 14 []) kt_all)
  have ki_NoOrder : KiT K mg "NoOrder" exIs_NoOrder := hx_NoOrder.ki X G AE (congrArg (fun l => l.getD 15 []) kt_all)
  have ki_NoClass : KiT K mg "NoClass" exIs_NoClass := hx_NoClass.ki X G AE (congrArg (fun l => l.getD 16 []) kt_all)
  have ki_NoPlace : KiT K mg "NoPlace" exIs_NoPlace := hx_NoPlace.ki X G AE (congrArg (fun l => l.getD 17 []) kt_all)
  have ki_NoOutside : KiT K mg "NoOutside" exIs_NoOutside := hx_NoOutside.ki X G AE (congrArg (fun l => l.getD 18 []) kt_all)
  have ki_NoModule : KiT K mg "NoModule" exIs_NoModule := hx_NoModule.ki X G AE (congrArg (fun l => l.getD 19 []) kt_all)
  have ki_BadTarget : KiT K mg "BadTarget" exIs_BadTarget := hx_BadTarget.ki X G AE (congrArg (fun l => l.getD 20 []) kt_all)
  have ki_TooMany : KiT K mg "TooMany" exIs_TooMany := hx_TooMany.ki X G AE (congrArg (fun l => l.getD 21 []) kt_all)
  have ki_BadLine : KiT K mg "BadLine" exIs_BadLine := hx_BadLine.ki X G AE (congrArg (fun l => l.getD 22 []) kt_all)
  have ki_PatchedError : KiT K mg "PatchedError" exIs_PatchedError := kiT_ref X G AE m_PatchedError hd_PatchedError ty_PatchedError (congrArg (fun l => l.getD 23 []) kt_all)
  have ki_ValueError : KiT K mg "ValueError" exIs_ValueError := kiT_ty X G AE zz_ValueError (by decide +kernel) (by decide +kernel) (congrArg (fun l => l.getD 24 []) kt_all)
  have L__law_source : Loc K mg "_law_source" s__law_source ["_law_script", "_law_place"] := loc_mk X G a__law_source l__law_source c__law_source k__law_source (fun _ _ _ _ _ _ us hl => match us, hl with | [_, _], _ => rfl)
  have L__law_draw : Loc K mg "_law_draw" s__law_draw ["_law_s", "_law_many"] := loc_mk X G a__law_draw l__law_draw c__law_draw k__law_draw (fun _ _ _ _ _ _ us hl => match us, hl with | [_, _], _ => rfl)
  have L__law_kinds : Loc K mg "_law_kinds" s__law_kinds ["_law_e"] := loc_mk X G a__law_kinds l__law_kinds c__law_kinds k__law_kinds (fun _ _ _ _ _ _ us hl => match us, hl with | [_], _ => rfl)
  have L__law_is : Loc K mg "_law_is" s__law_is ["_law_e", "_law_name", "_law_field", "_law_value"] := loc_mk X G a__law_is l__law_is c__law_is k__law_is (fun _ _ _ _ _ _ us hl => match us, hl with | [_, _, _, _], _ => rfl)
  have L__law_raised : Loc K mg "_law_raised" s__law_raised ["_law_value"] := loc_mk X G a__law_raised l__law_raised c__law_raised k__law_raised (fun _ _ _ _ _ _ us hl => match us, hl with | [_], _ => rfl)
  have L__law_some : Loc K mg "_law_some" s__law_some ["_law_v"] := loc_mk X G a__law_some l__law_some c__law_some k__law_some (fun _ _ _ _ _ _ us hl => match us, hl with | [_], _ => rfl)
  have L__law_others : Loc K mg "_law_others" s__law_others ["_law_v"] := loc_mk X G a__law_others l__law_others c__law_others k__law_others (fun _ _ _ _ _ _ us hl => match us, hl with | [_], _ => rfl)
  refine law_mk X G hfa a_law l_law c_law k_law (fun _ _ _ _ _ _ _ => rfl) (fun xs h => law_ok h) fun fd F base _ _ => ?_
  have E_Idle_ok := ok_e_Idle (P := l.prog) (w := w) (base := base) LE_Idle b_PatchedError
  have E_NoStand_ok := ok_e_NoStand (P := l.prog) (w := w) (base := base) LE_NoStand b_PatchedError
  have E_NoPatch_ok := ok_e_NoPatch (P := l.prog) (w := w) (base := base) LE_NoPatch b_PatchedError
  have E_NoOrder_ok := ok_e_NoOrder (P := l.prog) (w := w) (base := base) LE_NoOrder b_PatchedError
  have E_NoClass_ok := ok_e_NoClass (P := l.prog) (w := w) (base := base) LE_NoClass b_PatchedError
  have E_NoPlace_ok := ok_e_NoPlace (P := l.prog) (w := w) (base := base) LE_NoPlace b_PatchedError
  have E_NoOutside_ok := ok_e_NoOutside (P := l.prog) (w := w) (base := base) LE_NoOutside b_PatchedError
  have E_NoModule_ok := ok_e_NoModule (P := l.prog) (w := w) (base := base) LE_NoModule b_PatchedError
  have E_BadTarget_ok := ok_e_BadTarget (P := l.prog) (w := w) (base := base) LE_BadTarget b_PatchedError
  have E_BadPath_ok := ok_e_BadPath (P := l.prog) (w := w) (base := base) LE_BadPath b_PatchedError
  have E_TooMany_ok := ok_e_TooMany (P := l.prog) (w := w) (base := base) LE_TooMany b_PatchedError
  have E_BadLine_ok := ok_e_BadLine (P := l.prog) (w := w) (base := base) LE_BadLine b_PatchedError
  have E_BadChange_ok := ok_e_BadChange (P := l.prog) (w := w) (base := base) LE_BadChange b_PatchedError
  have E_CanFail_ok := ok_e_CanFail (P := l.prog) (w := w) (base := base) LE_CanFail b_PatchedError
  have E_Keeps_ok := ok_e_Keeps (P := l.prog) (w := w) (base := base) LE_Keeps b_PatchedError
  have E_BadPlaces_ok := ok_e_BadPlaces (P := l.prog) (w := w) (base := base) LE_BadPlaces b_PatchedError
  have E_BadKind_ok := ok_e_BadKind (P := l.prog) (w := w) (base := base) LE_BadKind b_PatchedError
  have E_BadLetter_ok := ok_e_BadLetter (P := l.prog) (w := w) (base := base) LE_BadLetter b_PatchedError
  have E_Started_ok := ok_e_Started (P := l.prog) (w := w) (base := base) LE_Started b_PatchedError
  have E_Uncallable_ok := ok_e_Uncallable (P := l.prog) (w := w) (base := base) LE_Uncallable b_PatchedError
  have E_Missing_ok := ok_e_Missing (P := l.prog) (w := w) (base := base) LE_Missing b_PatchedError
  have E_NotLoaded_ok := ok_e_NotLoaded (P := l.prog) (w := w) (base := base) LE_NotLoaded b_PatchedError
  have E_Unequal_ok := ok_e_Unequal (P := l.prog) (w := w) (base := base) LE_Unequal b_PatchedError
  have C__law_source_ok := ok__law_source (P := l.prog) (w := w) (base := base) L__law_source z_int z_abs z_len
  have C__law_draw_ok := ok__law_draw (P := l.prog) (w := w) (base := base) L__law_draw z_int
  have C__law_kinds_ok := ok__law_kinds (P := l.prog) (w := w) (base := base) L__law_kinds z_isinstance xe_all ki_BadPath ki_Unequal ki_BadChange ki_CanFail ki_Keeps ki_BadPlaces ki_BadKind ki_BadLetter ki_Idle ki_Started ki_Uncallable ki_Missing ki_NotLoaded ki_NoStand ki_NoPatch ki_NoOrder ki_NoClass ki_NoPlace ki_NoOutside ki_NoModule ki_BadTarget ki_TooMany ki_BadLine
  have C__law_is_ok := ok__law_is (P := l.prog) (w := w) (base := base) L__law_is z_bool z_isinstance xe_all ki_PatchedError ki_ValueError C__law_kinds_ok
  have C__law_raised_ok := ok__law_raised (P := l.prog) (w := w) (base := base) L__law_raised tt__law_raised_0_PatchedError z_isinstance xi__law_raised_0_Idle xf__law_raised_0_name E_Idle_ok
  have C__law_some_ok := ok__law_some (P := l.prog) (w := w) (base := base) L__law_some xv_name xv_rows xv_label xv_place xv_target xv_path xv_what xv_at E_NoStand_ok E_NoPatch_ok E_NoOrder_ok E_NoClass_ok E_NoPlace_ok E_NoOutside_ok E_NoModule_ok E_BadTarget_ok E_BadPath_ok E_TooMany_ok E_BadLine_ok
  have C__law_others_ok := ok__law_others (P := l.prog) (w := w) (base := base) L__law_others xv_at xv_path xv_kind xv_letter xv_name E_BadChange_ok E_CanFail_ok E_Keeps_ok E_BadPlaces_ok E_BadKind_ok E_BadLetter_ok E_Idle_ok E_Started_ok E_Uncallable_ok E_Missing_ok E_NotLoaded_ok
  exact ok_law F z_range z_len z_min z_max xv_first xv_second C__law_is_ok C__law_raised_ok E_Unequal_ok C__law_some_ok C__law_others_ok C__law_draw_ok C__law_source_ok
end K16
open PySem PySem.W PyProof.Rows
set_option maxHeartbeats 0 in
theorem PySem.Challenge.cw_patchedplaces_k16_errors_holds : PySem.Challenge.rw_patchedplaces_k16_errors.Holds := by
  refine HdX.top ?_
  k_fill
  refine Sm.walk_ofG (l := PySem.Challenge.rw_patchedplaces_k16_errors) (n := 63) (k := 4) (x := "_law_script") (CX := fun w => Sm.CX PySem.Challenge.rw_patchedplaces_k16_errors.prog w) (sp := fun w => Sm.lawSp _ 63) rfl (by decide) rfl ⟨⟨rfl, by decide, by decide⟩, rfl⟩ (fun w h Y => PySem.W.kIn_of Y) ?F (fun _ _ a xs hl hS => ⟨a, xs, rfl, hl, hS, fun _ => rfl⟩) (fun _ _ _ _ _ h => by obtain ⟨_, _, _, _, _, _, z⟩ := h; exact z.e)
  case F =>
    intro w mg fa h KX G hmg
    refine' K16.all_mk KX G hmg ?z_int ?z_abs ?z_len ?z_isinstance ?z_bool ?m_PatchedError ?m_Idle ?ex_PatchedError ?hd_PatchedError ?ty_PatchedError ?su_Idle_PatchedError ?xg_Idle ?xk_Idle ?ex_Idle ?hd_Idle ?xa_Idle ?xn ?xt ?xm_Idle ?ty_Idle ?su_Idle_Idle ?na_Idle_name ?hx_NoModule ?hx_NoPatch ?hx_NoStand ?hx_Started ?hx_Idle ?hx_NoOrder ?hx_NoOutside ?hx_NoClass ?hx_NoPlace ?hx_BadTarget ?hx_BadPath ?hx_Missing ?hx_Uncallable ?hx_CanFail ?hx_TooMany ?hx_BadLine ?hx_NotLoaded ?hx_BadPlaces ?hx_Keeps ?hx_BadChange ?hx_BadKind ?hx_BadLetter ?z_range ?z_min ?z_max ?hx_Unequal ?rd_PatchedError ?ga_PatchedError ?bi_PatchedError ?zz_ValueError ?kt_all ?a__law_source ?l__law_source ?c__law_source ?k__law_source ?a__law_draw ?l__law_draw ?c__law_draw ?k__law_draw ?a__law_kinds ?l__law_kinds ?c__law_kinds ?k__law_kinds ?a__law_is ?l__law_is ?c__law_is ?k__law_is ?a__law_raised ?l__law_raised ?c__law_raised ?k__law_raised ?a__law_some ?l__law_some ?c__law_some ?k__law_some ?a__law_others ?l__law_others ?c__law_others ?k__law_others ?a_law ?l_law ?c_law ?k_law
    (case z_int => k_is)
    (case z_abs => k_is)
    (case z_len => k_is)
    (case z_isinstance => k_is)
    (case z_bool => k_is)
    (case m_PatchedError => k_is)
    (case m_Idle => k_is)
    (case ex_PatchedError => k_is)
    (case hd_PatchedError => k_is)
    (case ty_PatchedError => k_is)
    (case su_Idle_PatchedError => k_is)
    (case xg_Idle => k_is)
    (case xk_Idle => k_is)
    (case ex_Idle => k_is)
    (case hd_Idle => k_is)
    (case xa_Idle => k_is)
    (case xn => k_is)
    (case xt => k_is)
    (case xm_Idle => k_is)
    (case ty_Idle => k_is)
    (case su_Idle_Idle => k_is)
    (case na_Idle_name => k_is)
    (case hx_NoModule => exact Sm.epack_mk (by k_is) (by k_is) (by decide +kernel) (by k_is) (by k_is) (by k_is) (by k_is) (List.forall_mem_cons.mpr ⟨by k_is, fun _ z => nomatch z⟩) (by k_is) (by k_is) (by k_is) (by k_is) (by k_is) (by k_is) (by k_is) (by k_is) (by k_is) (by k_is) (by k_is) (by k_is) (fun _ _ _ _ _ _ us hl => match us, hl with | [_, _], _ => rfl))
    (case hx_NoPatch => exact Sm.epack_mk (by k_is) (by k_is) (by decide +kernel) (by k_is) (by k_is) (by k_is) (by k_is) (List.forall_mem_cons.mpr ⟨by k_is, fun _ z => nomatch z⟩) (by k_is) (by k_is) (by k_is) (by k_is) (by k_is) (by k_is) (by k_is) (by k_is) (by k_is) (by k_is) (by k_is) (by k_is) (fun _ _ _ _ _ _ us hl => match us, hl with | [_, _], _ => rfl))
    (case hx_NoStand => exact Sm.epack_mk (by k_is) (by k_is) (by decide +kernel) (by k_is) (by k_is) (by k_is) (by k_is) (List.forall_mem_cons.mpr ⟨by k_is, fun _ z => nomatch z⟩) (by k_is) (by k_is) (by k_is) (by k_is) (by k_is) (by k_is) (by k_is) (by k_is) (by k_is) (by k_is) (by k_is) (by k_is) (fun _ _ _ _ _ _ us hl => match us, hl with | [_, _], _ => rfl))
    (case hx_Started => exact Sm.epack_mk (by k_is) (by k_is) (by decide +kernel) (by k_is) (by k_is) (by k_is) (by k_is) (List.forall_mem_cons.mpr ⟨by k_is, fun _ z => nomatch z⟩) (by k_is) (by k_is) (by k_is) (by k_is) (by k_is) (by k_is) (by k_is) (by k_is) (by k_is) (by k_is) (by k_is) (by k_is) (fun _ _ _ _ _ _ us hl => match us, hl with | [_, _], _ => rfl))
    (case hx_Idle => exact Sm.epack_mk (by k_is) (by k_is) (by decide +kernel) (by k_is) (by k_is) (by k_is) (by k_is) (List.forall_mem_cons.mpr ⟨by k_is, fun _ z => nomatch z⟩) (by k_is) (by k_is) (by k_is) (by k_is) (by k_is) (by k_is) (by k_is) (by k_is) (by k_is) (by k_is) (by k_is) (by k_is) (fun _ _ _ _ _ _ us hl => match us, hl with | [_, _], _ => rfl))
    (case hx_NoOrder => exact Sm.epack_mk (by k_is) (by k_is) (by decide +kernel) (by k_is) (by k_is) (by k_is) (by k_is) (List.forall_mem_cons.mpr ⟨by k_is, fun _ z => nomatch z⟩) (by k_is) (by k_is) (by k_is) (by k_is) (by k_is) (by k_is) (by k_is) (by k_is) (by k_is) (by k_is) (by k_is) (by k_is) (fun _ _ _ _ _ _ us hl => match us, hl with | [_, _], _ => rfl))
    (case hx_NoOutside => exact Sm.epack_mk (by k_is) (by k_is) (by decide +kernel) (by k_is) (by k_is) (by k_is) (by k_is) (List.forall_mem_cons.mpr ⟨by k_is, fun _ z => nomatch z⟩) (by k_is) (by k_is) (by k_is) (by k_is) (by k_is) (by k_is) (by k_is) (by k_is) (by k_is) (by k_is) (by k_is) (by k_is) (fun _ _ _ _ _ _ us hl => match us, hl with | [_, _], _ => rfl))
    (case hx_NoClass => exact Sm.epack_mk (by k_is) (by k_is) (by decide +kernel) (by k_is) (by k_is) (by k_is) (by k_is) (List.forall_mem_cons.mpr ⟨by k_is, fun _ z => nomatch z⟩) (by k_is) (by k_is) (by k_is) (by k_is) (by k_is) (by k_is) (by k_is) (by k_is) (by k_is) (by k_is) (by k_is) (by k_is) (fun _ _ _ _ _ _ us hl => match us, hl with | [_, _], _ => rfl))
    (case hx_NoPlace => exact Sm.epack_mk (by k_is) (by k_is) (by decide +kernel) (by k_is) (by k_is) (by k_is) (by k_is) (List.forall_mem_cons.mpr ⟨by k_is, fun _ z => nomatch z⟩) (by k_is) (by k_is) (by k_is) (by k_is) (by k_is) (by k_is) (by k_is) (by k_is) (by k_is) (by k_is) (by k_is) (by k_is) (fun _ _ _ _ _ _ us hl => match us, hl with | [_, _], _ => rfl))
    (case hx_BadTarget => exact Sm.epack_mk (by k_is) (by k_is) (by decide +kernel) (by k_is) (by k_is) (by k_is) (by k_is) (List.forall_mem_cons.mpr ⟨by k_is, fun _ z => nomatch z⟩) (by k_is) (by k_is) (by k_is) (by k_is) (by k_is) (by k_is) (by k_is) (by k_is) (by k_is) (by k_is) (by k_is) (by k_is) (fun _ _ _ _ _ _ us hl => match us, hl with | [_, _], _ => rfl))
    (case hx_BadPath => exact Sm.epack_mk (by k_is) (by k_is) (by decide +kernel) (by k_is) (by k_is) (by k_is) (by k_is) (List.forall_mem_cons.mpr ⟨by k_is, fun _ z => nomatch z⟩) (by k_is) (by k_is) (by k_is) (by k_is) (by k_is) (by k_is) (by k_is) (by k_is) (by k_is) (by k_is) (by k_is) (by k_is) (fun _ _ _ _ _ _ us hl => match us, hl with | [_, _], _ => rfl))
    (case hx_Missing => exact Sm.epack_mk (by k_is) (by k_is) (by decide +kernel) (by k_is) (by k_is) (by k_is) (by k_is) (List.forall_mem_cons.mpr ⟨by k_is, fun _ z => nomatch z⟩) (by k_is) (by k_is) (by k_is) (by k_is) (by k_is) (by k_is) (by k_is) (by k_is) (by k_is) (by k_is) (by k_is) (by k_is) (fun _ _ _ _ _ _ us hl => match us, hl with | [_, _], _ => rfl))
    (case hx_Uncallable => exact Sm.epack_mk (by k_is) (by k_is) (by decide +kernel) (by k_is) (by k_is) (by k_is) (by k_is) (List.forall_mem_cons.mpr ⟨by k_is, fun _ z => nomatch z⟩) (by k_is) (by k_is) (by k_is) (by k_is) (by k_is) (by k_is) (by k_is) (by k_is) (by k_is) (by k_is) (by k_is) (by k_is) (fun _ _ _ _ _ _ us hl => match us, hl with | [_, _], _ => rfl))
    (case hx_CanFail => exact Sm.epack_mk (by k_is) (by k_is) (by decide +kernel) (by k_is) (by k_is) (by k_is) (by k_is) (List.forall_mem_cons.mpr ⟨by k_is, fun _ z => nomatch z⟩) (by k_is) (by k_is) (by k_is) (by k_is) (by k_is) (by k_is) (by k_is) (by k_is) (by k_is) (by k_is) (by k_is) (by k_is) (fun _ _ _ _ _ _ us hl => match us, hl with | [_, _], _ => rfl))
    (case hx_TooMany => exact Sm.epack_mk (by k_is) (by k_is) (by decide +kernel) (by k_is) (by k_is) (by k_is) (by k_is) (List.forall_mem_cons.mpr ⟨by k_is, fun _ z => nomatch z⟩) (by k_is) (by k_is) (by k_is) (by k_is) (by k_is) (by k_is) (by k_is) (by k_is) (by k_is) (by k_is) (by k_is) (by k_is) (fun _ _ _ _ _ _ us hl => match us, hl with | [_, _], _ => rfl))
    (case hx_BadLine => exact Sm.epack_mk (by k_is) (by k_is) (by decide +kernel) (by k_is) (by k_is) (by k_is) (by k_is) (List.forall_mem_cons.mpr ⟨by k_is, fun _ z => nomatch z⟩) (by k_is) (by k_is) (by k_is) (by k_is) (by k_is) (by k_is) (by k_is) (by k_is) (by k_is) (by k_is) (by k_is) (by k_is) (fun _ _ _ _ _ _ us hl => match us, hl with | [_, _], _ => rfl))
    (case hx_NotLoaded => exact Sm.epack_mk (by k_is) (by k_is) (by decide +kernel) (by k_is) (by k_is) (by k_is) (by k_is) (List.forall_mem_cons.mpr ⟨by k_is, fun _ z => nomatch z⟩) (by k_is) (by k_is) (by k_is) (by k_is) (by k_is) (by k_is) (by k_is) (by k_is) (by k_is) (by k_is) (by k_is) (by k_is) (fun _ _ _ _ _ _ us hl => match us, hl with | [_, _], _ => rfl))
    (case hx_BadPlaces => exact Sm.epack_mk (by k_is) (by k_is) (by decide +kernel) (by k_is) (by k_is) (by k_is) (by k_is) (List.forall_mem_cons.mpr ⟨by k_is, fun _ z => nomatch z⟩) (by k_is) (by k_is) (by k_is) (by k_is) (by k_is) (by k_is) (by k_is) (by k_is) (by k_is) (by k_is) (by k_is) (by k_is) (fun _ _ _ _ _ _ us hl => match us, hl with | [_, _], _ => rfl))
    (case hx_Keeps => exact Sm.epack_mk (by k_is) (by k_is) (by decide +kernel) (by k_is) (by k_is) (by k_is) (by k_is) (List.forall_mem_cons.mpr ⟨by k_is, fun _ z => nomatch z⟩) (by k_is) (by k_is) (by k_is) (by k_is) (by k_is) (by k_is) (by k_is) (by k_is) (by k_is) (by k_is) (by k_is) (by k_is) (fun _ _ _ _ _ _ us hl => match us, hl with | [_, _], _ => rfl))
    (case hx_BadChange => exact Sm.epack_mk (by k_is) (by k_is) (by decide +kernel) (by k_is) (by k_is) (by k_is) (by k_is) (List.forall_mem_cons.mpr ⟨by k_is, fun _ z => nomatch z⟩) (by k_is) (by k_is) (by k_is) (by k_is) (by k_is) (by k_is) (by k_is) (by k_is) (by k_is) (by k_is) (by k_is) (by k_is) (fun _ _ _ _ _ _ us hl => match us, hl with | [_, _], _ => rfl))
    (case hx_BadKind => exact Sm.epack_mk (by k_is) (by k_is) (by decide +kernel) (by k_is) (by k_is) (by k_is) (by k_is) (List.forall_mem_cons.mpr ⟨by k_is, fun _ z => nomatch z⟩) (by k_is) (by k_is) (by k_is) (by k_is) (by k_is) (by k_is) (by k_is) (by k_is) (by k_is) (by k_is) (by k_is) (by k_is) (fun _ _ _ _ _ _ us hl => match us, hl with | [_, _], _ => rfl))
    (case hx_BadLetter => exact Sm.epack_mk (by k_is) (by k_is) (by decide +kernel) (by k_is) (by k_is) (by k_is) (by k_is) (List.forall_mem_cons.mpr ⟨by k_is, fun _ z => nomatch z⟩) (by k_is) (by k_is) (by k_is) (by k_is) (by k_is) (by k_is) (by k_is) (by k_is) (by k_is) (by k_is) (by k_is) (by k_is) (fun _ _ _ _ _ _ us hl => match us, hl with | [_, _], _ => rfl))
    (case z_range => k_is)
    (case z_min => k_is)
    (case z_max => k_is)
    (case hx_Unequal => exact Sm.epack_mk (by k_is) (by k_is) (by decide +kernel) (by k_is) (by k_is) (by k_is) (by k_is) (List.forall_mem_cons.mpr ⟨by k_is, List.forall_mem_cons.mpr ⟨by k_is, fun _ z => nomatch z⟩⟩) (by k_is) (by k_is) (by k_is) (by k_is) (by k_is) (by k_is) (by k_is) (by k_is) (by k_is) (by k_is) (by k_is) (by k_is) (fun _ _ _ _ _ _ us hl => match us, hl with | [_, _, _], _ => rfl))
    (case rd_PatchedError => k_is)
    (case ga_PatchedError => k_is)
    (case bi_PatchedError => k_is)
    (case zz_ValueError => k_is)
    (case kt_all => decide +kernel)
    (case a__law_source => k_is)
    (case l__law_source => k_is)
    (case c__law_source => k_is)
    (case k__law_source => k_is)
    (case a__law_draw => k_is)
    (case l__law_draw => k_is)
    (case c__law_draw => k_is)
    (case k__law_draw => k_is)
    (case a__law_kinds => k_is)
    (case l__law_kinds => k_is)
    (case c__law_kinds => k_is)
    (case k__law_kinds => k_is)
    (case a__law_is => k_is)
    (case l__law_is => k_is)
    (case c__law_is => k_is)
    (case k__law_is => k_is)
    (case a__law_raised => k_is)
    (case l__law_raised => k_is)
    (case c__law_raised => k_is)
    (case k__law_raised => k_is)
    (case a__law_some => k_is)
    (case l__law_some => k_is)
    (case c__law_some => k_is)
    (case k__law_some => k_is)
    (case a__law_others => k_is)
    (case l__law_others => k_is)
    (case c__law_others => k_is)
    (case k__law_others => k_is)
    (case a_law => k_is)
    (case l_law => k_is)
    (case c_law => k_is)
    (case k_law => k_is)
