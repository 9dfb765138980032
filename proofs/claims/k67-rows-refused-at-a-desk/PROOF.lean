import PyProof.Rows.All
import Wide.All
import OpenK.AllK
import Wide.FinOn
import HandS.ForMost
import HandS.Exc
import HandS.ExcOwn
import HandS.TryOnly
import HandS.ExcCtx
import HandS.Hot
import HandS.HotCalls
import HandS.SuiteRaise
import HandS.ExcIs
import HandS.IsInst
import HandS.Deep
import HandS.TupSets
import HandS.More
import HandS.Wide
import HandS.Zip
import HandS.Evl
import KE.KStateDown
import HandS.Head0
import HandS.Head1
import HandS.Head2
import HandS.HeadEnd
import HandS.HeadHook1
import HandS.HeadHook2
import HandS.HeadHook3
import KE.GoesRaise
import KE.GoesEnum
import PySem.Challenge.RW_onecurve_k67_rows_refused_at_a_desk
set_option Elab.async false
set_option linter.all false
set_option maxRecDepth 100000
set_option maxHeartbeats 4000000
/-! Own rules: exceptions whose context is none, or an exception whose context is none. -/
namespace K3
open PySem PySem.Spec PyProof.Rows L2 HotX

/-- the context member of an exception's record is c -/
def CtxIs (c : Value) (o : Obj) : Prop := ∀ vs : Array Value, o.data = .fields vs → vs[2]? = some c
theorem CtxIs.steady {c : Value} : PXN.Steady1 (CtxIs c) := fun o v h => by
  obtain ⟨oc, od, dt, sl⟩ := o
  cases dt with
  | fields vs0 =>
    intro vs e
    obtain rfl : vs0.setIfInBounds 1 v = vs := Data.fields.inj e
    have z := h vs0 rfl
    rw [← z]
    first
    | exact Array.getElem?_setIfInBounds_ne (by decide)
    | simp [Array.getElem?_setIfInBounds]
  | _ =>
    intro vs e
    first
    | exact Data.noConfusion e
    | cases e
def Zq (cls : Value) (d : Option Addr) (c : Value) : Obj → Prop := fun o => o.cls = cls ∧ o.dict = d ∧ CtxIs c o
theorem Zq.steady {cls : Value} {d : Option Addr} {c : Value} : PXN.Steady1 (Zq cls d c) :=
  fun o v h => ⟨PXN.steady_cls o v h.1, PXN.steady_dict o v h.2.1, CtxIs.steady o v h.2.2⟩
theorem Zq.zc {cls : Value} {d : Option Addr} {c : Value} {o : Obj} (h : Zq cls d c o) : Zc cls d o := ⟨h.1, h.2.1⟩
/-- a record whose own context is none -/
def Last (a : Addr) (B : Heap) : Prop := ∃ (o : Obj) (vs : Array Value), B.get? a = some o ∧ o.data = .fields vs ∧ vs[2]? = some .none
/-- the chain behind an exception ends: at once, or behind one more -/
def Chn (L : Bool) (c : Value) (H : Hp) (B : Heap) : Prop := c = .none ∨ (L = true ∧ ∃ a, c = .ref a ∧ Last a B ∧ H a = none)
theorem Chn.stay {L : Bool} {c : Value} {H : Hp} {B B' : Heap} (x : Chn L c H B) (k : ∀ b o vs, B.get? b = some o → o.data = .fields vs → B'.get? b = some o) : Chn L c H B' := by
  rcases x with x | ⟨l, a, e, ⟨o, vs, e1, e2, e3⟩, n⟩
  · exact .inl x
  · exact .inr ⟨l, a, e, ⟨o, vs, k a o vs e1 e2, e2, e3⟩, n⟩

/-- an exception in the air of X; sI: the state without it -/
def XE (L : Bool) (X : Cx) (W : WX) (u : Value) (s' : Shared) : Prop :=
  ∃ (a : Addr) (B : Heap) (sI : Shared) (pins : List (Addr × Obj)) (σ : L2.St) (H : Hp) (cls : Value) (d : Option Addr) (c : Value),
    u = .ref a ∧ Inv X pins σ H sI ∧ (∀ b o, sI.heap.get? b = some o → b ∉ frs X.stack → B.get? b = some o) ∧ sI.heap.UpToSlots s'.heap ∧
      Sky B X.stack a (Zq cls d c) X.env.locals s'.heap ∧ H a = none ∧ Chn L c H B ∧ s'.os = sI.os ∧ AllBare s'.gens ∧ W cls d σ H
def Takes (L : Bool) (X : Cx) (W : WX) : Prop := ∀ u s', XE L X W u s' → X.xe u s'
theorem Takes.imp {L : Bool} {X : Cx} {W W' : WX} (t : Takes L X W) (h : ∀ c d σ H, W' c d σ H → W c d σ H) : Takes L X W' := by
  rintro u s' ⟨a, B, sI, pins, σ, H, cls, d, c, e, I, nb, up, sky, na, ch, os, ag, w⟩
  exact t u s' ⟨a, B, sI, pins, σ, H, cls, d, c, e, I, nb, up, sky, na, ch, os, ag, h _ _ _ _ w⟩
/-- behind a call that let an exception out -/
def CX (L : Bool) (P : Program) (w : World) (outer : List Env) (H : Hp) (s : Shared) (E : XK) (u : Value) (s' : Shared) : Prop :=
  ∃ (a : Addr) (B : Heap) (H' : Hp) (cls : Value) (d : Option Addr) (c : Value), u = .ref a ∧ HandSPX.FlyingZ B outer a (Zq cls d c) s'.heap ∧ HOk P w H' B ∧
    UB (frs outer) H H' s.heap B s'.heap ∧ H' a = none ∧ Chn L c H' B ∧ s'.os = s.os ∧ AllBare s'.gens ∧ E cls d H'

section
variable {L : Bool} {X : Cx} {pins : List (Addr × Obj)} {σ : L2.St} {H : Hp} {sI s s' : Shared} {B : Heap} {W : WX} {E : XK}
/-- the state behind the call, with the exception's own objects left out -/
theorem ground_of {H' : Hp} (I : Inv X pins σ H s) (st : B.StaysIn s'.heap) (hok : HOk X.prog X.w H' B) (ub : UB (frs X.stack) H H' s.heap B s'.heap) (ag : AllBare s'.gens) :
    ∃ sI : Shared, Inv X pins σ H' sI ∧ (∀ b o, sI.heap.get? b = some o → b ∉ frs X.stack → B.get? b = some o) ∧ sI.heap.UpToSlots s'.heap ∧ sI.os = s.os := by
  obtain ⟨G, g1, g2⟩ := restrict s'.heap fun b => (B.get? b).isSome || decide (b ∈ frs X.stack)
  have inB : ∀ b o, B.get? b = some o → G.get? b = some o := fun b o e => (g1 b (by simp [e])).trans (st b o e)
  have inF : ∀ b, b ∈ frs X.stack → G.get? b = s'.heap.get? b := fun b hb => g1 b (by simp [hb])
  have out : ∀ b o, G.get? b = some o → s'.heap.get? b = some o ∧ ((B.get? b).isSome = true ∨ b ∈ frs X.stack) := fun b o e => by
    cases q : ((B.get? b).isSome || decide (b ∈ frs X.stack)) with
    | true => exact ⟨(g1 b q).symm.trans e, by simpa [Bool.or_eq_true] using q⟩
    | false =>
      rw [g2 b q] at e
      cases e
  refine ⟨{ s with heap := G, gens := s'.gens, drawn := s'.drawn, toks := s'.toks }, ?_, fun b o e hb => ?_, Heap.UpToSlots.of_keeps fun b o e => (out b o e).1, rfl⟩
  · refine I.call (ch := []) ⟨fun b o e n hb _ => inB b o (ub.keep b o e n hb), fun b o e _ hb _ => ?_, fun b o e n _ => ub.free b o e n, fun b o e _ => ?_, ub.tups, ub.frzs, ub.tbls⟩ (hok.kept inB) ag (fun _ z => nomatch z)
    · obtain ⟨sl, q⟩ := ub.slot b o e hb
      exact ⟨sl, (inF b hb).trans q⟩
    · by_cases hb : b ∈ frs X.stack
      · obtain ⟨sl, q⟩ := ub.slot b o e hb
        exact ⟨_, (inF b hb).trans q⟩
      · obtain ⟨o', q⟩ := ub.there b o e hb
        exact ⟨o', inB b o' q⟩
  · obtain ⟨e1, h⟩ := out b o e
    rcases h with h | h
    · obtain ⟨o', q⟩ := Option.isSome_iff_exists.mp h
      have z := (st b o' q).symm.trans e1
      rw [q, z]
    · exact absurd h hb
theorem XE.of_call (I : Inv X pins σ H s) (hW : ∀ cls d H', E cls d H' → W cls d σ H') {u : Value} (c : CX L X.prog X.w X.stack H s E u s') : XE L X W u s' := by
  obtain ⟨a, B, H', cls, d, c, rfl, fl, hok, ub, na, ch, os, ag, hE⟩ := c
  obtain ⟨sI, J, nb, up, eo⟩ := ground_of I fl.1 hok ub ag
  exact ⟨a, B, sI, pins, σ, H', cls, d, c, rfl, J, nb, up, .inr (.inl fl), na, ch, os.trans eo.symm, ag, hW _ _ _ hE⟩
theorem XE.new {a : Addr} {oe : Obj} {vs : Array Value} {cls : Value} {d : Option Addr} {c : Value} (I : Inv X pins σ H sI) (k : ∀ b o, sI.heap.get? b = some o → s'.heap.get? b = some o) (hne : sI.heap.get? a = none) (he : s'.heap.get? a = some oe)
    (hz : Zq cls d c oe) (hd : oe.data = .fields vs) (h1 : vs[1]? = some .none) (na : H a = none) (ch : Chn L c H sI.heap) (os : s'.os = sI.os) (ag : AllBare s'.gens) (w : W cls d σ H) : XE L X W (.ref a) s' := by
  have low : ∀ b o, (PySem.W.hideAll sI.heap (frs X.stack)).get? b = some o → sI.heap.get? b = some o := fun b o e => PySem.W.of_hideAll _ e
  refine ⟨a, PySem.W.hideAll sI.heap (frs X.stack), sI, pins, σ, H, cls, d, c, rfl, I, fun b o e hb => PySem.W.hideAll_get _ e hb, Heap.UpToSlots.of_keeps k,
    .inl ⟨fun b o e => k b o (low b o e), ?_, ?_, oe, vs, he, hz, hd, h1⟩, na, ch.stay fun b o vs e dd => PySem.W.hideAll_get _ e fun hm => ?_, os, ag, w⟩
  · cases q : (PySem.W.hideAll sI.heap (frs X.stack)).get? a with
    | none => rfl
    | some o =>
      have z := low a o q
      rw [hne] at z
      cases z
  · exact Heap.FunFrames.of_keeps (fun b o e _ => ⟨o, k b o e, rfl⟩) (funFrames_none I.stack fun b hb => PySem.W.hideAll_none _ hb)
  · obtain ⟨_, o', e', hnf⟩ := I.stack.mem hm
    rw [e] at e'
    cases e'
    exact hnf vs dd
theorem XE.leave (hs : X.stack = X.env :: X.outer) (hf : X.env.frame = some X.env.locals) (hex : X.ex = []) {E₁ : Value → Shared → Prop} (hW : ∀ cls d σ H, W cls d σ H → E cls d H) {u : Value} (x : XE L X W u s') :
    wpAny (model X.prog X.w) X.A (leaving X.env u) (fun _ s'' => CX L X.prog X.w X.outer X.H_0 X.s_0 E u s'') E₁ s' := by
  obtain ⟨a, B, sI, pins, σ, H, cls, d, c, rfl, I, nb, up, sky, na, ch, os, ag, w⟩ := x
  have hfr : X.A.frames = some (X.env :: X.outer) := I.ok.frames.trans (by rw [hs])
  have ne : ∀ b, b ∉ X.ex := fun b hb => by
    rw [hex] at hb
    cases hb
  have nst : ∀ b o, X.s_0.heap.get? b = some o → b ∉ X.fs → b ∉ frs X.stack := fun b o e hb hm => by
    rcases List.mem_cons.mp (I.stkSub b hm) with z | z
    · exact absurd (Nat.lt_of_lt_of_le (Heap.lt_size e) (by rw [z]; exact I.ok.above)) (Nat.lt_irrefl _)
    · exact hb z
  have fin : ∀ h', HandSPX.FlyingZ B X.outer a (Zq cls d c) h' → s'.heap.UpToSlots h' → CX L X.prog X.w X.outer X.H_0 X.s_0 E (.ref a) { s' with heap := h' } := fun h' fl up' => by
    refine ⟨a, B, H, cls, d, c, rfl, fl, I.inGround nb, ⟨fun b o e n hb => nb b o (I.base.keep b o e n hb (ne b)) (nst b o e hb), fun b o e hb => ?_, fun b o e n => I.base.free b o e n (ne b), fun b o e hb => ?_, I.base.tups, I.base.frzs, I.base.tbls⟩,
      na, ch, os.trans I.os, ag, hW _ _ _ _ w⟩
    · obtain ⟨_, o₀, e₀, hnf⟩ := I.ok.funs.mem hb
      rw [e] at e₀
      cases e₀
      obtain ⟨sl, e1⟩ := I.base.slot b o e (I.ok.frf b hb) hb (ne b)
      obtain ⟨sl2, e2⟩ := up b _ e1 hnf
      obtain ⟨sl3, e3⟩ := up' b _ e2 hnf
      exact ⟨sl3, e3⟩
    · obtain ⟨o', e1⟩ := I.base.there b o e (ne b)
      exact ⟨o', nb b o' e1 (nst b o e hb)⟩
  rw [hs] at sky
  rcases sky with ⟨hB, hn, hl, oe, vs, he, hz, hd, h1⟩ | fl | hd
  · exact PXN.leaving_firstZ Zq.steady hfr hl hf he hB hn hd h1 hz fin
  · exact PXN.leaves_onZ Zq.steady hfr hf fl fin
  · exact HandSPX.leaves_heldZ hf hd fin
/-- a def's wish about what it lets out -/
theorem takes_of (hs : X.stack = X.env :: X.outer) (hf : X.env.frame = some X.env.locals) (hex : X.ex = []) {E₁ : Value → Shared → Prop}
    (hx : X.xe = fun e s' => wpAny (model X.prog X.w) X.A (leaving X.env e) (fun _ s'' => CX L X.prog X.w X.outer X.H_0 X.s_0 E e s'') E₁ s') : Takes L X (fun cls d _ H => E cls d H) := fun u s' x => by
  rw [hx]
  exact XE.leave (W := fun cls d _ H => E cls d H) (E := E) hs hf hex (fun _ _ _ _ h => h) x
end
theorem passAt {L : Bool} {X : Cx} {W : WX} (tk : Takes L X W) (σ : L2.St) : PassesAt (CX L X.prog X.w) X σ (WE W σ) := fun _ _ _ e s' I c => tk e s' (XE.of_call I (fun _ _ _ h => h) c)
theorem passNo {L : Bool} {X : Cx} (σ : L2.St) : PassesAt (CX L X.prog X.w) X σ E0 := fun _ _ _ _ _ _ c => by
  obtain ⟨_, _, _, _, _, _, _, _, _, _, _, _, _, _, z⟩ := c
  exact z.elim
theorem takes0 {L : Bool} {X : Cx} : Takes L X (fun _ _ _ _ => False) := fun _ _ x => by
  obtain ⟨_, _, _, _, _, _, _, _, _, _, _, _, _, _, _, _, _, _, z⟩ := x
  exact z.elim
/-- raise C('..') where nothing is handled -/
theorem ps_raise {L : Bool} {X : Cx} {W : WX} {e : Expr} {t : L2.St → Hp → XK → Prop} {pos : Pos} (hc : X.calm = true) (tk : Takes L X W) (he : L2N.PMk X e t) : PS X (.Raise (some e) none pos) (fun _ σ H => t σ H fun cls d H' => W cls d σ H') := by
  refine ⟨fun pins s σ H D I h => ?_⟩
  show wpAny _ _ (do standAt pos; raiseStmt X.env (some (do let v ← eval e X.env; standAt pos; pure v)) none) _ _ _
  refine wpAny_bind (wpAny_standAt (raise_made (I.ok.hd hc) (wpAny_bind (thn (he pins s σ H _ I h) fun u s1 hu => wpAny_bind (wpAny_standAt (wpAny_pure ?_))))))
  obtain ⟨a, oe, vs, sI, H', cls, d, rfl, J, k, hne, ha, hz, hd, h1, na, os, ag, r, q⟩ := hu
  obtain ⟨r1, r2⟩ := r (model X.prog X.w) s1.heap (J.kIn.keeps k)
  exact ⟨a, oe, vs, cls, rfl, ha, hz.1, hd, h1, r1, r2, tk _ _ (XE.new (c := .none) J k hne ha ⟨hz.1, hz.2.1, hz.2.2⟩ hd h1 na (.inl rfl) os ag q)⟩
end K3
/-! what is raised and iterated while an exception is handled whose chain is short -/
namespace K3
open PySem PySem.Spec PyProof.Rows L2 HotX

/-- the handled exception x1 and what stands behind it -/
def HotAt (A : Around) (x1 : Addr) (h : Heap) : Prop :=
  A.handled = some (.ref x1) ∧ ∃ (o : Obj) (vs : Array Value), h.get? x1 = some o ∧ o.data = .fields vs ∧ (vs[2]? = some .none ∨ ∃ x2, vs[2]? = some (.ref x2) ∧ Last x2 h)
theorem HotAt.keeps {A : Around} {x1 : Addr} {h h' : Heap} (x : HotAt A x1 h) (k : ∀ b o vs, h.get? b = some o → o.data = .fields vs → vs[2]? ≠ none → (b = x1 ∨ ∃ y, A.handled = some (.ref y) ∧ Last b h) → h'.get? b = some o) : HotAt A x1 h' := by
  obtain ⟨hh, o, vs, e, d, c⟩ := x
  refine ⟨hh, o, vs, k x1 o vs e d (by rcases c with c | ⟨_, c, _⟩ <;> rw [c] <;> simp) (.inl rfl), d, ?_⟩
  rcases c with c | ⟨x2, c, o2, vs2, e2, d2, c2⟩
  · exact .inl c
  · exact .inr ⟨x2, c, o2, vs2, k x2 o2 vs2 e2 d2 (by rw [c2]; simp) (.inr ⟨x1, hh, o2, vs2, e2, d2, c2⟩), d2, c2⟩
theorem HotAt.all {A : Around} {x1 : Addr} {h h' : Heap} (x : HotAt A x1 h) (k : ∀ b o, h.get? b = some o → h'.get? b = some o) : HotAt A x1 h' := x.keeps fun b o _ e _ _ _ => k b o e
theorem HotAt.but {A : Around} {x1 it : Addr} {h h' : Heap} {oi : Obj} {vi : Array Value} (x : HotAt A x1 h) (hi : h.get? it = some oi) (di : oi.data = .fields vi) (si : vi[2]? = none) (k : ∀ b o, b ≠ it → h.get? b = some o → h'.get? b = some o) : HotAt A x1 h' :=
  x.keeps fun b o vs e d n _ => k b o (fun z => by
    rw [z, hi] at e
    cases e
    rw [di] at d
    cases d
    exact n si) e
section
variable {prog : Program} {w : World} {A : Around} {E : Value → Shared → Prop} {s : Shared}
theorem unchain1 {A : Around} {a x1 x2 : Addr} {b : Bool} {sl : Value} {R : Result → Shared → Prop} (h2 : Last x2 s.heap) (q : R (.ok (.ret .none)) s) :
    codeAny (model prog w) A (.builtin "proto.unchain" ⟨[.ref a, .ref x2, sl, .bool b], []⟩) R s := by
  obtain ⟨o, vs, e, d, c⟩ := h2
  refine codeAny_builtin HotX.entry_unchain ?_
  show wpAny _ _ (field (.ref x2) 2 >>= _) _ _ s
  refine wpAny_bind (wpAny_field e d c ?_)
  rw [if_pos (show (Value.none == Value.none) = true from rfl)]
  first
  | exact wpAny_bind (wpAny_pure (wpAny_pure q))
  | exact wpAny_pure q
/-- a new exception, made while one is handled -/
theorem raiseNew_hot {α : Type} {a x1 : Addr} {oe : Obj} {vs : Array Value} {Q : α → Shared → Prop} {h0 : Heap} (hot : HotAt A x1 h0) (k : ∀ b o, h0.get? b = some o → s.heap.get? b = some o) (hna : h0.get? a = none) (ha : s.heap.get? a = some oe) (da : oe.data = .fields vs) (hi : 2 < vs.size)
    (hE : E (.ref a) { s with heap := s.heap.update a (Obj.mapFields (·.setIfInBounds 2 (.ref x1))) }) : wpAny (model prog w) A (raiseNew (.ref a) : Sem α) Q E s := by
  have hne : x1 ≠ a := fun z => by
    obtain ⟨_, o, vs, e, _⟩ := hot
    rw [z, hna] at e
    cases e
  have hot1 := hot.all k
  have hh := hot.1
  have un : ∀ {Q : Value → Shared → Prop}, Q .none s → wpAny (model prog w) A (runValue (.builtin "proto.unchain" ⟨[.ref a, .ref x1, .ref x1, .bool false], []⟩)) Q E s := fun {Q} q => by
    obtain ⟨_, o, vs0, e, d, c⟩ := hot
    rcases c with c | ⟨x2, c, o2, v2, e2, d2, c2⟩
    · exact wpAny_runValue (unchain1 (x1 := x1) ⟨o, vs0, k _ _ e, d, c⟩ q)
    · refine wpAny_runValue (codeAny_builtin HotX.entry_unchain ?_)
      show wpAny _ _ (field (.ref x1) 2 >>= _) _ _ s
      refine wpAny_bind (wpAny_field (k _ _ e) d c ?_)
      rw [if_neg (show ¬ ((Value.ref x2 == Value.none) = true) from by simp)]
      have n1 : x2 ≠ a := fun z => by
        rw [z, hna] at e2
        cases e2
      have n2 : x2 ≠ x1 := fun z => by
        rw [z, e] at e2
        cases e2
        rw [d] at d2
        cases d2
        rw [c] at c2
        cases c2
      have b1 : ¬ ((Value.ref x2 == Value.ref a) = true) := fun z => n1 (Value.ref.inj (beq_iff_eq.mp z))
      have b2 : ¬ ((Value.ref x2 == Value.ref x1) = true) := fun z => n2 (Value.ref.inj (beq_iff_eq.mp z))
      have l2 : Last x2 s.heap := ⟨o2, v2, k _ _ e2, d2, c2⟩
      first
      | (rw [if_neg b1, if_neg b2]
         refine wpAny_bind (wpAny_pure ?_)
         exact wpAny_pure ⟨Code.quiet_builtin _ (by decide +kernel), unchain1 (x1 := x1) l2 q⟩)
      | (refine wpAny_bind (wpAny_pure ?_)
         rw [if_neg b1]
         refine wpAny_bind (wpAny_pure ?_)
         rw [if_neg b2]
         refine wpAny_bind (wpAny_pure ?_)
         refine wpAny_bind (wpAny_pure ?_)
         exact wpAny_pure ⟨Code.quiet_builtin _ (by decide +kernel), unchain1 (x1 := x1) l2 q⟩)
  unfold raiseNew
  refine wpAny_bind (wpAny_handled ?_)
  rw [hh]
  have hb : (Value.ref x1 != Value.ref a) = true := ref_bne hne
  first
  | (show wpAny _ _ (if (Value.ref x1 != Value.ref a) = true then _ else _) _ _ _
     rw [if_pos hb]
     first
     | exact wpAny_bind (wpAny_holding (un (wpAny_bind (chained ha da hi (wpAny_throw hE)))))
     | exact wpAny_bind (wpAny_bind (wpAny_holding (un (chained ha da hi (wpAny_throw hE))))))
  | (refine wpAny_bind ?_
     show wpAny _ _ (if (Value.ref x1 != Value.ref a) = true then _ else _) _ _ _
     rw [if_pos hb]
     exact wpAny_bind (wpAny_holding (un (chained ha da hi (wpAny_throw hE)))))
/-- what stands behind a refused next -/
theorem ext_hot {it : Addr} {h : Heap} {f : Obj → Obj} {T S : Obj} {g : Obj → Obj} : Heap.ExtBut it h ((((h.update it f).push T).push S).update ((h.update it f).push T).objs.size g) := by
  intro b o' hb e
  have up : (h.update it f).get? b = some o' := (Heap.get?_update_other _ _ (Ne.symm hb)).trans e
  have ne : ((h.update it f).push T).objs.size ≠ b := by
    rw [Heap.size_push]
    exact Nat.ne_of_gt (Nat.lt_succ_of_lt (Heap.lt_size up))
  exact (Heap.get?_update_other _ _ ne).trans (Heap.get?_push_of_some _ (Heap.get?_push_of_some _ up))
theorem fresh_hot {it : Addr} {h : Heap} {f : Obj → Obj} {T : Obj} : (h.update it f).get? ((h.update it f).push T).objs.size = none := Heap.get?_none_of_le (by rw [Heap.size_push]; exact Nat.le_succ _)
theorem next_list_end_hot {it l x1 : Addr} {i : Nat} {items : Array Value} {Q : Option Value → Shared → Prop} (hot : HotAt A x1 s.heap) (hit : s.heap.IsListIter it l i) (hl : s.heap.IsList l items) (hx : items[i]? = none)
    (hQ : ∀ h', Heap.ExtBut it s.heap h' → Q none { s with heap := h' }) : wpAny (model prog w) A (pyNext (.ref it)) Q E s := by
  obtain ⟨o, ho, hc, hd⟩ := id hit
  obtain ⟨ol, hol, _, nl, hdl⟩ := hl
  unfold pyNext
  refine wpAny_bind (wpAny_attempt (wpAny_callSpecial?_slot (name := Str.ofString "__next__") hit.typeIs PySem.slot_listiter_next
    (wpAny_call_entry PySem.slot_listiter_next hit.typeIs PySem.entry_listiter_next ?_ (PySem.args_listiter_next _))))
  show wpAny _ _ (field (.ref it) 0 >>= _) _ _ s
  refine wpAny_bind (wpAny_field ho hd (x := .ref l) rfl ?_)
  show wpAny _ _ (if (Value.ref l == Value.none) = true then _ else _) _ _ s
  rw [if_neg (show ¬ ((Value.ref l == Value.none) = true) from Bool.false_ne_true)]
  show wpAny _ _ (field (.ref it) 1 >>= _) _ _ s
  refine wpAny_bind (wpAny_field ho hd (x := .int i 0) rfl ?_)
  show wpAny _ _ (seqItems? (.ref l) >>= _) _ _ s
  refine wpAny_bind (wpAny_seqItems hol hdl ?_)
  simp only [Int.toNat_natCast, hx]
  refine wpAny_bind (wpAny_rule (wpAny_bind (wpAny_setField ho hd (by simp) ?_)))
  show wpAny _ _ (newExc (.type "StopIteration") [] >>= _) _ _ _
  refine wpAny_bind ?_
  simp only [newExc, newTuple]
  refine wpAny_bind (wpAny_newObj_type ?_ (by size_fits))
  refine wpAny_bind (m := firstArgMember _ _) (wpAny_of_eq (a := Value.none) (by first | rfl | (simp only [firstArgMember]; rfl)) ?_)
  refine wpAny_newObj_type ?_ (by size_fits)
  refine raiseNew_hot (x1 := x1) (HotAt.but (A := A) (x1 := x1) (h := s.heap) (it := it) (h' := s.heap.update it _) hot ho hd (by rfl) fun b o hb e => (Heap.get?_update_other _ _ (Ne.symm hb)).trans e) (fun b o e => Heap.get?_push_of_some _ (Heap.get?_push_of_some _ e)) fresh_hot (Heap.get?_push_size _ rfl) rfl (by first | (simp; done) | (simp only [Array.size_append]; simp; omega)) ?_
  refine wpAny_bind (wpAny_isInstance (T := "StopIteration") (b := true) ⟨_, Heap.get?_update_self _ (Heap.get?_push_size _ rfl) rfl, rfl⟩ isSubtype_stop ?_)
  exact wpAny_pure (hQ _ ext_hot)
theorem next_tuple_end_hot {it t x1 : Addr} {i : Nat} {items : Array Value} {Q : Option Value → Shared → Prop} (hot : HotAt A x1 s.heap) (hit : IsTupIter s.heap it t i) (ht : IsTup s.heap t items) (hx : items[i]? = none)
    (hQ : ∀ h', Heap.ExtBut it s.heap h' → Q none { s with heap := h' }) : wpAny (model prog w) A (pyNext (.ref it)) Q E s := by
  obtain ⟨o, ho, hc, hd⟩ := id hit
  obtain ⟨ol, hol, _, nl, hdl⟩ := ht
  unfold pyNext
  refine wpAny_bind (wpAny_attempt (wpAny_callSpecial?_slot (name := Str.ofString "__next__") hit.typeIs slot_tupleiter_next
    (wpAny_call_entry slot_tupleiter_next hit.typeIs entry_tupleiter_next ?_ (args_tupleiter_next _))))
  show wpAny _ _ (field (.ref it) 0 >>= _) _ _ s
  refine wpAny_bind (wpAny_field ho hd (x := .ref t) rfl ?_)
  show wpAny _ _ (if (Value.ref t == Value.none) = true then _ else _) _ _ s
  rw [if_neg (show ¬ ((Value.ref t == Value.none) = true) from Bool.false_ne_true)]
  show wpAny _ _ (field (.ref it) 1 >>= _) _ _ s
  refine wpAny_bind (wpAny_field ho hd (x := .int i 0) rfl ?_)
  show wpAny _ _ (seqItems? (.ref t) >>= _) _ _ s
  refine wpAny_bind (wpAny_seqItems hol hdl ?_)
  simp only [Int.toNat_natCast, hx]
  refine wpAny_bind (wpAny_rule (wpAny_bind (wpAny_setField ho hd (by simp) ?_)))
  show wpAny _ _ (newExc (.type "StopIteration") [] >>= _) _ _ _
  refine wpAny_bind ?_
  simp only [newExc, newTuple]
  refine wpAny_bind (wpAny_newObj_type ?_ (by size_fits))
  refine wpAny_bind (m := firstArgMember _ _) (wpAny_of_eq (a := Value.none) (by first | rfl | (simp only [firstArgMember]; rfl)) ?_)
  refine wpAny_newObj_type ?_ (by size_fits)
  refine raiseNew_hot (x1 := x1) (HotAt.but (A := A) (x1 := x1) (h := s.heap) (it := it) (h' := s.heap.update it _) hot ho hd (by rfl) fun b o hb e => (Heap.get?_update_other _ _ (Ne.symm hb)).trans e) (fun b o e => Heap.get?_push_of_some _ (Heap.get?_push_of_some _ e)) fresh_hot (Heap.get?_push_size _ rfl) rfl (by first | (simp; done) | (simp only [Array.size_append]; simp; omega)) ?_
  refine wpAny_bind (wpAny_isInstance (T := "StopIteration") (b := true) ⟨_, Heap.get?_update_self _ (Heap.get?_push_size _ rfl) rfl, rfl⟩ isSubtype_stop ?_)
  exact wpAny_pure (hQ _ ext_hot)
theorem unpackItems_hot {t x1 : Addr} {items : Array Value} {Q : List Value → Shared → Prop} (hot : HotAt A x1 s.heap) (ht : IsTup s.heap t items)
    (hQ : ∀ h', Heap.ExtBut s.heap.objs.size s.heap h' → Q items.toList { s with heap := h' }) : wpAny (model prog w) A (unpackItems (.ref t) items.size none) Q E s := by
  have hlt : t ≠ s.heap.objs.size := by
    obtain ⟨o, ho, _⟩ := ht
    exact Nat.ne_of_lt (Heap.lt_size ho)
  unfold unpackItems
  refine wpAny_bind ?_
  unfold notIterableAtAll
  refine wpAny_bind (wpAny_specialOf ht.typeIs slot_tuple_iter.lookup (wpAny_pure ?_))
  simp only [Bool.false_eq_true, if_false]
  refine wpAny_bind (wpAny_holding (iter_tuple ht ?_))
  refine wpAny_bind (wpAny_holding (draw_tuple hlt items.size 0 _ _ ⟨_, Heap.get?_push_size _ rfl, rfl, rfl⟩ (ht.push _) (by omega) fun h₁ hit₁ hs₁ => ?_))
  have hall : List.take items.size (List.drop 0 items.toList) = items.toList := by
    rw [List.drop_zero]
    exact List.take_of_length_le (by simp)
  rw [hall, if_neg (by simp)]
  have ht₁ : IsTup h₁ t items := (ht.push _).extBut hs₁.extBut hlt
  have hot₁ : HotAt A x1 h₁ := hot.keeps fun b o vs e _ _ _ => (hs₁.2 b (Nat.ne_of_lt (Heap.lt_size e))).trans (Heap.get?_push_of_some _ e)
  refine wpAny_bind (wpAny_holding (next_tuple_end_hot hot₁ hit₁ ht₁ (by simp) fun h₂ he₂ => ?_))
  simp only [Option.isSome_none, Bool.false_eq_true, if_false]
  exact wpAny_pure (hQ h₂ fun b o hb e => he₂ b o hb (hs₁.extBut b o hb (Heap.get?_push_of_some _ e)))
theorem assign_tuple_hot {env : Env} {elts : List Expr} {k1} {pos : Pos} {t x1 : Addr} {items : Array Value} {Q : Unit → Shared → Prop} (hot : HotAt A x1 s.heap) (ht : IsTup s.heap t items)
    (hn : (assignEach elts env).length = items.size) (hstar : (assignEach elts env).findIdx? (·.1) = none)
    (h : ∀ h', Heap.ExtBut s.heap.objs.size s.heap h' → wpAny (model prog w) A (assignInOrder ((assignEach elts env).map (·.2)) items.toList) Q E { s with heap := h' }) :
    wpAny (model prog w) A (assign (.Tuple elts k1 pos) env (.ref t)) Q E s := by
  rw [assign_Tuple]
  refine wpAny_bind (wpAny_standAt ?_)
  unfold unpack
  rw [hn, hstar]
  exact wpAny_bind (wpAny_holding (unpackItems_hot hot ht h))
end
end K3
/-! contexts that bear a handled exception with its chain; list comprehensions that may raise, or that run while one is handled -/
namespace K3
open PySem PySem.Spec PyProof.Rows L2 HotX

/-- the pins bear the handled exception and what stands behind it -/
def HotC (X : Cx) : Prop := ∃ p ∈ X.pn, X.A.handled = some (.ref p.1) ∧ ∃ vs : Array Value, p.2.data = .fields vs ∧
  (vs[2]? = some .none ∨ ∃ p2 ∈ X.pn, vs[2]? = some (.ref p2.1) ∧ ∃ vs2 : Array Value, p2.2.data = .fields vs2 ∧ vs2[2]? = some .none)
theorem HotC.at {X : Cx} {pins : List (Addr × Obj)} {σ : L2.St} {H : Hp} {s : Shared} (c : HotC X) (I : Inv X pins σ H s) : ∃ x1, HotAt X.A x1 s.heap := by
  obtain ⟨p, hp, hh, vs, d, c⟩ := c
  refine ⟨p.1, hh, p.2, vs, (I.pin p (List.mem_append_left _ hp)).1, d, ?_⟩
  rcases c with c | ⟨p2, hp2, c, vs2, d2, c2⟩
  · exact .inl c
  · exact .inr ⟨p2.1, c, p2.2, vs2, (I.pin p2 (List.mem_append_left _ hp2)).1, d2, c2⟩

/-- an iterator's turns, where G holds of the context -/
structure TurnG (G : Cx → Prop) (P : Program) (w : World) (K : PySem.W.Frag) (tg : Expr) (J : It) (fp : List Addr) (it : Addr) (tn : Nat → Heap → Prop) : Prop where
  obj : ∀ i h, tn i h → ∀ b ∈ fp, ∃ o, h.get? b = some o ∧ ∀ v, o.data ≠ .cell v
  keep : ∀ i h h', tn i h → (∀ b ∈ fp, ∀ o, h.get? b = some o → h'.get? b = some o) → tn i h'
  item : ∀ (X : Cx), X.prog = P → X.w = w → X.K = K → G X → ∀ (i : Nat) (pins : List (Addr × Obj)) (s : Shared) (σ : L2.St) (H : Hp) (E : Value → Shared → Prop), Inv X pins σ H s → (∀ b ∈ fp, FpOk X pins H b) → tn i s.heap → J.go i H →
    wpAny (model P w) X.A (pyNext (.ref it)) (fun r s1 => ∃ u, r = some u ∧
      wpAny (model P w) X.A (letOwnedTupleGo tg (.ref it) u) (fun _ s2 => ∃ x H', Inv X pins σ H' s2 ∧ RelV x u ∧ J.yld i H x H' ∧ tn (i + 1) s2.heap ∧ ∀ b ∈ fp, H' b = none) E s1) E s
  done : ∀ (X : Cx), X.prog = P → X.w = w → X.K = K → G X → ∀ (i : Nat) (pins : List (Addr × Obj)) (s : Shared) (σ : L2.St) (H : Hp) (E : Value → Shared → Prop), Inv X pins σ H s → (∀ b ∈ fp, FpOk X pins H b) → tn i s.heap → J.stop i H →
    wpAny (model P w) X.A (pyNext (.ref it)) (fun r s1 => r = none ∧ Inv X pins σ H s1) E s
  self : ∀ (A : Around) (i : Nat) (s : Shared) (Q : Value → Shared → Prop) (E : Value → Shared → Prop), tn i s.heap → Q (.ref it) s → wpAny (model P w) A (pyIter (.ref it)) Q E s
abbrev Calm (X : Cx) : Prop := X.calm = true
theorem TurnG.of {P : Program} {w : World} {K : PySem.W.Frag} {tg : Expr} {J : It} {fp : List Addr} {it : Addr} {tn : Nat → Heap → Prop} (T : Turn P w K tg J fp it tn) : TurnG Calm P w K tg J fp it tn :=
  ⟨T.obj, T.keep, T.item, T.done, T.self⟩
def PIEG (G : Cx → Prop) (X : Cx) (pins : List (Addr × Obj)) (σ : L2.St) (tg : Expr) (R : It → Hp → Prop) (itv : Value) (s2 : Shared) : Prop :=
  ∃ (it : Addr) (fp : List Addr) (tn : Nat → Heap → Prop) (J : It) (H' : Hp), itv = .ref it ∧ Inv X pins σ H' s2 ∧ TurnG G X.prog X.w X.K tg J fp it tn ∧ tn 0 s2.heap ∧ (∀ b ∈ fp, FpOk X pins H' b) ∧ R J H'
structure PIG (G : Cx → Prop) (X : Cx) (tg iter : Expr) (wi : TI) : Prop where
  run : ∀ (pins : List (Addr × Obj)) (s : Shared) (σ : L2.St) (H : Hp) (R : It → Hp → Prop), Inv X pins σ H s → wi σ H R →
    wpAny (model X.prog X.w) X.A (eval iter X.env) (fun v s1 => wpAny (model X.prog X.w) X.A (pyIter v) (PIEG G X pins σ tg R) X.xe s1) X.xe s
theorem pig_of {X : Cx} {tg iter : Expr} {wi : TI} (h : PI X tg iter wi) : PIG Calm X tg iter wi :=
  ⟨fun pins s σ H R I hw => thn (h.run pins s σ H R I hw) fun _ _ q => thn q fun _ _ ⟨it, fp, tn, J, H', e, I', T, st, f, r⟩ => ⟨it, fp, tn, J, H', e, I', .of T, st, f, r⟩⟩
/-- a list walked while an exception is handled -/
theorem turn_list_hot {P : Program} {w : World} {K : PySem.W.Frag} {tg : Expr} (a it : Addr) : TurnG HotC P w K tg (Itl K a) [it] it (fun i h => h.IsListIter it a i) where
  obj := (turn_list (P := P) (w := w) (K := K) (tg := tg) a it).obj
  keep := (turn_list (P := P) (w := w) (K := K) (tg := tg) a it).keep
  item := by
    intro X hP hw hK hc i pins s σ H E I hf st hg
    subst hP hw hK
    obtain ⟨xs, x, hq, hx⟩ := hg
    obtain ⟨its, rv, p, hz⟩ := I.list hq
    obtain ⟨u, hu, ru⟩ := rv.get hx
    obtain ⟨f0, f1, f2, f3, f4, f5⟩ := hf it (by simp)
    refine wpAny_pyNext_list_item st p.isList (x := u) (by simpa using hu) fun h' st' sb => ?_
    have I1 : Inv X pins σ H { s with heap := h' } := I.turned (t' := s.toks) (fun b o hb e => (sb.2 b hb).trans e) f0 f1 f3 f4 f5
    obtain ⟨o, e, c, d⟩ := id st'
    exact ⟨u, rfl, go_of (s := { s with heap := h' }) e c d (by decide) ⟨x, H, I1, ru, ⟨rfl, fun ys hy => by rw [I.list_inj hy hq]; exact hx⟩, st', fun b hb => (hf b hb).1⟩⟩
  done := by
    intro X hP hw hK hc i pins s σ H E I hf st hg
    subst hP hw hK
    obtain ⟨xs, hq, hx⟩ := hg
    obtain ⟨its, rv, p, hz⟩ := I.list hq
    obtain ⟨f0, f1, f2, f3, f4, f5⟩ := hf it (by simp)
    obtain ⟨x1, hot⟩ := hc.at I
    have hl := rv.length
    exact next_list_end_hot hot st p.isList (by simp; omega) fun h' eb => ⟨rfl, I.turned (t' := s.toks) (fun b o hb e => eb b o hb e) f0 f1 f3 f4 f5⟩
  self := (turn_list (P := P) (w := w) (K := K) (tg := tg) a it).self
theorem pig_list_hot {X : Cx} {tg l : Expr} {tl : TE} (hl : PE X l tl) : PIG HotC X tg l (iList X.K tl) := by
  refine ⟨fun pins s σ H R I h => ?_⟩
  refine thn (hl.run pins s σ H _ I h) fun v s1 ⟨x, H1, I1, r1, q1⟩ => ?_
  obtain ⟨a, e, ⟨xs, hq⟩, q⟩ := q1
  subst e
  cases r1
  obtain ⟨its, rv, p, hz⟩ := I1.list hq
  refine wpAny_pyIter_list p.isList ?_
  refine ⟨s1.heap.objs.size, [s1.heap.objs.size], _, _, H1, rfl, I1.kept (t' := s1.toks) fun b o e => Heap.get?_push_of_some _ e, turn_list_hot a _, ⟨_, Heap.get?_push_size _ rfl, rfl, rfl⟩, fun b hb => ?_, q⟩
  obtain rfl : b = s1.heap.objs.size := by simpa using hb
  exact I1.fpOk (Nat.le_refl _) (I1.hok.fresh (Nat.le_refl _))
/-- (a, b) = a tuple of two, while an exception is handled -/
theorem pg_tup_hot {X : Cx} {pos : Pos} {es : List Expr} {k : Nat} {t : TGs} {n : Nat} (hc : HotC X) (h : PGs X es t)
    (hn : (assignEach es X.env).length = n := by rfl) (hst : (assignEach es X.env).findIdx? (·.1) = none := by rfl) : PG X (.Tuple es k pos) (gTup X.K n t) := by
  refine ⟨fun pins s σ H v u Q I r hw => ?_⟩
  obtain ⟨a, xs, rfl, hq, hl, hw⟩ := hw
  cases r
  obtain ⟨its, rv, ht, hz⟩ := I.tuple hq
  obtain ⟨x1, hot⟩ := hc.at I
  refine assign_tuple_hot hot ht (by simp [hn, ← hl, rv.length]) hst fun h' hx => ?_
  have I1 : Inv X pins σ H { s with heap := h' } := I.kept (t' := s.toks) fun b o e => hx b o (Nat.ne_of_lt (Heap.lt_size e)) e
  exact h.run pins _ σ H xs _ Q I1 (by simpa using rv) hw

/-! ### what flies out of a block -/
def XF (L : Bool) (X : Cx) (E : XK) (u : Value) (s' : Shared) : Prop :=
  ∃ (a : Addr) (B : Heap) (sI : Shared) (pins : List (Addr × Obj)) (σ : L2.St) (H : Hp) (cls : Value) (d : Option Addr) (c : Value),
    u = .ref a ∧ Inv X pins σ H sI ∧ (∀ b o, sI.heap.get? b = some o → b ∉ frs X.stack → B.get? b = some o) ∧ sI.heap.UpToSlots s'.heap ∧
      HandSPX.FlyingZ B X.stack a (Zq cls d c) s'.heap ∧ H a = none ∧ Chn L c H B ∧ s'.os = sI.os ∧ AllBare s'.gens ∧ E cls d H
abbrev blkN (X : Cx) (s : Shared) (H : Hp) (scope : Scope) (cenv : Env) (fp : List Addr) : Cx := { X.blk s H scope cenv fp with pn := X.pn }
abbrev blkW (L : Bool) (X : Cx) (s : Shared) (H : Hp) (scope : Scope) (cenv : Env) (fp : List Addr) (E : XK) : Cx := { X.blk s H scope cenv fp with pn := X.pn, xe := XF L (blkN X s H scope cenv fp) E }
theorem blk_ok {X : Cx} {s : Shared} {H : Hp} {scope : Scope} {cenv : Env} {fp : List Addr} {pn pn' : List (Addr × Obj)} {xe xe' : Value → Shared → Prop} (ok : Cx.Ok { X.blk s H scope cenv fp with pn := pn, xe := xe }) : Cx.Ok { X.blk s H scope cenv fp with pn := pn', xe := xe' } :=
  ⟨ok.mod, ok.kind, ok.glob, ok.blt, ok.above, ok.inj, ok.has, ok.cab, ok.hd, ok.frames, ok.stk, ok.exf, ok.bs, ok.bsz, ok.noex, ok.exfs, ok.funs, ok.frf⟩
theorem blk_inv {X : Cx} {s s' : Shared} {H H' : Hp} {scope : Scope} {cenv : Env} {fp : List Addr} {pn pn' pins pins' : List (Addr × Obj)} {xe xe' : Value → Shared → Prop} {σ : L2.St} (I : Inv { X.blk s H scope cenv fp with pn := pn, xe := xe } pins σ H' s')
    (hp : ∀ p ∈ pn' ++ pins', s'.heap.get? p.1 = some p.2 ∧ H' p.1 = none ∧ p.1 ≠ cenv.locals ∧ p.1 ∉ frs X.stack ∧ ∀ v, p.2.data ≠ .cell v) : Inv { X.blk s H scope cenv fp with pn := pn', xe := xe' } pins' σ H' s' :=
  ⟨blk_ok I.ok, I.os, I.bare, I.base, I.loc, I.cell, I.free, I.freeC, hp, I.hok, I.len⟩
theorem passBlk {L : Bool} {X : Cx} {s : Shared} {H : Hp} {scope : Scope} {cenv : Env} {fp : List Addr} {E : XK} (σ : L2.St) : PassesAt (CX L X.prog X.w) (blkW L X s H scope cenv fp E) σ E := by
  intro pins H1 s1 e s' I c
  obtain ⟨a, B, H', cls, d, c, rfl, fl, hok, ub, na, ch, os, ag, hE⟩ := c
  have I0 : Inv (blkN X s H scope cenv fp) pins σ H1 s1 := blk_inv I I.pin
  obtain ⟨sI, J, nb, up, eo⟩ := ground_of I0 fl.1 hok ub ag
  exact ⟨a, B, sI, pins, σ, H', cls, d, c, rfl, J, nb, up, fl, na, ch, os.trans eo.symm, ag, hE⟩
end K3
namespace K3
open PySem PySem.Spec PyProof.Rows L2 HotX
section
variable {L : Bool} {X : Cx} {pins : List (Addr × Obj)} {σ : L2.St}
theorem blk_fails {s3 s' : Shared} {H3 : Hp} {scope : Scope} {ce : Env} {fp : List Addr} {W : WX} {E : XK} {u : Value}
    (hs : X.stack = X.env :: X.outer) (hf : X.env.frame = some X.env.locals) (hcf : ce.frame = X.env.frame) (cL : ce.locals = s3.heap.objs.size)
    (I3 : Inv X pins σ H3 s3) (f3 : ∀ b ∈ fp, FpOk X pins H3 b) (tk : Takes L X W) (hW : ∀ cls d H', E cls d H' → W cls d σ H')
    (x : XF L (blkN X s3 H3 scope ce fp) E u s') : notedBy (model X.prog X.w) X.A ce (CompFails (model X.prog X.w) X.A X.xe ce) u s' := by
  obtain ⟨a, B, sI, pins', σ', H', cls, d, c, rfl, J, nb, up, fl, na, ch, os, ag, w⟩ := x
  have hfr : X.A.frames = some (X.env :: X.outer) := by rw [← hs]; exact J.ok.frames
  have fl' : HandSPX.FlyingZ B (X.env :: X.outer) a (Zq cls d c) s'.heap := by rw [← hs]; exact fl
  obtain ⟨m, hn, _⟩ := id J.loc
  have hn0 : sI.heap.Ns ce.locals m := hn
  have fC : H' ce.locals = none := J.free
  show wpAny _ _ (noteFrame (.ref a) ce) _ _ s'
  rw [noteFrame_env _ hcf]
  refine PXN.looks_onZ Zq.steady hfr hf fl' fun h1 hh1 up1 => ?_
  have hn1 : h1.Ns ce.locals m := Heap.Ns.upToSlots (Heap.Ns.upToSlots hn0 up) up1
  refine ⟨m, hn1, fun h2 m2 hn2 sb => ?_⟩
  have nC : ∀ b o, b ≠ ce.locals → h1.get? b = some o → h2.get? b = some o := fun b o hb e => (sb.2 b hb).trans e
  obtain ⟨k1, k2, k3, oe, vs, T, oT, ts, he, hz, hd, h1', hnT, hTe, hT, hdT, h3'⟩ := hh1
  have recNe : ∀ {b : Addr} {o : Obj} {vs : Array Value}, h1.get? b = some o → o.data = .fields vs → b ≠ ce.locals := fun {b o vs} e dd z => by
    obtain ⟨o', es, ep, ho', hd', _⟩ := hn1
    rw [z, ho'] at e
    cases e
    rw [hd'] at dd
    cases dd
  obtain ⟨B', b1, b2⟩ := restrict B fun b => decide (b ≠ ce.locals)
  obtain ⟨G', g1, g2⟩ := restrict sI.heap fun b => decide (b ≠ ce.locals)
  have bk : ∀ b, b ≠ ce.locals → B'.get? b = B.get? b := fun b hb => b1 b (decide_eq_true hb)
  have gk : ∀ b, b ≠ ce.locals → G'.get? b = sI.heap.get? b := fun b hb => g1 b (decide_eq_true hb)
  have bn : B'.get? ce.locals = none := b2 _ (by simp)
  have gn : G'.get? ce.locals = none := g2 _ (by simp)
  have bo : ∀ b o, B'.get? b = some o → b ≠ ce.locals ∧ B.get? b = some o := fun b o e => by
    by_cases z : b = ce.locals
    · rw [z, bn] at e
      cases e
    · exact ⟨z, (bk b z).symm.trans e⟩
  have go : ∀ b o, G'.get? b = some o → b ≠ ce.locals ∧ sI.heap.get? b = some o := fun b o e => by
    by_cases z : b = ce.locals
    · rw [z, gn] at e
      cases e
    · exact ⟨z, (gk b z).symm.trans e⟩
  have nn : ∀ b, B.get? b = none → B'.get? b = none := fun b e => by
    by_cases z : b = ce.locals
    · rw [z]
      exact bn
    · exact (bk b z).trans e
  have ff2 : h2.FunFrames B (X.env :: X.outer) := Heap.FunFrames.sameBut sb hn2 k3
  have held : HandSPX.HeldZ B' (X.env :: X.outer) a (Zq cls d c) X.env.locals h2 :=
    ⟨fun b o e => nC b o (bo b o e).1 (k1 b o (bo b o e).2), nn a k2, funFrames_none ff2 fun b hb => nn b (ff2.mem hb).1,
      oe, vs, T, oT, ts, nC a oe (recNe he hd) he, hz, hd, h1', nn T hnT, hTe, nC T oT (recNe hT hdT) hT, hdT, h3'⟩
  unfold PySem.passOn
  refine wpAny_bind (wpAny_field (nC a oe (recNe he hd) he) hd h1' ?_)
  rw [if_neg (show ¬ ((Value.ref T == Value.none) = true) from by simp)]
  have fin : wpAny (model X.prog X.w) X.A (setFlight (.ref a) ce.frame) (fun _ s4 => wpAny (model X.prog X.w) X.A (throw (.ref a) : Sem Value) (fun _ _ => False) X.xe s4) X.xe { s' with heap := h2 } := by
    rw [hcf, hf]
    refine HandSPX.setFlight_onZ held fun h3 hh3 up3 => wpAny_throw (tk _ _ ?_)
    have neC : ∀ b o, s3.heap.get? b = some o → b ≠ ce.locals := fun b o e => by
      rw [cL]
      exact Nat.ne_of_lt (Heap.lt_size e)
    have U : Un (frs X.stack) fp H3 H' s3.heap sI.heap := J.base
    have inv : Inv X pins σ H' { sI with heap := G' } := by
      refine I3.call' (ch := fp) (s' := { sI with heap := G' }) J.os ⟨fun b o e n hb hx => (gk b (neC b o e)).trans (U.keep b o e n hb hx), fun b o e n hb hx => ?_, U.free, fun b o e hx => ?_, U.tups, U.frzs, U.tbls⟩ (fun b o e => ?_) J.bare fun b hb => ⟨(f3 b hb).2.2.2.1, (f3 b hb).2.1, (f3 b hb).2.2.2.2.1, (f3 b hb).2.2.2.2.2⟩
      · obtain ⟨sl, q⟩ := U.slot b o e n hb hx
        exact ⟨sl, (gk b (neC b o e)).trans q⟩
      · obtain ⟨o', q⟩ := U.there b o e hx
        exact ⟨o', (gk b (neC b o e)).trans q⟩
      · refine (J.hok b o e).stay (fun b' v hc r => (gk b' ?_).trans r) (fun _ q => q) fun _ _ q => q
        intro z
        rcases hc with hc | hc
        · rw [← hc, z, fC] at e
          cases e
        · rw [z, fC] at hc
          cases hc
    refine ⟨a, B', { sI with heap := G' }, pins, σ, H', cls, d, c, rfl, inv, fun b o e hb => ?_, fun b o e hnf => ?_, .inr (.inr (by rw [hs]; exact hh3)), na, ch.stay fun b o vs e dd => (bk b (recNe (k1 b o e) dd)).trans e, os, ag, hW _ _ _ w⟩
    · obtain ⟨z1, z2⟩ := go b o e
      exact (bk b z1).trans (nb b o z2 hb)
    · obtain ⟨hb, e1⟩ := go b o e
      obtain ⟨sl, e2⟩ := up b o e1 hnf
      obtain ⟨sl2, e3⟩ := up1 b _ e2 hnf
      obtain ⟨sl3, e4⟩ := up3 b _ (nC b _ hb e3) hnf
      exact ⟨sl3, e4⟩
  first
    | exact wpAny_bind (wpAny_pure (wpAny_bind fin))
    | exact wpAny_bind fin
end

section
variable {L : Bool} {X : Cx}
/-- [elt for target in iter if ..], where the element may raise: W is wished of what flies -/
def tLcX (wi : TI) (g : TG) (tt : TT) (te : XK → TE) (vs : List Nat) (W : WX) : TE := fun σ H Q => wi σ H fun J H1 => ∀ D, H1 D = none → ∃ Wv : Nat → Nat → Hp → Prop, (∃ m, Wv 0 m (upd H1 D (.lst []))) ∧ ∀ i m H, Wv i m H →
  (J.stop i H ∧ Q (.ref D) H) ∨ (J.go i H ∧ ∃ Nx : Hp → Prop, (∀ H', Nx H' → ∃ m', m' < m ∧ Wv (i + 1) m' H') ∧ ∀ x H', J.yld i H x H' → g x (wipe σ vs) H' fun σ2 H2 => wipe σ2 vs = wipe σ vs ∧ tt σ2 H2 fun b H3 =>
    if b = true then te (fun cls d H' => W cls d σ H') σ2 H3 fun y H4 => ∃ acc, H4 D = some (.lst acc) ∧ acc.length < sizeLine ∧ Nx (upd H4 D (.lst (acc ++ [y]))) else Nx H3)
theorem lcX_core {G : Cx → Prop} {pins : List (Addr × Obj)} {s : Shared} {σ : L2.St} {H : Hp} {Q : VK} {elt tg iter : Expr} {ifs : List Expr} {scope : Scope} {own : List (Str × Nat)} {pos pos' : Pos} {wi : TI} {g : TG} {tt : TT} {te : XK → TE} {W : WX} {use : Option (Value → Sem Unit)} {Qf : Value → Shared → Prop}
    (hG : ∀ (s : Shared) (H : Hp) (C : Addr) (cl : List (Str × Addr)) (fp : List Addr) (E : XK), G (blkW L X s H scope (compEnvC scope cl C X.env) fp E)) (hst : X.stack = X.env :: X.outer) (hfm : X.env.frame = some X.env.locals) (tk : Takes L X W)
    (hN : X.N.Nodup) (I : Inv X pins σ H s) (hi : PIG G X tg iter wi) (ok : BlkOk X.N X.env.scope scope own)
    (hg : ∀ (s : Shared) (H : Hp) (C : Addr) (cl : List (Str × Addr)) (fp : List Addr) (E : XK), PG (blkW L X s H scope (compEnvC scope cl C X.env) fp E) tg g) (ht : ∀ (s : Shared) (H : Hp) (C : Addr) (cl : List (Str × Addr)) (fp : List Addr) (E : XK), PTs (blkW L X s H scope (compEnvC scope cl C X.env) fp E) ifs tt)
    (he : ∀ (s : Shared) (H : Hp) (C : Addr) (cl : List (Str × Addr)) (fp : List Addr) (E : XK), PE (blkW L X s H scope (compEnvC scope cl C X.env) fp E) elt (te E)) (hs : ∀ x, foldedSetIterable iter X.env x = pure x)
    (h : tLcX wi g tt te (own.map (·.2)) W σ H Q)
    (hRR : ∀ D ce s' m H', Inv X pins σ H' s' → Q (.ref D) H' → s'.heap.Ns ce.locals m → FpOk X pins H' ce.locals → compEnds (model X.prog X.w) X.A X.xe use Qf (.ref D) ce (.ok .next) s') :
    wpAny (model X.prog X.w) X.A (comprehension (.ListComp elt [⟨tg, iter, ifs, 0⟩] scope pos) scope X.env pos' (newList []) false (eval iter X.env) use) Qf X.xe s := by
  have hfree : ∀ y ∈ scope.names, y.2 = .free → ∃ c, X.env.cells.lookup y.1 = some c := fun y hy e => by
    rcases ok.free y hy e with k | k
    · exact I.ok.has _ (.inl k)
    · exact I.ok.has _ (.inr k)
  refine comprehension_at (use := use) rfl hs (closure_ok hfree) ok.kind (fun y hy e => by rw [ok.uniq y hy, e])
    (thn (hi.run pins s σ H _ I h) fun xv s1 hx => thn hx fun itv s2 h2 => ?_)
  obtain ⟨it, fp, tn, J, H2, rfl, I2, T, st2, f2, q⟩ := h2
  refine wpAny_newObj_type (newEnv_comp ?_) (by show 0 ≤ sizeLine; decide)
  generalize hD : s2.heap.objs.size = D
  have hDn : H2 D = none := I2.hok.fresh (Nat.le_of_eq hD)
  obtain ⟨Wv, ⟨m0, w0⟩, turn⟩ := q D hDn
  generalize hs3 : ({ s2 with heap := s2.heap.push { cls := .type "list", data := .seq ([] : List Value).toArray } } : Shared) = s3
  have I3 : Inv X pins σ (upd H2 D (.lst [])) s3 := by
    rw [← hs3]
    refine I2.laid (t' := s2.toks) (fun b o e => Heap.get?_push_of_some _ e) (Nat.le_of_eq hD) ⟨Nat.zero_le _, [], 0, .nil, ?_⟩
    rw [← hD]
    exact Heap.get?_push_size _ rfl
  have h3 : s3.heap = s2.heap.push { cls := .type "list", data := .seq ([] : List Value).toArray } := by rw [← hs3]
  have f3 : ∀ b ∈ fp, FpOk X pins (upd H2 D (.lst [])) b ∧ b < s3.heap.objs.size := fun b hb => by
    obtain ⟨o, e, _⟩ := T.obj _ _ st2 b hb
    have hlt := Heap.lt_size e
    refine ⟨⟨?_, (f2 b hb).2⟩, by rw [h3, Heap.size_push]; exact Nat.lt_succ_of_lt hlt⟩
    rw [upd_ne (by rw [← hD]; exact Nat.ne_of_lt hlt)]
    exact (f2 b hb).1
  have st3 : tn 0 s3.heap := T.keep _ _ _ st2 fun b _ o e => by rw [h3]; exact Heap.get?_push_of_some _ e
  have I4 := block_start I3 ok hN f3
  have gG := hG s3 (upd H2 D (.lst [])) s3.heap.objs.size (cellsFrom (s3.heap.objs.size + 1) scope.names (cloFrom X.env.cells scope.names [])) fp (fun cls d H' => W cls d σ H')
  have pg := hg s3 (upd H2 D (.lst [])) s3.heap.objs.size (cellsFrom (s3.heap.objs.size + 1) scope.names (cloFrom X.env.cells scope.names [])) fp (fun cls d H' => W cls d σ H')
  have pt := ht s3 (upd H2 D (.lst [])) s3.heap.objs.size (cellsFrom (s3.heap.objs.size + 1) scope.names (cloFrom X.env.cells scope.names [])) fp (fun cls d H' => W cls d σ H')
  have pe := he s3 (upd H2 D (.lst [])) s3.heap.objs.size (cellsFrom (s3.heap.objs.size + 1) scope.names (cloFrom X.env.cells scope.names [])) fp (fun cls d H' => W cls d σ H')
  show codeAny _ _ (.compStart (.ListComp elt [⟨tg, iter, ifs, 0⟩] scope pos) 0 (.ref it) (.ref D) (compEnvC scope (cellsFrom (s3.heap.objs.size + 1) scope.names (cloFrom X.env.cells scope.names [])) s3.heap.objs.size X.env)) (compEnds (model X.prog X.w) X.A X.xe use Qf (.ref D) (compEnvC scope (cellsFrom (s3.heap.objs.size + 1) scope.names (cloFrom X.env.cells scope.names [])) s3.heap.objs.size X.env)) { s3 with heap := pushCells (s3.heap.push { cls := .type "dict", data := .dict #[] }) scope.names }
  have nfp : ∀ b ∈ fp, (upd H2 D (.lst [])) b = none := fun b hb => (f3 b hb).1.1
  generalize hce : compEnvC scope (cellsFrom (s3.heap.objs.size + 1) scope.names (cloFrom X.env.cells scope.names [])) s3.heap.objs.size X.env = ce at I4 gG pg pt pe ⊢
  have cL : ce.locals = s3.heap.objs.size := by subst hce; rfl
  have cF : ce.frame = X.env.frame := by subst hce; rfl
  generalize hH3 : upd H2 D (.lst []) = H3 at I3 I4 gG pg pt pe w0 nfp f3
  generalize hs4 : ({ s3 with heap := pushCells (s3.heap.push { cls := .type "dict", data := .dict #[] }) scope.names } : Shared) = s4 at I4 ⊢
  have old4 : ∀ b o, s3.heap.get? b = some o → s4.heap.get? b = some o := fun b o e => by
    rw [← hs4]
    exact pushCells_keeps _ _ _ _ (Heap.get?_push_of_some _ e)
  have st4 : tn 0 s4.heap := T.keep _ _ _ st3 fun b _ o e => old4 b o e
  have J4 : Inv (blkW L X s3 H3 scope ce fp (fun cls d H' => W cls d σ H')) [] (wipe σ (own.map (·.2))) H3 s4 := blk_inv (pn := []) (xe := fun _ _ => False) I4 fun p hp => by
    rw [List.append_nil] at hp
    obtain ⟨e, n, ne, nf, dd⟩ := I3.pin p (List.mem_append_left _ hp)
    refine ⟨old4 _ _ e, n, by rw [cL]; exact Nat.ne_of_lt (Heap.lt_size e), fun z => ?_, dd⟩
    rcases List.mem_cons.mp (I3.stkSub _ z) with z | z
    · exact ne z
    · exact nf z
  have stat : ∀ {σ' : L2.St} {H' : Hp} {s' : Shared}, Inv (blkW L X s3 H3 scope ce fp (fun cls d H' => W cls d σ H')) [] σ' H' s' → tn 0 s4.heap → (∀ b ∈ fp, H' b = none) → (∀ p ∈ X.pn, p.1 ∉ fp) → ∀ b ∈ fp, FpOk (blkW L X s3 H3 scope ce fp (fun cls d H' => W cls d σ H')) [] H' b := fun {σ' H' s'} I' _ hn hpn b hb =>
    ⟨hn b hb, (I'.ok.exf b hb).1, I'.ok.exfs b hb, .inl hb, fun x c e => (I'.ok.exf b hb).2 x c e, fun p hp => fun z => hpn p (by rw [List.append_nil] at hp; exact hp) (z ▸ hb)⟩
  have hpn : ∀ p ∈ X.pn, p.1 ∉ fp := fun p hp z => (f3 _ z).1.2.2.2.2.2 p (List.mem_append_left _ hp) rfl
  have fail : ∀ (u : Value) (s' : Shared), XF L (blkN X s3 H3 scope ce fp) (fun cls d H' => W cls d σ H') u s' → notedBy (model X.prog X.w) X.A ce (fun e s'' => compEnds (model X.prog X.w) X.A X.xe use Qf (.ref D) ce (.error e) s'') u s' := fun u s' xf => by
    have z := blk_fails hst hfm cF cL I3 (fun b hb => (f3 b hb).1) tk (fun _ _ _ q => q) xf
    cases use <;> exact z
  have never : ∀ {α : Type} {t : Sem α} {Q' : α → Shared → Prop} {E : Value → Shared → Prop} {s : Shared}, wpAny (model X.prog X.w) X.A t Q' (fun _ _ => False) s → wpAny (model X.prog X.w) X.A t Q' E s := fun h => wpAny_mono h (fun _ _ q => q) fun _ _ z => z.elim
  have loop : codeAny (model X.prog X.w) X.A (.compLoop (.ListComp elt [⟨tg, iter, ifs, 0⟩] scope pos) 0 (.ref it) (.ref D) ce) (compEnds (model X.prog X.w) X.A X.xe use Qf (.ref D) ce) s4 := by
    refine compLoop_any (fun n s' => ∃ i H', Inv (blkW L X s3 H3 scope ce fp (fun cls d H' => W cls d σ H')) [] (wipe σ (own.map (·.2))) H' s' ∧ tn i s'.heap ∧ (∀ b ∈ fp, H' b = none) ∧ Wv i n H') ?_ m0 ⟨0, H3, J4, st4, nfp, w0⟩
    rintro n s5 ⟨i, H5, I5, st5, n5, w5⟩
    rcases turn i n H5 w5 with ⟨stop, qq⟩ | ⟨go, Nx, hNx, step⟩
    · have td := T.done (blkW L X s3 H3 scope ce fp (fun cls d H' => W cls d σ H')) rfl rfl rfl gG i [] s5 _ H5 (fun _ _ => False) I5 (stat I5 st4 n5 hpn) st5 stop
      refine thn (never td) fun r s6 ⟨hr, I6⟩ => ?_
      subst hr
      have I7 : Inv X pins σ H5 s6 := I3.call' (ch := fp) I6.os I6.base I6.hok I6.bare fun b hb => ⟨(f3 b hb).1.2.2.2.1, (f3 b hb).1.2.1, (f3 b hb).1.2.2.2.2.1, (f3 b hb).1.2.2.2.2.2⟩
      have nC : H5 ce.locals = none := I6.free
      obtain ⟨m, hn, _⟩ := I6.loc
      exact hRR D ce s6 m H5 I7 qq hn (cL.symm ▸ I3.fpOk (Nat.le_refl _) (cL ▸ nC))
    · have ti := T.item (blkW L X s3 H3 scope ce fp (fun cls d H' => W cls d σ H')) rfl rfl rfl gG i [] s5 _ H5 (fun _ _ => False) I5 (stat I5 st4 n5 hpn) st5 go
      refine thn (never ti) fun r s6 ⟨u, hr, h6⟩ => ?_
      subst hr
      refine thn (never h6) fun _ s7 ⟨x, H7, I7, r7, y7, st7, n7⟩ => ?_
      have I7' := I7.pinned (stat I7 st4 n7 hpn) (T.obj _ _ st7)
      refine wpAny_mono (pg.run _ s7 _ H7 x u _ I7' r7 (step x H7 y7)) (fun _ s8 ⟨σ8, H8, I8, hw8, q8⟩ => ?_) fail
      refine wpAny_mono (pt.run _ s8 σ8 H8 _ I8 q8) (fun b s9 ⟨H9, I9, q9⟩ => ?_) fail
      have fin : ∀ {s' : Shared} {H' : Hp}, Inv (blkW L X s3 H3 scope ce fp (fun cls d H' => W cls d σ H')) ([] ++ pinsAt fp s7.heap) σ8 H' s' → Nx H' → ∃ m, m < n ∧ ∃ i H', Inv (blkW L X s3 H3 scope ce fp (fun cls d H' => W cls d σ H')) [] (wipe σ (own.map (·.2))) H' s' ∧ tn i s'.heap ∧ (∀ b ∈ fp, H' b = none) ∧ Wv i m H' := fun {s' H'} I' nx => by
        obtain ⟨m', hm, w'⟩ := hNx H' nx
        have pin' : ∀ b ∈ fp, ∀ o, s7.heap.get? b = some o → s'.heap.get? b = some o ∧ H' b = none := fun b hb o e =>
          let z := I'.pin (b, o) (List.mem_append_right _ (List.mem_append_right _ (mem_pinsAt hb e)))
          ⟨z.1, z.2.1⟩
        have hl : (wipe σ (own.map (·.2))).length = σ8.length := by rw [← hw8, wipe_length]
        refine ⟨m', hm, i + 1, H', (I'.unpinned (pins := [])).weak hl (fun j v e => ?_), T.keep _ _ _ st7 fun b hb o e => (pin' b hb o e).1, fun b hb => ?_, w'⟩
        · rw [← hw8] at e
          exact (wipe_some e).1
        · obtain ⟨o, e, _⟩ := T.obj _ _ st7 b hb
          exact (pin' b hb o e).2
      cases b with
      | false =>
        simp only [Bool.false_eq_true, if_false] at q9 ⊢
        exact fin I9 q9
      | true =>
        simp only [if_true] at q9 ⊢
        refine wpAny_mono (pe.run _ s9 σ8 H9 _ I9 q9) (fun z s10 ⟨yv, H10, I10, r10, acc, hD10, hz10, nx⟩ => ?_) fail
        exact app_ok (X := blkW L X s3 H3 scope ce fp (fun cls d H' => W cls d σ H')) I10 hD10 hz10 r10 fun s11 I11 => fin I11 nx
  exact codeAny_compStart_list loop (T.self X.A 0 _ _ _ st4 loop)
theorem pe_lcX {G : Cx → Prop} {elt tg iter : Expr} {ifs : List Expr} {scope : Scope} {own : List (Str × Nat)} {pos : Pos} {wi : TI} {g : TG} {tt : TT} {te : XK → TE} {W : WX}
    (hG : ∀ (s : Shared) (H : Hp) (C : Addr) (cl : List (Str × Addr)) (fp : List Addr) (E : XK), G (blkW L X s H scope (compEnvC scope cl C X.env) fp E)) (hst : X.stack = X.env :: X.outer) (hfm : X.env.frame = some X.env.locals) (tk : Takes L X W)
    (hN : X.N.Nodup) (hi : PIG G X tg iter wi) (ok : BlkOk X.N X.env.scope scope own)
    (hg : ∀ (s : Shared) (H : Hp) (C : Addr) (cl : List (Str × Addr)) (fp : List Addr) (E : XK), PG (blkW L X s H scope (compEnvC scope cl C X.env) fp E) tg g) (ht : ∀ (s : Shared) (H : Hp) (C : Addr) (cl : List (Str × Addr)) (fp : List Addr) (E : XK), PTs (blkW L X s H scope (compEnvC scope cl C X.env) fp E) ifs tt)
    (he : ∀ (s : Shared) (H : Hp) (C : Addr) (cl : List (Str × Addr)) (fp : List Addr) (E : XK), PE (blkW L X s H scope (compEnvC scope cl C X.env) fp E) elt (te E)) (hs : ∀ x, foldedSetIterable iter X.env x = pure x := by intro _; rfl) :
    PE X (.ListComp elt [⟨tg, iter, ifs, 0⟩] scope pos) (tLcX wi g tt te (own.map (·.2)) W) := by
  refine ⟨fun pins s σ H Q I h => ?_⟩
  rw [eval_ListComp]
  refine lcX_core hG hst hfm tk hN I hi ok hg ht he hs h fun D C s' m H' I' q hn f => ⟨m, hn, fun h'' sb => ?_⟩
  obtain ⟨f0, f1, f2, f3, f4, f5⟩ := f
  exact ⟨.ref D, H', I'.turned (t' := s'.toks) (fun b o hb e => (sb.2 b hb).trans e) f0 f1 f3 f4 f5, rfl, q⟩
theorem ps_setLcX {G : Cx → Prop} {i : Nat} {y : Str} {py : Pos} {elt tg iter : Expr} {ifs : List Expr} {scope : Scope} {own : List (Str × Nat)} {pos spos : Pos} {wi : TI} {g : TG} {tt : TT} {te : XK → TE} {W : WX}
    (hG : ∀ (s : Shared) (H : Hp) (C : Addr) (cl : List (Str × Addr)) (fp : List Addr) (E : XK), G (blkW L X s H scope (compEnvC scope cl C X.env) fp E)) (hst : X.stack = X.env :: X.outer) (hfm : X.env.frame = some X.env.locals) (tk : Takes L X W)
    (hN : X.N.Nodup) (hy : X.N[i]? = some y) (hyl : X.env.scope.names.lookup y = some .local)
    (hsw : swapsWith (.ListComp elt [⟨tg, iter, ifs, 0⟩] scope pos) (some (.Name y py)) spos.line X.env = pure true) (hi : PIG G X tg iter wi) (ok : BlkOk X.N X.env.scope scope own)
    (hg : ∀ (s : Shared) (H : Hp) (C : Addr) (cl : List (Str × Addr)) (fp : List Addr) (E : XK), PG (blkW L X s H scope (compEnvC scope cl C X.env) fp E) tg g) (ht : ∀ (s : Shared) (H : Hp) (C : Addr) (cl : List (Str × Addr)) (fp : List Addr) (E : XK), PTs (blkW L X s H scope (compEnvC scope cl C X.env) fp E) ifs tt)
    (he : ∀ (s : Shared) (H : Hp) (C : Addr) (cl : List (Str × Addr)) (fp : List Addr) (E : XK), PE (blkW L X s H scope (compEnvC scope cl C X.env) fp E) elt (te E)) (hs : ∀ x, foldedSetIterable iter X.env x = pure x := by intro _; rfl) :
    PS X (.Assign [.Name y py] (.ListComp elt [⟨tg, iter, ifs, 0⟩] scope pos) spos) (tAsg (tLcX wi g tt te (own.map (·.2)) W) (gName i)) := by
  refine ⟨fun pins s σ H D I h => ?_⟩
  rw [exec_Assign_Name_used _ _ _ _ hsw]
  refine wpAny_bind (wpAny_standAt (wpAny_bind ?_))
  show wpAny _ X.A (do let _ ← comprehension (.ListComp elt [⟨tg, iter, ifs, 0⟩] scope pos) scope X.env (firstIterPos [⟨tg, iter, ifs, 0⟩] pos) (newList []) false (eval iter X.env) (some (assign (.Name y py) X.env))) _ _ s
  have h : tLcX wi g tt te (own.map (·.2)) W σ H (fun x H1 => gName i x σ H1 D.nx) := h
  refine wpAny_bind (thn (lcX_core (Qf := fun _ s' => SP X pins D .next s') hG hst hfm tk hN I hi ok hg ht he hs h fun L C s' m H' I' q hn f => ?_) fun _ s' hq => wpAny_pure (wpAny_pure hq))
  show wpAny _ _ (assign (.Name y py) X.env (.ref L)) _ _ _
  refine wpAny_assign_Name (store_ok2 (v := V.ref L) I' hN hy (.inl hyl) rfl (fun s2 I2 ⟨a, sb, ha⟩ => ?_) (.inr hyl))
  obtain ⟨f0, f1, f2, f3, f4, f5⟩ := f
  have haC : C.locals ≠ a := by
    rcases ha with z | z
    · rw [z]
      exact f1
    · exact fun e => f4 y a z e.symm
  refine ⟨m, hn.sameBut sb haC, fun h3 sb3 => ?_⟩
  exact ⟨_, H', I2.turned (t' := s2.toks) (fun b o hb e => (sb3.2 b hb).trans e) f0 f1 f3 f4 f5, q⟩
end
end K3
namespace K3
open PySem PySem.Spec PyProof.Rows L2 HotX
/-! ### except suites -/
/-- what the clause 'except x' wishes of an exception of the body; f: what the suite's slots and ends are -/
def wCat (K : PySem.W.Frag) (c : Value) (ts : Addr → Obj → TS) (Wout : WX) (fs : Addr → L2.St → L2.St) (fd : Ends → Ends) (D : Ends) : WX := fun cls d σ H =>
  ∃ b, PySem.W.exmOne K cls c = some b ∧ (b = true → ∀ a oe, H a = none → oe.cls = cls → oe.dict = d → ts a oe (fd D) (fs a σ) H) ∧ (b = false → Wout cls d σ H)
section
variable {L : Bool} {X : Cx} {pins : List (Addr × Obj)} {σ : L2.St} {H : Hp} {s : Shared}
theorem suite_back {A' : Around} {b : Bool} {pn pn' : List (Addr × Obj)} {xe : Value → Shared → Prop} (I : Inv { X with A := A', calm := b, pn := pn, xe := xe } pn' σ H s) (ok : X.Ok) (hp : ∀ p ∈ X.pn ++ pins, p ∈ pn) : Inv X pins σ H s :=
  ⟨ok, I.os, I.bare, I.base, I.loc, I.cell, I.free, I.freeC, fun p h => I.pin p (List.mem_append_left _ (hp p h)), I.hok, I.len⟩
theorem ok_suite (ok : X.Ok) (a : Addr) (pn : List (Addr × Obj)) (xe : Value → Shared → Prop) : Cx.Ok { X with A := X.A.mark (some (.ref a)), calm := false, pn := pn, xe := xe } :=
  ⟨ok.mod, ok.kind, ok.glob, ok.blt, ok.above, ok.inj, ok.has, ok.cab, (fun z => absurd (show false = true from z) Bool.false_ne_true), ok.frames, ok.stk, ok.exf, ok.bs, ok.bsz, ok.noex, ok.exfs, ok.funs, ok.frf⟩
/-- the state of an except suite: the caught exception and what stands behind it are pinned -/
theorem suite_inv {B : Heap} {a : Addr} {cls : Value} {d : Option Addr} {c : Value} (J : Inv X pins σ H s) (hs : X.stack = X.env :: X.outer) (hf : X.env.frame = some X.env.locals) (fl : HandSPX.FlyingZ B (X.env :: X.outer) a (Zq cls d c) s.heap) (na : H a = none) (ch : Chn L c H B) (xe : Value → Shared → Prop) :
    ∃ (oe : Obj) (cp : List (Addr × Obj)), Zq cls d c oe ∧ (∃ vs, oe.data = .fields vs) ∧ Inv { X with A := X.A.mark (some (.ref a)), calm := false, pn := (a, oe) :: (cp ++ (X.pn ++ pins)), xe := xe } [] σ H s ∧
      HotC { X with A := X.A.mark (some (.ref a)), calm := false, pn := (a, oe) :: (cp ++ (X.pn ++ pins)), xe := xe } ∧ (L = false → ∃ vs : Array Value, oe.data = .fields vs ∧ vs[2]? = some .none) := by
  obtain ⟨kb, hen, ff, oe, vs, T, oT, ts, he, hz, hd, h1, r⟩ := fl
  have nFr : ∀ {b : Addr} {o : Obj} {us : Array Value}, s.heap.get? b = some o → o.data = .fields us → b ≠ X.env.locals ∧ b ∉ X.fs := fun {b o us} e dd => by
    have no : b ∉ frs (X.env :: X.outer) := fun hm => by
      obtain ⟨_, o', e', hnf⟩ := ff.mem hm
      rw [e] at e'
      cases e'
      exact hnf _ dd
    refine ⟨fun z => no (List.mem_filterMap.mpr ⟨X.env, List.mem_cons_self, by rw [hf, z]⟩), fun hm => ?_⟩
    obtain ⟨e1, he1, q⟩ := List.mem_filterMap.mp hm
    exact no (List.mem_filterMap.mpr ⟨e1, List.mem_cons_of_mem _ he1, q⟩)
  have noCell : ∀ {o : Obj} {us : Array Value}, o.data = .fields us → ∀ v, o.data ≠ .cell v := fun {o us} dd v z => by
    rw [dd] at z
    cases z
  have mk : ∀ cp : List (Addr × Obj), (∀ p ∈ cp, s.heap.get? p.1 = some p.2 ∧ H p.1 = none ∧ p.1 ≠ X.env.locals ∧ p.1 ∉ X.fs ∧ ∀ v, p.2.data ≠ .cell v) →
      Inv { X with A := X.A.mark (some (.ref a)), calm := false, pn := (a, oe) :: (cp ++ (X.pn ++ pins)), xe := xe } [] σ H s := fun cp hcp =>
    ⟨ok_suite J.ok a _ xe, J.os, J.bare, J.base, J.loc, J.cell, J.free, J.freeC, fun p hp => by
      have hp' : p ∈ (a, oe) :: (cp ++ (X.pn ++ pins)) := by rw [List.append_nil] at hp; exact hp
      rcases List.mem_cons.mp hp' with e | h
      · rw [e]
        exact ⟨he, na, (nFr he hd).1, (nFr he hd).2, noCell hd⟩
      · rcases List.mem_append.mp h with h | h
        · exact hcp p h
        · exact J.pin p h, J.hok, J.len⟩
  rcases ch with ch | ⟨el, a2, ec, ⟨o2, vs2, e2, d2, c2⟩, n2⟩
  · refine ⟨oe, [], hz, ⟨vs, hd⟩, mk [] (fun p hp => absurd hp (by simp)), ⟨(a, oe), List.mem_cons_self, rfl, vs, hd, .inl ?_⟩, fun _ => ⟨vs, hd, ?_⟩⟩
    · rw [hz.2.2 vs hd, ch]
    · rw [hz.2.2 vs hd, ch]
  · have e3 := kb a2 o2 e2
    refine ⟨oe, [(a2, o2)], hz, ⟨vs, hd⟩, mk [(a2, o2)] (fun p hp => ?_), ⟨(a, oe), List.mem_cons_self, rfl, vs, hd, .inr ⟨(a2, o2), List.mem_cons_of_mem _ (List.mem_append_left _ List.mem_cons_self), ?_, vs2, d2, c2⟩⟩, fun z => absurd (el.symm.trans z) (by decide)⟩
    · obtain rfl : p = (a2, o2) := by simpa using hp
      exact ⟨e3, n2, (nFr e3 d2).1, (nFr e3 d2).2, noCell d2⟩
    · rw [hz.2.2 vs hd, ec]
/-- an exception that no clause names flies on -/
theorem flies_on {B : Heap} {W : WX} {D : Ends} {sI s' : Shared} {h3 : Heap} {a : Addr} {cls : Value} {d : Option Addr} {c : Value} (hs : X.stack = X.env :: X.outer) (hf : X.env.frame = some X.env.locals) (tk : Takes L X W) (J : Inv X pins σ H sI)
    (nb : ∀ b o, sI.heap.get? b = some o → b ∉ frs X.stack → B.get? b = some o) (up : sI.heap.UpToSlots h3) (fl : HandSPX.FlyingZ B (X.env :: X.outer) a (Zq cls d c) h3) (na : H a = none) (ch : Chn L c H B) (os : s'.os = sI.os) (ag : AllBare s'.gens) (w : W cls d σ H) :
    wpAny (model X.prog X.w) X.A (handleBy (.ref a) X.env []) (SP X pins D) X.xe { s' with heap := h3 } := by
  refine wpAny_handleBy_nil ?_
  obtain ⟨k1, k2, k3, oe, vs, T, oT, ts', he, hz, hd, h1, hr⟩ := id fl
  unfold PySem.passOn
  refine wpAny_bind (wpAny_field he hd h1 ?_)
  rw [if_neg (show ¬ ((Value.ref T == Value.none) = true) from by simp)]
  have fin : wpAny (model X.prog X.w) X.A (setFlight (.ref a) X.env.frame) (fun _ s4 => wpAny (model X.prog X.w) X.A (throw (.ref a) : Sem Flow) (SP X pins D) X.xe s4) X.xe { s' with heap := h3 } := by
    rw [hf]
    refine HandSPX.setFlight_upZ fl fun h4 hh4 up4 => wpAny_throw (tk _ _ ?_)
    exact ⟨a, B, sI, pins, σ, H, cls, d, c, rfl, J, nb, up.trans up4, .inr (.inr (by rw [hs]; exact hh4)), na, ch, os, ag, w⟩
  first
    | exact wpAny_bind (wpAny_pure (wpAny_bind fin))
    | exact wpAny_bind fin
end
section
variable {X : Cx} {x n : Str} {c : Value} {i : Nat} {body suite : List Stmt} {b₀ : Stmt} {np pos pos' : Pos} {tb : WX → TS} {ts : Addr → Obj → TS} {Wout : WX}
/-- what a body that runs through hands on -/
theorem try_thru {pins : List (Addr × Obj)} {xe : Value → Shared → Prop} {D : Ends} {f : Flow} {s1 : Shared} (ok : X.Ok) (hsp : SP (X.tr (X.pn ++ pins) xe) [] D f s1) : SP X pins D f s1 := by
  cases f with
  | next =>
    obtain ⟨σ', H', J', q⟩ := hsp
    exact ⟨σ', H', J'.ofTry ok, q⟩
  | brk =>
    obtain ⟨σ', H', J', q⟩ := hsp
    exact ⟨σ', H', J'.ofTry ok, q⟩
  | cont =>
    obtain ⟨σ', H', J', q⟩ := hsp
    exact ⟨σ', H', J'.ofTry ok, q⟩
  | ret u =>
    obtain ⟨v, σ', H', J', r, q⟩ := hsp
    exact ⟨v, σ', H', J'.ofTry ok, r, q⟩
/-- try: body / except x: suite, where the suite may raise -/
theorem ps_tryX (hs : X.stack = X.env :: X.outer) (hf : X.env.frame = some X.env.locals) (hc : Names X x c) (hpa : ∀ hd : Option Value, PassesOwnAt (model X.prog X.w) (X.A.mark hd) X.A X.env X.xe) (tk : Takes true X Wout)
    (hb : ∀ (W : WX) (pn : List (Addr × Obj)) (xe : Value → Shared → Prop), Takes false (X.tr pn xe) W → PassesOwn (model X.prog X.w) X.A X.env xe → PSs (X.tr pn xe) body (tb W))
    (hsu : ∀ (a : Addr) (oe : Obj) (pn : List (Addr × Obj)), (a, oe) ∈ pn → HotC (L2H.suiteX X a pn) → Takes true (L2H.suiteX X a pn) Wout → (∃ p ∈ pn, (L2H.suiteX X a pn).A.handled = some (.ref p.1) ∧ ∃ vs : Array Value, p.2.data = .fields vs ∧ vs[2]? = some .none) → PSs (L2H.suiteX X a pn) (b₀ :: suite) (ts a oe)) :
    PS X (.Try body [.ExceptHandler (some (.Name x np)) none (b₀ :: suite) pos'] [] [] pos) (fun D σ H => tb (wCat X.K c ts Wout (fun _ σ => σ) (fun D => D) D) D σ H) := by
  refine ⟨fun pins s σ H D I h => ?_⟩
  have ok := I.ok
  have hfr : X.A.frames = some (X.env :: X.outer) := by rw [ok.frames, hs]
  refine wpAny_Try_except ?_
  refine wpAny_mono ((hb (wCat X.K c ts Wout (fun _ σ => σ) (fun D => D) D) (X.pn ++ pins) (fun e s₁ => wpAny (model X.prog X.w) X.A (noteFrame e X.env) (fun _ s₂ => wpAny (model X.prog X.w) X.A (setFlight e none) (fun _ s₃ =>
    wpAny (model X.prog X.w) X.A (handleBy e X.env [.ExceptHandler (some (.Name x np)) none (b₀ :: suite) pos']) (SP X pins D) X.xe s₃) X.xe s₂) X.xe s₁) (fun u s' xx => ?_) PassesOwn.looking).run [] s σ H D (I.toTry _) h) (fun f s1 hsp => ?_) (fun e s1 he => he)
  · obtain ⟨a, B, sI, pins', σ', H', cls, d, cv, rfl, J', nb, up, sky, na, ch, os, ag, b, hb1, hyes, hno⟩ := xx
    have J : Inv X pins σ' H' sI := J'.ofTry ok
    have sky' : Sky B (X.env :: X.outer) a (Zq cls d cv) X.env.locals s'.heap := by rw [← hs]; exact sky
    show wpAny (model X.prog X.w) X.A (noteFrame (.ref a) X.env) _ _ _
    refine L2N.Sky.land Zq.steady hfr hf sky' fun h3 fl3 up3 => ?_
    have J3 : Inv X pins σ' H' { s' with heap := h3 } := J.landed nb fl3.1 (up.trans up3) os ag
    obtain ⟨oe3, cp3, hz3, _, S3, _, _⟩ := suite_inv J3 hs hf fl3 na ch (fun _ _ => False)
    have he3 : h3.get? a = some oe3 := (S3.pin (a, oe3) (by simp)).1
    refine wpAny_handleBy_cons (codeAny_handlers_test ?_) (by intro q; cases q)
    have LT : PySem.W.Looks (model X.prog X.w) h3 (typeOf (.ref a)) cls := fun A Q E s k q => wpAny_typeOf_ref (k _ _ he3) (by rw [hz3.1]; exact q)
    have LM := PySem.W.exm_one (M := model X.prog X.w) (J3.kIn) LT hb1
    have test : ∀ {Q : Value → Shared → Prop} {E : Value → Shared → Prop}, Q c { s' with heap := h3 } → wpAny (model X.prog X.w) (X.A.mark (some (.ref a))) (eval (.Name x np) X.env) Q E { s' with heap := h3 } := fun {Q E} q => by
      obtain ⟨hg, hdbg, hm | ⟨hm, hv, hnn⟩⟩ := hc
      · exact ld_glob (X := X.suite a ((a, oe3) :: (cp3 ++ (X.pn ++ pins)))) S3 hg hm q hdbg
      · exact ld_blt (X := X.suite a ((a, oe3) :: (cp3 ++ (X.pn ++ pins)))) S3 hg hm hv q hnn hdbg
    refine test (LM.here ?_)
    cases b with
    | true =>
      refine codeAny_handlers_suite ?_
      refine HandSPX.lands_againZ fl3 fun h4 fl4 up4 => ?_
      have J4 : Inv X pins σ' H' { s' with heap := h4 } := J.landed nb fl4.1 ((up.trans up3).trans up4) os ag
      obtain ⟨oe, cp, hz, hfv, S4, hot, hnn⟩ := suite_inv J4 hs hf fl4 na ch X.xe
      have sub : ∀ p ∈ X.pn ++ pins, p ∈ (a, oe) :: (cp ++ (X.pn ++ pins)) := fun p h => List.mem_cons_of_mem _ (List.mem_append_right _ h)
      have tkS : Takes true (L2H.suiteX X a ((a, oe) :: (cp ++ (X.pn ++ pins)))) Wout := fun u2 s2 x2 => by
        obtain ⟨a2, B2, sI2, pn2, σ2, H2, cls2, d2, c2, e2, I2, nb2, up2, sky2, na2, ch2, os2, ag2, w2⟩ := x2
        exact tk u2 s2 ⟨a2, B2, sI2, pins, σ2, H2, cls2, d2, c2, e2, suite_back I2 ok sub, nb2, up2, sky2, na2, ch2, os2, ag2, w2⟩
      refine wpAny_mono ((hsu a oe _ List.mem_cons_self hot tkS ⟨(a, oe), List.mem_cons_self, rfl, hnn rfl⟩).run [] _ _ H' _ S4 (hyes rfl a oe na hz.1 hz.2.1)) (fun f s6 hsp => ?_) (fun e6 s6 z => hpa (some (.ref a)) e6 s6 z)
      cases f with
      | next =>
        obtain ⟨σ6, H6, S6, q6⟩ := hsp
        exact ⟨_, _, suite_back S6 ok sub, q6⟩
      | brk =>
        obtain ⟨σ6, H6, S6, q6⟩ := hsp
        exact ⟨_, _, suite_back S6 ok sub, q6⟩
      | cont =>
        obtain ⟨σ6, H6, S6, q6⟩ := hsp
        exact ⟨_, _, suite_back S6 ok sub, q6⟩
      | ret u =>
        obtain ⟨v6, σ6, H6, S6, r6, q6⟩ := hsp
        exact ⟨_, _, _, suite_back S6 ok sub, r6, q6⟩
    | false => exact flies_on hs hf tk J nb (up.trans up3) fl3 na (ch.elim .inl fun z => absurd z.1 (by decide)) os ag (hno rfl)
  · have q := try_thru ok hsp
    cases f with
    | next => exact wpAny_execs_nil q
    | brk => exact q
    | cont => exact q
    | ret u => exact q
/-- try: body / except x as n: suite, where the suite raises nothing -/
theorem ps_tryAs (hs : X.stack = X.env :: X.outer) (hf : X.env.frame = some X.env.locals) (hN : X.N.Nodup) (hi : X.N[i]? = some n) (hln : X.env.kindOf n = some .local) (hc : Names X x c) (tk : Takes true X Wout)
    (hb : ∀ (W : WX) (pn : List (Addr × Obj)) (xe : Value → Shared → Prop), Takes true (X.tr pn xe) W → PassesOwn (model X.prog X.w) X.A X.env xe → PSs (X.tr pn xe) body (tb W))
    (hsu : ∀ (a : Addr) (oe : Obj) (pn : List (Addr × Obj)), (a, oe) ∈ pn → HotC (X.suite a pn) → (∃ vs, oe.data = .fields vs) → PSs (X.suite a pn) (b₀ :: suite) (ts a oe)) :
    PS X (.Try body [.ExceptHandler (some (.Name x np)) (some n) (b₀ :: suite) pos'] [] [] pos) (fun D σ H => tb (wCat X.K c ts Wout (fun a σ => σ.set i (some (.ref a)))
      (fun D => { nx := fun σ' H' => D.nx (σ'.set i none) H', rt := D.rt, bk := fun σ' H' => D.bk (σ'.set i none) H', ct := fun σ' H' => D.ct (σ'.set i none) H' }) D) D σ H) := by
  refine ⟨fun pins s σ H D I h => ?_⟩
  have ok := I.ok
  have hfr : X.A.frames = some (X.env :: X.outer) := by rw [ok.frames, hs]
  have hloc : Loc X.env.scope n := .inl hln
  refine wpAny_Try_except ?_
  refine wpAny_mono ((hb _ (X.pn ++ pins) (fun e s₁ => wpAny (model X.prog X.w) X.A (noteFrame e X.env) (fun _ s₂ => wpAny (model X.prog X.w) X.A (setFlight e none) (fun _ s₃ =>
    wpAny (model X.prog X.w) X.A (handleBy e X.env [.ExceptHandler (some (.Name x np)) (some n) (b₀ :: suite) pos']) (SP X pins D) X.xe s₃) X.xe s₂) X.xe s₁) (fun u s' xx => ?_) PassesOwn.looking).run [] s σ H D (I.toTry _) h) (fun f s1 hsp => ?_) (fun e s1 he => he)
  · obtain ⟨a, B, sI, pins', σ', H', cls, d, cv, rfl, J', nb, up, sky, na, ch, os, ag, b, hb1, hyes, hno⟩ := xx
    have J : Inv X pins σ' H' sI := J'.ofTry ok
    have sky' : Sky B (X.env :: X.outer) a (Zq cls d cv) X.env.locals s'.heap := by rw [← hs]; exact sky
    show wpAny (model X.prog X.w) X.A (noteFrame (.ref a) X.env) _ _ _
    refine L2N.Sky.land Zq.steady hfr hf sky' fun h3 fl3 up3 => ?_
    have J3 : Inv X pins σ' H' { s' with heap := h3 } := J.landed nb fl3.1 (up.trans up3) os ag
    obtain ⟨oe3, cp3, hz3, _, S3, _, _⟩ := suite_inv J3 hs hf fl3 na ch (fun _ _ => False)
    have he3 : h3.get? a = some oe3 := (S3.pin (a, oe3) (by simp)).1
    refine wpAny_handleBy_cons (codeAny_handlers_test ?_) (by intro q; cases q)
    have LT : PySem.W.Looks (model X.prog X.w) h3 (typeOf (.ref a)) cls := fun A Q E s k q => wpAny_typeOf_ref (k _ _ he3) (by rw [hz3.1]; exact q)
    have LM := PySem.W.exm_one (M := model X.prog X.w) (J3.kIn) LT hb1
    have test : ∀ {Q : Value → Shared → Prop} {E : Value → Shared → Prop}, Q c { s' with heap := h3 } → wpAny (model X.prog X.w) (X.A.mark (some (.ref a))) (eval (.Name x np) X.env) Q E { s' with heap := h3 } := fun {Q E} q => by
      obtain ⟨hg, hdbg, hm | ⟨hm, hv, hnn⟩⟩ := hc
      · exact ld_glob (X := X.suite a ((a, oe3) :: (cp3 ++ (X.pn ++ pins)))) S3 hg hm q hdbg
      · exact ld_blt (X := X.suite a ((a, oe3) :: (cp3 ++ (X.pn ++ pins)))) S3 hg hm hv q hnn hdbg
    refine test (LM.here ?_)
    cases b with
    | true =>
      refine codeAny_handlers_suite_as ?_
      refine HandSPX.lands_againZ fl3 fun h4 fl4 up4 => ?_
      have J4 : Inv X pins σ' H' { s' with heap := h4 } := J.landed nb fl4.1 ((up.trans up3).trans up4) os ag
      obtain ⟨oe, cp, hz, hfv, S4, hot, _⟩ := suite_inv J4 hs hf fl4 na ch (fun _ _ => False)
      have sub : ∀ p ∈ X.pn ++ pins, p ∈ (a, oe) :: (cp ++ (X.pn ++ pins)) := fun p h => List.mem_cons_of_mem _ (List.mem_append_right _ h)
      refine store_ok (X := X.suite a ((a, oe) :: (cp ++ (X.pn ++ pins)))) (v := .ref a) S4 hN hi hloc rfl (fun s5 S5 => ?_) (.inr hln)
      refine wpAny_mono ((hsu a oe _ List.mem_cons_self hot hfv).run [] s5 _ H' _ S5 (hyes rfl a oe na hz.1 hz.2.1)) (fun f s6 hsp => ?_) (fun _ _ z => False.elim z)
      have end_ : ∀ {σ6 : L2.St} {H6 : Hp} {Q : Shared → Prop}, Inv (X.suite a ((a, oe) :: (cp ++ (X.pn ++ pins)))) [] σ6 H6 s6 → (∀ s7, Inv X pins (σ6.set i none) H6 s7 → Q s7) →
          wpAny (model X.prog X.w) X.A (do bindName X.env n .none; unbindBehindTheSuite X.env n pos') (fun _ s7 => Q s7) X.xe s6 := fun {σ6 H6 Q} S6 hq => gone_ok (suite_back S6 ok sub) hN hi hln hq
      cases f with
      | next =>
        obtain ⟨σ6, H6, S6, q6⟩ := hsp
        exact end_ S6 fun s7 J7 => ⟨_, _, J7, q6⟩
      | brk =>
        obtain ⟨σ6, H6, S6, q6⟩ := hsp
        exact end_ S6 fun s7 J7 => ⟨_, _, J7, q6⟩
      | cont =>
        obtain ⟨σ6, H6, S6, q6⟩ := hsp
        exact end_ S6 fun s7 J7 => ⟨_, _, J7, q6⟩
      | ret u =>
        obtain ⟨v6, σ6, H6, S6, r6, q6⟩ := hsp
        exact end_ S6 fun s7 J7 => ⟨_, _, _, J7, r6, q6⟩
    | false => exact flies_on hs hf tk J nb (up.trans up3) fl3 na ch os ag (hno rfl)
  · have q := try_thru ok hsp
    cases f with
    | next => exact wpAny_execs_nil q
    | brk => exact q
    | cont => exact q
    | ret u => exact q
end
/-- raise C('..') while an exception is handled -/
theorem ps_raiseH {X : Cx} {W : WX} {e : Expr} {t : L2.St → Hp → XK → Prop} {pos : Pos} (hc : ∃ p ∈ X.pn, X.A.handled = some (.ref p.1) ∧ ∃ vs : Array Value, p.2.data = .fields vs ∧ vs[2]? = some .none) (tk : Takes true X W) (he : L2N.PMk X e t) :
    PS X (.Raise (some e) none pos) (fun _ σ H => t σ H fun cls d H' => W cls d σ H') := by
  refine ⟨fun pins s σ H D I h => ?_⟩
  obtain ⟨p, hp, hh, v1, e1, c1⟩ := hc
  show wpAny _ _ (do standAt pos; raiseStmt X.env (some (do let v ← eval e X.env; standAt pos; pure v)) none) _ _ _
  refine wpAny_bind (wpAny_standAt (raise_made_hot (x1 := p.1) (wpAny_bind (thn (he pins s σ H _ I h) fun u s1 hu => wpAny_bind (wpAny_standAt (wpAny_pure ?_))))))
  obtain ⟨a, oe, vs, sI, H', cls, d, rfl, J, k, hne, ha, hz, hd, h1, na, os, ag, r, q⟩ := hu
  obtain ⟨r1, r2⟩ := r (model X.prog X.w) s1.heap (J.kIn.keeps k)
  have P1 := J.pin p (List.mem_append_left _ hp)
  have nap : p.1 ≠ a := fun z => by
    have e := P1.1
    rw [z, hne] at e
    cases e
  have hi : 2 < vs.size := (Array.getElem?_eq_some_iff.mp (hz.2.2 vs hd)).1
  have h1' : (vs.setIfInBounds 2 (Value.ref p.1))[1]? = some Value.none := by
    rw [← h1]
    first
    | exact Array.getElem?_setIfInBounds_ne (by decide)
    | simp [Array.getElem?_setIfInBounds]
  have hx : CtxIs (.ref p.1) (oe.mapFields (·.setIfInBounds 2 (.ref p.1))) := fun ws ew => by
    rw [Obj.data_mapFields hd] at ew
    cases ew
    first
    | exact Array.getElem?_setIfInBounds_self_of_lt hi
    | simp [Array.getElem?_setIfInBounds, hi]
  refine ⟨a, oe, vs, cls, rfl, ha, hz.1, hd, h1, hi, nap, ⟨hh, p.2, v1, k _ _ P1.1, e1, c1⟩, r1, r2, tk _ _ (XE.new (c := .ref p.1) J (fun b u z => ?_) hne (Heap.get?_update_self _ ha (Obj.isFreed_of_fields (Obj.data_mapFields hd _))) ⟨(Obj.cls_mapFields ..).trans hz.1, (HandSPX.dict_mapFields ..).trans hz.2.1, hx⟩ (Obj.data_mapFields hd _) h1' na (.inr ⟨rfl, p.1, rfl, ⟨p.2, v1, P1.1, e1, c1⟩, P1.2.1⟩) os ag q)⟩
  have nab : a ≠ b := fun y => by
    rw [← y, hne] at z
    cases z
  show (s1.heap.update a (Obj.mapFields (·.setIfInBounds 2 (.ref p.1)))).get? b = some u
  rw [Heap.get?_update_other _ _ nab]
  exact k b u z
end K3
namespace K3
open PySem PySem.Spec PyProof.Rows L2 HotX
/-! ### defs by their names -/
/-- the def x promises sp, in k rooms -/
def FnG (L : Bool) (P : Program) (w : World) (K : PySem.W.Frag) (mg : Str → Option Value) (base : Heap) (k : Nat) (x : Str) (ps : List Str) (sp : Sp) : Prop :=
  ∃ (f : Addr) (fd : FuncData), mg x = some (.ref f) ∧ PySem.W.keepIn K (.ref f) = true ∧ FnOk P w K mg base (CX L P w) k f fd ps sp ∧ Binds K fd ps []
/-- the method m of C promises sp -/
def MeG (L : Bool) (P : Program) (w : World) (K : PySem.W.Frag) (mg : Str → Option Value) (base : Heap) (k : Nat) (C : Addr) (m : Str) (ps : List Str) (sp : Sp) : Prop :=
  ∃ (f : Addr) (fd : FuncData), Meth K C m f ∧ FnOk P w K mg base (CX L P w) k f fd ps sp ∧ Binds K fd ps []
/-- the def x stands at the top as the text has it -/
def DefAt (K : PySem.W.Frag) (mg : Str → Option Value) (x : Str) (st : Stmt) : Prop :=
  ∃ f : Addr, mg x = some (.ref f) ∧ PySem.W.keepIn K (.ref f) = true ∧ ∃ (oc : Value) (od : Option Addr) (kV doc pm : Value) (an : Option Addr) (cdv ct : Value) (osl : Array (Option Value)),
    K.lookup f = some ⟨oc, od, .func (PySem.W.fnOf x x (defArgs st) (defBody st) (defScope st) .none kV doc pm an cdv ct), osl⟩ ∧ PySem.W.codeIn K cdv x = true
def MetAt (K : PySem.W.Frag) (C : Addr) (m qual : Str) (st : Stmt) : Prop :=
  ∃ f : Addr, Meth K C m f ∧ ∃ (oc : Value) (od : Option Addr) (kV doc pm : Value) (an : Option Addr) (cdv ct : Value) (osl : Array (Option Value)),
    K.lookup f = some ⟨oc, od, .func (PySem.W.fnOf m qual (defArgs st) (defBody st) (defScope st) .none kV doc pm an cdv ct), osl⟩ ∧ PySem.W.codeIn K cdv qual = true
section
variable {L : Bool} {P : Program} {w : World} {K : PySem.W.Frag} {mg : Str → Option Value} {base : Heap} {k : Nat} {x : Str} {st : Stmt} {N ps : List Str} {sp : Sp}
theorem okG (D : DefAt K mg x st) (S : FnScope N ps (defScope st)) (len : ∀ vs H Q E, sp vs H Q E → vs.length = ps.length)
    (hb : ∀ (kV doc pm : Value) (an : Option Addr) (cdv ct : Value) (us : List Value), us.length = ps.length → bindArgs (PySem.W.fnOf x x (defArgs st) (defBody st) (defScope st) .none kV doc pm an cdv ct) ⟨us, []⟩ = pure (ps.zip us))
    (hbody : ∀ (f : Addr) (cdv : Value) (A : Around) (outer : List Env) (s : Shared) (H : Hp) (vs : List V) (Q : VK) (E : XK), Room k (A.deeper (envOfC x (defScope st) s.heap.objs.size f cdv)) → sp vs H Q E →
      ∃ t, PSs (cxOf (CX L P w) P w K mg base N x (defScope st) f cdv A outer s H E) (defBody st) t ∧ t { nx := fun _ H' => Q .non H', rt := Q } (L2.start N vs) H) : FnG L P w K mg base (k + 1) x ps sp := by
  obtain ⟨f, h1, h2, oc, od, kV, doc, pm, an, cdv, ct, osl, lk, hcd⟩ := D
  exact ⟨f, _, h1, h2, fn_of lk hcd S len fun A outer s H vs Q E hr hsp => hbody f cdv A outer s H vs Q E hr hsp, .all (hb kV doc pm an cdv ct)⟩
theorem okM {C : Addr} {m qual : Str} (D : MetAt K C m qual st) (S : FnScope N ps (defScope st)) (len : ∀ vs H Q E, sp vs H Q E → vs.length = ps.length)
    (hb : ∀ (kV doc pm : Value) (an : Option Addr) (cdv ct : Value) (us : List Value), us.length = ps.length → bindArgs (PySem.W.fnOf m qual (defArgs st) (defBody st) (defScope st) .none kV doc pm an cdv ct) ⟨us, []⟩ = pure (ps.zip us))
    (hbody : ∀ (f : Addr) (cdv : Value) (A : Around) (outer : List Env) (s : Shared) (H : Hp) (vs : List V) (Q : VK) (E : XK), Room k (A.deeper (envOfC qual (defScope st) s.heap.objs.size f cdv)) → sp vs H Q E →
      ∃ t, PSs (cxOf (CX L P w) P w K mg base N qual (defScope st) f cdv A outer s H E) (defBody st) t ∧ t { nx := fun _ H' => Q .non H', rt := Q } (L2.start N vs) H) : MeG L P w K mg base (k + 1) C m ps sp := by
  obtain ⟨f, h1, oc, od, kV, doc, pm, an, cdv, ct, osl, lk, hcd⟩ := D
  exact ⟨f, _, h1, fn_of lk hcd S len fun A outer s H vs Q E hr hsp => hbody f cdv A outer s H vs Q E hr hsp, .all (hb kV doc pm an cdv ct)⟩
theorem FnG.imp {sp' : Sp} (G : FnG L P w K mg base k x ps sp) (h : ∀ vs H Q E, sp' vs H Q E → sp vs H Q E) : FnG L P w K mg base k x ps sp' := by
  obtain ⟨f, fd, h1, h2, F, b⟩ := G
  exact ⟨f, fd, h1, h2, F.imp h, b⟩
end
section
variable {L : Bool} {X : Cx} {k n : Nat} {C : Addr} {ps : List Str} {sp : Sp} {E : L2.St → XK} {x m : Str} {p pos apos : Pos} {e o : Expr} {es : List Expr} {ta : TE} {t : TA}
/-- f(e, ..) -/
theorem pe_c (G : FnG L X.prog X.w X.K X.mg X.base k x ps sp) (hr : Room n X.A) (hx : ∀ σ, PassesAt (CX L X.prog X.w) X σ (E σ)) (ha : PA X (e :: es) t) (hk : k ≤ n := by decide) (hg : Gl X x := by rfl) (hdb : (x == ("__debug__" : Str)) = false := by decide)
    (he : starEach (e :: es) X.env = (false, eval e X.env) :: starEach es X.env := by rfl) (hpl : (backTo pos (starEach es X.env)).any (·.1) = false := by rfl) : PE X (.Call (.Name x p) (e :: es) [] pos) (tCallS sp E t) := by
  obtain ⟨f, fd, h1, h2, F, b⟩ := G
  exact pe_callS F (hr.mono hk) hg h1 h2 b hx ha hdb he hpl
def tMethG (C : Addr) (m : Str) (sp : Sp) (E : L2.St → XK) (ta : TE) (t : TA) : TE := fun σ H Q => ta σ H fun x H1 => ∃ a dx fs, x = .ref a ∧ H1 a = some (.ins C dx fs) ∧ fs.lookup m = none ∧ t σ H1 fun vs H2 => sp (x :: vs) H2 Q (E σ)
/-- o.m(e, ..) -/
theorem pe_mG {pl : Sem Bool} (he : PE X o ta) (c : Cls X.K C) (G : MeG L X.prog X.w X.K X.mg X.base k C m ps sp) (hr : Room n X.A) (hx : ∀ σ, PassesAt (CX L X.prog X.w) X σ (E σ)) (ha : PA X (e :: es) t) (hk : k ≤ n := by decide)
    (hst : starEach (e :: es) X.env = (false, eval e X.env) :: starEach es X.env := by rfl) (hpl : (backTo pos (starEach es X.env)).any (·.1) = false := by rfl)
    (ht : eval (.Call (.Attribute o m apos) (e :: es) [] pos) X.env = (do
      let ov ← eval o X.env
      standAt apos.atName
      let (f, first) ← holding [ov] (getMethod ov m pl)
      callWith pos f first (backTo pos (starEach (e :: es) X.env)) (backToKw pos (keywordEach [] X.env))) := by rfl) :
    PE X (.Call (.Attribute o m apos) (e :: es) [] pos) (tMethG C m sp E ta t) := by
  obtain ⟨f, fd, hm, F, b⟩ := G
  refine ⟨fun pins s σ H Q I h => ?_⟩
  refine PySem.W.methodCall_KW (pl := pl) (thn (he.run pins s σ H _ I h) fun u s1 ⟨x, H1, I1, rx, a, dx, fs, ex, ea, l, q⟩ => ?_) ht
  subst ex
  obtain rfl : u = Value.ref a := rx
  refine getmeth_ok I1 ea c hm l ?_
  refine PySem.W.callWith_K (first := [.ref a]) (h₀ := X.base) I.ok.mod.kin hm.kp (thn (ha.run pos pins s1 σ H1 _ I1 q) fun us s2 ⟨vs, H2, I2, r, q2⟩ => ⟨I2.kIn, ?_⟩) hst hpl
  exact run_fnS (us := .ref a :: us) (vs := .ref a :: vs) F (hr.mono hk) b (hx σ) I2 (.cons rfl r) q2
def tMakeG (C : Addr) (sp : Sp) (E : L2.St → XK) (t : TA) : TE := fun σ H Q => t σ H fun vs H1 => ∀ x dx, H1 x = none → H1 dx = none → dx ≠ x →
  sp (.ref x :: vs) (upd (upd H1 dx (.own x)) x (.ins C dx [])) (fun v H2 => v = .non ∧ Q (.ref x) H2) (E σ)
/-- what a class must have to be made, with its own __init__ -/
def MkG (L : Bool) (P : Program) (w : World) (K : PySem.W.Frag) (mg : Str → Option Value) (base : Heap) (k : Nat) (C : Addr) (ps : List Str) (sp : Sp) : Prop :=
  ∃ (f : Addr) (fd : FuncData), Mk K C f ∧ FnOk P w K mg base (CX L P w) k f fd ps sp ∧ Binds K fd ps []
theorem pe_mkG (G : MkG L X.prog X.w X.K X.mg X.base k C ps sp) (hr : Room n X.A) (hm : X.mg x = some (.ref C)) (hx : ∀ σ, PassesAt (CX L X.prog X.w) X σ (E σ)) (ha : PA X (e :: es) t) (hk : k + 1 ≤ n := by decide) (hg : Gl X x := by rfl) (hdb : (x == ("__debug__" : Str)) = false := by decide)
    (he : starEach (e :: es) X.env = (false, eval e X.env) :: starEach es X.env := by rfl) (hpl : (backTo pos (starEach es X.env)).any (·.1) = false := by rfl) : PE X (.Call (.Name x p) (e :: es) [] pos) (tMakeG C sp E t) := by
  obtain ⟨f, fd, M, F, hb⟩ := G
  refine ⟨fun pins s σ H Q I h => ?_⟩
  refine wpAny_Call_Name_kw (ld_glob I hg hm ?_ hdb)
  refine PySem.W.callWith_K (h₀ := X.base) I.ok.mod.kin M.kp (thn (ha.run pos pins s σ H _ I h) fun us s1 ⟨vs, H1, I1, r, q⟩ => ⟨I1.kIn, ?_⟩) he hpl
  have hq := q (s1.heap.objs.size + 1) s1.heap.objs.size (I1.hok.fresh (Nat.le_succ _)) (I1.hok.fresh (Nat.le_refl _)) (Nat.ne_of_lt (Nat.lt_succ_self _))
  have I2 := Inv.made (C := C) I1
  have r2 : Vals (V.ref (s1.heap.objs.size + 1) :: vs) (Value.ref (s1.heap.objs.size + 1) :: us) := .cons rfl r
  have hl : (Value.ref (s1.heap.objs.size + 1) :: us).length = ps.length := by
    have e := r2.length
    rw [F.len _ _ _ _ hq] at e
    exact e.symm
  have b := hb _ (Value.ref (s1.heap.objs.size + 1) :: us) I2.kIn (by rw [List.append_nil]; exact hl)
  rw [List.append_nil] at b
  refine wpAny_call (make_map (f := f) I1.kIn M.makes M.init (beq_iff_eq.mp M.fn) (codeAny_mono (F.run _ X.stack _ _ ⟨Value.ref (s1.heap.objs.size + 1) :: us, []⟩ (Value.ref (s1.heap.objs.size + 1) :: us) _ _ (E σ) ((hr.mono hk).make C us [])
    (I2.env0.make C us []) b r2 hq) fun r s' hq' => ?_))
  cases r with
  | error e => exact hx σ pins _ _ e s' I2 hq'
  | ok fl =>
    cases fl with
    | ret u =>
      obtain ⟨v, H', I3, rv, ev, q3⟩ := I2.after hq'
      subst ev
      exact ⟨rv, ⟨V.ref (s1.heap.objs.size + 1), H', I3, rfl, q3⟩⟩
    | next => exact False.elim hq'
    | brk => exact False.elim hq'
    | cont => exact False.elim hq'
end
/-! ### texts repeated -/
def repS (z : Str) (n : Nat) : Str := ⟨(List.replicate n z.cps).foldl (· ++ ·) #[]⟩
theorem fold_size (z : Array Nat) : ∀ (n : Nat) (acc : Array Nat), ((List.replicate n z).foldl (· ++ ·) acc).size = acc.size + n * z.size
  | 0, acc => by simp
  | n + 1, acc => by
    rw [List.replicate_succ, List.foldl_cons, fold_size z n, Array.size_append, Nat.add_mul]
    omega
theorem op_mulS {X : Cx} : OpR X (binaryOp .Mult) (fun x y H Q => ∃ (z : Str) (n : Nat), x = .str z ∧ y = .int n ∧ n ≤ 100 ∧ 0 < z.length ∧ z.length ≤ 100 ∧ Q (.str (repS z n)) H) := by
  intro pins s σ H x y v u Q I rx ry h
  obtain ⟨z, n, rfl, rfl, hn, hz0, hz, q⟩ := h
  obtain ⟨t, rfl⟩ := rx
  obtain ⟨t', rfl⟩ := ry
  have hz' : (z.length == 0) = false := by
    rw [beq_eq_false_iff_ne]
    omega
  have line : z.length * n ≤ 10000 := Nat.mul_le_mul hz hn
  have hsz : sizeLine = 16777216 := sizeLine_eq
  have tl : ∀ k : Nat, k ≤ 10000 → Builtin.Str.tooLong k = false := fun k hk => by
    unfold Builtin.Str.tooLong
    first
    | exact decide_eq_false (by omega)
    | (simp only [decide_eq_false_iff_not]; omega)
  refine PySem.P.mul_str ?_ (fun h1 _ => ?_) (fun h1 _ => ?_) ?_
  · rw [decide_eq_false (by omega), decide_eq_false (by omega)]
    rfl
  · have h3 : ((n : Int)) ≤ 100 := by omega
    have h4 : (92233720368547758 : Int) ≤ (2 ^ 63 - 1) / (n : Int) := by
      apply (Int.le_ediv_iff_mul_le (by omega)).mpr
      have : (92233720368547758 : Int) * (n : Int) ≤ 92233720368547758 * 100 := Int.mul_le_mul_of_nonneg_left h3 (by decide)
      omega
    omega
  · rw [Int.toNat_natCast]
    exact tl _ line
  · by_cases c1 : n = 0
    · subst c1
      rw [if_pos (by decide)]
      exact ⟨by show (0 : Nat) ≤ sizeLine; exact Nat.zero_le _, .str _, H, I.tok _, ⟨_, rfl⟩, q⟩
    · rw [if_neg (by omega)]
      by_cases c2 : n = 1
      · subst c2
        have e1 : repS z 1 = z := by
          unfold repS
          simp
        rw [if_pos (by simp)]
        rw [e1] at q
        exact ⟨.str z, H, I, ⟨_, rfl⟩, q⟩
      · rw [if_neg (by rw [hz', Bool.or_false]; simp; omega), Int.toNat_natCast]
        refine ⟨?_, .str _, H, I.tok _, ⟨_, rfl⟩, q⟩
        show Array.size _ ≤ sizeLine
        have e2 := fold_size z.cps n #[]
        have e3 : n * z.cps.size ≤ 10000 := by rw [Nat.mul_comm]; exact line
        have e4 : (#[] : Array Nat).size = 0 := rfl
        exact Nat.le_trans (Nat.le_of_eq e2) (by omega)
/-! ### zip of a list and a text -/
def Itzs (K : PySem.W.Frag) (a : Addr) (t : Str) : It :=
  ⟨fun i H => ∃ (xs : List V) (x : V), SqL K H a xs ∧ xs[i]? = some x ∧ i < t.cps.size,
    fun i H v H' => ∃ T x c, v = .ref T ∧ H T = none ∧ H' = upd H T (.tup [x, .str ⟨#[c]⟩]) ∧ (∀ xs, SqL K H a xs → xs[i]? = some x) ∧ t.cps[i]? = some c,
    fun i H => ∃ xs : List V, SqL K H a xs ∧ i ≤ xs.length ∧ i ≤ t.cps.size ∧ (i = xs.length ∨ i = t.cps.size)⟩
theorem turn_zipS {P : Program} {w : World} {K : PySem.W.Frag} {elts : List Expr} {kk : Nat} {tpos : Pos} {a z TI TO i1 i2 : Addr} {x : Str} {tk : Tok} (D : ZipSep2 z TI TO i1 i2 [i1, a] [i2]) (ha : a ≠ i1) :
    Turn P w K (.Tuple elts kk tpos) (Itzs K a x) [z, TI, TO, i1, i2] z (fun i h => IsZip h z TI TO .none ∧ IsTupOf2 h TI (.ref i1) (.ref i2) ∧ (∃ x y, IsTupOf2 h TO x y) ∧ h.IsListIter i1 a i ∧ h.IsStrIter i2 (strIterType x) x tk i) where
  mem := by simp
  obj := fun i h st c hc => by
    obtain ⟨hz, hTI, ⟨x, y, hTO⟩, ⟨o1, e1, _, d1⟩, ⟨o2, e2, _, d2⟩⟩ := st
    have e' : c = z ∨ c = TI ∨ c = TO ∨ c = i1 ∨ c = i2 := by simpa using hc
    rcases e' with q | q | q | q | q
    · rw [q]; exact ⟨_, hz, fun v q => nomatch q⟩
    · rw [q]; exact ⟨_, hTI, fun v q => nomatch q⟩
    · rw [q]; exact ⟨_, hTO, fun v q => nomatch q⟩
    · rw [q]; exact ⟨o1, e1, fun v q => by rw [d1] at q; cases q⟩
    · rw [q]; exact ⟨o2, e2, fun v q => by rw [d2] at q; cases q⟩
  keep := fun i h h' st k => by
    obtain ⟨hz, hTI, ⟨x, y, hTO⟩, ⟨o1, e1, r1⟩, ⟨o2, e2, r2⟩⟩ := st
    exact ⟨k z (by simp) _ hz, k TI (by simp) _ hTI, ⟨x, y, k TO (by simp) _ hTO⟩, ⟨o1, k i1 (by simp) o1 e1, r1⟩, ⟨o2, k i2 (by simp) o2 e2, r2⟩⟩
  item := by
    intro X hP hw hK hc i pins s σ H E I hf st hg
    subst hP hw hK
    obtain ⟨hz, hTI, ⟨x0, y0, hTO⟩, h1, h2⟩ := st
    obtain ⟨xs, y, hqx, hx, hlt⟩ := hg
    obtain ⟨its, rv, p, _⟩ := I.list hqx
    have hl := rv.length
    have hix : i < xs.length := (List.getElem?_eq_some_iff.mp hx).1
    have hzl : z < s.heap.objs.size := Heap.lt_size hz
    have hh : X.A.in1.handled = none := I.ok.hd hc
    refine wpAny_pyNext_zipD2_item D (Draws.list hh i1 a ha its.toArray) (Draws.text hh i2 x tk) hz hTI hTO ⟨h1, p.isList⟩ h2 (by simp; omega) hlt fun x1 x2 h' tk' y1 y2 z' TO' st1' st2' hT hsz hk => ?_
    obtain ⟨c, u, hcx, rfl⟩ := y2
    refine ⟨_, rfl, wpAny_letOwnedTupleGo_zip (s := { s with heap := h', toks := tk' }) z' fun h'' z'' sb => ?_⟩
    have hT2 : h''.get? s.heap.objs.size = some { cls := .type "tuple", data := .seq #[x1, .str ⟨#[c]⟩ u] } := (sb.2 _ (Nat.ne_of_gt hzl)).trans hT
    have ru : RelV y x1 := by
      obtain ⟨u1, hu1, ru1⟩ := rv.get hx
      have e1 : its[i]? = some x1 := by simpa using y1
      rw [hu1] at e1
      cases e1
      exact ru1
    have new : ObjOk X.prog X.w (upd H s.heap.objs.size (.tup [y, .str ⟨#[c]⟩])) h'' s.heap.objs.size (.tup [y, .str ⟨#[c]⟩]) :=
      ⟨by show 2 ≤ sizeLine; decide, [x1, .str ⟨#[c]⟩ u], .cons ru (.cons ⟨u, rfl⟩ .nil), ⟨_, hT2, rfl, _, rfl⟩⟩
    have I1 : Inv X pins σ (upd H s.heap.objs.size (.tup [y, .str ⟨#[c]⟩])) { s with heap := h'', toks := tk' } :=
      I.turnedNew (t' := tk') (ch := [z, TI, TO, i1, i2]) (fun c o hb q => (sb.2 c (fun q' => hb (by simp [q']))).trans (hk c o (fun q' => hb (by simp [q'])) (fun q' => hb (by simp [q'])) (fun q' => hb (by simp [q'])) (fun q' => hb (by simp [q'])) q)) hf (Nat.le_refl _) new
    have iz1 : i1 ≠ z := fun q => D.zf1 (by rw [← q]; exact D.mem1)
    have iz2 : i2 ≠ z := fun q => D.zf2 (by rw [← q]; exact D.mem2)
    obtain ⟨⟨o1, e1, r1⟩, _⟩ := st1'
    obtain ⟨o2, e2, r2⟩ := st2'
    refine ⟨.ref s.heap.objs.size, _, I1, rfl, ⟨_, y, c, rfl, I.hok.fresh (Nat.le_refl _), rfl, fun l hl => by rw [I.list_inj hl hqx]; exact hx, hcx⟩, ⟨z'', ?_, ⟨x1, .str ⟨#[c]⟩ u, ?_⟩, ⟨o1, (sb.2 _ iz1).trans e1, r1⟩, ⟨o2, (sb.2 _ iz2).trans e2, r2⟩⟩, fun c hcm => ?_⟩
    · have T1 : TI ≠ i1 := D.TIi1
      exact (sb.2 _ D.TIz).trans (hk _ _ D.TIz D.TITO D.TIi1 D.TIi2 hTI)
    · exact (sb.2 _ D.TOz).trans TO'
    · have hlt : c < s.heap.objs.size := by
        have e' : c = z ∨ c = TI ∨ c = TO ∨ c = i1 ∨ c = i2 := by simpa using hcm
        rcases e' with q | q | q | q | q
        · rw [q]; exact hzl
        · rw [q]; exact Heap.lt_size hTI
        · rw [q]; exact Heap.lt_size hTO
        · rw [q]; obtain ⟨_, e1, _⟩ := h1; exact Heap.lt_size e1
        · rw [q]; obtain ⟨_, e2, _⟩ := h2; exact Heap.lt_size e2
      rw [upd_ne (Nat.ne_of_lt hlt)]
      exact (hf c hcm).1
  done := by
    intro X hP hw hK hc i pins s σ H E I hf st hg
    subst hP hw hK
    obtain ⟨hz, hTI, ⟨x0, y0, hTO⟩, h1, h2⟩ := st
    obtain ⟨xs, hqx, hl1, hl2, hend⟩ := hg
    obtain ⟨its, rv, p, _⟩ := I.list hqx
    have l1 := rv.length
    have hh : X.A.in1.handled = none := I.ok.hd hc
    exact wpAny_pyNext_zipD2_end D (Draws.list hh i1 a ha its.toArray) (Draws.text hh i2 x tk) hz hTI hTO ⟨h1, p.isList⟩ h2 (by simp; omega) hl2 (by simp; omega) fun h' tk' hk => ⟨rfl, I.turnedL (t' := tk') (ch := [z, TI, TO, i1, i2]) (fun c o hb q =>
      hk c o (fun q' => hb (by simp [q'])) (fun q' => hb (by simp [q'])) (fun q' => hb (by simp [q'])) (fun q' => hb (by simp [q'])) q) hf⟩
  self := fun A i s Q E st h => wpAny_pyIter_zip st.1 h
def iZipS (K : PySem.W.Frag) (ta : TA) : TI := fun σ H R => ta σ H fun vs H1 => ∃ a x xs, vs = [.ref a, .str x] ∧ SqL K H1 a xs ∧ R (Itzs K a x) H1
theorem pi_zipS {X : Cx} {e e2 : Expr} {ta : TA} {p pos tpos : Pos} {elts : List Expr} {kk : Nat} (hg : Gl X "zip") (hm : X.mg "zip" = none) (ha : PA X [e, e2] ta)
    (hs : starEach [e, e2] X.env = (false, eval e X.env) :: starEach [e2] X.env := by rfl) (hpl : (backTo pos (starEach [e2] X.env)).any (·.1) = false := by rfl) :
    PI X (.Tuple elts kk tpos) (.Call (.Name "zip" p) [e, e2] [] pos) (iZipS X.K ta) := by
  refine ⟨fun pins s σ H R I h => ?_⟩
  refine Call_ (ld_blt I hg hm PyProof.Rows.boot_zip (PyProof.Rows.callWith_type1 (thn (ha.run pos pins s σ H _ I h) fun us s1 ⟨vs, H1, I1, r1, q1⟩ => ?_) hs hpl))
  obtain ⟨a, x, xs, rfl, hqx, q⟩ := q1
  obtain ⟨u1, u2, rfl, ra, rx⟩ := vals2 r1
  cases ra
  obtain ⟨tk, rfl⟩ := rx
  obtain ⟨its, rv, p1, _⟩ := I1.list hqx
  have la : a < s1.heap.objs.size := p1.lt
  refine zip_begins2 (begins_list a its.toArray) (begins_text x tk) p1.isList trivial fun h' hz hTI hTO h1 h2 hsz hk => wpAny_pyIter_zip hz ?_
  have I2 : Inv X pins σ H1 { s1 with heap := h' } := I1.kept (t' := s1.toks) hk
  refine ⟨s1.heap.objs.size + 4, [s1.heap.objs.size + 4, s1.heap.objs.size + 2, s1.heap.objs.size + 3, s1.heap.objs.size, s1.heap.objs.size + 1], _, _, H1, rfl, I2,
    turn_zipS (x := x) (tk := tk) (zip_sep2 (N := s1.heap.objs.size) (fp1 := [a]) (fp2 := []) (fun b hb => (List.mem_singleton.mp hb).symm ▸ la) (fun b hb => absurd hb (by simp))) (Nat.ne_of_lt la), ⟨hz, hTI, ⟨_, _, hTO⟩, ⟨_, h1, rfl, rfl⟩, ⟨_, h2, rfl, rfl⟩⟩, fun c hcm => ?_, q⟩
  have e' : c = s1.heap.objs.size + 4 ∨ c = s1.heap.objs.size + 2 ∨ c = s1.heap.objs.size + 3 ∨ c = s1.heap.objs.size ∨ c = s1.heap.objs.size + 1 := by simpa using hcm
  have hle : s1.heap.objs.size ≤ c := by
    rcases e' with z | z | z | z | z
    · rw [z]; exact Nat.le_add_right _ _
    · rw [z]; exact Nat.le_add_right _ _
    · rw [z]; exact Nat.le_add_right _ _
    · rw [z]; exact Nat.le_refl _
    · rw [z]; exact Nat.le_add_right _ _
  exact I1.fpOk hle (I1.hok.fresh hle)
end K3
namespace K3
open PySem PySem.Spec PyProof.Rows L2 HotX
/-! ### defs that run while an exception is handled -/
/-- the pins bear what A handles -/
def HotL (A : Around) (pn : List (Addr × Obj)) : Prop := ∃ p ∈ pn, A.handled = some (.ref p.1) ∧ ∃ vs : Array Value, p.2.data = .fields vs ∧
  (vs[2]? = some .none ∨ ∃ p2 ∈ pn, vs[2]? = some (.ref p2.1) ∧ ∃ vs2 : Array Value, p2.2.data = .fields vs2 ∧ vs2[2]? = some .none)
/-- a def's promise there; q: the exception that it is handed -/
structure FnHot (P : Program) (w : World) (K : PySem.W.Frag) (mg : Str → Option Value) (base : Heap) (CX : CXT) (k : Nat) (f : Addr) (fd : FuncData) (ps : List Str) (sp : Addr × Obj → Sp) : Prop where
  len : ∀ q vs H Q E, sp q vs H Q E → vs.length = ps.length
  run : ∀ (A : Around) (outer : List Env) (s : Shared) (H : Hp) (args : Args) (us : List Value) (vs : List V) (Q : VK) (E : XK) (pn : List (Addr × Obj)) (q : Addr × Obj), L2H.RoomH k A → HotL A pn → q ∈ pn → (∃ vs, q.2.data = .fields vs) → (∀ p ∈ pn, L2H.PinOk outer H s p) → Env0 P w K mg base A outer s H →
    BindsTo s fd args (ps.zip us) → Vals vs us → sp q vs H Q E → codeAny (model P w) A (.call (.ref f) args) (CR CX outer P w H s Q E) s
def cxHot (CX : CXT) (P : Program) (w : World) (K : PySem.W.Frag) (mg : Str → Option Value) (base : Heap) (N : List Str) (qual : Str) (scope : Scope) (f : Addr) (cd : Value) (A : Around) (outer : List Env) (s : Shared) (H : Hp) (E : XK) (pn : List (Addr × Obj)) : Cx :=
  { cxOf CX P w K mg base N qual scope f cd A outer s H E with calm := false, pn := pn }
theorem inv_startHot {CX : CXT} {P : Program} {w : World} {K : PySem.W.Frag} {mg : Str → Option Value} {base : Heap} {N ps : List Str} {qual : Str} {scope : Scope} {f : Addr} {cd : Value} {A : Around} {outer : List Env} {s s1 : Shared} {H : Hp} {E : XK} {us : List Value} {vs : List V}
    (S : FnScope N ps scope) {pn : List (Addr × Obj)} {p : Addr × Obj} (hp : p ∈ pn) (hpin : ∀ p ∈ pn, L2H.PinOk outer H s p) (e0 : Env0 P w K mg base A outer s H) (hl : vs.length = ps.length) (r : Vals vs us)
    (x : InCallC s s.heap.objs.size (bindL (envOfC qual scope s.heap.objs.size f cd).kindOf (ps.zip us) fun _ => none) (cellsFrom (s.heap.objs.size + 1) scope.names []) (bindC (envOfC qual scope s.heap.objs.size f cd).kindOf (ps.zip us) fun _ => none) s1) :
    Inv (cxHot CX P w K mg base N qual scope f cd A outer s H E pn) [] (L2.start N vs) H s1 := by
  have I := L2H.inv_startH (CX := CX) (E := E) S (hpin p hp) e0 hl r x
  obtain ⟨h1, tk, rfl, hk⟩ := x.done
  have ok := I.ok
  refine ⟨⟨ok.mod, ok.kind, ok.glob, ok.blt, ok.above, ok.inj, ok.has, ok.cab, (fun z => absurd (show false = true from z) Bool.false_ne_true), ok.frames, ok.stk, ok.exf, ok.bs, ok.bsz, ok.noex, ok.exfs, ok.funs, ok.frf⟩, I.os, I.bare, I.base, I.loc, I.cell, I.free, I.freeC, fun q hq => ?_, I.hok, I.len⟩
  have hq' : q ∈ pn := by
    have z : q ∈ pn ++ ([] : List (Addr × Obj)) := hq
    rwa [List.append_nil] at z
  have hp' := hpin q hq'
  exact ⟨hk q.1 q.2 hp'.get, hp'.free, Nat.ne_of_lt (Heap.lt_size hp'.get), hp'.nofs, hp'.nocell⟩
theorem fn_ofHot {CX : CXT} {P : Program} {w : World} {K : PySem.W.Frag} {mg : Str → Option Value} {base : Heap} {k : Nat} {f : Addr} {name qual : Str} {params : Arguments} {body : List Stmt} {scope : Scope} {dV kV doc pm cdv ct oc : Value} {an od : Option Addr}
    {osl : Array (Option Value)} {N ps : List Str} {sp : Addr × Obj → Sp} (lk : K.lookup f = some ⟨oc, od, .func (PySem.W.fnOf name qual params body scope dV kV doc pm an cdv ct), osl⟩) (hcd : PySem.W.codeIn K cdv qual = true) (S : FnScope N ps scope)
    (len : ∀ q vs H Q E, sp q vs H Q E → vs.length = ps.length)
    (hbody : ∀ (A : Around) (outer : List Env) (s : Shared) (H : Hp) (vs : List V) (Q : VK) (E : XK) (pn : List (Addr × Obj)) (q : Addr × Obj), HotC (cxHot CX P w K mg base N qual scope f cdv A outer s H E pn) → q ∈ pn → (∃ vs, q.2.data = .fields vs) → L2H.RoomH k (A.deeper (envOfC qual scope s.heap.objs.size f cdv)) → sp q vs H Q E →
      ∃ t, PSs (cxHot CX P w K mg base N qual scope f cdv A outer s H E pn) body t ∧ t { nx := fun _ H' => Q .non H', rt := Q } (L2.start N vs) H) :
    FnHot P w K mg base CX (k + 1) f (PySem.W.fnOf name qual params body scope dV kV doc pm an cdv ct) ps sp := by
  refine ⟨len, fun A outer s H args us vs Q E pn q hr hot hq hfv hpin e0 hb r hsp => ?_⟩
  have hl := len _ _ _ _ _ hsp
  have KX : K.In s.heap := e0.mod.kin.keeps fun b o e => (e0.bs b o e).1
  have lim : s.heap.NoLimit := e0.mod.nolimit.keeps fun b o e => (e0.bs b o e).1
  have hkind : ∀ y ∈ ps.zip us, scope.names.lookup y.1 = some .local ∨ (scope.names.lookup y.1 = some .cell ∧ ((cellsFrom (s.heap.objs.size + 1) scope.names []).lookup y.1).isSome = true) := fun ⟨n, v⟩ hy => by
    rcases S.par n (List.of_mem_zip hy).1 with q | q
    · exact .inl q
    · exact .inr ⟨q, PySem.W.cellsFrom_some _ _ _ (.inl q)⟩
  refine codeAny_call_function hr.depth (KX _ _ lk) rfl S.co S.gen rfl (PySem.W.codeRec_of KX hcd) (hb _ _ _ _ ?_)
  refine wpAny_newFunctionEnv_cells S.kind hkind fun env he s1 x => ?_
  subst he
  refine ⟨lim.keeps x.toInCall.keep, codeAny_func ?_⟩
  obtain ⟨t, ht, hq2⟩ := hbody A outer s H vs Q E pn q hot hq hfv (hr.deeper _) hsp
  have I : Inv (cxHot CX P w K mg base N qual scope f cdv A outer s H E pn) [] (L2.start N vs) H s1 := inv_startHot S hq hpin e0 hl r x
  refine wpAny_mono (ht.run [] s1 (L2.start N vs) H _ I hq2) (fun fl s' hs => ?_) fun e s' hs => hs
  have fin : ∀ {σ' : L2.St} {H' : Hp} {v : V} {u : Value}, Inv (cxHot CX P w K mg base N qual scope f cdv A outer s H E pn) [] σ' H' s' → RelV v u → Q v H' → CE outer P w H s Q u s' :=
    fun {σ' H' v u} J rv q => ⟨v, H', J.os, J.bare, J.base, J.hok, rv, q⟩
  cases fl with
  | ret u =>
    obtain ⟨v, σ', H', J, rv, q⟩ := hs
    exact fin J rv q
  | next =>
    obtain ⟨σ', H', J, q⟩ := hs
    exact fin (v := V.non) (u := Value.none) J rfl q
  | brk =>
    obtain ⟨_, _, _, q⟩ := hs
    exact False.elim q
  | cont =>
    obtain ⟨_, _, _, q⟩ := hs
    exact False.elim q
def FnHG (P : Program) (w : World) (K : PySem.W.Frag) (mg : Str → Option Value) (base : Heap) (k : Nat) (x : Str) (ps : List Str) (sp : Addr × Obj → Sp) : Prop :=
  ∃ (f : Addr) (fd : FuncData), mg x = some (.ref f) ∧ PySem.W.keepIn K (.ref f) = true ∧ FnHot P w K mg base (CX true P w) k f fd ps sp ∧ Binds K fd ps []
theorem okH {P : Program} {w : World} {K : PySem.W.Frag} {mg : Str → Option Value} {base : Heap} {k : Nat} {x : Str} {st : Stmt} {N ps : List Str} {sp : Addr × Obj → Sp} (D : DefAt K mg x st) (S : FnScope N ps (defScope st)) (len : ∀ q vs H Q E, sp q vs H Q E → vs.length = ps.length)
    (hb : ∀ (kV doc pm : Value) (an : Option Addr) (cdv ct : Value) (us : List Value), us.length = ps.length → bindArgs (PySem.W.fnOf x x (defArgs st) (defBody st) (defScope st) .none kV doc pm an cdv ct) ⟨us, []⟩ = pure (ps.zip us))
    (hbody : ∀ (f : Addr) (cdv : Value) (A : Around) (outer : List Env) (s : Shared) (H : Hp) (vs : List V) (Q : VK) (E : XK) (pn : List (Addr × Obj)) (q : Addr × Obj), HotC (cxHot (CX true P w) P w K mg base N x (defScope st) f cdv A outer s H E pn) → q ∈ pn → (∃ vs, q.2.data = .fields vs) → L2H.RoomH k (A.deeper (envOfC x (defScope st) s.heap.objs.size f cdv)) → sp q vs H Q E →
      ∃ t, PSs (cxHot (CX true P w) P w K mg base N x (defScope st) f cdv A outer s H E pn) (defBody st) t ∧ t { nx := fun _ H' => Q .non H', rt := Q } (L2.start N vs) H) : FnHG P w K mg base (k + 1) x ps sp := by
  obtain ⟨f, h1, h2, oc, od, kV, doc, pm, an, cdv, ct, osl, lk, hcd⟩ := D
  exact ⟨f, _, h1, h2, fn_ofHot lk hcd S len fun A outer s H vs Q E pn q hot hq hfv hr hsp => hbody f cdv A outer s H vs Q E pn q hot hq hfv hr hsp, .all (hb kV doc pm an cdv ct)⟩
section
variable {X : Cx} {k n : Nat} {ps : List Str} {sp : Addr × Obj → Sp} {E : L2.St → XK} {x : Str} {p pos : Pos} {e : Expr} {es : List Expr} {t : TA}
/-- f(e, ..) while an exception is handled; q: the pin that f is handed -/
theorem pe_cH (G : FnHG X.prog X.w X.K X.mg X.base k x ps sp) (hr : L2H.RoomH n X.A) (hc : HotC X) (q : Addr × Obj) (hq : q ∈ X.pn) (hfv : ∃ vs, q.2.data = .fields vs) (hx : ∀ σ, PassesAt (CX true X.prog X.w) X σ (E σ)) (ha : PA X (e :: es) t) (hk : k ≤ n := by decide) (hg : Gl X x := by rfl) (hdb : (x == ("__debug__" : Str)) = false := by decide)
    (he : starEach (e :: es) X.env = (false, eval e X.env) :: starEach es X.env := by rfl) (hpl : (backTo pos (starEach es X.env)).any (·.1) = false := by rfl) : PE X (.Call (.Name x p) (e :: es) [] pos) (tCallS (sp q) E t) := by
  obtain ⟨f, fd, h1, h2, F, hb⟩ := G
  refine ⟨fun pins s σ H Q I h => ?_⟩
  refine wpAny_Call_Name_kw (ld_glob I hg h1 ?_ hdb)
  refine PySem.W.callWith_K (h₀ := X.base) I.ok.mod.kin h2 (thn (ha.run pos pins s σ H _ I h) fun us s1 ⟨vs, H1, I1, r, q1⟩ => ⟨I1.kIn, ?_⟩) he hpl
  have hl : us.length = ps.length := by rw [← r.length]; exact F.len _ _ _ _ _ q1
  have b := hb s1 us I1.kIn (by rw [List.append_nil]; exact hl)
  rw [List.append_nil] at b
  have hpin : ∀ p ∈ X.pn, L2H.PinOk X.stack H1 s1 p := fun p hp => by
    have P1 := I1.pin p (List.mem_append_left _ hp)
    exact ⟨P1.1, P1.2.1, fun hm => (List.mem_cons.mp (I1.stkSub p.1 hm)).elim P1.2.2.1 P1.2.2.2.1, P1.2.2.2.2⟩
  refine wpAny_call (codeAny_mono (F.run X.A X.stack s1 H1 ⟨us, []⟩ us vs Q (E σ) X.pn q (hr.mono hk) hc hq hfv hpin I1.env0 b r q1) fun r s' hq => ?_)
  cases r with
  | error e => exact hx σ pins H1 s1 e s' I1 hq
  | ok fl =>
    cases fl with
    | ret u => exact I1.after hq
    | next => exact False.elim hq
    | brk => exact False.elim hq
    | cont => exact False.elim hq
theorem hotBlk {L : Bool} {s : Shared} {H : Hp} {scope : Scope} {cenv : Env} {fp : List Addr} {E : XK} (h : HotC X) : HotC (blkW L X s H scope cenv fp E) := h
/-- isinstance(e, c), e a pinned exception -/
theorem call_isP {X : Cx} {a D : Addr} {oe : Obj} (hp : (a, oe) ∈ X.pn) (C : ExcC X.K D) (hz : Zc (.ref D) none oe) (hf : ∃ vs, oe.data = .fields vs) : CallR X (.builtin "isinstance") (rIsE X.K D a) := by
  intro pins s σ H xs us Q I r h
  obtain ⟨c, cv, b, rfl, hcv, e, q⟩ := h
  cases r with
  | cons rx rr =>
    cases rr with
    | cons rt rr =>
      cases rr
      cases rx
      have ec := hcv _ rt
      subst ec
      obtain ⟨hget, _⟩ := I.pin (a, oe) (List.mem_append.mpr (.inl hp))
      obtain ⟨vs, hv⟩ := hf
      have J : PySem.W.InstAt s.heap a oe D none := by
        obtain ⟨oc, od, oda, osl⟩ := oe
        obtain ⟨h1, h2⟩ := hz
        dsimp only at h1 h2 hv
        subst h1 h2 hv
        exact ⟨hget, rfl, rfl, trivial⟩
      exact PySem.W.kia_one (PySem.W.handS_kitx_exc C.hg C.hk C.hs C.hd C.ha C.hn C.ht C.hm) I.kIn J e (fun z => nomatch z) fun tk => ⟨.bl b, H, I.kept (t' := tk) fun _ _ z => z, rfl, q⟩
/-- len(s), s a set of tuples of ints -/
def rLenST (K : PySem.W.Frag) (P : Program) (w : World) : List V → Hp → VK → Prop := fun xs H Q => ∃ (a : Addr) (L : List (Addr × List Int)), xs = [.ref a] ∧ H a = some (SetTO P w a L) ∧ (∀ p ∈ L, SqT K H p.1 (p.2.map V.int)) ∧
  ((L.map (·.2)).Nodup → Q (.int L.length) H)
theorem call_lenST : CallR X (.builtin "len") (rLenST X.K X.prog X.w) := by
  intro pins s σ H xs us Q I r h
  obtain ⟨a, L, rfl, ha, hk, q⟩ := h
  rw [Vals.ref1 r]
  have R0 : SetT0 X.prog X.w s.heap a L := (I.hok a _ ha).1
  obtain ⟨es, ep, t, R⟩ := R0.full fun p hp => I.isT (hk p hp)
  obtain ⟨o, ho, hex, hd⟩ := R.ob
  have hz := R.size
  have h64 := R.few
  refine call_len_set ho hex hd R.fits (by omega) ?_
  have e : ((es.size : Nat) : Int) = ((L.length : Nat) : Int) := by rw [hz]
  exact ⟨.int L.length, H, I.kept (t' := s.toks + 1 + 1) fun _ _ z => z, ⟨s.toks + 1, by rw [e]⟩, q R.nd⟩
end
end K3
/-! what the walk asks of the text as its top has made it -/
namespace K3
open PySem PySem.Spec PyProof.Rows L2 HotX
theorem b_len : bootBuiltins "len" = some (.builtin "len") := by decide +kernel
theorem b_abs : bootBuiltins "abs" = some (.builtin "abs") := by decide +kernel
theorem b_isinstance : bootBuiltins "isinstance" = some (.builtin "isinstance") := by decide +kernel
theorem b_all : bootBuiltins "all" = some (.builtin "all") := by decide +kernel
theorem b_sum : bootBuiltins "sum" = some (.builtin "sum") := by decide +kernel
theorem b_range : bootBuiltins "range" = some (.type "range") := by decide +kernel
theorem b_zip : bootBuiltins "zip" = some (.type "zip") := by decide +kernel
theorem b_set : bootBuiltins "set" = some (.type "set") := by decide +kernel
theorem b_tuple : bootBuiltins "tuple" = some (.type "tuple") := by decide +kernel
theorem b_int : bootBuiltins "int" = some (.type "int") := by decide +kernel
theorem b_str : bootBuiltins "str" = some (.type "str") := by decide +kernel
theorem b_bool : bootBuiltins "bool" = some (.type "bool") := by decide +kernel
theorem b_list : bootBuiltins "list" = some (.type "list") := by decide +kernel
theorem b_ValueError : bootBuiltins "ValueError" = some (.type "ValueError") := by decide +kernel
/-- the text by places -/
def top (i : Nat) : Stmt := PySem.Challenge.pw_onecurve_k67_rows_refused_at_a_desk.main.body.getD i (.Pass ⟨0, 0, 0, 0⟩)
structure Ads where
  Desk : Addr
  CurveError : Addr
  NoNumber : Addr
  NoCurve : Addr
  NoPoints : Addr
  TooMany : Addr
  NoPoint : Addr
  NoStretch : Addr
  TooDeep : Addr
  TooFew : Addr
  NoText : Addr
  NoRow : Addr
  CHANGES : Addr
  STRETCHES : Addr
  NUMBERS : Addr
/-- a name of the module's that holds v -/
def Cst (mg : Str → Option Value) (x : Str) (v : V) : Prop := ∃ u, mg x = some u ∧ RelV v u
theorem pe_cst {X : Cx} {x : Str} {v : V} {pos : Pos} (c : Cst X.mg x v) (hg : Gl X x := by rfl) (hd : (x == ("__debug__" : Str)) = false := by decide) : PE X (.Name x pos) (tC v) := by
  obtain ⟨u, h1, h2⟩ := c
  exact pe_glob hg h1 h2 hd
/-- an own exception class -/
structure ExcT (K : PySem.W.Frag) (mg : Str → Option Value) (x : Str) (C : Addr) : Prop where
  g : mg x = some (.ref C)
  ex : PySem.W.excIn K C [.type "ValueError", .type "Exception", .type "BaseException", .type "object"] "ValueError.__new__" = true
  kp : PySem.W.keepIn K (.ref C) = true
  sb : PySem.W.subIn K (.ref C) (.type "BaseException") = some true
  ty : PySem.W.typeIn K (.ref C) = some (.type "type")
theorem ExcT.pm {X : Cx} {x m : Str} {C : Addr} {j : Nat} {p p2 pos : Pos} (t : ExcT X.K X.mg x C) (hg : Gl X x := by rfl) (hdb : (x == ("__debug__" : Str)) = false := by decide) :
    L2N.PMk X (.Call (.Name x p) [.Constant (.str m) j p2] [] pos) (fun _ H Q => Q (.ref C) none H) :=
  L2N.pmk_own PySem.F.excBase_ValueError t.ex t.g t.kp (raises_own t.sb t.ty) hg hdb
/-- the words of a refusal's class -/
structure Kind (K : PySem.W.Frag) (A : Ads) (D : Addr) (many points text row : Bool) : Prop where
  ec : ExcC K D
  k1 : PySem.W.kitOne K (.ref D) (.ref A.TooMany) = some many
  k2 : PySem.W.kitOne K (.ref D) (.ref A.NoPoints) = some points
  k3 : PySem.W.kitOne K (.ref D) (.ref A.NoPoint) = some false
  k4 : PySem.W.kitOne K (.ref D) (.ref A.NoNumber) = some false
  k5 : PySem.W.kitOne K (.ref D) (.ref A.NoCurve) = some false
  k6 : PySem.W.kitOne K (.ref D) (.ref A.NoStretch) = some false
  k7 : PySem.W.kitOne K (.ref D) (.ref A.TooDeep) = some false
  k8 : PySem.W.kitOne K (.ref D) (.ref A.TooFew) = some false
  k9 : PySem.W.kitOne K (.ref D) (.ref A.NoText) = some text
  k10 : PySem.W.kitOne K (.ref D) (.ref A.NoRow) = some row
  k11 : PySem.W.kitOne K (.ref D) (.type "ValueError") = some true
  ce : PySem.W.exmOne K (.ref D) (.ref A.CurveError) = some true
def InitAt (K : PySem.W.Frag) (C : Addr) (qual : Str) (st : Stmt) : Prop :=
  ∃ f : Addr, Mk K C f ∧ ∃ (oc : Value) (od : Option Addr) (kV doc pm : Value) (an : Option Addr) (cdv ct : Value) (osl : Array (Option Value)),
    K.lookup f = some ⟨oc, od, .func (PySem.W.fnOf "__init__" qual (defArgs st) (defBody st) (defScope st) .none kV doc pm an cdv ct), osl⟩ ∧ PySem.W.codeIn K cdv qual = true
structure Txt (w : World) (K : PySem.W.Frag) (mg : Str → Option Value) (A : Ads) : Prop where
  z_len : mg "len" = none
  z_abs : mg "abs" = none
  z_isinstance : mg "isinstance" = none
  z_all : mg "all" = none
  z_sum : mg "sum" = none
  z_range : mg "range" = none
  z_zip : mg "zip" = none
  z_set : mg "set" = none
  z_tuple : mg "tuple" = none
  z_int : mg "int" = none
  z_str : mg "str" = none
  z_bool : mg "bool" = none
  z_list : mg "list" = none
  z_ValueError : mg "ValueError" = none
  cFIGURES : Cst mg "FIGURES" (.str "0123456789")
  cMOST_FIGURES : Cst mg "MOST_FIGURES" (.int 60)
  cMOST_TOLD : Cst mg "MOST_TOLD" (.int 12)
  cTOO_MUCH : Cst mg "TOO_MUCH" (.int 1000000)
  cMOST_NUMBERS : Cst mg "MOST_NUMBERS" (.int 16)
  cCHANGES : Cst mg "CHANGES" (.ref A.CHANGES)
  cSTRETCHES : Cst mg "STRETCHES" (.ref A.STRETCHES)
  cNUMBERS : Cst mg "NUMBERS" (.ref A.NUMBERS)
  sCHANGES : ∀ H, SqT K H A.CHANGES [.str "put", .str "take", .str "height", .str "slope", .str "noslope"]
  sSTRETCHES : ∀ H, SqT K H A.STRETCHES [.str "bounds", .str "noughts"]
  dNUM : ∃ es n, KDict K w A.NUMBERS es n
  nNo : ∀ z ∈ (["", "Points", "moved", "misses"] : List Str), PySem.W.nsIn K A.NUMBERS z = some none
  nYes : ∀ p ∈ ([("take", 1), ("height", 2), ("slope", 2), ("noslope", 1), ("points", 0), ("curve", 0), ("steps", 0), ("at", 1), ("slopeat", 1)] : List (Str × Int)), ∃ u, PySem.W.nsIn K A.NUMBERS p.1 = some (some u) ∧ RelV (.int p.2) u
  xNoNumber : ExcT K mg "NoNumber" A.NoNumber
  xNoPoints : ExcT K mg "NoPoints" A.NoPoints
  xTooMany : ExcT K mg "TooMany" A.TooMany
  xNoText : ExcT K mg "NoText" A.NoText
  xNoRow : ExcT K mg "NoRow" A.NoRow
  gNoCurve : mg "NoCurve" = some (.ref A.NoCurve)
  gNoPoint : mg "NoPoint" = some (.ref A.NoPoint)
  gNoStretch : mg "NoStretch" = some (.ref A.NoStretch)
  gTooDeep : mg "TooDeep" = some (.ref A.TooDeep)
  gTooFew : mg "TooFew" = some (.ref A.TooFew)
  gCurveError : mg "CurveError" = some (.ref A.CurveError)
  eText : PySem.W.exmOne K (.ref A.NoText) (.ref A.NoText) = some true
  eNumber : PySem.W.exmOne K (.ref A.NoNumber) (.ref A.NoText) = some false
  wMany : Kind K A A.TooMany true false false false
  wPoints : Kind K A A.NoPoints false true false false
  wText : Kind K A A.NoText false false true false
  wRow : Kind K A A.NoRow false false false true
  gDesk : mg "Desk" = some (.ref A.Desk)
  cl : Cls K A.Desk
  nP : NoAttr K A.Desk "points"
  init : InitAt K A.Desk "Desk.__init__" (inClass (top 112) 0)
  m_asked : MetAt K A.Desk "asked" "Desk.asked" (inClass (top 112) 7)
  m_say : MetAt K A.Desk "say" "Desk.say" (inClass (top 112) 8)
  d_is_whole : DefAt K mg "is_whole" (top 15)
  d_shared_part : DefAt K mg "shared_part" (top 16)
  d_is_number : DefAt K mg "is_number" (top 17)
  d_lowest : DefAt K mg "lowest" (top 18)
  d_number_of : DefAt K mg "number_of" (top 19)
  d_is_point : DefAt K mg "is_point" (top 46)
  d_told_count : DefAt K mg "told_count" (top 47)
  d_points_of : DefAt K mg "points_of" (top 48)
  d_show_number : DefAt K mg "show_number" (top 93)
  d_whole_in : DefAt K mg "whole_in" (top 94)
  d_read_number : DefAt K mg "read_number" (top 95)
  d_show_points : DefAt K mg "show_points" (top 97)
  d_parts_of : DefAt K mg "parts_of" (top 98)
  d_is_small : DefAt K mg "is_small" (top 105)
  d_forms_of : DefAt K mg "forms_of" (top 106)
  d_number_in : DefAt K mg "number_in" (top 107)
  d_argument_in : DefAt K mg "argument_in" (top 108)
  d_told_row : DefAt K mg "told_row" (top 109)
  d__law_pen : DefAt K mg "_law_pen" (top 114)
  d__law_draw : DefAt K mg "_law_draw" (top 115)
  d__law_lowest : DefAt K mg "_law_lowest" (top 116)
  d__law_plus : DefAt K mg "_law_plus" (top 117)
  d__law_text : DefAt K mg "_law_text" (top 118)
  d__law_points_text : DefAt K mg "_law_points_text" (top 120)
  d__law_little : DefAt K mg "_law_little" (top 121)
  d__law_fresh : DefAt K mg "_law_fresh" (top 122)
  d__law_desk_points : DefAt K mg "_law_desk_points" (top 123)
  d__law_refusal : DefAt K mg "_law_refusal" (top 124)
  d__law_no_number : DefAt K mg "_law_no_number" (top 125)
  d__law_no_row : DefAt K mg "_law_no_row" (top 126)
  d__law_caught : DefAt K mg "_law_caught" (top 127)
  d__law_no_desk : DefAt K mg "_law_no_desk" (top 128)
  d_law : DefAt K mg "law" (top 129)
end K3
/-! numbers: the walks -/
namespace K3
open PySem PySem.Spec PyProof.Rows L2 HotX
/-! ### heaps -/
def Keep (a : Addr) (H H' : Hp) : Prop := ∀ b o, H b = some o → b ≠ a → H' b = some o
theorem Keep.of {a : Addr} {H H' : Hp} (h : Same H H') : Keep a H H' := fun b o e _ => h b o e
theorem Keep.trans {a : Addr} {H H1 H2 : Hp} (h : Keep a H H1) (k : Keep a H1 H2) : Keep a H H2 := fun b o e n => k b o (h b o e n) n
theorem Keep.upd {a : Addr} {H : Hp} {o : HO} : Keep a H (upd H a o) := fun b u e n => by rw [upd_ne n]; exact e
theorem Same.new {H : Hp} {p : Addr} {o : HO} (h : H p = none) : Same H (upd H p o) := fun b u e => by rw [upd_ne (ne_of_none e h)]; exact e
theorem Same.tup {K : PySem.W.Frag} {H H' : Hp} {a : Addr} {xs : List V} (e : Same H H') (h : SqT K H a xs) : SqT K H' a xs := by
  rcases h with (h | ⟨o, h⟩) | h
  · exact .inl (.inl (e _ _ h))
  · exact .inl (.inr ⟨o, e _ _ h⟩)
  · exact .inr h
theorem Keep.tup {K : PySem.W.Frag} {H H' : Hp} {a p : Addr} {xs ys : List V} (e : Keep a H H') (ha : H a = some (.lst ys)) (h : SqT K H p xs) : SqT K H' p xs := by
  rcases h with (h | ⟨o, h⟩) | h
  · exact .inl (.inl (e _ _ h (ne_of h ha (by intro z; cases z))))
  · exact .inl (.inr ⟨o, e _ _ h (ne_of h ha (by intro z; cases z))⟩)
  · exact .inr h
/-- v is the number q -/
def NumV (K : PySem.W.Frag) (H : Hp) (v : V) (q : Int × Int) : Prop := ∃ a, v = .ref a ∧ SqT K H a [.int q.1, .int q.2]
theorem NumV.same {K : PySem.W.Frag} {H H' : Hp} {v : V} {q : Int × Int} (h : NumV K H v q) (e : Same H H') : NumV K H' v q := by
  obtain ⟨a, rfl, s⟩ := h
  exact ⟨a, rfl, Same.tup e s⟩
theorem NumV.keep {K : PySem.W.Frag} {H H' : Hp} {v : V} {q : Int × Int} {a : Addr} {ys : List V} (h : NumV K H v q) (e : Keep a H H') (ha : H a = some (.lst ys)) : NumV K H' v q := by
  obtain ⟨p, rfl, s⟩ := h
  exact ⟨p, rfl, e.tup ha s⟩
theorem NumV.new {K : PySem.W.Frag} {H : Hp} {p : Addr} {x y : Int} : NumV K (upd H p (.tup [.int x, .int y])) (.ref p) (x, y) := ⟨p, rfl, SqT.of upd_same⟩
/-! ### the greatest shared part -/
/-- t / b, brought to lowest terms -/
def lowQ (t b : Int) : Int × Int := (t / (Int.gcd t b : Int), b / (Int.gcd t b : Int))
theorem gcd_pos {t b : Int} (hb : 0 < b) : 0 < (Int.gcd t b : Int) := by
  have : Int.gcd t b ≠ 0 := fun z => by
    have := (Int.gcd_eq_zero_iff.mp z).2
    omega
  omega
theorem gcd_le {t b : Int} (hb : 0 < b) : (Int.gcd t b : Int) ≤ b := Int.le_of_dvd hb (Int.gcd_dvd_right ..)
theorem abs_nat (i : Int) : (if i < 0 then -i else i) = (i.natAbs : Int) := by
  by_cases h : i < 0
  · rw [if_pos h]; omega
  · rw [if_neg h]; omega
def spShared : Sp := fun vs H Q _ => ∃ t b : Int, vs = [.int t, .int b] ∧ Q (.int (Int.gcd t b)) H
/-- the invariant of the loop: x, y as they stand have the shared part g -/
theorem gcd_turn {x y : Nat} (h : 0 < y) : Nat.gcd y (x % y) = Nat.gcd x y := by
  rw [Nat.gcd_comm x y, Nat.gcd_rec y x, Nat.gcd_comm]
section
variable {L : Bool} {P : Program} {w : World} {K : PySem.W.Frag} {mg : Str → Option Value} {base : Heap} {A : Ads}
theorem sc_shared_part : FnScope ["one", "other"] ["one", "other"] (defScope (top 16)) := ⟨rfl, rfl, rfl, by decide +kernel, rfl, by decide +kernel, by decide +kernel⟩
theorem ok_shared_part (T : Txt w K mg A) : FnG L P w K mg base 1 "shared_part" ["one", "other"] spShared := by
  refine okG T.d_shared_part sc_shared_part (fun vs H Q E h => ?_) (fun _ _ _ _ _ _ us hl => match us, hl with | [_, _], _ => rfl) (fun f cdv A₁ outer s H vs Q E hr h => ?_)
  · obtain ⟨t, b, rfl, _⟩ := h
    rfl
  · obtain ⟨t, b, rfl, k⟩ := h
    refine ⟨_, (pss_cons (ps_set (i := 0) sc_shared_part.nd rfl (Or.inl rfl) (pe_callB call_abs rfl T.z_abs b_abs (pa_cons (pv 0) pa_nil)))
      (pss_cons (ps_set (i := 1) sc_shared_part.nd rfl (Or.inl rfl) (pe_callB call_abs rfl T.z_abs b_abs (pa_cons (pv 1) pa_nil)))
      (pss_cons (ps_while (L2.passes_of rfl) (pt_cmpR op_gt (pv 1) pe_int (nomark _)) (pss_one (ps_par (i := 0) (j := 1) rfl sc_shared_part.nd rfl rfl (by decide) rfl rfl (pa_cons (pv 1) (pa_cons (pe_op op_mod (pv 0) (pv 1)) pa_nil)) rfl)))
      (pss_one (ps_ret (pv 0)))))), ?_⟩
    refine ⟨_, rfl, _, rfl, ?_⟩
    refine ⟨_, rfl, _, rfl, ?_⟩
    rw [abs_nat, abs_nat]
    refine while_by (fun σ H' => H' = H ∧ ∃ x y : Nat, σ = [some (.int x), some (.int y)] ∧ Nat.gcd x y = Int.gcd t b) (fun σ _ => match σ with | [_, some (.int y)] => y.toNat | _ => 0) ⟨rfl, _, _, rfl, rfl⟩ ?_ ?_
    · rintro σ H' ⟨rfl, x, y, rfl, e⟩
      refine ⟨_, rfl, _, _, rfl, rfl, _, rfl, ?_⟩
      refine ite2 (fun c => ?_) (fun c => ?_)
      · have hy : 0 < y := by simpa using c
        refine ⟨_, rfl, _, rfl, _, rfl, _, _, rfl, rfl, by omega, _, _, rfl, ⟨rfl, y, x % y, rfl, ?_⟩, ?_⟩
        · rw [gcd_turn hy, e]
        · have hlt := Nat.mod_lt x hy
          show ((x : Int) % (y : Int)).toNat < (y : Int).toNat
          omega
      · have hy : y = 0 := by
          have : ¬ (0 : Int) < (y : Int) := by simpa using c
          omega
        subst hy
        refine ⟨_, rfl, ?_⟩
        rw [Nat.gcd_zero_right] at e
        rw [← e] at k
        exact k
    · rintro σ H' Q Q' m ⟨v, e, i, j, h1, h2, k', h3, q⟩
      exact ⟨v, e, i, j, h1, h2, k', h3, m _ _ q⟩
theorem sc_lowest : FnScope ["top", "bottom", "part"] ["top", "bottom"] (defScope (top 18)) := ⟨rfl, rfl, rfl, by decide +kernel, rfl, by decide +kernel, by decide +kernel⟩
def spLow (K : PySem.W.Frag) : Sp := fun vs H Q _ => ∃ t b : Int, vs = [.int t, .int b] ∧ 0 < b ∧ b < 2 ^ 1000 ∧ ∀ p H', Same H H' → SqT K H' p [.int (lowQ t b).1, .int (lowQ t b).2] → Q (.ref p) H'
theorem ok_lowest (T : Txt w K mg A) : FnG L P w K mg base 2 "lowest" ["top", "bottom"] (spLow K) := by
  have G_shared_part := ok_shared_part (L := L) (P := P) (base := base) T
  refine okG T.d_lowest sc_lowest (fun vs H Q E h => ?_) (fun _ _ _ _ _ _ us hl => match us, hl with | [_, _], _ => rfl) (fun f cdv A₁ outer s H vs Q E hr h => ?_)
  · obtain ⟨t, b, rfl, _⟩ := h
    rfl
  · obtain ⟨t, b, rfl, hb, hz, k⟩ := h
    refine ⟨_, (pss_cons (ps_set (i := 2) sc_lowest.nd rfl (Or.inl rfl) (pe_c G_shared_part hr (fun σ => passNo σ) (pa_cons (pv 0) (pa_cons (pv 1) pa_nil))))
      (pss_cons (ps_if (pt_cmpR op_lt (pv 1) pe_int (nomark _)) (pss_one (ps_set (i := 2) sc_lowest.nd rfl (Or.inl rfl) (pe_op op_sub pe_int (pv 2)))) pss_nil)
      (pss_one (ps_ret (pe_tup (pa_cons (pe_op op_fdivW (pv 0) (pv 2)) (pa_cons (pe_op op_fdivW (pv 1) (pv 2)) pa_nil))))))), ?_⟩
    refine ⟨_, rfl, _, rfl, _, _, rfl, ?_⟩
    refine ⟨_, rfl, _, _, rfl, rfl, _, rfl, ?_⟩
    rw [decide_eq_false (by omega)]
    refine iteF ?_
    have g0 := gcd_pos (t := t) hb
    have g1 := gcd_le (t := t) hb
    have cd : CDivW t (Int.gcd t b : Int) := wide_div (b := 1000) g0 (by omega) (by decide) (by decide)
    have cd' : CDivW b (Int.gcd t b : Int) := wide_div (b := 1000) g0 (by omega) (by decide) (by decide)
    refine ⟨_, rfl, _, rfl, _, _, rfl, rfl, cd, _, rfl, _, rfl, _, _, rfl, rfl, cd', (by show 2 ≤ sizeLine; decide), fun p hp => ?_⟩
    exact k p _ (Same.new hp) (SqT.of upd_same)
theorem sc_number_of : FnScope ["top", "bottom"] ["top", "bottom"] (defScope (top 19)) := ⟨rfl, rfl, rfl, by decide +kernel, rfl, by decide +kernel, by decide +kernel⟩
theorem ok_number_of (T : Txt w K mg A) : FnG L P w K mg base 3 "number_of" ["top", "bottom"] (spLow K) := by
  have G_lowest := ok_lowest (L := L) (P := P) (base := base) T
  refine okG T.d_number_of sc_number_of (fun vs H Q E h => ?_) (fun _ _ _ _ _ _ us hl => match us, hl with | [_, _], _ => rfl) (fun f cdv A₁ outer s H vs Q E hr h => ?_)
  · obtain ⟨t, b, rfl, _⟩ := h
    rfl
  · obtain ⟨t, b, rfl, hb, hz, k⟩ := h
    refine ⟨_, (pss_cons (ps_if (pt_cmpR op_eq (pv 1) pe_int (nomark _)) (pss_one (ps_raise rfl (takes_of rfl rfl rfl rfl) T.xNoNumber.pm)) pss_nil)
      (pss_one (ps_ret (pe_c G_lowest hr (fun σ => passNo σ) (pa_cons (pv 0) (pa_cons (pv 1) pa_nil)))))), ?_⟩
    refine ⟨_, rfl, rfl, _, rfl, ?_⟩
    rw [decide_eq_false (by intro z; cases z; omega)]
    refine iteF ?_
    exact ⟨_, rfl, _, rfl, t, b, rfl, hb, hz, k⟩
end
end K3
/-! numbers as texts: plain laws -/
namespace K3
open PySem PySem.Spec PyProof.Rows L2 HotX TL
def showI (i : Int) : Str := Str.ofString (toString i)
theorem tl_showI_nat (n : Nat) : tl (showI (n : Int)) = numL n := tl_num n
theorem tl_showI_neg (n : Nat) : tl (showI (Int.negSucc n)) = 45 :: numL (n + 1) := by
  have e : (toString (Int.negSucc n) : String) = "-" ++ toString ((n + 1 : Nat) : Int) := rfl
  have h := tl_num (n + 1)
  unfold showI
  rw [e, tl_ofString]
  rw [tl_ofString] at h
  rw [String.toList_append, List.map_append, h]
  rfl
def numI (i : Int) : List Nat := if i < 0 then 45 :: numL i.natAbs else numL i.natAbs
theorem tl_showI (i : Int) : tl (showI i) = numI i := by
  unfold numI
  cases i with
  | ofNat n =>
    rw [if_neg (by simp)]
    exact tl_showI_nat n
  | negSucc n =>
    rw [if_pos (Int.negSucc_lt_zero n)]
    exact tl_showI_neg n
theorem showI_len {i : Int} {k : Nat} (hk : 0 < k) (h : i.natAbs < 10 ^ k) : (showI i).length ≤ k + 1 := by
  have := numL_len hk h
  rw [len_tl, tl_showI]
  unfold numI
  split
  · rw [List.length_cons]; omega
  · omega
/-- a number as it is shown -/
def showN (q : Int × Int) : Str := if q.2 = 1 then showI q.1 else showI q.1 ++ Str.ofString "/" ++ showI q.2
def numQ (q : Int × Int) : List Nat := if q.2 = 1 then numI q.1 else numI q.1 ++ 47 :: numI q.2
theorem tl_slash : tl (Str.ofString "/") = [47] := by rw [tl_ofString]; rfl
theorem tl_showN (q : Int × Int) : tl (showN q) = numQ q := by
  unfold showN numQ
  split
  · exact tl_showI _
  · rw [tl_append, tl_append, tl_slash, tl_showI, tl_showI, List.append_assoc]
    rfl
/-- a number whose parts have at most a hundred figures -/
def Fine (q : Int × Int) : Prop := q.1.natAbs < 10 ^ 100 ∧ q.2.natAbs < 10 ^ 100
theorem log_fine {i : Int} (h : i.natAbs < 10 ^ 100) : i.natAbs.log2 < 1920 :=
  Nat.lt_of_lt_of_le (PySem.Flt.log2_lt_of (k := 400) (by decide) (Nat.lt_of_lt_of_le h (by decide))) (by decide)
theorem showN_len {q : Int × Int} (h : Fine q) : (showN q).length ≤ 203 := by
  have h1 := showI_len (by decide) h.1
  have h2 := showI_len (by decide) h.2
  have e : ∀ x y : Str, (x ++ y).length = x.length + y.length := fun x y => by rw [len_tl, len_tl, len_tl, tl_append, List.length_append]
  unfold showN
  split
  · omega
  · rw [e, e]
    have : (Str.ofString "/").length = 1 := by decide +kernel
    omega
end K3
/-! numbers: the walks, further -/
namespace K3
open PySem PySem.Spec PyProof.Rows L2 HotX
theorem tyT {K : PySem.W.Frag} {H : Hp} {a : Addr} {xs : List V} (h : SqT K H a xs) : TyX K H (.ref a) (.type "tuple") := by
  rcases h with (h | ⟨o, h⟩) | ⟨o, its, n, h, c, _⟩
  · exact .base (.tup h)
  · exact .fTuple h
  · exact .kTuple h c
theorem iteB {A B : Prop} {b : Bool} {i : Decidable (b = true)} (h1 : b = true → A) (h2 : b = false → B) : @ite Prop (b = true) i A B := by
  by_cases h : b = true
  · rw [if_pos h]
    exact h1 h
  · rw [if_neg h]
    exact h2 (by cases b with
      | true => exact absurd rfl h
      | false => rfl)
section
variable {L : Bool} {P : Program} {w : World} {K : PySem.W.Frag} {mg : Str → Option Value} {base : Heap} {A : Ads}
theorem sc_show_number : FnScope ["number", "top", "bottom"] ["number"] (defScope (top 93)) := ⟨rfl, rfl, rfl, by decide +kernel, rfl, by decide +kernel, by decide +kernel⟩
def spShow (K : PySem.W.Frag) : Sp := fun vs H Q _ => ∃ v q, vs = [v] ∧ NumV K H v q ∧ Fine q ∧ Q (.str (showN q)) H
theorem str_len_add (x y : Str) : (x ++ y).length = x.length + y.length := by
  rw [TL.len_tl, TL.len_tl, TL.len_tl, TL.tl_append, List.length_append]
theorem short {n : Nat} (h : n ≤ 100000) : n ≤ sizeLine := Nat.le_trans h (by decide)
theorem ok_show_number (T : Txt w K mg A) : FnG L P w K mg base 1 "show_number" ["number"] (spShow K) := by
  refine okG T.d_show_number sc_show_number (fun vs H Q E h => ?_) (fun _ _ _ _ _ _ us hl => match us, hl with | [_], _ => rfl) (fun f cdv A₁ outer s H vs Q E hr h => ?_)
  · obtain ⟨v, q, rfl, _⟩ := h
    rfl
  · obtain ⟨v, q, rfl, ⟨a, rfl, hq⟩, hf, k⟩ := h
    refine ⟨_, (pss_cons (ps_asg (pv 0) (pg_tup rfl (pgs_cons (pg_name (i := 1) sc_show_number.nd rfl (Or.inl rfl)) (pgs_cons (pg_name (i := 2) sc_show_number.nd rfl (Or.inl rfl)) pgs_nil))))
      (pss_cons (ps_if (pt_cmpR op_eq (pv 2) pe_int (nomark _)) (pss_one (ps_ret (pe_callTy call_str_int rfl T.z_str b_str (pa_cons (pv 1) pa_nil)))) pss_nil)
      (pss_one (ps_ret (pe_op op_add_str (pe_op op_add_str (pe_callTy call_str_int rfl T.z_str b_str (pa_cons (pv 1) pa_nil)) pe_str) (pe_callTy call_str_int rfl T.z_str b_str (pa_cons (pv 2) pa_nil))))))), ?_⟩
    refine ⟨_, rfl, a, _, rfl, hq, rfl, _, _, rfl, _, _, rfl, rfl, ?_⟩
    refine ⟨_, rfl, rfl, _, rfl, ?_⟩
    have l1 := showI_len (i := q.1) (by decide) hf.1
    have l2 := showI_len (i := q.2) (by decide) hf.2
    have l3 : (Str.ofString "/").length = 1 := by decide +kernel
    refine iteB (fun c => ?_) (fun c => ?_)
    · have hc : q.2 = 1 := by
        have z := of_decide_eq_true c
        cases q
        cases z
        rfl
      refine ⟨_, rfl, _, rfl, log_fine hf.1, ?_⟩
      unfold showN at k
      rw [if_pos hc] at k
      exact k
    · have hc : ¬ q.2 = 1 := fun z => of_decide_eq_false c (by rw [z])
      refine ⟨_, rfl, _, rfl, log_fine hf.1, _, _, rfl, rfl, short (by show (showI q.1).length + (Str.ofString "/").length ≤ _; omega), ?_⟩
      refine ⟨_, rfl, _, rfl, log_fine hf.2, _, _, rfl, rfl, short (by show (showI q.1 ++ Str.ofString "/").length + (showI q.2).length ≤ _; rw [str_len_add]; omega), ?_⟩
      unfold showN at k
      rw [if_neg hc] at k
      exact k
theorem sc__law_text : FnScope ["_law_number"] ["_law_number"] (defScope (top 118)) := ⟨rfl, rfl, rfl, by decide +kernel, rfl, by decide +kernel, by decide +kernel⟩
theorem ok__law_text (T : Txt w K mg A) : FnG L P w K mg base 1 "_law_text" ["_law_number"] (spShow K) := by
  refine okG T.d__law_text sc__law_text (fun vs H Q E h => ?_) (fun _ _ _ _ _ _ us hl => match us, hl with | [_], _ => rfl) (fun f cdv A₁ outer s H vs Q E hr h => ?_)
  · obtain ⟨v, q, rfl, _⟩ := h
    rfl
  · obtain ⟨v, q, rfl, ⟨a, rfl, hq⟩, hf, k⟩ := h
    refine ⟨_, (pss_cons (ps_if (pt_cmpR op_eq (pe_ix ix_tup (pv 0) pe_int (fun _ _ => rfl)) pe_int (nomark _)) (pss_one (ps_ret (pe_callTy call_str_int rfl T.z_str b_str (pa_cons (pe_ix ix_tup (pv 0) pe_int (fun _ _ => rfl)) pa_nil)))) pss_nil)
      (pss_one (ps_ret (pe_op op_add_str (pe_op op_add_str (pe_callTy call_str_int rfl T.z_str b_str (pa_cons (pe_ix ix_tup (pv 0) pe_int (fun _ _ => rfl)) pa_nil)) pe_str) (pe_callTy call_str_int rfl T.z_str b_str (pa_cons (pe_ix ix_tup (pv 0) pe_int (fun _ _ => rfl)) pa_nil)))))), ?_⟩
    refine ⟨_, rfl, a, _, _, _, rfl, rfl, hq, rfl, rfl, _, rfl, ?_⟩
    have l1 := showI_len (i := q.1) (by decide) hf.1
    have l2 := showI_len (i := q.2) (by decide) hf.2
    have l3 : (Str.ofString "/").length = 1 := by decide +kernel
    refine iteB (fun c => ?_) (fun c => ?_)
    · have hc : q.2 = 1 := by
        have z := of_decide_eq_true c
        cases q
        cases z
        rfl
      refine ⟨_, rfl, a, _, _, _, rfl, rfl, hq, rfl, _, rfl, log_fine hf.1, ?_⟩
      unfold showN at k
      rw [if_pos hc] at k
      exact k
    · have hc : ¬ q.2 = 1 := fun z => of_decide_eq_false c (by rw [z])
      refine ⟨_, rfl, a, _, _, _, rfl, rfl, hq, rfl, _, rfl, log_fine hf.1, _, _, rfl, rfl, short (by show (showI q.1).length + (Str.ofString "/").length ≤ _; omega), ?_⟩
      refine ⟨_, rfl, a, _, _, _, rfl, rfl, hq, rfl, _, rfl, log_fine hf.2, _, _, rfl, rfl, short (by show (showI q.1 ++ Str.ofString "/").length + (showI q.2).length ≤ _; rw [str_len_add]; omega), ?_⟩
      unfold showN at k
      rw [if_neg hc] at k
      exact k
theorem sc_is_small : FnScope ["number"] ["number"] (defScope (top 105)) := ⟨rfl, rfl, rfl, by decide +kernel, rfl, by decide +kernel, by decide +kernel⟩
def smallB (q : Int × Int) : Bool := decide ((q.1.natAbs : Int) < 1000000) && decide (q.2 < 1000000)
def spSmall (K : PySem.W.Frag) : Sp := fun vs H Q _ => ∃ v q, vs = [v] ∧ NumV K H v q ∧ Q (.bl (smallB q)) H
theorem ok_is_small (T : Txt w K mg A) : FnG L P w K mg base 1 "is_small" ["number"] (spSmall K) := by
  refine okG T.d_is_small sc_is_small (fun vs H Q E h => ?_) (fun _ _ _ _ _ _ us hl => match us, hl with | [_], _ => rfl) (fun f cdv A₁ outer s H vs Q E hr h => ?_)
  · obtain ⟨v, q, rfl, _⟩ := h
    rfl
  · obtain ⟨v, q, rfl, ⟨a, rfl, hq⟩, k⟩ := h
    refine ⟨_, (pss_one (ps_ret (pe_and (pe_cmpR op_lt (pe_callB call_abs rfl T.z_abs b_abs (pa_cons (pe_ix ix_tup (pv 0) pe_int (fun _ _ => rfl)) pa_nil)) (pe_cst T.cTOO_MUCH) (nomark _)) (pe_one (pe_cmpR op_lt (pe_ix ix_tup (pv 0) pe_int (fun _ _ => rfl)) (pe_cst T.cTOO_MUCH) (nomark _)))))), ?_⟩
    refine ⟨_, rfl, a, _, _, _, rfl, rfl, hq, rfl, _, rfl, _, _, rfl, rfl, _, rfl, ?_⟩
    unfold smallB at k
    rw [abs_nat]
    generalize decide ((q.1.natAbs : Int) < 1000000) = c at k ⊢
    cases c with
    | true =>
      rw [Bool.true_and] at k
      exact iteT ⟨_, rfl, a, _, _, _, rfl, rfl, hq, rfl, _, _, rfl, rfl, k⟩
    | false =>
      rw [Bool.false_and] at k
      exact iteF k
theorem sc_is_whole : FnScope ["thing"] ["thing"] (defScope (top 15)) := ⟨rfl, rfl, rfl, by decide +kernel, rfl, by decide +kernel, by decide +kernel⟩
def spWhole : Sp := fun vs H Q _ => ∃ i : Int, vs = [.int i] ∧ Q (.bl true) H
theorem ok_is_whole (T : Txt w K mg A) : FnG L P w K mg base 1 "is_whole" ["thing"] spWhole := by
  refine okG T.d_is_whole sc_is_whole (fun vs H Q E h => ?_) (fun _ _ _ _ _ _ us hl => match us, hl with | [_], _ => rfl) (fun f cdv A₁ outer s H vs Q E hr h => ?_)
  · obtain ⟨i, rfl, _⟩ := h
    rfl
  · obtain ⟨i, rfl, k⟩ := h
    refine ⟨_, (pss_one (ps_ret (pe_and (pe_callB call_isi rfl T.z_isinstance b_isinstance (pa_cons (pv 0) (pa_cons (pe_bltn (v := .ty "int") rfl T.z_int b_int rfl) pa_nil))) (pe_one (pe_not (pe_callB call_isi rfl T.z_isinstance b_isinstance (pa_cons (pv 0) (pa_cons (pe_bltn (v := .ty "bool") rfl T.z_bool b_bool rfl) pa_nil)))))))), ?_⟩
    refine ⟨_, rfl, _, _, _, _, true, rfl, .ty _, .base (.int i), kit_ty (by decide +kernel), _, rfl, iteT ?_⟩
    exact ⟨_, rfl, _, _, _, _, false, rfl, .ty _, .base (.int i), kit_ty (by decide +kernel), _, rfl, k⟩
theorem sc_is_number : FnScope ["thing"] ["thing"] (defScope (top 17)) := ⟨rfl, rfl, rfl, by decide +kernel, rfl, by decide +kernel, by decide +kernel⟩
def lowB (q : Int × Int) : Bool := decide (0 < q.2) && decide (Int.gcd q.1 q.2 = 1)
def spNumber (K : PySem.W.Frag) : Sp := fun vs H Q _ => ∃ v q, vs = [v] ∧ NumV K H v q ∧ Q (.bl (lowB q)) H
theorem ok_is_number (T : Txt w K mg A) : FnG L P w K mg base 2 "is_number" ["thing"] (spNumber K) := by
  have G_is_whole := ok_is_whole (L := L) (P := P) (base := base) T
  have G_shared_part := ok_shared_part (L := L) (P := P) (base := base) T
  refine okG T.d_is_number sc_is_number (fun vs H Q E h => ?_) (fun _ _ _ _ _ _ us hl => match us, hl with | [_], _ => rfl) (fun f cdv A₁ outer s H vs Q E hr h => ?_)
  · obtain ⟨v, q, rfl, _⟩ := h
    rfl
  · obtain ⟨v, q, rfl, ⟨a, rfl, hq⟩, k⟩ := h
    refine ⟨_, (pss_cons (ps_if (PW.pt (pw_or (pt_not (pt_val (pe_callB call_isi rfl T.z_isinstance b_isinstance (pa_cons (pv 0) (pa_cons (pe_bltn (v := .ty "tuple") rfl T.z_tuple b_tuple rfl) pa_nil))))) (pw_or (pt_cmpR op_ne (pe_callB call_len_seq rfl T.z_len b_len (pa_cons (pv 0) pa_nil)) pe_int (nomark _)) (pw_or (pt_not (pt_val (pe_c G_is_whole hr (fun σ => passNo σ) (pa_cons (pe_ix ix_tup (pv 0) pe_int (fun _ _ => rfl)) pa_nil)))) (pw_or1 (pt_not (pt_val (pe_c G_is_whole hr (fun σ => passNo σ) (pa_cons (pe_ix ix_tup (pv 0) pe_int (fun _ _ => rfl)) pa_nil))))))))) (pss_one (ps_ret pe_bl)) pss_nil)
      (pss_one (ps_ret (pe_and (pe_cmpR op_gt (pe_ix ix_tup (pv 0) pe_int (fun _ _ => rfl)) pe_int (nomark _)) (pe_one (pe_cmpR op_eq (pe_c G_shared_part hr (fun σ => passNo σ) (pa_cons (pe_ix ix_tup (pv 0) pe_int (fun _ _ => rfl)) (pa_cons (pe_ix ix_tup (pv 0) pe_int (fun _ _ => rfl)) pa_nil))) pe_int (nomark _))))))), ?_⟩
    refine ⟨_, rfl, _, _, _, _, true, rfl, .ty _, tyT hq, kit_ty (by decide +kernel), _, rfl, iteF ?_⟩
    refine ⟨_, rfl, a, _, rfl, .inr hq, rfl, _, rfl, iteF ?_⟩
    refine ⟨_, rfl, a, _, _, _, rfl, rfl, hq, rfl, q.1, rfl, _, rfl, iteF ?_⟩
    refine ⟨_, rfl, a, _, _, _, rfl, rfl, hq, rfl, q.2, rfl, _, rfl, iteF ?_⟩
    refine ⟨_, rfl, a, _, _, _, rfl, rfl, hq, rfl, _, _, rfl, rfl, _, rfl, ?_⟩
    unfold lowB at k
    refine iteB (fun c => ?_) (fun c => ?_)
    · rw [c, Bool.true_and] at k
      refine ⟨_, rfl, a, _, _, _, rfl, rfl, hq, rfl, _, rfl, a, _, _, _, rfl, rfl, hq, rfl, _, _, rfl, rfl, ?_⟩
      have e : decide (V.int (Int.gcd q.1 q.2 : Int) = V.int 1) = decide (Int.gcd q.1 q.2 = 1) := decide_eq_decide.mpr ⟨fun z => by
        have z' := V.int.inj z
        omega, fun z => by rw [z] <;> rfl⟩
      rw [e]
      exact k
    · rw [c, Bool.false_and] at k
      exact k
theorem sc__law_lowest : FnScope ["_law_top", "_law_bottom", "_law_one", "_law_other"] ["_law_top", "_law_bottom"] (defScope (top 116)) := ⟨rfl, rfl, rfl, by decide +kernel, rfl, by decide +kernel, by decide +kernel⟩
theorem ok__law_lowest (T : Txt w K mg A) : FnG L P w K mg base 1 "_law_lowest" ["_law_top", "_law_bottom"] (spLow K) := by
  refine okG T.d__law_lowest sc__law_lowest (fun vs H Q E h => ?_) (fun _ _ _ _ _ _ us hl => match us, hl with | [_, _], _ => rfl) (fun f cdv A₁ outer s H vs Q E hr h => ?_)
  · obtain ⟨t, b, rfl, _⟩ := h
    rfl
  · obtain ⟨t, b, rfl, hb, hz, k⟩ := h
    refine ⟨_, (pss_cons (ps_set (i := 2) sc__law_lowest.nd rfl (Or.inl rfl) (pe_callB call_abs rfl T.z_abs b_abs (pa_cons (pv 0) pa_nil)))
      (pss_cons (ps_set (i := 3) sc__law_lowest.nd rfl (Or.inl rfl) (pe_callB call_abs rfl T.z_abs b_abs (pa_cons (pv 1) pa_nil)))
      (pss_cons (ps_while (L2.passes_of rfl) (pt_cmpR op_gt (pv 3) pe_int (nomark _)) (pss_one (ps_par (i := 2) (j := 3) rfl sc__law_lowest.nd rfl rfl (by decide) rfl rfl (pa_cons (pv 3) (pa_cons (pe_op op_mod (pv 2) (pv 3)) pa_nil)) rfl)))
      (pss_cons (ps_if (pt_cmpR op_lt (pv 1) pe_int (nomark _)) (pss_one (ps_set (i := 2) sc__law_lowest.nd rfl (Or.inl rfl) (pe_op op_sub pe_int (pv 2)))) pss_nil)
      (pss_one (ps_ret (pe_tup (pa_cons (pe_op op_fdivW (pv 0) (pv 2)) (pa_cons (pe_op op_fdivW (pv 1) (pv 2)) pa_nil))))))))), ?_⟩
    refine ⟨_, rfl, _, rfl, ?_⟩
    refine ⟨_, rfl, _, rfl, ?_⟩
    rw [abs_nat, abs_nat]
    refine while_by (fun σ H' => H' = H ∧ ∃ x y : Nat, σ = [some (.int t), some (.int b), some (.int x), some (.int y)] ∧ Nat.gcd x y = Int.gcd t b) (fun σ _ => match σ with | [_, _, _, some (.int y)] => y.toNat | _ => 0) ⟨rfl, _, _, rfl, rfl⟩ ?_ ?_
    · rintro σ H' ⟨rfl, x, y, rfl, e⟩
      refine ⟨_, rfl, _, _, rfl, rfl, _, rfl, ?_⟩
      refine ite2 (fun c => ?_) (fun c => ?_)
      · have hy : 0 < y := by simpa using c
        refine ⟨_, rfl, _, rfl, _, rfl, _, _, rfl, rfl, by omega, _, _, rfl, ⟨rfl, y, x % y, rfl, ?_⟩, ?_⟩
        · rw [gcd_turn hy, e]
        · have hlt := Nat.mod_lt x hy
          show ((x : Int) % (y : Int)).toNat < (y : Int).toNat
          omega
      · have hy : y = 0 := by
          have : ¬ (0 : Int) < (y : Int) := by simpa using c
          omega
        subst hy
        rw [Nat.gcd_zero_right] at e
        rw [e]
        refine ⟨_, rfl, _, _, rfl, rfl, _, rfl, ?_⟩
        rw [decide_eq_false (by omega)]
        refine iteF ?_
        have g0 := gcd_pos (t := t) hb
        have g1 := gcd_le (t := t) hb
        have cd : CDivW t (Int.gcd t b : Int) := wide_div (b := 1000) g0 (by omega) (by decide) (by decide)
        have cd' : CDivW b (Int.gcd t b : Int) := wide_div (b := 1000) g0 (by omega) (by decide) (by decide)
        refine ⟨_, rfl, _, rfl, _, _, rfl, rfl, cd, _, rfl, _, rfl, _, _, rfl, rfl, cd', (by show 2 ≤ sizeLine; decide), fun p hp => ?_⟩
        exact k p _ (Same.new hp) (SqT.of upd_same)
    · rintro σ H' Q Q' m ⟨v, e, i, j, h1, h2, k', h3, q⟩
      exact ⟨v, e, i, j, h1, h2, k', h3, m _ _ q⟩
theorem sc__law_plus : FnScope ["_law_a", "_law_b"] ["_law_a", "_law_b"] (defScope (top 117)) := ⟨rfl, rfl, rfl, by decide +kernel, rfl, by decide +kernel, by decide +kernel⟩
theorem small64i {i : Int} (h : i.natAbs < 2 ^ 60) : -(2 ^ 64) < i ∧ i < 2 ^ 64 := by omega
/-- a + b, of numbers with small parts -/
def spPlus (K : PySem.W.Frag) : Sp := fun vs H Q _ => ∃ v u q r, vs = [v, u] ∧ NumV K H v q ∧ NumV K H u r ∧ q.1.natAbs < 2 ^ 60 ∧ r.1.natAbs < 2 ^ 60 ∧ q.2.natAbs < 2 ^ 60 ∧ 0 < q.2 * r.2 ∧ q.2 * r.2 < 2 ^ 1000 ∧
  ∀ p H', Same H H' → SqT K H' p [.int (lowQ (q.1 * r.2 + r.1 * q.2) (q.2 * r.2)).1, .int (lowQ (q.1 * r.2 + r.1 * q.2) (q.2 * r.2)).2] → Q (.ref p) H'
theorem ok__law_plus (T : Txt w K mg A) : FnG L P w K mg base 2 "_law_plus" ["_law_a", "_law_b"] (spPlus K) := by
  have G__law_lowest := ok__law_lowest (L := L) (P := P) (base := base) T
  refine okG T.d__law_plus sc__law_plus (fun vs H Q E h => ?_) (fun _ _ _ _ _ _ us hl => match us, hl with | [_, _], _ => rfl) (fun f cdv A₁ outer s H vs Q E hr h => ?_)
  · obtain ⟨v, u, q, r, rfl, _⟩ := h
    rfl
  · obtain ⟨v, u, q, r, rfl, ⟨a, rfl, ha⟩, ⟨b, rfl, hb⟩, b1, b2, b3, hp, hz, k⟩ := h
    refine ⟨_, (pss_one (ps_ret (pe_c G__law_lowest hr (fun σ => passNo σ) (pa_cons (pe_op op_add (pe_op op_mul (pe_ix ix_tup (pv 0) pe_int (fun _ _ => rfl)) (pe_ix ix_tup (pv 1) pe_int (fun _ _ => rfl))) (pe_op op_mul (pe_ix ix_tup (pv 1) pe_int (fun _ _ => rfl)) (pe_ix ix_tup (pv 0) pe_int (fun _ _ => rfl)))) (pa_cons (pe_op op_mul (pe_ix ix_tup (pv 0) pe_int (fun _ _ => rfl)) (pe_ix ix_tup (pv 1) pe_int (fun _ _ => rfl))) pa_nil))))), ?_⟩
    refine ⟨_, rfl, a, _, _, _, rfl, rfl, ha, rfl, _, rfl, b, _, _, _, rfl, rfl, hb, rfl, _, _, rfl, rfl, .inl (small64i b1), ?_⟩
    refine ⟨_, rfl, b, _, _, _, rfl, rfl, hb, rfl, _, rfl, a, _, _, _, rfl, rfl, ha, rfl, _, _, rfl, rfl, .inl (small64i b2), ?_⟩
    refine ⟨_, _, rfl, rfl, ?_⟩
    refine ⟨_, rfl, a, _, _, _, rfl, rfl, ha, rfl, _, rfl, b, _, _, _, rfl, rfl, hb, rfl, _, _, rfl, rfl, .inl (small64i b3), ?_⟩
    exact ⟨_, _, rfl, hp, hz, k⟩
theorem sc__law_pen : FnScope ["_law_script", "_law_k", "_law_cell"] ["_law_script", "_law_k"] (defScope (top 114)) := ⟨rfl, rfl, rfl, by decide +kernel, rfl, by decide +kernel, by decide +kernel⟩
/-- a pen: three ints -/
def PenAt (H : Hp) (a : Addr) : Prop := ∃ x y z : Int, H a = some (.lst [.int x, .int y, .int z])
def spPen (K : PySem.W.Frag) : Sp := fun vs H Q _ => ∃ (a : Addr) (ns : List Int), vs = [.ref a, .int 0] ∧ SqL K H a (ns.map V.int) ∧ ∀ p H', Same H H' → H p = none → PenAt H' p → Q (.ref p) H'
theorem ok__law_pen (T : Txt w K mg A) : FnG L P w K mg base 1 "_law_pen" ["_law_script", "_law_k"] (spPen K) := by
  refine okG T.d__law_pen sc__law_pen (fun vs H Q E h => ?_) (fun _ _ _ _ _ _ us hl => match us, hl with | [_, _], _ => rfl) (fun f cdv A₁ outer s H vs Q E hr h => ?_)
  · obtain ⟨a, ns, rfl, _⟩ := h
    rfl
  · obtain ⟨a, ns, rfl, hS, k⟩ := h
    refine ⟨_, (pss_cons (ps_set (i := 2) sc__law_pen.nd rfl (Or.inl rfl) (pe_op op_add (pe_op op_mul pe_int (pv 1)) pe_int))
      (pss_cons (ps_if (pt_cmpR op_lt (pv 1) (pe_callB call_len_seq rfl T.z_len b_len (pa_cons (pv 0) pa_nil)) (nomark _)) (pss_one (ps_set (i := 2) sc__law_pen.nd rfl (Or.inl rfl) (pe_ix ix_list (pv 0) (pv 1) (fun _ _ => rfl)))) (pss_one (ps_if (pt_cmpR op_gt (pe_callB call_len_seq rfl T.z_len b_len (pa_cons (pv 0) pa_nil)) pe_int (nomark _)) (pss_one (ps_set (i := 2) sc__law_pen.nd rfl (Or.inl rfl) (pe_op op_add (pe_ix ix_list (pv 0) (pe_op op_mod (pv 1) (pe_callB call_len_seq rfl T.z_len b_len (pa_cons (pv 0) pa_nil))) (fun _ _ => rfl)) (pe_op op_mul pe_int (pv 1))))) pss_nil)))
      (pss_cons (ps_if (pt_cmpR op_ge (pv 2) (pe_op op_pow pe_int pe_int) (nomark _)) (pss_one (ps_ret (pe_lst (pa_cons (pe_op op_sub (pv 2) (pe_op op_pow pe_int pe_int)) (pa_cons (pe_op op_mod (pv 2) pe_int) (pa_cons pe_int pa_nil)))))) pss_nil)
      (pss_one (ps_ret (pe_lst (pa_cons pe_int (pa_cons (pe_op op_add (pe_op op_mod (pv 2) pe_int) (pe_op op_mul pe_int (pv 1))) (pa_cons pe_int pa_nil))))))))), ?_⟩
    refine ⟨_, rfl, _, _, rfl, rfl, .inl (by decide), _, _, rfl, rfl, ?_⟩
    refine ⟨_, rfl, _, rfl, a, _, rfl, .inl hS, _, _, rfl, rfl, _, rfl, ?_⟩
    have fin : ∀ c : Int, ∀ p : Addr, H p = none → ∀ x y z : Int, Q (.ref p) (upd H p (.lst [.int x, .int y, .int z])) := fun c p hp x y z => k p _ (Same.new hp) hp ⟨x, y, z, upd_same⟩
    have two : ∀ c : Int, 10 ^ 18 = (10 ^ 18 : Int) := fun _ => rfl
    cases ns with
    | nil =>
      refine iteF ?_
      refine ⟨_, rfl, a, _, rfl, .inl hS, _, _, rfl, rfl, _, rfl, iteF ?_⟩
      refine ⟨_, rfl, _, _, rfl, rfl, ⟨by decide, by decide, by decide⟩, _, _, rfl, rfl, _, rfl, iteB (fun _ => ?_) (fun _ => ?_)⟩
      · exact ⟨_, rfl, _, _, rfl, rfl, ⟨by decide, by decide, by decide⟩, _, _, rfl, rfl, _, rfl, _, _, rfl, rfl, (by show (0 : Int) < _; decide), (by show 3 ≤ sizeLine; decide), fun p hp => fin 0 p hp _ _ _⟩
      · exact ⟨_, rfl, _, _, rfl, rfl, (by show (0 : Int) < _; decide), _, rfl, _, _, rfl, rfl, .inl (by decide), _, _, rfl, rfl, (by show 3 ≤ sizeLine; decide), fun p hp => fin 0 p hp _ _ _⟩
    | cons n ns =>
      refine iteB (fun _ => ?_) (fun c => absurd (of_decide_eq_false c) (by rw [List.length_map, List.length_cons]; omega))
      refine ⟨_, rfl, _, rfl, a, _, _, _, rfl, rfl, hS, atI_nat (j := 0) (v := .int n) rfl, ?_⟩
      refine ⟨_, rfl, _, _, rfl, rfl, ⟨by decide, by decide, by decide⟩, _, _, rfl, rfl, _, rfl, iteB (fun _ => ?_) (fun _ => ?_)⟩
      · exact ⟨_, rfl, _, _, rfl, rfl, ⟨by decide, by decide, by decide⟩, _, _, rfl, rfl, _, rfl, _, _, rfl, rfl, (by show (0 : Int) < _; decide), (by show 3 ≤ sizeLine; decide), fun p hp => fin 0 p hp _ _ _⟩
      · exact ⟨_, rfl, _, _, rfl, rfl, (by show (0 : Int) < _; decide), _, rfl, _, _, rfl, rfl, .inl (by decide), _, _, rfl, rfl, (by show 3 ≤ sizeLine; decide), fun p hp => fin 0 p hp _ _ _⟩
theorem sc__law_draw : FnScope ["_law_pen_here", "_law_many", "_law_drawn", "_law_number"] ["_law_pen_here", "_law_many"] (defScope (top 115)) := ⟨rfl, rfl, rfl, by decide +kernel, rfl, by decide +kernel, by decide +kernel⟩
def spDraw : Sp := fun vs H Q _ => ∃ (a : Addr) (m : Int), vs = [.ref a, .int m] ∧ PenAt H a ∧ 0 < m ∧ m < 2 ^ 30 ∧ ∀ (k : Int) (H' : Hp), 0 ≤ k → k < m → Keep a H H' → PenAt H' a → Q (.int k) H'
theorem ok__law_draw (T : Txt w K mg A) : FnG L P w K mg base 1 "_law_draw" ["_law_pen_here", "_law_many"] spDraw := by
  refine okG T.d__law_draw sc__law_draw (fun vs H Q E h => ?_) (fun _ _ _ _ _ _ us hl => match us, hl with | [_, _], _ => rfl) (fun f cdv A₁ outer s H vs Q E hr h => ?_)
  · obtain ⟨a, m, rfl, _⟩ := h
    rfl
  · obtain ⟨a, m, rfl, ⟨x, y, z, ha⟩, h0, hm, k⟩ := h
    refine ⟨_, (pss_cons (ps_asg (pe_op op_add (pe_ix ix_list (pv 0) pe_int (fun _ _ => rfl)) pe_int) (pg_sub (pv 0) pe_int set_list))
      (pss_cons (ps_if (pt_cmpR op_gt (pe_ix ix_list (pv 0) pe_int (fun _ _ => rfl)) pe_int (nomark _)) (pss_cons (ps_set (i := 2) sc__law_draw.nd rfl (Or.inl rfl) (pe_op op_mod (pe_ix ix_list (pv 0) pe_int (fun _ _ => rfl)) (pv 1)))
      (pss_cons (ps_asg (pe_op op_fdivW (pe_ix ix_list (pv 0) pe_int (fun _ _ => rfl)) (pv 1)) (pg_sub (pv 0) pe_int set_list))
      (pss_one (ps_ret (pv 2))))) pss_nil)
      (pss_cons (ps_set (i := 3) sc__law_draw.nd rfl (Or.inl rfl) (pe_op op_mod (pe_op op_mul (pe_op op_add (pe_op op_add (pe_ix ix_list (pv 0) pe_int (fun _ _ => rfl)) (pe_op op_mul pe_int (pe_ix ix_list (pv 0) pe_int (fun _ _ => rfl)))) pe_int) pe_int) pe_int))
      (pss_cons (ps_set (i := 3) sc__law_draw.nd rfl (Or.inl rfl) (pe_op op_mod (pe_op op_mul (pv 3) (pe_op op_add (pe_op op_add (pe_op op_mod (pv 3) pe_int) (pe_ix ix_list (pv 0) pe_int (fun _ _ => rfl))) pe_int)) pe_int))
      (pss_one (ps_ret (pe_op op_mod (pe_op op_fdivW (pe_op op_mod (pe_op op_mul (pv 3) (pe_op op_add (pe_op op_mod (pv 3) pe_int) pe_int)) pe_int) pe_int) (pv 1)))))))), ?_⟩
    refine ⟨_, rfl, a, _, _, _, rfl, rfl, SqL.of ha, rfl, _, _, rfl, rfl, ?_⟩
    refine ⟨_, rfl, a, _, _, _, rfl, rfl, ha, rfl, ?_⟩
    generalize hH : upd H a _ = H1
    have h1 : H1 a = some (.lst [.int x, .int y, .int (z + 1)]) := by rw [← hH]; exact upd_same
    have k1 : Keep a H H1 := by rw [← hH]; exact Keep.upd
    refine ⟨_, rfl, a, _, _, _, rfl, rfl, SqL.of h1, rfl, _, _, rfl, rfl, _, rfl, iteB (fun _ => ?_) (fun _ => ?_)⟩
    · refine ⟨_, rfl, a, _, _, _, rfl, rfl, SqL.of h1, rfl, _, rfl, _, _, rfl, rfl, h0, ?_⟩
      refine ⟨_, rfl, a, _, _, _, rfl, rfl, SqL.of h1, rfl, _, rfl, _, _, rfl, rfl, wide_div (b := 30) h0 (by omega) (by decide) (by decide), ?_⟩
      refine ⟨_, rfl, a, _, _, _, rfl, rfl, h1, rfl, ?_⟩
      exact ⟨_, rfl, k _ _ (Int.emod_nonneg _ (by omega)) (Int.emod_lt_of_pos _ h0) (k1.trans Keep.upd) ⟨_, _, _, upd_same⟩⟩
    · refine ⟨_, rfl, a, _, _, _, rfl, rfl, SqL.of h1, rfl, _, rfl, a, _, _, _, rfl, rfl, SqL.of h1, rfl, _, _, rfl, rfl, .inl (by decide), _, _, rfl, rfl, _, _, rfl, rfl, _, _, rfl, rfl, .inr (by decide), _, _, rfl, rfl, (by show (0 : Int) < _; decide), ?_⟩
      generalize hn : (y + 40503 * (z + 1) + 1) * 48271 % 2147483647 = n
      have n0 : 0 ≤ n := by rw [← hn]; exact Int.emod_nonneg _ (by decide)
      have n1 : n < 2147483647 := by rw [← hn]; exact Int.emod_lt_of_pos _ (by decide)
      refine ⟨_, rfl, _, rfl, _, _, rfl, rfl, (by show (0 : Int) < _; decide), _, rfl, a, _, _, _, rfl, rfl, SqL.of h1, rfl, _, _, rfl, rfl, _, _, rfl, rfl, _, _, rfl, rfl, .inl (by omega), _, _, rfl, rfl, (by show (0 : Int) < _; decide), ?_⟩
      generalize hm2 : n * (n % 65521 + (z + 1) + 3) % 2147483629 = n'
      have m0 : 0 ≤ n' := by rw [← hm2]; exact Int.emod_nonneg _ (by decide)
      have m1 : n' < 2147483629 := by rw [← hm2]; exact Int.emod_lt_of_pos _ (by decide)
      refine ⟨_, rfl, _, rfl, _, _, rfl, rfl, (by show (0 : Int) < _; decide), _, _, rfl, rfl, _, _, rfl, rfl, .inl (by omega), _, _, rfl, rfl, (by show (0 : Int) < _; decide), _, _, rfl, rfl, wide_div (b := 30) (by decide) (by decide) (by decide) (by decide), _, rfl, _, _, rfl, rfl, h0, ?_⟩
      exact k _ _ (Int.emod_nonneg _ (by omega)) (Int.emod_lt_of_pos _ h0) k1 ⟨_, _, _, h1⟩
end
end K3
/-! comprehensions over tuples and lists, turn by turn; rows of values -/
namespace K3
open PySem PySem.Spec PyProof.Rows L2 HotX
/-- vs are xs, place by place -/
def AllV {α : Type} (R : V → α → Prop) (vs : List V) (xs : List α) : Prop := vs.length = xs.length ∧ ∀ (i : Nat) v x, vs[i]? = some v → xs[i]? = some x → R v x
theorem AllV.imp {α : Type} {R R' : V → α → Prop} {vs : List V} {xs : List α} (h : AllV R vs xs) (k : ∀ v x, R v x → R' v x) : AllV R' vs xs := ⟨h.1, fun i v x a b => k v x (h.2 i v x a b)⟩
theorem AllV.get {α : Type} {R : V → α → Prop} {vs : List V} {xs : List α} (h : AllV R vs xs) {i : Nat} {v : V} (hv : vs[i]? = some v) : ∃ x, xs[i]? = some x ∧ R v x := by
  have hi := (List.getElem?_eq_some_iff.mp hv).1
  rw [h.1] at hi
  have e : xs[i]? = some xs[i] := List.getElem?_eq_getElem hi
  exact ⟨_, e, h.2 i v _ hv e⟩
theorem AllV.nil {α : Type} {R : V → α → Prop} : AllV R [] ([] : List α) := ⟨rfl, fun i v x h => by simp at h⟩
theorem AllV.cons {α : Type} {R : V → α → Prop} {v : V} {vs : List V} {x : α} {xs : List α} (h : R v x) (t : AllV R vs xs) : AllV R (v :: vs) (x :: xs) :=
  ⟨by rw [List.length_cons, List.length_cons, t.1], fun i u y a b => by
    cases i with
    | zero => cases a; cases b; exact h
    | succ i => exact t.2 i u y a b⟩
theorem AllV.snoc {α : Type} {R : V → α → Prop} {v : V} {vs : List V} {x : α} {xs : List α} (t : AllV R vs xs) (h : R v x) : AllV R (vs ++ [v]) (xs ++ [x]) := by
  refine ⟨by rw [List.length_append, List.length_append, t.1]; rfl, fun i u y a b => ?_⟩
  by_cases hi : i < vs.length
  · rw [List.getElem?_append_left hi] at a
    rw [List.getElem?_append_left (t.1 ▸ hi)] at b
    exact t.2 i u y a b
  · rw [List.getElem?_append_right (by omega)] at a
    rw [List.getElem?_append_right (by rw [← t.1]; omega), ← t.1] at b
    cases e : i - vs.length with
    | zero =>
      rw [e] at a b
      cases a
      cases b
      exact h
    | succ j =>
      rw [e] at a
      simp at a
/-- what a comprehension's turns make: acc stands at D -/
def Made (H1 : Hp) (D : Addr) (R : Nat → V → Hp → Prop) (i : Nat) (H' : Hp) : Prop := Same H1 H' ∧ ∃ acc, H' D = some (.lst acc) ∧ acc.length = i ∧ ∀ j y, acc[j]? = some y → R j y H'
theorem Made.zero {H1 : Hp} {D : Addr} {R : Nat → V → Hp → Prop} (hD : H1 D = none) : Made H1 D R 0 (upd H1 D (.lst [])) := ⟨Same.new hD, [], upd_same, rfl, fun j y h => by simp at h⟩
theorem Made.next {H1 H' H4 : Hp} {D : Addr} {R : Nat → V → Hp → Prop} {i : Nat} {y : V} (hD : H1 D = none) (mono : ∀ j y H H2 ys, R j y H → H D = some (.lst ys) → Keep D H H2 → R j y H2) (m : Made H1 D R i H') (hi : i < sizeLine) (s : Same H' H4) (r : R i y H4) :
    ∃ acc, H4 D = some (.lst acc) ∧ acc.length < sizeLine ∧ Made H1 D R (i + 1) (upd H4 D (.lst (acc ++ [y]))) := by
  obtain ⟨s1, acc, hd, hl, hr⟩ := m
  have hd4 := s D _ hd
  refine ⟨acc, hd4, by rw [hl]; exact hi, fun b o e => ?_, acc ++ [y], upd_same, by rw [List.length_append, hl]; rfl, fun j z hz => ?_⟩
  · rw [upd_ne (ne_of_none e hD)]
    exact s b o (s1 b o e)
  · by_cases hj : j < acc.length
    · rw [List.getElem?_append_left hj] at hz
      exact mono j z H4 _ acc (mono j z H' H4 acc (hr j z hz) hd (Keep.of s)) hd4 Keep.upd
    · rw [List.getElem?_append_right (by omega)] at hz
      cases e : j - acc.length with
      | zero =>
        rw [e] at hz
        cases hz
        have ej : j = i := by omega
        rw [ej]
        exact mono i y H4 _ acc r hd4 Keep.upd
      | succ n =>
        rw [e] at hz
        simp at hz
theorem lc_tup_by {K : PySem.W.Frag} {a : Addr} {xs : List V} {g : TG} {tt : TT} {te : TE} {vs : List Nat} {σ : L2.St} {H1 : Hp} {D : Addr} {Qd : Hp → Prop} (R : Nat → V → Hp → Prop) (hS : SqT K H1 a xs) (hD : H1 D = none) (hz : xs.length ≤ sizeLine)
    (mono : ∀ j y H H2 ys, R j y H → H D = some (.lst ys) → Keep D H H2 → R j y H2)
    (step : ∀ i x H', xs[i]? = some x → Same H1 H' → ∀ (Qk : VK) (Nn : Hp → Prop), (∀ y H4, Same H' H4 → R i y H4 → Qk y H4) → g x (wipe σ vs) H' fun σ2 H2 => wipe σ2 vs = wipe σ vs ∧ tt σ2 H2 fun b H3 => if b = true then te σ2 H3 Qk else Nn H3)
    (hd : ∀ H' acc, Same H1 H' → H' D = some (.lst acc) → acc.length = xs.length → (∀ j y, acc[j]? = some y → R j y H') → Qd H') :
    ∃ W : Nat → Nat → Hp → Prop, (∃ m, W 0 m (upd H1 D (.lst []))) ∧ ∀ i m H, W i m H →
      ((Itt K a).stop i H ∧ Qd H) ∨ ((Itt K a).go i H ∧ ∃ Nx : Hp → Prop, (∀ H', Nx H' → ∃ m', m' < m ∧ W (i + 1) m' H') ∧ ∀ x H', (Itt K a).yld i H x H' → g x (wipe σ vs) H' fun σ2 H2 => wipe σ2 vs = wipe σ vs ∧ tt σ2 H2 fun b H3 =>
        if b = true then te σ2 H3 fun y H4 => ∃ acc, H4 D = some (.lst acc) ∧ acc.length < sizeLine ∧ Nx (upd H4 D (.lst (acc ++ [y]))) else Nx H3) :=
  lc_tup (Made H1 D R) (Made.zero hD) (fun i H' _ m => Same.tup m.1 hS) (fun i x H' hx m => step i x H' hx m.1 _ _ fun y H4 s r => Made.next hD mono m (Nat.lt_of_lt_of_le (List.getElem?_eq_some_iff.mp hx).1 hz) s r)
    fun H' ⟨s, acc, h1, h2, h3⟩ => hd H' acc s h1 h2 h3
theorem lc_list_by {K : PySem.W.Frag} {a : Addr} {xs : List V} {g : TG} {tt : TT} {te : TE} {vs : List Nat} {σ : L2.St} {H1 : Hp} {D : Addr} {Qd : Hp → Prop} (R : Nat → V → Hp → Prop) (hS : SqL K H1 a xs) (hD : H1 D = none) (hz : xs.length ≤ sizeLine)
    (mono : ∀ j y H H2 ys, R j y H → H D = some (.lst ys) → Keep D H H2 → R j y H2)
    (step : ∀ i x H', xs[i]? = some x → Same H1 H' → ∀ (Qk : VK) (Nn : Hp → Prop), (∀ y H4, Same H' H4 → R i y H4 → Qk y H4) → g x (wipe σ vs) H' fun σ2 H2 => wipe σ2 vs = wipe σ vs ∧ tt σ2 H2 fun b H3 => if b = true then te σ2 H3 Qk else Nn H3)
    (hd : ∀ H' acc, Same H1 H' → H' D = some (.lst acc) → acc.length = xs.length → (∀ j y, acc[j]? = some y → R j y H') → Qd H') :
    ∃ W : Nat → Nat → Hp → Prop, (∃ m, W 0 m (upd H1 D (.lst []))) ∧ ∀ i m H, W i m H →
      ((Itl K a).stop i H ∧ Qd H) ∨ ((Itl K a).go i H ∧ ∃ Nx : Hp → Prop, (∀ H', Nx H' → ∃ m', m' < m ∧ W (i + 1) m' H') ∧ ∀ x H', (Itl K a).yld i H x H' → g x (wipe σ vs) H' fun σ2 H2 => wipe σ2 vs = wipe σ vs ∧ tt σ2 H2 fun b H3 =>
        if b = true then te σ2 H3 fun y H4 => ∃ acc, H4 D = some (.lst acc) ∧ acc.length < sizeLine ∧ Nx (upd H4 D (.lst (acc ++ [y]))) else Nx H3) :=
  lc_list (Made H1 D R) (Made.zero hD) (fun i H' _ m => Same.seq m.1 hS) (fun i x H' hx m => step i x H' hx m.1 _ _ fun y H4 s r => Made.next hD mono m (Nat.lt_of_lt_of_le (List.getElem?_eq_some_iff.mp hx).1 hz) s r)
    fun H' ⟨s, acc, h1, h2, h3⟩ => hd H' acc s h1 h2 h3
theorem lc_tup_n {K : PySem.W.Frag} {a : Addr} {xs : List V} {n : Nat} {te : TE} {vs : List Nat} {σ : L2.St} {H1 : Hp} {D : Addr} {Qd : Hp → Prop} (R : Nat → V → Hp → Prop) (hS : SqT K H1 a xs) (hD : H1 D = none) (hz : xs.length ≤ sizeLine)
    (hw : ∀ x, wipe ((wipe σ vs).set n (some x)) vs = wipe σ vs) (mono : ∀ j y H H2 ys, R j y H → H D = some (.lst ys) → Keep D H H2 → R j y H2)
    (step : ∀ i x H', xs[i]? = some x → Same H1 H' → ∀ Qk : VK, (∀ y H4, Same H' H4 → R i y H4 → Qk y H4) → te ((wipe σ vs).set n (some x)) H' Qk)
    (hd : ∀ H' acc, Same H1 H' → H' D = some (.lst acc) → acc.length = xs.length → (∀ j y, acc[j]? = some y → R j y H') → Qd H') :
    ∃ W : Nat → Nat → Hp → Prop, (∃ m, W 0 m (upd H1 D (.lst []))) ∧ ∀ i m H, W i m H →
      ((Itt K a).stop i H ∧ Qd H) ∨ ((Itt K a).go i H ∧ ∃ Nx : Hp → Prop, (∀ H', Nx H' → ∃ m', m' < m ∧ W (i + 1) m' H') ∧ ∀ x H', (Itt K a).yld i H x H' → gName n x (wipe σ vs) H' fun σ2 H2 => wipe σ2 vs = wipe σ vs ∧ tYes σ2 H2 fun b H3 =>
        if b = true then te σ2 H3 fun y H4 => ∃ acc, H4 D = some (.lst acc) ∧ acc.length < sizeLine ∧ Nx (upd H4 D (.lst (acc ++ [y]))) else Nx H3) :=
  lc_tup_by R hS hD hz mono (fun i x H' hx s Qk Nn hk => ⟨hw x, by
    show (if true = true then te _ H' Qk else Nn H')
    rw [if_pos rfl]
    exact step i x H' hx s Qk hk⟩) hd
theorem lc_list_n {K : PySem.W.Frag} {a : Addr} {xs : List V} {n : Nat} {te : TE} {vs : List Nat} {σ : L2.St} {H1 : Hp} {D : Addr} {Qd : Hp → Prop} (R : Nat → V → Hp → Prop) (hS : SqL K H1 a xs) (hD : H1 D = none) (hz : xs.length ≤ sizeLine)
    (hw : ∀ x, wipe ((wipe σ vs).set n (some x)) vs = wipe σ vs) (mono : ∀ j y H H2 ys, R j y H → H D = some (.lst ys) → Keep D H H2 → R j y H2)
    (step : ∀ i x H', xs[i]? = some x → Same H1 H' → ∀ Qk : VK, (∀ y H4, Same H' H4 → R i y H4 → Qk y H4) → te ((wipe σ vs).set n (some x)) H' Qk)
    (hd : ∀ H' acc, Same H1 H' → H' D = some (.lst acc) → acc.length = xs.length → (∀ j y, acc[j]? = some y → R j y H') → Qd H') :
    ∃ W : Nat → Nat → Hp → Prop, (∃ m, W 0 m (upd H1 D (.lst []))) ∧ ∀ i m H, W i m H →
      ((Itl K a).stop i H ∧ Qd H) ∨ ((Itl K a).go i H ∧ ∃ Nx : Hp → Prop, (∀ H', Nx H' → ∃ m', m' < m ∧ W (i + 1) m' H') ∧ ∀ x H', (Itl K a).yld i H x H' → gName n x (wipe σ vs) H' fun σ2 H2 => wipe σ2 vs = wipe σ vs ∧ tYes σ2 H2 fun b H3 =>
        if b = true then te σ2 H3 fun y H4 => ∃ acc, H4 D = some (.lst acc) ∧ acc.length < sizeLine ∧ Nx (upd H4 D (.lst (acc ++ [y]))) else Nx H3) :=
  lc_list_by R hS hD hz mono (fun i x H' hx s Qk Nn hk => ⟨hw x, by
    show (if true = true then te _ H' Qk else Nn H')
    rw [if_pos rfl]
    exact step i x H' hx s Qk hk⟩) hd
/-- the list made is f of the places -/
theorem made_eq {acc : List V} {n : Nat} {f : Nat → V} (hl : acc.length = n) (h : ∀ j y, acc[j]? = some y → y = f j) : acc = (List.range n).map f := by
  apply List.ext_getElem?
  intro j
  rw [List.getElem?_map]
  by_cases hj : j < n
  · rw [List.getElem?_range hj]
    have e : acc[j]? = some acc[j] := List.getElem?_eq_getElem (by omega)
    rw [e, h j _ e]
    rfl
  · rw [List.getElem?_eq_none (by omega), List.getElem?_eq_none (by rw [List.length_range]; omega)]
    rfl
/-- the list made is g of the items -/
theorem made_map {α : Type} {acc : List V} {xs : List α} {g : α → V} (hl : acc.length = xs.length) (h : ∀ (j : Nat) y, acc[j]? = some y → ∃ x, xs[j]? = some x ∧ y = g x) : acc = xs.map g := by
  apply List.ext_getElem?
  intro j
  rw [List.getElem?_map]
  by_cases hj : j < acc.length
  · have e : acc[j]? = some acc[j] := List.getElem?_eq_getElem hj
    obtain ⟨x, e1, e2⟩ := h j _ e
    rw [e, e1, e2]
    rfl
  · rw [List.getElem?_eq_none (by omega), List.getElem?_eq_none (by omega)]
    rfl
end K3
/-! rules within a comprehension's block: the written part named -/
namespace K3
open PySem PySem.Spec PyProof.Rows L2 HotX
section
variable {X : Cx} {K : PySem.W.Frag}
theorem ix_tupK (h : X.K = K) : IxR X (rIxT K) := by subst h; exact ix_tup
theorem ix_listK (h : X.K = K) : IxR X (rIxL K) := by subst h; exact ix_list
theorem len_seqK (h : X.K = K) : CallR X (.builtin "len") (fun xs H Q => ∃ p ys, xs = [.ref p] ∧ (SqL K H p ys ∨ SqT K H p ys) ∧ Q (.int ys.length) H) := by subst h; exact call_len_seq
theorem pi_tupK {tg l : Expr} {tl : TE} (h : X.K = K) (hl : PE X l tl) : PI X tg l (iTup K tl) := by subst h; exact pi_tup hl
theorem pi_listK {tg l : Expr} {tl : TE} (h : X.K = K) (hl : PE X l tl) : PI X tg l (iList K tl) := by subst h; exact pi_list hl
theorem pg_tupK {pos : Pos} {es : List Expr} {k : Nat} {t : TGs} {n : Nat} (h : X.K = K) (hc : X.calm = true) (hg : PGs X es t)
    (hn : (assignEach es X.env).length = n := by rfl) (hst : (assignEach es X.env).findIdx? (·.1) = none := by rfl) : PG X (.Tuple es k pos) (gTup K n t) := by subst h; exact pg_tup hc hg hn hst
theorem pg_tupHK {pos : Pos} {es : List Expr} {k : Nat} {t : TGs} {n : Nat} (h : X.K = K) (hc : HotC X) (hg : PGs X es t)
    (hn : (assignEach es X.env).length = n := by rfl) (hst : (assignEach es X.env).findIdx? (·.1) = none := by rfl) : PG X (.Tuple es k pos) (gTup K n t) := by subst h; exact pg_tup_hot hc hg hn hst
def rJoin (K : PySem.W.Frag) : V → List V → Hp → VK → Prop := fun x xs H Q => ∃ a p, ∃ ys : List Str, x = .str a ∧ xs = [.ref p] ∧ (SqL K H p (ys.map V.str) ∨ SqT K H p (ys.map V.str)) ∧
      (ys.map (·.length)).sum + ys.length * a.length ≤ 16777216 ∧ Q (.str (PySem.Txt.join a ys)) H
theorem pe_joinK {X : Cx} {K : PySem.W.Frag} {o e : Expr} {to te : TE} {apos pos : Pos} (h : X.K = K) (ho : PE X o to) (he : PE X e te) (hs : starEach [e] X.env = [(false, eval e X.env)] := by rfl) (hbase : attributeBase o "join" X.env (eval o X.env) = eval o X.env := by rfl) (hline : (apos.endLine == pos.line) = true := by rfl) :
    PE X (.Call (.Attribute o "join" apos) [e] [] pos) (tM1 (rJoin K) to te) := by
  subst h
  exact pe_join ho he hs hbase hline
end
/-- the scope of a comprehension -/
def lcScope : Expr → Scope
  | .ListComp _ _ sc _ => sc
  | _ => { kind := .function, names := [], isGenerator := false, isCoroutine := false }
end K3
/-! rows without doubles; plain laws -/
namespace K3
theorem nodup_len {α : Type} [DecidableEq α] : ∀ {A B : List α}, A.Nodup → (∀ x ∈ A, x ∈ B) → A.length ≤ B.length
  | [], _, _, _ => Nat.zero_le _
  | a :: A, B, h, s => by
    have ha : a ∈ B := s a List.mem_cons_self
    have hn := List.nodup_cons.mp h
    have ih := nodup_len (A := A) (B := B.erase a) hn.2 fun x hx => by
      have ne : x ≠ a := fun z => hn.1 (z ▸ hx)
      exact (List.mem_erase_of_ne ne).mpr (s x (List.mem_cons_of_mem _ hx))
    rw [List.length_erase_of_mem ha] at ih
    have := List.length_pos_of_mem ha
    rw [List.length_cons]
    omega
theorem double_of {α : Type} [DecidableEq α] : ∀ {B : List α}, ¬ B.Nodup → ∃ x ∈ B, x ∈ B.erase x
  | [], h => absurd List.nodup_nil h
  | b :: t, h => by
    by_cases hb : b ∈ t
    · exact ⟨b, List.mem_cons_self, by rw [List.erase_cons_head]; exact hb⟩
    · have ht : ¬ t.Nodup := fun z => h (List.nodup_cons.mpr ⟨hb, z⟩)
      obtain ⟨x, hx, hx2⟩ := double_of ht
      have ne : b ≠ x := fun z => hb (z ▸ hx)
      refine ⟨x, List.mem_cons_of_mem _ hx, ?_⟩
      rw [List.erase_cons_tail (by simpa using ne)]
      exact List.mem_cons_of_mem _ hx2
theorem nodup_lt {α : Type} [DecidableEq α] {A B : List α} (hA : A.Nodup) (s : ∀ x ∈ A, x ∈ B) (hB : ¬ B.Nodup) : A.length < B.length := by
  obtain ⟨x, hx, hx2⟩ := double_of hB
  have h := nodup_len (A := A) (B := B.erase x) hA fun y hy => by
    by_cases e : y = x
    · rw [e]; exact hx2
    · exact (List.mem_erase_of_ne e).mpr (s y hy)
  rw [List.length_erase_of_mem hx] at h
  have := List.length_pos_of_mem hx
  omega
theorem nodup_map_of {α β : Type} {f : α → β} (hf : ∀ x y, f x = f y → x = y) : ∀ {l : List α}, l.Nodup → (l.map f).Nodup
  | [], _ => List.nodup_nil
  | a :: l, h => by
    have hn := List.nodup_cons.mp h
    rw [List.map_cons]
    refine List.nodup_cons.mpr ⟨fun z => ?_, nodup_map_of hf hn.2⟩
    obtain ⟨y, hy, e⟩ := List.mem_map.mp z
    exact hn.1 (hf _ _ e ▸ hy)
theorem nodup_of_map {α β : Type} {f : α → β} : ∀ {l : List α}, (l.map f).Nodup → l.Nodup
  | [], _ => List.nodup_nil
  | a :: l, h => by
    rw [List.map_cons] at h
    have hn := List.nodup_cons.mp h
    exact List.nodup_cons.mpr ⟨fun z => hn.1 (List.mem_map.mpr ⟨a, z, rfl⟩), nodup_of_map hn.2⟩
end K3
/-! points: the walks -/
namespace K3
open PySem PySem.Spec PyProof.Rows L2 HotX
theorem hu65 {A : Around} {k : Nat} (hr : Room k A) : A.units + 65 < cLine := by have := hr.un; omega
theorem hu64 {A : Around} {k : Nat} (hr : Room k A) : A.units + 64 < cLine := by have := hr.un; omega
/-- v is the point p -/
def PtV (K : PySem.W.Frag) (H : Hp) (v : V) (p : List (Int × Int)) : Prop := ∃ a vs, v = .ref a ∧ SqT K H a vs ∧ AllV (NumV K H) vs p
/-- a is the points ps -/
def PtsT (K : PySem.W.Frag) (H : Hp) (a : Addr) (ps : List (List (Int × Int))) : Prop := ∃ vs, SqT K H a vs ∧ AllV (PtV K H) vs ps
theorem PtV.same {K : PySem.W.Frag} {H H' : Hp} {v : V} {p : List (Int × Int)} (h : PtV K H v p) (e : Same H H') : PtV K H' v p := by
  obtain ⟨a, vs, rfl, s, n⟩ := h
  exact ⟨a, vs, rfl, Same.tup e s, n.imp fun v x q => q.same e⟩
theorem PtV.keep {K : PySem.W.Frag} {H H' : Hp} {v : V} {p : List (Int × Int)} {a : Addr} {ys : List V} (h : PtV K H v p) (e : Keep a H H') (ha : H a = some (.lst ys)) : PtV K H' v p := by
  obtain ⟨b, vs, rfl, s, n⟩ := h
  exact ⟨b, vs, rfl, e.tup ha s, n.imp fun v x q => q.keep e ha⟩
theorem PtsT.same {K : PySem.W.Frag} {H H' : Hp} {a : Addr} {ps : List (List (Int × Int))} (h : PtsT K H a ps) (e : Same H H') : PtsT K H' a ps := by
  obtain ⟨vs, s, n⟩ := h
  exact ⟨vs, Same.tup e s, n.imp fun v x q => q.same e⟩
theorem PtsT.keep {K : PySem.W.Frag} {H H' : Hp} {b a : Addr} {ps : List (List (Int × Int))} {ys : List V} (h : PtsT K H b ps) (e : Keep a H H') (ha : H a = some (.lst ys)) : PtsT K H' b ps := by
  obtain ⟨vs, s, n⟩ := h
  exact ⟨vs, e.tup ha s, n.imp fun v x q => q.keep e ha⟩
theorem map_const {acc : List V} {n : Nat} {b : V} (hl : acc.length = n) (h : ∀ (j : Nat) y, acc[j]? = some y → y = b) : acc = List.replicate n b := by
  apply List.ext_getElem?
  intro j
  by_cases hj : j < n
  · have e : acc[j]? = some acc[j] := List.getElem?_eq_getElem (by omega)
    rw [e, h j _ e, List.getElem?_replicate, if_pos hj]
  · rw [List.getElem?_eq_none (by omega), List.getElem?_eq_none (by rw [List.length_replicate]; omega)]
theorem all_trues {n : Nat} : (List.replicate n true).all id = true := by
  induction n with
  | zero => rfl
  | succ n ih => rw [List.replicate_succ, List.all_cons, ih]; rfl
section
variable {L : Bool} {P : Program} {w : World} {K : PySem.W.Frag} {mg : Str → Option Value} {base : Heap} {A : Ads}
/-- a point with two or three numbers in lowest terms -/
def OkPt (p : List (Int × Int)) : Prop := (p.length = 2 ∨ p.length = 3) ∧ ∀ q ∈ p, lowB q = true
theorem sc_is_point : FnScope ["thing", "number"] ["thing"] (defScope (top 46)) := ⟨rfl, rfl, rfl, by decide +kernel, rfl, by decide +kernel, by decide +kernel⟩
def spIsPoint (K : PySem.W.Frag) : Sp := fun vs H Q _ => ∃ v p, vs = [v] ∧ PtV K H v p ∧ OkPt p ∧ ∀ H', Same H H' → Q (.bl true) H'
theorem ok_is_point (T : Txt w K mg A) : FnG L P w K mg base 3 "is_point" ["thing"] (spIsPoint K) := by
  have G_is_number := ok_is_number (L := L) (P := P) (base := base) T
  refine okG T.d_is_point sc_is_point (fun vs H Q E h => ?_) (fun _ _ _ _ _ _ us hl => match us, hl with | [_], _ => rfl) (fun f cdv A₁ outer s H vs Q E hr h => ?_)
  · obtain ⟨v, q, rfl, _⟩ := h
    rfl
  · obtain ⟨v, p, rfl, ⟨a, vs, rfl, hS, hp⟩, ⟨h23, hlow⟩, k⟩ := h
    refine ⟨_, (pss_cons (ps_if (PW.pt (pw_or (pt_not (pt_val (pe_callB call_isi rfl T.z_isinstance b_isinstance (pa_cons (pv 0) (pa_cons (pe_bltn (v := .ty "tuple") rfl T.z_tuple b_tuple rfl) pa_nil))))) (pw_or1 (pt_cmpR op_notIn_seq (pe_callB call_len_seq rfl T.z_len b_len (pa_cons (pv 0) pa_nil)) (pe_tup (pa_cons pe_int (pa_cons pe_int pa_nil))) (by rfl))))) (pss_one (ps_ret pe_bl)) pss_nil)
      (pss_one (ps_ret (pe_callB (cr_all (by rfl)) rfl T.z_all b_all (pa_cons (pe_lc (own := [("number", 1)]) (by rfl) sc_is_point.nd (pi_tup (pv 0)) (blkOk_by (own := [("number", 1)]) (N := ["thing", "number"]) (sc := defScope (top 46)) (by decide +kernel)) (fun _ _ _ _ _ => (pg_name (i := 1) sc_is_point.nd rfl (Or.inl rfl))) (fun _ _ _ _ _ => pts_nil) (fun _ _ _ _ _ => (pe_c G_is_number hr (fun σ => passNo σ) (pa_cons (pv 1) pa_nil)))) pa_nil))))), ?_⟩
    refine ⟨_, rfl, _, _, _, _, true, rfl, .ty _, tyT hS, kit_ty (by decide +kernel), _, rfl, iteF ?_⟩
    refine ⟨_, rfl, a, _, rfl, .inr hS, (by show 2 ≤ sizeLine; decide), fun t ht => ?_⟩
    have s1 : Same H (upd H t (.tup [.int 2, .int 3])) := Same.new ht
    refine ⟨t, _, rfl, .inr (SqT.of upd_same), rfl, rfl, _, rfl, ?_⟩
    have hin : (!inV (V.int (vs.length : Int)) [.int 2, .int 3]) = false := by
      rw [hp.1]
      rcases h23 with e | e <;> rw [e] <;> rfl
    rw [if_pos rfl, hin]
    refine iteF ?_
    refine ⟨_, rfl, a, rfl, ⟨_, Same.tup s1 hS⟩, fun D hD => ?_⟩
    have hl : vs.length ≤ sizeLine := short (by have := hp.1; rcases h23 with e | e <;> omega)
    refine lc_tup_n (fun _ y _ => y = .bl true) (Same.tup s1 hS) hD hl (fun _ => rfl) (fun _ _ _ _ _ h _ _ => h) (fun i x H' hx s Qk hk => ?_) fun H' acc s hacc hlen hall => ?_
    · obtain ⟨q, hq, hv⟩ := hp.get hx
      refine ⟨_, rfl, x, q, rfl, (hv.same s1).same s, ?_⟩
      rw [hlow q (List.mem_of_getElem? hq)]
      exact hk _ _ (Same.refl _) rfl
    · have e := map_const hlen hall
      refine ⟨D, List.replicate vs.length true, rfl, SqL.of (by rw [hacc, e, List.map_replicate]), ?_⟩
      rw [all_trues]
      exact k H' (s1.trans s)
theorem sc_told_count : FnScope ["points", "point"] ["points"] (defScope (top 47)) := ⟨rfl, rfl, rfl, by decide +kernel, rfl, by decide +kernel, by decide +kernel⟩
def told (ps : List (List (Int × Int))) : Int := (ps.map fun p => (p.length : Int) - 1).sum
def spTold (K : PySem.W.Frag) : Sp := fun vs H Q _ => ∃ a ps, vs = [.ref a] ∧ PtsT K H a ps ∧ ps.length ≤ 1000 ∧ ∀ H', Same H H' → Q (.int (told ps)) H'
theorem ok_told_count (T : Txt w K mg A) : FnG L P w K mg base 1 "told_count" ["points"] (spTold K) := by
  refine okG T.d_told_count sc_told_count (fun vs H Q E h => ?_) (fun _ _ _ _ _ _ us hl => match us, hl with | [_], _ => rfl) (fun f cdv A₁ outer s H vs Q E hr h => ?_)
  · obtain ⟨a, ps, rfl, _⟩ := h
    rfl
  · obtain ⟨a, ps, rfl, ⟨vs, hS, hp⟩, hz, k⟩ := h
    refine ⟨_, (pss_one (ps_ret (pe_callB (cr_sum (by rfl)) rfl T.z_sum b_sum (pa_cons (pe_lc (own := [("point", 1)]) (by rfl) sc_told_count.nd (pi_tup (pv 0)) (blkOk_by (own := [("point", 1)]) (N := ["points", "point"]) (sc := defScope (top 47)) (by decide +kernel)) (fun _ _ _ _ _ => (pg_name (i := 1) sc_told_count.nd rfl (Or.inl rfl))) (fun _ _ _ _ _ => pts_nil) (fun _ _ _ _ _ => (pe_op op_sub (pe_callB (len_seqK (K := K) rfl) rfl T.z_len b_len (pa_cons (pv 1) pa_nil)) pe_int))) pa_nil)))), ?_⟩
    refine ⟨_, rfl, a, rfl, ⟨_, hS⟩, fun D hD => ?_⟩
    refine lc_tup_n (fun i y _ => ∃ p, ps[i]? = some p ∧ y = .int ((p.length : Int) - 1)) hS hD (short (by have := hp.1; omega)) (fun _ => rfl) (fun _ _ _ _ _ h _ _ => h) (fun i x H' hx s Qk hk => ?_) fun H' acc s hacc hlen hall => ?_
    · obtain ⟨p, hp1, b, us, rfl, hb, hn⟩ := hp.get hx
      refine ⟨_, rfl, b, us, rfl, .inr (Same.tup s hb), _, _, rfl, rfl, ?_⟩
      refine hk _ _ (Same.refl _) ⟨p, hp1, ?_⟩
      rw [hn.1]
    · have e := made_map (g := fun p => V.int (((p : List (Int × Int)).length : Int) - 1)) (xs := ps) (hlen.trans hp.1) hall
      refine ⟨D, ps.map fun p => (p.length : Int) - 1, rfl, SqL.of (by rw [hacc, e, List.map_map]; rfl), ?_⟩
      exact k H' s
theorem sc_points_of : FnScope ["thing", "point"] ["thing"] (defScope (top 48)) := ⟨rfl, rfl, rfl, by decide +kernel, rfl, by decide +kernel, by decide +kernel⟩
def places (ps : List (List (Int × Int))) : List (Int × Int) := ps.map fun p => p.headD (0, 0)
def spPointsOf (K : PySem.W.Frag) (A : Ads) : Sp := fun vs H Q E => ∃ a ps, vs = [.ref a] ∧ PtsT K H a ps ∧ 0 < ps.length ∧ ps.length < 64 ∧ (∀ p ∈ ps, OkPt p) ∧
  (¬ (places ps).Nodup → ∀ H', Same H H' → E (.ref A.NoPoints) none H') ∧ ((places ps).Nodup → 12 < told ps → ∀ H', Same H H' → E (.ref A.TooMany) none H') ∧ ((places ps).Nodup → told ps ≤ 12 → ∀ H', Same H H' → Q (.ref a) H')
theorem ok_points_of (T : Txt w K mg A) : FnG L P w K mg base 4 "points_of" ["thing"] (spPointsOf K A) := by
  have G_is_point := ok_is_point (L := L) (P := P) (base := base) T
  have G_told_count := ok_told_count (L := L) (P := P) (base := base) T
  refine okG T.d_points_of sc_points_of (fun vs H Q E h => ?_) (fun _ _ _ _ _ _ us hl => match us, hl with | [_], _ => rfl) (fun f cdv A₁ outer s H vs Q E hr h => ?_)
  · obtain ⟨a, ps, rfl, _⟩ := h
    rfl
  · obtain ⟨a, ps, rfl, ⟨vs, hS, hp⟩, h0, hz, hok, k1, k2, k3⟩ := h
    refine ⟨_, (pss_cons (ps_if (PW.pt (pw_or (pt_not (pt_val (pe_callB call_isiT rfl T.z_isinstance b_isinstance (pa_cons (pv 0) (pa_cons (pe_tup (pa_cons (pe_bltn (v := .ty "list") rfl T.z_list b_list rfl) (pa_cons (pe_bltn (v := .ty "tuple") rfl T.z_tuple b_tuple rfl) pa_nil))) pa_nil))))) (pw_or1 (pt_cmpR op_eq (pe_callB call_len_seq rfl T.z_len b_len (pa_cons (pv 0) pa_nil)) pe_int (nomark _))))) (pss_one (ps_raise rfl (takes_of rfl rfl rfl rfl) T.xNoPoints.pm)) pss_nil)
      (pss_cons (ps_if (pt_not (pt_val (pe_callB (cr_all (by rfl)) rfl T.z_all b_all (pa_cons (pe_lc (own := [("point", 1)]) (by rfl) sc_points_of.nd (pi_tup (pv 0)) (blkOk_by (own := [("point", 1)]) (N := ["thing", "point"]) (sc := defScope (top 48)) (by decide +kernel)) (fun _ _ _ _ _ => (pg_name (i := 1) sc_points_of.nd rfl (Or.inl rfl))) (fun _ _ _ _ _ => pts_nil) (fun _ _ _ _ _ => (pe_c G_is_point hr (fun σ => passNo σ) (pa_cons (pv 1) pa_nil)))) pa_nil)))) (pss_one (ps_raise rfl (takes_of rfl rfl rfl rfl) T.xNoPoints.pm)) pss_nil)
      (pss_cons (ps_if (pt_cmpR op_lt (pe_callB call_lenST rfl T.z_len b_len (pa_cons (pe_callTy (cr_setOfT (by rfl) (hu64 hr)) rfl T.z_set b_set (pa_cons (pe_lc (own := [("point", 1)]) (by rfl) sc_points_of.nd (pi_tup (pv 0)) (blkOk_by (own := [("point", 1)]) (N := ["thing", "point"]) (sc := defScope (top 48)) (by decide +kernel)) (fun _ _ _ _ _ => (pg_name (i := 1) sc_points_of.nd rfl (Or.inl rfl))) (fun _ _ _ _ _ => pts_nil) (fun _ _ _ _ _ => (pe_ix (ix_tupK (K := K) rfl) (pv 1) pe_int (fun _ _ => rfl)))) pa_nil)) pa_nil)) (pe_callB call_len_seq rfl T.z_len b_len (pa_cons (pv 0) pa_nil)) (nomark _)) (pss_one (ps_raise rfl (takes_of rfl rfl rfl rfl) T.xNoPoints.pm)) pss_nil)
      (pss_cons (ps_if (pt_cmpR op_gt (pe_c G_told_count hr (fun σ => passNo σ) (pa_cons (pv 0) pa_nil)) (pe_cst T.cMOST_TOLD) (nomark _)) (pss_one (ps_raise rfl (takes_of rfl rfl rfl rfl) T.xTooMany.pm)) pss_nil)
      (pss_one (ps_ret (pe_callTy call_tuple_of rfl T.z_tuple b_tuple (pa_cons (pv 0) pa_nil)))))))), ?_⟩
    refine ⟨_, rfl, (by show 2 ≤ sizeLine; decide), fun t ht => ?_⟩
    have s1 : Same H (upd H t (.tup [.ty "list", .ty "tuple"])) := Same.new ht
    refine ⟨.ref a, t, [.ty "list", .ty "tuple"], .type "tuple", [.type "list", .type "tuple"], true, rfl, upd_same, .cons (.ty _) (.cons (.ty _) .nil), tyT (Same.tup s1 hS), kitAny_cons (b := false) (kit_ty (by decide +kernel)) (fun _ => kitAny_cons (b := true) (kit_ty (by decide +kernel)) (fun z => nomatch z) fun _ => rfl) (fun z => nomatch z), _, rfl, iteF ?_⟩
    generalize upd H t (.tup [.ty "list", .ty "tuple"]) = H1 at s1 ⊢
    have hS1 := Same.tup s1 hS
    have hlv := hp.1
    refine ⟨_, rfl, a, _, rfl, .inr hS1, rfl, _, rfl, ?_⟩
    rw [decide_eq_false (by intro z; have z' := V.int.inj z; omega)]
    refine iteF ?_
    refine ⟨_, rfl, a, rfl, ⟨_, hS1⟩, fun D hD => ?_⟩
    refine lc_tup_n (fun _ y _ => y = .bl true) hS1 hD (short (by omega)) (fun _ => rfl) (fun _ _ _ _ _ h _ _ => h) (fun i x H' hx s Qk hk => ?_) fun H2 acc s hacc hlen hall => ?_
    · obtain ⟨p, hp1, hv⟩ := hp.get hx
      exact ⟨_, rfl, x, p, rfl, (hv.same s1).same s, hok p (List.mem_of_getElem? hp1), fun H'' s' => hk _ _ s' rfl⟩
    have e := map_const hlen hall
    refine ⟨D, List.replicate vs.length true, rfl, SqL.of (by rw [hacc, e, List.map_replicate]), ?_⟩
    rw [all_trues]
    refine ⟨_, rfl, iteF ?_⟩
    have s2 := s1.trans s
    have hS2 := Same.tup s2 hS
    clear hall e hacc hlen
    refine ⟨_, rfl, a, rfl, ⟨_, hS2⟩, fun D2 hD2 => ?_⟩
    refine lc_tup_n (fun i y H' => ∃ p b, ps[i]? = some p ∧ y = .ref b ∧ SqT K H' b [.int (p.headD (0, 0)).1, .int (p.headD (0, 0)).2]) hS2 hD2 (short (by omega)) (fun _ => rfl) (fun j y H' H'' ys ⟨p, b, e1, e2, e3⟩ hd kp => ⟨p, b, e1, e2, kp.tup hd e3⟩) (fun i x H' hx s' Qk hk => ?_) fun H3 acc2 s' hacc2 hlen2 hall2 => ?_
    · obtain ⟨p, hp1, b, us, rfl, hb, hn⟩ := hp.get hx
      have h2 := (hok p (List.mem_of_getElem? hp1)).1
      cases p with
      | nil =>
        rcases h2 with h2 | h2 <;> cases h2
      | cons q p =>
        cases us with
        | nil => exact absurd hn.1 (by simp)
        | cons u us =>
          obtain ⟨c, rfl, hc⟩ := hn.2 0 u q rfl rfl
          refine ⟨_, rfl, b, _, _, _, rfl, rfl, Same.tup (s2.trans s') hb, atI_nat (j := 0) (v := .ref c) rfl, ?_⟩
          exact hk _ _ (Same.refl _) ⟨q :: p, c, hp1, rfl, Same.tup (s2.trans s') hc⟩
    obtain ⟨ks, hks, hks2⟩ : ∃ ks : List (Addr × List Int), acc2 = ks.map (fun p => V.ref p.1) ∧ ks.length = ps.length ∧ (∀ p ∈ ks, SqT K H3 p.1 (p.2.map V.int)) ∧ ks.map (·.2) = (places ps).map fun q => [q.1, q.2] := by
      have hgen : ∀ (ps' : List (List (Int × Int))) (acc : List V), acc.length = ps'.length → (∀ (j : Nat) y, acc[j]? = some y → ∃ p b, ps'[j]? = some p ∧ y = .ref b ∧ SqT K H3 b [.int (p.headD (0, 0)).1, .int (p.headD (0, 0)).2]) →
          ∃ ks : List (Addr × List Int), acc = ks.map (fun p => V.ref p.1) ∧ ks.length = ps'.length ∧ (∀ p ∈ ks, SqT K H3 p.1 (p.2.map V.int)) ∧ ks.map (·.2) = (places ps').map fun q => [q.1, q.2] := by
        intro ps'
        induction ps' with
        | nil =>
          intro acc hl _
          obtain rfl : acc = [] := List.eq_nil_of_length_eq_zero hl
          exact ⟨[], rfl, rfl, fun p hp => absurd hp (by simp), rfl⟩
        | cons p ps' ih =>
          intro acc hl hh
          cases acc with
          | nil => exact absurd hl (by simp)
          | cons y acc =>
            obtain ⟨ks, e1, e2, e3, e4⟩ := ih acc (by simpa using hl) fun j y hj => hh (j + 1) y hj
            obtain ⟨p', b, f1, f2, f3⟩ := hh 0 y rfl
            cases f1
            refine ⟨(b, [(p.headD (0, 0)).1, (p.headD (0, 0)).2]) :: ks, by rw [List.map_cons, ← e1, f2], by rw [List.length_cons, List.length_cons, e2], fun q hq => ?_, by rw [List.map_cons, e4]; rfl⟩
            rcases List.mem_cons.mp hq with z | z
            · rw [z]; exact f3
            · exact e3 q z
      exact hgen ps acc2 (hlen2.trans hlv) hall2
    obtain ⟨hkl, hkt, hkp⟩ := hks2
    have s3 := s2.trans s'
    refine ⟨D2, ks, rfl, SqL.of (by rw [hacc2, hks]), hkt, by omega, fun St L' hSt hsub hcov => ?_⟩
    have s4 : Same H3 (upd H3 St (SetTO P w St L')) := Same.new hSt
    refine ⟨St, L', rfl, upd_same, fun p hp => Same.tup s4 (hkt p (hsub p hp)), fun hnd => ?_⟩
    have s5 := s3.trans s4
    refine ⟨_, rfl, a, _, rfl, .inr (Same.tup s5 hS), _, _, rfl, rfl, _, rfl, ?_⟩
    have inj2 : ∀ x y : Int × Int, [x.1, x.2] = [y.1, y.2] → x = y := fun x y e => by
      injection e with e1 e2
      injection e2 with e2 _
      exact Prod.ext e1 e2
    have hsub' : ∀ x ∈ L'.map (·.2), x ∈ ks.map (·.2) := fun x hx => by
      obtain ⟨p, hp, rfl⟩ := List.mem_map.mp hx
      exact List.mem_map.mpr ⟨p, hsub p hp, rfl⟩
    have hcov' : ∀ x ∈ ks.map (·.2), x ∈ L'.map (·.2) := fun x hx => by
      obtain ⟨p, hp, rfl⟩ := List.mem_map.mp hx
      exact hcov p hp
    by_cases hd : (places ps).Nodup
    · have hkn : (ks.map (·.2)).Nodup := by rw [hkp]; exact nodup_map_of inj2 hd
      have l1 := nodup_len hnd hsub'
      have l2 := nodup_len hkn hcov'
      rw [List.length_map, List.length_map] at l1 l2
      rw [decide_eq_false (by omega)]
      refine iteF ?_
      refine ⟨_, rfl, a, ps, rfl, ⟨vs, Same.tup s5 hS, hp.imp fun v x q => q.same s5⟩, by omega, fun H5 s6 => ?_⟩
      refine ⟨_, _, rfl, rfl, _, rfl, ?_⟩
      have s7 := s5.trans s6
      refine ite2 (fun c => ?_) (fun c => ?_)
      · exact k2 hd (by simpa using c) H5 s7
      · exact ⟨_, rfl, a, _, rfl, .inr ⟨Same.tup s7 hS, k3 hd (by simpa using c) H5 s7⟩⟩
    · have hkn : ¬ (ks.map (·.2)).Nodup := by
        rw [hkp]
        exact fun z => hd (nodup_of_map z)
      have l1 := nodup_lt hnd hsub' hkn
      rw [List.length_map, List.length_map] at l1
      rw [decide_eq_true (by omega)]
      exact iteT (k1 hd _ s5)
end
end K3
/-! points as texts: the walks -/
namespace K3
open PySem PySem.Spec PyProof.Rows L2 HotX
def showP (p : List (Int × Int)) : Str := PySem.Txt.join (Str.ofString ":") (p.map showN)
def showPs (ps : List (List (Int × Int))) : Str := PySem.Txt.join (Str.ofString ", ") (ps.map showP)
/-- a point of at most three numbers with at most a hundred figures -/
def FinePt (p : List (Int × Int)) : Prop := p.length ≤ 3 ∧ ∀ q ∈ p, Fine q
theorem sum_le {ys : List Str} {n : Nat} (h : ∀ y ∈ ys, y.length ≤ n) : (ys.map (·.length)).sum ≤ ys.length * n := by
  induction ys with
  | nil => simp
  | cons y ys ih =>
    rw [List.map_cons, List.sum_cons, List.length_cons, Nat.succ_mul]
    have h1 := h y List.mem_cons_self
    have h2 := ih fun z hz => h z (List.mem_cons_of_mem _ hz)
    omega
theorem joinL_len (S : List Nat) : ∀ l : List (List Nat), (TL.joinL S l).length ≤ (l.map List.length).sum + l.length * S.length
  | [] => by simp [TL.joinL]
  | [p] => by simp [TL.joinL]
  | p :: q :: r => by
    have ih := joinL_len S (q :: r)
    show (p ++ (S ++ TL.joinL S (q :: r))).length ≤ _
    rw [List.length_append, List.length_append, List.map_cons, List.sum_cons, List.length_cons, Nat.succ_mul]
    omega
theorem join_len {a : Str} {ys : List Str} {n : Nat} (h : ∀ y ∈ ys, y.length ≤ n) : (PySem.Txt.join a ys).length ≤ ys.length * n + ys.length * a.length := by
  rw [TL.join_eq, TL.len_tl, TL.tl_join]
  have z := joinL_len (TL.tl a) (ys.map TL.tl)
  have e : (ys.map TL.tl).map List.length = ys.map (·.length) := by
    rw [List.map_map]
    exact List.map_congr_left fun y _ => (TL.len_tl y).symm
  rw [e, List.length_map, ← TL.len_tl] at z
  have := sum_le h
  omega
theorem showN_all {p : List (Int × Int)} (h : FinePt p) : ∀ y ∈ p.map showN, y.length ≤ 203 := fun y hy => by
  obtain ⟨q, hq, rfl⟩ := List.mem_map.mp hy
  exact showN_len (h.2 q hq)
theorem one_colon : (Str.ofString ":").length = 1 := by decide +kernel
theorem two_comma : (Str.ofString ", ").length = 2 := by decide +kernel
theorem showP_len {p : List (Int × Int)} (h : FinePt p) : (showP p).length ≤ 612 := by
  have z := join_len (a := Str.ofString ":") (showN_all h)
  rw [List.length_map, one_colon] at z
  have := h.1
  exact Nat.le_trans z (by omega)
theorem showPs_len {ps : List (List (Int × Int))} (h : ∀ p ∈ ps, FinePt p) : (showPs ps).length ≤ ps.length * 614 := by
  have z := join_len (a := Str.ofString ", ") (ys := ps.map showP) (n := 612) fun y hy => by
    obtain ⟨p, hp, rfl⟩ := List.mem_map.mp hy
    exact showP_len (h p hp)
  rw [List.length_map, two_comma] at z
  exact Nat.le_trans z (by omega)
def retScope (st : Stmt) : Scope := match defBody st with
  | [.Return (some (.Call _ [lc] _ _)) _] => lcScope lc
  | _ => { kind := .function, names := [], isGenerator := false, isCoroutine := false }
section
variable {L : Bool} {P : Program} {w : World} {K : PySem.W.Frag} {mg : Str → Option Value} {base : Heap} {A : Ads}
theorem sc_show_points : FnScope ["points", "number", "point"] ["points"] (defScope (top 97)) := ⟨rfl, rfl, rfl, by decide +kernel, rfl, by decide +kernel, by decide +kernel⟩
def spShowPs (K : PySem.W.Frag) : Sp := fun vs H Q _ => ∃ a ps, vs = [.ref a] ∧ PtsT K H a ps ∧ ps.length ≤ 100 ∧ (∀ p ∈ ps, FinePt p) ∧ ∀ H', Same H H' → Q (.str (showPs ps)) H'
/-- the inner list of a point's texts -/
theorem texts_of {t : TE} {K : PySem.W.Frag} {σ : L2.St} {H1 : Hp} {x : V} {p : List (Int × Int)} {Qk : VK} {j n : Nat} (hx : σ[j]? = some (some x)) (hv : PtV K H1 x p) (hf : FinePt p)
    (ht : t = tLc (iTup K (tVar j)) (gName n) tYes (tCallS (spShow K) (fun _ => E0) (tCons (tVar n) tNil)) [n]) (hn : n < σ.length)
    (hk : ∀ D H', Same H1 H' → H' D = some (.lst (p.map fun q => V.str (showN q))) → Qk (.ref D) H') : t σ H1 Qk := by
  obtain ⟨a, us, rfl, hS, hn'⟩ := hv
  subst ht
  refine ⟨_, hx, a, rfl, ⟨_, hS⟩, fun D hD => ?_⟩
  have hl : us.length ≤ sizeLine := short (by have := hn'.1; have := hf.1; omega)
  refine lc_tup_n (fun i y _ => ∃ q, p[i]? = some q ∧ y = .str (showN q)) hS hD hl (fun z => ?_) (fun _ _ _ _ _ h _ _ => h) (fun i u H' hu s Qk hk2 => ?_) fun H' acc s hacc hlen hall => ?_
  · simp [wipe]
  · obtain ⟨q, hq, hv⟩ := hn'.get hu
    refine ⟨u, by simp [wipe, hn], u, q, rfl, hv.same s, hf.2 q (List.mem_of_getElem? hq), ?_⟩
    exact hk2 _ _ (Same.refl _) ⟨q, hq, rfl⟩
  · have e := made_map (xs := p) (g := fun q => V.str (showN q)) (hlen.trans hn'.1) hall
    exact hk D H' s (by rw [hacc, e])
theorem ok_show_points (T : Txt w K mg A) : FnG L P w K mg base 2 "show_points" ["points"] (spShowPs K) := by
  have G_show_number := ok_show_number (L := L) (P := P) (base := base) T
  refine okG T.d_show_points sc_show_points (fun vs H Q E h => ?_) (fun _ _ _ _ _ _ us hl => match us, hl with | [_], _ => rfl) (fun f cdv A₁ outer s H vs Q E hr h => ?_)
  · obtain ⟨a, ps, rfl, _⟩ := h
    rfl
  · obtain ⟨a, ps, rfl, ⟨vs, hS, hp⟩, hz, hf, k⟩ := h
    refine ⟨_, (pss_one (ps_ret (pe_join pe_str (pe_lc (own := [("point", 2)]) (by rfl) sc_show_points.nd (pi_tup (pv 0)) (blkOk_by (own := [("point", 2)]) (N := ["points", "number", "point"]) (sc := defScope (top 97)) (by decide +kernel)) (fun _ _ _ _ _ => (pg_name (i := 2) sc_show_points.nd rfl (Or.inl rfl))) (fun _ _ _ _ _ => pts_nil) (fun _ _ _ _ _ => (pe_joinK (K := K) rfl pe_str (pe_lc (own := [("number", 1)]) (by rfl) sc_show_points.nd (pi_tupK (K := K) rfl (pv 2)) (blkOk_by (own := [("number", 1)]) (N := ["points", "number", "point"]) (sc := retScope (top 97)) (by decide +kernel)) (fun _ _ _ _ _ => (pg_name (i := 1) sc_show_points.nd rfl (Or.inl rfl))) (fun _ _ _ _ _ => pts_nil) (fun _ _ _ _ _ => (pe_c G_show_number hr (fun σ => passNo σ) (pa_cons (pv 1) pa_nil)))))))))), ?_⟩
    refine ⟨⟨_, rfl⟩, _, rfl, a, rfl, ⟨_, hS⟩, fun D hD => ?_⟩
    refine lc_tup_n (fun i y _ => ∃ p, ps[i]? = some p ∧ y = .str (showP p)) hS hD (short (by have := hp.1; omega)) (fun _ => rfl) (fun _ _ _ _ _ h _ _ => h) (fun i x H' hx s Qk hk => ?_) fun H' acc s hacc hlen hall => ?_
    · obtain ⟨p, hp1, hv⟩ := hp.get hx
      have hfp := hf p (List.mem_of_getElem? hp1)
      refine ⟨⟨_, rfl⟩, texts_of rfl (hv.same s) hfp rfl (by simp [wipe, L2.start]) fun D2 H2 s2 hD2 => ?_⟩
      refine ⟨_, D2, p.map showN, rfl, rfl, .inl (SqL.of (by rw [hD2, List.map_map]; rfl)), ?_, hk _ _ s2 ⟨p, hp1, rfl⟩⟩
      have z := sum_le (showN_all hfp)
      have := hfp.1
      rw [List.length_map] at z
      rw [List.length_map, one_colon]
      exact Nat.le_trans (Nat.add_le_add_right z _) (by omega)
    · have e := made_map (xs := ps) (g := fun p => V.str (showP p)) (hlen.trans hp.1) hall
      refine ⟨_, D, ps.map showP, rfl, rfl, .inl (SqL.of (by rw [hacc, e, List.map_map]; rfl)), ?_, k H' s⟩
      have z := sum_le (ys := ps.map showP) (n := 612) fun y hy => by
        obtain ⟨p, hp, rfl⟩ := List.mem_map.mp hy
        exact showP_len (hf p hp)
      rw [List.length_map] at z
      rw [List.length_map, two_comma]
      exact Nat.le_trans (Nat.add_le_add_right z _) (by omega)
theorem sc__law_points_text : FnScope ["_law_points", "_law_number", "_law_point"] ["_law_points"] (defScope (top 120)) := ⟨rfl, rfl, rfl, by decide +kernel, rfl, by decide +kernel, by decide +kernel⟩
theorem ok__law_points_text (T : Txt w K mg A) : FnG L P w K mg base 2 "_law_points_text" ["_law_points"] (spShowPs K) := by
  have G__law_text := ok__law_text (L := L) (P := P) (base := base) T
  refine okG T.d__law_points_text sc__law_points_text (fun vs H Q E h => ?_) (fun _ _ _ _ _ _ us hl => match us, hl with | [_], _ => rfl) (fun f cdv A₁ outer s H vs Q E hr h => ?_)
  · obtain ⟨a, ps, rfl, _⟩ := h
    rfl
  · obtain ⟨a, ps, rfl, ⟨vs, hS, hp⟩, hz, hf, k⟩ := h
    refine ⟨_, (pss_one (ps_ret (pe_join pe_str (pe_lc (own := [("_law_point", 2)]) (by rfl) sc__law_points_text.nd (pi_tup (pv 0)) (blkOk_by (own := [("_law_point", 2)]) (N := ["_law_points", "_law_number", "_law_point"]) (sc := defScope (top 120)) (by decide +kernel)) (fun _ _ _ _ _ => (pg_name (i := 2) sc__law_points_text.nd rfl (Or.inl rfl))) (fun _ _ _ _ _ => pts_nil) (fun _ _ _ _ _ => (pe_joinK (K := K) rfl pe_str (pe_lc (own := [("_law_number", 1)]) (by rfl) sc__law_points_text.nd (pi_tupK (K := K) rfl (pv 2)) (blkOk_by (own := [("_law_number", 1)]) (N := ["_law_points", "_law_number", "_law_point"]) (sc := retScope (top 120)) (by decide +kernel)) (fun _ _ _ _ _ => (pg_name (i := 1) sc__law_points_text.nd rfl (Or.inl rfl))) (fun _ _ _ _ _ => pts_nil) (fun _ _ _ _ _ => (pe_c G__law_text hr (fun σ => passNo σ) (pa_cons (pv 1) pa_nil)))))))))), ?_⟩
    refine ⟨⟨_, rfl⟩, _, rfl, a, rfl, ⟨_, hS⟩, fun D hD => ?_⟩
    refine lc_tup_n (fun i y _ => ∃ p, ps[i]? = some p ∧ y = .str (showP p)) hS hD (short (by have := hp.1; omega)) (fun _ => rfl) (fun _ _ _ _ _ h _ _ => h) (fun i x H' hx s Qk hk => ?_) fun H' acc s hacc hlen hall => ?_
    · obtain ⟨p, hp1, hv⟩ := hp.get hx
      have hfp := hf p (List.mem_of_getElem? hp1)
      refine ⟨⟨_, rfl⟩, texts_of rfl (hv.same s) hfp rfl (by simp [wipe, L2.start]) fun D2 H2 s2 hD2 => ?_⟩
      refine ⟨_, D2, p.map showN, rfl, rfl, .inl (SqL.of (by rw [hD2, List.map_map]; rfl)), ?_, hk _ _ s2 ⟨p, hp1, rfl⟩⟩
      have z := sum_le (showN_all hfp)
      have := hfp.1
      rw [List.length_map] at z
      rw [List.length_map, one_colon]
      exact Nat.le_trans (Nat.add_le_add_right z _) (by omega)
    · have e := made_map (xs := ps) (g := fun p => V.str (showP p)) (hlen.trans hp.1) hall
      refine ⟨_, D, ps.map showP, rfl, rfl, .inl (SqL.of (by rw [hacc, e, List.map_map]; rfl)), ?_, k H' s⟩
      have z := sum_le (ys := ps.map showP) (n := 612) fun y hy => by
        obtain ⟨p, hp, rfl⟩ := List.mem_map.mp hy
        exact showP_len (hf p hp)
      rw [List.length_map] at z
      rw [List.length_map, two_comma]
      exact Nat.le_trans (Nat.add_le_add_right z _) (by omega)
end
end K3
/-! a comprehension over the signs of a text -/
namespace K3
open PySem PySem.Spec PyProof.Rows L2 HotX
theorem lc_str_n {x : Str} {n : Nat} {te : TE} {vs : List Nat} {σ : L2.St} {H1 : Hp} {D : Addr} {Qd : Hp → Prop} (R : Nat → V → Hp → Prop) (hD : H1 D = none) (hz : x.cps.size ≤ sizeLine)
    (hw : ∀ x, wipe ((wipe σ vs).set n (some x)) vs = wipe σ vs) (mono : ∀ j y H H2 ys, R j y H → H D = some (.lst ys) → Keep D H H2 → R j y H2)
    (step : ∀ i c H', x.cps[i]? = some c → Same H1 H' → ∀ Qk : VK, (∀ y H4, Same H' H4 → R i y H4 → Qk y H4) → te ((wipe σ vs).set n (some (.str ⟨#[c]⟩))) H' Qk)
    (hd : ∀ H' acc, Same H1 H' → H' D = some (.lst acc) → acc.length = x.cps.size → (∀ j y, acc[j]? = some y → R j y H') → Qd H') :
    ∃ W : Nat → Nat → Hp → Prop, (∃ m, W 0 m (upd H1 D (.lst []))) ∧ ∀ i m H, W i m H →
      ((Its x).stop i H ∧ Qd H) ∨ ((Its x).go i H ∧ ∃ Nx : Hp → Prop, (∀ H', Nx H' → ∃ m', m' < m ∧ W (i + 1) m' H') ∧ ∀ v H', (Its x).yld i H v H' → gName n v (wipe σ vs) H' fun σ2 H2 => wipe σ2 vs = wipe σ vs ∧ tYes σ2 H2 fun b H3 =>
        if b = true then te σ2 H3 fun y H4 => ∃ acc, H4 D = some (.lst acc) ∧ acc.length < sizeLine ∧ Nx (upd H4 D (.lst (acc ++ [y]))) else Nx H3) := by
  refine ⟨fun i m H => m = x.cps.size - i ∧ i ≤ x.cps.size ∧ Made H1 D R i H, ⟨x.cps.size, by simp, Nat.zero_le _, Made.zero hD⟩, ?_⟩
  rintro i m H ⟨rfl, hi, md⟩
  by_cases hlt : i < x.cps.size
  · refine .inr ⟨hlt, fun H' => Made H1 D R (i + 1) H', fun H' h => ⟨_, by omega, rfl, by omega, h⟩, ?_⟩
    rintro v H' ⟨rfl, c, hc, rfl⟩
    refine ⟨hw _, ?_⟩
    show (if true = true then te _ H' _ else Made H1 D R (i + 1) H')
    rw [if_pos rfl]
    exact step i c H' hc md.1 _ fun y H4 s r => Made.next hD mono md (by omega) s r
  · have e : i = x.cps.size := by omega
    subst e
    obtain ⟨s, acc, h1, h2, h3⟩ := md
    exact .inl ⟨Nat.le_refl _, hd H acc s h1 h2 h3⟩
end K3
/-! texts as numbers: mirrors -/
namespace K3
open PySem PySem.Spec PyProof.Rows L2 HotX TL
def digB (l : List Nat) : Bool := l.all fun c => decide (48 ≤ c) && decide (c ≤ 57)
/-- the number that a row of figures is -/
def wholeL (l : List Nat) : Option Nat := if decide (1 ≤ l.length) && decide (l.length ≤ 60) && digB l && !(decide (l.head? = some 48) && !decide (l = [48])) then some (NumText.digitsVal l) else none
/-- all, or none -/
def allSome {α β : Type} (f : α → Option β) : List α → Option (List β)
  | [] => some []
  | a :: l => match f a with
    | none => none
    | some b => match allSome f l with
      | none => none
      | some r => some (b :: r)
/-- the parts of a text at each '/', the minus ahead taken off; its sign -/
def cutL (l : List Nat) : Int × List (List Nat) := match spl [47] 0 [] l with
  | (45 :: p) :: r => (-1, p :: r)
  | ps => (1, ps)
/-- the number that the text is -/
def readL (l : List Nat) : Option (Int × Int) := match allSome wholeL (cutL l).2 with
  | some [n] => if numQ (lowQ ((cutL l).1 * n) 1) = l then some (lowQ ((cutL l).1 * n) 1) else none
  | some [n, d] => if d = 0 then none else if numQ (lowQ ((cutL l).1 * n) d) = l then some (lowQ ((cutL l).1 * n) d) else none
  | _ => none
def pointL (l : List Nat) : Option (List (Int × Int)) := match allSome readL (spl [58] 0 [] l) with
  | some p => if 2 ≤ p.length ∧ p.length ≤ 3 then some p else none
  | none => none
/-- the points that a text is -/
def partsL (l : List Nat) : Option (List (List (Int × Int))) := allSome pointL (spl [44, 32] 0 [] l)
theorem digB_iff {l : List Nat} : digB l = true ↔ NumText.AllDigits l := by
  unfold digB NumText.AllDigits
  rw [List.all_eq_true]
  exact ⟨fun h c hc => by simpa using h c hc, fun h c hc => by simpa using h c hc⟩
theorem wholeL_some {l : List Nat} {n : Nat} (h : wholeL l = some n) : 1 ≤ l.length ∧ l.length ≤ 60 ∧ NumText.AllDigits l ∧ ¬ (l.head? = some 48 ∧ l ≠ [48]) ∧ n = NumText.digitsVal l := by
  unfold wholeL at h
  split at h
  · rename_i c
    simp only [Bool.and_eq_true, decide_eq_true_eq, Bool.not_eq_true', Bool.and_eq_false_iff] at c
    obtain ⟨⟨⟨h1, h2⟩, h3⟩, h4⟩ := c
    refine ⟨h1, h2, digB_iff.mp h3, fun ⟨z1, z2⟩ => ?_, (Option.some.inj h).symm⟩
    rcases h4 with h4 | h4
    · simp [z1] at h4
    · simp at h4
      exact z2 h4
  · cases h
theorem digitsVal_lt : ∀ (l : List Nat) (a : Nat), NumText.AllDigits l → l.foldl (fun acc c => acc * 10 + (c - 48)) a < (a + 1) * 10 ^ l.length
  | [], a, _ => by simp
  | c :: l, a, h => by
    have ih := digitsVal_lt l (a * 10 + (c - 48)) fun d hd => h d (List.mem_cons_of_mem _ hd)
    have hc := h c List.mem_cons_self
    rw [List.foldl_cons, List.length_cons, Nat.pow_succ]
    have : (a * 10 + (c - 48) + 1) * 10 ^ l.length ≤ ((a + 1) * 10) * 10 ^ l.length := Nat.mul_le_mul_right _ (by omega)
    calc _ < _ := ih
      _ ≤ _ := this
      _ = _ := by rw [Nat.mul_assoc, Nat.mul_comm 10]
theorem wholeL_lt {l : List Nat} {n : Nat} (h : wholeL l = some n) : n < 10 ^ 60 := by
  obtain ⟨_, h2, h3, _, rfl⟩ := wholeL_some h
  have z := digitsVal_lt l 0 h3
  rw [Nat.zero_add, Nat.one_mul] at z
  exact Nat.lt_of_lt_of_le z (Nat.pow_le_pow_right (by decide) h2)
theorem allSome_get {α β : Type} {f : α → Option β} : ∀ {l : List α} {r : List β}, allSome f l = some r → l.length = r.length ∧ ∀ (i : Nat) a, l[i]? = some a → ∃ b, r[i]? = some b ∧ f a = some b
  | [], r, h => by
    cases h
    exact ⟨rfl, fun i a e => by simp at e⟩
  | a :: l, r, h => by
    unfold allSome at h
    cases e1 : f a with
    | none => rw [e1] at h; cases h
    | some b =>
      rw [e1] at h
      cases e2 : allSome f l with
      | none => rw [e2] at h; cases h
      | some r' =>
        rw [e2] at h
        cases h
        obtain ⟨h1, h2⟩ := allSome_get e2
        refine ⟨by rw [List.length_cons, List.length_cons, h1], fun i x hx => ?_⟩
        cases i with
        | zero => cases hx; exact ⟨b, rfl, e1⟩
        | succ i => exact h2 i x hx
theorem allSome_none {α β : Type} {f : α → Option β} : ∀ {l : List α}, allSome f l = none ↔ ∃ a ∈ l, f a = none
  | [] => ⟨(fun h => (nomatch h)), fun ⟨a, h, _⟩ => absurd h (by simp)⟩
  | a :: l => by
    have ih := allSome_none (f := f) (l := l)
    unfold allSome
    cases e1 : f a with
    | none => exact ⟨fun _ => ⟨a, List.mem_cons_self, e1⟩, fun _ => rfl⟩
    | some b =>
      cases e2 : allSome f l with
      | none =>
        obtain ⟨x, hx, hn⟩ := ih.mp e2
        exact ⟨fun _ => ⟨x, List.mem_cons_of_mem _ hx, hn⟩, fun _ => rfl⟩
      | some r =>
        refine ⟨fun h => (nomatch h), fun ⟨x, hx, hn⟩ => ?_⟩
        rcases List.mem_cons.mp hx with z | z
        · rw [z, e1] at hn
          cases hn
        · rw [ih.mpr ⟨x, z, hn⟩] at e2
          cases e2
theorem allSome_of {α β : Type} {f : α → Option β} : ∀ {l : List α} {r : List β}, l.length = r.length → (∀ (i : Nat) a b, l[i]? = some a → r[i]? = some b → f a = some b) → allSome f l = some r
  | [], [], _, _ => rfl
  | [], _ :: _, h, _ => nomatch h
  | _ :: _, [], h, _ => nomatch h
  | a :: l, b :: r, h, k => by
    unfold allSome
    rw [k 0 a b rfl rfl, allSome_of (l := l) (r := r) (by simpa using h) fun i x y hx hy => k (i + 1) x y hx hy]
/-- what is read is in lowest terms -/
theorem lowQ_low {t b : Int} (hb : 0 < b) : 0 < (lowQ t b).2 ∧ Int.gcd (lowQ t b).1 (lowQ t b).2 = 1 := by
  have hg : 0 < Int.gcd t b := by
    have := gcd_pos (t := t) hb
    omega
  have e := Int.gcd_ediv_gcd_ediv_gcd hg
  refine ⟨?_, e⟩
  unfold lowQ
  exact Int.ediv_pos_of_pos_of_dvd hb (by omega) (Int.gcd_dvd_right ..)
theorem lowQ_le {t b : Int} (hb : 0 < b) : (lowQ t b).1.natAbs ≤ t.natAbs ∧ (lowQ t b).2.natAbs ≤ b.natAbs := by
  unfold lowQ
  exact ⟨Int.natAbs_ediv_le_natAbs .., Int.natAbs_ediv_le_natAbs ..⟩
end K3
/-! texts as numbers: the walks -/
namespace K3
open PySem PySem.Spec PyProof.Rows L2 HotX
theorem mem_figs (c : Nat) : decide (c ∈ (Str.ofString "0123456789").cps.toList) = (decide (48 ≤ c) && decide (c ≤ 57)) := by
  have e : (Str.ofString "0123456789").cps.toList = [48, 49, 50, 51, 52, 53, 54, 55, 56, 57] := by decide +kernel
  rw [e, Bool.eq_iff_iff, decide_eq_true_iff, Bool.and_eq_true, decide_eq_true_iff, decide_eq_true_iff]
  constructor
  · intro h
    simp at h
    omega
  · intro h
    have : c = 48 ∨ c = 49 ∨ c = 50 ∨ c = 51 ∨ c = 52 ∨ c = 53 ∨ c = 54 ∨ c = 55 ∨ c = 56 ∨ c = 57 := by omega
    simp
    omega
section
variable {L : Bool} {P : Program} {w : World} {K : PySem.W.Frag} {mg : Str → Option Value} {base : Heap} {A : Ads}
theorem sc_whole_in : FnScope ["word", "sign"] ["word"] (defScope (top 94)) := ⟨rfl, rfl, rfl, by decide +kernel, rfl, by decide +kernel, by decide +kernel⟩
def spWholeIn (A : Ads) : Sp := fun vs H Q E => ∃ t : Str, vs = [.str t] ∧ t.length ≤ 100000 ∧ (wholeL (TL.tl t) = none → ∀ H', Same H H' → E (.ref A.NoText) none H') ∧ (∀ n : Nat, wholeL (TL.tl t) = some n → ∀ H', Same H H' → Q (.int n) H')
theorem ok_whole_in (T : Txt w K mg A) : FnG L P w K mg base 1 "whole_in" ["word"] (spWholeIn A) := by
  refine okG T.d_whole_in sc_whole_in (fun vs H Q E h => ?_) (fun _ _ _ _ _ _ us hl => match us, hl with | [_], _ => rfl) (fun f cdv A₁ outer s H vs Q E hr h => ?_)
  · obtain ⟨t, rfl, _⟩ := h
    rfl
  · obtain ⟨t, rfl, hz, k1, k2⟩ := h
    refine ⟨_, (pss_cons (ps_if (PW.pt (pw_or (pt_not (pt_chain op_le op_le pe_int (pe_callB call_len_str rfl T.z_len b_len (pa_cons (pv 0) pa_nil)) (pe_cst T.cMOST_FIGURES))) (pw_or1 (pt_not (pt_val (pe_callB (cr_all (by rfl)) rfl T.z_all b_all (pa_cons (pe_lc (own := [("sign", 1)]) (by rfl) sc_whole_in.nd (pi_str (pv 0)) (blkOk_by (own := [("sign", 1)]) (N := ["word", "sign"]) (sc := defScope (top 94)) (by decide +kernel)) (fun _ _ _ _ _ => (pg_name (i := 1) sc_whole_in.nd rfl (Or.inl rfl))) (fun _ _ _ _ _ => pts_nil) (fun _ _ _ _ _ => (pe_cmpR op_in_sign (pv 1) (pe_cst T.cFIGURES) (by rfl)))) pa_nil))))))) (pss_one (ps_raise rfl (takes_of rfl rfl rfl rfl) T.xNoText.pm)) pss_nil)
      (pss_cons (ps_if (PW.pt (pw_and (pt_cmpR op_eq (pe_ix ix_str (pv 0) pe_int (fun _ _ => rfl)) pe_str (nomark _)) (pw_and1 (pt_cmpR op_ne (pv 0) pe_str (nomark _))))) (pss_one (ps_raise rfl (takes_of rfl rfl rfl rfl) T.xNoText.pm)) pss_nil)
      (pss_one (ps_ret (pe_callTy call_int_str rfl T.z_int b_int (pa_cons (pv 0) pa_nil)))))), ?_⟩
    have hlen : t.length = (TL.tl t).length := TL.len_tl t
    have hsz : t.cps.size = (TL.tl t).length := by simp [TL.tl]
    refine ⟨_, rfl, t, rfl, short hz, _, _, rfl, rfl, _, rfl, ?_⟩
    refine ite2 (fun c1 => ?_) (fun c1 => ?_)
    rotate_left
    · refine ⟨false, rfl, iteT ?_⟩
      refine k1 ?_ H (Same.refl H)
      unfold wholeL
      have : ¬ (1 : Int) ≤ (t.length : Int) := by simpa using c1
      rw [decide_eq_false (p := 1 ≤ (TL.tl t).length) (by omega)]
      rfl
    have d1 : 1 ≤ (TL.tl t).length := by
      have : (1 : Int) ≤ (t.length : Int) := by simpa using c1
      omega
    refine ⟨_, _, rfl, rfl, _, rfl, ?_⟩
    by_cases c2 : t.length ≤ 60
    rotate_left
    · rw [decide_eq_false (show ¬ (t.length : Int) ≤ 60 by omega)]
      refine iteT ?_
      refine k1 ?_ H (Same.refl H)
      unfold wholeL
      rw [decide_eq_false (p := (TL.tl t).length ≤ 60) (by omega), Bool.and_false]
      rfl
    rw [decide_eq_true (show (t.length : Int) ≤ 60 by omega)]
    refine iteF ?_
    refine ⟨_, rfl, t, rfl, fun D hD => ?_⟩
    refine lc_str_n (fun i y _ => ∃ c, (TL.tl t)[i]? = some c ∧ y = .bl (decide (48 ≤ c) && decide (c ≤ 57))) hD (short (by omega)) (fun _ => rfl) (fun _ _ _ _ _ h _ _ => h) (fun i c H' hc s Qk hk => ?_) fun H1 acc s hacc hl hall => ?_
    · refine ⟨_, rfl, c, _, rfl, rfl, ?_⟩
      rw [mem_figs]
      exact hk _ _ (Same.refl _) ⟨c, by simpa [TL.tl] using hc, rfl⟩
    have e := made_map (xs := TL.tl t) (g := fun c => V.bl (decide (48 ≤ c) && decide (c ≤ 57))) (hl.trans hsz) hall
    refine ⟨D, (TL.tl t).map fun c => decide (48 ≤ c) && decide (c ≤ 57), rfl, SqL.of (by rw [hacc, e, List.map_map]; rfl), ?_⟩
    have eb : (((TL.tl t).map fun c => decide (48 ≤ c) && decide (c ≤ 57)).all id) = digB (TL.tl t) := by
      unfold digB
      rw [List.all_map]
      rfl
    rw [eb]
    cases c3 : digB (TL.tl t) with
    | false =>
      refine ⟨_, rfl, iteT ?_⟩
      refine k1 ?_ H1 s
      unfold wholeL
      rw [c3, Bool.and_false, Bool.false_and]
      rfl
    | true =>
      refine ⟨_, rfl, iteF ?_⟩
      obtain ⟨c, l, ecl⟩ : ∃ c l, TL.tl t = c :: l := by
        cases z : TL.tl t with
        | nil => rw [z] at d1; exact absurd d1 (by decide)
        | cons c l => exact ⟨c, l, rfl⟩
      have ezero : TL.tl (Str.ofString "0") = [48] := by decide +kernel
      refine ⟨_, rfl, t, _, c, rfl, rfl, short hz, ?_, rfl, _, rfl, ?_⟩
      · show atI (TL.tl t) ((0 : Nat) : Int) = some c
        rw [ecl]
        exact atI_nat rfl
      have e0 : decide (V.str ⟨#[c]⟩ = V.str (Str.ofString "0")) = decide (c = 48) := by
        refine decide_eq_decide.mpr ⟨fun z => ?_, fun z => ?_⟩
        · have z2 := congrArg TL.tl (V.str.inj z)
          rw [ezero] at z2
          exact (List.cons.inj z2).1
        · exact congrArg V.str (TL.ext_tl (by rw [ezero, z]))
      rw [e0]
      have fin : ¬ (c = 48 ∧ TL.tl t ≠ [48]) → ∀ H', Same H H' → Q (.int (NumText.digitsVal (TL.tl t))) H' := fun hno H' s' => by
        refine k2 _ ?_ H' s'
        unfold wholeL
        rw [decide_eq_true d1, decide_eq_true (show (TL.tl t).length ≤ 60 by omega), c3]
        have : (!(decide ((TL.tl t).head? = some 48) && !decide (TL.tl t = [48]))) = true := by
          rw [Bool.not_eq_true', Bool.and_eq_false_iff]
          by_cases h1 : c = 48
          · right
            have : TL.tl t = [48] := Classical.byContradiction fun z => hno ⟨h1, z⟩
            rw [this]
            rfl
          · left
            rw [ecl]
            exact decide_eq_false (fun z => h1 (Option.some.inj z))
        rw [this]
        rfl
      have val : ∀ H', Same H H' → (¬ (c = 48 ∧ TL.tl t ≠ [48])) → ∃ (a : Str) (n : Int), [V.str t] = [V.str a] ∧ PySem.intText? a = some n ∧ a.length ≤ 640 ∧ Q (.int n) H' := fun H' s' hno =>
        ⟨t, _, rfl, PySem.intText_digits (digB_iff.mp c3) (fun z => by have z' : TL.tl t = [] := z; rw [z'] at ecl; cases ecl) (by omega), by omega, fin hno H' s'⟩
      by_cases h1 : c = 48
      · rw [decide_eq_true h1]
        refine iteT ⟨_, rfl, rfl, _, rfl, ?_⟩
        have e2 : (!decide (V.str t = V.str (Str.ofString "0"))) = !decide (TL.tl t = [48]) := by
          congr 1
          refine decide_eq_decide.mpr ⟨fun z => by rw [V.str.inj z]; exact ezero, fun z => congrArg V.str (TL.ext_tl (z.trans ezero.symm))⟩
        rw [e2]
        by_cases h2 : TL.tl t = [48]
        · rw [decide_eq_true h2]
          exact iteF ⟨_, rfl, val H1 s fun z => z.2 h2⟩
        · rw [decide_eq_false h2]
          refine iteT (k1 ?_ H1 s)
          unfold wholeL
          have : (!(decide ((TL.tl t).head? = some 48) && !decide (TL.tl t = [48]))) = false := by
            rw [ecl, h1]
            rw [ecl, h1] at h2
            rw [decide_eq_false h2]
            rfl
          rw [this, Bool.and_false]
          rfl
      · rw [decide_eq_false h1]
        refine iteF ?_
        exact iteF ⟨_, rfl, val H1 s fun z => h1 z.1⟩
end
end K3
/-! texts as numbers: the walk of read_number -/
namespace K3
open PySem PySem.Spec PyProof.Rows L2 HotX Evl
theorem spl_ne (S : List Nat) : ∀ (l acc : List Nat) (k : Nat), TL.spl S k acc l ≠ []
  | [], acc, k => by rw [TL.spl_nil]; simp
  | c :: r, acc, 0 => by
    by_cases h : TL.pre S (c :: r) = true
    · rw [TL.spl_hit h]; simp
    · rw [TL.spl_miss (by simpa using h)]
      exact spl_ne S r _ 0
  | c :: r, acc, k + 1 => by
    rw [TL.spl_pass]
    cases z : (c :: r).drop (k + 1) with
    | nil => rw [TL.spl_nil]; simp
    | cons d r' =>
      have : r'.length < r.length + 1 := by
        have := congrArg List.length z
        simp at this
        omega
      by_cases h : TL.pre S (d :: r') = true
      · rw [TL.spl_hit h]; simp
      · rw [TL.spl_miss (by simpa using h)]
        exact spl_ne S r' _ 0
termination_by l _ _ => l.length
theorem spl_len (S : List Nat) : ∀ (l acc : List Nat) (k : Nat), (TL.spl S k acc l).length ≤ l.length + 1
  | [], acc, k => by rw [TL.spl_nil]; simp
  | c :: r, acc, 0 => by
    by_cases h : TL.pre S (c :: r) = true
    · rw [TL.spl_hit h, List.length_cons, List.length_cons]
      have := spl_len S r [] (S.length - 1)
      omega
    · rw [TL.spl_miss (by simpa using h), List.length_cons]
      have := spl_len S r (acc ++ [c]) 0
      omega
  | c :: r, acc, k + 1 => by
    rw [TL.spl_pass, List.drop_succ_cons]
    have := spl_len S (r.drop k) acc 0
    rw [List.length_drop] at this
    rw [List.length_cons]
    omega
termination_by l _ _ => l.length
/-- the items of a split are no longer than the whole -/
theorem spl_item (S : List Nat) : ∀ (l acc : List Nat) (k : Nat) (p : List Nat), p ∈ TL.spl S k acc l → p.length ≤ acc.length + l.length
  | [], acc, k, p, h => by
    rw [TL.spl_nil, List.mem_singleton] at h
    rw [h]
    simp
  | c :: r, acc, 0, p, h => by
    by_cases hp : TL.pre S (c :: r) = true
    · rw [TL.spl_hit hp] at h
      rcases List.mem_cons.mp h with z | z
      · rw [z]; omega
      · have := spl_item S r [] (S.length - 1) p z
        rw [List.length_cons]
        simp at this
        omega
    · rw [TL.spl_miss (by simpa using hp)] at h
      have := spl_item S r (acc ++ [c]) 0 p h
      rw [List.length_append, List.length_singleton] at this
      rw [List.length_cons]
      omega
  | c :: r, acc, k + 1, p, h => by
    rw [TL.spl_pass, List.drop_succ_cons] at h
    have := spl_item S (r.drop k) acc 0 p h
    rw [List.length_drop] at this
    rw [List.length_cons]
    omega
termination_by l _ _ => l.length
theorem tl_cut1 (z : Str) : TL.tl (cutS z none (some 1)) = (TL.tl z).take 1 := by
  show ((z.cps.toList.drop (HT.sIx z.length 0 none)).take (HT.sIx z.length z.length (some ((1 : Nat) : Int)) - HT.sIx z.length 0 none)) = _
  rw [HT.sIx_none, HT.sIx_nat, List.drop_zero, Nat.sub_zero]
  have e : z.length = z.cps.toList.length := TL.len_tl z
  rw [e]
  show _ = z.cps.toList.take 1
  cases z.cps.toList with
  | nil => rfl
  | cons a l =>
    rw [Nat.min_eq_left (by simp)]
theorem tl_cutT (z : Str) : TL.tl (cutS z (some 1) none) = (TL.tl z).drop 1 := by
  show ((z.cps.toList.drop (HT.sIx z.length 0 (some ((1 : Nat) : Int)))).take (HT.sIx z.length z.length none - HT.sIx z.length 0 (some ((1 : Nat) : Int)))) = _
  rw [HT.sIx_none, HT.sIx_nat]
  have e : z.length = z.cps.toList.length := TL.len_tl z
  rw [e]
  show _ = z.cps.toList.drop 1
  cases z.cps.toList with
  | nil => rfl
  | cons a l =>
    rw [Nat.min_eq_left (by simp)]
    apply List.take_of_length_le
    simp
theorem lt1000 {d : Nat} (h : d < 10 ^ 60) : (d : Int) < 2 ^ 1000 := by
  have h1 : (10 : Nat) ^ 60 < 2 ^ 1000 := by decide
  have h2 : ((2 ^ 1000 : Nat) : Int) = (2 : Int) ^ 1000 := by rw [Int.natCast_pow]; rfl
  rw [← h2]
  omega
section
variable {L : Bool} {P : Program} {w : World} {K : PySem.W.Frag} {mg : Str → Option Value} {base : Heap} {A : Ads}
theorem sc_read_number : FnScope ["text", "parts", "way", "some", "part", "number"] ["text"] (defScope (top 95)) := ⟨rfl, rfl, rfl, by decide +kernel, rfl, by decide +kernel, by decide +kernel⟩
def spRead (K : PySem.W.Frag) (A : Ads) : Sp := fun vs H Q E => ∃ t : Str, vs = [.str t] ∧ t.length ≤ 100000 ∧ (readL (TL.tl t) = none → ∀ H', Same H H' → E (.ref A.NoText) none H') ∧ (∀ q, readL (TL.tl t) = some q → ∀ p H', Same H H' → SqT K H' p [.int q.1, .int q.2] → Q (.ref p) H')
theorem map_str {l : List Str} {m : List V} (h : m = l.map V.str) : m.length = l.length := by rw [h, List.length_map]
theorem readL_of {t : Str} {way : Int} {ps : List Str} (h : cutL (TL.tl t) = (way, ps.map TL.tl)) : readL (TL.tl t) = match allSome wholeL (ps.map TL.tl) with
  | some [n] => if numQ (lowQ (way * n) 1) = TL.tl t then some (lowQ (way * n) 1) else none
  | some [n, d] => if d = 0 then none else if numQ (lowQ (way * n) d) = TL.tl t then some (lowQ (way * n) d) else none
  | _ => none := by
  unfold readL
  rw [h] <;> rfl
theorem ok_read_number (T : Txt w K mg A) : FnG L P w K mg base 4 "read_number" ["text"] (spRead K A) := by
  have G_whole_in := ok_whole_in (L := L) (P := P) (base := base) T
  have G_number_of := ok_number_of (L := L) (P := P) (base := base) T
  have G_show_number := ok_show_number (L := L) (P := P) (base := base) T
  refine okG T.d_read_number sc_read_number (fun vs H Q E h => ?_) (fun _ _ _ _ _ _ us hl => match us, hl with | [_], _ => rfl) (fun f cdv A₁ outer s H vs Q E hr h => ?_)
  · obtain ⟨t, rfl, _⟩ := h
    rfl
  · obtain ⟨t, rfl, hz, k1, k2⟩ := h
    refine ⟨_, (pss_cons (ps_if (pt_not (pt_val (pe_callB call_isi rfl T.z_isinstance b_isinstance (pa_cons (pv 0) (pa_cons (pe_bltn (v := .ty "str") rfl T.z_str b_str rfl) pa_nil))))) (pss_one (ps_raise rfl (takes_of rfl rfl rfl rfl) T.xNoText.pm)) pss_nil)
      (pss_cons (ps_set (i := 1) sc_read_number.nd rfl (Or.inl rfl) (pe_split (pv 0) pe_str))
      (pss_cons (ps_set (i := 2) sc_read_number.nd rfl (Or.inl rfl) pe_int)
      (pss_cut (ps_if (pt_cmpR op_eq (pe_slice sl_str (pe_ix ix_list (pv 1) pe_int (fun _ _ => rfl)) po_none (po_some pe_int)) pe_str (nomark _)) (pss_cons (ps_set (i := 2) sc_read_number.nd rfl (Or.inl rfl) (pe_un un_neg pe_int))
      (pss_one (ps_asg (pe_slice sl_str (pe_ix ix_list (pv 1) pe_int (fun _ _ => rfl)) (po_some pe_int) po_none) (pg_sub (pv 1) pe_int set_list)))) pss_nil)
      (pss_cons (ps_setLcX (i := 3) (own := [("part", 4)]) (G := Calm) (fun _ _ _ _ _ _ => rfl) rfl rfl (takes_of rfl rfl rfl rfl) sc_read_number.nd rfl rfl (sw_true rfl rfl rfl (by decide +kernel)) (pig_of (pi_list (pv 1))) (blkOk_by (own := [("part", 4)]) (N := ["text", "parts", "way", "some", "part", "number"]) (sc := defScope (top 95)) (by decide +kernel)) (fun _ _ _ _ _ _ => (pg_name (i := 4) sc_read_number.nd rfl (Or.inl rfl))) (fun _ _ _ _ _ _ => pts_nil) (fun _ _ _ _ _ E => (pe_c G_whole_in hr (fun σ => passBlk σ) (pa_cons (pv 4) pa_nil))))
      (pss_cut (ps_if (PW.pt (pw_or (pt_cmpR op_gt (pe_callB call_len_seq rfl T.z_len b_len (pa_cons (pv 3) pa_nil)) pe_int (nomark _)) (pw_or1 (PW.pt (pw_and (pt_cmpR op_eq (pe_ix ix_list (pv 3) (pe_un un_neg pe_int) (fun _ _ => rfl)) pe_int (nomark _)) (pw_and1 (pt_cmpR op_eq (pe_callB call_len_seq rfl T.z_len b_len (pa_cons (pv 3) pa_nil)) pe_int (nomark _)))))))) (pss_one (ps_raise rfl (takes_of rfl rfl rfl rfl) T.xNoText.pm)) pss_nil)
      (pss_cons (ps_set (i := 5) sc_read_number.nd rfl (Or.inl rfl) (pe_c G_number_of hr (fun σ => passNo σ) (pa_cons (pe_op op_mul (pv 2) (pe_ix ix_list (pv 3) pe_int (fun _ _ => rfl))) (pa_cons (pe_ix ix_list (pe_op op_cat (pv 3) (pe_lst (pa_cons pe_int pa_nil))) pe_int (fun _ _ => rfl)) pa_nil))))
      (pss_cons (ps_if (pt_cmpR op_ne (pe_c G_show_number hr (fun σ => passNo σ) (pa_cons (pv 5) pa_nil)) (pv 0) (nomark _)) (pss_one (ps_raise rfl (takes_of rfl rfl rfl rfl) T.xNoText.pm)) pss_nil)
      (pss_one (ps_ret (pv 5))))))))))), ?_⟩
    refine ⟨_, rfl, _, _, _, _, true, rfl, .ty _, .base (.str t), kit_ty (by decide +kernel), _, rfl, iteF ?_⟩
    refine ⟨_, rfl, ⟨_, rfl⟩, t, _, rfl, rfl, (by decide +kernel), Nat.le_trans (Nat.add_le_add_right hz 2) (by decide), fun p hp => ?_⟩
    have hsp : (PySem.Txt.split t (Str.ofString "/")).map TL.tl = TL.spl [47] 0 [] (TL.tl t) := by
      have := TL.split_spl t (Str.ofString "/") (by decide +kernel) (TL.kind_ok (by decide +kernel))
      rw [this, tl_slash]
    generalize PySem.Txt.split t (Str.ofString "/") = ps at hsp ⊢
    have s1 : Same H (upd H p (.lst (ps.map V.str))) := Same.new hp
    have h1 : (upd H p (.lst (ps.map V.str))) p = some (.lst (ps.map V.str)) := upd_same
    generalize upd H p (.lst (ps.map V.str)) = H1 at s1 h1 ⊢
    have hps : ∀ z ∈ ps, z.length ≤ 100000 := fun z hm => by
      have := spl_item [47] (TL.tl t) [] 0 (TL.tl z) (by rw [← hsp]; exact List.mem_map.mpr ⟨z, hm, rfl⟩)
      rw [← TL.len_tl, ← TL.len_tl] at this
      simp at this
      omega
    have hpl : ps.length ≤ 100001 := by
      have := spl_len [47] (TL.tl t) [] 0
      rw [← hsp, List.length_map, ← TL.len_tl] at this
      omega
    obtain ⟨z, r, rfl⟩ : ∃ z r, ps = z :: r := by
      cases ps with
      | nil => exact absurd hsp.symm (spl_ne _ _ _ _)
      | cons z r => exact ⟨z, r, rfl⟩
    have hz1 := hps z List.mem_cons_self
    have edash : TL.tl (Str.ofString "-") = [45] := by decide +kernel
    refine ⟨fun σ' H' => ∃ (way : Int) (ps : List Str), σ' = [some (.str t), some (.ref p), some (.int way), none, none, none] ∧ (way = 1 ∨ way = -1) ∧ Same H H' ∧ H' p = some (.lst (ps.map V.str)) ∧ cutL (TL.tl t) = (way, ps.map TL.tl) ∧ (∀ z ∈ ps, z.length ≤ 100000) ∧ ps.length ≤ 100001 ∧ ps ≠ [], ?_, ?_⟩
    · refine ⟨_, rfl, p, _, _, .str z, rfl, rfl, SqL.of h1, atI_nat (j := 0) rfl, ?_⟩
      refine ⟨1, rfl, z, rfl, short hz1, rfl, _, rfl, ?_⟩
      have e1 : decide (V.str (cutS z none (some 1)) = V.str (Str.ofString "-")) = decide ((TL.tl z).take 1 = [45]) :=
        decide_eq_decide.mpr ⟨fun e => by rw [← tl_cut1, V.str.inj e]; exact edash, fun e => congrArg V.str (TL.ext_tl (by rw [tl_cut1, e, edash]))⟩
      rw [e1]
      by_cases c : (TL.tl z).take 1 = [45]
      · rw [decide_eq_true c]
        refine iteT ?_
        obtain ⟨l, hl⟩ : ∃ l, TL.tl z = 45 :: l := by
          cases e : TL.tl z with
          | nil => rw [e] at c; cases c
          | cons a l => rw [e] at c; cases c; exact ⟨l, rfl⟩
        refine ⟨_, rfl, _, rfl, p, _, _, .str z, rfl, rfl, SqL.of h1, atI_nat (j := 0) rfl, ?_⟩
        refine ⟨1, rfl, z, rfl, short hz1, _, rfl, p, _, _, _, rfl, rfl, h1, ixN_nat (j := 0) (by simp), ?_⟩
        refine ⟨-1, cutS z (some 1) none :: r, rfl, .inr rfl, fun b o e => ?_, upd_same, ?_, fun y hy => ?_, by simpa using hpl, by simp⟩
        · rw [upd_ne (ne_of_none e hp)]
          exact s1 b o e
        · unfold cutL
          rw [← hsp, List.map_cons, hl, List.map_cons, tl_cutT, hl]
          rfl
        · rcases List.mem_cons.mp hy with e | e
          · rw [e]; exact Nat.le_trans (cutS_length ..) hz1
          · exact hps y (List.mem_cons_of_mem _ e)
      · rw [decide_eq_false c]
        refine iteF ?_
        refine ⟨1, z :: r, rfl, .inl rfl, s1, h1, ?_, hps, hpl, by simp⟩
        unfold cutL
        rw [← hsp, List.map_cons]
        split
        · rename_i l r' e
          have e2 := (List.cons.inj e).1
          rw [e2] at c
          exact absurd rfl c
        · rfl
    clear hps hpl hz1 hsp s1 h1
    rintro σ' H2 ⟨way, ps, rfl, hway, s2, h2, hcut, hps, hpl, hne⟩
    have hr := readL_of hcut
    refine ⟨_, rfl, p, rfl, ⟨_, SqL.of h2⟩, fun D hD => ?_⟩
    refine lc_list_n (fun i y _ => ∃ n : Nat, (∃ z, ps[i]? = some z ∧ wholeL (TL.tl z) = some n) ∧ y = .int n) (SqL.of h2) hD (by rw [List.length_map]; exact Nat.le_trans hpl (by decide)) (fun _ => rfl) (fun _ _ _ _ _ h _ _ => h) (fun i x H' hx s Qk hk => ?_) fun H3 acc s hacc hl hall => ?_
    · rw [List.getElem?_map] at hx
      obtain ⟨z', hz', rfl⟩ := Option.map_eq_some_iff.mp hx
      refine ⟨_, rfl, z', rfl, hps z' (List.mem_of_getElem? hz'), fun hn H'' s' => k1 ?_ H'' ((s2.trans s).trans s'), fun n hn H'' s' => hk _ _ s' ⟨n, ⟨z', hz', hn⟩, rfl⟩⟩
      rw [hr, allSome_none.mpr ⟨TL.tl z', List.mem_map.mpr ⟨z', List.mem_of_getElem? hz', rfl⟩, hn⟩]
    have s3 := s2.trans s
    obtain ⟨ns, hns⟩ : ∃ ns, allSome wholeL (ps.map TL.tl) = some ns := by
      cases e : allSome wholeL (ps.map TL.tl) with
      | some ns => exact ⟨ns, rfl⟩
      | none =>
        obtain ⟨a, ha, hn⟩ := allSome_none.mp e
        obtain ⟨z', hz', rfl⟩ := List.mem_map.mp ha
        obtain ⟨i, hi, ei⟩ := List.getElem_of_mem hz'
        rw [List.length_map] at hl
        have ea : acc[i]? = some (acc[i]'(by omega)) := List.getElem?_eq_getElem _
        obtain ⟨n, ⟨z2, e2, e3⟩, _⟩ := hall i _ ea
        rw [List.getElem?_eq_getElem hi, ei] at e2
        cases e2
        rw [hn] at e3
        cases e3
    have hg := allSome_get hns
    rw [List.length_map] at hg hl
    have ens : acc = ns.map fun n : Nat => V.int n := made_map (hl.trans hg.1) fun j y hj => by
      obtain ⟨n, ⟨z2, e2, e3⟩, rfl⟩ := hall j y hj
      obtain ⟨b, hb, hb2⟩ := hg.2 j (TL.tl z2) (by rw [List.getElem?_map, e2]; rfl)
      rw [e3] at hb2
      cases hb2
      exact ⟨n, hb, rfl⟩
    rw [ens] at hacc
    have hlt : ∀ n ∈ ns, n < 10 ^ 60 := fun n hn => by
      obtain ⟨i, hi, ei⟩ := List.getElem_of_mem hn
      have ep : (ps.map TL.tl)[i]? = some ((ps.map TL.tl)[i]'(by rw [List.length_map]; omega)) := List.getElem?_eq_getElem _
      obtain ⟨b, hb, hb2⟩ := hg.2 i _ ep
      rw [List.getElem?_eq_getElem hi, ei] at hb
      cases hb
      exact wholeL_lt hb2
    rw [hns] at hr
    have hnn : ns ≠ [] := fun e => by
      rw [e] at hg
      exact hne (List.eq_nil_of_length_eq_zero hg.1)
    clear hall ens hg hl hpl hps hns
    have hlen2 : ns.length ≤ 100000 ∨ 2 < ns.length := by omega
    refine ⟨fun σ' H' => σ' = [some (.str t), some (.ref p), some (.int way), some (.ref D), none, none] ∧ H' = H3 ∧ ∃ n d : Nat, ((ns = [n] ∧ d = 1) ∨ ns = [n, d]) ∧ 0 < d ∧ n < 10 ^ 60 ∧ d < 10 ^ 60 ∧
      readL (TL.tl t) = (if numQ (lowQ (way * n) d) = TL.tl t then some (lowQ (way * n) d) else none), ?_, ?_⟩
    · refine ⟨_, rfl, D, _, rfl, .inl (SqL.of hacc), _, _, rfl, rfl, _, rfl, ?_⟩
      rw [List.length_map]
      cases ns with
      | nil => exact absurd rfl hnn
      | cons n ns =>
        cases ns with
        | nil =>
          refine iteF ?_
          refine ⟨_, rfl, _, rfl, D, _, _, .int n, rfl, rfl, SqL.of hacc, rfl, rfl, _, rfl, ?_⟩
          refine iteB (fun _ => ?_) (fun _ => ?_)
          · refine ⟨_, rfl, D, _, rfl, .inl (SqL.of hacc), rfl, _, rfl, ?_⟩
            refine iteF ?_
            exact ⟨rfl, rfl, n, 1, .inl ⟨rfl, rfl⟩, by decide, hlt n List.mem_cons_self, by decide, hr⟩
          · exact iteF ⟨rfl, rfl, n, 1, .inl ⟨rfl, rfl⟩, by decide, hlt n List.mem_cons_self, by decide, hr⟩
        | cons d ns =>
          cases ns with
          | nil =>
            refine iteF ?_
            refine ⟨_, rfl, _, rfl, D, _, _, .int d, rfl, rfl, SqL.of hacc, rfl, rfl, _, rfl, ?_⟩
            have e0 : decide (V.int (d : Int) = V.int 0) = decide (d = 0) := decide_eq_decide.mpr ⟨fun z => by have := V.int.inj z; omega, fun z => by rw [z] <;> rfl⟩
            rw [e0]
            by_cases hd : d = 0
            · rw [decide_eq_true hd]
              refine iteT ⟨_, rfl, D, _, rfl, .inl (SqL.of hacc), rfl, _, rfl, ?_⟩
              refine iteT (k1 ?_ H3 s3)
              rw [hr, hd]
              rfl
            · rw [decide_eq_false hd]
              refine iteF (iteF ⟨rfl, rfl, n, d, .inr rfl, by omega, hlt n List.mem_cons_self, hlt d (by simp), ?_⟩)
              rw [hr]
              exact if_neg hd
          | cons x ns =>
            rw [decide_eq_true (by rw [List.length_cons, List.length_cons, List.length_cons]; omega)]
            refine iteT (iteT (k1 hr H3 s3))
    clear hr hnn hlen2
    rintro σ' H' ⟨rfl, rfl, n, d, hnd, hd0, hn, hd, hr⟩
    have hb : (0 : Int) < (d : Int) := by omega
    have hwn : (way * (n : Int)).natAbs < 10 ^ 60 := by
      rw [Int.natAbs_mul]
      rcases hway with e | e <;> rw [e] <;> simpa using hn
    have hle := lowQ_le (t := way * n) hb
    have hfine : Fine (lowQ (way * n) d) := ⟨Nat.lt_of_le_of_lt hle.1 (Nat.lt_trans hwn (by decide)), Nat.lt_of_le_of_lt hle.2 (by rw [Int.natAbs_natCast]; exact Nat.lt_trans hd (by decide))⟩
    have at0 : atI (ns.map fun n : Nat => V.int n) 0 = some (.int n) := by
      rcases hnd with ⟨e, _⟩ | e <;> rw [e] <;> rfl
    have at1 : atI ((ns.map fun n : Nat => V.int n) ++ [.int 1]) 1 = some (.int d) := by
      rcases hnd with ⟨e, e2⟩ | e
      · rw [e, e2] <;> rfl
      · rw [e] <;> rfl
    have hsz : (ns.map fun n : Nat => V.int n).length + 1 ≤ 1000 := by
      rcases hnd with ⟨e, _⟩ | e <;> rw [e] <;> simp
    refine ⟨_, rfl, _, rfl, D, _, _, _, rfl, rfl, SqL.of hacc, at0, way, n, rfl, rfl, .inl (by rcases hway with e | e <;> rw [e] <;> decide), ?_⟩
    refine ⟨_, rfl, (by show 1 ≤ sizeLine; decide), fun l hl => ?_⟩
    have s4 : Same H' (upd H' l (.lst [.int 1])) := Same.new hl
    refine ⟨D, l, _, _, rfl, rfl, s4 _ _ hacc, upd_same, Nat.le_trans hsz (by decide), fun m hm => ?_⟩
    have s5 := s4.trans (Same.new (o := .lst ((ns.map fun n : Nat => V.int n) ++ [.int 1])) hm)
    refine ⟨m, _, _, _, rfl, rfl, SqL.of upd_same, at1, way * n, d, rfl, hb, lt1000 hd, fun a H5 s6 ha => ?_⟩
    have s7 := s5.trans s6
    refine ⟨_, rfl, .ref a, lowQ (way * n) d, rfl, ⟨a, rfl, ha⟩, hfine, _, rfl, rfl, _, rfl, ?_⟩
    have e1 : (!decide (V.str (showN (lowQ (way * n) d)) = V.str t)) = !decide (numQ (lowQ (way * n) d) = TL.tl t) := by
      congr 1
      refine decide_eq_decide.mpr ⟨fun z => by rw [← tl_showN, V.str.inj z], fun z => congrArg V.str (TL.ext_tl (by rw [tl_showN, z]))⟩
    rw [e1]
    by_cases c : numQ (lowQ (way * n) d) = TL.tl t
    · rw [if_pos c] at hr
      rw [decide_eq_true c]
      exact iteF ⟨_, rfl, k2 _ hr a H5 (s3.trans s7) ha⟩
    · rw [if_neg c] at hr
      rw [decide_eq_false c]
      exact iteT (k1 hr H5 (s3.trans s7))
end
end K3
/-! texts as points: the walk of parts_of -/
namespace K3
open PySem PySem.Spec PyProof.Rows L2 HotX Evl
/-- v is no text -/
def NotStr (K : PySem.W.Frag) (H : Hp) (v : V) : Prop := ∃ ty, TyX K H v ty ∧ PySem.W.kitOne K ty (.type "str") = some false
theorem SqT.keepL {K : PySem.W.Frag} {H H' : Hp} {a p : Addr} {xs : List V} (e : Keep a H H') (hn : H a = none) (h : SqT K H p xs) : SqT K H' p xs :=
  Same.tup (fun b o h => e b o h (ne_of_none h hn)) h
section
variable {L : Bool} {P : Program} {w : World} {K : PySem.W.Frag} {mg : Str → Option Value} {base : Heap} {A : Ads}
theorem sc_parts_of : FnScope ["text", "found", "part", "point", "word"] ["text"] (defScope (top 98)) := ⟨rfl, rfl, rfl, by decide +kernel, rfl, by decide +kernel, by decide +kernel⟩
def spParts (K : PySem.W.Frag) (A : Ads) : Sp := fun vs H Q E => ∃ v, vs = [v] ∧ ((∃ t : Str, v = .str t ∧ t.length ≤ 90000 ∧ (partsL (TL.tl t) = none → ∀ H', Same H H' → E (.ref A.NoText) none H') ∧ (∀ ps, partsL (TL.tl t) = some ps → ∀ a H', Same H H' → PtsT K H' a ps → Q (.ref a) H')) ∨
  (NotStr K H v ∧ ∀ H', Same H H' → E (.ref A.NoText) none H'))
theorem ok_parts_of (T : Txt w K mg A) : FnG L P w K mg base 5 "parts_of" ["text"] (spParts K A) := by
  have G_read_number := ok_read_number (L := L) (P := P) (base := base) T
  refine okG T.d_parts_of sc_parts_of (fun vs H Q E h => ?_) (fun _ _ _ _ _ _ us hl => match us, hl with | [_], _ => rfl) (fun f cdv A₁ outer s H vs Q E hr h => ?_)
  · obtain ⟨v, rfl, _⟩ := h
    rfl
  · obtain ⟨v, rfl, ⟨t, rfl, hz, k1, k2⟩ | ⟨⟨ty, hty, hkit⟩, k1⟩⟩ := h
    rotate_left
    · refine ⟨_, (pss_cons (ps_if (pt_not (pt_val (pe_callB call_isi rfl T.z_isinstance b_isinstance (pa_cons (pv 0) (pa_cons (pe_bltn (v := .ty "str") rfl T.z_str b_str rfl) pa_nil))))) (pss_one (ps_raise rfl (takes_of rfl rfl rfl rfl) T.xNoText.pm)) pss_nil)
      (pss_cons (ps_set (i := 1) sc_parts_of.nd rfl (Or.inl rfl) (pe_lst pa_nil))
      (pss_cons (ps_for (L2.passes_of rfl) rfl (pi_list (pe_split (pv 0) pe_str)) (pg_name (i := 2) sc_parts_of.nd rfl (Or.inl rfl)) (pss_cons (ps_set (i := 3) sc_parts_of.nd rfl (Or.inl rfl) (pe_callTy call_tuple_of rfl T.z_tuple b_tuple (pa_cons (pe_lcX (own := [("word", 4)]) (G := Calm) (fun _ _ _ _ _ _ => rfl) rfl rfl (takes_of rfl rfl rfl rfl) sc_parts_of.nd (pig_of (pi_list (pe_split (pv 2) pe_str))) (blkOk_by (own := [("word", 4)]) (N := ["text", "found", "part", "point", "word"]) (sc := defScope (top 98)) (by decide +kernel)) (fun _ _ _ _ _ _ => (pg_name (i := 4) sc_parts_of.nd rfl (Or.inl rfl))) (fun _ _ _ _ _ _ => pts_nil) (fun _ _ _ _ _ E => (pe_c G_read_number hr (fun σ => passBlk σ) (pa_cons (pv 4) pa_nil)))) pa_nil)))
      (pss_cons (ps_if (pt_not (pt_chain op_le op_le pe_int (pe_callB call_len_seq rfl T.z_len b_len (pa_cons (pv 3) pa_nil)) pe_int)) (pss_one (ps_raise rfl (takes_of rfl rfl rfl rfl) T.xNoText.pm)) pss_nil)
      (pss_one (ps_expr (pe_bm PySem.F.plainAttrs_list PySem.F.slot_list_append PySem.F.type_list_append mt_append (pv 1) (pa_cons (pv 3) pa_nil)))))))
      (pss_one (ps_ret (pe_callTy call_tuple_of rfl T.z_tuple b_tuple (pa_cons (pv 1) pa_nil))))))), ?_⟩
      exact ⟨_, rfl, _, _, _, _, false, rfl, .ty _, hty, hkit, _, rfl, iteT (k1 H (Same.refl H))⟩
    refine ⟨_, (pss_cons (ps_if (pt_not (pt_val (pe_callB call_isi rfl T.z_isinstance b_isinstance (pa_cons (pv 0) (pa_cons (pe_bltn (v := .ty "str") rfl T.z_str b_str rfl) pa_nil))))) (pss_one (ps_raise rfl (takes_of rfl rfl rfl rfl) T.xNoText.pm)) pss_nil)
      (pss_cons (ps_set (i := 1) sc_parts_of.nd rfl (Or.inl rfl) (pe_lst pa_nil))
      (pss_cons (ps_for (L2.passes_of rfl) rfl (pi_list (pe_split (pv 0) pe_str)) (pg_name (i := 2) sc_parts_of.nd rfl (Or.inl rfl)) (pss_cons (ps_set (i := 3) sc_parts_of.nd rfl (Or.inl rfl) (pe_callTy call_tuple_of rfl T.z_tuple b_tuple (pa_cons (pe_lcX (own := [("word", 4)]) (G := Calm) (fun _ _ _ _ _ _ => rfl) rfl rfl (takes_of rfl rfl rfl rfl) sc_parts_of.nd (pig_of (pi_list (pe_split (pv 2) pe_str))) (blkOk_by (own := [("word", 4)]) (N := ["text", "found", "part", "point", "word"]) (sc := defScope (top 98)) (by decide +kernel)) (fun _ _ _ _ _ _ => (pg_name (i := 4) sc_parts_of.nd rfl (Or.inl rfl))) (fun _ _ _ _ _ _ => pts_nil) (fun _ _ _ _ _ E => (pe_c G_read_number hr (fun σ => passBlk σ) (pa_cons (pv 4) pa_nil)))) pa_nil)))
      (pss_cons (ps_if (pt_not (pt_chain op_le op_le pe_int (pe_callB call_len_seq rfl T.z_len b_len (pa_cons (pv 3) pa_nil)) pe_int)) (pss_one (ps_raise rfl (takes_of rfl rfl rfl rfl) T.xNoText.pm)) pss_nil)
      (pss_one (ps_expr (pe_bm PySem.F.plainAttrs_list PySem.F.slot_list_append PySem.F.type_list_append mt_append (pv 1) (pa_cons (pv 3) pa_nil)))))))
      (pss_one (ps_ret (pe_callTy call_tuple_of rfl T.z_tuple b_tuple (pa_cons (pv 1) pa_nil))))))), ?_⟩
    refine ⟨_, rfl, _, _, _, _, true, rfl, .ty _, .base (.str t), kit_ty (by decide +kernel), _, rfl, iteF ?_⟩
    refine ⟨Nat.zero_le _, fun F hF => ?_⟩
    have sF : Same H (upd H F (.lst [])) := Same.new hF
    have hF0 : (upd H F (.lst [])) F = some (.lst []) := upd_same
    generalize upd H F (.lst []) = H0 at sF hF0 ⊢
    refine ⟨_, rfl, ⟨_, rfl⟩, t, _, rfl, rfl, (by decide +kernel), Nat.le_trans (Nat.add_le_add_right hz 2) (by decide), fun p hp => ?_⟩
    have hsp : (PySem.Txt.split t (Str.ofString ", ")).map TL.tl = TL.spl [44, 32] 0 [] (TL.tl t) := by
      have := TL.split_spl t (Str.ofString ", ") (by decide +kernel) (TL.kind_ok (by decide +kernel))
      rw [this]
      have e : TL.tl (Str.ofString ", ") = [44, 32] := by decide +kernel
      rw [e]
    generalize PySem.Txt.split t (Str.ofString ", ") = ws at hsp ⊢
    have s1 : Same H0 (upd H0 p (.lst (ws.map V.str))) := Same.new hp
    have h1 : (upd H0 p (.lst (ws.map V.str))) p = some (.lst (ws.map V.str)) := upd_same
    have hpF : p ≠ F := fun e => by rw [e, hF0] at hp; cases hp
    have hF1 : (upd H0 p (.lst (ws.map V.str))) F = some (.lst []) := s1 _ _ hF0
    generalize upd H0 p (.lst (ws.map V.str)) = H1 at s1 h1 hF1 ⊢
    have hws : ∀ z ∈ ws, z.length ≤ 90000 := fun z hm => by
      have := spl_item [44, 32] (TL.tl t) [] 0 (TL.tl z) (by rw [← hsp]; exact List.mem_map.mpr ⟨z, hm, rfl⟩)
      rw [← TL.len_tl, ← TL.len_tl] at this
      simp at this
      omega
    have hwl : ws.length ≤ 90001 := by
      have := spl_len [44, 32] (TL.tl t) [] 0
      rw [← hsp, List.length_map, ← TL.len_tl] at this
      omega
    have hpt : partsL (TL.tl t) = allSome pointL (ws.map TL.tl) := by unfold partsL; rw [hsp]
    have sH1 : Same H H1 := sF.trans s1
    have toSame : ∀ H', Keep F H1 H' → Same H H' := fun H' kp b o e => kp b o (sH1 b o e) (ne_of_none e hF)
    refine ⟨p, rfl, ⟨_, SqL.of h1⟩, for_list (K := K) (a := p) (xs := ws.map V.str) (fun i σ H' => ∃ (x y : Option V) (acc : List V), σ = [some (.str t), some (.ref F), x, y, none] ∧ Keep F H1 H' ∧ H' F = some (.lst acc) ∧ acc.length = i ∧ i ≤ ws.length ∧
      ∀ (j : Nat) u, acc[j]? = some u → ∃ z q, ws[j]? = some z ∧ pointL (TL.tl z) = some q ∧ PtV K H' u q)
      ⟨none, none, [], rfl, Keep.of (Same.refl _), hF1, rfl, Nat.zero_le _, fun j u hj => by simp at hj⟩ (fun i σ H' _ ⟨_, _, _, _, kp, _⟩ => SqL.of (kp _ _ h1 hpF)) ?_ ?_⟩
    · rintro i x σ H' hx ⟨x0, y0, acc, rfl, kp, hFa, hal, hil, hacc⟩
      rw [List.getElem?_map] at hx
      obtain ⟨z, hz', rfl⟩ := Option.map_eq_some_iff.mp hx
      have hzl := hws z (List.mem_of_getElem? hz')
      have hnone : pointL (TL.tl z) = none → ∀ H'', Same H' H'' → E (.ref A.NoText) none H'' := fun e H'' s' => k1 (by
        rw [hpt, allSome_none]
        exact ⟨_, List.mem_map.mpr ⟨z, List.mem_of_getElem? hz', rfl⟩, e⟩) H'' ((toSame H' kp).trans s')
      refine ⟨_, rfl, ⟨_, rfl⟩, z, _, rfl, rfl, (by decide +kernel), Nat.le_trans (Nat.add_le_add_right hzl 2) (by decide), fun r hr => ?_⟩
      have hsz : (PySem.Txt.split z (Str.ofString ":")).map TL.tl = TL.spl [58] 0 [] (TL.tl z) := by
        have := TL.split_spl z (Str.ofString ":") (by decide +kernel) (TL.kind_ok (by decide +kernel))
        rw [this]
        have e : TL.tl (Str.ofString ":") = [58] := by decide +kernel
        rw [e]
      generalize PySem.Txt.split z (Str.ofString ":") = us at hsz ⊢
      have hus : ∀ y ∈ us, y.length ≤ 90000 := fun y hm => by
        have := spl_item [58] (TL.tl z) [] 0 (TL.tl y) (by rw [← hsz]; exact List.mem_map.mpr ⟨y, hm, rfl⟩)
        rw [← TL.len_tl, ← TL.len_tl] at this
        simp at this
        omega
      have hul : us.length ≤ 90001 := by
        have := spl_len [58] (TL.tl z) [] 0
        rw [← hsz, List.length_map, ← TL.len_tl] at this
        omega
      have hpz : pointL (TL.tl z) = match allSome readL (us.map TL.tl) with
        | some p => if 2 ≤ p.length ∧ p.length ≤ 3 then some p else none
        | none => none := by
        unfold pointL
        rw [hsz]
        first
          | done
          | (cases allSome readL (TL.spl [58] 0 [] (TL.tl z)) <;> rfl)
      refine ⟨r, rfl, ⟨_, SqL.of upd_same⟩, fun D hD => ?_⟩
      have s2 : Same H' (upd H' r (.lst (us.map V.str))) := Same.new hr
      refine lc_list_n (fun i y H'' => ∃ u q, us[i]? = some u ∧ readL (TL.tl u) = some q ∧ NumV K H'' y q) (SqL.of upd_same) hD (by rw [List.length_map]; exact Nat.le_trans hul (by decide)) (fun _ => rfl) (fun j y H2 H3 ys ⟨u, q, e1, e2, e3⟩ hd kp => ⟨u, q, e1, e2, e3.keep kp hd⟩) (fun i x H'' hx s Qk hk => ?_) fun H3 acc2 s hacc2 hl2 hall => ?_
      · rw [List.getElem?_map] at hx
        obtain ⟨u, hu, rfl⟩ := Option.map_eq_some_iff.mp hx
        refine ⟨_, rfl, u, rfl, Nat.le_trans (hus u (List.mem_of_getElem? hu)) (by decide), fun hn H4 s' => hnone ?_ H4 ((s2.trans s).trans s'), fun q hq b H4 s' hb => hk _ _ s' ⟨u, q, hu, hq, b, rfl, hb⟩⟩
        rw [hpz, allSome_none.mpr ⟨TL.tl u, List.mem_map.mpr ⟨u, List.mem_of_getElem? hu, rfl⟩, hn⟩]
      have s3 := s2.trans s
      rw [List.length_map] at hl2
      obtain ⟨qs, hqs⟩ : ∃ qs, allSome readL (us.map TL.tl) = some qs := by
        cases e : allSome readL (us.map TL.tl) with
        | some qs => exact ⟨qs, rfl⟩
        | none =>
          obtain ⟨a, ha, hn⟩ := allSome_none.mp e
          obtain ⟨z', hz2, rfl⟩ := List.mem_map.mp ha
          obtain ⟨i, hi, ei⟩ := List.getElem_of_mem hz2
          have ea : acc2[i]? = some (acc2[i]'(by omega)) := List.getElem?_eq_getElem _
          obtain ⟨u2, q2, e2, e3, _⟩ := hall i _ ea
          rw [List.getElem?_eq_getElem hi, ei] at e2
          cases e2
          rw [hn] at e3
          cases e3
      have hg := allSome_get hqs
      rw [List.length_map] at hg
      have hAll : AllV (NumV K H3) acc2 qs := ⟨hl2.trans hg.1, fun i v x hv hx => by
        obtain ⟨u2, q2, e2, e3, e4⟩ := hall i v hv
        obtain ⟨b, hb, hb2⟩ := hg.2 i (TL.tl u2) (by rw [List.getElem?_map, e2]; rfl)
        rw [e3] at hb2
        cases hb2
        rw [hx] at hb
        cases hb
        exact e4⟩
      rw [hqs] at hpz
      refine ⟨D, acc2, rfl, .inl ⟨SqL.of hacc2, fun tt htt => ?_⟩⟩
      have s4 : Same H3 (upd H3 tt (.tup acc2)) := Same.new htt
      have htu : SqT K (upd H3 tt (.tup acc2)) tt acc2 := SqT.of upd_same
      generalize upd H3 tt (.tup acc2) = H4 at s4 htu ⊢
      have s5 := s3.trans s4
      have hF4 := s5 _ _ hFa
      have hlen : acc2.length = qs.length := hAll.1
      refine ⟨_, rfl, tt, _, rfl, .inr htu, _, _, rfl, rfl, _, rfl, ?_⟩
      refine ite2 (fun c => ?_) (fun c => ?_)
      rotate_left
      · refine ⟨false, rfl, iteT (hnone ?_ H4 s5)⟩
        rw [hpz]
        refine if_neg fun z => ?_
        have : ¬ (2 : Int) ≤ (acc2.length : Int) := by simpa using c
        omega
      have c' : (2 : Int) ≤ (acc2.length : Int) := by simpa using c
      refine ⟨_, _, rfl, rfl, _, rfl, ?_⟩
      by_cases c3 : acc2.length ≤ 3
      rotate_left
      · rw [decide_eq_false (show ¬ (acc2.length : Int) ≤ 3 by omega)]
        refine iteT (hnone ?_ H4 s5)
        rw [hpz]
        exact if_neg fun z => by omega
      rw [decide_eq_true (show (acc2.length : Int) ≤ 3 by omega)]
      refine iteF ?_
      refine ⟨_, rfl, .inl ⟨rfl, _, SqL.of hF4⟩, _, rfl, F, _, _, rfl, rfl, hF4, ?_, ?_⟩
      · rw [hal]; exact Nat.lt_of_le_of_lt (Nat.le_trans hil hwl) (by decide)
      have kk : Keep F H' (upd H4 F (.lst (acc ++ [.ref tt]))) := (Keep.of s5).trans Keep.upd
      have hi2 : i < ws.length := (List.getElem?_eq_some_iff.mp hz').1
      refine ⟨_, _, acc ++ [.ref tt], rfl, kp.trans kk, upd_same, by rw [List.length_append, hal]; rfl, hi2, fun j u hj => ?_⟩
      by_cases hjl : j < acc.length
      · rw [List.getElem?_append_left hjl] at hj
        obtain ⟨z2, q2, e1, e2, e3⟩ := hacc j u hj
        exact ⟨z2, q2, e1, e2, e3.keep kk hFa⟩
      · rw [List.getElem?_append_right (by omega)] at hj
        cases e : j - acc.length with
        | zero =>
          rw [e] at hj
          cases hj
          have ej : j = i := by omega
          rw [ej]
          refine ⟨z, qs, hz', by rw [hpz]; exact if_pos ⟨by omega, by omega⟩, tt, acc2, rfl, (Keep.upd : Keep F H4 _).tup hF4 htu, ?_⟩
          exact hAll.imp fun v x q => (q.same s4).keep Keep.upd hF4
        | succ n =>
          rw [e] at hj
          simp at hj
    · rintro σ H' ⟨x0, y0, acc, rfl, kp, hFa, hal, hil, hacc⟩
      rw [List.length_map] at hal
      obtain ⟨ps, hps⟩ : ∃ ps, partsL (TL.tl t) = some ps := by
        cases e : partsL (TL.tl t) with
        | some ps => exact ⟨ps, rfl⟩
        | none =>
          rw [hpt] at e
          obtain ⟨a, ha, hn⟩ := allSome_none.mp e
          obtain ⟨z', hz2, rfl⟩ := List.mem_map.mp ha
          obtain ⟨i, hi, ei⟩ := List.getElem_of_mem hz2
          have ea : acc[i]? = some (acc[i]'(by omega)) := List.getElem?_eq_getElem _
          obtain ⟨z2, q2, e2, e3, _⟩ := hacc i _ ea
          rw [List.getElem?_eq_getElem hi, ei] at e2
          cases e2
          rw [hn] at e3
          cases e3
      have hps' := hps
      rw [hpt] at hps'
      have hg := allSome_get hps'
      rw [List.length_map] at hg
      refine ⟨_, rfl, F, acc, rfl, .inl ⟨SqL.of hFa, fun a ha => ?_⟩⟩
      have s4 : Same H' (upd H' a (.tup acc)) := Same.new ha
      refine k2 ps hps a _ ((toSame H' kp).trans s4) ⟨acc, SqT.of upd_same, hal.trans hg.1, fun i v x hv hx => ?_⟩
      obtain ⟨z2, q2, e2, e3, e4⟩ := hacc i v hv
      obtain ⟨b, hb, hb2⟩ := hg.2 i (TL.tl z2) (by rw [List.getElem?_map, e2]; rfl)
      rw [e3] at hb2
      cases hb2
      rw [hx] at hb
      cases hb
      exact e4.same s4
end
end K3
/-! rows: the walk of forms_of -/
namespace K3
open PySem PySem.Spec PyProof.Rows L2 HotX Evl
/-- the signs of a text -/
def cc (s : String) : List Nat := s.toList.map Char.toNat
theorem tl_cc (s : String) : TL.tl (Str.ofString s) = cc s := TL.tl_ofString s
theorem dec_tl (x : Str) (s : String) : decide (V.str x = V.str (Str.ofString s)) = decide (TL.tl x = cc s) :=
  decide_eq_decide.mpr ⟨fun z => by rw [V.str.inj z, tl_cc], fun z => congrArg V.str (TL.ext_tl (by rw [z, tl_cc]))⟩
theorem beq_tl (x : Str) (s : String) : (Str.ofString s == x) = decide (TL.tl x = cc s) := by
  rw [Bool.eq_iff_iff, beq_iff_eq, decide_eq_true_iff]
  exact ⟨fun z => by rw [← z, tl_cc], fun z => TL.ext_tl (by rw [z, tl_cc])⟩
/-- the table NUMBERS -/
def tabN : List (String × Nat) := [("take", 1), ("height", 2), ("slope", 2), ("noslope", 1), ("points", 0), ("curve", 0), ("steps", 0), ("at", 1), ("slopeat", 1)]
def numOf (l : List Nat) : Option Nat := (tabN.map fun p => (cc p.1, p.2)).lookup l
/-- the words that stand ahead in the law's rows -/
def heads : List String := ["", "Points", "moved", "misses", "put", "bounds", "noughts", "wrong", "quotient", "take", "height", "slope", "noslope", "points", "curve", "steps", "at", "slopeat"]
/-- forms_of, by the word ahead and how many words there are -/
def formsL (w : List Nat) (n : Nat) : List (List Nat) :=
  if w = cc "misses" ∧ 2 ≤ n ∧ n ≤ 17 then [List.replicate (n - 1) 78] else if w = cc "put" then [[78, 78], [78, 78, 78]] else if w = cc "bounds" ∨ w = cc "noughts" then [[78, 78]] else if w = cc "wrong" then [[87, 77]] else if w = cc "quotient" then [[87]] else
  match numOf w with
  | some k => [List.replicate k 78]
  | none => []
theorem tl_rep (z : Str) (c : Nat) (h : TL.tl z = [c]) (n : Nat) : TL.tl (repS z n) = List.replicate n c := by
  have hz : z.cps = #[c] := by
    apply Array.toList_inj.mp
    exact h
  have gen : ∀ (n : Nat) (acc : Array Nat), ((List.replicate n z.cps).foldl (· ++ ·) acc).toList = acc.toList ++ List.replicate n c := by
    intro n
    induction n with
    | zero => intro acc; simp
    | succ n ih =>
      intro acc
      rw [List.replicate_succ, List.foldl_cons, ih, hz, Array.toList_append, List.replicate_succ, List.append_assoc]
      rfl
  exact gen n #[]
section
variable {L : Bool} {P : Program} {w : World} {K : PySem.W.Frag} {mg : Str → Option Value} {base : Heap} {A : Ads}
/-- the table's answer to a word of the law's rows -/
theorem num_look (T : Txt w K mg A) {z : String} (hz : z ∈ heads) (h1 : ¬ z = "put") (h2 : ¬ z = "bounds") (h3 : ¬ z = "noughts") (h4 : ¬ z = "wrong") (h5 : ¬ z = "quotient") :
    (∃ (k : Nat) (u : Value), numOf (cc z) = some k ∧ k ≤ 2 ∧ PySem.W.nsIn K A.NUMBERS (Str.ofString z) = some (some u) ∧ RelV (.int k) u) ∨ (numOf (cc z) = none ∧ PySem.W.nsIn K A.NUMBERS (Str.ofString z) = some none) := by
  have yes : ∀ (s : String) (i : Int), (Str.ofString s, i) ∈ ([("take", 1), ("height", 2), ("slope", 2), ("noslope", 1), ("points", 0), ("curve", 0), ("steps", 0), ("at", 1), ("slopeat", 1)] : List (Str × Int)) → ∃ u, PySem.W.nsIn K A.NUMBERS (Str.ofString s) = some (some u) ∧ RelV (.int i) u :=
    fun s i h => T.nYes (Str.ofString s, i) h
  have no : ∀ s : String, Str.ofString s ∈ (["", "Points", "moved", "misses"] : List Str) → PySem.W.nsIn K A.NUMBERS (Str.ofString s) = some none := fun s h => T.nNo _ h
  have hz' : z = "" ∨ z = "Points" ∨ z = "moved" ∨ z = "misses" ∨ z = "take" ∨ z = "height" ∨ z = "slope" ∨ z = "noslope" ∨ z = "points" ∨ z = "curve" ∨ z = "steps" ∨ z = "at" ∨ z = "slopeat" := by
    simp only [heads, List.mem_cons, List.not_mem_nil, or_false] at hz
    rcases hz with h | h | h | h | h | h | h | h | h | h | h | h | h | h | h | h | h | h <;> simp_all
  rcases hz' with h | h | h | h | h | h | h | h | h | h | h | h | h <;> subst h
  · exact .inr ⟨by decide +kernel, no _ (by simp)⟩
  · exact .inr ⟨by decide +kernel, no _ (by simp)⟩
  · exact .inr ⟨by decide +kernel, no _ (by simp)⟩
  · exact .inr ⟨by decide +kernel, no _ (by simp)⟩
  · obtain ⟨u, e, r⟩ := yes "take" 1 (by simp); exact .inl ⟨1, u, by decide +kernel, by decide, e, r⟩
  · obtain ⟨u, e, r⟩ := yes "height" 2 (by simp); exact .inl ⟨2, u, by decide +kernel, by decide, e, r⟩
  · obtain ⟨u, e, r⟩ := yes "slope" 2 (by simp); exact .inl ⟨2, u, by decide +kernel, by decide, e, r⟩
  · obtain ⟨u, e, r⟩ := yes "noslope" 1 (by simp); exact .inl ⟨1, u, by decide +kernel, by decide, e, r⟩
  · obtain ⟨u, e, r⟩ := yes "points" 0 (by simp); exact .inl ⟨0, u, by decide +kernel, by decide, e, r⟩
  · obtain ⟨u, e, r⟩ := yes "curve" 0 (by simp); exact .inl ⟨0, u, by decide +kernel, by decide, e, r⟩
  · obtain ⟨u, e, r⟩ := yes "steps" 0 (by simp); exact .inl ⟨0, u, by decide +kernel, by decide, e, r⟩
  · obtain ⟨u, e, r⟩ := yes "at" 1 (by simp); exact .inl ⟨1, u, by decide +kernel, by decide, e, r⟩
  · obtain ⟨u, e, r⟩ := yes "slopeat" 1 (by simp); exact .inl ⟨1, u, by decide +kernel, by decide, e, r⟩
theorem sc_forms_of : FnScope ["words", "word"] ["words"] (defScope (top 106)) := ⟨rfl, rfl, rfl, by decide +kernel, rfl, by decide +kernel, by decide +kernel⟩
def spForms (K : PySem.W.Frag) : Sp := fun vs H Q _ => ∃ (a : Addr) (z : String) (ws : List Str), vs = [.ref a] ∧ z ∈ heads ∧ SqL K H a ((Str.ofString z :: ws).map V.str) ∧ ws.length ≤ 50 ∧
  ∀ (l : Addr) (fs : List Str) (H' : Hp), Same H H' → H' l = some (.lst (fs.map V.str)) → fs.map TL.tl = formsL (cc z) (ws.length + 1) → Q (.ref l) H'
theorem ok_forms_of (T : Txt w K mg A) : FnG L P w K mg base 1 "forms_of" ["words"] (spForms K) := by
  obtain ⟨es, n, hD⟩ := T.dNUM
  refine okG T.d_forms_of sc_forms_of (fun vs H Q E h => ?_) (fun _ _ _ _ _ _ us hl => match us, hl with | [_], _ => rfl) (fun f cdv A₁ outer s H vs Q E hr h => ?_)
  · obtain ⟨a, z, ws, rfl, _⟩ := h
    rfl
  · obtain ⟨a, z, ws, rfl, hz, hS, hl, k⟩ := h
    refine ⟨_, (pss_cons (ps_set (i := 1) sc_forms_of.nd rfl (Or.inl rfl) (pe_ix ix_list (pv 0) pe_int (fun _ _ => rfl)))
      (pss_cut (ps_if (PW.pt (pw_and (pt_cmpR op_eq (pv 1) pe_str (nomark _)) (pw_and1 (pt_chain op_le op_le pe_int (pe_callB call_len_seq rfl T.z_len b_len (pa_cons (pv 0) pa_nil)) (pe_op op_add (pe_cst T.cMOST_NUMBERS) pe_int))))) (pss_one (ps_ret (pe_lst (pa_cons (pe_op op_mulS pe_str (pe_op op_sub (pe_callB call_len_seq rfl T.z_len b_len (pa_cons (pv 0) pa_nil)) pe_int)) pa_nil)))) pss_nil)
      (pss_cons (ps_if (pt_cmpR op_eq (pv 1) pe_str (nomark _)) (pss_one (ps_ret (pe_lst (pa_cons pe_str (pa_cons pe_str pa_nil))))) pss_nil)
      (pss_cons (ps_if (pt_cmpR op_in_seq (pv 1) (pe_cst T.cSTRETCHES) (by rfl)) (pss_one (ps_ret (pe_lst (pa_cons pe_str pa_nil)))) pss_nil)
      (pss_cons (ps_if (pt_cmpR op_eq (pv 1) pe_str (nomark _)) (pss_one (ps_ret (pe_lst (pa_cons pe_str pa_nil)))) pss_nil)
      (pss_cons (ps_if (pt_cmpR op_eq (pv 1) pe_str (nomark _)) (pss_one (ps_ret (pe_lst (pa_cons pe_str pa_nil)))) pss_nil)
      (pss_cons (ps_if (pt_cmpR (op_in_kd hD) (pv 1) (pe_cst T.cNUMBERS) (by rfl)) (pss_one (ps_ret (pe_lst (pa_cons (pe_op op_mulS pe_str (pe_ix ix_kdict (pe_cst T.cNUMBERS) (pv 1) (fun _ _ => rfl))) pa_nil)))) pss_nil)
      (pss_one (ps_ret (pe_lst pa_nil)))))))))), ?_⟩
    have fin : ∀ fs : List Str, fs.map TL.tl = formsL (cc z) (ws.length + 1) → ∀ l, H l = none → Q (.ref l) (upd H l (.lst (fs.map V.str))) := fun fs e l hl => k l fs _ (Same.new hl) upd_same e
    have hone : (Str.ofString "N").length = 1 := by decide +kernel
    have hN : TL.tl (Str.ofString "N") = [78] := by decide +kernel
    refine ⟨_, rfl, a, _, _, .str (Str.ofString z), rfl, rfl, hS, atI_nat (j := 0) rfl, ?_⟩
    refine ⟨fun σ' H' => σ' = [some (.ref a), some (.str (Str.ofString z))] ∧ H' = H ∧ ¬ (cc z = cc "misses" ∧ 2 ≤ ws.length + 1 ∧ ws.length + 1 ≤ 17), ?_, ?_⟩
    · refine ⟨_, rfl, rfl, _, rfl, ?_⟩
      rw [dec_tl, tl_cc]
      by_cases c1 : cc z = cc "misses"
      · rw [decide_eq_true c1]
        refine iteT ⟨_, rfl, a, _, rfl, .inl hS, _, _, rfl, rfl, _, rfl, ?_⟩
        rw [List.length_map, List.length_cons]
        by_cases c2 : 2 ≤ ws.length + 1
        · rw [decide_eq_true (show (2 : Int) ≤ ((ws.length + 1 : Nat) : Int) by omega)]
          refine iteT ⟨_, _, rfl, rfl, _, _, rfl, rfl, _, rfl, ?_⟩
          by_cases c3 : ws.length + 1 ≤ 17
          · rw [decide_eq_true (show ((ws.length + 1 : Nat) : Int) ≤ 16 + 1 by omega)]
            refine iteT ⟨_, rfl, a, _, rfl, .inl hS, _, _, rfl, rfl, Str.ofString "N", ws.length, rfl, ?_, by omega, by rw [hone]; decide, by rw [hone]; decide, (by show 1 ≤ sizeLine; decide), fun l hl => fin [repS (Str.ofString "N") ws.length] ?_ l hl⟩
            · show V.int (((List.map V.str (Str.ofString z :: ws)).length : Int) - 1) = V.int (ws.length : Int)
              rw [List.length_map, List.length_cons]
              exact congrArg V.int (by omega)
            · unfold formsL
              rw [if_pos ⟨c1, c2, c3⟩, List.map_cons, List.map_nil, tl_rep _ _ hN]
              rfl
          · rw [decide_eq_false (show ¬ ((ws.length + 1 : Nat) : Int) ≤ 16 + 1 by omega)]
            exact iteF ⟨rfl, rfl, fun z => c3 z.2.2⟩
        · rw [decide_eq_false (show ¬ (2 : Int) ≤ ((ws.length + 1 : Nat) : Int) by omega)]
          exact iteF ⟨false, rfl, iteF ⟨rfl, rfl, fun z => c2 z.2.1⟩⟩
      · rw [decide_eq_false c1]
        exact iteF ⟨rfl, rfl, fun z => c1 z.1⟩
    rintro σ' H' ⟨rfl, rfl, hno⟩
    have f0 : formsL (cc z) (ws.length + 1) = if cc z = cc "put" then [[78, 78], [78, 78, 78]] else if cc z = cc "bounds" ∨ cc z = cc "noughts" then [[78, 78]] else if cc z = cc "wrong" then [[87, 77]] else if cc z = cc "quotient" then [[87]] else
        match numOf (cc z) with
        | some k => [List.replicate k 78]
        | none => [] := by
      unfold formsL
      rw [if_neg hno]
    rw [f0] at fin
    clear f0 hno
    refine ⟨_, rfl, rfl, _, rfl, ?_⟩
    rw [dec_tl, tl_cc]
    by_cases c1 : cc z = cc "put"
    · rw [if_pos c1] at fin
      rw [decide_eq_true c1]
      exact iteT ⟨(by show 2 ≤ sizeLine; decide), fun l hl => fin [Str.ofString "NN", Str.ofString "NNN"] (by decide +kernel) l hl⟩
    rw [if_neg c1] at fin
    rw [decide_eq_false c1]
    refine iteF ?_
    refine ⟨_, rfl, _, _, rfl, .inr (T.sSTRETCHES H'), rfl, rfl, _, rfl, ?_⟩
    have ei : inV (V.str (Str.ofString z)) [V.str (Str.ofString "bounds"), V.str (Str.ofString "noughts")] = decide (cc z = cc "bounds" ∨ cc z = cc "noughts") := by
      show (Str.ofString "bounds" == Str.ofString z || (Str.ofString "noughts" == Str.ofString z || false)) = _
      rw [beq_tl, beq_tl, tl_cc, Bool.or_false, Bool.decide_or]
    rw [if_neg Bool.false_ne_true, ei]
    by_cases c2 : cc z = cc "bounds" ∨ cc z = cc "noughts"
    · rw [if_pos c2] at fin
      rw [decide_eq_true c2]
      exact iteT ⟨(by show 1 ≤ sizeLine; decide), fun l hl => fin [Str.ofString "NN"] (by decide +kernel) l hl⟩
    rw [if_neg c2] at fin
    rw [decide_eq_false c2]
    refine iteF ?_
    refine ⟨_, rfl, rfl, _, rfl, ?_⟩
    rw [dec_tl, tl_cc]
    by_cases c3 : cc z = cc "wrong"
    · rw [if_pos c3] at fin
      rw [decide_eq_true c3]
      exact iteT ⟨(by show 1 ≤ sizeLine; decide), fun l hl => fin [Str.ofString "WM"] (by decide +kernel) l hl⟩
    rw [if_neg c3] at fin
    rw [decide_eq_false c3]
    refine iteF ?_
    refine ⟨_, rfl, rfl, _, rfl, ?_⟩
    rw [dec_tl, tl_cc]
    by_cases c4 : cc z = cc "quotient"
    · rw [if_pos c4] at fin
      rw [decide_eq_true c4]
      exact iteT ⟨(by show 1 ≤ sizeLine; decide), fun l hl => fin [Str.ofString "W"] (by decide +kernel) l hl⟩
    rw [if_neg c4] at fin
    rw [decide_eq_false c4]
    refine iteF ?_
    rcases num_look T hz (fun e => c1 (by rw [e])) (fun e => c2 (by rw [e]; exact .inl rfl)) (fun e => c2 (by rw [e]; exact .inr rfl)) (fun e => c3 (by rw [e])) (fun e => c4 (by rw [e])) with ⟨kk, u, e1, e2, e3, e4⟩ | ⟨e1, e3⟩
    · rw [e1] at fin
      refine ⟨_, rfl, _, _, rfl, rfl, e3, _, rfl, iteT ?_⟩
      refine ⟨_, rfl, _, _, _, rfl, rfl, ⟨_, _, _, hD.at_, hD.lit, e3, e4⟩, Str.ofString "N", kk, rfl, rfl, by omega, by rw [hone]; decide, by rw [hone]; decide, (by show 1 ≤ sizeLine; decide), fun l hl => fin [repS (Str.ofString "N") kk] ?_ l hl⟩
      rw [List.map_cons, List.map_nil, tl_rep _ _ hN]
    · rw [e1] at fin
      refine ⟨_, rfl, _, _, rfl, rfl, e3, _, rfl, iteF ?_⟩
      exact ⟨Nat.zero_le _, fun l hl => fin [] rfl l hl⟩
end
end K3
/-! rows: the walks of number_in, argument_in, told_row -/
namespace K3
open PySem PySem.Spec PyProof.Rows L2 HotX Evl
/-- what a row's word is as a number -/
def numB (l : List Nat) : Option (Int × Int) := match readL l with
  | some q => if smallB q then some q else none
  | none => none
/-- does a word serve as an argument of the kind c -/
def argB (c : Nat) (l : List Nat) : Bool := match numB l with
  | some q => decide (c = 78) || (decide (q.2 = 1) && decide ((if c = 87 then (1 : Int) else 0) ≤ q.1))
  | none => false
section
variable {L : Bool} {P : Program} {w : World} {K : PySem.W.Frag} {mg : Str → Option Value} {base : Heap} {A : Ads}
theorem sc_number_in : FnScope ["word", "number"] ["word"] (defScope (top 107)) := ⟨rfl, rfl, rfl, by decide +kernel, rfl, by decide +kernel, by decide +kernel⟩
def spNumIn (K : PySem.W.Frag) (A : Ads) : Sp := fun vs H Q E => ∃ t : Str, vs = [.str t] ∧ t.length ≤ 100000 ∧ (numB (TL.tl t) = none → ∀ H', Same H H' → E (.ref A.NoRow) none H') ∧ (∀ q, numB (TL.tl t) = some q → ∀ v H', Same H H' → NumV K H' v q → Q v H')
theorem ok_number_in (T : Txt w K mg A) : FnG true P w K mg base 5 "number_in" ["word"] (spNumIn K A) := by
  have G_read_number := ok_read_number (L := false) (P := P) (base := base) T
  have G_is_small := ok_is_small (L := true) (P := P) (base := base) T
  refine okG T.d_number_in sc_number_in (fun vs H Q E h => ?_) (fun _ _ _ _ _ _ us hl => match us, hl with | [_], _ => rfl) (fun f cdv A₁ outer s H vs Q E hr h => ?_)
  · obtain ⟨t, rfl, _⟩ := h
    rfl
  · obtain ⟨t, rfl, hz, k1, k2⟩ := h
    refine ⟨_, (pss_cons (ps_tryX rfl rfl ⟨rfl, by decide, Or.inl T.xNoText.g⟩ (fun hd => L2H.passesAt_of rfl hd) (takes_of rfl rfl rfl rfl) (fun W pn xe tk2 _ => pss_one (ps_set (i := 1) sc_number_in.nd rfl (Or.inl rfl) (pe_c G_read_number hr (fun σ => passAt tk2 σ) (pa_cons (pv 0) pa_nil)))) (fun a oe pn _ _ tk2 hnn => pss_one (ps_raiseH hnn tk2 T.xNoRow.pm)))
      (pss_cons (ps_if (pt_not (pt_val (pe_c G_is_small hr (fun σ => passNo σ) (pa_cons (pv 1) pa_nil)))) (pss_one (ps_raise rfl (takes_of rfl rfl rfl rfl) T.xNoRow.pm)) pss_nil)
      (pss_one (ps_ret (pv 1))))), ?_⟩
    refine ⟨_, rfl, t, rfl, hz, fun hn H' s => ?_, fun q hq p H' s hp => ?_⟩
    · refine ⟨true, T.eText, fun _ a oe na _ _ => ?_, fun z => nomatch z⟩
      exact k1 (by unfold numB; rw [hn]) H' s
    · refine ⟨_, rfl, .ref p, q, rfl, ⟨p, rfl, hp⟩, _, rfl, ?_⟩
      cases c : smallB q with
      | true => exact iteF ⟨_, rfl, k2 q (by unfold numB; rw [hq]; exact if_pos c) _ H' s ⟨p, rfl, hp⟩⟩
      | false => exact iteT (k1 (by unfold numB; rw [hq]; exact if_neg (by rw [c]; exact Bool.false_ne_true)) H' s)
theorem sc_argument_in : FnScope ["word", "kind", "number"] ["word", "kind"] (defScope (top 108)) := ⟨rfl, rfl, rfl, by decide +kernel, rfl, by decide +kernel, by decide +kernel⟩
def spArg (A : Ads) : Sp := fun vs H Q E => ∃ (t : Str) (c : Nat), vs = [.str t, .str ⟨#[c]⟩] ∧ t.length ≤ 100000 ∧ (argB c (TL.tl t) = false → ∀ H', Same H H' → E (.ref A.NoRow) none H') ∧ (argB c (TL.tl t) = true → ∀ v H', Same H H' → Q v H')
theorem dec_sign (c : Nat) (s : String) (d : Nat) (h : cc s = [d]) : decide (V.str ⟨#[c]⟩ = V.str (Str.ofString s)) = decide (c = d) := by
  rw [dec_tl, h]
  exact decide_eq_decide.mpr ⟨fun z => (List.cons.inj z).1, fun z => by rw [z]⟩
theorem ok_argument_in (T : Txt w K mg A) : FnG true P w K mg base 6 "argument_in" ["word", "kind"] (spArg A) := by
  have G_number_in := ok_number_in (P := P) (base := base) T
  refine okG T.d_argument_in sc_argument_in (fun vs H Q E h => ?_) (fun _ _ _ _ _ _ us hl => match us, hl with | [_, _], _ => rfl) (fun f cdv A₁ outer s H vs Q E hr h => ?_)
  · obtain ⟨t, c, rfl, _⟩ := h
    rfl
  · obtain ⟨t, c, rfl, hz, k1, k2⟩ := h
    refine ⟨_, (pss_cons (ps_set (i := 2) sc_argument_in.nd rfl (Or.inl rfl) (pe_c G_number_in hr (fun σ => passAt (takes_of rfl rfl rfl rfl) σ) (pa_cons (pv 0) pa_nil)))
      (pss_cons (ps_if (pt_cmpR op_eq (pv 1) pe_str (nomark _)) (pss_one (ps_ret (pv 2))) pss_nil)
      (pss_cons (ps_if (PW.pt (pw_or (pt_cmpR op_ne (pe_ix ix_tup (pv 2) pe_int (fun _ _ => rfl)) pe_int (nomark _)) (pw_or1 (pt_cmpR op_lt (pe_ix ix_tup (pv 2) pe_int (fun _ _ => rfl)) (pe_callTy call_int1 rfl T.z_int b_int (pa_cons (pe_cmpR op_eq (pv 1) pe_str (nomark _)) pa_nil)) (nomark _))))) (pss_one (ps_raise rfl (takes_of rfl rfl rfl rfl) T.xNoRow.pm)) pss_nil)
      (pss_one (ps_ret (pe_ix ix_tup (pv 2) pe_int (fun _ _ => rfl))))))), ?_⟩
    refine ⟨_, rfl, t, rfl, hz, fun hn H' s => k1 (by unfold argB; rw [hn]) H' s, fun q hq v H' s hv => ?_⟩
    obtain ⟨a, rfl, ha⟩ := hv
    refine ⟨_, rfl, rfl, _, rfl, ?_⟩
    rw [dec_sign c "N" 78 (by decide +kernel)]
    by_cases c1 : c = 78
    · rw [decide_eq_true c1]
      exact iteT ⟨_, rfl, k2 (by unfold argB; rw [hq, decide_eq_true c1]; rfl) _ H' s⟩
    rw [decide_eq_false c1]
    refine iteF ?_
    have ea : argB c (TL.tl t) = (decide (q.2 = 1) && decide ((if c = 87 then (1 : Int) else 0) ≤ q.1)) := by
      unfold argB
      rw [hq, decide_eq_false c1]
      rfl
    rw [ea] at k1 k2
    refine ⟨_, rfl, a, _, _, _, rfl, rfl, ha, rfl, rfl, _, rfl, ?_⟩
    by_cases c2 : q.2 = 1
    rotate_left
    · rw [decide_eq_false (show ¬ V.int q.2 = V.int 1 from fun z => c2 (V.int.inj z))]
      exact iteT (iteT (k1 (by rw [decide_eq_false c2, Bool.false_and]) H' s))
    rw [decide_eq_true (show V.int q.2 = V.int 1 from congrArg V.int c2)]
    rw [decide_eq_true c2, Bool.true_and] at k1 k2
    refine iteF ?_
    refine ⟨_, rfl, a, _, _, _, rfl, rfl, ha, rfl, _, rfl, rfl, .inr ⟨_, rfl, ?_⟩⟩
    rw [dec_sign c "W" 87 (by decide +kernel)]
    have ei : (if decide (c = 87) = true then (1 : Int) else 0) = if c = 87 then 1 else 0 := by
      by_cases c4 : c = 87
      · rw [if_pos (decide_eq_true c4), if_pos c4]
      · rw [if_neg (by rw [decide_eq_false c4]; exact Bool.false_ne_true), if_neg c4]
    rw [ei]
    refine ⟨_, _, rfl, rfl, _, rfl, ?_⟩
    by_cases c3 : (if c = 87 then (1 : Int) else 0) ≤ q.1
    · rw [decide_eq_false (show ¬ q.1 < (if c = 87 then (1 : Int) else 0) by omega)]
      exact iteF ⟨_, rfl, a, _, _, _, rfl, rfl, ha, rfl, k2 (decide_eq_true c3) _ H' s⟩
    · rw [decide_eq_true (show q.1 < (if c = 87 then (1 : Int) else 0) by omega)]
      exact iteT (k1 (decide_eq_false c3) H' s)
end
end K3
/-! rows: the walk of told_row -/
namespace K3
open PySem PySem.Spec PyProof.Rows L2 HotX Evl
/-- is a row with these words refused -/
def rowL (w : List Nat) (ws : List (List Nat)) : Bool := match (formsL w (ws.length + 1)).find? (fun f => decide (f.length = ws.length)) with
  | none => true
  | some f => !(List.zipWith argB f ws).all id
theorem find_at {f : List Nat → Bool} : ∀ {l : List (List Nat)} {i : Nat} {x : List Nat}, l[i]? = some x → f x = true → (∀ j y, j < i → l[j]? = some y → f y = false) → l.find? f = some x
  | [], i, x, h, _, _ => by simp at h
  | a :: l, 0, x, h, hx, _ => by
    cases h
    rw [List.find?_cons_of_pos hx]
  | a :: l, i + 1, x, h, hx, hl => by
    have ha : f a = false := hl 0 a (Nat.succ_pos _) rfl
    rw [List.find?_cons_of_neg (by rw [ha]; exact Bool.false_ne_true)]
    exact find_at (l := l) (i := i) h hx fun j y hj hy => hl (j + 1) y (Nat.succ_lt_succ hj) hy
theorem cut_tail {x : V} {xs : List V} : cutV (x :: xs) (some 1) none = xs := by
  show ((x :: xs).drop (HT.sIx (x :: xs).length 0 (some ((1 : Nat) : Int)))).take (HT.sIx (x :: xs).length (x :: xs).length none - HT.sIx (x :: xs).length 0 (some ((1 : Nat) : Int))) = xs
  rw [HT.sIx_none, HT.sIx_nat, Nat.min_eq_left (by simp), List.drop_succ_cons, List.drop_zero]
  exact List.take_of_length_le (by simp)
theorem zip_all {ws : List (List Nat)} {f : List Nat} (hl : f.length = ws.length) (h : ∀ (i : Nat) c l, f[i]? = some c → ws[i]? = some l → argB c l = true) : (List.zipWith argB f ws).all id = true := by
  rw [List.all_eq_true]
  intro b hb
  obtain ⟨i, hi, e⟩ := List.getElem_of_mem hb
  rw [List.length_zipWith] at hi
  have h1 : i < f.length := by omega
  have h2 : i < ws.length := by omega
  rw [List.getElem_zipWith] at e
  rw [← e]
  exact h i _ _ (List.getElem?_eq_getElem h1) (List.getElem?_eq_getElem h2)
section
variable {L : Bool} {P : Program} {w : World} {K : PySem.W.Frag} {mg : Str → Option Value} {base : Heap} {A : Ads}
theorem lc_zipS {a : Addr} {ws : List Str} {t : Str} {te : TE} {σ : L2.St} {H1 : Hp} {D : Addr} {Qd : Hp → Prop} (R : Nat → Prop) (hS : SqL K H1 a (ws.map V.str)) (hD : H1 D = none) (hl : ws.length = t.cps.size) (hz : ws.length ≤ 1000)
    (hw : ∀ x y, wipe (((wipe σ [3, 4]).set 3 (some x)).set 4 (some y)) [3, 4] = wipe σ [3, 4])
    (step : ∀ (i : Nat) z c H', ws[i]? = some z → t.cps[i]? = some c → Same H1 H' → ∀ Qk : VK, (∀ y H4, Same H' H4 → R i → Qk y H4) → te (((wipe σ [3, 4]).set 3 (some (.str z))).set 4 (some (.str ⟨#[c]⟩))) H' Qk)
    (hd : ∀ H' acc, Same H1 H' → H' D = some (.lst acc) → acc.length = ws.length → (∀ j, j < ws.length → R j) → Qd H') :
    ∃ W : Nat → Nat → Hp → Prop, (∃ m, W 0 m (upd H1 D (.lst []))) ∧ ∀ i m H, W i m H →
      ((Itzs K a t).stop i H ∧ Qd H) ∨ ((Itzs K a t).go i H ∧ ∃ Nx : Hp → Prop, (∀ H', Nx H' → ∃ m', m' < m ∧ W (i + 1) m' H') ∧ ∀ x H', (Itzs K a t).yld i H x H' → gTup K 2 (gCons (gName 3) (gCons (gName 4) gNil)) x (wipe σ [3, 4]) H' fun σ2 H2 => wipe σ2 [3, 4] = wipe σ [3, 4] ∧ tYes σ2 H2 fun b H3 =>
        if b = true then te σ2 H3 fun y H4 => ∃ acc, H4 D = some (.lst acc) ∧ acc.length < sizeLine ∧ Nx (upd H4 D (.lst (acc ++ [y]))) else Nx H3) := by
  refine ⟨fun i m H => m = ws.length - i ∧ i ≤ ws.length ∧ Made H1 D (fun j _ _ => R j) i H, ⟨ws.length, by simp, Nat.zero_le _, Made.zero hD⟩, ?_⟩
  rintro i m H ⟨rfl, hi, md⟩
  have hSH := Same.seq md.1 hS
  by_cases hlt : i < ws.length
  · have ez : ws[i]? = some ws[i] := List.getElem?_eq_getElem hlt
    refine .inr ⟨⟨_, .str ws[i], hSH, by rw [List.getElem?_map, ez]; rfl, by omega⟩, fun H' => Made H1 D (fun j _ _ => R j) (i + 1) H', fun H' h => ⟨_, by omega, rfl, by omega, h⟩, ?_⟩
    rintro v H' ⟨TT, x, c, rfl, hT, rfl, hx, hc⟩
    have ex := hx _ hSH
    rw [List.getElem?_map, ez] at ex
    cases ex
    have s1 : Same H (upd H TT (.tup [.str ws[i], .str ⟨#[c]⟩])) := Same.new hT
    have md' : Made H1 D (fun j _ _ => R j) i (upd H TT (.tup [.str ws[i], .str ⟨#[c]⟩])) := by
      obtain ⟨s0, acc, h1, h2, h3⟩ := md
      exact ⟨s0.trans s1, acc, s1 _ _ h1, h2, h3⟩
    refine ⟨TT, _, rfl, SqT.of upd_same, rfl, _, _, rfl, _, _, rfl, rfl, hw _ _, ?_⟩
    show (if true = true then te _ (upd H TT (.tup [.str ws[i], .str ⟨#[c]⟩])) _ else Made H1 D (fun j _ _ => R j) (i + 1) (upd H TT (.tup [.str ws[i], .str ⟨#[c]⟩])))
    rw [if_pos rfl]
    exact step i ws[i] c _ ez hc md'.1 _ fun y H4 s r => Made.next hD (fun _ _ _ _ _ h _ _ => h) md' (Nat.lt_of_lt_of_le hlt (Nat.le_trans hz (by decide))) s r
  · have e : i = ws.length := by omega
    subst e
    obtain ⟨s, acc, h1, h2, h3⟩ := md
    refine .inl ⟨⟨_, hSH, by rw [List.length_map]; exact Nat.le_refl _, by omega, .inl (by rw [List.length_map])⟩, hd H acc s h1 h2 fun j hj => ?_⟩
    have ea : acc[j]? = some (acc[j]'(by omega)) := List.getElem?_eq_getElem _
    exact h3 j _ ea
theorem sc_told_row : FnScope ["row", "words", "form", "word", "kind"] ["row"] (defScope (top 109)) := ⟨rfl, rfl, rfl, by decide +kernel, rfl, by decide +kernel, by decide +kernel⟩
/-- a text's row: refused, or the points asked -/
def spRow (K : PySem.W.Frag) (A : Ads) : Sp := fun vs H Q E => ∃ v, vs = [v] ∧ ((∃ (t : Str) (z : String) (wl : List (List Nat)), v = .str t ∧ t.length ≤ 90000 ∧ TL.spl [32] 0 [] (TL.tl t) = cc z :: wl ∧ z ∈ heads ∧ wl.length ≤ 50 ∧
    ((rowL (cc z) wl = true ∧ ∀ H', Same H H' → E (.ref A.NoRow) none H') ∨ (z = "points" ∧ wl = [] ∧ ∀ a l H', Same H H' → SqT K H' a [.str (Str.ofString "points"), .ref l] → Q (.ref a) H'))) ∨
  (NotStr K H v ∧ ∀ H', Same H H' → E (.ref A.NoRow) none H'))
theorem ok_told_row (T : Txt w K mg A) : FnG true P w K mg base 7 "told_row" ["row"] (spRow K A) := by
  have G_argument_in := ok_argument_in (P := P) (base := base) T
  have G_forms_of := ok_forms_of (L := true) (P := P) (base := base) T
  refine okG T.d_told_row sc_told_row (fun vs H Q E h => ?_) (fun _ _ _ _ _ _ us hl => match us, hl with | [_], _ => rfl) (fun f cdv A₁ outer s H vs Q E hr h => ?_)
  · obtain ⟨v, rfl, _⟩ := h
    rfl
  · obtain ⟨v, rfl, ⟨t, z, wl, rfl, hz, hsp, hh, hwl, k⟩ | ⟨⟨ty, hty, hkit⟩, k1⟩⟩ := h
    rotate_left
    · refine ⟨_, (pss_cons (ps_if (pt_not (pt_val (pe_callB call_isi rfl T.z_isinstance b_isinstance (pa_cons (pv 0) (pa_cons (pe_bltn (v := .ty "str") rfl T.z_str b_str rfl) pa_nil))))) (pss_one (ps_raise rfl (takes_of rfl rfl rfl rfl) T.xNoRow.pm)) pss_nil)
      (pss_cons (ps_set (i := 1) sc_told_row.nd rfl (Or.inl rfl) (pe_split (pv 0) pe_str))
      (pss_cons (ps_for (L2.passes_of rfl) rfl (pi_list (pe_c G_forms_of hr (fun σ => passNo σ) (pa_cons (pv 1) pa_nil))) (pg_name (i := 2) sc_told_row.nd rfl (Or.inl rfl)) (pss_one (ps_if (pt_cmpR op_eq (pe_callB call_len_str rfl T.z_len b_len (pa_cons (pv 2) pa_nil)) (pe_op op_sub (pe_callB call_len_seq rfl T.z_len b_len (pa_cons (pv 1) pa_nil)) pe_int) (nomark _)) (pss_one (ps_ret (pe_tup (pa_cons (pe_ix ix_list (pv 1) pe_int (fun _ _ => rfl)) (pa_cons (pe_lcX (own := [("word", 3), ("kind", 4)]) (G := Calm) (fun _ _ _ _ _ _ => rfl) rfl rfl (takes_of rfl rfl rfl rfl) sc_told_row.nd (pig_of (pi_zipS rfl T.z_zip (pa_cons (pe_slice sl_list (pv 1) (po_some pe_int) po_none) (pa_cons (pv 2) pa_nil)))) (blkOk_by (own := [("word", 3), ("kind", 4)]) (N := ["row", "words", "form", "word", "kind"]) (sc := defScope (top 109)) (by decide +kernel)) (fun _ _ _ _ _ _ => (pg_tupK (K := K) (n := 2) rfl rfl (pgs_cons (pg_name (i := 3) sc_told_row.nd rfl (Or.inl rfl)) (pgs_cons (pg_name (i := 4) sc_told_row.nd rfl (Or.inl rfl)) pgs_nil)))) (fun _ _ _ _ _ _ => pts_nil) (fun _ _ _ _ _ E => (pe_c G_argument_in hr (fun σ => passBlk σ) (pa_cons (pv 3) (pa_cons (pv 4) pa_nil))))) pa_nil))))) pss_nil)))
      (pss_one (ps_raise rfl (takes_of rfl rfl rfl rfl) T.xNoRow.pm))))), ?_⟩
      exact ⟨_, rfl, _, _, _, _, false, rfl, .ty _, hty, hkit, _, rfl, iteT (k1 H (Same.refl H))⟩
    refine ⟨_, (pss_cons (ps_if (pt_not (pt_val (pe_callB call_isi rfl T.z_isinstance b_isinstance (pa_cons (pv 0) (pa_cons (pe_bltn (v := .ty "str") rfl T.z_str b_str rfl) pa_nil))))) (pss_one (ps_raise rfl (takes_of rfl rfl rfl rfl) T.xNoRow.pm)) pss_nil)
      (pss_cons (ps_set (i := 1) sc_told_row.nd rfl (Or.inl rfl) (pe_split (pv 0) pe_str))
      (pss_cons (ps_for (L2.passes_of rfl) rfl (pi_list (pe_c G_forms_of hr (fun σ => passNo σ) (pa_cons (pv 1) pa_nil))) (pg_name (i := 2) sc_told_row.nd rfl (Or.inl rfl)) (pss_one (ps_if (pt_cmpR op_eq (pe_callB call_len_str rfl T.z_len b_len (pa_cons (pv 2) pa_nil)) (pe_op op_sub (pe_callB call_len_seq rfl T.z_len b_len (pa_cons (pv 1) pa_nil)) pe_int) (nomark _)) (pss_one (ps_ret (pe_tup (pa_cons (pe_ix ix_list (pv 1) pe_int (fun _ _ => rfl)) (pa_cons (pe_lcX (own := [("word", 3), ("kind", 4)]) (G := Calm) (fun _ _ _ _ _ _ => rfl) rfl rfl (takes_of rfl rfl rfl rfl) sc_told_row.nd (pig_of (pi_zipS rfl T.z_zip (pa_cons (pe_slice sl_list (pv 1) (po_some pe_int) po_none) (pa_cons (pv 2) pa_nil)))) (blkOk_by (own := [("word", 3), ("kind", 4)]) (N := ["row", "words", "form", "word", "kind"]) (sc := defScope (top 109)) (by decide +kernel)) (fun _ _ _ _ _ _ => (pg_tupK (K := K) (n := 2) rfl rfl (pgs_cons (pg_name (i := 3) sc_told_row.nd rfl (Or.inl rfl)) (pgs_cons (pg_name (i := 4) sc_told_row.nd rfl (Or.inl rfl)) pgs_nil)))) (fun _ _ _ _ _ _ => pts_nil) (fun _ _ _ _ _ E => (pe_c G_argument_in hr (fun σ => passBlk σ) (pa_cons (pv 3) (pa_cons (pv 4) pa_nil))))) pa_nil))))) pss_nil)))
      (pss_one (ps_raise rfl (takes_of rfl rfl rfl rfl) T.xNoRow.pm))))), ?_⟩
    refine ⟨_, rfl, _, _, _, _, true, rfl, .ty _, .base (.str t), kit_ty (by decide +kernel), _, rfl, iteF ?_⟩
    refine ⟨_, rfl, ⟨_, rfl⟩, t, _, rfl, rfl, (by decide +kernel), Nat.le_trans (Nat.add_le_add_right hz 2) (by decide), fun p hp => ?_⟩
    have hsp2 : (PySem.Txt.split t (Str.ofString " ")).map TL.tl = cc z :: wl := by
      have := TL.split_spl t (Str.ofString " ") (by decide +kernel) (TL.kind_ok (by decide +kernel))
      rw [this]
      have e : TL.tl (Str.ofString " ") = [32] := by decide +kernel
      rw [e, hsp]
    have hlen : ∀ y ∈ PySem.Txt.split t (Str.ofString " "), y.length ≤ 90000 := fun y hm => by
      have := spl_item [32] (TL.tl t) [] 0 (TL.tl y) (by rw [hsp, ← hsp2]; exact List.mem_map.mpr ⟨y, hm, rfl⟩)
      rw [← TL.len_tl, ← TL.len_tl] at this
      simp at this
      omega
    generalize PySem.Txt.split t (Str.ofString " ") = us at hsp2 hlen ⊢
    obtain ⟨ws, rfl, rfl⟩ : ∃ ws : List Str, us = Str.ofString z :: ws ∧ wl = ws.map TL.tl := by
      cases us with
      | nil => cases hsp2
      | cons u ws =>
        have h1 := (List.cons.inj hsp2).1
        have h2 := (List.cons.inj hsp2).2
        exact ⟨ws, by rw [TL.ext_tl (h1.trans (tl_cc z).symm)], h2.symm⟩
    rw [List.length_map] at hwl
    have s1 : Same H (upd H p (.lst ((Str.ofString z :: ws).map V.str))) := Same.new hp
    have hp1 : SqL K (upd H p (.lst ((Str.ofString z :: ws).map V.str))) p ((Str.ofString z :: ws).map V.str) := SqL.of upd_same
    generalize upd H p (.lst ((Str.ofString z :: ws).map V.str)) = H1 at s1 hp1 ⊢
    refine ⟨_, rfl, p, z, ws, rfl, hh, hp1, hwl, fun l fs H2 s2 hl hfs => ?_⟩
    have s3 := s1.trans s2
    refine ⟨l, rfl, ⟨_, SqL.of hl⟩, for_list (K := K) (a := l) (xs := fs.map V.str) (fun i σ H' => H' = H2 ∧ (∃ x, σ = [some (.str t), some (.ref p), x, none, none]) ∧ ∀ (j : Nat) f, j < i → fs[j]? = some f → f.length ≠ ws.length)
      ⟨rfl, ⟨none, rfl⟩, fun j f hj => absurd hj (Nat.not_lt_zero _)⟩ (fun i σ H' _ ⟨e, _⟩ => by rw [e]; exact SqL.of hl) ?_ ?_⟩
    · rintro i x σ H' hx ⟨rfl, ⟨x0, rfl⟩, hno⟩
      rw [List.getElem?_map] at hx
      obtain ⟨f, hf, rfl⟩ := Option.map_eq_some_iff.mp hx
      have hfl : f.length ≤ 100 := by
        have e : TL.tl f ∈ formsL (cc z) (ws.length + 1) := by rw [← hfs]; exact List.mem_map.mpr ⟨f, List.mem_of_getElem? hf, rfl⟩
        rw [TL.len_tl]
        unfold formsL at e
        split at e
        · rw [List.mem_singleton] at e
          rw [e, List.length_replicate]
          omega
        split at e
        · simp at e
          rcases e with e | e <;> rw [e] <;> decide
        split at e
        · simp at e
          rw [e]
          decide
        split at e
        · simp at e
          rw [e]
          decide
        split at e
        · simp at e
          rw [e]
          decide
        split at e
        · rename_i kk ek
          rw [List.mem_singleton] at e
          rw [e, List.length_replicate]
          have : ∀ (tab : List (String × Nat)), (∀ p ∈ tab, p.2 ≤ 100) → ∀ l k, (tab.map fun p => (cc p.1, p.2)).lookup l = some k → k ≤ 100 := by
            intro tab
            induction tab with
            | nil => intro _ l k h; cases h
            | cons p tab ih =>
              intro hb l k h
              rw [List.map_cons, List.lookup_cons] at h
              split at h
              · cases h
                exact hb p List.mem_cons_self
              · exact ih (fun q hq => hb q (List.mem_cons_of_mem _ hq)) l k h
          exact this tabN (by decide) _ _ ek
        · cases e
      refine ⟨_, rfl, f, rfl, short (by omega), _, rfl, p, _, rfl, .inl (Same.seq s2 hp1), _, _, rfl, rfl, rfl, _, rfl, ?_⟩
      have ed : decide (V.int (f.length : Int) = V.int (((List.map V.str (Str.ofString z :: ws)).length : Int) - 1)) = decide (f.length = ws.length) := by
        rw [List.length_map, List.length_cons]
        exact decide_eq_decide.mpr ⟨fun e => by have := V.int.inj e; omega, fun e => congrArg V.int (by omega)⟩
      rw [ed]
      by_cases c : f.length = ws.length
      rotate_left
      · rw [decide_eq_false c]
        refine iteF ⟨rfl, ⟨_, rfl⟩, fun j g hj hg => ?_⟩
        by_cases e : j = i
        · rw [e, hf] at hg
          cases hg
          exact c
        · exact hno j g (by omega) hg
      rw [decide_eq_true c]
      refine iteT ?_
      have hfind : (formsL (cc z) (ws.length + 1)).find? (fun f => decide (f.length = ws.length)) = some (TL.tl f) := by
        rw [← hfs]
        refine find_at (i := i) (by rw [List.getElem?_map, hf]; rfl) (decide_eq_true (by rw [← TL.len_tl]; exact c)) fun j y hj hy => ?_
        rw [List.getElem?_map] at hy
        obtain ⟨g, hg, rfl⟩ := Option.map_eq_some_iff.mp hy
        exact decide_eq_false (by rw [← TL.len_tl]; exact hno j g hj hg)
      have hrow : rowL (cc z) (ws.map TL.tl) = !(List.zipWith argB (TL.tl f) (ws.map TL.tl)).all id := by
        unfold rowL
        rw [List.length_map, hfind]
      refine ⟨_, rfl, p, _, _, .str (Str.ofString z), rfl, rfl, Same.seq s2 hp1, atI_nat (j := 0) rfl, ?_⟩
      refine ⟨_, rfl, 1, rfl, p, _, rfl, Same.seq s2 hp1, fun c2 hc2 => ?_⟩
      have s4 : Same H' (upd H' c2 (.lst (cutV ((Str.ofString z :: ws).map V.str) (some 1) none))) := Same.new hc2
      have h4 : SqL K (upd H' c2 (.lst (cutV ((Str.ofString z :: ws).map V.str) (some 1) none))) c2 (ws.map V.str) := SqL.of (by rw [upd_same]; exact congrArg (fun l => some (HO.lst l)) cut_tail)
      refine ⟨_, rfl, c2, f, _, rfl, h4, fun D hD => ?_⟩
      refine lc_zipS (fun i => ∀ c l, (TL.tl f)[i]? = some c → (ws.map TL.tl)[i]? = some l → argB c l = true) h4 hD (by rw [← c]; rfl) (by omega) (fun _ _ => rfl) (fun j y sg H'' hy hsg s Qk hk => ?_) fun H3 acc s hacc hal hall => ?_
      · refine ⟨_, rfl, _, rfl, y, sg, rfl, Nat.le_trans (hlen y (List.mem_cons_of_mem _ (List.mem_of_getElem? hy))) (by decide), fun hb H4 s' => ?_, fun hb v H4 s' => hk v H4 s' fun c' l' h1 h2 => ?_⟩
        · rcases k with ⟨_, k⟩ | ⟨rfl, e, _⟩
          · exact k H4 (((s3.trans s4).trans s).trans s')
          · have : ws = [] := List.eq_nil_of_map_eq_nil e
            rw [this] at hy
            simp at hy
        · have h1' : f.cps[j]? = some c' := by simpa [TL.tl] using h1
          rw [hsg] at h1'
          cases h1'
          rw [List.getElem?_map, hy] at h2
          cases h2
          exact hb
      · have hgood : (List.zipWith argB (TL.tl f) (ws.map TL.tl)).all id = true := zip_all (by rw [List.length_map, ← TL.len_tl]; exact c) fun j c' l' h1 h2 => hall j (by
          have := (List.getElem?_eq_some_iff.mp h2).1
          rw [List.length_map] at this
          exact this) c' l' h1 h2
        rw [hgood] at hrow
        rcases k with ⟨hb, _⟩ | ⟨rfl, e, k⟩
        · rw [hb] at hrow
          cases hrow
        · refine ⟨(by show 2 ≤ sizeLine; decide), fun tt htt => ?_⟩
          exact k tt D _ (((s3.trans s4).trans s).trans (Same.new htt)) (SqT.of upd_same)
    · rintro σ H' ⟨rfl, ⟨x0, rfl⟩, hno⟩
      rw [List.length_map] at hno
      rcases k with ⟨_, k⟩ | ⟨rfl, e, _⟩
      · exact k H' s3
      · have e2 : ws = [] := List.eq_nil_of_map_eq_nil e
        subst e2
        have ef : formsL (cc "points") 1 = [[]] := by decide +kernel
        have hfs' : fs.map TL.tl = [[]] := hfs.trans ef
        cases fs with
        | nil => cases hfs'
        | cons f fs =>
          have h1 := (List.cons.inj hfs').1
          exact absurd (by rw [TL.len_tl, h1]; rfl) (hno 0 f (by simp) rfl)
end
end K3
/-! the desk: the walks of __init__, asked, say -/
namespace K3
open PySem PySem.Spec PyProof.Rows L2 HotX Evl
theorem readL_some {l : List Nat} {q : Int × Int} (h : readL l = some q) : lowB q = true ∧ Fine q ∧ numQ q = l := by
  have key : ∀ (way : Int) (n d : Nat), (way = 1 ∨ way = -1) → 0 < d → n < 10 ^ 60 → d < 10 ^ 60 → lowB (lowQ (way * n) d) = true ∧ Fine (lowQ (way * n) d) := fun way n d hway hd0 hn hd => by
    have hb : (0 : Int) < (d : Int) := by omega
    have hwn : (way * (n : Int)).natAbs < 10 ^ 60 := by
      rw [Int.natAbs_mul]
      rcases hway with e | e <;> rw [e] <;> simpa using hn
    have hle := lowQ_le (t := way * n) hb
    have hlow := lowQ_low (t := way * n) hb
    exact ⟨by unfold lowB; rw [decide_eq_true hlow.1, decide_eq_true hlow.2]; rfl, Nat.lt_of_le_of_lt hle.1 (Nat.lt_trans hwn (by decide)), Nat.lt_of_le_of_lt hle.2 (by rw [Int.natAbs_natCast]; exact Nat.lt_trans hd (by decide))⟩
  have hway : (cutL l).1 = 1 ∨ (cutL l).1 = -1 := by
    unfold cutL
    split
    · exact .inr rfl
    · exact .inl rfl
  have mem : ∀ ns, allSome wholeL (cutL l).2 = some ns → ∀ n ∈ ns, n < 10 ^ 60 := fun ns hns n hn => by
    have hg := allSome_get hns
    obtain ⟨i, hi, ei⟩ := List.getElem_of_mem hn
    have ep : (cutL l).2[i]? = some ((cutL l).2[i]'(by omega)) := List.getElem?_eq_getElem _
    obtain ⟨b, hb, hb2⟩ := hg.2 i _ ep
    rw [List.getElem?_eq_getElem hi, ei] at hb
    cases hb
    exact wholeL_lt hb2
  unfold readL at h
  split at h
  · rename_i n hns
    split at h
    · rename_i c
      cases h
      have k := key _ n 1 hway (by decide) (mem _ hns n (by simp)) (by decide)
      exact ⟨k.1, k.2, c⟩
    · cases h
  · rename_i n d hns
    split at h
    · cases h
    · rename_i hd
      split at h
      · rename_i c
        cases h
        have k := key _ n d hway (by omega) (mem _ hns n (by simp)) (mem _ hns d (by simp))
        exact ⟨k.1, k.2, c⟩
      · cases h
  · cases h
theorem allSome_mem {α β : Type} {f : α → Option β} {l : List α} {r : List β} (h : allSome f l = some r) : ∀ b ∈ r, ∃ a ∈ l, f a = some b := fun b hb => by
  have hg := allSome_get h
  obtain ⟨i, hi, ei⟩ := List.getElem_of_mem hb
  have ep : l[i]? = some (l[i]'(by omega)) := List.getElem?_eq_getElem _
  obtain ⟨b', h1, h2⟩ := hg.2 i _ ep
  rw [List.getElem?_eq_getElem hi, ei] at h1
  cases h1
  exact ⟨_, List.getElem_mem _, h2⟩
theorem pointL_ok {l : List Nat} {p : List (Int × Int)} (h : pointL l = some p) : OkPt p ∧ FinePt p := by
  unfold pointL at h
  split at h
  · rename_i q hq
    split at h
    · rename_i c
      cases h
      exact ⟨⟨by omega, fun q hq' => by
        obtain ⟨a, _, ha⟩ := allSome_mem hq q hq'
        exact (readL_some ha).1⟩, c.2, fun q hq' => by
        obtain ⟨a, _, ha⟩ := allSome_mem hq q hq'
        exact (readL_some ha).2.1⟩
    · cases h
  · cases h
theorem partsL_ok {l : List Nat} {ps : List (List (Int × Int))} (h : partsL l = some ps) : 0 < ps.length ∧ (∀ p ∈ ps, OkPt p) ∧ ∀ p ∈ ps, FinePt p := by
  unfold partsL at h
  refine ⟨?_, fun p hp => ?_, fun p hp => ?_⟩
  · have hg := (allSome_get h).1
    have := spl_ne [44, 32] l [] 0
    rw [← hg]
    exact List.length_pos_iff.mpr this
  · obtain ⟨a, _, ha⟩ := allSome_mem h p hp
    exact (pointL_ok ha).1
  · obtain ⟨a, _, ha⟩ := allSome_mem h p hp
    exact (pointL_ok ha).2
/-- what becomes of a desk of these points -/
inductive Fate where
  | text
  | points
  | many
  | good
def fate : Option (List (List (Int × Int))) → Fate
  | none => .text
  | some ps => if ps.all (fun p => p.all smallB) = true then (if (places ps).Nodup then (if 12 < told ps then .many else .good) else .points) else .text
theorem fate_some (ps : List (List (Int × Int))) : fate (some ps) = if ps.all (fun p => p.all smallB) = true then (if (places ps).Nodup then (if 12 < told ps then .many else .good) else .points) else .text := by
  unfold fate
  exact Eq.refl _
section
variable {L : Bool} {P : Program} {w : World} {K : PySem.W.Frag} {mg : Str → Option Value} {base : Heap} {A : Ads} {k : Nat} {N ps : List Str} {sp : Sp} {st : Stmt}
theorem okI {C : Addr} {qual : Str} (D : InitAt K C qual st) (S : FnScope N ps (defScope st)) (len : ∀ vs H Q E, sp vs H Q E → vs.length = ps.length)
    (hb : ∀ (kV doc pm : Value) (an : Option Addr) (cdv ct : Value) (us : List Value), us.length = ps.length → bindArgs (PySem.W.fnOf "__init__" qual (defArgs st) (defBody st) (defScope st) .none kV doc pm an cdv ct) ⟨us, []⟩ = pure (ps.zip us))
    (hbody : ∀ (f : Addr) (cdv : Value) (A : Around) (outer : List Env) (s : Shared) (H : Hp) (vs : List V) (Q : VK) (E : XK), Room k (A.deeper (envOfC qual (defScope st) s.heap.objs.size f cdv)) → sp vs H Q E →
      ∃ t, PSs (cxOf (CX L P w) P w K mg base N qual (defScope st) f cdv A outer s H E) (defBody st) t ∧ t { nx := fun _ H' => Q .non H', rt := Q } (L2.start N vs) H) : MkG L P w K mg base (k + 1) C ps sp := by
  obtain ⟨f, h1, oc, od, kV, doc, pm, an, cdv, ct, osl, lk, hcd⟩ := D
  exact ⟨f, _, h1, fn_of lk hcd S len fun A outer s H vs Q E hr hsp => hbody f cdv A outer s H vs Q E hr hsp, .all (hb kV doc pm an cdv ct)⟩
end
section
variable {L : Bool} {P : Program} {w : World} {K : PySem.W.Frag} {mg : Str → Option Value} {base : Heap} {A : Ads}
theorem sc___init__ : FnScope ["self", "text", "parts", "part", "number"] ["self", "text"] (defScope (inClass (top 112) 0)) := ⟨rfl, rfl, rfl, by decide +kernel, rfl, by decide +kernel, by decide +kernel⟩
def spInit (K : PySem.W.Frag) (A : Ads) : Sp := fun vs H Q E => ∃ p v dx, vs = [.ref p, v] ∧ H p = some (.ins A.Desk dx []) ∧
  ((∃ t : Str, v = .str t ∧ t.length ≤ 90000 ∧ (∀ ps, partsL (TL.tl t) = some ps → ps.length < 64) ∧ (fate (partsL (TL.tl t)) = .text → ∀ H', Same H H' → E (.ref A.NoText) none H') ∧ (fate (partsL (TL.tl t)) = .points → ∀ H', Same H H' → E (.ref A.NoPoints) none H') ∧
      (fate (partsL (TL.tl t)) = .many → ∀ H', Same H H' → E (.ref A.TooMany) none H') ∧
      (∀ ps, partsL (TL.tl t) = some ps → fate (some ps) = .good → ∀ a H', Keep p H H' → PtsT K H' a ps → H' p = some (.ins A.Desk dx [(Str.ofString "points", .ref a)]) → Q .non H')) ∨
    (NotStr K H v ∧ ∀ H', Same H H' → E (.ref A.NoText) none H'))
theorem ok_init (T : Txt w K mg A) : MkG L P w K mg base 6 A.Desk ["self", "text"] (spInit K A) := by
  have G_parts_of := ok_parts_of (L := L) (P := P) (base := base) T
  have G_is_small := ok_is_small (L := L) (P := P) (base := base) T
  have G_points_of := ok_points_of (L := L) (P := P) (base := base) T
  refine okI T.init sc___init__ (fun vs H Q E h => ?_) (fun _ _ _ _ _ _ us hl => match us, hl with | [_, _], _ => rfl) (fun f cdv A₁ outer s H vs Q E hr h => ?_)
  · obtain ⟨p, v, dx, rfl, _⟩ := h
    rfl
  · obtain ⟨p, v, dx, rfl, hp, ⟨t, rfl, hz, hps64, k1, k2, k3, k4⟩ | ⟨hns, k1⟩⟩ := h
    rotate_left
    · refine ⟨_, (pss_cons (ps_set (i := 2) sc___init__.nd rfl (Or.inl rfl) (pe_c G_parts_of hr (fun σ => passAt (takes_of rfl rfl rfl rfl) σ) (pa_cons (pv 1) pa_nil)))
      (pss_cons (ps_for (L2.passes_of rfl) rfl (pi_tup (pv 2)) (pg_name (i := 3) sc___init__.nd rfl (Or.inl rfl)) (pss_one (ps_if (pt_not (pt_val (pe_callB (cr_all (by rfl)) rfl T.z_all b_all (pa_cons (pe_lc (own := [("number", 4)]) (by rfl) sc___init__.nd (pi_tup (pv 3)) (blkOk_by (own := [("number", 4)]) (N := ["self", "text", "parts", "part", "number"]) (sc := defScope (inClass (top 112) 0)) (by decide +kernel)) (fun _ _ _ _ _ => (pg_name (i := 4) sc___init__.nd rfl (Or.inl rfl))) (fun _ _ _ _ _ => pts_nil) (fun _ _ _ _ _ => (pe_c G_is_small hr (fun σ => passNo σ) (pa_cons (pv 4) pa_nil)))) pa_nil)))) (pss_one (ps_raise rfl (takes_of rfl rfl rfl rfl) T.xNoText.pm)) pss_nil)))
      (pss_one (ps_fld (pv 0) (pe_c G_points_of hr (fun σ => passAt (takes_of rfl rfl rfl rfl) σ) (pa_cons (pv 2) pa_nil)) rfl)))), ?_⟩
      exact ⟨_, rfl, _, rfl, .inr ⟨hns, k1⟩⟩
    refine ⟨_, (pss_cons (ps_set (i := 2) sc___init__.nd rfl (Or.inl rfl) (pe_c G_parts_of hr (fun σ => passAt (takes_of rfl rfl rfl rfl) σ) (pa_cons (pv 1) pa_nil)))
      (pss_cons (ps_for (L2.passes_of rfl) rfl (pi_tup (pv 2)) (pg_name (i := 3) sc___init__.nd rfl (Or.inl rfl)) (pss_one (ps_if (pt_not (pt_val (pe_callB (cr_all (by rfl)) rfl T.z_all b_all (pa_cons (pe_lc (own := [("number", 4)]) (by rfl) sc___init__.nd (pi_tup (pv 3)) (blkOk_by (own := [("number", 4)]) (N := ["self", "text", "parts", "part", "number"]) (sc := defScope (inClass (top 112) 0)) (by decide +kernel)) (fun _ _ _ _ _ => (pg_name (i := 4) sc___init__.nd rfl (Or.inl rfl))) (fun _ _ _ _ _ => pts_nil) (fun _ _ _ _ _ => (pe_c G_is_small hr (fun σ => passNo σ) (pa_cons (pv 4) pa_nil)))) pa_nil)))) (pss_one (ps_raise rfl (takes_of rfl rfl rfl rfl) T.xNoText.pm)) pss_nil)))
      (pss_one (ps_fld (pv 0) (pe_c G_points_of hr (fun σ => passAt (takes_of rfl rfl rfl rfl) σ) (pa_cons (pv 2) pa_nil)) rfl)))), ?_⟩
    refine ⟨_, rfl, _, rfl, .inl ⟨t, rfl, hz, fun hn H' s => k1 (by rw [hn]; rfl) H' s, fun ps hps a H1 s1 ha => ?_⟩⟩
    rw [hps] at k1 k2 k3
    have h64 := hps64 ps hps
    obtain ⟨hpos, hok, hfine⟩ := partsL_ok hps
    have ha0 := ha
    obtain ⟨vs, hS, hv⟩ := ha
    have hz2 : vs.length ≤ 1000 := by have := hv.1; omega
    refine ⟨_, rfl, a, rfl, ⟨_, hS⟩, for_tup (K := K) (a := a) (xs := vs) (fun i σ H' => Same H1 H' ∧ (∃ x, σ = [some (.ref p), some (.str t), some (.ref a), x, none]) ∧ ∀ (j : Nat) q, j < i → ps[j]? = some q → q.all smallB = true)
      ⟨Same.refl _, ⟨none, rfl⟩, fun j q hj => absurd hj (Nat.not_lt_zero _)⟩ (fun i σ H' _ ⟨e, _⟩ => Same.tup e hS) ?_ ?_⟩
    · rintro i x σ H' hx ⟨s2, ⟨x0, rfl⟩, hno⟩
      obtain ⟨q, hq, hqv⟩ := hv.get hx
      obtain ⟨b, us, rfl, hb, hbn⟩ := hqv
      have hb2 := Same.tup s2 hb
      have hql : us.length ≤ 3 := by have := hbn.1; have := (hfine q (List.mem_of_getElem? hq)).1; omega
      refine ⟨_, rfl, b, rfl, ⟨_, hb2⟩, fun D hD => ?_⟩
      refine lc_tup_n (fun j y _ => ∃ n, q[j]? = some n ∧ y = .bl (smallB n)) hb2 hD (short (by omega)) (fun _ => rfl) (fun _ _ _ _ _ h _ _ => h) (fun j u H'' hu s Qk hk => ?_) fun H3 acc s hacc hl hall => ?_
      · obtain ⟨n, hn, hv'⟩ := hbn.get hu
        exact ⟨_, rfl, u, n, rfl, (hv'.same s2).same s, hk _ _ (Same.refl _) ⟨n, hn, rfl⟩⟩
      · have e := made_map (xs := q) (g := fun n => V.bl (smallB n)) (hl.trans hbn.1) hall
        refine ⟨D, q.map smallB, rfl, SqL.of (by rw [hacc, e, List.map_map]; rfl), ?_⟩
        have eb : (q.map smallB).all id = q.all smallB := by
          rw [List.all_map, Function.id_comp]
        rw [eb]
        cases c : q.all smallB with
        | false =>
          refine ⟨_, rfl, iteT (k1 ?_ H3 ((s1.trans s2).trans s))⟩
          rw [fate_some, if_neg]
          intro z
          have := List.all_eq_true.mp z q (List.mem_of_getElem? hq)
          rw [c] at this
          cases this
        | true =>
          refine ⟨_, rfl, iteF ⟨s2.trans s, ⟨_, rfl⟩, fun j r hj hr => ?_⟩⟩
          by_cases e : j = i
          · rw [e, hq] at hr
            cases hr
            exact c
          · exact hno j r (by omega) hr
    · rintro σ H' ⟨s2, ⟨x0, rfl⟩, hno⟩
      have hall : ps.all (fun p => p.all smallB) = true := List.all_eq_true.mpr fun q hq => by
        obtain ⟨i, hi, e⟩ := List.getElem_of_mem hq
        exact hno i q (by have := hv.1; omega) (by rw [List.getElem?_eq_getElem hi, e])
      have s3 := s1.trans s2
      have f0 : fate (some ps) = if (places ps).Nodup then (if 12 < told ps then .many else .good) else .points := by
        rw [fate_some, if_pos hall]
      rw [f0] at k2 k3
      have k4' := k4 ps hps
      rw [f0] at k4'
      refine ⟨_, rfl, a, ps, rfl, ha0.same s2, hpos, h64, hok, fun hd H4 s4 => k2 (if_neg hd) H4 (s3.trans s4), fun hd ht H4 s4 => k3 (by rw [if_pos hd, if_pos ht]) H4 (s3.trans s4), fun hd ht H4 s4 => ?_⟩
      have s5 := s3.trans s4
      refine ⟨_, rfl, p, A.Desk, dx, [], rfl, s5 _ _ hp, T.cl, T.nP, (by show 0 < 1000; decide), ?_⟩
      have hpts := (ha0.same s2).same s4
      refine k4' (by rw [if_pos hd, if_neg (by omega)]) a _ (fun b o e n => by rw [upd_ne n]; exact s5 b o e) ?_ upd_same
      have hp4 := s5 _ _ hp
      have kp : ∀ {c : Addr} {xs : List V}, SqT K H4 c xs → SqT K (upd H4 p (.ins A.Desk dx (putF "points" (.ref a) []))) c xs := fun {c xs} h => by
        rcases h with (h | ⟨o, h⟩) | h
        · exact .inl (.inl (by rw [upd_ne (ne_of h hp4 (by intro z; cases z))]; exact h))
        · exact .inl (.inr ⟨o, by rw [upd_ne (ne_of h hp4 (by intro z; cases z))]; exact h⟩)
        · exact .inr h
      obtain ⟨vs', h1, h2⟩ := hpts
      exact ⟨vs', kp h1, h2.imp fun v x ⟨c, us, e, h3, h4⟩ => ⟨c, us, e, kp h3, h4.imp fun v x ⟨c, e, h5⟩ => ⟨c, e, kp h5⟩⟩⟩
/-- a desk stands at d -/
def DeskAt (K : PySem.W.Frag) (A : Ads) (H : Hp) (d : Addr) (ps : List (List (Int × Int))) : Prop := ∃ dx a, H d = some (.ins A.Desk dx [(Str.ofString "points", .ref a)]) ∧ PtsT K H a ps
theorem lk1 {k : Str} {v : V} : List.lookup k [(k, v)] = some v := by
  have e : (k == k) = true := beq_self_eq_true k
  simp only [List.lookup, e]
theorem lk0 {k g : Str} {v : V} (h : (k == g) = false) : List.lookup k [(g, v)] = none := by
  simp only [List.lookup, h]
theorem sc_asked : FnScope ["self", "word", "some"] ["self", "word", "some"] (defScope (inClass (top 112) 7)) := ⟨rfl, rfl, rfl, by decide +kernel, rfl, by decide +kernel, by decide +kernel⟩
def spAsked (K : PySem.W.Frag) (A : Ads) : Sp := fun vs H Q _ => ∃ d v ps, vs = [.ref d, .str (Str.ofString "points"), v] ∧ DeskAt K A H d ps ∧ ps.length ≤ 100 ∧ (∀ p ∈ ps, FinePt p) ∧ ∀ H', Same H H' → Q (.str (showPs ps)) H'
theorem ok_asked (T : Txt w K mg A) : MeG L P w K mg base 3 A.Desk "asked" ["self", "word", "some"] (spAsked K A) := by
  have G_show_points := ok_show_points (L := L) (P := P) (base := base) T
  refine okM T.m_asked sc_asked (fun vs H Q E h => ?_) (fun _ _ _ _ _ _ us hl => match us, hl with | [_, _, _], _ => rfl) (fun f cdv A₁ outer s H vs Q E hr h => ?_)
  · obtain ⟨d, v, ps, rfl, _⟩ := h
    rfl
  · obtain ⟨d, v, ps, rfl, ⟨dx, a, hd, ha⟩, hz, hf, k⟩ := h
    refine ⟨_, pss_cons (ps_if (pt_cmpR op_eq (pv 1) pe_str (nomark _)) (pss_one (ps_ret (pe_c G_show_points hr (fun σ => passNo σ) (pa_cons (pe_fld (pv 0) rfl) pa_nil)))) pss_nil) pss_never, ?_⟩
    refine ⟨_, rfl, rfl, _, rfl, ?_⟩
    rw [decide_eq_true rfl]
    exact iteT ⟨_, rfl, d, A.Desk, dx, _, _, rfl, hd, T.cl, T.nP, lk1, a, ps, rfl, ha, hz, hf, k⟩
theorem sc_say : FnScope ["self", "row", "word", "some"] ["self", "row"] (defScope (inClass (top 112) 8)) := ⟨rfl, rfl, rfl, by decide +kernel, rfl, by decide +kernel, by decide +kernel⟩
/-- v is a row that a desk refuses -/
def BadRow (K : PySem.W.Frag) (H : Hp) (v : V) : Prop := (∃ (t : Str) (z : String) (wl : List (List Nat)), v = .str t ∧ t.length ≤ 90000 ∧ TL.spl [32] 0 [] (TL.tl t) = cc z :: wl ∧ z ∈ heads ∧ wl.length ≤ 50 ∧ rowL (cc z) wl = true) ∨ NotStr K H v
def spSay (K : PySem.W.Frag) (A : Ads) : Sp := fun vs H Q E => ∃ d v ps, vs = [.ref d, v] ∧ DeskAt K A H d ps ∧ ps.length ≤ 100 ∧ (∀ p ∈ ps, FinePt p) ∧
  ((BadRow K H v ∧ ∀ H', Same H H' → E (.ref A.NoRow) none H') ∨ (v = .str (Str.ofString "points") ∧ ∀ H', Same H H' → Q (.str (showPs ps)) H'))
theorem DeskAt.same {H H' : Hp} {d : Addr} {ps : List (List (Int × Int))} (h : DeskAt K A H d ps) (e : Same H H') : DeskAt K A H' d ps := by
  obtain ⟨dx, a, h1, h2⟩ := h
  exact ⟨dx, a, e _ _ h1, h2.same e⟩
theorem DeskAt.keep {H H' : Hp} {d b : Addr} {ys : List V} {ps : List (List (Int × Int))} (h : DeskAt K A H d ps) (e : Keep b H H') (hb : H b = some (.lst ys)) : DeskAt K A H' d ps := by
  obtain ⟨dx, a, h1, h2⟩ := h
  exact ⟨dx, a, e _ _ h1 (ne_of h1 hb (by intro z; cases z)), h2.keep e hb⟩
theorem ok_say (T : Txt w K mg A) : MeG true P w K mg base 8 A.Desk "say" ["self", "row"] (spSay K A) := by
  have G_told_row := ok_told_row (P := P) (base := base) T
  have G_asked := ok_asked (L := true) (P := P) (base := base) T
  refine okM T.m_say sc_say (fun vs H Q E h => ?_) (fun _ _ _ _ _ _ us hl => match us, hl with | [_, _], _ => rfl) (fun f cdv A₁ outer s H vs Q E hr h => ?_)
  · obtain ⟨d, v, ps, rfl, _⟩ := h
    rfl
  · obtain ⟨d, v, ps, rfl, hd, hz, hf, k⟩ := h
    refine ⟨_, pss_cons (ps_asg (pe_c G_told_row hr (fun σ => passAt (takes_of rfl rfl rfl rfl) σ) (pa_cons (pv 1) pa_nil)) (pg_tup rfl (pgs_cons (pg_name (i := 2) sc_say.nd rfl (Or.inl rfl)) (pgs_cons (pg_name (i := 3) sc_say.nd rfl (Or.inl rfl)) pgs_nil))))
      (pss_cons (ps_if (pt_cmpR op_in_seq (pv 2) (pe_cst T.cCHANGES) (by rfl)) pss_never pss_nil)
      (pss_one (ps_ret (pe_mG (pv 0) T.cl G_asked hr (fun σ => passNo σ) (pa_cons (pv 2) (pa_cons (pv 3) pa_nil)))))), ?_⟩
    rcases k with ⟨⟨t, z, wl, rfl, h1, h2, h3, h4, h5⟩ | hns, k⟩ | ⟨rfl, k⟩
    · exact ⟨_, rfl, _, rfl, .inl ⟨t, z, wl, rfl, h1, h2, h3, h4, .inl ⟨h5, k⟩⟩⟩
    · exact ⟨_, rfl, _, rfl, .inr ⟨hns, k⟩⟩
    · refine ⟨_, rfl, _, rfl, .inl ⟨_, "points", [], rfl, by decide +kernel, by decide +kernel, by decide +kernel, by decide, .inr ⟨rfl, rfl, fun a l H' s ha => ?_⟩⟩⟩
      refine ⟨a, _, rfl, ha, rfl, _, _, rfl, _, _, rfl, rfl, ?_⟩
      refine ⟨_, rfl, _, _, rfl, .inr (T.sCHANGES H'), rfl, rfl, _, rfl, ?_⟩
      refine iteB (fun c => absurd c (by decide +kernel)) (fun _ => ?_)
      obtain ⟨dx, b, hd1, hd2⟩ := hd
      refine ⟨_, rfl, d, dx, _, rfl, s _ _ hd1, lk0 (by decide +kernel), _, rfl, _, rfl, d, _, ps, rfl, ⟨dx, b, s _ _ hd1, hd2.same s⟩, hz, hf, fun H'' s' => k H'' (s.trans s')⟩
end
end K3
/-! the law's own numbers and points: the walks -/
namespace K3
open PySem PySem.Spec PyProof.Rows L2 HotX Evl
/-! ### a number in a list of numbers -/
def qD (q : Int × Int) : PyData := .tuple [.int q.1, .int q.2]
theorem dp_num {K : PySem.W.Frag} {H : Hp} {v : V} {q : Int × Int} (h : NumV K H v q) : Dp K H v (qD q) := by
  obtain ⟨a, rfl, s⟩ := h
  exact .tup s (.cons (.int _) (.cons (.int _) .nil))
theorem dp_nums {K : PySem.W.Frag} {H : Hp} : ∀ {vs : List V} {qs : List (Int × Int)}, AllV (NumV K H) vs qs → DpAll K H vs (qs.map qD)
  | [], [], _ => .nil
  | [], _ :: _, h => nomatch h.1
  | _ :: _, [], h => nomatch h.1
  | v :: vs, q :: qs, h => .cons (dp_num (h.2 0 v q rfl rfl)) (dp_nums ⟨by simpa using h.1, fun i v x a b => h.2 (i + 1) v x a b⟩)
theorem qD_lay (q : Int × Int) : (qD q).canLay0 = true := by simp [qD, PyData.canLay0, PyData.canLayAll0]
theorem qD_depth (q : Int × Int) : (qD q).depth = 1 := by simp [qD, PyData.depth, PyData.depthAll]
theorem qDs_lay : ∀ zs : List (Int × Int), PyData.canLayAll0 (zs.map qD) = true
  | [] => by simp [PyData.canLayAll0]
  | z :: zs => by simp [PyData.canLayAll0, qD_lay z, qDs_lay zs]
theorem qDs_depth : ∀ zs : List (Int × Int), PyData.depthAll (zs.map qD) ≤ 1
  | [] => by simp [PyData.depthAll]
  | z :: zs => by
    have h1 := qDs_depth zs
    have h2 := qD_depth z
    simp only [List.map_cons, PyData.depthAll]
    omega
theorem qD_shaped (q : Int × Int) : SeqAt.shaped (qD q) = true := by
  have h := qD_depth q
  show ((qD q).canLay0 && decide ((qD q).depth ≤ 64)) = true
  rw [Bool.and_eq_true]
  exact ⟨qD_lay q, decide_eq_true (by omega)⟩
theorem qDs_shaped (zs : List (Int × Int)) : SeqAt.shaped (.list (zs.map qD)) = true := by
  have h1 := qDs_depth zs
  have h2 : PyData.depth (.list (zs.map qD)) ≤ 64 := by
    simp only [PyData.depth]
    omega
  show (PyData.canLay0 (.list (zs.map qD)) && decide (PyData.depth (.list (zs.map qD)) ≤ 64)) = true
  rw [Bool.and_eq_true]
  exact ⟨by simp only [PyData.canLay0]; exact qDs_lay zs, decide_eq_true h2⟩
theorem qD_eqv (z q : Int × Int) : PyData.eqv (qD z) (qD q) = decide (z = q) := by
  have e : PyData.eqv (qD z) (qD q) = ((z.1 == q.1) && ((z.2 == q.2) && true)) := by simp only [qD, PyData.eqv, PyData.eqvAll]
  rw [e, Bool.and_true, Bool.eq_iff_iff, Bool.and_eq_true, beq_iff_eq, beq_iff_eq, decide_eq_true_iff]
  exact ⟨fun h => Prod.ext h.1 h.2, fun h => by rw [h]; exact ⟨rfl, rfl⟩⟩
theorem any_qD (q : Int × Int) (zs : List (Int × Int)) : ((zs.map qD).any fun z => PyData.eqv z (qD q)) = decide (q ∈ zs) := by
  rw [List.any_map, Bool.eq_iff_iff, List.any_eq_true, decide_eq_true_iff]
  constructor
  · rintro ⟨z, hz, e⟩
    have e' : PyData.eqv (qD z) (qD q) = true := e
    rw [qD_eqv, decide_eq_true_iff] at e'
    exact e' ▸ hz
  · intro h
    refine ⟨q, h, ?_⟩
    show PyData.eqv (qD q) (qD q) = true
    rw [qD_eqv]
    exact decide_eq_true rfl
/-! ### the next number that is not among them -/
def over (zs : List (Int × Int)) (q : Int × Int) : Nat := (zs.filter fun z => decide (z.2 = q.2) && decide (q.1 ≤ z.1)).length
theorem filter_lt {α : Type} {f g : α → Bool} (h : ∀ x, f x = true → g x = true) : ∀ {l : List α} {x : α}, x ∈ l → g x = true → f x = false → (l.filter f).length < (l.filter g).length
  | [], x, hx, _, _ => absurd hx (by simp)
  | a :: l, x, hx, h1, h2 => by
    have le : ∀ l : List α, (l.filter f).length ≤ (l.filter g).length := by
      intro l
      induction l with
      | nil => exact Nat.le_refl _
      | cons b l ih =>
        rw [List.filter_cons, List.filter_cons]
        cases e : f b with
        | true =>
          rw [if_pos rfl, if_pos (h b e), List.length_cons, List.length_cons]
          omega
        | false =>
          rw [if_neg Bool.false_ne_true]
          split
          · rw [List.length_cons]; omega
          · exact ih
    rcases List.mem_cons.mp hx with z | z
    · rw [← z, List.filter_cons, List.filter_cons, h2, if_neg Bool.false_ne_true, h1, if_pos rfl, List.length_cons]
      have := le l
      omega
    · have ih := filter_lt h z h1 h2
      rw [List.filter_cons, List.filter_cons]
      cases e : f a with
      | true =>
        rw [if_pos rfl, if_pos (h a e), List.length_cons, List.length_cons]
        omega
      | false =>
        rw [if_neg Bool.false_ne_true]
        split
        · rw [List.length_cons]; omega
        · exact ih
theorem over_next {zs : List (Int × Int)} {q : Int × Int} (hq : q ∈ zs) (hb : 0 < q.2) : over zs (q.1 + q.2, q.2) < over zs q := by
  unfold over
  refine filter_lt (fun x hx => ?_) hq (by simp) (by simp; omega)
  simp only [Bool.and_eq_true, decide_eq_true_eq] at hx ⊢
  exact ⟨hx.1, by omega⟩
theorem over_le (zs : List (Int × Int)) (q : Int × Int) : over zs q ≤ zs.length := List.length_filter_le ..
theorem lowQ_self {q : Int × Int} (h : lowB q = true) : lowQ q.1 q.2 = q := by
  unfold lowB at h
  rw [Bool.and_eq_true, decide_eq_true_iff, decide_eq_true_iff] at h
  unfold lowQ
  rw [h.2]
  exact Prod.ext (Int.ediv_one _) (Int.ediv_one _)
theorem low_next {q : Int × Int} (h : lowB q = true) : lowQ (q.1 * 1 + 1 * q.2) (q.2 * 1) = (q.1 + q.2, q.2) ∧ lowB (q.1 + q.2, q.2) = true := by
  have h' := h
  unfold lowB at h'
  rw [Bool.and_eq_true, decide_eq_true_iff, decide_eq_true_iff] at h'
  have e : Int.gcd (q.1 + q.2) q.2 = 1 := by rw [Int.gcd_add_self_left]; exact h'.2
  have l : lowB (q.1 + q.2, q.2) = true := by
    unfold lowB
    rw [Bool.and_eq_true, decide_eq_true_iff, decide_eq_true_iff]
    exact ⟨h'.1, e⟩
  rw [Int.mul_one, Int.one_mul, Int.mul_one]
  exact ⟨lowQ_self l, l⟩
section
variable {L : Bool} {P : Program} {w : World} {K : PySem.W.Frag} {mg : Str → Option Value} {base : Heap} {A : Ads}
theorem low_of {t b : Int} (hb : 0 < b) : lowB (lowQ t b) = true := by
  have h := lowQ_low (t := t) hb
  unfold lowB
  rw [decide_eq_true h.1, decide_eq_true h.2]
  rfl
theorem small_of {q : Int × Int} (h1 : q.1.natAbs ≤ 999999) (h2 : q.2.natAbs ≤ 999999) : smallB q = true := by
  unfold smallB
  rw [decide_eq_true (by omega), decide_eq_true (by omega)]
  rfl
/-- a small number in lowest terms -/
def Nice (q : Int × Int) : Prop := lowB q = true ∧ smallB q = true
theorem nice_of {t b : Int} (hb : 0 < b) (h1 : t.natAbs ≤ 999999) (h2 : b ≤ 999999) : Nice (lowQ t b) := by
  have h := lowQ_le (t := t) hb
  exact ⟨low_of hb, small_of (Nat.le_trans h.1 h1) (Nat.le_trans h.2 (by omega))⟩
theorem sc__law_little : FnScope ["_law_pen_here", "_law_way"] ["_law_pen_here"] (defScope (top 121)) := ⟨rfl, rfl, rfl, by decide +kernel, rfl, by decide +kernel, by decide +kernel⟩
def spLittle (K : PySem.W.Frag) : Sp := fun vs H Q _ => ∃ a : Addr, vs = [.ref a] ∧ PenAt H a ∧ ∀ p q H', Keep a H H' → PenAt H' a → SqT K H' p [.int q.1, .int q.2] → Nice q → Q (.ref p) H'
theorem PenAt.same {H H' : Hp} {a : Addr} (h : PenAt H a) (s : Same H H') : PenAt H' a := by
  obtain ⟨x, y, z, e⟩ := h
  exact ⟨x, y, z, s _ _ e⟩
theorem lt1000' {b : Int} (h : b ≤ 999999) : b < 2 ^ 1000 := by
  have h2 : ((2 ^ 1000 : Nat) : Int) = (2 : Int) ^ 1000 := by rw [Int.natCast_pow]; rfl
  have h3 : 1000000 ≤ 2 ^ 1000 := by decide
  rw [← h2]
  omega
theorem ok__law_little (T : Txt w K mg A) : FnG L P w K mg base 2 "_law_little" ["_law_pen_here"] (spLittle K) := by
  have G__law_draw := ok__law_draw (L := L) (P := P) (base := base) T
  have G__law_lowest := ok__law_lowest (L := L) (P := P) (base := base) T
  refine okG T.d__law_little sc__law_little (fun vs H Q E h => ?_) (fun _ _ _ _ _ _ us hl => match us, hl with | [_], _ => rfl) (fun f cdv A₁ outer s H vs Q E hr h => ?_)
  · obtain ⟨a, rfl, _⟩ := h
    rfl
  · obtain ⟨a, rfl, hp, k⟩ := h
    refine ⟨_, (pss_cons (ps_set (i := 1) sc__law_little.nd rfl (Or.inl rfl) (pe_c G__law_draw hr (fun σ => passNo σ) (pa_cons (pv 0) (pa_cons pe_int pa_nil))))
      (pss_cons (ps_if (pt_cmpR op_lt (pv 1) pe_int (nomark _)) (pss_one (ps_ret (pe_c G__law_lowest hr (fun σ => passNo σ) (pa_cons (pe_op op_sub (pe_c G__law_draw hr (fun σ => passNo σ) (pa_cons (pv 0) (pa_cons pe_int pa_nil))) pe_int) (pa_cons (pe_op op_add pe_int (pe_c G__law_draw hr (fun σ => passNo σ) (pa_cons (pv 0) (pa_cons (pe_ix ix_list (pe_lst (pa_cons pe_int (pa_cons pe_int (pa_cons pe_int pa_nil)))) (pv 1) (fun _ _ => rfl)) pa_nil)))) pa_nil))))) pss_nil)
      (pss_one (ps_ret (pe_c G__law_lowest hr (fun σ => passNo σ) (pa_cons (pe_op op_sub (pe_c G__law_draw hr (fun σ => passNo σ) (pa_cons (pv 0) (pa_cons pe_int pa_nil))) pe_int) (pa_cons (pe_op op_add pe_int (pe_c G__law_draw hr (fun σ => passNo σ) (pa_cons (pv 0) (pa_cons pe_int pa_nil)))) pa_nil))))))), ?_⟩
    refine ⟨_, rfl, a, 4, rfl, hp, by decide, by decide, fun n H1 n0 n4 k1 p1 => ?_⟩
    refine ⟨_, rfl, _, _, rfl, rfl, _, rfl, ite2 (fun c => ?_) (fun c => ?_)⟩
    · have c' : n < 3 := by simpa using c
      refine ⟨_, rfl, a, 21, rfl, p1, by decide, by decide, fun t H2 t0 t21 k2 p2 => ?_⟩
      refine ⟨_, _, rfl, rfl, ?_⟩
      refine ⟨_, rfl, (by show 3 ≤ sizeLine; decide), fun l hl => ?_⟩
      obtain ⟨m, hm, hm0, hm6⟩ : ∃ m : Int, atI [V.int 1, V.int 1, V.int 6] n = some (.int m) ∧ 0 < m ∧ m ≤ 6 := by
        have : n = 0 ∨ n = 1 ∨ n = 2 := by omega
        rcases this with e | e | e <;> subst e
        · exact ⟨1, rfl, by decide, by decide⟩
        · exact ⟨1, rfl, by decide, by decide⟩
        · exact ⟨6, rfl, by decide, by decide⟩
      refine ⟨_, rfl, l, _, n, .int m, rfl, rfl, SqL.of upd_same, hm, ?_⟩
      have s3 : Same H2 (upd H2 l (.lst [.int 1, .int 1, .int 6])) := Same.new hl
      refine ⟨a, m, rfl, p2.same s3, hm0, by omega, fun u H3 u0 u6 k3 p3 => ?_⟩
      refine ⟨_, _, rfl, rfl, t - 10, 1 + u, rfl, by omega, lt1000' (by omega), fun p H4 s4 hq => ?_⟩
      exact k p _ H4 (((k1.trans k2).trans ((Keep.of s3).trans k3)).trans (Keep.of s4)) (p3.same s4) hq (nice_of (by omega) (by omega) (by omega))
    · refine ⟨_, rfl, a, 1999999, rfl, p1, by decide, by decide, fun t H2 t0 t21 k2 p2 => ?_⟩
      refine ⟨_, _, rfl, rfl, ?_⟩
      refine ⟨_, rfl, a, 999, rfl, p2, by decide, by decide, fun u H3 u0 u6 k3 p3 => ?_⟩
      refine ⟨_, _, rfl, rfl, t - 999999, 1 + u, rfl, by omega, lt1000' (by omega), fun p H4 s4 hq => ?_⟩
      exact k p _ H4 (((k1.trans k2).trans k3).trans (Keep.of s4)) (p3.same s4) hq (nice_of (by omega) (by omega) (by omega))
theorem sc__law_fresh : FnScope ["_law_pen_here", "_law_places", "_law_x"] ["_law_pen_here", "_law_places"] (defScope (top 122)) := ⟨rfl, rfl, rfl, by decide +kernel, rfl, by decide +kernel, by decide +kernel⟩
def spFresh (K : PySem.W.Frag) : Sp := fun vs H Q _ => ∃ (a l : Addr) (us : List V) (zs : List (Int × Int)), vs = [.ref a, .ref l] ∧ PenAt H a ∧ l ≠ a ∧ H l = some (.lst us) ∧ AllV (NumV K H) us zs ∧ zs.length ≤ 20 ∧
  ∀ p q H', Keep a H H' → PenAt H' a → SqT K H' p [.int q.1, .int q.2] → Nice q → q ∉ zs → Q (.ref p) H'
theorem ok__law_fresh (T : Txt w K mg A) : FnG L P w K mg base 3 "_law_fresh" ["_law_pen_here", "_law_places"] (spFresh K) := by
  have G__law_draw := ok__law_draw (L := L) (P := P) (base := base) T
  have G__law_lowest := ok__law_lowest (L := L) (P := P) (base := base) T
  have G__law_plus := ok__law_plus (L := L) (P := P) (base := base) T
  refine okG T.d__law_fresh sc__law_fresh (fun vs H Q E h => ?_) (fun _ _ _ _ _ _ us hl => match us, hl with | [_, _], _ => rfl) (fun f cdv A₁ outer s H vs Q E hr h => ?_)
  · obtain ⟨a, l, us, zs, rfl, _⟩ := h
    rfl
  · obtain ⟨a, l, us, zs, rfl, hp, hla, hl, hus, hz, k⟩ := h
    refine ⟨_, (pss_cons (ps_set (i := 2) sc__law_fresh.nd rfl (Or.inl rfl) (pe_c G__law_lowest hr (fun σ => passNo σ) (pa_cons (pe_op op_sub (pe_c G__law_draw hr (fun σ => passNo σ) (pa_cons (pv 0) (pa_cons pe_int pa_nil))) pe_int) (pa_cons (pe_op op_add pe_int (pe_c G__law_draw hr (fun σ => passNo σ) (pa_cons (pv 0) (pa_cons pe_int pa_nil)))) pa_nil))))
      (pss_cons (ps_while (L2.passes_of rfl) (pt_cmpR (op_inD (hu65 hr)) (pv 2) (pv 1) (by rfl)) (pss_one (ps_set (i := 2) sc__law_fresh.nd rfl (Or.inl rfl) (pe_c G__law_plus hr (fun σ => passNo σ) (pa_cons (pv 2) (pa_cons (pe_tup (pa_cons pe_int (pa_cons pe_int pa_nil))) pa_nil))))))
      (pss_one (ps_ret (pv 2))))), ?_⟩
    refine ⟨_, rfl, a, 41, rfl, hp, by decide, by decide, fun t H1 t0 t41 k1 p1 => ?_⟩
    refine ⟨_, _, rfl, rfl, ?_⟩
    refine ⟨_, rfl, a, 3, rfl, p1, by decide, by decide, fun u H2 u0 u3 k2 p2 => ?_⟩
    refine ⟨_, _, rfl, rfl, t - 20, 1 + u, rfl, by omega, lt1000' (by omega), fun p H3 s3 hq => ?_⟩
    have k3 : Keep a H H3 := (k1.trans k2).trans (Keep.of s3)
    have p3 := p2.same s3
    have hle := lowQ_le (t := t - 20) (b := 1 + u) (by omega)
    have hlow := low_of (t := t - 20) (b := 1 + u) (by omega)
    generalize lowQ (t - 20) (1 + u) = q0 at hq hle hlow
    obtain ⟨x, y, z, hpen⟩ := hp
    refine ⟨fun m σ H' => ∃ (p : Addr) (q : Int × Int) (j : Nat), σ = [some (.ref a), some (.ref l), some (.ref p)] ∧ Keep a H H' ∧ PenAt H' a ∧ SqT K H' p [.int q.1, .int q.2] ∧ lowB q = true ∧ q.2.natAbs ≤ 3 ∧ -20 ≤ q.1 ∧ q.1 ≤ 20 + 3 * j ∧ over zs q + j ≤ 20 ∧ m = over zs q,
      ⟨_, p, q0, 0, rfl, k3, p3, hq, hlow, by omega, by omega, by omega, by have := over_le zs q0; omega, rfl⟩, ?_⟩
    rintro m σ H' ⟨p, q, j, rfl, kk, pp, hq, hlow, hb3, hlo, hhi, hj, rfl⟩
    have hl' : H' l = some (.lst us) := kk _ _ hl hla
    refine ⟨_, rfl, _, rfl, qD q, zs.map qD, dp_num ⟨p, rfl, hq⟩, .lst (SqL.of hl') (dp_nums (hus.imp fun v x h => h.keep kk hpen)), qD_shaped q, qDs_shaped zs, _, rfl, ?_⟩
    rw [any_qD]
    have hb0 : 0 < q.2 := by
      unfold lowB at hlow
      rw [Bool.and_eq_true, decide_eq_true_iff] at hlow
      exact hlow.1
    by_cases c : q ∈ zs
    · rw [decide_eq_true c]
      have hov := over_next c hb0
      have hnx := low_next hlow
      refine iteT ⟨fun σ' H'' => ∃ (p : Addr) (q' : Int × Int) (j : Nat), σ' = [some (.ref a), some (.ref l), some (.ref p)] ∧ Keep a H H'' ∧ PenAt H'' a ∧ SqT K H'' p [.int q'.1, .int q'.2] ∧ lowB q' = true ∧ q'.2.natAbs ≤ 3 ∧ -20 ≤ q'.1 ∧ q'.1 ≤ 20 + 3 * j ∧ over zs q' + j ≤ 20 ∧ over zs q' < over zs q,
        fun σ' H'' ⟨p, q', j, h1, h2, h3, h4, h5, h6, h7, h8, h9, h10⟩ => ⟨_, h10, p, q', j, h1, h2, h3, h4, h5, h6, h7, h8, h9, rfl⟩, ?_⟩
      refine ⟨_, rfl, (by show 2 ≤ sizeLine; decide), fun o ho => ?_⟩
      have s4 : Same H' (upd H' o (.tup [.int 1, .int 1])) := Same.new ho
      refine ⟨.ref p, .ref o, q, (1, 1), rfl, ⟨p, rfl, Same.tup s4 hq⟩, ⟨o, rfl, SqT.of upd_same⟩, by omega, by decide, by omega, by show 0 < q.2 * 1; omega, by show q.2 * 1 < 2 ^ 1000; exact lt1000' (by omega), fun p5 H5 s5 h5 => ?_⟩
      have h5' : SqT K H5 p5 [.int (q.1 + q.2), .int q.2] := by
        have e := hnx.1
        rw [e] at h5
        exact h5
      exact ⟨p5, (q.1 + q.2, q.2), j + 1, rfl, (kk.trans (Keep.of s4)).trans (Keep.of s5), (pp.same s4).same s5, h5', hnx.2, hb3, by show -20 ≤ q.1 + q.2; omega, by show q.1 + q.2 ≤ 20 + 3 * ((j + 1 : Nat) : Int); omega, by omega, hov⟩
    · rw [decide_eq_false c]
      refine iteF ⟨_, rfl, k p q H' kk pp hq ⟨hlow, small_of (by omega) (by omega)⟩ c⟩
theorem sc__law_desk_points : FnScope ["_law_pen_here", "_law_most", "_law_room", "_law_found", "_law_point", "_law_one"] ["_law_pen_here", "_law_most"] (defScope (top 123)) := ⟨rfl, rfl, rfl, by decide +kernel, rfl, by decide +kernel, by decide +kernel⟩
/-- points that make a desk -/
structure GoodPts (ps : List (List (Int × Int))) : Prop where
  pos : 0 < ps.length
  few : ps.length ≤ 6
  told : told ps ≤ 6
  ok : ∀ p ∈ ps, OkPt p
  nice : ∀ p ∈ ps, ∀ q ∈ p, Nice q
  nd : (places ps).Nodup
def spDeskPts (K : PySem.W.Frag) : Sp := fun vs H Q _ => ∃ a : Addr, vs = [.ref a, .int 6] ∧ PenAt H a ∧ ∀ t ps H', Keep a H H' → PenAt H' a → PtsT K H' t ps → GoodPts ps → Q (.ref t) H'
theorem told_snoc (ps : List (List (Int × Int))) (p : List (Int × Int)) : told (ps ++ [p]) = told ps + ((p.length : Int) - 1) := by
  unfold told
  rw [List.map_append, List.sum_append]
  simp
theorem PtV.but {K : PySem.W.Frag} {H H' : Hp} {v : V} {p : List (Int × Int)} {a b : Addr} {xs ys : List V} (h : PtV K H v p) (e : ∀ c o, H c = some o → c ≠ a → c ≠ b → H' c = some o) (ha : H a = some (.lst xs)) (hb : H b = some (.lst ys)) : PtV K H' v p := by
  have t : ∀ {c : Addr} {zs : List V}, SqT K H c zs → SqT K H' c zs := fun {c zs} h => by
    rcases h with (h | ⟨o, h⟩) | h
    · exact .inl (.inl (e _ _ h (ne_of h ha (by intro z; cases z)) (ne_of h hb (by intro z; cases z))))
    · exact .inl (.inr ⟨o, e _ _ h (ne_of h ha (by intro z; cases z)) (ne_of h hb (by intro z; cases z))⟩)
    · exact .inr h
  obtain ⟨c, us, rfl, s, n⟩ := h
  exact ⟨c, us, rfl, t s, n.imp fun v x ⟨d, e1, e2⟩ => ⟨d, e1, t e2⟩⟩
theorem ok__law_desk_points (T : Txt w K mg A) : FnG L P w K mg base 4 "_law_desk_points" ["_law_pen_here", "_law_most"] (spDeskPts K) := by
  have G__law_draw := ok__law_draw (L := L) (P := P) (base := base) T
  have G__law_fresh := ok__law_fresh (L := L) (P := P) (base := base) T
  have G__law_little := ok__law_little (L := L) (P := P) (base := base) T
  refine okG T.d__law_desk_points sc__law_desk_points (fun vs H Q E h => ?_) (fun _ _ _ _ _ _ us hl => match us, hl with | [_, _], _ => rfl) (fun f cdv A₁ outer s H vs Q E hr h => ?_)
  · obtain ⟨a, rfl, _⟩ := h
    rfl
  · obtain ⟨a, rfl, hp, k⟩ := h
    refine ⟨_, (pss_cons (ps_set (i := 2) sc__law_desk_points.nd rfl (Or.inl rfl) (pe_op op_add pe_int (pe_c G__law_draw hr (fun σ => passNo σ) (pa_cons (pv 0) (pa_cons (pv 1) pa_nil)))))
      (pss_cons (ps_set (i := 3) sc__law_desk_points.nd rfl (Or.inl rfl) (pe_lst pa_nil))
      (pss_cons (ps_while (L2.passes_of rfl) (pt_cmpR op_gt (pv 2) pe_int (nomark _)) (pss_cons (ps_set (i := 4) sc__law_desk_points.nd rfl (Or.inl rfl) (pe_tup (pa_cons (pe_c G__law_fresh hr (fun σ => passNo σ) (pa_cons (pv 0) (pa_cons (pe_lc (own := [("_law_one", 5)]) (by rfl) sc__law_desk_points.nd (pi_list (pv 3)) (blkOk_by (own := [("_law_one", 5)]) (N := ["_law_pen_here", "_law_most", "_law_room", "_law_found", "_law_point", "_law_one"]) (sc := defScope (top 123)) (by decide +kernel)) (fun _ _ _ _ _ => (pg_name (i := 5) sc__law_desk_points.nd rfl (Or.inl rfl))) (fun _ _ _ _ _ => pts_nil) (fun _ _ _ _ _ => (pe_ix (ix_tupK (K := K) rfl) (pv 5) pe_int (fun _ _ => rfl)))) pa_nil))) (pa_cons (pe_c G__law_little hr (fun σ => passNo σ) (pa_cons (pv 0) pa_nil)) pa_nil))))
      (pss_cut (ps_if (PW.pt (pw_and (pt_cmpR op_gt (pv 2) pe_int (nomark _)) (pw_and1 (pt_cmpR op_eq (pe_c G__law_draw hr (fun σ => passNo σ) (pa_cons (pv 0) (pa_cons pe_int pa_nil))) pe_int (nomark _))))) (pss_one (ps_set (i := 4) sc__law_desk_points.nd rfl (Or.inl rfl) (pe_op op_catT (pv 4) (pe_tup (pa_cons (pe_c G__law_little hr (fun σ => passNo σ) (pa_cons (pv 0) pa_nil)) pa_nil))))) pss_nil)
      (pss_cons (ps_set (i := 2) sc__law_desk_points.nd rfl (Or.inl rfl) (pe_op op_add (pe_op op_sub (pv 2) (pe_callB call_len_seq rfl T.z_len b_len (pa_cons (pv 4) pa_nil))) pe_int))
      (pss_one (ps_expr (pe_bm PySem.F.plainAttrs_list PySem.F.slot_list_append PySem.F.type_list_append mt_append (pv 3) (pa_cons (pv 4) pa_nil))))))))
      (pss_one (ps_ret (pe_callTy call_tuple_of rfl T.z_tuple b_tuple (pa_cons (pv 3) pa_nil))))))), ?_⟩
    refine ⟨_, rfl, _, rfl, a, 6, rfl, hp, by decide, by decide, fun m0 H1 m00 m06 k1 p1 => ?_⟩
    refine ⟨_, _, rfl, rfl, ?_⟩
    refine ⟨Nat.zero_le _, fun F hF => ?_⟩
    have hFa : F ≠ a := fun e => by
      obtain ⟨x, y, z, e1⟩ := p1
      rw [e, e1] at hF
      cases hF
    have hHF : H F = none := by
      cases q : H F with
      | none => rfl
      | some o =>
        rw [k1 F o q hFa] at hF
        cases hF
    refine ⟨fun m σ H' => ∃ (room : Int) (acc : List V) (ps : List (List (Int × Int))) (x : Option V), σ = [some (.ref a), some (.int 6), some (.int room), some (.ref F), x, none] ∧ Keep a H H' ∧ PenAt H' a ∧ H' F = some (.lst acc) ∧ AllV (PtV K H') acc ps ∧
      0 ≤ room ∧ told ps + room = 1 + m0 ∧ (∀ p ∈ ps, OkPt p) ∧ (∀ p ∈ ps, ∀ q ∈ p, Nice q) ∧ (places ps).Nodup ∧ (ps.length : Int) ≤ told ps ∧ m = room.toNat,
      ⟨_, 1 + m0, [], [], none, rfl, k1.trans (fun b o e n => by rw [upd_ne (ne_of_none e hF)]; exact e), ?_, upd_same, .nil, by omega, by show told [] + (1 + m0) = 1 + m0; rw [show told [] = 0 from rfl]; omega, fun p h => absurd h (by simp), fun p h => absurd h (by simp), List.nodup_nil, by show ((0 : Nat) : Int) ≤ told []; rw [show told [] = 0 from rfl]; omega, rfl⟩, ?_⟩
    · obtain ⟨x, y, z, e⟩ := p1
      exact ⟨x, y, z, by rw [upd_ne hFa.symm]; exact e⟩
    rintro m σ H' ⟨room, acc, ps, x0, rfl, kk, pp, hfa, hacc, hr0, hrm, hok, hnice, hnd, hlen, rfl⟩
    refine ⟨_, rfl, _, _, rfl, rfl, _, rfl, ite2 (fun c => ?_) (fun c => ?_)⟩
    rotate_left
    · -- the end
      have hr : room = 0 := by
        have : ¬ (0 : Int) < room := by simpa using c
        omega
      have hpos : 0 < ps.length := by
        cases ps with
        | nil =>
          rw [show told [] = 0 from rfl] at hrm
          omega
        | cons p ps => simp
      refine ⟨_, rfl, F, acc, rfl, .inl ⟨SqL.of hfa, fun t ht => ?_⟩⟩
      have s4 : Same H' (upd H' t (.tup acc)) := Same.new ht
      exact k t ps _ (kk.trans (Keep.of s4)) (pp.same s4) ⟨acc, SqT.of upd_same, hacc.imp fun v x h => h.same s4⟩ ⟨hpos, by omega, by omega, hok, hnice, hnd⟩
    have hroom : 0 < room := by simpa using c
    refine ⟨fun σ' H'' => ∃ (room' : Int) (acc : List V) (ps : List (List (Int × Int))) (x : Option V), σ' = [some (.ref a), some (.int 6), some (.int room'), some (.ref F), x, none] ∧ Keep a H H'' ∧ PenAt H'' a ∧ H'' F = some (.lst acc) ∧ AllV (PtV K H'') acc ps ∧
      0 ≤ room' ∧ told ps + room' = 1 + m0 ∧ (∀ p ∈ ps, OkPt p) ∧ (∀ p ∈ ps, ∀ q ∈ p, Nice q) ∧ (places ps).Nodup ∧ (ps.length : Int) ≤ told ps ∧ room' < room,
      fun σ' H'' ⟨room', acc, ps, x, h1, h2, h3, h4, h5, h6, h7, h8, h9, h10, h11, h12⟩ => ⟨room'.toNat, by omega, room', acc, ps, x, h1, h2, h3, h4, h5, h6, h7, h8, h9, h10, h11, rfl⟩, ?_⟩
    have hlen6 : ps.length ≤ 6 := by omega
    refine ⟨_, rfl, _, rfl, F, rfl, ⟨_, SqL.of hfa⟩, fun D hD => ?_⟩
    refine lc_list_n (fun i y H'' => ∃ p, ps[i]? = some p ∧ NumV K H'' y (p.headD (0, 0))) (SqL.of hfa) hD (short (by have := hacc.1; omega)) (fun _ => rfl) (fun j y H2 H3 ys ⟨p, e1, e2⟩ hd kp => ⟨p, e1, e2.keep kp hd⟩) (fun i u H'' hu s Qk hk => ?_) fun H3 acc2 s hacc2 hl2 hall => ?_
    · obtain ⟨p, hp1, b, us, rfl, hb, hn⟩ := hacc.get hu
      have h2 := (hok p (List.mem_of_getElem? hp1)).1
      cases p with
      | nil => rcases h2 with h2 | h2 <;> cases h2
      | cons q p =>
        cases us with
        | nil => exact absurd hn.1 (by simp)
        | cons u us =>
          refine ⟨_, rfl, b, _, _, u, rfl, rfl, Same.tup s hb, atI_nat (j := 0) rfl, ?_⟩
          exact hk _ _ (Same.refl _) ⟨q :: p, hp1, (hn.2 0 u q rfl rfl).same s⟩
    have hDa : D ≠ a := fun e => by
      obtain ⟨x, y, z, e1⟩ := pp
      rw [e, e1] at hD
      cases hD
    have hpl : AllV (NumV K H3) acc2 (places ps) := by
      refine ⟨by unfold places; rw [List.length_map, hl2, hacc.1], fun i v x hv hx => ?_⟩
      obtain ⟨p, e1, e2⟩ := hall i v hv
      unfold places at hx
      rw [List.getElem?_map, e1] at hx
      cases hx
      exact e2
    refine ⟨a, D, acc2, places ps, rfl, pp.same s, hDa, hacc2, hpl, by unfold places; rw [List.length_map]; omega, fun p1' q1 H4 k4 pp4 hq1 hn1 hnew => ?_⟩
    refine ⟨_, rfl, a, rfl, pp4, fun p2 q2 H5 k5 pp5 hq2 hn2 => ?_⟩
    refine ⟨(by show 2 ≤ sizeLine; decide), fun pt hpt => ?_⟩
    have pp3 := pp.same s
    obtain ⟨x3, y3, z3, hpen3⟩ := pp3
    obtain ⟨x4, y4, z4, hpen4⟩ := pp4
    have s6 : Same H5 (upd H5 pt (.tup [.ref p1', .ref p2])) := Same.new hpt
    have hptv : PtV K (upd H5 pt (.tup [.ref p1', .ref p2])) (.ref pt) [q1, q2] := ⟨pt, _, rfl, SqT.of upd_same, .cons ⟨p1', rfl, Same.tup s6 (k5.tup hpen4 hq1)⟩ (.cons ⟨p2, rfl, Same.tup s6 hq2⟩ .nil)⟩
    have k6 : Keep a H' (upd H5 pt (.tup [.ref p1', .ref p2])) := (((Keep.of s).trans k4).trans k5).trans (Keep.of s6)
    have pp6 := pp5.same s6
    generalize upd H5 pt (.tup [.ref p1', .ref p2]) = H6 at s6 hptv k6 pp6 ⊢
    refine ⟨fun σ' H7 => ∃ (pt : Addr) (p : List (Int × Int)), σ' = [some (.ref a), some (.int 6), some (.int room), some (.ref F), some (.ref pt), none] ∧ Keep a H' H7 ∧ PenAt H7 a ∧ PtV K H7 (.ref pt) p ∧ OkPt p ∧ (∀ q ∈ p, Nice q) ∧ p.headD (0, 0) = q1 ∧ (p.length : Int) - 1 ≤ room, ?_, ?_⟩
    · have one : ∀ H7, Keep a H' H7 → PenAt H7 a → PtV K H7 (.ref pt) [q1, q2] → ∃ (pt' : Addr) (p : List (Int × Int)), [some (V.ref a), some (V.int 6), some (V.int room), some (V.ref F), some (V.ref pt), none] = [some (.ref a), some (.int 6), some (.int room), some (.ref F), some (.ref pt'), none] ∧ Keep a H' H7 ∧ PenAt H7 a ∧ PtV K H7 (.ref pt') p ∧ OkPt p ∧ (∀ q ∈ p, Nice q) ∧ p.headD (0, 0) = q1 ∧ (p.length : Int) - 1 ≤ room := fun H7 h1 h2 h3 =>
        ⟨pt, [q1, q2], rfl, h1, h2, h3, ⟨.inl rfl, fun q hq => by
          rcases List.mem_cons.mp hq with e | e
          · rw [e]; exact hn1.1
          · rw [List.mem_singleton.mp e]; exact hn2.1⟩, fun q hq => by
          rcases List.mem_cons.mp hq with e | e
          · rw [e]; exact hn1
          · rw [List.mem_singleton.mp e]; exact hn2, rfl, by show ((2 : Nat) : Int) - 1 ≤ room; omega⟩
      refine ⟨_, rfl, _, _, rfl, rfl, _, rfl, ite2 (fun c2 => ?_) (fun c2 => ?_)⟩
      · have c2' : 1 < room := by simpa using c2
        refine ⟨_, rfl, a, 4, rfl, pp6, by decide, by decide, fun n H7 n0 n4 k7 pp7 => ?_⟩
        obtain ⟨x6, y6, z6, hpen6⟩ := pp6
        have hptv7 := hptv.keep k7 hpen6
        refine ⟨rfl, _, rfl, iteB (fun _ => ?_) (fun _ => ?_)⟩
        · refine ⟨_, rfl, _, rfl, a, rfl, pp7, fun p3 q3 H8 k8 pp8 hq3 hn3 => ?_⟩
          obtain ⟨x7, y7, z7, hpen7⟩ := pp7
          have hptv8 := hptv7.keep k8 hpen7
          refine ⟨(by show 1 ≤ sizeLine; decide), fun o ho => ?_⟩
          have s9 : Same H8 (upd H8 o (.tup [.ref p3])) := Same.new ho
          obtain ⟨pt', us, e, hSp, hNs⟩ := hptv8
          cases e
          have hus2 : us.length = 2 := hNs.1
          refine ⟨pt, o, us, [.ref p3], rfl, rfl, Same.tup s9 hSp, SqT.of upd_same, (fun z => by rw [z] at hus2; exact absurd hus2 (by decide)), (by rw [hus2]; show 2 + 1 ≤ sizeLine; decide), (fun z => nomatch z), fun _ pt2 hpt2 => ?_⟩
          have s10 : Same (upd H8 o (.tup [.ref p3])) (upd (upd H8 o (.tup [.ref p3])) pt2 (.tup (us ++ [.ref p3]))) := Same.new hpt2
          have s11 := s9.trans s10
          refine ⟨pt2, [q1, q2, q3], rfl, ((k6.trans k7).trans k8).trans (Keep.of s11), pp8.same s11, ⟨pt2, _, rfl, SqT.of upd_same, (hNs.imp fun v x h => h.same s11).snoc ⟨p3, rfl, Same.tup s11 hq3⟩⟩, ⟨.inr rfl, fun q hq => ?_⟩, fun q hq => ?_, rfl, by show ((3 : Nat) : Int) - 1 ≤ room; omega⟩
          · simp only [List.mem_cons, List.not_mem_nil, or_false] at hq
            rcases hq with e | e | e <;> rw [e]
            · exact hn1.1
            · exact hn2.1
            · exact hn3.1
          · simp only [List.mem_cons, List.not_mem_nil, or_false] at hq
            rcases hq with e | e | e <;> rw [e]
            · exact hn1
            · exact hn2
            · exact hn3
        · exact one H7 (k6.trans k7) pp7 hptv7
      · exact iteF (one H6 k6 pp6 hptv)
    rintro σ' H7 ⟨pt, p, rfl, k7, pp7, hpv, hokp, hnp, hhd, hrl⟩
    obtain ⟨b, us, e, hb, hbn⟩ := hpv
    cases e
    have hfa7 := k7 _ _ hfa hFa
    refine ⟨_, rfl, _, rfl, pt, us, rfl, .inr hb, _, _, rfl, rfl, _, _, rfl, rfl, ?_⟩
    refine ⟨_, rfl, .inl ⟨rfl, _, SqL.of hfa7⟩, _, rfl, F, _, _, rfl, rfl, hfa7, Nat.lt_of_le_of_lt (show acc.length ≤ 6 by have := hacc.1; omega) (by decide), ?_⟩
    obtain ⟨x1, y1, z1, hpen1⟩ := pp
    obtain ⟨x7, y7, z7, hpen7⟩ := pp7
    have hl : us.length = p.length := hbn.1
    have h23 := hokp.1
    have kF : Keep F H7 (upd H7 F (.lst (acc ++ [.ref pt]))) := Keep.upd
    refine ⟨_, acc ++ [.ref pt], ps ++ [p], _, rfl, fun b o e n => ?_, ⟨x7, y7, z7, by rw [upd_ne hFa.symm]; exact hpen7⟩, upd_same, (hacc.imp fun v x h => (h.keep k7 hpen1).keep kF hfa7).snoc ⟨pt, us, rfl, kF.tup hfa7 hb, hbn.imp fun v x h => h.keep kF hfa7⟩, ?_, ?_, ?_, ?_, ?_, ?_, ?_⟩
    · rw [upd_ne (ne_of_none e hHF)]
      exact k7 _ _ (kk b o e n) n
    · show 0 ≤ room - (us.length : Int) + 1
      omega
    · show told (ps ++ [p]) + (room - (us.length : Int) + 1) = 1 + m0
      rw [told_snoc]
      omega
    · intro r hr
      rcases List.mem_append.mp hr with e | e
      · exact hok r e
      · rw [List.mem_singleton.mp e]; exact hokp
    · intro r hr
      rcases List.mem_append.mp hr with e | e
      · exact hnice r e
      · rw [List.mem_singleton.mp e]; exact hnp
    · have e : places (ps ++ [p]) = places ps ++ [q1] := by
        unfold places
        rw [List.map_append, List.map_cons, List.map_nil, hhd]
      rw [e, List.nodup_append]
      exact ⟨hnd, by simp, fun x hx y hy => by rw [List.mem_singleton.mp hy]; exact fun z => hnew (z ▸ hx)⟩
    · rw [told_snoc, List.length_append]
      show ((ps.length + 1 : Nat) : Int) ≤ _
      omega
    · show room - (us.length : Int) + 1 < room
      omega
end
end K3
/-! what a refusal is: the walk of _law_refusal -/
namespace K3
open PySem PySem.Spec PyProof.Rows L2 HotX Evl
/-- v is the pair (word, truth) -/
def PairV (K : PySem.W.Frag) (H : Hp) (v : V) (p : Str × Bool) : Prop := ∃ a, v = .ref a ∧ SqT K H a [.str p.1, .bl p.2]
theorem PairV.same {K : PySem.W.Frag} {H H' : Hp} {v : V} {p : Str × Bool} (h : PairV K H v p) (s : Same H H') : PairV K H' v p := by
  obtain ⟨a, e, h⟩ := h
  exact ⟨a, e, Same.tup s h⟩
theorem AllV.append {α : Type} {R : V → α → Prop} : ∀ {vs us : List V} {xs ys : List α}, AllV R vs xs → AllV R us ys → AllV R (vs ++ us) (xs ++ ys)
  | [], _, [], _, _, h => h
  | [], _, _ :: _, _, h, _ => nomatch h.1
  | _ :: _, _, [], _, h, _ => nomatch h.1
  | v :: vs, us, x :: xs, ys, h, k => .cons (h.2 0 v x rfl rfl) (AllV.append ⟨by simpa using h.1, fun i v x a b => h.2 (i + 1) v x a b⟩ k)
section
variable {K : PySem.W.Frag} {D a : Addr} {σ : L2.St} {H : Hp} {Q : VK} {b1 b2 : Bool} {w1 w2 : Str} {C1 C2 : Addr}
/-- [(w1, isinstance(e, C1)), (w2, isinstance(e, C2))] -/
def tPairs (K : PySem.W.Frag) (D a : Addr) (w1 w2 : Str) (C1 C2 : Addr) : TE :=
  tLst (tCons (tTup (tCons (tC (.str w1)) (tCons (tCB (rIsE K D a) (tCons (tVar 0) (tCons (tC (.ref C1)) tNil))) tNil))) (tCons (tTup (tCons (tC (.str w2)) (tCons (tCB (rIsE K D a) (tCons (tVar 0) (tCons (tC (.ref C2)) tNil))) tNil))) tNil))
theorem pairs_ok (h0 : σ[0]? = some (some (.ref a))) (e1 : PySem.W.kitOne K (.ref D) (.ref C1) = some b1) (e2 : PySem.W.kitOne K (.ref D) (.ref C2) = some b2)
    (k : ∀ p vs H', Same H H' → H' p = some (.lst vs) → AllV (PairV K H') vs [(w1, b1), (w2, b2)] → Q (.ref p) H') : tPairs K D a w1 w2 C1 C2 σ H Q := by
  refine ⟨_, h0, _, _, b1, rfl, fun u h => h, e1, (by show 2 ≤ sizeLine; decide), fun t1 ht1 => ?_⟩
  have s1 : Same H (upd H t1 (.tup [.str w1, .bl b1])) := Same.new ht1
  have h1 : SqT K (upd H t1 (.tup [.str w1, .bl b1])) t1 [.str w1, .bl b1] := SqT.of upd_same
  refine ⟨_, h0, _, _, b2, rfl, fun u h => h, e2, (by show 2 ≤ sizeLine; decide), fun t2 ht2 => ?_⟩
  have s2 := Same.new (o := .tup [.str w2, .bl b2]) ht2
  refine ⟨(by show 2 ≤ sizeLine; decide), fun l hl => ?_⟩
  have s3 := Same.new (o := .lst [.ref t1, .ref t2]) hl
  refine k l [.ref t1, .ref t2] _ (s1.trans (s2.trans s3)) upd_same (.cons ⟨t1, rfl, Same.tup (s2.trans s3) h1⟩ (.cons ⟨t2, rfl, Same.tup s3 (SqT.of upd_same)⟩ .nil))
/-- some = some + [..] -/
theorem more_ok {D0 : Ends} {u : TS} {p : Addr} {vs : List V} {ps : List (Str × Bool)} {x2 x3 x4 : Option V} (e1 : PySem.W.kitOne K (.ref D) (.ref C1) = some b1) (e2 : PySem.W.kitOne K (.ref D) (.ref C2) = some b2) (hp : H p = some (.lst vs)) (hv : AllV (PairV K H) vs ps) (hz : ps.length ≤ 100)
    (k : ∀ p vs H', Same H H' → H' p = some (.lst vs) → AllV (PairV K H') vs (ps ++ [(w1, b1), (w2, b2)]) → u D0 [some (.ref a), some (.ref p), x2, x3, x4] H') :
    tSeq (tAsg (tOp rCat (tVar 1) (tPairs K D a w1 w2 C1 C2)) (gName 1)) u D0 [some (.ref a), some (.ref p), x2, x3, x4] H := by
  refine ⟨_, rfl, pairs_ok rfl e1 e2 fun l us H1 s1 hl hus => ?_⟩
  have h1 := hv.1
  have h2 := hus.1
  refine ⟨p, l, _, _, rfl, rfl, s1 _ _ hp, hl, Nat.le_trans (show vs.length + us.length ≤ 102 by rw [h2, h1]; show ps.length + 2 ≤ 102; omega) (by decide), fun m hm => ?_⟩
  have s2 := Same.new (o := .lst (vs ++ us)) hm
  exact k m _ _ (s1.trans s2) upd_same ((hv.imp fun v x h => h.same (s1.trans s2)).append (hus.imp fun v x h => h.same s2))
end
section
variable {P : Program} {w : World} {K : PySem.W.Frag} {mg : Str → Option Value} {base : Heap} {A : Ads}
theorem sc__law_refusal : FnScope ["_law_caught_here", "_law_some", "_law_found", "_law_word", "_law_one"] ["_law_caught_here"] (defScope (top 124)) := ⟨rfl, rfl, rfl, by decide +kernel, rfl, by decide +kernel, by decide +kernel⟩
/-- the word of a refusal -/
def wordOf (m p t r : Bool) : String := if m then "many" else if p then "points" else if t then "text" else "row"
def oneOf (m p t r : Bool) : Bool := (m && !p && !t && !r) || (!m && p && !t && !r) || (!m && !p && t && !r) || (!m && !p && !t && r)
def spRefusal (K : PySem.W.Frag) (A : Ads) (q : Addr × Obj) : Sp := fun vs H Q _ => ∃ (D : Addr) (m p t r : Bool), vs = [.ref q.1] ∧ q.2.cls = .ref D ∧ q.2.dict = none ∧ Kind K A D m p t r ∧ oneOf m p t r = true ∧ ∀ H', Same H H' → Q (.str (Str.ofString (wordOf m p t r))) H'
theorem ok__law_refusal (T : Txt w K mg A) : FnHG P w K mg base 1 "_law_refusal" ["_law_caught_here"] (spRefusal K A) := by
  refine okH T.d__law_refusal sc__law_refusal (fun q vs H Q E h => ?_) (fun _ _ _ _ _ _ us hl => match us, hl with | [_], _ => rfl) (fun f cdv A₁ outer s H vs Q E pn q hot hq hf hr h => ?_)
  · obtain ⟨D, m, p, t, r, rfl, _⟩ := h
    rfl
  · obtain ⟨D, m, p, t, r, rfl, hc, hd, hD, hone, k⟩ := h
    obtain ⟨a, oe⟩ := q
    have hz : Zc (.ref D) none oe := ⟨hc, hd⟩
    refine ⟨_, (pss_cons (ps_set (i := 1) sc__law_refusal.nd rfl (Or.inl rfl) (pe_lst (pa_cons (pe_tup (pa_cons pe_str (pa_cons (pe_callB (call_isP hq hD.ec hz hf) rfl T.z_isinstance b_isinstance (pa_cons (pv 0) (pa_cons (pe_glob (v := .ref A.TooMany) rfl T.xTooMany.g rfl) pa_nil))) pa_nil))) (pa_cons (pe_tup (pa_cons pe_str (pa_cons (pe_callB (call_isP hq hD.ec hz hf) rfl T.z_isinstance b_isinstance (pa_cons (pv 0) (pa_cons (pe_glob (v := .ref A.NoPoints) rfl T.xNoPoints.g rfl) pa_nil))) pa_nil))) pa_nil))))
      (pss_cons (ps_set (i := 1) sc__law_refusal.nd rfl (Or.inl rfl) (pe_op op_cat (pv 1) (pe_lst (pa_cons (pe_tup (pa_cons pe_str (pa_cons (pe_callB (call_isP hq hD.ec hz hf) rfl T.z_isinstance b_isinstance (pa_cons (pv 0) (pa_cons (pe_glob (v := .ref A.NoPoint) rfl T.gNoPoint rfl) pa_nil))) pa_nil))) (pa_cons (pe_tup (pa_cons pe_str (pa_cons (pe_callB (call_isP hq hD.ec hz hf) rfl T.z_isinstance b_isinstance (pa_cons (pv 0) (pa_cons (pe_glob (v := .ref A.NoNumber) rfl T.xNoNumber.g rfl) pa_nil))) pa_nil))) pa_nil)))))
      (pss_cons (ps_set (i := 1) sc__law_refusal.nd rfl (Or.inl rfl) (pe_op op_cat (pv 1) (pe_lst (pa_cons (pe_tup (pa_cons pe_str (pa_cons (pe_callB (call_isP hq hD.ec hz hf) rfl T.z_isinstance b_isinstance (pa_cons (pv 0) (pa_cons (pe_glob (v := .ref A.NoCurve) rfl T.gNoCurve rfl) pa_nil))) pa_nil))) (pa_cons (pe_tup (pa_cons pe_str (pa_cons (pe_callB (call_isP hq hD.ec hz hf) rfl T.z_isinstance b_isinstance (pa_cons (pv 0) (pa_cons (pe_glob (v := .ref A.NoStretch) rfl T.gNoStretch rfl) pa_nil))) pa_nil))) pa_nil)))))
      (pss_cons (ps_set (i := 1) sc__law_refusal.nd rfl (Or.inl rfl) (pe_op op_cat (pv 1) (pe_lst (pa_cons (pe_tup (pa_cons pe_str (pa_cons (pe_callB (call_isP hq hD.ec hz hf) rfl T.z_isinstance b_isinstance (pa_cons (pv 0) (pa_cons (pe_glob (v := .ref A.TooDeep) rfl T.gTooDeep rfl) pa_nil))) pa_nil))) (pa_cons (pe_tup (pa_cons pe_str (pa_cons (pe_callB (call_isP hq hD.ec hz hf) rfl T.z_isinstance b_isinstance (pa_cons (pv 0) (pa_cons (pe_glob (v := .ref A.TooFew) rfl T.gTooFew rfl) pa_nil))) pa_nil))) pa_nil)))))
      (pss_cons (ps_set (i := 1) sc__law_refusal.nd rfl (Or.inl rfl) (pe_op op_cat (pv 1) (pe_lst (pa_cons (pe_tup (pa_cons pe_str (pa_cons (pe_callB (call_isP hq hD.ec hz hf) rfl T.z_isinstance b_isinstance (pa_cons (pv 0) (pa_cons (pe_glob (v := .ref A.NoText) rfl T.xNoText.g rfl) pa_nil))) pa_nil))) (pa_cons (pe_tup (pa_cons pe_str (pa_cons (pe_callB (call_isP hq hD.ec hz hf) rfl T.z_isinstance b_isinstance (pa_cons (pv 0) (pa_cons (pe_glob (v := .ref A.NoRow) rfl T.xNoRow.g rfl) pa_nil))) pa_nil))) pa_nil)))))
      (pss_cons (ps_setLcX (i := 2) (own := [("_law_word", 3), ("_law_one", 4)]) (fun _ _ _ _ _ _ => hotBlk hot ..) rfl rfl (takes_of rfl rfl rfl rfl) sc__law_refusal.nd rfl rfl (sw_true rfl rfl rfl (by decide +kernel)) (pig_list_hot (pv 1)) (blkOk_by (own := [("_law_word", 3), ("_law_one", 4)]) (N := ["_law_caught_here", "_law_some", "_law_found", "_law_word", "_law_one"]) (sc := defScope (top 124)) (by decide +kernel)) (fun _ _ _ _ _ _ => (pg_tupHK (K := K) (n := 2) rfl (hotBlk hot ..) (pgs_cons (pg_name (i := 3) sc__law_refusal.nd rfl (Or.inl rfl)) (pgs_cons (pg_name (i := 4) sc__law_refusal.nd rfl (Or.inl rfl)) pgs_nil)))) (fun _ _ _ _ _ _ => (pts_one (pt_val (pv 4)))) (fun _ _ _ _ _ _ => (pv 3)))
      (pss_cons (ps_if (PW.pt (pw_or (pt_cmpR op_ne (pe_callB call_len_seq rfl T.z_len b_len (pa_cons (pv 2) pa_nil)) pe_int (nomark _)) (pw_or1 (pt_not (pt_val (pe_callB (call_isP hq hD.ec hz hf) rfl T.z_isinstance b_isinstance (pa_cons (pv 0) (pa_cons (pe_bltn (v := .ty "ValueError") rfl T.z_ValueError b_ValueError rfl) pa_nil)))))))) (pss_one (ps_ret pe_str)) pss_nil)
      (pss_one (ps_ret (pe_ix ix_list (pv 2) pe_int (fun _ _ => rfl))))))))))), ?_⟩
    refine pairs_ok (K := K) (D := D) (w1 := "many") (w2 := "points") rfl hD.k1 hD.k2 fun p1 v1 H1 s1 h1 a1 => ?_
    refine more_ok (w1 := "point") (w2 := "number") hD.k3 hD.k4 h1 a1 (by simp) fun p2 v2 H2 s2 h2 a2 => ?_
    refine more_ok (w1 := "curve") (w2 := "stretch") hD.k5 hD.k6 h2 a2 (by simp) fun p3 v3 H3 s3 h3 a3 => ?_
    refine more_ok (w1 := "deep") (w2 := "few") hD.k7 hD.k8 h3 a3 (by simp) fun p4 v4 H4 s4 h4 a4 => ?_
    refine more_ok (w1 := "text") (w2 := "row") hD.k9 hD.k10 h4 a4 (by simp) fun p5 v5 H5 s5 h5 a5 => ?_
    have s6 : Same H H5 := s1.trans (s2.trans (s3.trans (s4.trans s5)))
    clear a1 a2 a3 a4 h1 h2 h3 h4
    generalize hps : [((Str.ofString "many" : Str), m), (Str.ofString "points", p)] ++ [((Str.ofString "point" : Str), false), (Str.ofString "number", false)] ++ [((Str.ofString "curve" : Str), false), (Str.ofString "stretch", false)] ++ [((Str.ofString "deep" : Str), false), (Str.ofString "few", false)] ++ [((Str.ofString "text" : Str), t), (Str.ofString "row", r)] = ps at a5
    have hlen : ps.length = 10 := by rw [← hps]; rfl
    refine ⟨_, rfl, p5, rfl, ⟨_, SqL.of h5⟩, fun Dd hDd => ?_⟩
    refine lc_list (K := K) (a := p5) (xs := v5) (fun i H' => Same H5 H' ∧ H' Dd = some (.lst (((ps.take i).filter (·.2)).map fun x => V.str x.1))) ⟨Same.new hDd, by rw [upd_same]; rfl⟩ (fun i H' _ ⟨s, _⟩ => SqL.of (s _ _ h5)) (fun i x H' hx ⟨s, hd'⟩ => ?_) fun H' ⟨s, hd'⟩ => ?_
    · obtain ⟨pr, hpr, b, rfl, hb⟩ := a5.get hx
      have hpi : i < ps.length := (List.getElem?_eq_some_iff.mp hpr).1
      have etake : ps.take (i + 1) = ps.take i ++ [pr] := by
        rw [List.take_add_one, hpr]
        rfl
      refine ⟨b, _, rfl, Same.tup s hb, rfl, _, _, rfl, _, _, rfl, rfl, rfl, ?_⟩
      refine ⟨_, rfl, pr.2, rfl, ?_⟩
      rw [etake, List.filter_append, List.map_append]
      cases e : pr.2 with
      | true =>
        refine iteT ⟨_, rfl, _, hd', ?_, ?_, ?_⟩
        · rw [List.length_map]
          exact Nat.lt_of_le_of_lt (Nat.le_trans (List.length_filter_le ..) (Nat.le_trans (List.length_take_le ..) (Nat.le_of_lt hpi))) (by rw [hlen]; decide)
        · exact fun b o e => by rw [upd_ne (ne_of_none e hDd)]; exact s b o e
        · rw [upd_same, List.filter_cons, e]
          rfl
      | false =>
        refine iteF ⟨s, ?_⟩
        rw [List.filter_cons, e, hd']
        simp
    · have hv5 : v5.length = ps.length := a5.1
      rw [hv5, List.take_length] at hd'
      have hfil : (ps.filter (·.2)).map (fun x => V.str x.1) = [.str (Str.ofString (wordOf m p t r))] := by
        rw [← hps]
        cases m <;> cases p <;> cases t <;> cases r <;> first | rfl | exact absurd hone (by decide)
      rw [hfil] at hd'
      refine ⟨_, rfl, Dd, _, rfl, .inl (SqL.of hd'), rfl, _, rfl, ?_⟩
      refine iteF ⟨_, rfl, _, _, true, rfl, fun u h => h, hD.k11, _, rfl, iteF ?_⟩
      exact ⟨_, rfl, Dd, _, _, _, rfl, rfl, SqL.of hd', rfl, k H' (s6.trans s)⟩
end
end K3
/-! the walk of _law_caught -/
namespace K3
open PySem PySem.Spec PyProof.Rows L2 HotX Evl
/-- no text -/
inductive NoStr (H : Hp) : V → Prop where
  | non : NoStr H .non
  | int (i : Int) : NoStr H (.int i)
  | bl (b : Bool) : NoStr H (.bl b)
  | lst {a : Addr} {xs : List V} (h : H a = some (.lst xs)) : NoStr H (.ref a)
  | tup {a : Addr} {xs : List V} (h : H a = some (.tup xs)) : NoStr H (.ref a)
theorem NoStr.same {H H' : Hp} {v : V} (h : NoStr H v) (s : Same H H') : NoStr H' v := by
  cases h with
  | non => exact .non
  | int i => exact .int i
  | bl b => exact .bl b
  | lst h => exact .lst (s _ _ h)
  | tup h => exact .tup (s _ _ h)
theorem NoStr.not {K : PySem.W.Frag} {H : Hp} {v : V} (h : NoStr H v) : NotStr K H v := by
  cases h with
  | non => exact ⟨_, .base .non, kit_ty (by decide +kernel)⟩
  | int i => exact ⟨_, .base (.int i), kit_ty (by decide +kernel)⟩
  | bl b => exact ⟨_, .base (.bl b), kit_ty (by decide +kernel)⟩
  | lst h => exact ⟨_, .base (.lst h), kit_ty (by decide +kernel)⟩
  | tup h => exact ⟨_, .base (.tup h), kit_ty (by decide +kernel)⟩
/-- a desk of v is refused, and how -/
def DeskFail (H : Hp) (v : V) (due : String) : Prop := (∃ t : Str, v = .str t ∧ t.length ≤ 90000 ∧ (∀ ps, partsL (TL.tl t) = some ps → ps.length < 64) ∧
    ((fate (partsL (TL.tl t)) = .text ∧ due = "text") ∨ (fate (partsL (TL.tl t)) = .points ∧ due = "points") ∨ (fate (partsL (TL.tl t)) = .many ∧ due = "many"))) ∨ (NoStr H v ∧ due = "text")
/-- the text of a desk -/
def DeskText (v : V) : Prop := ∃ (t : Str) (ps : List (List (Int × Int))), v = .str t ∧ t.length ≤ 90000 ∧ partsL (TL.tl t) = some ps ∧ ps.length < 64 ∧ fate (some ps) = .good
section
variable {P : Program} {w : World} {K : PySem.W.Frag} {mg : Str → Option Value} {base : Heap} {A : Ads}
theorem sc__law_caught : FnScope ["_law_pen_here", "_law_text_here", "_law_row", "_law_word", "_law_desk", "e"] ["_law_pen_here", "_law_text_here", "_law_row"] (defScope (top 127)) := ⟨rfl, rfl, rfl, by decide +kernel, rfl, by decide +kernel, by decide +kernel⟩
def spCaught : Sp := fun vs H Q _ => ∃ pen v row, vs = [pen, v, row] ∧ ((∃ due, DeskFail H v due ∧ ∀ H', Same H H' → Q (.str (Str.ofString due)) H') ∨ (DeskText v ∧ row = .str (Str.ofString "points") ∧ ∀ H', Same H H' → Q .non H'))
theorem made_same {H : Hp} {x dx C : Addr} (nx : H x = none) (nd : H dx = none) : Same H (upd (upd H dx (.own x)) x (.ins C dx [])) := fun b o e => by
  rw [upd_ne (ne_of_none e nx), upd_ne (ne_of_none e nd)]
  exact e
theorem ok__law_caught (T : Txt w K mg A) : FnG true P w K mg base 9 "_law_caught" ["_law_pen_here", "_law_text_here", "_law_row"] spCaught := by
  have G_Desk := ok_init (L := true) (P := P) (base := base) T
  have G_say := ok_say (P := P) (base := base) T
  have G__law_refusal := ok__law_refusal (P := P) (base := base) T
  refine okG T.d__law_caught sc__law_caught (fun vs H Q E h => ?_) (fun _ _ _ _ _ _ us hl => match us, hl with | [_, _, _], _ => rfl) (fun f cdv A₁ outer s H vs Q E hr h => ?_)
  · obtain ⟨pen, v, row, rfl, _⟩ := h
    rfl
  · obtain ⟨pen, v, row, rfl, k⟩ := h
    refine ⟨_, (pss_cons (ps_set (i := 3) sc__law_caught.nd rfl (Or.inl rfl) pe_non)
      (pss_cons (ps_tryAs (i := 5) rfl rfl sc__law_caught.nd rfl rfl ⟨rfl, by decide, Or.inl T.gCurveError⟩ (takes_of rfl rfl rfl rfl) (fun W pn xe tk2 _ => pss_cons (ps_set (i := 4) sc__law_caught.nd rfl (Or.inl rfl) (pe_mkG G_Desk hr T.gDesk (fun σ => passAt tk2 σ) (pa_cons (pv 1) pa_nil))) (pss_one (ps_expr (pe_mG (pv 4) T.cl G_say hr (fun σ => passAt tk2 σ) (pa_cons (pv 2) pa_nil))))) (fun a oe pn hq hot hf => pss_one (ps_set (i := 3) sc__law_caught.nd rfl (Or.inl rfl) (pe_cH (n := 8) G__law_refusal ⟨hr.dp, hr.un⟩ hot (a, oe) hq hf (fun σ => passNo σ) (pa_cons (pv 5) pa_nil)))))
      (pss_one (ps_ret (pv 3))))), ?_⟩
    rcases k with ⟨due, hdf, k⟩ | ⟨⟨t, ps, rfl, hz, hps, h64, hg⟩, rfl, k⟩
    · refine ⟨_, rfl, fun x dx nx nd ne => ?_⟩
      have s1 : Same H (upd (upd H dx (.own x)) x (.ins A.Desk dx [])) := made_same nx nd
      rcases hdf with ⟨t, rfl, hz, h64, hf⟩ | ⟨hns, rfl⟩
      · refine ⟨x, _, dx, rfl, upd_same, .inl ⟨t, rfl, hz, h64, fun hn H' s => ?_, fun hn H' s => ?_, fun hn H' s => ?_, fun ps hps hg => ?_⟩⟩
        · have e : due = "text" := by
            rcases hf with ⟨_, e⟩ | ⟨e, _⟩ | ⟨e, _⟩
            · exact e
            · rw [hn] at e; cases e
            · rw [hn] at e; cases e
          subst e
          exact ⟨true, T.wText.ce, fun _ a oe na hc hd => ⟨_, rfl, A.NoText, false, false, true, false, rfl, hc, hd, T.wText, rfl, fun H2 s2 => ⟨_, rfl, k H2 (s1.trans (s.trans s2))⟩⟩, fun z => nomatch z⟩
        · have e : due = "points" := by
            rcases hf with ⟨e, _⟩ | ⟨_, e⟩ | ⟨e, _⟩
            · rw [hn] at e; cases e
            · exact e
            · rw [hn] at e; cases e
          subst e
          exact ⟨true, T.wPoints.ce, fun _ a oe na hc hd => ⟨_, rfl, A.NoPoints, false, true, false, false, rfl, hc, hd, T.wPoints, rfl, fun H2 s2 => ⟨_, rfl, k H2 (s1.trans (s.trans s2))⟩⟩, fun z => nomatch z⟩
        · have e : due = "many" := by
            rcases hf with ⟨e, _⟩ | ⟨e, _⟩ | ⟨_, e⟩
            · rw [hn] at e; cases e
            · rw [hn] at e; cases e
            · exact e
          subst e
          exact ⟨true, T.wMany.ce, fun _ a oe na hc hd => ⟨_, rfl, A.TooMany, true, false, false, false, rfl, hc, hd, T.wMany, rfl, fun H2 s2 => ⟨_, rfl, k H2 (s1.trans (s.trans s2))⟩⟩, fun z => nomatch z⟩
        · rw [hps] at hf
          rcases hf with ⟨e, _⟩ | ⟨e, _⟩ | ⟨e, _⟩ <;> rw [hg] at e <;> cases e
      · exact ⟨x, _, dx, rfl, upd_same, .inr ⟨(hns.same s1).not, fun H' s => ⟨true, T.wText.ce, fun _ a oe na hc hd => ⟨_, rfl, A.NoText, false, false, true, false, rfl, hc, hd, T.wText, rfl, fun H2 s2 => ⟨_, rfl, k H2 (s1.trans (s.trans s2))⟩⟩, fun z => nomatch z⟩⟩⟩
    · refine ⟨_, rfl, fun x dx nx nd ne => ?_⟩
      have s1 : Same H (upd (upd H dx (.own x)) x (.ins A.Desk dx [])) := made_same nx nd
      refine ⟨x, _, dx, rfl, upd_same, .inl ⟨t, rfl, hz, fun ps' h' => by rw [hps] at h'; cases h'; exact h64, fun hn => ?_, fun hn => ?_, fun hn => ?_, fun ps' hps' hg' a H' kp ha hd => ⟨rfl, ?_⟩⟩⟩
      · rw [hps, hg] at hn; cases hn
      · rw [hps, hg] at hn; cases hn
      · rw [hps, hg] at hn; cases hn
      · have hf := (partsL_ok hps').2.2
        have s2 : Same H H' := fun b o e => kp b o (s1 b o e) (ne_of_none e nx)
        rw [hps] at hps'
        cases hps'
        exact ⟨_, rfl, x, dx, _, rfl, hd, lk0 (by decide +kernel), _, rfl, x, _, ps, rfl, ⟨dx, a, hd, ha⟩, by omega, hf, .inr ⟨rfl, fun H2 s3 => ⟨_, rfl, k H2 (s2.trans s3)⟩⟩⟩
end
end K3
/-! rows that are refused: the walks of _law_no_number, _law_no_row -/
namespace K3
open PySem PySem.Spec PyProof.Rows L2 HotX Evl
def badNums : List String := ["", "x", "01", "2/4", "-0", "1/0", "1000000", "-1000000", "1/1000000", "999999/1000000", "1:2", "1.5", "+1", "0/3", "--1", "1e3"]
abbrev sV (z : String) : V := .str (Str.ofString z)
/-- a text that every desk refuses as a row -/
def badRowB (l : List Nat) : Bool := match TL.spl [32] 0 [] l with
  | w :: wl => heads.any (fun z => decide (cc z = w)) && (decide (wl.length ≤ 50) && (decide (l.length ≤ 90000) && rowL w wl))
  | [] => false
def rowV (v : V) : Bool := match v with
  | .str t => badRowB (TL.tl t)
  | _ => false
theorem rowV_bad {K : PySem.W.Frag} {H : Hp} {v : V} (h : rowV v = true) : BadRow K H v := by
  cases v with
  | str t =>
    have h' : badRowB (TL.tl t) = true := h
    unfold badRowB at h'
    split at h'
    · rename_i w wl e
      simp only [Bool.and_eq_true, decide_eq_true_eq, List.any_eq_true] at h'
      obtain ⟨⟨z, hz, ez⟩, h1, h2, h3⟩ := h'
      subst ez
      exact .inl ⟨t, z, wl, rfl, by rw [TL.len_tl]; exact h2, e, hz, h1, h3⟩
    · cases h'
  | _ => cases h
theorem at_in {xs : List V} {n : Int} (h0 : 0 ≤ n) (h : n < xs.length) : ∃ v ∈ xs, atI xs n = some v := by
  obtain ⟨m, rfl⟩ : ∃ m : Nat, n = m := ⟨n.toNat, by omega⟩
  have hm : m < xs.length := by omega
  exact ⟨xs[m], List.getElem_mem hm, atI_nat (List.getElem?_eq_getElem hm)⟩
theorem PenAt.keepL {H H' : Hp} {a p : Addr} {xs : List V} (s : Keep a H H') (hn : p ≠ a) (h : H p = some (.lst xs)) : H' p = some (.lst xs) := s _ _ h hn
theorem pen_ne {H : Hp} {a p : Addr} (h : PenAt H a) (hp : H p = none) : p ≠ a := fun e => by
  obtain ⟨x, y, z, e1⟩ := h
  rw [e, e1] at hp
  cases hp
section
variable {L : Bool} {P : Program} {w : World} {K : PySem.W.Frag} {mg : Str → Option Value} {base : Heap} {A : Ads}
theorem sc__law_no_number : FnScope ["_law_pen_here", "_law_some"] ["_law_pen_here"] (defScope (top 125)) := ⟨rfl, rfl, rfl, by decide +kernel, rfl, by decide +kernel, by decide +kernel⟩
def spNoNum : Sp := fun vs H Q _ => ∃ a : Addr, vs = [.ref a] ∧ PenAt H a ∧ ∀ z ∈ badNums, ∀ H', Keep a H H' → PenAt H' a → Q (sV z) H'
theorem ok__law_no_number (T : Txt w K mg A) : FnG L P w K mg base 2 "_law_no_number" ["_law_pen_here"] spNoNum := by
  have G__law_draw := ok__law_draw (L := L) (P := P) (base := base) T
  refine okG T.d__law_no_number sc__law_no_number (fun vs H Q E h => ?_) (fun _ _ _ _ _ _ us hl => match us, hl with | [_], _ => rfl) (fun f cdv A₁ outer s H vs Q E hr h => ?_)
  · obtain ⟨a, rfl, _⟩ := h
    rfl
  · obtain ⟨a, rfl, hp, k⟩ := h
    refine ⟨_, (pss_cons (ps_set (i := 1) sc__law_no_number.nd rfl (Or.inl rfl) (pe_lst (pa_cons pe_str (pa_cons pe_str (pa_cons pe_str (pa_cons pe_str (pa_cons pe_str (pa_cons pe_str (pa_cons pe_str (pa_cons pe_str (pa_cons pe_str (pa_cons pe_str (pa_cons pe_str (pa_cons pe_str pa_nil))))))))))))))
      (pss_one (ps_ret (pe_ix ix_list (pe_op op_cat (pv 1) (pe_lst (pa_cons pe_str (pa_cons pe_str (pa_cons pe_str (pa_cons pe_str pa_nil)))))) (pe_c G__law_draw hr (fun σ => passNo σ) (pa_cons (pv 0) (pa_cons pe_int pa_nil))) (fun _ _ => rfl))))), ?_⟩
    refine ⟨(by show 12 ≤ sizeLine; decide), fun l1 hl1 => ?_⟩
    refine ⟨_, rfl, (by show 4 ≤ sizeLine; decide), fun l2 hl2 => ?_⟩
    refine ⟨l1, l2, _, _, rfl, rfl, Same.new hl2 _ _ upd_same, upd_same, (by show 16 ≤ sizeLine; decide), fun l3 hl3 => ?_⟩
    have s3 := (Same.new (o := .lst [sV "", sV "x", sV "01", sV "2/4", sV "-0", sV "1/0", sV "1000000", sV "-1000000", sV "1/1000000", sV "999999/1000000", sV "1:2", sV "1.5"]) hl1).trans ((Same.new (o := .lst [sV "+1", sV "0/3", sV "--1", sV "1e3"]) hl2).trans (Same.new (o := .lst (badNums.map sV)) hl3))
    refine ⟨_, rfl, a, 16, rfl, hp.same s3, by decide, by decide, fun n H4 n0 n16 k4 p4 => ?_⟩
    have hn : l3 ≠ a := fun e => by
      obtain ⟨x, y, z, e1⟩ := hp.same ((Same.new (o := .lst [sV "", sV "x", sV "01", sV "2/4", sV "-0", sV "1/0", sV "1000000", sV "-1000000", sV "1/1000000", sV "999999/1000000", sV "1:2", sV "1.5"]) hl1).trans (Same.new (o := .lst [sV "+1", sV "0/3", sV "--1", sV "1e3"]) hl2))
      rw [e] at hl3
      exact nomatch e1.symm.trans hl3
    obtain ⟨v, hv, ev⟩ := at_in (xs := badNums.map sV) n0 (by show n < 16; exact n16)
    obtain ⟨z, hz, rfl⟩ := List.mem_map.mp hv
    exact ⟨l3, badNums.map sV, n, sV z, rfl, rfl, SqL.of (k4 _ _ upd_same hn), ev, k z hz H4 ((Keep.of s3).trans k4) p4⟩
theorem sc__law_no_row : FnScope ["_law_pen_here", "_law_bad", "_law_some"] ["_law_pen_here"] (defScope (top 126)) := ⟨rfl, rfl, rfl, by decide +kernel, rfl, by decide +kernel, by decide +kernel⟩
def spNoRow (K : PySem.W.Frag) : Sp := fun vs H Q _ => ∃ a : Addr, vs = [.ref a] ∧ PenAt H a ∧ ∀ v H', Keep a H H' → PenAt H' a → BadRow K H' v → Q v H'
theorem more_row {ta : TA} {u : TS} {D0 : Ends} {a p : Addr} {b : Str} {H : Hp} {n : Nat} (xs ys : List V) (hp : H p = some (.lst xs)) (hx : xs.all rowV = true) (hxl : xs.length ≤ n) (hy : ys.all rowV = true) (hyl : ys.length ≤ 20) (hn : n ≤ 500)
    (hta : ∀ Qa : List V → Hp → Prop, Qa ys H → ta [some (.ref a), some (.str b), some (.ref p)] H Qa)
    (k : ∀ p' zs H', Same H H' → H' p' = some (.lst zs) → zs.all rowV = true → zs.length ≤ n + 20 → u D0 [some (.ref a), some (.str b), some (.ref p')] H') :
    tSeq (tAsg (tOp rCat (tVar 2) (tLst ta)) (gName 2)) u D0 [some (.ref a), some (.str b), some (.ref p)] H := by
  refine ⟨_, rfl, hta _ ⟨short (by omega), fun l hl => ?_⟩⟩
  have s1 := Same.new (o := .lst ys) hl
  refine ⟨p, l, xs, ys, rfl, rfl, s1 _ _ hp, upd_same, short (by omega), fun m hm => ?_⟩
  exact k m (xs ++ ys) _ (s1.trans (Same.new hm)) upd_same (by rw [List.all_append, hx, hy]; rfl) (by rw [List.length_append]; omega)
/-- the rows with a bad number in them -/
def rowsA (b : Str) : List V := [sV "height 1  2", sV "moved 1", .str (Str.ofString "put " ++ b ++ Str.ofString " 1"), .str (Str.ofString "put 1 " ++ b), .str (Str.ofString "put 1 1 " ++ b), .str (Str.ofString "take " ++ b)]
def rowsB (b : Str) : List V := [.str (Str.ofString "height " ++ b ++ Str.ofString " 1"), .str (Str.ofString "height 1 " ++ b), .str (Str.ofString "slope 1 " ++ b), .str (Str.ofString "noslope " ++ b), .str (Str.ofString "at " ++ b)]
def rowsC (b : Str) : List V := [.str (Str.ofString "slopeat " ++ b), .str (Str.ofString "misses 1 " ++ b), .str (Str.ofString "bounds " ++ b ++ Str.ofString " 1"), .str (Str.ofString "noughts 0 " ++ b)]
def rowsD (b : Str) : List V := [.str (Str.ofString "wrong " ++ b ++ Str.ofString " 1"), .str (Str.ofString "wrong 1 " ++ b), .str (Str.ofString "quotient " ++ b), sV "wrong 0 1", sV "wrong 1/2 1", sV "wrong -1 1"]
def rows1 : List V := [sV "", sV "put 1", sV "put 1 2 3 4", sV "take", sV "take 1 2", sV "height 1", sV "height 1 2 3", sV "slope 1", sV "slope 1 2 3"]
def rows2 : List V := [sV "noslope", sV "noslope 1 2", sV "points 1", sV "curve 1", sV "steps 1", sV "at", sV "at 1 2", sV "slopeat", sV "slopeat 1 2"]
def rows3 : List V := [sV "misses", sV "bounds 1", sV "bounds 1 2 3", sV "noughts 1", sV "noughts 1 2 3", sV "wrong 1", sV "wrong 1 1 1"]
def rows4 : List V := [sV "quotient", sV "quotient 1 1", .str (Str.ofString "misses" ++ repS (Str.ofString " 1") 17), sV "Points", sV " points", sV "points ", sV "at  1"]
def rows9 : List V := [sV "wrong 1 -1", sV "wrong 1 1/2", sV "quotient 0", sV "quotient 3/2", sV "quotient -2"]
theorem rows1_bad : rows1.all rowV = true := by decide +kernel
theorem rows2_bad : rows2.all rowV = true := by decide +kernel
theorem rows3_bad : rows3.all rowV = true := by decide +kernel
theorem rows4_bad : rows4.all rowV = true := by decide +kernel
theorem rows9_bad : rows9.all rowV = true := by decide +kernel
theorem rowsA_bad : (badNums.all fun b => (rowsA (Str.ofString b)).all rowV) = true := by decide +kernel
theorem rowsB_bad : (badNums.all fun b => (rowsB (Str.ofString b)).all rowV) = true := by decide +kernel
theorem rowsC_bad : (badNums.all fun b => (rowsC (Str.ofString b)).all rowV) = true := by decide +kernel
theorem rowsD_bad : (badNums.all fun b => (rowsD (Str.ofString b)).all rowV) = true := by decide +kernel
theorem badNums_len : (badNums.all fun b => decide ((Str.ofString b).length ≤ 100)) = true := by decide +kernel
theorem l1 {s : String} {b : Str} (hs : (Str.ofString s).length ≤ 100) (hb : b.length ≤ 100) : (Str.ofString s).length + b.length ≤ sizeLine := short (by omega)
theorem l2 {s s' : String} {b : Str} (hs : (Str.ofString s).length ≤ 100) (hs' : (Str.ofString s').length ≤ 100) (hb : b.length ≤ 100) : (Str.ofString s ++ b).length + (Str.ofString s').length ≤ sizeLine := short (by rw [str_len_add]; omega)
theorem ok__law_no_row (T : Txt w K mg A) : FnG L P w K mg base 3 "_law_no_row" ["_law_pen_here"] (spNoRow K) := by
  have G__law_draw := ok__law_draw (L := L) (P := P) (base := base) T
  have G__law_no_number := ok__law_no_number (L := L) (P := P) (base := base) T
  refine okG T.d__law_no_row sc__law_no_row (fun vs H Q E h => ?_) (fun _ _ _ _ _ _ us hl => match us, hl with | [_], _ => rfl) (fun f cdv A₁ outer s H vs Q E hr h => ?_)
  · obtain ⟨a, rfl, _⟩ := h
    rfl
  · obtain ⟨a, rfl, hp, k⟩ := h
    refine ⟨_, (pss_cons (ps_set (i := 1) sc__law_no_row.nd rfl (Or.inl rfl) (pe_c G__law_no_number hr (fun σ => passNo σ) (pa_cons (pv 0) pa_nil)))
      (pss_cons (ps_set (i := 2) sc__law_no_row.nd rfl (Or.inl rfl) (pe_lst (pa_cons pe_str (pa_cons pe_str (pa_cons pe_str (pa_cons pe_str (pa_cons pe_str (pa_cons pe_str (pa_cons pe_str (pa_cons pe_str (pa_cons pe_str pa_nil)))))))))))
      (pss_cons (ps_set (i := 2) sc__law_no_row.nd rfl (Or.inl rfl) (pe_op op_cat (pv 2) (pe_lst (pa_cons pe_str (pa_cons pe_str (pa_cons pe_str (pa_cons pe_str (pa_cons pe_str (pa_cons pe_str (pa_cons pe_str (pa_cons pe_str (pa_cons pe_str pa_nil))))))))))))
      (pss_cons (ps_set (i := 2) sc__law_no_row.nd rfl (Or.inl rfl) (pe_op op_cat (pv 2) (pe_lst (pa_cons pe_str (pa_cons pe_str (pa_cons pe_str (pa_cons pe_str (pa_cons pe_str (pa_cons pe_str (pa_cons pe_str pa_nil))))))))))
      (pss_cons (ps_set (i := 2) sc__law_no_row.nd rfl (Or.inl rfl) (pe_op op_cat (pv 2) (pe_lst (pa_cons pe_str (pa_cons pe_str (pa_cons (pe_op op_add_str pe_str (pe_op op_mulS pe_str pe_int)) (pa_cons pe_str (pa_cons pe_str (pa_cons pe_str (pa_cons pe_str pa_nil))))))))))
      (pss_cons (ps_set (i := 2) sc__law_no_row.nd rfl (Or.inl rfl) (pe_op op_cat (pv 2) (pe_lst (pa_cons pe_str (pa_cons pe_str (pa_cons (pe_op op_add_str (pe_op op_add_str pe_str (pv 1)) pe_str) (pa_cons (pe_op op_add_str pe_str (pv 1)) (pa_cons (pe_op op_add_str pe_str (pv 1)) (pa_cons (pe_op op_add_str pe_str (pv 1)) pa_nil)))))))))
      (pss_cons (ps_set (i := 2) sc__law_no_row.nd rfl (Or.inl rfl) (pe_op op_cat (pv 2) (pe_lst (pa_cons (pe_op op_add_str (pe_op op_add_str pe_str (pv 1)) pe_str) (pa_cons (pe_op op_add_str pe_str (pv 1)) (pa_cons (pe_op op_add_str pe_str (pv 1)) (pa_cons (pe_op op_add_str pe_str (pv 1)) (pa_cons (pe_op op_add_str pe_str (pv 1)) pa_nil))))))))
      (pss_cons (ps_set (i := 2) sc__law_no_row.nd rfl (Or.inl rfl) (pe_op op_cat (pv 2) (pe_lst (pa_cons (pe_op op_add_str pe_str (pv 1)) (pa_cons (pe_op op_add_str pe_str (pv 1)) (pa_cons (pe_op op_add_str (pe_op op_add_str pe_str (pv 1)) pe_str) (pa_cons (pe_op op_add_str pe_str (pv 1)) pa_nil)))))))
      (pss_cons (ps_set (i := 2) sc__law_no_row.nd rfl (Or.inl rfl) (pe_op op_cat (pv 2) (pe_lst (pa_cons (pe_op op_add_str (pe_op op_add_str pe_str (pv 1)) pe_str) (pa_cons (pe_op op_add_str pe_str (pv 1)) (pa_cons (pe_op op_add_str pe_str (pv 1)) (pa_cons pe_str (pa_cons pe_str (pa_cons pe_str pa_nil)))))))))
      (pss_cons (ps_set (i := 2) sc__law_no_row.nd rfl (Or.inl rfl) (pe_op op_cat (pv 2) (pe_lst (pa_cons pe_str (pa_cons pe_str (pa_cons pe_str (pa_cons pe_str (pa_cons pe_str pa_nil))))))))
      (pss_cons (ps_set (i := 2) sc__law_no_row.nd rfl (Or.inl rfl) (pe_op op_cat (pv 2) (pe_lst (pa_cons pe_non (pa_cons pe_int (pa_cons pe_bl (pa_cons (pe_lst (pa_cons pe_str pa_nil)) (pa_cons (pe_tup (pa_cons pe_str pa_nil)) pa_nil))))))))
      (pss_one (ps_ret (pe_ix ix_list (pv 2) (pe_c G__law_draw hr (fun σ => passNo σ) (pa_cons (pv 0) (pa_cons (pe_callB call_len_seq rfl T.z_len b_len (pa_cons (pv 2) pa_nil)) pa_nil))) (fun _ _ => rfl))))))))))))))), ?_⟩
    refine ⟨_, rfl, a, rfl, hp, fun z hz H1 k1 p1 => ?_⟩
    have hb : (Str.ofString z).length ≤ 100 := of_decide_eq_true (List.all_eq_true.mp badNums_len z hz)
    have bA := List.all_eq_true.mp rowsA_bad z hz
    have bB := List.all_eq_true.mp rowsB_bad z hz
    have bC := List.all_eq_true.mp rowsC_bad z hz
    have bD := List.all_eq_true.mp rowsD_bad z hz
    have t1 : (Str.ofString "put ").length ≤ 100 := by decide +kernel
    have t2 : (Str.ofString " 1").length ≤ 100 := by decide +kernel
    refine ⟨(by show 9 ≤ sizeLine; decide), fun p0 hp0 => ?_⟩
    have s0 : Same H1 (upd H1 p0 (.lst rows1)) := Same.new hp0
    refine more_row rows1 rows2 upd_same rows1_bad (n := 9) (by decide) rows2_bad (by decide) (by decide) (fun Qa q => q) fun p2 z2 H2 s2 h2 a2 n2 => ?_
    refine more_row z2 rows3 h2 a2 n2 rows3_bad (by decide) (by decide) (fun Qa q => q) fun p3 z3 H3 s3 h3 a3 n3 => ?_
    refine more_row z3 rows4 h3 a3 n3 rows4_bad (by decide) (by decide) (fun Qa q => ⟨_, 17, rfl, rfl, by decide, by decide +kernel, by decide +kernel, _, _, rfl, rfl, (by decide +kernel), q⟩) fun p4 z4 H4 s4 h4 a4 n4 => ?_
    refine more_row z4 (rowsA (Str.ofString z)) h4 a4 n4 bA (by show 6 ≤ 20; decide) (by decide) (fun Qa q => ⟨_, rfl, _, _, rfl, rfl, l1 t1 hb, _, _, rfl, rfl, l2 t1 t2 hb, _, rfl, _, _, rfl, rfl, l1 (by decide +kernel) hb, _, rfl, _, _, rfl, rfl, l1 (by decide +kernel) hb, _, rfl, _, _, rfl, rfl, l1 (by decide +kernel) hb, q⟩) fun p5 z5 H5 s5 h5 a5 n5 => ?_
    refine more_row z5 (rowsB (Str.ofString z)) h5 a5 n5 bB (by show 5 ≤ 20; decide) (by decide) (fun Qa q => ⟨_, rfl, _, _, rfl, rfl, l1 (by decide +kernel) hb, _, _, rfl, rfl, l2 (by decide +kernel) t2 hb, _, rfl, _, _, rfl, rfl, l1 (by decide +kernel) hb, _, rfl, _, _, rfl, rfl, l1 (by decide +kernel) hb, _, rfl, _, _, rfl, rfl, l1 (by decide +kernel) hb, _, rfl, _, _, rfl, rfl, l1 (by decide +kernel) hb, q⟩) fun p6 z6 H6 s6 h6 a6 n6 => ?_
    refine more_row z6 (rowsC (Str.ofString z)) h6 a6 n6 bC (by show 4 ≤ 20; decide) (by decide) (fun Qa q => ⟨_, rfl, _, _, rfl, rfl, l1 (by decide +kernel) hb, _, rfl, _, _, rfl, rfl, l1 (by decide +kernel) hb, _, rfl, _, _, rfl, rfl, l1 (by decide +kernel) hb, _, _, rfl, rfl, l2 (by decide +kernel) t2 hb, _, rfl, _, _, rfl, rfl, l1 (by decide +kernel) hb, q⟩) fun p7 z7 H7 s7 h7 a7 n7 => ?_
    refine more_row z7 (rowsD (Str.ofString z)) h7 a7 n7 bD (by show 6 ≤ 20; decide) (by decide) (fun Qa q => ⟨_, rfl, _, _, rfl, rfl, l1 (by decide +kernel) hb, _, _, rfl, rfl, l2 (by decide +kernel) t2 hb, _, rfl, _, _, rfl, rfl, l1 (by decide +kernel) hb, _, rfl, _, _, rfl, rfl, l1 (by decide +kernel) hb, q⟩) fun p8 z8 H8 s8 h8 a8 n8 => ?_
    refine more_row z8 rows9 h8 a8 n8 rows9_bad (by decide) (by decide) (fun Qa q => q) fun p9 z9 H9 s9 h9 a9 n9 => ?_
    have sa : Same H1 H9 := s0.trans (s2.trans (s3.trans (s4.trans (s5.trans (s6.trans (s7.trans (s8.trans s9)))))))
    clear h2 h3 h4 h5 h6 h7 h8 a2 a3 a4 a5 a6 a7 a8 n2 n3 n4 n5 n6 n7 n8 bA bB bC bD s0 s2 s3 s4 s5 s6 s7 s8 s9
    have p9' := p1.same sa
    refine ⟨_, rfl, (by show 1 ≤ sizeLine; decide), fun l1 hl1 => ?_⟩
    have q1 := Same.new (o := .lst [sV "points"]) hl1
    have n1 := pen_ne p9' hl1
    refine ⟨(by show 1 ≤ sizeLine; decide), fun l2 hl2 => ?_⟩
    have q2 := Same.new (o := .tup [sV "points"]) hl2
    have n2 := pen_ne (p9'.same q1) hl2
    refine ⟨(by show 5 ≤ sizeLine; decide), fun l3 hl3 => ?_⟩
    have q3 := Same.new (o := .lst [.non, .int 3, .bl true, .ref l1, .ref l2]) hl3
    have q123 := q1.trans (q2.trans q3)
    refine ⟨p9, l3, z9, _, rfl, rfl, q123 _ _ h9, upd_same, short (by show z9.length + 5 ≤ 100000; omega), fun l4 hl4 => ?_⟩
    have q4 := Same.new (o := .lst (z9 ++ [.non, .int 3, .bl true, .ref l1, .ref l2])) hl4
    have n4 := pen_ne (p9'.same q123) hl4
    have q14 := q123.trans q4
    have hl1' : (upd (upd (upd (upd H9 l1 (.lst [sV "points"])) l2 (.tup [sV "points"])) l3 (.lst [.non, .int 3, .bl true, .ref l1, .ref l2])) l4 (.lst (z9 ++ [.non, .int 3, .bl true, .ref l1, .ref l2]))) l1 = some (.lst [sV "points"]) := (q2.trans (q3.trans q4)) _ _ upd_same
    have hl2' : (upd (upd (upd (upd H9 l1 (.lst [sV "points"])) l2 (.tup [sV "points"])) l3 (.lst [.non, .int 3, .bl true, .ref l1, .ref l2])) l4 (.lst (z9 ++ [.non, .int 3, .bl true, .ref l1, .ref l2]))) l2 = some (.tup [sV "points"]) := (q3.trans q4) _ _ upd_same
    have hl4' : (upd (upd (upd (upd H9 l1 (.lst [sV "points"])) l2 (.tup [sV "points"])) l3 (.lst [.non, .int 3, .bl true, .ref l1, .ref l2])) l4 (.lst (z9 ++ [.non, .int 3, .bl true, .ref l1, .ref l2]))) l4 = some (.lst (z9 ++ [.non, .int 3, .bl true, .ref l1, .ref l2])) := upd_same
    have hlen : (z9 ++ [V.non, V.int 3, V.bl true, V.ref l1, V.ref l2]).length = z9.length + 5 := by rw [List.length_append]; rfl
    refine ⟨_, rfl, _, rfl, _, rfl, l4, _, rfl, .inl (SqL.of hl4'), a, ((z9 ++ [V.non, V.int 3, V.bl true, V.ref l1, V.ref l2]).length : Int), rfl, p9'.same q14, by omega, by omega, fun n H10 n0 nlt k10 p10 => ?_⟩
    obtain ⟨v, hv, ev⟩ := at_in n0 nlt
    refine ⟨l4, _, n, v, rfl, rfl, SqL.of (k10 _ _ hl4' n4), ev, k v H10 ((k1.trans (Keep.of (sa.trans q14))).trans k10) p10 ?_⟩
    rcases List.mem_append.mp hv with e | e
    · exact rowV_bad (List.all_eq_true.mp a9 v e)
    · simp only [List.mem_cons, List.not_mem_nil, or_false] at e
      rcases e with e | e | e | e | e <;> subst e
      · exact .inr (NoStr.not .non)
      · exact .inr (NoStr.not (.int 3))
      · exact .inr (NoStr.not (.bl true))
      · exact .inr (NoStr.not (.lst (k10 _ _ hl1' n1)))
      · exact .inr (NoStr.not (.tup (k10 _ _ hl2' n2)))
end
end K3
/-! shown numbers are read back; the texts that a desk refuses: plain laws -/
namespace K3
open PySem PySem.Spec PyProof.Rows L2 HotX TL
theorem numL_zero {n : Nat} : (numL n).head? = some 48 → numL n = [48] := by
  induction n using Nat.strongRecOn with
  | ind n ih =>
    intro h
    by_cases hn : n < 10
    · rw [numL_lt hn] at h ⊢
      have e : 48 + n = 48 := Option.some.inj h
      rw [e]
    · rw [numL_step (by omega)] at h
      have hne := numL_ne (n / 10)
      have h2 : (numL (n / 10)).head? = some 48 := by
        cases e : numL (n / 10) with
        | nil => exact absurd e hne
        | cons c l => rw [e] at h; exact h
      have h3 := ih (n / 10) (by omega) h2
      have h4 : numL 0 = [48] := numL_lt (by decide)
      have h5 := numL_inj (h3.trans h4.symm)
      omega
theorem wholeL_num {n : Nat} (h : n < 10 ^ 60) : wholeL (numL n) = some n := by
  have hl := numL_len (by decide) h
  have hp : 1 ≤ (numL n).length := List.length_pos_iff.mpr (numL_ne n)
  have hz : (!(decide ((numL n).head? = some 48) && !decide (numL n = [48]))) = true := by
    rw [Bool.not_eq_true', Bool.and_eq_false_iff]
    by_cases c : (numL n).head? = some 48
    · right
      rw [numL_zero c]
      rfl
    · left
      exact decide_eq_false c
  unfold wholeL
  rw [decide_eq_true hp, decide_eq_true hl, digB_iff.mpr (numL_digits n), hz, numL_val]
  rfl
/-- the signs of a shown number -/
theorem numI_free {i : Int} {s : Nat} (h : s < 45 ∨ 57 < s ∨ s = 46 ∨ s = 47) : s ∉ numI i := fun hm => by
  unfold numI at hm
  split at hm
  · rcases List.mem_cons.mp hm with e | e
    · omega
    · exact numL_free (by omega) e
  · exact numL_free (by omega) hm
theorem numQ_free {q : Int × Int} {s : Nat} (h : s < 45 ∨ 57 < s) : s ∉ numQ q := fun hm => by
  unfold numQ at hm
  split at hm
  · exact numI_free (by omega) hm
  · rcases List.mem_append.mp hm with e | e
    · exact numI_free (by omega) e
    · rcases List.mem_cons.mp e with e | e
      · omega
      · exact numI_free (by omega) e
/-- a number's sign and figures -/
theorem cut_num {i : Int} {r : List (List Nat)} {l : List Nat} (h : spl [47] 0 [] l = numI i :: r) : ∃ way : Int, cutL l = (way, numL i.natAbs :: r) ∧ way * (i.natAbs : Int) = i := by
  unfold cutL
  rw [h]
  by_cases hi : i < 0
  · have e : numI i = 45 :: numL i.natAbs := by unfold numI; rw [if_pos hi]
    rw [e]
    exact ⟨-1, rfl, by omega⟩
  · have e : numI i = numL i.natAbs := by unfold numI; rw [if_neg hi]
    rw [e]
    refine ⟨1, ?_, by omega⟩
    split
    · rename_i p r' e2
      have e3 := (List.cons.inj e2).1
      have := numL_digits i.natAbs 45 (by rw [e3]; exact List.mem_cons_self)
      omega
    · rfl
theorem readL_num {q : Int × Int} (hl : lowB q = true) (h1 : q.1.natAbs < 10 ^ 60) (h2 : q.2.natAbs < 10 ^ 60) : readL (numQ q) = some q := by
  have hs := lowQ_self hl
  have hb : 0 < q.2 := by
    unfold lowB at hl
    rw [Bool.and_eq_true, decide_eq_true_iff] at hl
    exact hl.1
  by_cases c : q.2 = 1
  · have e : numQ q = numI q.1 := by unfold numQ; rw [if_pos c]
    have hsp : spl [47] 0 [] (numQ q) = numI q.1 :: [] := by
      rw [e, spl_last1 (numI_free (.inr (.inr (.inr rfl)))), List.nil_append]
    obtain ⟨way, hc, hw⟩ := cut_num hsp
    unfold readL
    rw [hc]
    have ha : allSome wholeL [numL q.1.natAbs] = some [q.1.natAbs] := by
      unfold allSome
      rw [wholeL_num h1]
      rfl
    show (match allSome wholeL [numL q.1.natAbs] with
      | some [n] => if numQ (lowQ (way * n) 1) = numQ q then some (lowQ (way * n) 1) else none
      | some [n, d] => if d = 0 then none else if numQ (lowQ (way * n) d) = numQ q then some (lowQ (way * n) d) else none
      | _ => none) = some q
    rw [ha]
    show (if numQ (lowQ (way * (q.1.natAbs : Int)) 1) = numQ q then some (lowQ (way * (q.1.natAbs : Int)) 1) else none) = some q
    rw [hw]
    rw [c] at hs
    rw [hs, if_pos rfl]
  · have e : numQ q = numI q.1 ++ 47 :: numI q.2 := by unfold numQ; rw [if_neg c]
    have e2 : numI q.2 = numL q.2.natAbs := by unfold numI; rw [if_neg (by omega)]
    have hsp : spl [47] 0 [] (numQ q) = numI q.1 :: [numL q.2.natAbs] := by
      rw [e]
      have := spl_part1 (s := 47) (S := []) (p := numI q.1) (rest := numI q.2) (acc := []) (numI_free (.inr (.inr (.inr rfl))))
      rw [show numI q.1 ++ 47 :: numI q.2 = numI q.1 ++ (47 :: [] ++ numI q.2) from rfl, this, List.nil_append, spl_last1 (numI_free (.inr (.inr (.inr rfl)))), List.nil_append, e2]
    obtain ⟨way, hc, hw⟩ := cut_num hsp
    have hd : (q.2.natAbs : Int) = q.2 := by omega
    have ha : allSome wholeL [numL q.1.natAbs, numL q.2.natAbs] = some [q.1.natAbs, q.2.natAbs] := by
      unfold allSome
      rw [wholeL_num h1]
      unfold allSome
      rw [wholeL_num h2]
      rfl
    unfold readL
    rw [hc]
    show (match allSome wholeL [numL q.1.natAbs, numL q.2.natAbs] with
      | some [n] => if numQ (lowQ (way * n) 1) = numQ q then some (lowQ (way * n) 1) else none
      | some [n, d] => if d = 0 then none else if numQ (lowQ (way * n) d) = numQ q then some (lowQ (way * n) d) else none
      | _ => none) = some q
    rw [ha]
    show (if q.2.natAbs = 0 then none else if numQ (lowQ (way * (q.1.natAbs : Int)) (q.2.natAbs : Int)) = numQ q then some (lowQ (way * (q.1.natAbs : Int)) (q.2.natAbs : Int)) else none) = some q
    rw [hw, hd, hs, if_neg (by omega), if_pos rfl]
theorem nice_read {q : Int × Int} (h : Nice q) : readL (numQ q) = some q := by
  have h2 := h.2
  unfold smallB at h2
  rw [Bool.and_eq_true, decide_eq_true_iff, decide_eq_true_iff] at h2
  have h3 := h.1
  unfold lowB at h3
  rw [Bool.and_eq_true, decide_eq_true_iff] at h3
  have : (1000000 : Nat) < 10 ^ 60 := by decide
  exact readL_num h.1 (by omega) (by omega)
/-- the signs of a point, of points -/
def ptQ (p : List (Int × Int)) : List Nat := joinL [58] (p.map numQ)
theorem joinL_mem {S : List Nat} {c : Nat} : ∀ {l : List (List Nat)}, c ∈ joinL S l → c ∈ S ∨ ∃ p ∈ l, c ∈ p
  | [], h => absurd h (by simp [joinL])
  | [p], h => .inr ⟨p, List.mem_singleton.mpr rfl, h⟩
  | p :: q :: r, h => by
    have h' : c ∈ p ++ (S ++ joinL S (q :: r)) := h
    rcases List.mem_append.mp h' with e | e
    · exact .inr ⟨p, List.mem_cons_self, e⟩
    · rcases List.mem_append.mp e with e | e
      · exact .inl e
      · rcases joinL_mem e with e | ⟨z, hz, e⟩
        · exact .inl e
        · exact .inr ⟨z, List.mem_cons_of_mem _ hz, e⟩
theorem ptQ_free {p : List (Int × Int)} : 44 ∉ ptQ p := fun h => by
  rcases joinL_mem h with e | ⟨z, hz, e⟩
  · simp at e
  · obtain ⟨q, _, rfl⟩ := List.mem_map.mp hz
    exact numQ_free (by omega) e
theorem pointL_pt {p : List (Int × Int)} (h : OkPt p) (hn : ∀ q ∈ p, Nice q) : pointL (ptQ p) = some p := by
  have h23 := h.1
  have hne : p.map numQ ≠ [] := fun e => by
    rw [List.map_eq_nil_iff] at e
    rw [e] at h23
    rcases h23 with z | z <;> cases z
  have hs : spl [58] 0 [] (ptQ p) = p.map numQ := spl_join hne fun z hz => by
    obtain ⟨q, _, rfl⟩ := List.mem_map.mp hz
    exact numQ_free (by omega)
  have ha : allSome readL (p.map numQ) = some p := allSome_of (by rw [List.length_map]) fun i a b ha hb => by
    rw [List.getElem?_map, hb] at ha
    cases ha
    exact nice_read (hn b (List.mem_of_getElem? hb))
  unfold pointL
  rw [hs, ha]
  exact if_pos (by omega)
/-- the parts a, then z -/
def pj (z : List Nat) : List (List Nat) → List Nat
  | [] => z
  | p :: a => p ++ ([44, 32] ++ pj z a)
theorem pj_spl {z : List Nat} : ∀ {a : List (List Nat)}, (∀ p ∈ a, 44 ∉ p) → spl [44, 32] 0 [] (pj z a) = a ++ spl [44, 32] 0 [] z
  | [], _ => rfl
  | p :: a, h => by
    show spl [44, 32] 0 [] (p ++ (44 :: [32] ++ pj z a)) = _
    rw [spl_part1 (h p List.mem_cons_self), List.nil_append, pj_spl fun q hq => h q (List.mem_cons_of_mem _ hq)]
    rfl
theorem pj_snoc {z x : List Nat} : ∀ {a : List (List Nat)}, pj z (a ++ [x]) = pj (x ++ ([44, 32] ++ z)) a
  | [] => rfl
  | p :: a => by
    show p ++ ([44, 32] ++ pj z (a ++ [x])) = _
    rw [pj_snoc]
    rfl
theorem joinL_pj {x y : List Nat} : ∀ {a : List (List Nat)}, joinL [44, 32] (a ++ [x]) ++ y = pj (x ++ y) a
  | [] => rfl
  | [p] => by
    show (p ++ ([44, 32] ++ joinL [44, 32] [x])) ++ y = p ++ ([44, 32] ++ (x ++ y))
    rw [List.append_assoc, List.append_assoc]
    rfl
  | p :: q :: a => by
    show (p ++ ([44, 32] ++ joinL [44, 32] (q :: a ++ [x]))) ++ y = p ++ ([44, 32] ++ pj (x ++ y) (q :: a))
    rw [← joinL_pj (a := q :: a), List.append_assoc, List.append_assoc]
theorem allSome_app {α β : Type} {f : α → Option β} : ∀ {l m : List α} {r s : List β}, allSome f l = some r → allSome f m = some s → allSome f (l ++ m) = some (r ++ s)
  | [], _, r, _, h, k => by cases h; exact k
  | a :: l, m, r, s, h, k => by
    unfold allSome at h
    cases e1 : f a with
    | none => rw [e1] at h; cases h
    | some b =>
      rw [e1] at h
      cases e2 : allSome f l with
      | none => rw [e2] at h; cases h
      | some r' =>
        rw [e2] at h
        cases h
        show allSome f (a :: (l ++ m)) = _
        unfold allSome
        rw [e1, allSome_app e2 k]
        rfl
/-- a sign stays in one of the parts -/
theorem mem_spl {c : Nat} (hc : c ≠ 58) : ∀ (l acc : List Nat), (c ∈ acc ∨ c ∈ l) → ∃ w ∈ spl [58] 0 acc l, c ∈ w
  | [], acc, h => by
    rw [spl_nil]
    exact ⟨acc, List.mem_singleton.mpr rfl, h.elim id fun z => absurd z (by simp)⟩
  | d :: l, acc, h => by
    by_cases e : pre [58] (d :: l) = true
    · rw [spl_hit e]
      have ed : d = 58 := by
        unfold pre at e
        have := beq_iff_eq.mp e
        exact (List.cons.inj this).1
      rcases h with h | h
      · exact ⟨acc, List.mem_cons_self, h⟩
      · rcases List.mem_cons.mp h with z | z
        · exact absurd (z.trans ed) hc
        · obtain ⟨w, hw, hcw⟩ := mem_spl hc l [] (.inr z)
          exact ⟨w, List.mem_cons_of_mem _ hw, hcw⟩
    · rw [spl_miss (by simpa using e)]
      refine mem_spl hc l (acc ++ [d]) ?_
      rcases h with h | h
      · exact .inl (List.mem_append_left _ h)
      · rcases List.mem_cons.mp h with z | z
        · exact .inl (List.mem_append_right _ (by simp [z]))
        · exact .inr z
theorem pointL_none {l : List Nat} (h : 44 ∈ l) : pointL l = none := by
  obtain ⟨w, hw, hc⟩ := mem_spl (c := 44) (by decide) l [] (.inr h)
  have hr : readL w = none := by
    cases e : readL w with
    | none => rfl
    | some q =>
      have := (readL_some e).2.2
      rw [← this] at hc
      exact absurd hc (numQ_free (by omega))
  unfold pointL
  rw [allSome_none.mpr ⟨w, hw, hr⟩]
/-- the parts of a desk's text -/
def ptsQ (ps : List (List (Int × Int))) : List (List Nat) := ps.map ptQ
theorem tl_showP (p : List (Int × Int)) : tl (showP p) = ptQ p := by
  have e : tl (Str.ofString ":") = [58] := by decide +kernel
  have e2 : (p.map showN).map tl = p.map numQ := by
    rw [List.map_map]
    exact List.map_congr_left fun q _ => tl_showN q
  unfold showP ptQ
  rw [join_eq, tl_join, e, e2]
theorem tl_showPs (ps : List (List (Int × Int))) : tl (showPs ps) = joinL [44, 32] (ptsQ ps) := by
  have e : tl (Str.ofString ", ") = [44, 32] := by decide +kernel
  have e2 : (ps.map showP).map tl = ptsQ ps := by
    unfold ptsQ
    rw [List.map_map]
    exact List.map_congr_left fun q _ => tl_showP q
  unfold showPs
  rw [join_eq, tl_join, e, e2]
theorem ptsQ_free {ps : List (List (Int × Int))} : ∀ p ∈ ptsQ ps, 44 ∉ p := fun p hp => by
  obtain ⟨q, _, rfl⟩ := List.mem_map.mp hp
  exact ptQ_free
theorem ptsQ_read {ps : List (List (Int × Int))} (hok : ∀ p ∈ ps, OkPt p) (hn : ∀ p ∈ ps, ∀ q ∈ p, Nice q) : allSome pointL (ptsQ ps) = some ps :=
  allSome_of (by unfold ptsQ; rw [List.length_map]) fun i a b ha hb => by
    unfold ptsQ at ha
    rw [List.getElem?_map, hb] at ha
    cases ha
    exact pointL_pt (hok b (List.mem_of_getElem? hb)) (hn b (List.mem_of_getElem? hb))
/-- a good text and what stands behind it -/
theorem text_more {ps : List (List (Int × Int))} (h0 : 0 < ps.length) (z : List Nat) : joinL [44, 32] (ptsQ ps) ++ ([44, 32] ++ z) = pj z (ptsQ ps) := by
  have hne : ptsQ ps ≠ [] := fun e => by
    unfold ptsQ at e
    rw [List.map_eq_nil_iff] at e
    rw [e] at h0
    exact absurd h0 (by decide)
  obtain ⟨a, x, e⟩ : ∃ a x, ptsQ ps = a ++ [x] := ⟨_, _, (List.dropLast_concat_getLast hne).symm⟩
  rw [e, joinL_pj, pj_snoc]
theorem text_self {ps : List (List (Int × Int))} (hok : ∀ p ∈ ps, OkPt p) (hn : ∀ p ∈ ps, ∀ q ∈ p, Nice q) (h0 : 0 < ps.length) : partsL (joinL [44, 32] (ptsQ ps)) = some ps := by
  have hne : ptsQ ps ≠ [] := fun e => by
    unfold ptsQ at e
    rw [List.map_eq_nil_iff] at e
    rw [e] at h0
    exact absurd h0 (by decide)
  unfold partsL
  rw [spl_join hne ptsQ_free]
  exact ptsQ_read hok hn
/-- a good text with a last part that has a comma -/
theorem text_comma {ps : List (List (Int × Int))} (h0 : 0 < ps.length) (z : List Nat) (hz : ∀ x : List Nat, 44 ∉ x → spl [44, 32] 0 [] (x ++ 44 :: z) = [x ++ 44 :: z]) : partsL (joinL [44, 32] (ptsQ ps) ++ 44 :: z) = none := by
  have hne : ptsQ ps ≠ [] := fun e => by
    unfold ptsQ at e
    rw [List.map_eq_nil_iff] at e
    rw [e] at h0
    exact absurd h0 (by decide)
  have hfree := ptsQ_free (ps := ps)
  obtain ⟨a, x, e⟩ : ∃ a x, ptsQ ps = a ++ [x] := ⟨_, _, (List.dropLast_concat_getLast hne).symm⟩
  rw [e] at hfree ⊢
  unfold partsL
  rw [joinL_pj, pj_spl fun p hp => hfree p (List.mem_append_left _ hp), hz _ (hfree _ (List.mem_append_right _ (by simp)))]
  exact allSome_none.mpr ⟨_, List.mem_append_right _ (List.mem_singleton.mpr rfl), pointL_none (by simp)⟩
theorem comma_alone {z : List Nat} (hz : z = [] ∨ z = [53, 58, 49]) (x : List Nat) (hx : 44 ∉ x) : spl [44, 32] 0 [] (x ++ 44 :: z) = [x ++ 44 :: z] := by
  have h := spl_last (S := [44, 32]) (p := x ++ 44 :: z) (acc := []) fun i hi => by
    by_cases c : i < x.length
    · exact free_of hx i c
    · rw [List.drop_append, List.drop_eq_nil_of_le (by omega), List.nil_append]
      rcases hz with e | e
      · subst e
        rw [List.length_append] at hi
        have : i - x.length = 0 := by simp at hi; omega
        rw [this]
        rfl
      · subst e
        rw [List.length_append] at hi
        have h4 : i - x.length < 4 := by simp at hi; omega
        have : i - x.length = 0 ∨ i - x.length = 1 ∨ i - x.length = 2 ∨ i - x.length = 3 := by omega
        rcases this with e | e | e | e <;> rw [e] <;> rfl
  rw [List.nil_append] at h
  exact h
theorem text_tail {ps : List (List (Int × Int))} (hok : ∀ p ∈ ps, OkPt p) (hn : ∀ p ∈ ps, ∀ q ∈ p, Nice q) (h0 : 0 < ps.length) {z : List Nat} : partsL (joinL [44, 32] (ptsQ ps) ++ ([44, 32] ++ z)) = match allSome pointL (spl [44, 32] 0 [] z) with
    | some r => some (ps ++ r)
    | none => none := by
  rw [text_more h0]
  unfold partsL
  rw [pj_spl ptsQ_free]
  cases e : allSome pointL (spl [44, 32] 0 [] z) with
  | some r => exact allSome_app (ptsQ_read hok hn) e
  | none =>
    obtain ⟨a, ha, hn⟩ := allSome_none.mp e
    exact allSome_none.mpr ⟨a, List.mem_append_right _ ha, hn⟩
end K3
/-! the texts that a desk refuses, and how -/
namespace K3
open PySem PySem.Spec PyProof.Rows L2 HotX TL
/-- a text that a desk refuses so -/
def TextFail (l : List Nat) (due : String) : Prop := l.length ≤ 90000 ∧ (∀ ps, partsL l = some ps → ps.length < 64) ∧ ((fate (partsL l) = .text ∧ due = "text") ∨ (fate (partsL l) = .points ∧ due = "points") ∨ (fate (partsL l) = .many ∧ due = "many"))
theorem TextFail.desk {H : Hp} {t : Str} {l : List Nat} {due : String} (e : TL.tl t = l) (h : TextFail l due) : DeskFail H (.str t) due := by
  subst e
  exact .inl ⟨t, rfl, by rw [len_tl]; exact h.1, h.2.1, h.2.2⟩
def fnum : Fate → Nat
  | .text => 0
  | .points => 1
  | .many => 2
  | .good => 3
theorem fnum_text {f : Fate} (h : fnum f = 0) : f = .text := by cases f <;> first | rfl | cases h
theorem fnum_points {f : Fate} (h : fnum f = 1) : f = .points := by cases f <;> first | rfl | cases h
theorem fnum_many {f : Fate} (h : fnum f = 2) : f = .many := by cases f <;> first | rfl | cases h
/-- a text without a pen's part in it: by counting -/
def failB (l : List Nat) (n : Nat) : Bool := decide (l.length ≤ 90000) && ((match partsL l with
  | some ps => decide (ps.length < 64)
  | none => true) && decide (fnum (fate (partsL l)) = n))
theorem failB_1 {l : List Nat} {n : Nat} (h : failB l n = true) : l.length ≤ 90000 ∧ (∀ ps, partsL l = some ps → ps.length < 64) ∧ fnum (fate (partsL l)) = n := by
  unfold failB at h
  rw [Bool.and_eq_true, Bool.and_eq_true, decide_eq_true_iff, decide_eq_true_iff] at h
  refine ⟨h.1, fun ps e => ?_, h.2.2⟩
  have := h.2.1
  rw [e] at this
  exact of_decide_eq_true this
theorem fail_text {l : List Nat} (h : failB l 0 = true) : TextFail l "text" := let ⟨a, b, c⟩ := failB_1 h; ⟨a, b, .inl ⟨fnum_text c, rfl⟩⟩
theorem fail_points {l : List Nat} (h : failB l 1 = true) : TextFail l "points" := let ⟨a, b, c⟩ := failB_1 h; ⟨a, b, .inr (.inl ⟨fnum_points c, rfl⟩)⟩
theorem fail_many {l : List Nat} (h : failB l 2 = true) : TextFail l "many" := let ⟨a, b, c⟩ := failB_1 h; ⟨a, b, .inr (.inr ⟨fnum_many c, rfl⟩)⟩
/-- thirteen points -/
def fullL : List Nat := joinL [44, 32] ((List.range 13).map fun n => numL n ++ [58, 49])
theorem f_empty : TextFail [] "text" := fail_text (by decide +kernel)
theorem f_top : TextFail (cc "1:1000000") "text" := fail_text (by decide +kernel)
theorem f_low : TextFail (cc "1:1:1/1000000") "text" := fail_text (by decide +kernel)
theorem f_one : TextFail (cc "1") "text" := fail_text (by decide +kernel)
theorem f_four : TextFail (cc "1:2:3:4") "text" := fail_text (by decide +kernel)
theorem f_full : TextFail fullL "many" := fail_many (by decide +kernel)
theorem f_again : TextFail (fullL ++ cc ", 3:4") "points" := fail_points (by decide +kernel)
theorem f_wide : TextFail (fullL ++ cc ", 1234567:4") "text" := fail_text (by decide +kernel)
section
variable {ps : List (List (Int × Int))}
theorem nice_all (g : GoodPts ps) : ps.all (fun p => p.all smallB) = true := List.all_eq_true.mpr fun p hp => List.all_eq_true.mpr fun q hq => (g.nice p hp q hq).2
theorem GoodPts.fine (g : GoodPts ps) : ∀ p ∈ ps, FinePt p := fun p hp => by
  refine ⟨by have := (g.ok p hp).1; omega, fun q hq => ?_⟩
  have h := g.nice p hp q hq
  have h2 := h.2
  unfold smallB at h2
  rw [Bool.and_eq_true, decide_eq_true_iff, decide_eq_true_iff] at h2
  have h3 := h.1
  unfold lowB at h3
  rw [Bool.and_eq_true, decide_eq_true_iff] at h3
  have : (1000000 : Nat) < 10 ^ 100 := by decide
  exact ⟨by omega, by omega⟩
theorem GoodPts.read (g : GoodPts ps) : partsL (tl (showPs ps)) = some ps := by
  rw [tl_showPs]
  exact text_self g.ok g.nice g.pos
theorem GoodPts.good (g : GoodPts ps) : fate (some ps) = .good := by
  rw [fate_some, if_pos (nice_all g), if_pos g.nd, if_neg (by have := g.told; omega)]
theorem GoodPts.len (g : GoodPts ps) : (showPs ps).length ≤ 4000 := by
  have h := showPs_len g.fine
  have := g.few
  omega
theorem GoodPts.llen (g : GoodPts ps) : (joinL [44, 32] (ptsQ ps)).length ≤ 4000 := by
  rw [← tl_showPs, ← len_tl]
  exact g.len
/-- the first place -/
def headQ (ps : List (List (Int × Int))) : Int × Int := (places ps).headD (0, 0)
theorem GoodPts.head (g : GoodPts ps) : headQ ps ∈ places ps ∧ Nice (headQ ps) := by
  have h0 := g.pos
  cases ps with
  | nil => exact absurd h0 (by decide)
  | cons p r =>
    have hp := g.ok p List.mem_cons_self
    cases p with
    | nil => rcases hp.1 with e | e <;> cases e
    | cons q p => exact ⟨List.mem_cons_self, g.nice _ List.mem_cons_self q List.mem_cons_self⟩
/-- a desk's first point told again -/
def moreL (ps : List (List (Int × Int))) : List Nat := numQ (headQ ps) ++ [58, 49]
def morePt (ps : List (List (Int × Int))) : List (Int × Int) := [headQ ps, (1, 1)]
theorem more_eq (g : GoodPts ps) : moreL ps = ptQ (morePt ps) := by
  show _ = numQ (headQ ps) ++ ([58] ++ numQ (1, 1))
  have e : numQ (1, 1) = [49] := by decide +kernel
  rw [e]
  rfl
theorem nice_one : Nice (1, 1) := ⟨by decide +kernel, by decide +kernel⟩
theorem more_ok' (g : GoodPts ps) : OkPt (morePt ps) ∧ ∀ q ∈ morePt ps, Nice q := by
  have h := g.head.2
  have k : ∀ q ∈ morePt ps, Nice q := fun q hq => by
    unfold morePt at hq
    rcases List.mem_cons.mp hq with e | e
    · rw [e]; exact h
    · rw [List.mem_singleton.mp e]; exact nice_one
  exact ⟨⟨.inl rfl, fun q hq => (k q hq).1⟩, k⟩
theorem more_len (g : GoodPts ps) : (moreL ps).length ≤ 1000 := by
  have hf : Fine (headQ ps) := by
    have h0 := g.pos
    cases ps with
    | nil => exact absurd h0 (by decide)
    | cons p r =>
      have hp := g.ok p List.mem_cons_self
      cases p with
      | nil => rcases hp.1 with e | e <;> cases e
      | cons q p => exact (g.fine _ List.mem_cons_self).2 q List.mem_cons_self
  have h := showN_len hf
  rw [len_tl, tl_showN] at h
  unfold moreL
  rw [List.length_append]
  show _ + 2 ≤ 1000
  omega
theorem lenB {l z : List Nat} (h : l.length ≤ 4000) (hz : z.length ≤ 2100) : (l ++ z).length ≤ 90000 := by
  rw [List.length_append]
  omega
/-- T + ',', T + ',5:1' -/
theorem f_comma (g : GoodPts ps) {z : List Nat} (hz : z = [] ∨ z = [53, 58, 49]) : TextFail (joinL [44, 32] (ptsQ ps) ++ 44 :: z) "text" := by
  have e := text_comma g.pos z (comma_alone hz)
  refine ⟨lenB g.llen (by rcases hz with e | e <;> rw [e] <;> decide), fun ps' h => ?_, .inl ⟨?_, rfl⟩⟩
  · rw [e] at h; cases h
  · rw [e]; rfl
/-- T + ', ' + z, where z is not read -/
theorem f_tail (g : GoodPts ps) {z : List Nat} (hz : z.length ≤ 2000) (h : allSome pointL (spl [44, 32] 0 [] z) = none) : TextFail (joinL [44, 32] (ptsQ ps) ++ ([44, 32] ++ z)) "text" := by
  have e := text_tail g.ok g.nice g.pos (z := z)
  rw [h] at e
  refine ⟨lenB g.llen (by rw [List.length_append]; show 2 + _ ≤ 2100; omega), fun ps' h => ?_, .inl ⟨?_, rfl⟩⟩
  · rw [e] at h; cases h
  · rw [e]; rfl
/-- T + ', ' + z, where a number of z is too great -/
theorem f_great (g : GoodPts ps) {z : List Nat} {r : List (List (Int × Int))} (hz : z.length ≤ 2000) (h : allSome pointL (spl [44, 32] 0 [] z) = some r) (hr : r.length ≤ 5) (hs : r.all (fun p => p.all smallB) = false) : TextFail (joinL [44, 32] (ptsQ ps) ++ ([44, 32] ++ z)) "text" := by
  have e := text_tail g.ok g.nice g.pos (z := z)
  rw [h] at e
  have hf := g.few
  refine ⟨lenB g.llen (by rw [List.length_append]; show 2 + _ ≤ 2100; omega), fun ps' h => ?_, .inl ⟨?_, rfl⟩⟩
  · rw [e] at h
    cases h
    rw [List.length_append]
    omega
  · rw [e]
    show fate (some (ps ++ r)) = _
    rw [fate_some, List.all_append, hs, Bool.and_false, if_neg Bool.false_ne_true]
theorem places_app (ps r : List (List (Int × Int))) : places (ps ++ r) = places ps ++ places r := List.map_append
/-- T + ', ' + more -/
theorem f_twice (g : GoodPts ps) : TextFail (joinL [44, 32] (ptsQ ps) ++ ([44, 32] ++ moreL ps)) "points" := by
  have hm := more_ok' g
  have hsp : allSome pointL (spl [44, 32] 0 [] (moreL ps)) = some [morePt ps] := by
    rw [more_eq g, spl_last1 ptQ_free, List.nil_append]
    unfold allSome
    rw [pointL_pt hm.1 hm.2]
    rfl
  have e := text_tail g.ok g.nice g.pos (z := moreL ps)
  rw [hsp] at e
  have hl := more_len g
  have hf := g.few
  refine ⟨lenB g.llen (by rw [List.length_append]; show 2 + _ ≤ 2100; omega), fun ps' h => ?_, .inr (.inl ⟨?_, rfl⟩)⟩
  · rw [e] at h
    cases h
    rw [List.length_append]
    show _ + 1 < 64
    omega
  · rw [e]
    show fate (some (ps ++ [morePt ps])) = _
    have hall : (ps ++ [morePt ps]).all (fun p => p.all smallB) = true := by
      rw [List.all_append, nice_all g, Bool.true_and]
      exact List.all_eq_true.mpr fun p hp => by
        rw [List.mem_singleton.mp hp]
        exact List.all_eq_true.mpr fun q hq => (hm.2 q hq).2
    have hnd : ¬ (places (ps ++ [morePt ps])).Nodup := by
      rw [places_app, List.nodup_append]
      exact fun z => z.2.2 (headQ ps) g.head.1 (headQ ps) List.mem_cons_self rfl
    rw [fate_some, if_pos hall, if_neg hnd]
/-- more + ', ' + T -/
theorem f_ahead (g : GoodPts ps) : TextFail (moreL ps ++ ([44, 32] ++ joinL [44, 32] (ptsQ ps))) "points" := by
  have hm := more_ok' g
  have hne : ptsQ ps ≠ [] := fun e => by
    unfold ptsQ at e
    rw [List.map_eq_nil_iff] at e
    have := g.pos
    rw [e] at this
    exact absurd this (by decide)
  have hps : partsL (moreL ps ++ ([44, 32] ++ joinL [44, 32] (ptsQ ps))) = some (morePt ps :: ps) := by
    unfold partsL
    rw [more_eq g]
    have := spl_part1 (s := 44) (S := [32]) (p := ptQ (morePt ps)) (rest := joinL [44, 32] (ptsQ ps)) (acc := []) ptQ_free
    rw [show ([44, 32] : List Nat) ++ joinL [44, 32] (ptsQ ps) = 44 :: [32] ++ joinL [44, 32] (ptsQ ps) from rfl, this, List.nil_append, spl_join hne ptsQ_free]
    unfold allSome
    rw [pointL_pt hm.1 hm.2, ptsQ_read g.ok g.nice]
  have hl := more_len g
  have hll := g.llen
  have hf := g.few
  refine ⟨by rw [List.length_append, List.length_append]; show _ + (2 + _) ≤ 90000; omega, fun ps' h => ?_, .inr (.inl ⟨?_, rfl⟩)⟩
  · rw [hps] at h
    cases h
    rw [List.length_cons]
    omega
  · rw [hps]
    have hall : (morePt ps :: ps).all (fun p => p.all smallB) = true := by
      rw [List.all_cons, nice_all g, Bool.and_true]
      exact List.all_eq_true.mpr fun q hq => (hm.2 q hq).2
    have hnd : ¬ (places (morePt ps :: ps)).Nodup := fun z => (List.nodup_cons.mp (show (headQ ps :: places ps).Nodup from z)).1 g.head.1
    rw [fate_some, if_pos hall, if_neg hnd]
/-- T + ', ' + more + ', 1:2000000' -/
theorem f_both (g : GoodPts ps) : TextFail (joinL [44, 32] (ptsQ ps) ++ ([44, 32] ++ (moreL ps ++ cc ", 1:2000000"))) "text" := by
  have hm := more_ok' g
  have ec : cc ", 1:2000000" = 44 :: [32] ++ cc "1:2000000" := by decide +kernel
  have hl := more_len g
  refine f_great g (r := [morePt ps, [(1, 1), (2000000, 1)]]) ?_ ?_ (by show 2 ≤ 5; decide) ?_
  · rw [List.length_append]
    have : (cc ", 1:2000000").length = 11 := by decide +kernel
    omega
  · rw [more_eq g, ec, spl_part1 ptQ_free, List.nil_append]
    have e2 : allSome pointL (spl [44, 32] 0 [] (cc "1:2000000")) = some [[(1, 1), (2000000, 1)]] := by decide +kernel
    unfold allSome
    rw [pointL_pt hm.1 hm.2, e2]
  · rw [List.all_cons, List.all_cons]
    have : ([(1, 1), (2000000, 1)] : List (Int × Int)).all smallB = false := by decide +kernel
    rw [this, Bool.false_and, Bool.and_false]
theorem f_million (g : GoodPts ps) : TextFail (joinL [44, 32] (ptsQ ps) ++ cc ", 1000000:1") "text" := by
  have ec : cc ", 1000000:1" = [44, 32] ++ cc "1000000:1" := by decide +kernel
  rw [ec]
  exact f_great g (r := [[(1000000, 1), (1, 1)]]) (by decide +kernel) (by decide +kernel) (by decide) (by decide +kernel)
theorem f_open (g : GoodPts ps) : TextFail (joinL [44, 32] (ptsQ ps) ++ cc ", ") "text" := by
  have ec : cc ", " = [44, 32] ++ [] := by decide +kernel
  rw [ec]
  exact f_tail g (by decide) (by decide +kernel)
theorem f_c1 (g : GoodPts ps) : TextFail (joinL [44, 32] (ptsQ ps) ++ cc ",") "text" := by
  have ec : cc "," = [44] := by decide +kernel
  rw [ec]
  exact f_comma g (.inl rfl)
theorem f_c5 (g : GoodPts ps) : TextFail (joinL [44, 32] (ptsQ ps) ++ cc ",5:1") "text" := by
  have ec : cc ",5:1" = 44 :: [53, 58, 49] := by decide +kernel
  rw [ec]
  exact f_comma g (.inr rfl)
end
end K3
/-! desks that are refused: the walk of _law_no_desk -/
namespace K3
open PySem PySem.Spec PyProof.Rows L2 HotX Evl
theorem NoStr.keep {H H' : Hp} {v : V} {a : Addr} (h : NoStr H v) (k : Keep a H H') (p : PenAt H' a) : NoStr H' v := by
  have pen : NoStr H' (.ref a) := by
    obtain ⟨x, y, z, e⟩ := p
    exact .lst e
  cases h with
  | non => exact .non
  | int i => exact .int i
  | bl b => exact .bl b
  | @lst b xs h =>
    by_cases e : b = a
    · rw [e]; exact pen
    · exact .lst (k _ _ h e)
  | @tup b xs h =>
    by_cases e : b = a
    · rw [e]; exact pen
    · exact .tup (k _ _ h e)
theorem DeskFail.same {H H' : Hp} {v : V} {due : String} (h : DeskFail H v due) (s : Same H H') : DeskFail H' v due := by
  rcases h with h | ⟨h, e⟩
  · exact .inl h
  · exact .inr ⟨h.same s, e⟩
theorem DeskFail.keep {H H' : Hp} {v : V} {due : String} {a : Addr} (h : DeskFail H v due) (k : Keep a H H') (p : PenAt H' a) : DeskFail H' v due := by
  rcases h with h | ⟨h, e⟩
  · exact .inl h
  · exact .inr ⟨h.keep k p, e⟩
/-- u is a pair (what is no desk, how it is refused) -/
def PairD (K : PySem.W.Frag) (H : Hp) (u : V) : Prop := ∃ a v due, u = .ref a ∧ SqT K H a [v, sV due] ∧ DeskFail H v due
theorem PairD.same {K : PySem.W.Frag} {H H' : Hp} {u : V} (h : PairD K H u) (s : Same H H') : PairD K H' u := by
  obtain ⟨a, v, due, e, h1, h2⟩ := h
  exact ⟨a, v, due, e, Same.tup s h1, h2.same s⟩
/-- a row of such pairs is made -/
def EvD (K : PySem.W.Frag) (σ : L2.St) (n : Nat) (ta : TA) : Prop := ∀ (H : Hp) (Qa : List V → Hp → Prop), (∀ ys H', Same H H' → (∀ u ∈ ys, PairD K H' u) → ys.length = n → Qa ys H') → ta σ H Qa
section
variable {K : PySem.W.Frag} {σ : L2.St}
theorem evd_nil : EvD K σ 0 tNil := fun H Qa k => k [] H (Same.refl H) (fun u hu => absurd hu (by simp)) rfl
theorem evd_cons {n : Nat} {tX : TE} {ta : TA} {v : V} {due : String} (hX : ∀ (H : Hp) (Qx : VK), Qx v H → tX σ H Qx) (hv : ∀ H, DeskFail H v due) (ht : EvD K σ n ta) : EvD K σ (n + 1) (tCons (tTup (tCons tX (tCons (tC (sV due)) tNil))) ta) := fun H Qa k => by
  refine hX H _ ⟨(by show 2 ≤ sizeLine; decide), fun p hp => ?_⟩
  have s1 := Same.new (o := .tup [v, sV due]) hp
  refine ht _ _ fun ys H' s2 hys hl => ?_
  refine k _ H' (s1.trans s2) (fun u hu => ?_) (by rw [List.length_cons, hl])
  rcases List.mem_cons.mp hu with e | e
  · rw [e]
    exact ⟨p, v, due, rfl, Same.tup s2 (SqT.of upd_same), hv _⟩
  · exact hys u e
theorem evd_lst {n : Nat} {tX : TE} {ta : TA} {v : V} (hX : ∀ (H : Hp) (Qx : VK), Qx v H → tX σ H Qx) (ht : EvD K σ n ta) : EvD K σ (n + 1) (tCons (tTup (tCons (tLst (tCons tX tNil)) (tCons (tC (sV "text")) tNil))) ta) := fun H Qa k => by
  refine hX H _ ⟨(by show 1 ≤ sizeLine; decide), fun l hl => ?_⟩
  have s0 := Same.new (o := .lst [v]) hl
  refine ⟨(by show 2 ≤ sizeLine; decide), fun p hp => ?_⟩
  have s1 := Same.new (o := .tup [.ref l, sV "text"]) hp
  refine ht _ _ fun ys H' s2 hys hn => ?_
  refine k _ H' (s0.trans (s1.trans s2)) (fun u hu => ?_) (by rw [List.length_cons, hn])
  rcases List.mem_cons.mp hu with e | e
  · rw [e]
    exact ⟨p, .ref l, "text", rfl, Same.tup s2 (SqT.of upd_same), .inr ⟨.lst (s2 _ _ (s1 _ _ upd_same)), rfl⟩⟩
  · exact hys u e
theorem more_desk {ta : TA} {u : TS} {D0 : Ends} {x0 x1 x2 x3 x4 x5 : Option V} {p : Addr} {H : Hp} {n m : Nat} {xs : List V} (hp : H p = some (.lst xs)) (hx : ∀ u ∈ xs, PairD K H u) (hxl : xs.length = n) (hn : n ≤ 500) (hm : m ≤ 500)
    (ht : EvD K [x0, x1, x2, x3, x4, x5, some (.ref p)] m ta)
    (k : ∀ p' zs H', Same H H' → H' p' = some (.lst zs) → (∀ u ∈ zs, PairD K H' u) → zs.length = n + m → u D0 [x0, x1, x2, x3, x4, x5, some (.ref p')] H') :
    tSeq (tAsg (tOp rCat (tVar 6) (tLst ta)) (gName 6)) u D0 [x0, x1, x2, x3, x4, x5, some (.ref p)] H := by
  refine ⟨_, rfl, ht H _ fun ys H1 s1 hys hyl => ⟨short (by omega), fun l hl => ?_⟩⟩
  have s2 := Same.new (o := .lst ys) hl
  refine ⟨p, l, xs, ys, rfl, rfl, s2 _ _ (s1 _ _ hp), upd_same, short (by omega), fun q hq => ?_⟩
  have s3 := Same.new (o := .lst (xs ++ ys)) hq
  refine k q _ _ (s1.trans (s2.trans s3)) upd_same (fun u hu => ?_) (by rw [List.length_append]; omega)
  rcases List.mem_append.mp hu with e | e
  · exact (hx u e).same (s1.trans (s2.trans s3))
  · exact (hys u e).same (s2.trans s3)
end
theorem first_desk {K : PySem.W.Frag} {ta : TA} {u : TS} {D0 : Ends} {x0 x1 x2 x3 x4 x5 x6 : Option V} {H : Hp} {m : Nat} (hm : m ≤ 500) (ht : EvD K [x0, x1, x2, x3, x4, x5, x6] m ta)
    (k : ∀ p' zs H', Same H H' → H' p' = some (.lst zs) → (∀ u ∈ zs, PairD K H' u) → zs.length = m → u D0 [x0, x1, x2, x3, x4, x5, some (.ref p')] H') :
    tSeq (tAsg (tLst ta) (gName 6)) u D0 [x0, x1, x2, x3, x4, x5, x6] H := by
  refine ht H _ fun ys H1 s1 hys hyl => ⟨short (by omega), fun l hl => ?_⟩
  have s2 := Same.new (o := .lst ys) hl
  exact k l ys _ (s1.trans s2) upd_same (fun u hu => (hys u hu).same s2) hyl
theorem lc_range_n {lo : Int} {n m : Nat} {te : TE} {vs : List Nat} {σ : L2.St} {H1 : Hp} {D : Addr} {Qd : Hp → Prop} (R : Nat → V → Hp → Prop) (hD : H1 D = none) (hz : n ≤ sizeLine)
    (hw : ∀ x, wipe ((wipe σ vs).set m (some x)) vs = wipe σ vs) (mono : ∀ j y H H2 ys, R j y H → H D = some (.lst ys) → Keep D H H2 → R j y H2)
    (step : ∀ (i : Nat) H', i < n → Same H1 H' → ∀ Qk : VK, (∀ y H4, Same H' H4 → R i y H4 → Qk y H4) → te ((wipe σ vs).set m (some (.int (lo + i)))) H' Qk)
    (hd : ∀ H' acc, Same H1 H' → H' D = some (.lst acc) → acc.length = n → (∀ j y, acc[j]? = some y → R j y H') → Qd H') :
    ∃ W : Nat → Nat → Hp → Prop, (∃ m, W 0 m (upd H1 D (.lst []))) ∧ ∀ i k H, W i k H →
      ((Itr lo n).stop i H ∧ Qd H) ∨ ((Itr lo n).go i H ∧ ∃ Nx : Hp → Prop, (∀ H', Nx H' → ∃ m', m' < k ∧ W (i + 1) m' H') ∧ ∀ x H', (Itr lo n).yld i H x H' → gName m x (wipe σ vs) H' fun σ2 H2 => wipe σ2 vs = wipe σ vs ∧ tYes σ2 H2 fun b H3 =>
        if b = true then te σ2 H3 fun y H4 => ∃ acc, H4 D = some (.lst acc) ∧ acc.length < sizeLine ∧ Nx (upd H4 D (.lst (acc ++ [y]))) else Nx H3) :=
  lc_range (Made H1 D R) (Made.zero hD) (fun i H' hi md => ⟨hw _, by
    show (if true = true then te _ H' _ else Made H1 D R (i + 1) H')
    rw [if_pos rfl]
    exact step i H' hi md.1 _ fun y H4 s r => Made.next hD mono md (Nat.lt_of_lt_of_le hi hz) s r⟩) fun H' ⟨s, acc, h1, h2, h3⟩ => hd H' acc s h1 h2 h3
theorem fine13 {i : Nat} (h : i < 13) : (0 + (i : Int)).natAbs < 10 ^ 100 := by
  have : (13 : Nat) ≤ 10 ^ 100 := by decide
  omega
/-- thirteen points told -/
def fullS : Str := PySem.Txt.join (Str.ofString ", ") ((List.range 13).map fun i : Nat => showI (0 + (i : Int)) ++ Str.ofString ":1")
theorem tl_fullS : TL.tl fullS = fullL := by
  have e : TL.tl (Str.ofString ", ") = [44, 32] := by decide +kernel
  have e1 : TL.tl (Str.ofString ":1") = [58, 49] := by decide +kernel
  unfold fullS fullL
  rw [TL.join_eq, TL.tl_join, e, List.map_map]
  refine congrArg (TL.joinL [44, 32]) (List.map_congr_left fun i _ => ?_)
  show TL.tl (showI (0 + (i : Int)) ++ Str.ofString ":1") = _
  rw [TL.tl_append, e1, Int.zero_add, tl_showI_nat]
section
variable {L : Bool} {P : Program} {w : World} {K : PySem.W.Frag} {mg : Str → Option Value} {base : Heap} {A : Ads}
theorem sc__law_no_desk : FnScope ["_law_pen_here", "_law_points", "_law_text_here", "_law_more", "_law_full", "_law_k", "_law_some"] ["_law_pen_here", "_law_points"] (defScope (top 128)) := ⟨rfl, rfl, rfl, by decide +kernel, rfl, by decide +kernel, by decide +kernel⟩
def spNoDesk (K : PySem.W.Frag) : Sp := fun vs H Q _ => ∃ (pen t : Addr) (ps : List (List (Int × Int))), vs = [.ref pen, .ref t] ∧ PenAt H pen ∧ PtsT K H t ps ∧ GoodPts ps ∧
  ∀ a v due H', Keep pen H H' → PenAt H' pen → SqT K H' a [v, sV due] → DeskFail H' v due → Q (.ref a) H'
theorem ok__law_no_desk (T : Txt w K mg A) : FnG L P w K mg base 3 "_law_no_desk" ["_law_pen_here", "_law_points"] (spNoDesk K) := by
  have G__law_draw := ok__law_draw (L := L) (P := P) (base := base) T
  have G__law_text := ok__law_text (L := L) (P := P) (base := base) T
  have G__law_points_text := ok__law_points_text (L := L) (P := P) (base := base) T
  refine okG T.d__law_no_desk sc__law_no_desk (fun vs H Q E h => ?_) (fun _ _ _ _ _ _ us hl => match us, hl with | [_, _], _ => rfl) (fun f cdv A₁ outer s H vs Q E hr h => ?_)
  · obtain ⟨pen, t, ps, rfl, _⟩ := h
    rfl
  · obtain ⟨pen, t, ps, rfl, hpen, hpts, g, k⟩ := h
    refine ⟨_, (pss_cons (ps_set (i := 2) sc__law_no_desk.nd rfl (Or.inl rfl) (pe_c G__law_points_text hr (fun σ => passNo σ) (pa_cons (pv 1) pa_nil)))
      (pss_cons (ps_set (i := 3) sc__law_no_desk.nd rfl (Or.inl rfl) (pe_op op_add_str (pe_c G__law_text hr (fun σ => passNo σ) (pa_cons (pe_ix ix_tup (pe_ix ix_tup (pv 1) pe_int (fun _ _ => rfl)) pe_int (fun _ _ => rfl)) pa_nil)) pe_str))
      (pss_cut (ps_set (i := 4) sc__law_no_desk.nd rfl (Or.inl rfl) (pe_join pe_str (pe_lc (own := [("_law_k", 5)]) (by rfl) sc__law_no_desk.nd (pi_range1 rfl T.z_range (pa_cons pe_int pa_nil)) (blkOk_by (own := [("_law_k", 5)]) (N := ["_law_pen_here", "_law_points", "_law_text_here", "_law_more", "_law_full", "_law_k", "_law_some"]) (sc := defScope (top 128)) (by decide +kernel)) (fun _ _ _ _ _ => (pg_name (i := 5) sc__law_no_desk.nd rfl (Or.inl rfl))) (fun _ _ _ _ _ => pts_nil) (fun _ _ _ _ _ => (pe_op op_add_str (pe_callTy call_str_int rfl T.z_str b_str (pa_cons (pv 5) pa_nil)) pe_str)))))
      (pss_cons (ps_set (i := 6) sc__law_no_desk.nd rfl (Or.inl rfl) (pe_lst (pa_cons (pe_tup (pa_cons pe_str (pa_cons pe_str pa_nil))) (pa_cons (pe_tup (pa_cons (pe_op op_add_str (pv 2) pe_str) (pa_cons pe_str pa_nil))) (pa_cons (pe_tup (pa_cons (pe_op op_add_str (pv 2) pe_str) (pa_cons pe_str pa_nil))) (pa_cons (pe_tup (pa_cons (pe_op op_add_str (pv 2) pe_str) (pa_cons pe_str pa_nil))) pa_nil))))))
      (pss_cons (ps_set (i := 6) sc__law_no_desk.nd rfl (Or.inl rfl) (pe_op op_cat (pv 6) (pe_lst (pa_cons (pe_tup (pa_cons (pe_op op_add_str (pv 2) pe_str) (pa_cons pe_str pa_nil))) (pa_cons (pe_tup (pa_cons pe_str (pa_cons pe_str pa_nil))) (pa_cons (pe_tup (pa_cons pe_str (pa_cons pe_str pa_nil))) pa_nil))))))
      (pss_cons (ps_set (i := 6) sc__law_no_desk.nd rfl (Or.inl rfl) (pe_op op_cat (pv 6) (pe_lst (pa_cons (pe_tup (pa_cons (pe_op op_add_str (pe_op op_add_str (pe_op op_add_str (pv 2) pe_str) (pv 3)) pe_str) (pa_cons pe_str pa_nil))) (pa_cons (pe_tup (pa_cons (pe_op op_add_str (pe_op op_add_str (pv 2) pe_str) (pv 3)) (pa_cons pe_str pa_nil))) pa_nil)))))
      (pss_cons (ps_set (i := 6) sc__law_no_desk.nd rfl (Or.inl rfl) (pe_op op_cat (pv 6) (pe_lst (pa_cons (pe_tup (pa_cons (pe_op op_add_str (pe_op op_add_str (pv 3) pe_str) (pv 2)) (pa_cons pe_str pa_nil))) (pa_cons (pe_tup (pa_cons (pv 4) (pa_cons pe_str pa_nil))) (pa_cons (pe_tup (pa_cons (pe_op op_add_str (pv 4) pe_str) (pa_cons pe_str pa_nil))) pa_nil))))))
      (pss_cons (ps_set (i := 6) sc__law_no_desk.nd rfl (Or.inl rfl) (pe_op op_cat (pv 6) (pe_lst (pa_cons (pe_tup (pa_cons (pe_op op_add_str (pv 4) pe_str) (pa_cons pe_str pa_nil))) (pa_cons (pe_tup (pa_cons pe_non (pa_cons pe_str pa_nil))) (pa_cons (pe_tup (pa_cons pe_int (pa_cons pe_str pa_nil))) (pa_cons (pe_tup (pa_cons (pe_lst (pa_cons (pv 2) pa_nil)) (pa_cons pe_str pa_nil))) pa_nil)))))))
      (pss_cons (ps_set (i := 6) sc__law_no_desk.nd rfl (Or.inl rfl) (pe_op op_cat (pv 6) (pe_lst (pa_cons (pe_tup (pa_cons pe_str (pa_cons pe_str pa_nil))) (pa_cons (pe_tup (pa_cons pe_str (pa_cons pe_str pa_nil))) pa_nil)))))
      (pss_one (ps_ret (pe_ix ix_list (pv 6) (pe_c G__law_draw hr (fun σ => passNo σ) (pa_cons (pv 0) (pa_cons (pe_callB call_len_seq rfl T.z_len b_len (pa_cons (pv 6) pa_nil)) pa_nil))) (fun _ _ => rfl))))))))))))), ?_⟩
    have hfine := g.fine
    refine ⟨_, rfl, t, ps, rfl, hpts, by have := g.few; omega, hfine, fun H1 s1 => ?_⟩
    have hT := g.len
    have eT := tl_showPs ps
    obtain ⟨vs, hS, hv⟩ := hpts.same s1
    obtain ⟨v0, b, us, u0, ev, hb, hu0, hq0⟩ : ∃ v0 b us u0, atI vs 0 = some v0 ∧ v0 = V.ref b ∧ SqT K H1 b us ∧ atI us 0 = some u0 ∧ NumV K H1 u0 (headQ ps) ∧ Fine (headQ ps) := by
      have h0 := g.pos
      cases ps with
      | nil => exact absurd h0 (by decide)
      | cons p r =>
        cases vs with
        | nil => exact absurd hv.1 (by simp)
        | cons v0 vr =>
          obtain ⟨b, us, rfl, hb, hn⟩ := hv.2 0 v0 p rfl rfl
          have h2 := (g.ok p List.mem_cons_self).1
          cases p with
          | nil => rcases h2 with e | e <;> cases e
          | cons q p =>
            cases us with
            | nil => exact absurd hn.1 (by simp)
            | cons u ur => exact ⟨_, b, _, u, atI_nat (j := 0) rfl, rfl, hb, atI_nat (j := 0) rfl, hn.2 0 u q rfl rfl, (hfine _ List.mem_cons_self).2 q List.mem_cons_self⟩
    obtain ⟨eu0, hnv, hfq⟩ := hq0
    subst hb
    have hM := showN_len hfq
    have l11 : (Str.ofString ":1").length = 2 := by decide +kernel
    refine ⟨_, rfl, t, vs, _, _, rfl, rfl, hS, ev, b, us, _, _, rfl, rfl, hu0, eu0, u0, headQ ps, rfl, hnv, hfq, _, _, rfl, rfl, short (by rw [l11]; omega), ?_⟩
    have eM : TL.tl (showN (headQ ps) ++ Str.ofString ":1") = moreL ps := by
      have e1 : TL.tl (Str.ofString ":1") = [58, 49] := by decide +kernel
      rw [TL.tl_append, e1, tl_showN]
      rfl
    have hMl : (showN (headQ ps) ++ Str.ofString ":1").length ≤ 1000 := by
      rw [str_len_add, l11]
      omega
    generalize showN (headQ ps) ++ Str.ofString ":1" = M at eM hMl ⊢
    refine ⟨fun σ' H2 => σ' = [some (.ref pen), some (.ref t), some (.str (showPs ps)), some (.str M), some (.str fullS), none, none] ∧ Same H1 H2, ⟨⟨_, rfl⟩, 13, rfl, by decide, by decide, fun D hD => ?_⟩, ?_⟩
    · refine lc_range_n (fun i y _ => y = .str (showI (0 + (i : Int)) ++ Str.ofString ":1")) hD (by decide) (fun _ => rfl) (fun _ _ _ _ _ h _ _ => h) (fun i H' hi s Qk hk => ?_) fun H2 acc s2 hacc hal hall => ?_
      · have hl := showI_len (i := (0 + (i : Int))) (k := 2) (by decide) (by omega)
        refine ⟨_, rfl, _, rfl, log_fine (fine13 hi), _, _, rfl, rfl, short (by show (showI (0 + (i : Int))).length + _ ≤ _; rw [l11]; omega), ?_⟩
        exact hk _ _ (Same.refl _) rfl
      have eacc := made_eq (n := 13) (f := fun i => V.str (showI (0 + (i : Int)) ++ Str.ofString ":1")) hal hall

      refine ⟨_, D, (List.range 13).map fun i : Nat => showI (0 + (i : Int)) ++ Str.ofString ":1", rfl, rfl, .inl (SqL.of (by rw [hacc, eacc, List.map_map]; rfl)), ?_, rfl, s2⟩
      · have z := sum_le (ys := (List.range 13).map fun i : Nat => showI (0 + (i : Int)) ++ Str.ofString ":1") (n := 10) fun y hy => by
          obtain ⟨i, hi, rfl⟩ := List.mem_map.mp hy
          have hi' := List.mem_range.mp hi
          have hl := showI_len (i := (0 + (i : Int))) (k := 2) (by decide) (by omega)
          rw [str_len_add, l11]
          omega
        rw [List.length_map, List.length_range] at z
        rw [List.length_map, List.length_range, two_comma]
        exact Nat.le_trans (Nat.add_le_add_right z _) (by decide)
    rintro σ' H2 ⟨rfl, s2⟩
    have eF := tl_fullS
    have hF : fullS.length ≤ 1000 := by
      rw [TL.len_tl, eF]
      decide +kernel
    generalize fullS = F at eF hF ⊢
    generalize showPs ps = TT at eT hT ⊢
    have s3 := s1.trans s2
    have kk : ∀ (s : String), (Str.ofString s).length ≤ 100 → ∀ (x : Str), x.length ≤ 6000 → x.length + (Str.ofString s).length ≤ sizeLine := fun s hs x hx => short (by omega)
    have fT : ∀ {z : List Nat} {due : String} {x : Str}, TextFail z due → TL.tl x = z → ∀ H, DeskFail H (.str x) due := fun h e H => h.desk e
    have c1 : ∀ s : String, TL.tl (TT ++ Str.ofString s) = TL.joinL [44, 32] (ptsQ ps) ++ cc s := fun s => by rw [TL.tl_append, eT, tl_cc]
    have c2 : ∀ s : String, TL.tl (F ++ Str.ofString s) = fullL ++ cc s := fun s => by rw [TL.tl_append, eF, tl_cc]
    have ecs : cc ", " = [44, 32] := by decide +kernel
    refine first_desk (K := K) (m := 4) (by decide) ?_ fun p1 z1 H3 s4 h1 a1 n1 => ?_
    · exact (evd_cons (v := .str (Str.ofString "")) (due := "text") (fun H Qx q => q) (fT f_empty (by decide +kernel))
      (evd_cons (v := .str (TT ++ Str.ofString ",")) (due := "text") (fun H Qx q => ⟨_, rfl, _, _, rfl, rfl, kk _ (by decide +kernel) _ (by omega), q⟩) (fT (f_c1 g) (c1 _))
      (evd_cons (v := .str (TT ++ Str.ofString ", ")) (due := "text") (fun H Qx q => ⟨_, rfl, _, _, rfl, rfl, kk _ (by decide +kernel) _ (by omega), q⟩) (fT (f_open g) (c1 _))
      (evd_cons (v := .str (TT ++ Str.ofString ",5:1")) (due := "text") (fun H Qx q => ⟨_, rfl, _, _, rfl, rfl, kk _ (by decide +kernel) _ (by omega), q⟩) (fT (f_c5 g) (c1 _)) evd_nil))))
    refine more_desk (n := 4) (m := 3) h1 a1 n1 (by decide) (by decide)
      (evd_cons (v := .str (TT ++ Str.ofString ", 1000000:1")) (due := "text") (fun H Qx q => ⟨_, rfl, _, _, rfl, rfl, kk _ (by decide +kernel) _ (by omega), q⟩) (fT (f_million g) (c1 _))
      (evd_cons (v := sV "1:1000000") (due := "text") (fun H Qx q => q) (fT f_top (tl_cc _))
      (evd_cons (v := sV "1:1:1/1000000") (due := "text") (fun H Qx q => q) (fT f_low (tl_cc _)) evd_nil))) fun p2 z2 H4 s6 h2 a2 n2 => ?_
    refine more_desk (n := 7) (m := 2) h2 a2 n2 (by decide) (by decide)
      (evd_cons (v := .str (TT ++ Str.ofString ", " ++ M ++ Str.ofString ", 1:2000000")) (due := "text") (fun H Qx q => ⟨_, rfl, _, _, rfl, rfl, kk _ (by decide +kernel) _ (by omega), _, rfl, _, _, rfl, rfl, short (by rw [str_len_add, two_comma]; omega), _, _, rfl, rfl, kk _ (by decide +kernel) _ (by rw [str_len_add, str_len_add, two_comma]; omega), q⟩)
        (fT (f_both g) (by rw [TL.tl_append, TL.tl_append, c1, eM, tl_cc, ecs, List.append_assoc, List.append_assoc]))
      (evd_cons (v := .str (TT ++ Str.ofString ", " ++ M)) (due := "points") (fun H Qx q => ⟨_, rfl, _, _, rfl, rfl, kk _ (by decide +kernel) _ (by omega), _, rfl, _, _, rfl, rfl, short (by rw [str_len_add, two_comma]; omega), q⟩)
        (fT (f_twice g) (by rw [TL.tl_append, c1, eM, ecs, List.append_assoc])) evd_nil)) fun p3 z3 H5 s7 h3 a3 n3 => ?_
    refine more_desk (n := 9) (m := 3) h3 a3 n3 (by decide) (by decide)
      (evd_cons (v := .str (M ++ Str.ofString ", " ++ TT)) (due := "points") (fun H Qx q => ⟨_, rfl, _, _, rfl, rfl, kk _ (by decide +kernel) _ (by omega), _, rfl, _, _, rfl, rfl, short (by rw [str_len_add, two_comma]; omega), q⟩)
        (fT (f_ahead g) (by rw [TL.tl_append, TL.tl_append, eM, eT, tl_cc, ecs, List.append_assoc]))
      (evd_cons (v := .str F) (due := "many") (fun H Qx q => ⟨_, rfl, q⟩) (fT f_full eF)
      (evd_cons (v := .str (F ++ Str.ofString ", 3:4")) (due := "points") (fun H Qx q => ⟨_, rfl, _, _, rfl, rfl, kk _ (by decide +kernel) _ (by omega), q⟩) (fT f_again (c2 _)) evd_nil))) fun p4 z4 H6 s8 h4 a4 n4 => ?_
    refine more_desk (n := 12) (m := 4) h4 a4 n4 (by decide) (by decide)
      (evd_cons (v := .str (F ++ Str.ofString ", 1234567:4")) (due := "text") (fun H Qx q => ⟨_, rfl, _, _, rfl, rfl, kk _ (by decide +kernel) _ (by omega), q⟩) (fT f_wide (c2 _))
      (evd_cons (v := .non) (due := "text") (fun H Qx q => q) (fun H => .inr ⟨.non, rfl⟩)
      (evd_cons (v := .int 7) (due := "text") (fun H Qx q => q) (fun H => .inr ⟨.int 7, rfl⟩)
      (evd_lst (v := .str TT) (fun H Qx q => ⟨_, rfl, q⟩) evd_nil)))) fun p5 z5 H7 s9 h5 a5 n5 => ?_
    refine more_desk (n := 16) (m := 2) h5 a5 n5 (by decide) (by decide)
      (evd_cons (v := sV "1") (due := "text") (fun H Qx q => q) (fT f_one (tl_cc _))
      (evd_cons (v := sV "1:2:3:4") (due := "text") (fun H Qx q => q) (fT f_four (tl_cc _)) evd_nil)) fun p6 z6 H8 s10 h6 a6 n6 => ?_
    have sa := s3.trans (s4.trans (s6.trans (s7.trans (s8.trans (s9.trans s10)))))
    have hpa := hpen.same sa
    have np : p6 ≠ pen := fun e => by
      obtain ⟨x, y, z, e1⟩ := hpa
      rw [e, e1] at h6
      cases h6
      obtain ⟨a, v, due, e2, _⟩ := a6 (.int x) List.mem_cons_self
      cases e2
    refine ⟨_, rfl, _, rfl, _, rfl, p6, _, rfl, .inl (SqL.of h6), pen, (z6.length : Int), rfl, hpa, by omega, by omega, fun n H9 n0 nlt k9 p9 => ?_⟩
    obtain ⟨u, hu, eu⟩ := at_in n0 nlt
    obtain ⟨a, v, due, rfl, h7, h8⟩ := a6 u hu
    obtain ⟨x, y, z, e1⟩ := hpa
    exact ⟨p6, z6, n, .ref a, rfl, rfl, SqL.of (k9 _ _ h6 np), eu, k a v due H9 ((Keep.of sa).trans k9) p9 (k9.tup e1 h7) (h8.keep k9 p9)⟩
end
end K3
/-! the law: its walk -/
namespace K3
open PySem PySem.Spec PyProof.Rows L2 HotX Evl
section
variable {P : Program} {w : World} {K : PySem.W.Frag} {mg : Str → Option Value} {base : Heap} {A : Ads}
theorem sc_law : FnScope ["_law_script", "_law_pen_here", "_law_points", "_law_text_here", "_law_desk", "_law_k", "_law_row", "_law_word", "e", "_law_bad", "_law_due"] ["_law_script"] (defScope (top 129)) := ⟨rfl, rfl, rfl, by decide +kernel, rfl, by decide +kernel, by decide +kernel⟩
def spLaw (K : PySem.W.Frag) : Sp := fun vs H Q _ => ∃ (a : Addr) (ns : List Int), vs = [.ref a] ∧ SqL K H a (ns.map V.int) ∧ ∀ H', Q (.bl true) H'
/-- between two turns -/
def Between (K : PySem.W.Frag) (A : Ads) (pen t x : Addr) (ps : List (List (Int × Int))) (H : Hp) : Prop := PenAt H pen ∧ DeskAt K A H x ps ∧ PtsT K H t ps
theorem Between.same {pen t x : Addr} {ps : List (List (Int × Int))} {H H' : Hp} (h : Between K A pen t x ps H) (s : Same H H') : Between K A pen t x ps H' := ⟨h.1.same s, h.2.1.same s, h.2.2.same s⟩
theorem Between.keep {pen t x : Addr} {ps : List (List (Int × Int))} {H H' : Hp} (h : Between K A pen t x ps H) (k : Keep pen H H') (p : PenAt H' pen) : Between K A pen t x ps H' := by
  obtain ⟨a, b, c, e⟩ := h.1
  exact ⟨p, h.2.1.keep k e, h.2.2.keep k e⟩
/-- what the law's own def promises, over every base -/
def LawG (P : Program) (w : World) (K : PySem.W.Frag) (mg : Str → Option Value) : Prop :=
  ∃ (f : Addr) (fd : FuncData), mg "law" = some (.ref f) ∧ (∀ (s : Shared) (u : Value), BindsTo s fd ⟨[u], []⟩ [("_law_script", u)]) ∧ ∀ base : Heap, FnOk P w K mg base (CX true P w) 10 f fd ["_law_script"] (spLaw K)
theorem ok_law (T : Txt w K mg A) : LawG P w K mg := by
  obtain ⟨f, h1, h2, oc, od, kV, doc, pm, an, cdv, ct, osl, lk, hcd⟩ := T.d_law
  refine ⟨f, _, h1, fun s u => .of_eq rfl, fun base => fn_of lk hcd sc_law (fun vs H Q E h => ?_) fun A₁ outer s H vs Q E hr h => ?_⟩
  · obtain ⟨a, ns, rfl, _⟩ := h
    rfl
  · obtain ⟨a, ns, rfl, hS, k⟩ := h
    have G__law_pen := ok__law_pen (L := true) (P := P) (base := base) T
    have G__law_desk_points := ok__law_desk_points (L := true) (P := P) (base := base) T
    have G__law_points_text := ok__law_points_text (L := true) (P := P) (base := base) T
    have G_Desk := ok_init (L := true) (P := P) (base := base) T
    have G_say := ok_say (P := P) (base := base) T
    have G__law_refusal := ok__law_refusal (P := P) (base := base) T
    have G__law_no_row := ok__law_no_row (L := true) (P := P) (base := base) T
    have G__law_no_desk := ok__law_no_desk (L := true) (P := P) (base := base) T
    have G__law_caught := ok__law_caught (P := P) (base := base) T
    refine ⟨_, (pss_cons (ps_set (i := 1) sc_law.nd rfl (Or.inl rfl) (pe_c G__law_pen hr (fun σ => passNo σ) (pa_cons (pv 0) (pa_cons pe_int pa_nil))))
      (pss_cons (ps_set (i := 2) sc_law.nd rfl (Or.inl rfl) (pe_c G__law_desk_points hr (fun σ => passNo σ) (pa_cons (pv 1) (pa_cons pe_int pa_nil))))
      (pss_cons (ps_set (i := 3) sc_law.nd rfl (Or.inl rfl) (pe_c G__law_points_text hr (fun σ => passNo σ) (pa_cons (pv 2) pa_nil)))
      (pss_cons (ps_set (i := 4) sc_law.nd rfl (Or.inl rfl) (pe_mkG G_Desk hr T.gDesk (fun σ => passNo σ) (pa_cons (pv 3) pa_nil)))
      (pss_cut (ps_for (L2.passes_of rfl) rfl (pi_range1 rfl T.z_range (pa_cons pe_int pa_nil)) (pg_name (i := 5) sc_law.nd rfl (Or.inl rfl)) (pss_cons (ps_set (i := 6) sc_law.nd rfl (Or.inl rfl) (pe_c G__law_no_row hr (fun σ => passNo σ) (pa_cons (pv 1) pa_nil)))
      (pss_cons (ps_set (i := 7) sc_law.nd rfl (Or.inl rfl) pe_non)
      (pss_cons (ps_tryAs (i := 8) rfl rfl sc_law.nd rfl rfl ⟨rfl, by decide, Or.inl T.gCurveError⟩ (takes_of rfl rfl rfl rfl) (fun W pn xe tk2 _ => pss_one (ps_expr (pe_mG (pv 4) T.cl G_say hr (fun σ => passAt tk2 σ) (pa_cons (pv 6) pa_nil)))) (fun a oe pn hq hot hf => pss_one (ps_set (i := 7) sc_law.nd rfl (Or.inl rfl) (pe_cH (n := 9) G__law_refusal ⟨hr.dp, hr.un⟩ hot (a, oe) hq hf (fun σ => passNo σ) (pa_cons (pv 8) pa_nil)))))
      (pss_one (ps_if (PW.pt (pw_or (pt_cmpR op_ne (pv 7) pe_str (nomark _)) (pw_or1 (pt_cmpR op_ne (pe_mG (pv 4) T.cl G_say hr (fun σ => passNo σ) (pa_cons pe_str pa_nil)) (pv 3) (nomark _))))) (pss_one (ps_ret pe_bl)) pss_nil))))))
      (pss_cons (ps_for (L2.passes_of rfl) rfl (pi_range1 rfl T.z_range (pa_cons pe_int pa_nil)) (pg_name (i := 5) sc_law.nd rfl (Or.inl rfl)) (pss_cons (ps_asg (pe_c G__law_no_desk hr (fun σ => passNo σ) (pa_cons (pv 1) (pa_cons (pv 2) pa_nil))) (pg_tup rfl (pgs_cons (pg_name (i := 9) sc_law.nd rfl (Or.inl rfl)) (pgs_cons (pg_name (i := 10) sc_law.nd rfl (Or.inl rfl)) pgs_nil))))
      (pss_one (ps_if (pt_cmpR op_ne (pe_c G__law_caught hr (fun σ => passNo σ) (pa_cons (pv 1) (pa_cons (pv 9) (pa_cons pe_str pa_nil)))) (pv 10) (nomark _)) (pss_one (ps_ret pe_bl)) pss_nil))))
      (pss_one (ps_ret (pe_cmpR op_isN (pe_c G__law_caught hr (fun σ => passNo σ) (pa_cons (pv 1) (pa_cons (pv 3) (pa_cons pe_str pa_nil)))) pe_non (nomark _)))))))))), ?_⟩
    refine ⟨_, rfl, a, ns, rfl, hS, fun pen H1 s1 np p1 => ?_⟩
    refine ⟨_, rfl, pen, rfl, p1, fun t ps H2 k2 p2 hpts g => ?_⟩
    have hfine := g.fine
    have hread := g.read
    have hlen := g.len
    have hfew := g.few
    refine ⟨_, rfl, t, ps, rfl, hpts, by omega, hfine, fun H3 s3 => ?_⟩
    refine ⟨_, rfl, fun x dx nx nd ne => ?_⟩
    have s4 : Same H3 (upd (upd H3 dx (.own x)) x (.ins A.Desk dx [])) := made_same nx nd
    have hdt : DeskText (.str (showPs ps)) := ⟨_, ps, rfl, by omega, hread, by omega, g.good⟩
    refine ⟨x, _, dx, rfl, upd_same, .inl ⟨showPs ps, rfl, by omega, fun ps' h' => by rw [hread] at h'; cases h'; omega, fun hn => ?_, fun hn => ?_, fun hn => ?_, fun ps' hps' hg' b H4 kp hb hd => ⟨rfl, ?_⟩⟩⟩
    · rw [hread, g.good] at hn; cases hn
    · rw [hread, g.good] at hn; cases hn
    · rw [hread, g.good] at hn; cases hn
    rw [hread] at hps'
    cases hps'
    have s5 : Same H3 H4 := fun b o e => kp b o (s4 b o e) (ne_of_none e nx)
    have bt : Between K A pen t x ps H4 := ⟨(p2.same s3).same s5, ⟨dx, b, hd, hb⟩, (hpts.same s3).same s5⟩
    refine ⟨fun σ' H' => (∃ x5 x6 x7, σ' = [some (.ref a), some (.ref pen), some (.ref t), some (.str (showPs ps)), some (.ref x), x5, x6, x7, none, none, none]) ∧ Between K A pen t x ps H',
      ⟨12, rfl, by decide, by decide, for_range (fun i σ' H' => (∃ x5 x6 x7, σ' = [some (.ref a), some (.ref pen), some (.ref t), some (.str (showPs ps)), some (.ref x), x5, x6, x7, none, none, none]) ∧ Between K A pen t x ps H')
        ⟨⟨_, _, _, rfl⟩, bt⟩ ?_ fun σ H h => h⟩, ?_⟩
    · rintro i σ H5 _ ⟨⟨x5, x6, x7, rfl⟩, bt5⟩
      refine ⟨_, rfl, pen, rfl, bt5.1, fun v H6 k6 p6 hbad => ?_⟩
      have bt6 := bt5.keep k6 p6
      obtain ⟨dx6, b6, hd6, hb6⟩ := bt6.2.1
      refine ⟨_, rfl, x, dx6, _, rfl, hd6, lk0 (by decide +kernel), _, rfl, x, v, ps, rfl, bt6.2.1, by omega, hfine, .inl ⟨hbad, fun H7 s7 => ?_⟩⟩
      refine ⟨true, T.wRow.ce, fun _ a oe na hc hd => ⟨_, rfl, A.NoRow, false, false, false, true, rfl, hc, hd, T.wRow, rfl, fun H8 s8 => ?_⟩, fun z => nomatch z⟩
      have bt8 := (bt6.same s7).same s8
      obtain ⟨dx8, b8, hd8, hb8⟩ := bt8.2.1
      refine ⟨_, rfl, rfl, _, rfl, ?_⟩
      rw [show (!decide (V.str (Str.ofString (wordOf false false false true)) = V.str (Str.ofString "row"))) = false from by rw [show wordOf false false false true = "row" from rfl, decide_eq_true rfl]; rfl]
      refine iteF ⟨_, rfl, x, dx8, _, rfl, hd8, lk0 (by decide +kernel), x, _, ps, rfl, bt8.2.1, by omega, hfine, .inr ⟨rfl, fun H9 s9 => ?_⟩⟩
      refine ⟨_, rfl, rfl, _, rfl, ?_⟩
      rw [decide_eq_true rfl]
      exact iteF ⟨⟨_, _, _, rfl⟩, bt8.same s9⟩
    rintro σ' H5 ⟨⟨x5, x6, x7, rfl⟩, bt5⟩
    refine ⟨4, rfl, by decide, by decide, for_range (fun i σ' H' => (∃ x5 x6 x7 x9 x10, σ' = [some (.ref a), some (.ref pen), some (.ref t), some (.str (showPs ps)), some (.ref x), x5, x6, x7, none, x9, x10]) ∧ Between K A pen t x ps H')
      ⟨⟨_, _, _, _, _, rfl⟩, bt5⟩ ?_ ?_⟩
    · rintro i σ H6 _ ⟨⟨x5, x6, x7, x9, x10, rfl⟩, bt6⟩
      refine ⟨_, rfl, _, rfl, pen, t, ps, rfl, bt6.1, bt6.2.2, g, fun b v due H7 k7 p7 hb hdf => ?_⟩
      have bt7 := bt6.keep k7 p7
      refine ⟨b, _, rfl, hb, rfl, _, _, rfl, _, _, rfl, rfl, ?_⟩
      refine ⟨_, rfl, _, rfl, .ref pen, v, _, rfl, .inl ⟨due, hdf, fun H8 s8 => ?_⟩⟩
      refine ⟨_, rfl, rfl, _, rfl, ?_⟩
      rw [decide_eq_true rfl]
      exact iteF ⟨⟨_, _, _, _, _, rfl⟩, bt7.same s8⟩
    · rintro σ H6 ⟨⟨x5, x6, x7, x9, x10, rfl⟩, bt6⟩
      refine ⟨_, rfl, _, rfl, .ref pen, _, _, rfl, .inr ⟨hdt, rfl, fun H7 s7 => ?_⟩⟩
      refine ⟨rfl, ?_⟩
      rw [decide_eq_true rfl]
      exact k H7
end
end K3
/-! the head: what the top has made, looked at by one Hook -/
namespace K3
open PySem PySem.Spec PyProof.Rows L2 He
def nm0 : List Str := ["CurveError", "NoNumber", "NoCurve", "NoPoints", "TooMany", "NoPoint", "NoStretch", "TooDeep", "TooFew", "NoText", "NoRow", "NOUGHT_numbers"]
def nm1 : List Str := ["ONE_numbers", "is_whole", "shared_part", "is_number", "lowest", "number_of", "plus", "minus", "times", "over", "is_less", "curve_of"]
def nm2 : List Str := ["height_at", "number_at", "added", "lessened", "scaled", "multiplied", "slope_of", "with_line", "NOUGHT_between", "TWO", "ask_stretch", "ways_to_take"]
def nm3 : List Str := ["heights_of", "bounds_of", "means_of", "halves_of", "MOST_TOLD", "is_point", "told_count", "points_of", "told_in", "missed", "NOUGHT_steps", "ONE_steps"]
def nm4 : List Str := ["first_row", "next_row", "table_of", "steps_of", "by_steps", "curve_through", "spot_of", "with_point", "put_in", "taken_out", "with_height", "with_slope"]
def nm5 : List Str := ["divided", "with_last_one", "common_part", "DEEPEST", "ask_curve", "lone_part", "changes_in", "pieces_within", "pieces_of", "noughts_of", "MOST_PLACES", "ask_places"]
def nm6 : List Str := ["ask_told", "nought_at", "pair_for", "missed_by", "judged", "has_height", "quotient_through", "FIGURES", "MOST_FIGURES", "show_number", "whole_in", "read_number"]
def nm7 : List Str := ["show_curve", "show_points", "parts_of", "TOO_MUCH", "MOST_NUMBERS", "CHANGES", "NUMBERS", "STRETCHES", "is_small", "forms_of", "number_in", "argument_in"]
def nm8 : List Str := ["told_row", "numbers_shown", "left_shown", "Desk", "_law_pen", "_law_draw", "_law_lowest", "_law_plus", "_law_text", "_law_texts", "_law_points_text", "_law_little"]
def nm9 : List Str := ["_law_fresh", "_law_desk_points", "_law_refusal", "_law_no_number", "_law_no_row", "_law_caught", "_law_no_desk"]
def names : List Str := nm0 ++ (nm1 ++ (nm2 ++ (nm3 ++ (nm4 ++ (nm5 ++ (nm6 ++ (nm7 ++ (nm8 ++ (nm9)))))))))
def fa0 : List Fa := [.glo "is_whole", .keep "is_whole", .glo "shared_part", .keep "shared_part", .glo "is_number", .keep "is_number", .glo "lowest", .keep "lowest", .glo "number_of", .keep "number_of"]
def fa1 : List Fa := [.glo "is_point", .keep "is_point", .glo "told_count", .keep "told_count", .glo "points_of", .keep "points_of", .glo "show_number", .keep "show_number", .glo "whole_in", .keep "whole_in"]
def fa2 : List Fa := [.glo "read_number", .keep "read_number", .glo "show_points", .keep "show_points", .glo "parts_of", .keep "parts_of", .glo "is_small", .keep "is_small", .glo "forms_of", .keep "forms_of"]
def fa3 : List Fa := [.glo "number_in", .keep "number_in", .glo "argument_in", .keep "argument_in", .glo "told_row", .keep "told_row", .glo "_law_pen", .keep "_law_pen", .glo "_law_draw", .keep "_law_draw"]
def fa4 : List Fa := [.glo "_law_lowest", .keep "_law_lowest", .glo "_law_plus", .keep "_law_plus", .glo "_law_text", .keep "_law_text", .glo "_law_points_text", .keep "_law_points_text", .glo "_law_little", .keep "_law_little"]
def fa5 : List Fa := [.glo "_law_fresh", .keep "_law_fresh", .glo "_law_desk_points", .keep "_law_desk_points", .glo "_law_refusal", .keep "_law_refusal", .glo "_law_no_number", .keep "_law_no_number", .glo "_law_no_row", .keep "_law_no_row"]
def fa6 : List Fa := [.glo "_law_caught", .keep "_law_caught", .glo "_law_no_desk", .keep "_law_no_desk", .glo "law", .keep "law", .glo "Desk", .glo "CurveError", .glo "NoNumber", .glo "NoCurve"]
def fa7 : List Fa := [.glo "NoPoints", .glo "TooMany", .glo "NoPoint", .glo "NoStretch", .glo "TooDeep", .glo "TooFew", .glo "NoText", .glo "NoRow", .exc "NoNumber", .exc "NoPoints"]
def fa8 : List Fa := [.exc "TooMany", .exc "NoText", .exc "NoRow", .exm "NoText" "NoText" true, .exm "NoNumber" "NoText" false, .free "len", .free "abs", .free "isinstance", .free "all", .free "sum"]
def fa9 : List Fa := [.free "range", .free "zip", .free "set", .free "tuple", .free "int", .free "str", .free "bool", .free "list", .free "ValueError", .str "FIGURES" "0123456789"]
def fa10 : List Fa := [.int "MOST_FIGURES" 60, .int "MOST_TOLD" 12, .int "TOO_MUCH" 1000000, .int "MOST_NUMBERS" 16, .glo "CHANGES", .glo "STRETCHES", .glo "NUMBERS", .cls "Desk", .noat "Desk" "points", .mkr "Desk"]
def fa11 : List Fa := [.meth "Desk" "asked", .meth "Desk" "say"]
def fa : List Fa := fa0 ++ (fa1 ++ (fa2 ++ (fa3 ++ (fa4 ++ (fa5 ++ (fa6 ++ (fa7 ++ (fa8 ++ (fa9 ++ (fa10 ++ (fa11)))))))))))
def fnOf (p : Str × Option Str) (x q : Str) (st : Stmt) : FnD := ⟨p, x, q, defArgs st, defBody st, defScope st⟩
def fn0 : List FnD := [fnOf ("is_whole", none) "is_whole" "is_whole" (top 15), fnOf ("shared_part", none) "shared_part" "shared_part" (top 16), fnOf ("is_number", none) "is_number" "is_number" (top 17), fnOf ("lowest", none) "lowest" "lowest" (top 18), fnOf ("number_of", none) "number_of" "number_of" (top 19), fnOf ("is_point", none) "is_point" "is_point" (top 46), fnOf ("told_count", none) "told_count" "told_count" (top 47), fnOf ("points_of", none) "points_of" "points_of" (top 48)]
def fn1 : List FnD := [fnOf ("show_number", none) "show_number" "show_number" (top 93), fnOf ("whole_in", none) "whole_in" "whole_in" (top 94), fnOf ("read_number", none) "read_number" "read_number" (top 95), fnOf ("show_points", none) "show_points" "show_points" (top 97), fnOf ("parts_of", none) "parts_of" "parts_of" (top 98), fnOf ("is_small", none) "is_small" "is_small" (top 105), fnOf ("forms_of", none) "forms_of" "forms_of" (top 106), fnOf ("number_in", none) "number_in" "number_in" (top 107)]
def fn2 : List FnD := [fnOf ("argument_in", none) "argument_in" "argument_in" (top 108), fnOf ("told_row", none) "told_row" "told_row" (top 109), fnOf ("_law_pen", none) "_law_pen" "_law_pen" (top 114), fnOf ("_law_draw", none) "_law_draw" "_law_draw" (top 115), fnOf ("_law_lowest", none) "_law_lowest" "_law_lowest" (top 116), fnOf ("_law_plus", none) "_law_plus" "_law_plus" (top 117), fnOf ("_law_text", none) "_law_text" "_law_text" (top 118), fnOf ("_law_points_text", none) "_law_points_text" "_law_points_text" (top 120)]
def fn3 : List FnD := [fnOf ("_law_little", none) "_law_little" "_law_little" (top 121), fnOf ("_law_fresh", none) "_law_fresh" "_law_fresh" (top 122), fnOf ("_law_desk_points", none) "_law_desk_points" "_law_desk_points" (top 123), fnOf ("_law_refusal", none) "_law_refusal" "_law_refusal" (top 124), fnOf ("_law_no_number", none) "_law_no_number" "_law_no_number" (top 125), fnOf ("_law_no_row", none) "_law_no_row" "_law_no_row" (top 126), fnOf ("_law_caught", none) "_law_caught" "_law_caught" (top 127), fnOf ("_law_no_desk", none) "_law_no_desk" "_law_no_desk" (top 128)]
def fn4 : List FnD := [fnOf ("law", none) "law" "law" (top 129), fnOf ("Desk", some "__init__") "__init__" "Desk.__init__" (inClass (top 112) 0), fnOf ("Desk", some "asked") "asked" "Desk.asked" (inClass (top 112) 7), fnOf ("Desk", some "say") "say" "Desk.say" (inClass (top 112) 8)]
def fns : List FnD := fn0 ++ (fn1 ++ (fn2 ++ (fn3 ++ (fn4))))
def numKeys : List Str := ["take", "height", "slope", "noslope", "points", "curve", "steps", "at", "slopeat"]
def adsOf (K : PySem.W.Frag) : Ads := ⟨ga K "Desk", ga K "CurveError", ga K "NoNumber", ga K "NoCurve", ga K "NoPoints", ga K "TooMany", ga K "NoPoint", ga K "NoStretch", ga K "TooDeep", ga K "TooFew", ga K "NoText", ga K "NoRow", ga K "CHANGES", ga K "STRETCHES", ga K "NUMBERS"⟩
def kindB (K : PySem.W.Frag) (A : Ads) (D : Addr) (m p t r : Bool) : Bool :=
  (decide (PySem.W.findIn K (.ref D) "__getattribute__" = some (some (.builtin "BaseException.__getattribute__"))) && (decide (PySem.W.findIn K (.ref D) "__getattr__" = some none) && (decide (PySem.W.subIn K (.ref D) (.type "BaseException") = some true) && (PySem.W.hasDictIn K D &&
  (decide (PySem.W.findIn K (.ref D) "__class__" = some (some (.builtin "object.__class__"))) && (decide (PySem.W.specialIn K (.builtin "object.__class__") "__get__" = some (some (.builtin "getset_descriptor.__get__"))) && (decide (PySem.W.takesIn K (.builtin "object.__class__") = some true) && decide (PySem.W.mroIn K D (.type "object") = some true)))))))) &&
  ((decide (PySem.W.kitOne K (.ref D) (.ref A.TooMany) = some m) && (decide (PySem.W.kitOne K (.ref D) (.ref A.NoPoints) = some p) && (decide (PySem.W.kitOne K (.ref D) (.ref A.NoPoint) = some false) && (decide (PySem.W.kitOne K (.ref D) (.ref A.NoNumber) = some false) && (decide (PySem.W.kitOne K (.ref D) (.ref A.NoCurve) = some false) && decide (PySem.W.kitOne K (.ref D) (.ref A.NoStretch) = some false)))))) &&
  (decide (PySem.W.kitOne K (.ref D) (.ref A.TooDeep) = some false) && (decide (PySem.W.kitOne K (.ref D) (.ref A.TooFew) = some false) && (decide (PySem.W.kitOne K (.ref D) (.ref A.NoText) = some t) && (decide (PySem.W.kitOne K (.ref D) (.ref A.NoRow) = some r) && (decide (PySem.W.kitOne K (.ref D) (.type "ValueError") = some true) && decide (PySem.W.exmOne K (.ref D) (.ref A.CurveError) = some true)))))))
theorem kindB_ok {K : PySem.W.Frag} {A : Ads} {D : Addr} {m p t r : Bool} (h : kindB K A D m p t r = true) : Kind K A D m p t r := by
  obtain ⟨h1, h2⟩ := ba h
  obtain ⟨a1, h1⟩ := ba h1
  obtain ⟨a2, h1⟩ := ba h1
  obtain ⟨a3, h1⟩ := ba h1
  obtain ⟨a4, h1⟩ := ba h1
  obtain ⟨a5, h1⟩ := ba h1
  obtain ⟨a6, h1⟩ := ba h1
  obtain ⟨a7, a8⟩ := ba h1
  obtain ⟨h2, h3⟩ := ba h2
  obtain ⟨b1, h2⟩ := ba h2
  obtain ⟨b2, h2⟩ := ba h2
  obtain ⟨b3, h2⟩ := ba h2
  obtain ⟨b4, h2⟩ := ba h2
  obtain ⟨b5, b6⟩ := ba h2
  obtain ⟨b7, h3⟩ := ba h3
  obtain ⟨b8, h3⟩ := ba h3
  obtain ⟨b9, h3⟩ := ba h3
  obtain ⟨b10, h3⟩ := ba h3
  obtain ⟨b11, b12⟩ := ba h3
  exact ⟨⟨of_decide_eq_true a1, of_decide_eq_true a2, of_decide_eq_true a3, a4, of_decide_eq_true a5, of_decide_eq_true a6, of_decide_eq_true a7, of_decide_eq_true a8⟩, of_decide_eq_true b1, of_decide_eq_true b2, of_decide_eq_true b3, of_decide_eq_true b4, of_decide_eq_true b5, of_decide_eq_true b6,
    of_decide_eq_true b7, of_decide_eq_true b8, of_decide_eq_true b9, of_decide_eq_true b10, of_decide_eq_true b11, of_decide_eq_true b12⟩
def numVals : List (Str × Dv) := [("take", .int 1), ("height", .int 2), ("slope", .int 2), ("noslope", .int 1), ("points", .int 0), ("curve", .int 0), ("steps", .int 0), ("at", .int 1), ("slopeat", .int 1)]
def numNo : List Str := ["", "Points", "moved", "misses"]
def moreB (K : PySem.W.Frag) : Bool :=
  (kindB K (adsOf K) (adsOf K).TooMany true false false false && (kindB K (adsOf K) (adsOf K).NoPoints false true false false && (kindB K (adsOf K) (adsOf K).NoText false false true false && kindB K (adsOf K) (adsOf K).NoRow false false false true))) &&
  (tupB K "CHANGES" [.str "put", .str "take", .str "height", .str "slope", .str "noslope"] && (tupB K "STRETCHES" [.str "bounds", .str "noughts"] && (valsB K (ga K "NUMBERS") numVals && numNo.all fun z => decide (PySem.W.nsIn K (ga K "NUMBERS") z = some none))))
/-- what the names reach in some steps -/
def refsZ (g : Addr → Option Obj) (as : List Addr) : List Addr := as.flatMap fun a => match g a with
  | some o => refsO o
  | none => []
def asZ (g : Addr → Option Obj) : Nat → List Addr → List Addr
  | 0, as => as
  | n + 1, as => as ++ asZ g n (refsZ g as)
abbrev AlZ : Type := Al × Bool × Option (List (Option (Str × Int)))
def obsK (K : PySem.W.Frag) : AlZ := (obsE fa fns K, moreB K, dicW K (ga K "NUMBERS"))
def valK (w : World) : AlZ := (valE fns, true, some (keysIn w.params numKeys))
def obsG (g : Addr → Option Obj) : AlZ := obsK (frG g (asZ g 4 [mainGlobals]))
def hk : PySem.W.Hook where
  α := AlZ
  obs := fun s => obsG s.heap.get?
  val := valK
  says := fun w h => ∃ K : PySem.W.Frag, K.In h ∧ obsK K = valK w
  of := fun _ _ e => ⟨_, frG_in, e⟩
  keeps := fun _ _ _ ⟨K, hK, c⟩ k => ⟨K, PySem.W.Frag.In.keeps hK k, c⟩
def ob (s : PySem.W.SharedT) : AlZ := obsG (HandSHeadRun.getT s)
theorem ob_eq (s : PySem.W.SharedT) : ob s = hk.obs s.abs := by
  have e : HandSHeadRun.getT s = s.abs.heap.get? := funext fun a => HandSHeadRun.getT_eq s a
  unfold ob
  rw [e] <;> rfl

section
variable {w : World} {K : PySem.W.Frag} {h : Heap} {mg : Str → Option Value}
theorem obs_e (c : obsK K = valK w) : SaysE fa fns K := congrArg (fun z : AlZ => z.1) c
theorem obs_m (c : obsK K = valK w) : moreB K = true := congrArg (fun z : AlZ => z.2.1) c
theorem obs_d (c : obsK K = valK w) : dicW K (ga K "NUMBERS") = some (keysIn w.params numKeys) := congrArg (fun z : AlZ => z.2.2) c
theorem cst_int (X : K.In h) (G : h.Ns mainGlobals mg) {x : Str} {i : Int} (c : (Fa.int x i).ok K = true) : Cst mg x (.int i) := let ⟨t, e⟩ := int_ok X G c; ⟨_, e, t, rfl⟩
theorem cst_str (X : K.In h) (G : h.Ns mainGlobals mg) {x z : Str} (c : (Fa.str x z).ok K = true) : Cst mg x (.str z) := let ⟨t, e⟩ := str_ok X G c; ⟨_, e, t, rfl⟩
theorem exc_t (X : K.In h) (G : h.Ns mainGlobals mg) {x : Str} (g : (Fa.glo x).ok K = true) (c : (Fa.exc x).ok K = true) : ExcT K mg x (ga K x) := let ⟨h1, h2, h3, h4⟩ := exc_ok c; ⟨glo_ok X G g, h1, h2, h3, h4⟩
theorem def_t (X : K.In h) (G : h.Ns mainGlobals mg) {x : Str} {st : Stmt} (g : (Fa.glo x).ok K = true) (kp : (Fa.keep x).ok K = true)
    (d : ∃ oc od osl kV doc pm an cdv ct, K.lookup (fAd K (x, none)) = some ⟨oc, od, .func (PySem.W.fnOf x x (defArgs st) (defBody st) (defScope st) .none kV doc pm an cdv ct), osl⟩ ∧ PySem.W.codeIn K cdv x = true) : DefAt K mg x st := by
  obtain ⟨oc, od, osl, kV, doc, pm, an, cdv, ct, h1, h2⟩ := d
  exact ⟨ga K x, glo_ok X G g, keep_ok kp, oc, od, kV, doc, pm, an, cdv, ct, osl, h1, h2⟩
theorem met_t {m q : Str} {st : Stmt} (g : (Fa.meth "Desk" m).ok K = true)
    (d : ∃ oc od osl kV doc pm an cdv ct, K.lookup (fAd K ("Desk", some m)) = some ⟨oc, od, .func (PySem.W.fnOf m q (defArgs st) (defBody st) (defScope st) .none kV doc pm an cdv ct), osl⟩ ∧ PySem.W.codeIn K cdv q = true) : MetAt K (ga K "Desk") m q st := by
  obtain ⟨oc, od, osl, kV, doc, pm, an, cdv, ct, h1, h2⟩ := d
  exact ⟨_, meth_ok g, oc, od, kV, doc, pm, an, cdv, ct, osl, h1, h2⟩
theorem ini_t {q : Str} {st : Stmt} (g : (Fa.mkr "Desk").ok K = true)
    (d : ∃ oc od osl kV doc pm an cdv ct, K.lookup (fAd K ("Desk", some "__init__")) = some ⟨oc, od, .func (PySem.W.fnOf "__init__" q (defArgs st) (defBody st) (defScope st) .none kV doc pm an cdv ct), osl⟩ ∧ PySem.W.codeIn K cdv q = true) : InitAt K (ga K "Desk") q st := by
  obtain ⟨oc, od, osl, kV, doc, pm, an, cdv, ct, h1, h2⟩ := d
  exact ⟨_, mkr_ok g, oc, od, kV, doc, pm, an, cdv, ct, osl, h1, h2⟩
theorem txt_of (X : K.In h) (G : h.Ns mainGlobals mg) (c0 : obsK K = valK w) : Txt w K mg (adsOf K) := by
  have c := obs_e c0
  obtain ⟨m1, m2⟩ := ba (obs_m c0)
  obtain ⟨k1, m1⟩ := ba m1
  obtain ⟨k2, m1⟩ := ba m1
  obtain ⟨k3, k4⟩ := ba m1
  obtain ⟨t1, m2⟩ := ba m2
  obtain ⟨t2, m2⟩ := ba m2
  obtain ⟨t3, t4⟩ := ba m2
  exact {
    z_len := free_ok X G (c.fact 85 rfl)
    z_abs := free_ok X G (c.fact 86 rfl)
    z_isinstance := free_ok X G (c.fact 87 rfl)
    z_all := free_ok X G (c.fact 88 rfl)
    z_sum := free_ok X G (c.fact 89 rfl)
    z_range := free_ok X G (c.fact 90 rfl)
    z_zip := free_ok X G (c.fact 91 rfl)
    z_set := free_ok X G (c.fact 92 rfl)
    z_tuple := free_ok X G (c.fact 93 rfl)
    z_int := free_ok X G (c.fact 94 rfl)
    z_str := free_ok X G (c.fact 95 rfl)
    z_bool := free_ok X G (c.fact 96 rfl)
    z_list := free_ok X G (c.fact 97 rfl)
    z_ValueError := free_ok X G (c.fact 98 rfl)
    cFIGURES := cst_str X G (c.fact 99 rfl)
    cMOST_FIGURES := cst_int X G (c.fact 100 rfl)
    cMOST_TOLD := cst_int X G (c.fact 101 rfl)
    cTOO_MUCH := cst_int X G (c.fact 102 rfl)
    cMOST_NUMBERS := cst_int X G (c.fact 103 rfl)
    cCHANGES := ⟨_, glo_ok X G (c.fact 104 rfl), rfl⟩
    cSTRETCHES := ⟨_, glo_ok X G (c.fact 105 rfl), rfl⟩
    cNUMBERS := ⟨_, glo_ok X G (c.fact 106 rfl), rfl⟩
    sCHANGES := tupB_ok t1
    sSTRETCHES := tupB_ok t2
    dNUM := dicW_ok (obs_d c0)
    nNo := fun z hz => of_decide_eq_true (List.all_eq_true.mp t4 z hz)
    nYes := fun p hp => valsB_ok (q := (p.1, Dv.int p.2)) t3 ((List.mem_map (f := fun p : Str × Int => (p.1, Dv.int p.2))).mpr ⟨p, hp, rfl⟩)
    xNoNumber := exc_t X G (c.fact 68 rfl) (c.fact 78 rfl)
    xNoPoints := exc_t X G (c.fact 70 rfl) (c.fact 79 rfl)
    xTooMany := exc_t X G (c.fact 71 rfl) (c.fact 80 rfl)
    xNoText := exc_t X G (c.fact 76 rfl) (c.fact 81 rfl)
    xNoRow := exc_t X G (c.fact 77 rfl) (c.fact 82 rfl)
    gNoCurve := glo_ok X G (c.fact 69 rfl)
    gNoPoint := glo_ok X G (c.fact 72 rfl)
    gNoStretch := glo_ok X G (c.fact 73 rfl)
    gTooDeep := glo_ok X G (c.fact 74 rfl)
    gTooFew := glo_ok X G (c.fact 75 rfl)
    gCurveError := glo_ok X G (c.fact 67 rfl)
    eText := exm_ok (c.fact 83 rfl)
    eNumber := exm_ok (c.fact 84 rfl)
    wMany := kindB_ok k1
    wPoints := kindB_ok k2
    wText := kindB_ok k3
    wRow := kindB_ok k4
    gDesk := glo_ok X G (c.fact 66 rfl)
    cl := cls_ok (c.fact 107 rfl)
    nP := noat_ok (c.fact 108 rfl)
    init := ini_t (c.fact 109 rfl) (c.def_ 33 rfl)
    m_asked := met_t (c.fact 110 rfl) (c.def_ 34 rfl)
    m_say := met_t (c.fact 111 rfl) (c.def_ 35 rfl)
    d_is_whole := def_t X G (c.fact 0 rfl) (c.fact 1 rfl) (c.def_ 0 rfl)
    d_shared_part := def_t X G (c.fact 2 rfl) (c.fact 3 rfl) (c.def_ 1 rfl)
    d_is_number := def_t X G (c.fact 4 rfl) (c.fact 5 rfl) (c.def_ 2 rfl)
    d_lowest := def_t X G (c.fact 6 rfl) (c.fact 7 rfl) (c.def_ 3 rfl)
    d_number_of := def_t X G (c.fact 8 rfl) (c.fact 9 rfl) (c.def_ 4 rfl)
    d_is_point := def_t X G (c.fact 10 rfl) (c.fact 11 rfl) (c.def_ 5 rfl)
    d_told_count := def_t X G (c.fact 12 rfl) (c.fact 13 rfl) (c.def_ 6 rfl)
    d_points_of := def_t X G (c.fact 14 rfl) (c.fact 15 rfl) (c.def_ 7 rfl)
    d_show_number := def_t X G (c.fact 16 rfl) (c.fact 17 rfl) (c.def_ 8 rfl)
    d_whole_in := def_t X G (c.fact 18 rfl) (c.fact 19 rfl) (c.def_ 9 rfl)
    d_read_number := def_t X G (c.fact 20 rfl) (c.fact 21 rfl) (c.def_ 10 rfl)
    d_show_points := def_t X G (c.fact 22 rfl) (c.fact 23 rfl) (c.def_ 11 rfl)
    d_parts_of := def_t X G (c.fact 24 rfl) (c.fact 25 rfl) (c.def_ 12 rfl)
    d_is_small := def_t X G (c.fact 26 rfl) (c.fact 27 rfl) (c.def_ 13 rfl)
    d_forms_of := def_t X G (c.fact 28 rfl) (c.fact 29 rfl) (c.def_ 14 rfl)
    d_number_in := def_t X G (c.fact 30 rfl) (c.fact 31 rfl) (c.def_ 15 rfl)
    d_argument_in := def_t X G (c.fact 32 rfl) (c.fact 33 rfl) (c.def_ 16 rfl)
    d_told_row := def_t X G (c.fact 34 rfl) (c.fact 35 rfl) (c.def_ 17 rfl)
    d__law_pen := def_t X G (c.fact 36 rfl) (c.fact 37 rfl) (c.def_ 18 rfl)
    d__law_draw := def_t X G (c.fact 38 rfl) (c.fact 39 rfl) (c.def_ 19 rfl)
    d__law_lowest := def_t X G (c.fact 40 rfl) (c.fact 41 rfl) (c.def_ 20 rfl)
    d__law_plus := def_t X G (c.fact 42 rfl) (c.fact 43 rfl) (c.def_ 21 rfl)
    d__law_text := def_t X G (c.fact 44 rfl) (c.fact 45 rfl) (c.def_ 22 rfl)
    d__law_points_text := def_t X G (c.fact 46 rfl) (c.fact 47 rfl) (c.def_ 23 rfl)
    d__law_little := def_t X G (c.fact 48 rfl) (c.fact 49 rfl) (c.def_ 24 rfl)
    d__law_fresh := def_t X G (c.fact 50 rfl) (c.fact 51 rfl) (c.def_ 25 rfl)
    d__law_desk_points := def_t X G (c.fact 52 rfl) (c.fact 53 rfl) (c.def_ 26 rfl)
    d__law_refusal := def_t X G (c.fact 54 rfl) (c.fact 55 rfl) (c.def_ 27 rfl)
    d__law_no_number := def_t X G (c.fact 56 rfl) (c.fact 57 rfl) (c.def_ 28 rfl)
    d__law_no_row := def_t X G (c.fact 58 rfl) (c.fact 59 rfl) (c.def_ 29 rfl)
    d__law_caught := def_t X G (c.fact 60 rfl) (c.fact 61 rfl) (c.def_ 30 rfl)
    d__law_no_desk := def_t X G (c.fact 62 rfl) (c.fact 63 rfl) (c.def_ 31 rfl)
    d_law := def_t X G (c.fact 64 rfl) (c.fact 65 rfl) (c.def_ 32 rfl) }
end
abbrev R : PySem.W.OpenRow := PySem.W.OpenLaw.row PySem.Challenge.rw_onecurve_k67_rows_refused_at_a_desk
abbrev qv : Program := PySem.W.view R.prog [129]
/-- a law's end, where the exceptions' kinds lean on the world -/
theorem walk_ofW {l : PySem.W.OpenLaw} {n k : Nat} {q : Program} {loose : List Str} {XP : (Str → Option Value) → Heap → Prop} {YP : World → Heap → Prop} {d : DefRec} {CX : World → CXT} {x : Str}
    (hn : l.most = some n) (hn2 : n ≤ sizeLine) (hdf : d.params.defaults = []) (hr : Room k callerA)
    (F : ∀ (w : World) (mg : Str → Option Value) (fa : Addr) (h : Heap), YP w h → h.Ns mainGlobals mg → mg d.name = some (.ref fa) →
      ∃ (K : PySem.W.Frag) (fd : FuncData) (sp : Sp), K.In h ∧ (∀ (s : Shared) (u : Value), BindsTo s fd ⟨[u], []⟩ [(x, u)]) ∧
        (∀ (H : Hp) (a : Addr) (ns : List Int), ns.length ≤ n → Only H → SqL K H a (ns.map V.int) → sp [.ref a] H (fun v _ => v = .bl true) fun _ _ _ => False) ∧
        ∀ base : Heap, K.In base → base.Ns mainGlobals mg → FnOk l.prog w K mg base (CX w) k fa fd [x] sp)
    (hCX : ∀ (w : World) (H : Hp) (s : Shared) (e : Value) (s' : Shared), CX w [] H s (fun _ _ _ => False) e s' → False) :
    PySem.W.WalkO q loose XP YP l.row.toRowW d [] (fun f vs => PySem.call f vs) := by
  refine Att.attach_call hn hdf fun w s₀ s₁ mg mb fa o pm cd doc a vs ns G Y ho hd hcd hmg hobj hints hlen hg => ?_
  obtain ⟨K, fd, sp, KX, hb, hsp, hF⟩ := F w mg fa _ Y G.T.g hmg
  exact law_call KX G.T.g G.T.b G.T.builtins G.T.nolimit hg hobj hints (Nat.le_trans hlen hn2) hr hF hb (fun H hO hS => hsp H a ns hlen hO hS) fun H e s' => hCX w H s₁ e s'
end K3
set_option maxHeartbeats 0
/-! the top's run, once for each answer of the one row that it asks -/
namespace K3
open PySem PySem.Spec PyProof.Rows L2 He
theorem run_f (w : World) : HandSHeadRun.RunEq R qv hk ob 6000 names (w.withFollow "special-get-raises" false) := by
  intro os
  kernel_rfl
theorem run_t (w : World) : HandSHeadRun.RunEq R qv hk ob 6000 names (w.withFollow "special-get-raises" true) := by
  intro os
  kernel_rfl
theorem run (w : World) : HandSHeadRun.RunEq R qv hk ob 6000 names w := PySem.W.byRow2 "special-get-raises" (P := fun w => HandSHeadRun.RunEq R qv hk ob 6000 names w) run_f run_t w
end K3
open PySem PySem.W PySem.Calls PyProof.Rows
theorem PySem.Challenge.cw_onecurve_k67_rows_refused_at_a_desk_holds : PySem.Challenge.rw_onecurve_k67_rows_refused_at_a_desk.Holds := by
  w_on; o_law
  refine HandSHeadRun.head_any (r := OpenLaw.row PySem.Challenge.rw_onecurve_k67_rows_refused_at_a_desk) (q := K3.qv) (H := K3.hk) (ob := K3.ob) (M := 6000) (loose := K3.names)
    (d := HandSHeadRun.topDef (OpenLaw.row PySem.Challenge.rw_onecurve_k67_rows_refused_at_a_desk).prog 129) (kwd := []) K3.ob_eq
    (by kernel_rfl) (fun s => by kernel_rfl) K3.run (by kernel_rfl) (by kernel_rfl) (by kernel_rfl) (by rfl) (by first | assumption | decide +kernel) (by decide +kernel) ⟨rfl, rfl, rfl, rfl, rfl, by decide +kernel⟩ ?hw ?hc
  case hw => w_witness2
  case hc =>
    refine K3.walk_ofW (l := PySem.Challenge.rw_onecurve_k67_rows_refused_at_a_desk) (n := 63) (k := 10) (x := "_law_script") (CX := fun w => K3.CX true (PySem.Challenge.rw_onecurve_k67_rows_refused_at_a_desk).prog w) rfl (by decide) (by kernel_rfl) ⟨rfl, by decide, by decide⟩ ?F
      (fun w H s e s' z => by
        obtain ⟨_, _, _, _, _, _, _, _, _, _, _, _, _, _, q⟩ := z
        exact q)
    intro w mg fa h Y G hmg0
    obtain ⟨K, KX, c⟩ := Y
    have hmg : mg ("law" : PySem.Str) = some (.ref fa) := by
      have e : (HandSHeadRun.topDef (OpenLaw.row PySem.Challenge.rw_onecurve_k67_rows_refused_at_a_desk).prog 129).name = ("law" : PySem.Str) := by kernel_rfl
      rw [← e]
      exact hmg0
    obtain ⟨f, fd, h1, hb, hF⟩ := K3.ok_law (P := (PySem.Challenge.rw_onecurve_k67_rows_refused_at_a_desk).prog) (K3.txt_of (w := w) KX G c)
    have e := h1.symm.trans hmg
    cases e
    exact ⟨K, fd, K3.spLaw K, KX, hb, fun H a ns hl _ hS => ⟨a, ns, rfl, hS, fun _ => rfl⟩, fun base _ _ => hF base⟩
#print axioms PySem.Challenge.cw_onecurve_k67_rows_refused_at_a_desk_holds
