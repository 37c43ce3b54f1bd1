import PyProof.Rows.All
import Wide.All
import OpenK.AllK
import Wide.FinOn
import HandS.ForMost
import HandS.Exc
import HandS.ExcOwn
import HandS.TryOnly
import HandS.CallSlots
import HandS.WordsExc
import HandS.IsInst
import HandS.Lambda
import HandS.Flow
import HandS.TupAny
import HandS.FStr
import HandS.Zip
import HandS.StrMore
import KE.GoesMore
import HandS.Codes
import HandS.Iter
import HandS.Style
import PyProof.EnumMake
import HandS.Star
import HandS.Deep
import KE.DataMinMax
import HandS.TupSets
import PyProof.ListStr
import KE.KRevSl
import HandS.Dict
import HandS.RaiseMore
import PyProof.StrBlock2
import PyProof.ReprRoads
import PyProof.StrLawsRepr
import HandS.Wide
import HandS.WideBits
import HandS.EndTab
import HandS.EndBits
import HandS.Defaults
import HandS.HeadHook4
import HandS.NestedK
import PyProof.ExcBaseAll.ValueError
import KE.KStateDown
import HandS.Head0
import HandS.Head1
import HandS.Head2
import HandS.HeadEnd
import HandS.HeadHook1
import HandS.HeadHook2
import HandS.HeadHook3
import KE.KNestM
import PySem.Challenge.RW_sharedlets_k87_texts_of_papers_and_chain
set_option Elab.async false
set_option linter.all false
set_option maxRecDepth 100000
set_option maxHeartbeats 2000000
/-! a list comprehension whose turns may raise -/
namespace Kd
open PySem PySem.Spec PyProof.Rows L2

/-- what is wanted behind the block: as compPost, the exception's way knows the frame -/
def postF (M : Model) (A : Around) (E : Value → Shared → Prop) (use : Option (Value → Sem Unit)) (Q : Value → Shared → Prop) (acc : Value) (C : Addr) (fr : Option Addr) (r : Result) (s' : Shared) : Prop :=
  match r with
  | .ok f => compPost M A E use Q acc C (.ok f) s'
  | .error x => ∃ m, s'.heap.Ns C m ∧ ∀ h', Heap.SameBut C s'.heap h' → ∀ ce : Env, ce.locals = C → ce.frame = fr → wpAny M A (passOn "comprehension.variables-let-go" x ce : Sem Value) (fun _ _ => False) E { s' with heap := h' }

section
variable {M : Model} {A : Around} {E : Value → Shared → Prop} {s : Shared} {env : Env}
theorem comp_free {e : Expr} {scope : Scope} {pos : Pos} {newAcc first : Sem Value} {g : Comprehension} {gs : List Comprehension} {cl : List (Str × Addr)} {use : Option (Value → Sem Unit)} {Q : Value → Shared → Prop}
    (hcl : clausesOf e = g :: gs) (hs : ∀ x, foldedSetIterable g.iter env x = pure x) (hclos : closureFor scope env = pure cl) (hkind : scope.kind = .function) (hnames : ∀ x ∈ scope.names, x.2 = .local → scope.names.lookup x.1 = some .local)
    (h : wpAny M A first (fun x s₁ => wpAny M A (pyIter x) (fun it s₂ => wpAny M A newAcc (fun acc s₃ => wpAny M A (newFunctionEnv scope env.globals cl [] env.qual none .none (some env)) (fun ce s₄ =>
        codeAny M A (.compStart e 0 it acc { ce with scope := relabel scope env }) (postF M A E use Q acc ce.locals ce.frame) s₄) E s₃) E s₂) E s₁) E s) :
    wpAny M A (comprehension e scope env pos newAcc false first use) Q E s := by
  unfold comprehension
  rw [hclos, hcl]
  refine wpAny_bind (wpAny_mono h (fun x s₁ h₁ => ?_) fun _ _ z => z)
  refine wpAny_bind (wpAny_standAt (wpAny_bind (wpAny_of_eq (hs x) (wpAny_bind (wpAny_holding (wpAny_mono h₁ (fun it s₂ h₂ => ?_) fun _ _ z => z))))))
  refine wpAny_standIf (wpAny_bind (wpAny_mono h₂ (fun acc s₃ h₃ => ?_) fun _ _ z => z))
  refine wpAny_bind (wpAny_pure (wpAny_bind (wpAny_mono h₃ (fun ce s₄ h₄ => ?_) fun _ _ z => z)))
  dsimp only
  have loc : ∀ y ∈ scope.names, y.2 = .local → Env.kindOf { ce with scope := relabel scope env } y.1 = some .local := fun y hy hl => lookup_relabel_local (hnames y hy hl)
  have v1 : ∀ x ∈ (scope.names.filter fun x => (x.2 == .local || x.2 == .cell) && x.1 != (".0" : Str)).reverse, x.2 = .local → Env.kindOf { ce with scope := relabel scope env } x.1 = some .local :=
    fun x hx hl => loc x (List.mem_filter.mp (List.mem_reverse.mp hx)).1 hl
  refine wpAny_holding (wpAny_bind (wpAny_attempt (wpAny_holding (wpAny_run (codeAny_mono h₄ fun r s' hr => ?_)))))
  cases r with
  | error x =>
    obtain ⟨m, hn, hr⟩ : ∃ m, s'.heap.Ns ce.locals m ∧ ∀ h', Heap.SameBut ce.locals s'.heap h' → ∀ c2 : Env, c2.locals = ce.locals → c2.frame = ce.frame → wpAny M A (passOn "comprehension.variables-let-go" x c2 : Sem Value) (fun _ _ => False) E { s' with heap := h' } := hr
    exact wpAny_bind (wpAny_holding (wpAny_comp_letGo (cenv := { ce with scope := relabel scope env }) hkind _ s' m v1 hn fun h' _ _ sb => wpAny_mono (hr h' sb _ rfl rfl) (fun _ _ z => z.elim) fun _ _ z => z))
  | ok f =>
    have hr : compPost M A E use Q acc ce.locals (.ok f) s' := hr
    cases use with
    | none =>
      obtain ⟨m, hn, hr⟩ := hr
      exact wpAny_bind (wpAny_holding (wpAny_comp_letGo (cenv := { ce with scope := relabel scope env }) hkind _ s' m v1 hn fun h' _ _ sb => wpAny_pure (hr h' sb)))
    | some u =>
      refine wpAny_bind (wpAny_rule (wpAny_bind (wpAny_holding (wpAny_mono hr (fun _ s'' q => ?_) fun _ _ z => z))))
      obtain ⟨m, hn, q⟩ := q
      refine wpAny_bind (wpAny_comp_letGo (cenv := { ce with scope := relabel scope env }) hkind _ s'' m (fun y hy hl => ?_) hn fun h' _ _ sb => wpAny_pure (q h' sb))
      rcases List.mem_append.mp hy with h1 | h1
      · exact v1 y (List.mem_of_mem_drop h1) hl
      · exact v1 y (List.mem_of_mem_take h1) hl
end

/-- what a call lets out is taken, at any slots -/
def Ps (X : Cx) (W : WX) : Prop := ∀ σ, PassesAt (L2.CX X.prog X.w) X σ (WE W σ)
theorem Ps.of {X : Cx} {W : WX} (tk : Takes X W) : Ps X W := fun σ => passAt tk σ
/-- the context of such a block -/
abbrev blkX (X : Cx) (s : Shared) (H : Hp) (scope : Scope) (ce : Env) (fp : List Addr) (use : Option (Value → Sem Unit)) (Q : Value → Shared → Prop) (acc : Value) : Cx :=
  { X.blk s H scope ce fp with xe := notedBy (model X.prog X.w) X.A ce fun e s' => postF (model X.prog X.w) X.A X.xe use Q acc ce.locals ce.frame (.error e) s' }
section
variable {X : Cx} {pins pinsb : List (Addr × Obj)} {σ σb : L2.St} {H H3 Hb : Hp} {s3 sb s' : Shared} {W : WX} {E : XK}
theorem ns_slots {h h' : Heap} {C : Addr} {m : Str → Option Value} (up : h.UpToSlots h') (n : h.Ns C m) : h'.Ns C m := by
  obtain ⟨o, es, ep, ho, hd, r⟩ := n
  obtain ⟨sl, q⟩ := up C o ho fun vs z => by rw [hd] at z; cases z
  exact ⟨_, es, ep, q, hd, r⟩
/-- an exception of a call leaves the block's turn -/
theorem blk_out {scope : Scope} {ce : Env} {fp : List Addr} {xe : Value → Shared → Prop} {use : Option (Value → Sem Unit)} {Qf : Value → Shared → Prop} {acc : Value} (tk : Takes X W) (hs : X.stack = X.env :: X.outer) (hf : X.env.frame = some X.env.locals)
    (I3 : Inv X pins σ H3 s3) (f3 : ∀ b ∈ fp, FpOk X pins H3 b) (hfr : ce.frame = X.env.frame) (hfo : ∀ e : Value, noteFrame e ce = noteFrame e X.env)
    (Ib : Inv { X.blk s3 H3 scope ce fp with xe := xe } pinsb σb Hb sb) (hE : ∀ cls d H', E cls d H' → W cls d σ H') {u : Value} (c : L2.CX X.prog X.w X.stack Hb sb E u s') :
    notedBy (model X.prog X.w) X.A ce (fun e s' => postF (model X.prog X.w) X.A X.xe use Qf acc ce.locals ce.frame (.error e) s') u s' := by
  obtain ⟨a, B, H', cls, d, rfl, fl, hok, ub, na, os, ag, hW⟩ := c
  have hA : X.A.frames = some (X.env :: X.outer) := by rw [I3.ok.frames, hs]
  -- the block's own dict
  have above : s3.heap.objs.size ≤ ce.locals := Ib.ok.above
  obtain ⟨mC, nC⟩ : ∃ m, sb.heap.Ns ce.locals m := let ⟨m, hn, _⟩ := Ib.loc; ⟨m, hn⟩
  obtain ⟨oC, esC, epC, hC, hCd, _⟩ := id nC
  have C3 : ∀ b o, s3.heap.get? b = some o → b ≠ ce.locals := fun b o e => Nat.ne_of_lt (Nat.lt_of_lt_of_le (Heap.lt_size e) above)
  have CF : ce.locals ∉ frs X.stack := fun hm => by
    obtain ⟨_, o, ho, _⟩ := I3.stack.mem hm
    exact C3 _ o ho rfl
  have H'C : H' ce.locals = none := ub.free _ oC hC Ib.free
  -- the ground without it
  obtain ⟨B', b1, b2⟩ := restrict B fun b => !decide (b = ce.locals)
  have bC : B'.get? ce.locals = none := b2 _ (by simp)
  have bne : ∀ b, b ≠ ce.locals → B'.get? b = B.get? b := fun b hb => b1 b (by simp [hb])
  have bsub : ∀ b o, B'.get? b = some o → b ≠ ce.locals ∧ B.get? b = some o := fun b o e => by
    by_cases hb : b = ce.locals
    · rw [hb, bC] at e; cases e
    · exact ⟨hb, (bne b hb).symm.trans e⟩
  have bnone : ∀ b, B.get? b = none → B'.get? b = none := fun b e => by
    by_cases hb : b = ce.locals
    · rw [hb]; exact bC
    · rw [bne b hb]; exact e
  obtain ⟨st, fa, ff, oe, vs, T, oT, ts, he, hz, hd, h1, hT, hTe, hTo, hTd, h3⟩ := fl
  have fl' : HandSPX.FlyingZ B' (X.env :: X.outer) a (Zc cls d) s'.heap := by
    refine ⟨fun b o e => st b o (bsub b o e).2, bnone _ fa, ?_, oe, vs, T, oT, ts, he, hz, hd, h1, bnone _ hT, hTe, hTo, hTd, h3⟩
    rw [← hs]
    refine funFrames_none ff fun L hL => ?_
    obtain ⟨e1, _⟩ := ff.mem hL
    exact bnone _ e1
  show wpAny _ _ (noteFrame (.ref a) ce) _ _ _
  rw [hfo]
  refine HandSPX.looks_onZ Zc.steady hA hf fl' fun h4 hh up4 => ?_
  -- the state of ours without the exception
  obtain ⟨G, g1, g2⟩ := restrict s'.heap fun b => (B'.get? b).isSome || decide (b ∈ frs X.stack)
  have gB : ∀ b o, B'.get? b = some o → G.get? b = some o := fun b o e => by
    rw [g1 b (by simp [e])]
    exact st b o (bsub b o e).2
  have gF : ∀ b, b ∈ frs X.stack → G.get? b = s'.heap.get? b := fun b hb => g1 b (by simp [hb])
  have og : ∀ b o, G.get? b = some o → s'.heap.get? b = some o ∧ ((B'.get? b).isSome = true ∨ b ∈ frs X.stack) := fun b o e => by
    cases q : ((B'.get? b).isSome || decide (b ∈ frs X.stack)) with
    | false => rw [g2 b q] at e; cases e
    | true =>
      rw [g1 b q] at e
      exact ⟨e, by simpa [Bool.or_eq_true] using q⟩
  have neF : ∀ b, b ∈ frs X.stack → b ≠ ce.locals := fun b hb z => CF (z ▸ hb)
  have base : Un (frs X.stack) fp H3 Hb s3.heap sb.heap := Ib.base
  have un : Un (frs X.stack) fp H3 H' s3.heap G := by
    refine ⟨fun b o e n hb hx => gB b o ((bne b (C3 b o e)).trans (ub.keep b o (base.keep b o e n hb hx) (base.free b o e n hx) hb)), fun b o e n hb hx => ?_, fun b o e n hx => ?_, fun b o e hx => ?_, fun b xs e => ub.tups b xs (base.tups b xs e), fun b o xs e => ub.frzs b o xs (base.frzs b o xs e), fun b ps e => ?_⟩
    · obtain ⟨sl, q⟩ := base.slot b o e n hb hx
      obtain ⟨sl2, q2⟩ := ub.slot b _ q hb
      exact ⟨sl2, by rw [gF b hb]; exact q2⟩
    · obtain ⟨o', q⟩ := base.there b o e hx
      exact ub.free b o' q (base.free b o e n hx)
    · obtain ⟨o', q⟩ := base.there b o e hx
      by_cases hb : b ∈ frs X.stack
      · obtain ⟨sl, q2⟩ := ub.slot b o' q hb
        exact ⟨_, by rw [gF b hb]; exact q2⟩
      · obtain ⟨o2, q2⟩ := ub.there b o' q hb
        exact ⟨o2, gB b o2 ((bne b (C3 b o e)).trans q2)⟩
    · obtain ⟨m1, e1⟩ := base.tbls b ps e
      obtain ⟨m2, e2⟩ := ub.tbls b _ e1
      exact ⟨m1 ++ m2, by rw [e2, Array.append_assoc]⟩
  have hokG : HOk X.prog X.w H' G := fun b o e => (hok b o e).stay (fun y v hy q => gB y v ((bne y fun z => by
    rw [z] at hy
    rcases hy with hy | hy
    · rw [← hy, H'C] at e; cases e
    · rw [H'C] at hy; cases hy).trans q)) (fun _ q => q) fun _ _ q => q
  have J : Inv X pins σ H' { s3 with heap := G, gens := s'.gens, drawn := s'.drawn, toks := s'.toks } := I3.call (ch := fp) un hokG ag fun b hb => ⟨(f3 b hb).2.2.2.1, (f3 b hb).2.1, (f3 b hb).2.2.2.2.1, (f3 b hb).2.2.2.2.2⟩
  have C's : s'.heap.Ns ce.locals mC := by
    obtain ⟨o2, es, ep, ho, hd2, r2⟩ := nC
    exact ⟨o2, es, ep, st _ o2 (ub.keep _ o2 ho Ib.free CF), hd2, r2⟩
  have C4 := ns_slots up4 C's
  refine ⟨mC, C4, fun h5 sb5 c2 e1 e2 => ?_⟩
  -- the dict at C is no record
  obtain ⟨o4, es4, ep4, ho4, hd4, _⟩ := id C4
  have notC : ∀ b o v, h4.get? b = some o → o.data = .fields v → b ≠ ce.locals := fun b o v e d z => by
    rw [z, ho4] at e
    cases e
    rw [hd4] at d
    cases d
  have k5 : ∀ b o, b ≠ ce.locals → h4.get? b = some o → h5.get? b = some o := fun b o hb e => (sb5.2 b hb).trans e
  obtain ⟨hst, hna, hff, oe4, vs4, T4, oT4, ts4, he4, hz4, hd4', h14, hT4, hTe4, hTo4, hTd4, h34⟩ := hh
  have hh5 : HandSPX.HeldZ B' (X.env :: X.outer) a (Zc cls d) X.env.locals h5 := by
    refine ⟨fun b o e => k5 b o (bsub b o e).1 (hst b o e), hna, ?_, oe4, vs4, T4, oT4, ts4, k5 _ _ (notC _ _ _ he4 hd4') he4, hz4, hd4', h14, hT4, hTe4, k5 _ _ (notC _ _ _ hTo4 hTd4) hTo4, hTd4, h34⟩
    have fr : ∀ (l : List Env), (∀ e ∈ l, ∀ L, e.frame = some L → L ≠ ce.locals) → h4.FunFrames B' l → h5.FunFrames B' l := by
      intro l
      induction l with
      | nil => intro _ _; trivial
      | cons e r ih =>
        intro hl q
        obtain ⟨q1, ⟨L, o, q2, q3, q4, q5⟩, q6⟩ := q
        exact ⟨q1, ⟨L, o, q2, q3, k5 L o (hl e List.mem_cons_self L q2) q4, q5⟩, ih (fun e he => hl e (List.mem_cons_of_mem _ he)) q6⟩
    refine fr _ (fun e he L hL => neF L ?_) hff
    rw [hs]
    exact List.mem_filterMap.mpr ⟨e, he, hL⟩
  unfold PySem.passOn
  obtain ⟨_, _, _, oe5, vs5, T5, oT5, ts5, he5, hz5, hd5, h15, _⟩ := id hh5
  refine wpAny_bind (wpAny_field he5 hd5 h15 ?_)
  rw [if_neg (show ¬ ((Value.ref T5 == Value.none) = true) from by simp)]
  have fin : wpAny (model X.prog X.w) X.A (setFlight (.ref a) c2.frame) (fun _ s4 => wpAny (model X.prog X.w) X.A (throw (.ref a) : Sem Value) (fun _ _ => False) X.xe s4) X.xe { s' with heap := h5 } := by
    rw [e2, hfr, hf]
    refine HandSPX.setFlight_onZ hh5 fun h6 hh6 up6 => wpAny_throw (tk _ _ ?_)
    refine ⟨a, B', _, pins, σ, H', cls, d, rfl, J, fun b o e hb => ?_, fun b o e hn => ?_, .inr (.inr (by rw [hs]; exact hh6)), na, os.trans Ib.os, ag, hE _ _ _ hW⟩
    · obtain ⟨_, h⟩ := og b o e
      rcases h with h | h
      · obtain ⟨o', q⟩ := Option.isSome_iff_exists.mp h
        have z := gB b o' q
        rw [e] at z
        cases z
        exact q
      · exact absurd h hb
    · obtain ⟨z, hor⟩ := og b o e
      have nb : b ≠ ce.locals := by
        rcases hor with h | h
        · obtain ⟨o', q⟩ := Option.isSome_iff_exists.mp h
          exact (bsub b o' q).1
        · exact neF b h
      obtain ⟨sl, q⟩ := up4 b o z hn
      obtain ⟨sl2, q2⟩ := up6 b _ (k5 b _ nb q) hn
      exact ⟨sl2, q2⟩
  first
    | exact wpAny_bind (wpAny_pure (wpAny_bind fin))
    | exact wpAny_bind fin
end

/-- wishes that do not look at the slots -/
abbrev W0 (E : XK) : WX := fun cls d _ H => E cls d H
/-- the block's context, its wish xe -/
abbrev bx (X : Cx) (s : Shared) (H : Hp) (scope : Scope) (ce : Env) (fp : List Addr) (xe : Value → Shared → Prop) : Cx := { X.blk s H scope ce fp with xe := xe }
theorem inv_xe {X : Cx} {pins : List (Addr × Obj)} {σ : L2.St} {H : Hp} {s : Shared} (I : Inv X pins σ H s) (xe : Value → Shared → Prop) : Inv { X with xe := xe } pins σ H s :=
  ⟨⟨I.ok.mod, I.ok.kind, I.ok.glob, I.ok.blt, I.ok.above, I.ok.inj, I.ok.has, I.ok.cab, I.ok.hd, I.ok.frames, I.ok.stk, I.ok.exf, I.ok.bs, I.ok.bsz, I.ok.noex, I.ok.exfs, I.ok.funs, I.ok.frf⟩, I.os, I.bare, I.base, I.loc, I.cell, I.free, I.freeC, I.pin, I.hok, I.len⟩
section
variable {X : Cx}
theorem lcx_core {E : XK} {pins : List (Addr × Obj)} {s : Shared} {σ : L2.St} {H : Hp} {Q : VK} {elt tg iter : Expr} {ifs : List Expr} {scope : Scope} {own : List (Str × Nat)} {pos pos' : Pos} {wi : TI} {g : TG} {tt : TT} {te : TE} {use : Option (Value → Sem Unit)} {Qf : Value → Shared → Prop}
    (tk : Takes X (W0 E)) (hst : X.stack = X.env :: X.outer) (hfr : X.env.frame = some X.env.locals) (hc : X.calm = true) (hN : X.N.Nodup) (I : Inv X pins σ H s) (hi : PI X tg iter wi) (ok : BlkOk X.N X.env.scope scope own)
    (hg : ∀ (s : Shared) (H : Hp) (C : Addr) (cl : List (Str × Addr)) (fp : List Addr) (xe : Value → Shared → Prop), PG (bx X s H scope (compEnvC scope cl C X.env) fp xe) tg g)
    (ht : ∀ (s : Shared) (H : Hp) (C : Addr) (cl : List (Str × Addr)) (fp : List Addr) (xe : Value → Shared → Prop), Ps (bx X s H scope (compEnvC scope cl C X.env) fp xe) (W0 E) → PTs (bx X s H scope (compEnvC scope cl C X.env) fp xe) ifs tt)
    (he : ∀ (s : Shared) (H : Hp) (C : Addr) (cl : List (Str × Addr)) (fp : List Addr) (xe : Value → Shared → Prop), Ps (bx X s H scope (compEnvC scope cl C X.env) fp xe) (W0 E) → PE (bx X s H scope (compEnvC scope cl C X.env) fp xe) elt te)
    (hs : ∀ x, foldedSetIterable iter X.env x = pure x) (h : tLc wi g tt te (own.map (·.2)) σ H Q)
    (hRR : ∀ D C s' m H', Inv X pins σ H' s' → Q (.ref D) H' → s'.heap.Ns C m → FpOk X pins H' C → compPost (model X.prog X.w) X.A X.xe use Qf (.ref D) C (.ok .next) s') :
    wpAny (model X.prog X.w) X.A (comprehension (.ListComp elt [⟨tg, iter, ifs, 0⟩] scope pos) scope X.env pos' (newList []) false (eval iter X.env) use) Qf X.xe s := by
  have hfree : ∀ y ∈ scope.names, y.2 = .free → ∃ c, X.env.cells.lookup y.1 = some c := fun y hy e => (ok.free y hy e).elim (fun k => I.ok.has _ (.inl k)) fun k => I.ok.has _ (.inr k)
  refine comp_free (use := use) rfl hs (closure_ok hfree) ok.kind (fun y hy e => by rw [ok.uniq y hy, e]) (thn (hi.run pins s σ H _ I h) fun xv s1 hx => thn hx fun itv s2 h2 => ?_)
  obtain ⟨it, fp, tn, J, H2, e, I2, T, st2, f2, q⟩ := h2
  subst e
  refine wpAny_newObj_type (newEnv_comp ?_) (by show 0 ≤ sizeLine; decide)
  generalize hD : s2.heap.objs.size = D
  have hDn : H2 D = none := I2.hok.fresh (Nat.le_of_eq hD)
  obtain ⟨W, ⟨m0, w0⟩, turn⟩ := q D hDn
  generalize hs3 : ({ s2 with heap := s2.heap.push { cls := .type "list", data := .seq ([] : List Value).toArray } } : Shared) = s3
  have I3 : Inv X pins σ (upd H2 D (.lst [])) s3 := by
    rw [← hs3]
    refine I2.laid (t' := s2.toks) (fun b o e => Heap.get?_push_of_some _ e) (Nat.le_of_eq hD) ⟨Nat.zero_le _, [], 0, .nil, ?_⟩
    rw [← hD]
    exact Heap.get?_push_size _ rfl
  have h3 : s3.heap = s2.heap.push { cls := .type "list", data := .seq ([] : List Value).toArray } := by rw [← hs3]
  have sz : ∀ b ∈ fp, b < s2.heap.objs.size := fun b hb => let ⟨_, e, _⟩ := T.obj _ _ st2 b hb; Heap.lt_size e
  have f3 : ∀ b ∈ fp, FpOk X pins (upd H2 D (.lst [])) b ∧ b < s3.heap.objs.size := fun b hb => by
    have hlt := sz b hb
    refine ⟨⟨?_, (f2 b hb).2⟩, by rw [h3, Heap.size_push]; exact Nat.lt_succ_of_lt hlt⟩
    rw [upd_ne (by rw [← hD]; exact Nat.ne_of_lt hlt)]
    exact (f2 b hb).1
  have st3 : tn 0 s3.heap := T.keep _ _ _ st2 fun b _ o e => by rw [h3]; exact Heap.get?_push_of_some _ e
  have I4 := block_start I3 ok hN f3
  have hfo : ∀ e : Value, noteFrame e (compEnvC scope (cellsFrom (s3.heap.objs.size + 1) scope.names (cloFrom X.env.cells scope.names [])) s3.heap.objs.size X.env) = noteFrame e X.env := fun e => rfl
  show codeAny _ _ (.compStart (.ListComp elt [⟨tg, iter, ifs, 0⟩] scope pos) 0 (.ref it) (.ref D) (compEnvC scope (cellsFrom (s3.heap.objs.size + 1) scope.names (cloFrom X.env.cells scope.names [])) s3.heap.objs.size X.env)) (postF (model X.prog X.w) X.A X.xe use Qf (.ref D) s3.heap.objs.size X.env.frame) { s3 with heap := pushCells (s3.heap.push { cls := .type "dict", data := .dict #[] }) scope.names }
  have pg := hg s3 (upd H2 D (.lst [])) s3.heap.objs.size (cellsFrom (s3.heap.objs.size + 1) scope.names (cloFrom X.env.cells scope.names [])) fp
  have pt := ht s3 (upd H2 D (.lst [])) s3.heap.objs.size (cellsFrom (s3.heap.objs.size + 1) scope.names (cloFrom X.env.cells scope.names [])) fp
  have pe := he s3 (upd H2 D (.lst [])) s3.heap.objs.size (cellsFrom (s3.heap.objs.size + 1) scope.names (cloFrom X.env.cells scope.names [])) fp
  have nfp : ∀ b ∈ fp, (upd H2 D (.lst [])) b = none := fun b hb => (f3 b hb).1.1
  generalize hce : compEnvC scope (cellsFrom (s3.heap.objs.size + 1) scope.names (cloFrom X.env.cells scope.names [])) s3.heap.objs.size X.env = ce at I4 pg pt pe hfo ⊢
  have cL : ce.locals = s3.heap.objs.size := by subst hce; rfl
  have cF : ce.frame = X.env.frame := by subst hce; rfl
  generalize hH3 : upd H2 D (.lst []) = H3 at I3 I4 pg pt pe w0 nfp f3
  generalize hs4 : ({ s3 with heap := pushCells (s3.heap.push { cls := .type "dict", data := .dict #[] }) scope.names } : Shared) = s4 at I4 ⊢
  rw [← cL, ← cF]
  -- what leaves a turn
  generalize hxe : (notedBy (model X.prog X.w) X.A ce fun e s' => postF (model X.prog X.w) X.A X.xe use Qf (.ref D) ce.locals ce.frame (.error e) s') = xe
  have ps : Ps (bx X s3 H3 scope ce fp xe) (W0 E) := fun σb pinsb Hb sb e s' Ib c => by
    show xe e s'
    rw [← hxe]
    exact blk_out tk hst hfr I3 (fun b hb => (f3 b hb).1) cF hfo Ib (fun _ _ _ z => z) c
  have pt := pt xe ps
  have pe := pe xe ps
  have pg := pg xe
  have I4 := inv_xe I4 xe
  have st4 : tn 0 s4.heap := T.keep _ _ _ st3 fun b _ o e => by rw [← hs4]; exact pushCells_keeps _ _ _ _ (Heap.get?_push_of_some _ e)
  have stat : ∀ {σ' : L2.St} {H' : Hp} {s' : Shared}, Inv (bx X s3 H3 scope ce fp xe) [] σ' H' s' → (∀ b ∈ fp, H' b = none) → ∀ b ∈ fp, FpOk (bx X s3 H3 scope ce fp xe) [] H' b := fun {σ' H' s'} I' hn b hb =>
    ⟨hn b hb, (I'.ok.exf b hb).1, I'.ok.exfs b hb, .inl hb, fun x c e => (I'.ok.exf b hb).2 x c e, fun p hp => absurd (show p ∈ ([] : List (Addr × Obj)) ++ [] from hp) (by simp)⟩
  have loop : codeAny (model X.prog X.w) X.A (.compLoop (.ListComp elt [⟨tg, iter, ifs, 0⟩] scope pos) 0 (.ref it) (.ref D) ce) (postF (model X.prog X.w) X.A X.xe use Qf (.ref D) ce.locals ce.frame) s4 := by
    refine compLoop_any (fun n s' => ∃ i H', Inv (bx X s3 H3 scope ce fp xe) [] (wipe σ (own.map (·.2))) H' s' ∧ tn i s'.heap ∧ (∀ b ∈ fp, H' b = none) ∧ W i n H') ?_ m0 ⟨0, H3, I4, st4, nfp, w0⟩
    rintro n s5 ⟨i, H5, I5, st5, n5, w5⟩
    rw [hxe]
    rcases turn i n H5 w5 with ⟨stop, qq⟩ | ⟨go, Nx, hNx, step⟩
    · have td := T.done (bx X s3 H3 scope ce fp xe) rfl rfl rfl hc i [] s5 _ H5 (fun _ _ => False) I5 (stat I5 n5) st5 stop
      refine thnF td fun r s6 ⟨hr, I6⟩ => ?_
      subst hr
      have I7 : Inv X pins σ H5 s6 := I3.call' (ch := fp) I6.os I6.base I6.hok I6.bare fun b hb => ⟨(f3 b hb).1.2.2.2.1, (f3 b hb).1.2.1, (f3 b hb).1.2.2.2.2.1, (f3 b hb).1.2.2.2.2.2⟩
      have nC : H5 s3.heap.objs.size = none := cL ▸ (show H5 ce.locals = none from I6.free)
      obtain ⟨m, hn, _⟩ := I6.loc
      have hn : s6.heap.Ns ce.locals m := hn
      rw [cL] at hn
      have fin := hRR D s3.heap.objs.size s6 m H5 I7 qq hn (I3.fpOk (Nat.le_refl _) nC)
      rw [← cL] at fin
      exact fin
    · have ti := T.item (bx X s3 H3 scope ce fp xe) rfl rfl rfl hc i [] s5 _ H5 (fun _ _ => False) I5 (stat I5 n5) st5 go
      refine thnF ti fun r s6 ⟨u, hr, h6⟩ => ?_
      subst hr
      refine thnF h6 fun _ s7 ⟨x, H7, I7, r7, y7, st7, n7⟩ => ?_
      have I7' := I7.pinned (stat I7 n7) (T.obj _ _ st7)
      refine thn (pg.run _ s7 _ H7 x u _ I7' r7 (step x H7 y7)) fun _ s8 ⟨σ8, H8, I8, hw8, q8⟩ => ?_
      refine thn (pt.run _ s8 σ8 H8 _ I8 q8) fun b s9 ⟨H9, I9, q9⟩ => ?_
      have fin : ∀ {s' : Shared} {H' : Hp}, Inv (bx X s3 H3 scope ce fp xe) ([] ++ pinsAt fp s7.heap) σ8 H' s' → Nx H' → ∃ m, m < n ∧ ∃ i H', Inv (bx X s3 H3 scope ce fp xe) [] (wipe σ (own.map (·.2))) H' s' ∧ tn i s'.heap ∧ (∀ b ∈ fp, H' b = none) ∧ W i m H' := fun {s' H'} I' nx => by
        obtain ⟨m', hm, w'⟩ := hNx H' nx
        have pin' : ∀ b ∈ fp, ∀ o, s7.heap.get? b = some o → s'.heap.get? b = some o ∧ H' b = none := fun b hb o e =>
          let z := I'.pin (b, o) (List.mem_append_right _ (List.mem_append_right _ (mem_pinsAt hb e)))
          ⟨z.1, z.2.1⟩
        have hl : (wipe σ (own.map (·.2))).length = σ8.length := by rw [← hw8, wipe_length]
        refine ⟨m', hm, i + 1, H', (I'.unpinned (pins := [])).weak hl (fun j v e => ?_), T.keep _ _ _ st7 fun b hb o e => (pin' b hb o e).1, fun b hb => ?_, w'⟩
        · rw [← hw8] at e
          exact (wipe_some e).1
        · obtain ⟨o, e, _⟩ := T.obj _ _ st7 b hb
          exact (pin' b hb o e).2
      cases b with
      | false =>
        simp only [Bool.false_eq_true, if_false] at q9 ⊢
        exact fin I9 q9
      | true =>
        simp only [if_true] at q9 ⊢
        refine thn (pe.run _ s9 σ8 H9 _ I9 q9) fun z s10 ⟨yv, H10, I10, r10, acc, hD10, hz10, nx⟩ => ?_
        exact app_ok (X := bx X s3 H3 scope ce fp xe) I10 hD10 hz10 r10 fun s11 I11 => fin I11 nx
  exact codeAny_compStart_list loop (T.self X.A 0 _ _ _ st4 loop)
/-- as a value -/
theorem pe_lcx {E : XK} {elt tg iter : Expr} {ifs : List Expr} {scope : Scope} {own : List (Str × Nat)} {pos : Pos} {wi : TI} {g : TG} {tt : TT} {te : TE} (tk : Takes X (W0 E)) (hst : X.stack = X.env :: X.outer) (hfr : X.env.frame = some X.env.locals) (hc : X.calm = true) (hN : X.N.Nodup) (hi : PI X tg iter wi) (ok : BlkOk X.N X.env.scope scope own)
    (hg : ∀ (s : Shared) (H : Hp) (C : Addr) (cl : List (Str × Addr)) (fp : List Addr) (xe : Value → Shared → Prop), PG (bx X s H scope (compEnvC scope cl C X.env) fp xe) tg g)
    (ht : ∀ (s : Shared) (H : Hp) (C : Addr) (cl : List (Str × Addr)) (fp : List Addr) (xe : Value → Shared → Prop), Ps (bx X s H scope (compEnvC scope cl C X.env) fp xe) (W0 E) → PTs (bx X s H scope (compEnvC scope cl C X.env) fp xe) ifs tt)
    (he : ∀ (s : Shared) (H : Hp) (C : Addr) (cl : List (Str × Addr)) (fp : List Addr) (xe : Value → Shared → Prop), Ps (bx X s H scope (compEnvC scope cl C X.env) fp xe) (W0 E) → PE (bx X s H scope (compEnvC scope cl C X.env) fp xe) elt te)
    (hs : ∀ x, foldedSetIterable iter X.env x = pure x := by intro _; rfl) : PE X (.ListComp elt [⟨tg, iter, ifs, 0⟩] scope pos) (tLc wi g tt te (own.map (·.2))) := by
  refine ⟨fun pins s σ H Q I h => ?_⟩
  rw [eval_ListComp]
  refine lcx_core tk hst hfr hc hN I hi ok hg ht he hs h fun D C s' m H' I' q hn f => ⟨m, hn, fun h'' sb => ?_⟩
  obtain ⟨f0, f1, f2, f3, f4, f5⟩ := f
  exact ⟨.ref D, H', I'.turned (t' := s'.toks) (fun b o hb e => (sb.2 b hb).trans e) f0 f1 f3 f4 f5, rfl, q⟩
/-- name = [..] on one line, the name a local -/
theorem ps_setLcx {E : XK} {i : Nat} {y : Str} {py : Pos} {elt tg iter : Expr} {ifs : List Expr} {scope : Scope} {own : List (Str × Nat)} {pos spos : Pos} {wi : TI} {g : TG} {tt : TT} {te : TE} (tk : Takes X (W0 E)) (hst : X.stack = X.env :: X.outer) (hfr : X.env.frame = some X.env.locals) (hc : X.calm = true) (hN : X.N.Nodup) (hy : X.N[i]? = some y)
    (hyl : X.env.scope.names.lookup y = some .local) (hsw : swapsWith (.ListComp elt [⟨tg, iter, ifs, 0⟩] scope pos) (some (.Name y py)) spos.line X.env = pure true) (hi : PI X tg iter wi) (ok : BlkOk X.N X.env.scope scope own)
    (hg : ∀ (s : Shared) (H : Hp) (C : Addr) (cl : List (Str × Addr)) (fp : List Addr) (xe : Value → Shared → Prop), PG (bx X s H scope (compEnvC scope cl C X.env) fp xe) tg g)
    (ht : ∀ (s : Shared) (H : Hp) (C : Addr) (cl : List (Str × Addr)) (fp : List Addr) (xe : Value → Shared → Prop), Ps (bx X s H scope (compEnvC scope cl C X.env) fp xe) (W0 E) → PTs (bx X s H scope (compEnvC scope cl C X.env) fp xe) ifs tt)
    (he : ∀ (s : Shared) (H : Hp) (C : Addr) (cl : List (Str × Addr)) (fp : List Addr) (xe : Value → Shared → Prop), Ps (bx X s H scope (compEnvC scope cl C X.env) fp xe) (W0 E) → PE (bx X s H scope (compEnvC scope cl C X.env) fp xe) elt te)
    (hs : ∀ x, foldedSetIterable iter X.env x = pure x := by intro _; rfl) : PS X (.Assign [.Name y py] (.ListComp elt [⟨tg, iter, ifs, 0⟩] scope pos) spos) (tAsg (tLc wi g tt te (own.map (·.2))) (gName i)) := by
  refine ⟨fun pins s σ H D I h => ?_⟩
  rw [exec_Assign_Name_used _ _ _ _ hsw]
  refine wpAny_bind (wpAny_standAt (wpAny_bind ?_))
  show wpAny _ X.A (do let _ ← comprehension (.ListComp elt [⟨tg, iter, ifs, 0⟩] scope pos) scope X.env (firstIterPos [⟨tg, iter, ifs, 0⟩] pos) (newList []) false (eval iter X.env) (some (assign (.Name y py) X.env))) _ _ s
  have h : tLc wi g tt te (own.map (·.2)) σ H (fun x H1 => gName i x σ H1 D.nx) := h
  refine wpAny_bind (thn (lcx_core (Qf := fun _ s' => SP X pins D .next s') tk hst hfr hc hN I hi ok hg ht he hs h fun L C s' m H' I' q hn f => ?_) fun _ s' hq => wpAny_pure (wpAny_pure hq))
  show wpAny _ _ (assign (.Name y py) X.env (.ref L)) _ _ _
  refine wpAny_assign_Name (store_ok2 (v := V.ref L) I' hN hy (.inl hyl) rfl (fun s2 I2 ⟨a, sb, ha⟩ => ?_) (.inr hyl))
  obtain ⟨f0, f1, f2, f3, f4, f5⟩ := f
  have haC : C ≠ a := by
    rcases ha with z | z
    · rw [z]; exact f1
    · exact fun e => f4 y a z e.symm
  refine ⟨m, hn.sameBut sb haC, fun h3 sb3 => ?_⟩
  exact ⟨_, H', I2.turned (t' := s2.toks) (fun b o hb e => (sb3.2 b hb).trans e) f0 f1 f3 f4 f5, q⟩
end
end Kd
set_option Elab.async false
set_option linter.all false
set_option maxRecDepth 100000
set_option maxHeartbeats 2000000
/-! the data level: data, the frozen heap, slots, the judgements -/
namespace Kd
open PySem PySem.Spec PyProof.Rows L2

/-! ### data -/
inductive D where
  | v (x : V)
  | tup (xs : List D)
  | lst (xs : List D)
  | scr (xs : List D)
  | emp
abbrev dI (i : Int) : D := .v (.int i)
abbrev dS (x : Str) : D := .v (.str x)
abbrev dB (b : Bool) : D := .v (.bl b)
abbrev dN : D := .v .non
mutual
inductive Is (K : PySem.W.Frag) (F : Hp) : V → D → Prop
  | v (x : V) : Is K F x (.v x)
  | tup {a : Addr} {xs : List V} {ds : List D} : SqT K F a xs → IsL K F xs ds → Is K F (.ref a) (.tup ds)
  | lst {a : Addr} {xs : List V} {ds : List D} : F a = some (.lst xs) → IsL K F xs ds → Is K F (.ref a) (.lst ds)
  | scr {a : Addr} {xs : List V} {ds : List D} : SqL K F a xs → IsL K F xs ds → Is K F (.ref a) (.scr ds)
  | emp {a : Addr} : F a = some (.dK []) → Is K F (.ref a) .emp
inductive IsL (K : PySem.W.Frag) (F : Hp) : List V → List D → Prop
  | nil : IsL K F [] []
  | cons {v : V} {vs : List V} {d : D} {ds : List D} : Is K F v d → IsL K F vs ds → IsL K F (v :: vs) (d :: ds)
end
theorem sqT_mono {K : PySem.W.Frag} {F F' : Hp} {a : Addr} {xs : List V} (e : Same F F') (h : SqT K F a xs) : SqT K F' a xs := by
  rcases h with (h | ⟨o, h⟩) | h
  · exact .inl (.inl (e _ _ h))
  · exact .inl (.inr ⟨o, e _ _ h⟩)
  · exact .inr h
section
variable {K : PySem.W.Frag} {F F' : Hp}
mutual
theorem Is.mono (e : Same F F') : ∀ {v : V} {d : D}, Is K F v d → Is K F' v d
  | _, _, .v x => .v x
  | _, _, .tup h l => .tup (sqT_mono e h) (IsL.mono e l)
  | _, _, .lst h l => .lst (e _ _ h) (IsL.mono e l)
  | _, _, .scr h l => .scr (e.seq h) (IsL.mono e l)
  | _, _, .emp h => .emp (e _ _ h)
theorem IsL.mono (e : Same F F') : ∀ {vs : List V} {ds : List D}, IsL K F vs ds → IsL K F' vs ds
  | _, _, .nil => .nil
  | _, _, .cons h l => .cons (Is.mono e h) (IsL.mono e l)
end
theorem IsL.length : ∀ {vs : List V} {ds : List D}, IsL K F vs ds → vs.length = ds.length
  | _, _, .nil => rfl
  | _, _, .cons _ l => by simp only [List.length_cons, IsL.length l]
theorem IsL.get : ∀ {vs : List V} {ds : List D} {i : Nat} {d : D}, IsL K F vs ds → ds[i]? = some d → ∃ v, vs[i]? = some v ∧ Is K F v d
  | _, _, _, _, .nil, e => by simp at e
  | _, _, 0, _, .cons h _, e => by simp at e; subst e; exact ⟨_, rfl, h⟩
  | _, _, i + 1, d, .cons _ l, e => by
    obtain ⟨v, h1, h2⟩ := IsL.get (i := i) (d := d) l (by simpa using e)
    exact ⟨v, by simpa using h1, h2⟩
theorem IsL.getV : ∀ {vs : List V} {ds : List D} {i : Nat} {v : V}, IsL K F vs ds → vs[i]? = some v → ∃ d, ds[i]? = some d ∧ Is K F v d
  | _, _, _, _, .nil, e => by simp at e
  | _, _, 0, _, .cons h _, e => by simp at e; subst e; exact ⟨_, rfl, h⟩
  | _, _, i + 1, v, .cons _ l, e => by
    obtain ⟨d, h1, h2⟩ := IsL.getV (i := i) (v := v) l (by simpa using e)
    exact ⟨d, by simpa using h1, h2⟩
theorem IsL.append : ∀ {vs ws : List V} {ds es : List D}, IsL K F vs ds → IsL K F ws es → IsL K F (vs ++ ws) (ds ++ es)
  | _, _, _, _, .nil, h => h
  | _, _, _, _, .cons h l, h2 => .cons h (IsL.append l h2)
theorem IsL.set : ∀ {vs : List V} {ds : List D} {v : V} {d : D} (i : Nat), IsL K F vs ds → Is K F v d → IsL K F (vs.set i v) (ds.set i d)
  | _, _, _, _, _, .nil, _ => .nil
  | _, _, _, _, 0, .cons _ l, h => .cons h l
  | _, _, _, _, i + 1, .cons h l, h2 => .cons h (IsL.set i l h2)
theorem IsL.drop : ∀ {vs : List V} {ds : List D} (n : Nat), IsL K F vs ds → IsL K F (vs.drop n) (ds.drop n)
  | _, _, 0, h => h
  | _, _, _ + 1, .nil => .nil
  | _, _, n + 1, .cons _ l => IsL.drop n l
theorem IsL.take : ∀ {vs : List V} {ds : List D} (n : Nat), IsL K F vs ds → IsL K F (vs.take n) (ds.take n)
  | _, _, 0, _ => .nil
  | _, _, _ + 1, .nil => .nil
  | _, _, n + 1, .cons h l => .cons h (IsL.take n l)
theorem Is.v_inv {v x : V} (h : Is K F v (.v x)) : v = x := by cases h; rfl
theorem IsL.vs : ∀ {vs : List V} {xs : List V}, IsL K F vs (xs.map D.v) → vs = xs
  | _, [], h => by cases h; rfl
  | _, x :: xs, h => by
    cases h with
    | cons h l =>
      cases h
      rw [IsL.vs l]
theorem IsL.ofV : ∀ (xs : List V), IsL K F xs (xs.map D.v)
  | [] => .nil
  | x :: xs => .cons (.v x) (IsL.ofV xs)
end

/-! ### tables of code objects: which ones lambdas may write -/
class LT where
  T : List (Addr × Str)
theorem tabS_keep {H H' : Hp} {P : Addr} {q : Str} (t : LamX.TabS H P q) (e : ∀ b o, H b = some o → (∀ xs, o ≠ .lst xs) → H' b = some o) : LamX.TabS H' P q := by
  obtain ⟨ps, h1, h2, h3⟩ := t
  refine ⟨ps, e _ _ h1 (nofun), h2, fun pos cv hc => ?_⟩
  obtain ⟨c, e1, e2⟩ := h3 pos cv hc
  exact ⟨c, e1, e _ _ e2 fun xs z => by unfold LamX.CodeO at z; cases z⟩
/-- without the tables -/
def stripH (H : Hp) : Hp := fun b => match H b with
  | some (.tbl _) => none
  | o => o
theorem strip_nt {H : Hp} : ∀ a ps, stripH H a ≠ some (.tbl ps) := fun a ps z => by
  unfold stripH at z
  split at z
  · cases z
  · rename_i h
    exact h ps z
theorem strip_some {H : Hp} {a : Addr} {o : HO} (h : stripH H a = some o) : H a = some o := by
  unfold stripH at h
  split at h
  · cases h
  · exact h
theorem strip_of {H : Hp} {a : Addr} {o : HO} (h : H a = some o) (n : ∀ ps, o ≠ .tbl ps) : stripH H a = some o := by
  unfold stripH
  split
  · rename_i ps q
    rw [h] at q
    exact absurd (Option.some.inj q) (n ps)
  · exact h
theorem strip_none {H : Hp} {a : Addr} (h : stripH H a = none) : ∀ o, H a = some o → ∃ ps, o = .tbl ps := fun o q => by
  cases o with
  | tbl ps => exact ⟨ps, rfl⟩
  | _ => rw [strip_of q (nofun)] at h; cases h
theorem tabs_keep {T : List (Addr × Str)} {H H' : Hp} (t : LamX.Tabs T H) (e : ∀ b o, H b = some o → (∀ xs, o ≠ .lst xs) → H' b = some o) : LamX.Tabs T H' := fun p hp => tabS_keep (t p hp) e
variable [LT]
/-! ### the frozen heap grows -/
structure Gr (F H F' H' : Hp) : Prop where
  ff : Same F F'
  fh : Same F' H'
  hh : LamX.ExtN H H'
  fr : ∀ a o, (∀ ps, o ≠ .tbl ps) → F a = none → H a = some o → F' a = none
  nt : ∀ a ps, F' a = some (.tbl ps) → F a = some (.tbl ps)
  tb : LamX.Tabs LT.T H → LamX.Tabs LT.T H'
theorem ext_of {H H' : Hp} (h : Same H H') : LamX.ExtN H H' := fun b o e _ => h b o e
theorem tb_of {H H' : Hp} (h : Same H H') : LamX.Tabs LT.T H → LamX.Tabs LT.T H' := fun t => t.ext h
theorem Gr.refl {F H : Hp} (e : Same F H) : Gr F H F H := ⟨Same.refl F, e, LamX.ExtN.refl H, fun _ _ _ h _ => h, fun _ _ h => h, fun h => h⟩
theorem Gr.trans {F H F1 H1 F2 H2 : Hp} (a : Gr F H F1 H1) (b : Gr F1 H1 F2 H2) : Gr F H F2 H2 := ⟨a.ff.trans b.ff, b.fh, a.hh.trans b.hh, fun x o n h1 h2 => b.fr x o n (a.fr x o n h1 h2) (a.hh x o h2 n), fun x ps h => a.nt x ps (b.nt x ps h), fun t => b.tb (a.tb t)⟩
theorem same_new {H : Hp} {p : Addr} {o : HO} (h : H p = none) : Same H (upd H p o) := fun b u e => by rw [upd_ne (ne_of_none e h)]; exact e
theorem nt_new {F : Hp} {p : Addr} {o : HO} (ho : ∀ ps, o ≠ .tbl ps) : ∀ a ps, upd F p o a = some (.tbl ps) → F a = some (.tbl ps) := fun a ps q => by
  by_cases ha : a = p
  · rw [ha, upd_same] at q
    exact absurd (Option.some.inj q) (ho ps)
  · rw [upd_ne ha] at q
    exact q
theorem Gr.new {F H : Hp} {p : Addr} {o : HO} (e : Same F H) (h : H p = none) (ho : ∀ ps, o ≠ .tbl ps) : Gr F H (upd F p o) (upd H p o) := by
  have hF : F p = none := e.free h
  refine ⟨same_new hF, fun b u q => ?_, ext_of (same_new h), fun a u _ h1 h2 => ?_, nt_new ho, tb_of (same_new h)⟩
  · by_cases hb : b = p
    · rw [hb, upd_same] at q
      rw [hb, upd_same]
      exact q
    · rw [upd_ne hb] at q
      rw [upd_ne hb]
      exact e b u q
  · have ne : a ≠ p := fun z => by rw [z, h] at h2; cases h2
    rw [upd_ne ne]
    exact h1
/-- new, not frozen -/
theorem Gr.loose {F H : Hp} {p : Addr} {o : HO} (e : Same F H) (h : H p = none) : Gr F H F (upd H p o) := ⟨Same.refl F, e.trans (same_new h), ext_of (same_new h), fun _ _ _ h1 _ => h1, fun _ _ h => h, tb_of (same_new h)⟩
def Yld (K : PySem.W.Frag) (F H : Hp) (d : D) (Q : VK) : Prop := ∀ v F' H', Gr F H F' H' → Is K F' v d → Q v H'
theorem Yld.v {K : PySem.W.Frag} {F H : Hp} {x : V} {Q : VK} (e : Same F H) (h : Yld K F H (.v x) Q) : Q x H := h x F H (Gr.refl e) (.v x)
theorem Yld.newT {K : PySem.W.Frag} {F H : Hp} {vs : List V} {ds : List D} {Q : VK} (e : Same F H) (l : IsL K F vs ds) (h : Yld K F H (.tup ds) Q) {p : Addr} (hp : H p = none) : Q (.ref p) (upd H p (.tup vs)) :=
  h (.ref p) _ _ (Gr.new e hp (nofun)) (.tup (.inl (.inl upd_same)) (l.mono (same_new (e.free hp))))
theorem Yld.newL {K : PySem.W.Frag} {F H : Hp} {vs : List V} {ds : List D} {Q : VK} (e : Same F H) (l : IsL K F vs ds) (h : Yld K F H (.lst ds) Q) {p : Addr} (hp : H p = none) : Q (.ref p) (upd H p (.lst vs)) :=
  h (.ref p) _ _ (Gr.new e hp (nofun)) (.lst upd_same (l.mono (same_new (e.free hp))))
theorem Yld.gr {K : PySem.W.Frag} {F H F1 H1 : Hp} {d : D} {Q : VK} (g : Gr F H F1 H1) (h : Yld K F H d Q) : Yld K F1 H1 d Q := fun v F' H' g2 i => h v F' H' (g.trans g2) i

/-! ### errors, results -/
structure Er where
  cls : Value
  fs : Option (List (Str × V)) := none
def Thr (E : XK) (x : Er) (H : Hp) : Prop := match x.fs with
  | none => E x.cls none H
  | some fs => ∀ a, H a = some (.xd fs) → E x.cls (some a) H
abbrev Res := Except Er D

/-! ### slots -/
inductive Sl where
  | no
  | dat (d : D)
  | own (lent : Bool) (ds : List D)
structure En where
  O : Addr → Prop
  F : Hp
  H : Hp
structure Wd (K : PySem.W.Frag) (e : En) (F H : Hp) (σ : L2.St) (ρ : List Sl) : Prop where
  ff : Same e.F F
  fh : Same F H
  hh : ∀ b o, ¬ e.O b → (∀ ps, o ≠ .tbl ps) → e.H b = some o → H b = some o
  fr : ∀ a, e.F a = none → e.H a ≠ none → F a = none
  ol : ∀ a, e.O a → ∃ vs, H a = some (.lst vs)
  nt : ∀ a ps, F a ≠ some (.tbl ps)
  tb : LamX.Tabs LT.T H
  es : ∀ a ps, e.H a ≠ some (.tbl ps)
  len : σ.length = ρ.length
  dat : ∀ (i : Nat) d, ρ[i]? = some (.dat d) → ∃ v, σ[i]? = some (some v) ∧ Is K F v d
  own : ∀ (i : Nat) b ds, ρ[i]? = some (.own b ds) → ∃ a vs, σ[i]? = some (some (.ref a)) ∧ F a = none ∧ H a = some (.lst vs) ∧ IsL K F vs ds ∧ (if b then e.O a else e.H a = none)
  dis : ∀ (i j : Nat) b c ds es a, i ≠ j → ρ[i]? = some (.own b ds) → ρ[j]? = some (.own c es) → σ[i]? = some (some (.ref a)) → σ[j]? ≠ some (some (.ref a))
section
variable {K : PySem.W.Frag} {e : En} {F H F' H' : Hp} {σ : L2.St} {ρ : List Sl} {i : Nat} {d : D} {v : V} {ds : List D}
theorem Wd.oh (w : Wd K e F H σ ρ) : ∀ a, e.O a → H a ≠ none := fun a ha z => by
  obtain ⟨vs, q⟩ := w.ol a ha
  rw [z] at q
  cases q
theorem Wd.had (w : Wd K e F H σ ρ) {a : Addr} {o : HO} (h : e.H a = some o) : ∃ u, (∀ ps, u ≠ .tbl ps) ∧ H a = some u := by
  by_cases ho : e.O a
  · obtain ⟨vs, q⟩ := w.ol a ho
    exact ⟨.lst vs, (nofun), q⟩
  · have n : ∀ ps, o ≠ .tbl ps := fun ps z => w.es a ps (by rw [h, z])
    exact ⟨o, n, w.hh a o ho n h⟩
theorem Wd.dm (w : Wd K e F H σ ρ) : ∀ b, e.H b ≠ none → H b ≠ none := fun b hb z => by
  cases q : e.H b with
  | none => exact hb q
  | some o =>
    obtain ⟨u, _, h⟩ := w.had q
    rw [z] at h
    cases h
theorem Wd.grow (w : Wd K e F H σ ρ) (g : Gr F H F' H') : Wd K e F' H' σ ρ := by
  refine ⟨w.ff.trans g.ff, g.fh, fun b o hb hn q => g.hh _ _ (w.hh b o hb hn q) hn, fun a h1 h2 => ?_, fun a ha => (w.ol a ha).imp fun vs q => g.hh _ _ q (nofun), fun a ps q => w.nt a ps (g.nt a ps q), g.tb w.tb, w.es, w.len, fun i d q => ?_, fun i b ds q => ?_, w.dis⟩
  · cases q : e.H a with
    | none => exact absurd q h2
    | some o =>
      obtain ⟨u, n, h⟩ := w.had q
      exact g.fr a u n (w.fr a h1 h2) h
  · obtain ⟨v, q1, q2⟩ := w.dat i d q
    exact ⟨v, q1, q2.mono g.ff⟩
  · obtain ⟨a, vs, q1, q2, q3, q4, q5⟩ := w.own i b ds q
    exact ⟨a, vs, q1, g.fr a (.lst vs) (nofun) q2 q3, g.hh _ _ q3 ((nofun)), q4.mono g.ff, q5⟩
theorem set_get {α : Type} {l : List α} {i j : Nat} {a x : α} (h : (l.set i a)[j]? = some x) : (j = i ∧ x = a) ∨ (j ≠ i ∧ l[j]? = some x) := by
  by_cases e : j = i
  · subst e
    by_cases hl : j < l.length
    · rw [List.getElem?_set_self hl] at h
      exact .inl ⟨rfl, (Option.some.inj h).symm⟩
    · rw [List.getElem?_eq_none (by simpa using hl)] at h
      cases h
  · rw [List.getElem?_set_ne (Ne.symm e)] at h
    exact .inr ⟨e, h⟩
/-- a name is given data -/
theorem Wd.set (w : Wd K e F H σ ρ) (hi : i < ρ.length) (h : Is K F v d) : Wd K e F H (σ.set i (some v)) (ρ.set i (.dat d)) := by
  have hs : i < σ.length := by rw [w.len]; exact hi
  refine ⟨w.ff, w.fh, w.hh, w.fr, w.ol, w.nt, w.tb, w.es, by simp [w.len], fun j x q => ?_, fun j b ds q => ?_, fun j k b c ds es a ne h1 h2 h3 h4 => ?_⟩
  · rcases set_get q with ⟨rfl, e1⟩ | ⟨ne, q⟩
    · cases e1
      exact ⟨v, by rw [List.getElem?_set_self hs], h⟩
    · obtain ⟨u, q1, q2⟩ := w.dat j x q
      exact ⟨u, by rw [List.getElem?_set_ne (Ne.symm ne)]; exact q1, q2⟩
  · rcases set_get q with ⟨rfl, e1⟩ | ⟨ne, q⟩
    · cases e1
    · obtain ⟨a, vs, q1, q2⟩ := w.own j b ds q
      exact ⟨a, vs, by rw [List.getElem?_set_ne (Ne.symm ne)]; exact q1, q2⟩
  · rcases set_get h1 with ⟨rfl, e1⟩ | ⟨n1, h1'⟩
    · cases e1
    · rcases set_get h2 with ⟨rfl, e1⟩ | ⟨n2, h2'⟩
      · cases e1
      · rw [List.getElem?_set_ne (Ne.symm n1)] at h3
        rw [List.getElem?_set_ne (Ne.symm n2)] at h4
        exact w.dis j k b c ds es a ne h1' h2' h3 h4
/-- a name is given a list of its own -/
theorem Wd.setOwn {p : Addr} {vs : List V} (w : Wd K e F H σ ρ) (hi : i < ρ.length) (hp : F p = none) (hH : H p = some (.lst vs)) (h : IsL K F vs ds) (hn : e.H p = none) (hd : ∀ (j : Nat) b es, ρ[j]? = some (.own b es) → σ[j]? ≠ some (some (.ref p))) :
    Wd K e F H (σ.set i (some (.ref p))) (ρ.set i (.own false ds)) := by
  have hs : i < σ.length := by rw [w.len]; exact hi
  refine ⟨w.ff, w.fh, w.hh, w.fr, w.ol, w.nt, w.tb, w.es, by simp [w.len], fun j x q => ?_, fun j b ds q => ?_, fun j k b c ds' es a ne h1 h2 h3 h4 => ?_⟩
  · rcases set_get q with ⟨rfl, e1⟩ | ⟨ne, q⟩
    · cases e1
    · obtain ⟨u, q1, q2⟩ := w.dat j x q
      exact ⟨u, by rw [List.getElem?_set_ne (Ne.symm ne)]; exact q1, q2⟩
  · rcases set_get q with ⟨rfl, e1⟩ | ⟨ne, q⟩
    · cases e1
      exact ⟨p, vs, by rw [List.getElem?_set_self hs], hp, hH, h, hn⟩
    · obtain ⟨a, vs, q1, q2⟩ := w.own j b ds q
      exact ⟨a, vs, by rw [List.getElem?_set_ne (Ne.symm ne)]; exact q1, q2⟩
  · by_cases j1 : j = i
    · have k1 : k ≠ i := fun z => ne (j1.trans z.symm)
      rw [j1, List.getElem?_set_self hs] at h3
      rw [List.getElem?_set_ne (Ne.symm k1)] at h4 h2
      cases h3
      exact hd k c es h2 h4
    · by_cases k1 : k = i
      · rw [k1, List.getElem?_set_self hs] at h4
        rw [List.getElem?_set_ne (Ne.symm j1)] at h3 h1
        cases h4
        exact hd j b ds' h1 h3
      · rw [List.getElem?_set_ne (Ne.symm j1)] at h3 h1
        rw [List.getElem?_set_ne (Ne.symm k1)] at h4 h2
        exact w.dis j k b c ds' es a ne h1 h2 h3 h4
theorem Wd.eNone {p : Addr} (w : Wd K e F H σ ρ) (hp : H p = none) : e.H p = none := by
  cases q : e.H p with
  | none => rfl
  | some o => exact absurd hp (w.dm p (by rw [q]; simp))
/-- a new list, at p, goes to the name -/
theorem Wd.newOwn {p : Addr} {vs : List V} (w : Wd K e F H σ ρ) (hi : i < ρ.length) (hp : H p = none) (h : IsL K F vs ds) : Wd K e F (upd H p (.lst vs)) (σ.set i (some (.ref p))) (ρ.set i (.own false ds)) := by
  have w1 := w.grow (Gr.loose (o := .lst vs) w.fh hp)
  refine w1.setOwn hi (w.fh.free hp) upd_same h (w.eNone hp) fun j b es q z => ?_
  obtain ⟨a, vs', q1, _, q3, _⟩ := w.own j b es q
  rw [z] at q1
  cases q1
  rw [hp] at q3
  cases q3
/-- the own list at a is written -/
theorem Wd.write {a : Addr} {vs' : List V} {ds ds' : List D} {c : Bool} (w : Wd K e F H σ ρ) (hi : ρ[i]? = some (.own c ds)) (hs : σ[i]? = some (some (.ref a))) (h : IsL K F vs' ds') : Wd K e F (upd H a (.lst vs')) σ (ρ.set i (.own c ds')) := by
  obtain ⟨a', vs0, q1, q2, q3, q4, q5⟩ := w.own i c ds hi
  have ea : a' = a := by
    rw [hs] at q1
    cases q1
    rfl
  subst ea
  have hir : i < ρ.length := (List.getElem?_eq_some_iff.mp hi).1
  have up : ∀ b o, H b = some o → (∀ xs, o ≠ .lst xs) → upd H a' (.lst vs') b = some o := fun b o q n => by
    rw [upd_ne (fun z => by rw [z, q3] at q; exact n vs0 (Option.some.inj q).symm)]
    exact q
  refine ⟨w.ff, fun b o q => ?_, fun b o hb hn q => ?_, w.fr, fun b hb => ?_, w.nt, tabs_keep w.tb up, w.es, by simp [w.len], fun j x q => ?_, fun j b es q => ?_, fun j k b1 b2 ds1 es b ne h1 h2 h3 h4 => ?_⟩
  · rw [upd_ne (ne_of_none q q2)]
    exact w.fh b o q
  · have nb : b ≠ a' := fun z => by
      subst z
      cases c with
      | true => exact hb q5
      | false =>
        have q5 : e.H b = none := q5
        rw [q] at q5; cases q5
    rw [upd_ne nb]
    exact w.hh b o hb hn q
  · by_cases z : b = a'
    · rw [z, upd_same]; exact ⟨_, rfl⟩
    · rw [upd_ne z]; exact w.ol b hb
  · rcases set_get q with ⟨rfl, e1⟩ | ⟨ne, q⟩
    · cases e1
    · exact w.dat j x q
  · by_cases j1 : j = i
    · rw [j1, List.getElem?_set_self hir] at q
      cases q
      exact ⟨a', vs', by rw [j1]; exact hs, q2, upd_same, h, q5⟩
    · rw [List.getElem?_set_ne (Ne.symm j1)] at q
      obtain ⟨b', ws, p1, p2, p3, p4, p5⟩ := w.own j b es q
      have nb : b' ≠ a' := fun z => by
        subst z
        exact w.dis i j c b ds es b' (Ne.symm j1) hi q hs p1
      exact ⟨b', ws, p1, p2, by rw [upd_ne nb]; exact p3, p4, p5⟩
  · have own2 : ∀ {j : Nat} {b : Bool} {es : List D}, (ρ.set i (.own c ds'))[j]? = some (.own b es) → ∃ b ds2, ρ[j]? = some (.own b ds2) := fun {j b es} q => by
      by_cases j1 : j = i
      · exact ⟨c, ds, by rw [j1]; exact hi⟩
      · rw [List.getElem?_set_ne (Ne.symm j1)] at q
        exact ⟨_, _, q⟩
    obtain ⟨y1, x1, o1⟩ := own2 h1
    obtain ⟨y2, x2, o2⟩ := own2 h2
    exact w.dis j k y1 y2 x1 x2 b ne o1 o2 h3 h4
/-- an own list is data from now on -/
theorem Wd.freeze (w : Wd K e F H σ ρ) (hi : ρ[i]? = some (.own false ds)) : ∃ a F', σ[i]? = some (some (.ref a)) ∧ Wd K e F' H σ (ρ.set i (.dat (.lst ds))) ∧ Same F F' ∧ Is K F' (.ref a) (.lst ds) := by
  obtain ⟨a, vs, q1, q2, q3, q4, q5⟩ := w.own i false ds hi
  have q5 : e.H a = none := q5
  have sm : Same F (upd F a (.lst vs)) := same_new q2
  have ia : Is K (upd F a (.lst vs)) (.ref a) (.lst ds) := .lst upd_same (q4.mono sm)
  have hir : i < ρ.length := (List.getElem?_eq_some_iff.mp hi).1
  refine ⟨a, _, q1, ?_, sm, ia⟩
  refine ⟨w.ff.trans sm, fun b o q => ?_, w.hh, fun b h1 h2 => ?_, w.ol, fun b ps q => w.nt b ps (nt_new (o := .lst vs) (nofun) b ps q), w.tb, w.es, by simp [w.len], fun j x q => ?_, fun j b es q => ?_, fun j k b c ds1 es b2 ne h1 h2 h3 h4 => ?_⟩
  · by_cases hb : b = a
    · rw [hb, upd_same] at q
      cases q
      rw [hb]
      exact q3
    · rw [upd_ne hb] at q
      exact w.fh b o q
  · rw [upd_ne (fun z => h2 (by rw [z]; exact q5))]
    exact w.fr b h1 h2
  · by_cases j1 : j = i
    · rw [j1, List.getElem?_set_self hir] at q
      cases q
      exact ⟨.ref a, by rw [j1]; exact q1, ia⟩
    · rw [List.getElem?_set_ne (Ne.symm j1)] at q
      obtain ⟨u, p1, p2⟩ := w.dat j x q
      exact ⟨u, p1, p2.mono sm⟩
  · by_cases j1 : j = i
    · rw [j1, List.getElem?_set_self hir] at q
      cases q
    · rw [List.getElem?_set_ne (Ne.symm j1)] at q
      obtain ⟨b', ws, p1, p2, p3, p4, p5⟩ := w.own j b es q
      have nb : b' ≠ a := fun z => by
        subst z
        exact w.dis i j false b ds es b' (Ne.symm j1) hi q q1 p1
      exact ⟨b', ws, p1, by rw [upd_ne nb]; exact p2, p3, p4.mono sm, p5⟩
  · have own2 : ∀ {j : Nat} {b : Bool} {es : List D}, (ρ.set i (.dat (.lst ds)))[j]? = some (.own b es) → ρ[j]? = some (.own b es) := fun {j b es} q => by
      by_cases j1 : j = i
      · rw [j1, List.getElem?_set_self hir] at q
        cases q
      · rw [List.getElem?_set_ne (Ne.symm j1)] at q
        exact q
    exact w.dis j k b c ds1 es b2 ne (own2 h1) (own2 h2) h3 h4
/-- a lambda was made: tables have grown, nothing else has changed -/
theorem Wd.lam (w : Wd K e F H σ ρ) (x : LamX.ExtN H H') (t : LamX.Tabs LT.T H') : Wd K e F H' σ ρ :=
  ⟨w.ff, fun b o q => x b o (w.fh b o q) fun ps z => w.nt b ps (by rw [q, z]), fun b o hb n q => x b o (w.hh b o hb n q) n, w.fr, fun a ha => (w.ol a ha).imp fun vs q => x _ _ q (nofun), w.nt, t, w.es, w.len, w.dat,
    fun i b ds q => by
      obtain ⟨a, vs, q1, q2, q3, q4⟩ := w.own i b ds q
      exact ⟨a, vs, q1, q2, x _ _ q3 (nofun), q4⟩, w.dis⟩
/-- less is known -/
theorem Wd.forget (w : Wd K e F H σ ρ) : Wd K e F H σ (ρ.set i .no) := by
  have own2 : ∀ {j : Nat} {x : Sl}, x ≠ .no → (ρ.set i .no)[j]? = some x → ρ[j]? = some x := fun {j x} n q => by
    rcases set_get q with ⟨rfl, e1⟩ | ⟨ne, q⟩
    · exact absurd e1 n
    · exact q
  exact ⟨w.ff, w.fh, w.hh, w.fr, w.ol, w.nt, w.tb, w.es, by simp [w.len], fun j x q => w.dat j x (own2 (by simp) q), fun j b es q => w.own j b es (own2 (by simp) q), fun j k b c ds es a ne h1 h2 h3 h4 => w.dis j k b c ds es a ne (own2 (by simp) h1) (own2 (by simp) h2) h3 h4⟩
end
end Kd
set_option Elab.async false
set_option linter.all false
set_option maxRecDepth 100000
set_option maxHeartbeats 2000000
/-! the judgements of expressions, their rules -/
namespace Kd
open PySem PySem.Spec PyProof.Rows L2
variable [LT]

def tD (K : PySem.W.Frag) (E : XK) (ρ : List Sl) (r : Res) (ρ' : List Sl) : TE := fun σ H Q => ∃ e F, Wd K e F H σ ρ ∧
  (∀ d, r = .ok d → ∀ v F' H', Wd K e F' H' σ ρ' → Same F F' → Is K F' v d → Q v H') ∧ (∀ x, r = .error x → ∀ F' H' ρ'', Wd K e F' H' σ ρ'' → Thr E x H')
def DE (X : Cx) (E : XK) (e : Expr) (ρ : List Sl) (r : Res) (ρ' : List Sl) : Prop := PE X e (tD X.K E ρ r ρ')
def tDA (K : PySem.W.Frag) (E : XK) (ρ : List Sl) (r : Except Er (List D)) (ρ' : List Sl) : TA := fun σ H Q => ∃ e F, Wd K e F H σ ρ ∧
  (∀ ds, r = .ok ds → ∀ vs F' H', Wd K e F' H' σ ρ' → Same F F' → IsL K F' vs ds → Q vs H') ∧ (∀ x, r = .error x → ∀ F' H' ρ'', Wd K e F' H' σ ρ'' → Thr E x H')
def DA (X : Cx) (E : XK) (es : List Expr) (ρ : List Sl) (r : Except Er (List D)) (ρ' : List Sl) : Prop := PA X es (tDA X.K E ρ r ρ')
def tDT (K : PySem.W.Frag) (E : XK) (ρ : List Sl) (r : Except Er Bool) (ρ' : List Sl) : TT := fun σ H Q => ∃ e F, Wd K e F H σ ρ ∧
  (∀ b, r = .ok b → ∀ F' H', Wd K e F' H' σ ρ' → Same F F' → Q b H') ∧ (∀ x, r = .error x → ∀ F' H' ρ'', Wd K e F' H' σ ρ'' → Thr E x H')
def DT (X : Cx) (E : XK) (e : Expr) (ρ : List Sl) (r : Except Er Bool) (ρ' : List Sl) : Prop := PT X e (tDT X.K E ρ r ρ')
def DW (X : Cx) (E : XK) (e : Expr) (ρ : List Sl) (r : Except Er Bool) (ρ' : List Sl) : Prop := PW X e (tDT X.K E ρ r ρ')

section
variable {X : Cx} {E : XK} {a b c e : Expr} {es : List Expr} {ρ ρ1 ρ2 ρ3 : List Sl} {r : Res} {x y z d : D} {pos : Pos}
theorem pe_no : PE X e (fun _ _ _ => False) := ⟨fun _ _ _ _ _ _ h => h.elim⟩
theorem pa_no : PA X es (fun _ _ _ => False) := ⟨fun _ _ _ _ _ _ _ h => h.elim⟩
theorem pw_no : PW X e (fun _ _ _ => False) := ⟨fun _ _ _ _ _ _ _ h => h.elim⟩
theorem PE.wk {t t' : TE} (h : PE X e t) (q : ∀ σ H Q, t' σ H Q → t σ H Q) : PE X e t' := ⟨fun pins s σ H Q I w => h.run pins s σ H Q I (q σ H Q w)⟩
theorem PT.wk {t t' : TT} (h : PT X e t) (q : ∀ σ H Q, t' σ H Q → t σ H Q) : PT X e t' := ⟨fun pins s σ H Q I w => h.run pins s σ H Q I (q σ H Q w)⟩
theorem PW.wk {t t' : TT} (h : PW X e t) (q : ∀ σ H Q, t' σ H Q → t σ H Q) : PW X e t' := ⟨fun wh pins s σ H Q I w => h.run wh pins s σ H Q I (q σ H Q w)⟩
theorem PA.wk {t t' : TA} (h : PA X es t) (q : ∀ σ H Q, t' σ H Q → t σ H Q) : PA X es t' := ⟨fun p pins s σ H Q I w => h.run p pins s σ H Q I (q σ H Q w)⟩

/-- an answer that came where ρ1 holds is wished for -/
abbrev K1 (K : PySem.W.Frag) (en : En) (F : Hp) (σ : L2.St) (r : Res) (ρ' : List Sl) (Q : VK) : Prop := ∀ d, r = .ok d → ∀ v F' H', Wd K en F' H' σ ρ' → Same F F' → Is K F' v d → Q v H'
theorem K1.yld {K : PySem.W.Frag} {en : En} {F F1 H1 : Hp} {σ : L2.St} {ρ' : List Sl} {Q : VK} {d : D} (k : K1 K en F σ (.ok d) ρ' Q) (w : Wd K en F1 H1 σ ρ') (s : Same F F1) : Yld K F1 H1 d Q :=
  fun v F' H' g i => k d rfl v F' H' (w.grow g) (s.trans g.ff) i

/-! ### names and constants -/
theorem de_var (i : Nat) {x : Str} {d : D} (hN : X.N[i]? = some x) (hv : Vis X.env.scope x) (h : ρ[i]? = some (.dat d)) (hd : (x == ("__debug__" : Str)) = false := by decide) (hcd : (x == ("__classdict__" : Str)) = false := by decide) : DE X E (.Name x pos) ρ (.ok d) ρ :=
  PE.wk (pe_var hN hv hd hcd) fun σ H Q ⟨en, F, w, k, _⟩ => by
    obtain ⟨v, q1, q2⟩ := w.dat i d h
    exact ⟨v, q1, k d rfl v F H w (Same.refl F) q2⟩
theorem de_c {v : V} (h : PE X e (tC v)) : DE X E e ρ (.ok (.v v)) ρ := PE.wk h fun σ H Q ⟨en, F, w, k, _⟩ => k _ rfl v F H w (Same.refl F) (.v v)
theorem de_int {i : Int} {j} : DE X E (.Constant (.int i) j pos) ρ (.ok (dI i)) ρ := de_c pe_int
theorem de_str {i : Str} {j} : DE X E (.Constant (.str i) j pos) ρ (.ok (dS i)) ρ := de_c pe_str
theorem de_bl {i : Bool} {j} : DE X E (.Constant (.bool i) j pos) ρ (.ok (dB i)) ρ := de_c pe_bl
theorem de_non {j} : DE X E (.Constant .none j pos) ρ (.ok dN) ρ := de_c pe_non
/-- a name of the module -/
theorem de_glob {x : Str} {v : V} {u : Value} {d : D} (hg : Gl X x) (hm : X.mg x = some u) (r : RelV v u) (hd : ∀ F, Is X.K F v d) (hdb : (x == ("__debug__" : Str)) = false := by decide) : DE X E (.Name x pos) ρ (.ok d) ρ :=
  PE.wk (pe_glob hg hm r hdb) fun σ H Q ⟨en, F, w, k, _⟩ => k d rfl v F H w (Same.refl F) (hd F)

/-! ### operators -/
/-- what an operation on data gives -/
def Op2 (K : PySem.W.Frag) (r : R2) (x y z : D) : Prop := ∀ F H vx vy Q, Same F H → Is K F vx x → Is K F vy y → Yld K F H z Q → r vx vy H Q
theorem tOp_of {K : PySem.W.Frag} {r : R2} {σ : L2.St} {H : Hp} {Q : VK} (hr : Op2 K r x y z) (h : tD K E ρ (.ok z) ρ2 σ H Q) : tOp r (tD K E ρ (.ok x) ρ1) (tD K E ρ1 (.ok y) ρ2) σ H Q := by
  obtain ⟨en, F, w, k, _⟩ := h
  refine ⟨en, F, w, fun d hd v F1 H1 w1 s1 i1 => ⟨en, F1, w1, fun d2 hd2 v2 F2 H2 w2 s2 i2 => ?_, fun _ z => nomatch z⟩, fun _ z => nomatch z⟩
  cases hd
  cases hd2
  exact hr F2 H2 v v2 Q w2.fh (i1.mono s2) i2 (K1.yld k w2 (s1.trans s2))
theorem de_op {op : Operator} {r : R2} (ho : OpR X (binaryOp op) r) (hr : Op2 X.K r x y z) (ha : DE X E a ρ (.ok x) ρ1) (hb : DE X E b ρ1 (.ok y) ρ2) : DE X E (.BinOp a op b pos) ρ (.ok z) ρ2 := PE.wk (pe_op ho ha hb) fun σ H Q h => tOp_of hr h
theorem de_cmp {op : CmpOp} {r : R2} (ho : OpR X (compareOp op) r) (hr : Op2 X.K r x y z) (ha : DE X E a ρ (.ok x) ρ1) (hb : DE X E b ρ1 (.ok y) ρ2) (hm : behindInMarks op b = false) : DE X E (.Compare a [op] [b] pos) ρ (.ok z) ρ2 :=
  PE.wk (pe_cmpR ho ha hb hm) fun σ H Q h => tOp_of hr h
/-- by its truth -/
theorem dt_of {k : Bool} {t : TE} (h : PT X e (fun σ H Q => t σ H fun x H' => ∃ k, x = .bl k ∧ Q k H')) (q : ∀ σ H Q, tD X.K E ρ (.ok (dB k)) ρ1 σ H Q → t σ H Q) : DT X E e ρ (.ok k) ρ1 := PT.wk h fun σ H Q ⟨en, F, w, k1, _⟩ => by
  refine q σ H _ ⟨en, F, w, fun d hd v F' H' w' s i => ?_, fun _ z => nomatch z⟩
  cases hd
  cases i
  exact ⟨k, rfl, k1 k rfl F' H' w' s⟩
theorem dt_cmp {op : CmpOp} {r : R2} {k : Bool} (ho : OpR X (compareOp op) r) (hr : Op2 X.K r x y (dB k)) (ha : DE X E a ρ (.ok x) ρ1) (hb : DE X E b ρ1 (.ok y) ρ2) (hm : behindInMarks op b = false) : DT X E (.Compare a [op] [b] pos) ρ (.ok k) ρ2 :=
  dt_of (pt_cmpR ho ha hb hm) fun σ H Q h => tOp_of hr h
theorem dt_val {k : Bool} (h : DE X E e ρ (.ok (dB k)) ρ1) (he : ∀ whole, isTrue e X.env whole = (do let v ← whole; standAt e.pos; holding [v] (truthy v)) := by intro _; rfl) : DT X E e ρ (.ok k) ρ1 := dt_of (pt_val h he) fun _ _ _ q => q
theorem dt_err {x : Er} (h : DE X E e ρ (.error x) ρ1) (he : ∀ whole, isTrue e X.env whole = (do let v ← whole; standAt e.pos; holding [v] (truthy v)) := by intro _; rfl) : DT X E e ρ (.error x) ρ1 :=
  PT.wk (pt_val h he) fun σ H Q ⟨en, F, w, k, k2⟩ => ⟨en, F, w, (fun d z => by cases z), fun y hy => k2 y (by cases hy; rfl)⟩
/-- ints -/
theorem op2_I0 {K : PySem.W.Frag} {g : Int → Int → V} {i j : Int} : Op2 K (rI0 g) (dI i) (dI j) (.v (g i j)) := fun F H vx vy Q s hx hy k => by
  cases hx; cases hy
  exact ⟨i, j, rfl, rfl, k.v s⟩
theorem op2_I {K : PySem.W.Frag} {C : Int → Int → Prop} {g : Int → Int → V} {i j : Int} (h : C i j) : Op2 K (rI C g) (dI i) (dI j) (.v (g i j)) := fun F H vx vy Q s hx hy k => by
  cases hx; cases hy
  exact ⟨i, j, rfl, rfl, h, k.v s⟩
theorem op2_eq {K : PySem.W.Frag} {u v : V} (h : scal u v = true) : Op2 K rEq (.v u) (.v v) (dB (decide (u = v))) := fun F H vx vy Q s hx hy k => by
  cases hx; cases hy
  exact ⟨h, k.v s⟩
theorem op2_ne {K : PySem.W.Frag} {u v : V} (h : scal u v = true) : Op2 K rNe (.v u) (.v v) (dB (!decide (u = v))) := fun F H vx vy Q s hx hy k => by
  cases hx; cases hy
  exact ⟨h, k.v s⟩

/-! ### arguments, displays -/
theorem da_nil : DA X E [] ρ (.ok []) ρ := PA.wk pa_nil fun σ H Q ⟨en, F, w, k, _⟩ => k [] rfl [] F H w (Same.refl F) .nil
theorem da_cons {ds : List D} (h : DE X E e ρ (.ok d) ρ1) (hr : DA X E es ρ1 (.ok ds) ρ2) (hs : starEach (e :: es) X.env = (false, eval e X.env) :: starEach es X.env := by rfl) : DA X E (e :: es) ρ (.ok (d :: ds)) ρ2 :=
  PA.wk (pa_cons h hr hs) fun σ H Q ⟨en, F, w, k, _⟩ => ⟨en, F, w, fun d1 hd v F1 H1 w1 s1 i1 => ⟨en, F1, w1, fun ds2 hd2 vs F2 H2 w2 s2 i2 => by
    cases hd
    cases hd2
    exact k _ rfl (v :: vs) F2 H2 w2 (s1.trans s2) (.cons (i1.mono s2) i2), fun _ z => nomatch z⟩, fun _ z => nomatch z⟩
theorem da_err {x : Er} (h : DE X E e ρ (.error x) ρ1) (hs : starEach (e :: es) X.env = (false, eval e X.env) :: starEach es X.env := by rfl) : DA X E (e :: es) ρ (.error x) ρ2 :=
  PA.wk (pa_cons h pa_no hs) fun σ H Q ⟨en, F, w, k, k2⟩ => ⟨en, F, w, fun _ z => (by cases z), fun y hy => k2 y (by cases hy; rfl)⟩
theorem da_err2 {x : Er} (h : DE X E e ρ (.ok d) ρ1) (hr : DA X E es ρ1 (.error x) ρ2) (hs : starEach (e :: es) X.env = (false, eval e X.env) :: starEach es X.env := by rfl) : DA X E (e :: es) ρ (.error x) ρ2 :=
  PA.wk (pa_cons h hr hs) fun σ H Q ⟨en, F, w, k, k2⟩ => ⟨en, F, w, fun d1 hd v F1 H1 w1 s1 i1 => ⟨en, F1, w1, fun _ z => (by cases z), fun y hy => k2 y (by cases hy; rfl)⟩, fun _ z => nomatch z⟩
theorem de_tup {ds : List D} {k : Nat} (h : DA X E es ρ (.ok ds) ρ1) (hz : ds.length ≤ 1000) : DE X E (.Tuple es k pos) ρ (.ok (.tup ds)) ρ1 := PE.wk (pe_tup h) fun σ H Q ⟨en, F, w, k, _⟩ =>
  ⟨en, F, w, fun ds1 hd vs F1 H1 w1 s1 i1 => by
    cases hd
    exact ⟨Nat.le_of_lt (small1000 (by rw [i1.length]; exact hz)), fun p hp => (K1.yld k w1 s1).newT w1.fh i1 hp⟩, fun _ z => nomatch z⟩
theorem de_tupE {x : Er} {k : Nat} (h : DA X E es ρ (.error x) ρ1) : DE X E (.Tuple es k pos) ρ (.error x) ρ1 := PE.wk (pe_tup h) fun σ H Q ⟨en, F, w, k, k2⟩ => ⟨en, F, w, fun _ z => (by cases z), fun y hy => k2 y (by cases hy; rfl)⟩
theorem de_lst {ds : List D} (h : DA X E es ρ (.ok ds) ρ1) (hz : ds.length ≤ 1000) : DE X E (.List es pos) ρ (.ok (.lst ds)) ρ1 := PE.wk (pe_lst h) fun σ H Q ⟨en, F, w, k, _⟩ =>
  ⟨en, F, w, fun ds1 hd vs F1 H1 w1 s1 i1 => by
    cases hd
    exact ⟨Nat.le_of_lt (small1000 (by rw [i1.length]; exact hz)), fun p hp => (K1.yld k w1 s1).newL w1.fh i1 hp⟩, fun _ z => nomatch z⟩

/-! ### if, and, or, not -/
theorem de_if {k : Bool} (hc : DT X E c ρ (.ok k) ρ1) (ha : k = true → DE X E a ρ1 r ρ2) (hb : k = false → DE X E b ρ1 r ρ2) : DE X E (.IfExp c a b pos) ρ r ρ2 := by
  cases k with
  | true => exact PE.wk (pe_ifExp hc (ha rfl) pe_no) fun σ H Q ⟨en, F, w, k, k2⟩ => ⟨en, F, w, fun b hb F1 H1 w1 s1 => by
      cases hb
      rw [if_pos rfl]
      exact ⟨en, F1, w1, fun d hd v F2 H2 w2 s2 i2 => k d hd v F2 H2 w2 (s1.trans s2) i2, k2⟩, fun _ z => nomatch z⟩
  | false => exact PE.wk (pe_ifExp hc pe_no (hb rfl)) fun σ H Q ⟨en, F, w, k, k2⟩ => ⟨en, F, w, fun b hb F1 H1 w1 s1 => by
      cases hb
      rw [if_neg Bool.false_ne_true]
      exact ⟨en, F1, w1, fun d hd v F2 H2 w2 s2 i2 => k d hd v F2 H2 w2 (s1.trans s2) i2, k2⟩, fun _ z => nomatch z⟩
theorem dt_not {k : Bool} (h : DT X E a ρ (.ok k) ρ1) : DT X E (.UnaryOp .Not a pos) ρ (.ok (!k)) ρ1 := PT.wk (pt_not h) fun σ H Q ⟨en, F, w, k1, _⟩ => ⟨en, F, w, fun b hb F1 H1 w1 s1 => by
    cases hb
    exact k1 _ rfl F1 H1 w1 s1, fun _ z => nomatch z⟩
theorem dt_w {re : Except Er Bool} (h : DW X E e ρ re ρ1) : DT X E e ρ re ρ1 := PW.pt h
variable {rest : List Expr} {re : Except Er Bool} {t : TT} {u : TT}
theorem dw_and1 (h : DT X E a ρ re ρ1) : DW X E (.BoolOp .And [a] pos) ρ re ρ1 := pw_and1 h
theorem dw_or1 (h : DT X E a ρ re ρ1) : DW X E (.BoolOp .Or [a] pos) ρ re ρ1 := pw_or1 h
theorem dw_andT (h : DT X E a ρ (.ok true) ρ1) (hr : DW X E (.BoolOp .And (b :: rest) pos) ρ1 re ρ2) : DW X E (.BoolOp .And (a :: b :: rest) pos) ρ re ρ2 := PW.wk (pw_and h hr) fun σ H Q ⟨en, F, w, k1, k2⟩ =>
  ⟨en, F, w, fun b hb F1 H1 w1 s1 => by
    cases hb
    rw [if_pos rfl]
    exact ⟨en, F1, w1, fun d hd F2 H2 w2 s2 => k1 d hd F2 H2 w2 (s1.trans s2), k2⟩, fun _ z => nomatch z⟩
theorem dw_andF (h : DT X E a ρ (.ok false) ρ1) : DW X E (.BoolOp .And (a :: b :: rest) pos) ρ (.ok false) ρ1 := PW.wk (pw_and h pw_no) fun σ H Q ⟨en, F, w, k1, k2⟩ =>
  ⟨en, F, w, fun b hb F1 H1 w1 s1 => by
    cases hb
    rw [if_neg Bool.false_ne_true]
    exact k1 _ rfl F1 H1 w1 s1, fun _ z => nomatch z⟩
theorem dw_orT (h : DT X E a ρ (.ok true) ρ1) : DW X E (.BoolOp .Or (a :: b :: rest) pos) ρ (.ok true) ρ1 := PW.wk (pw_or h pw_no) fun σ H Q ⟨en, F, w, k1, k2⟩ =>
  ⟨en, F, w, fun b hb F1 H1 w1 s1 => by
    cases hb
    rw [if_pos rfl]
    exact k1 _ rfl F1 H1 w1 s1, fun _ z => nomatch z⟩
theorem dw_orF (h : DT X E a ρ (.ok false) ρ1) (hr : DW X E (.BoolOp .Or (b :: rest) pos) ρ1 re ρ2) : DW X E (.BoolOp .Or (a :: b :: rest) pos) ρ re ρ2 := PW.wk (pw_or h hr) fun σ H Q ⟨en, F, w, k1, k2⟩ =>
  ⟨en, F, w, fun b hb F1 H1 w1 s1 => by
    cases hb
    rw [if_neg Bool.false_ne_true]
    exact ⟨en, F1, w1, fun d hd F2 H2 w2 s2 => k1 d hd F2 H2 w2 (s1.trans s2), k2⟩, fun _ z => nomatch z⟩
end
end Kd
set_option Elab.async false
set_option linter.all false
set_option maxRecDepth 100000
set_option maxHeartbeats 2000000
/-! defs: their promises, their calls; statements -/
namespace Kd
open PySem PySem.Spec PyProof.Rows L2
variable [LT]

/-! ### where one stands -/
structure Cp (X : Cx) (E : XK) (k : Nat) : Prop where
  ps : Ps X (W0 E)
  calm : X.calm = true
  nd : X.N.Nodup
  room : Room k X.A
structure Ct (X : Cx) (E : XK) (k : Nat) : Prop extends Cp X E k where
  tk : Takes X (W0 E)
  st : X.stack = X.env :: X.outer
  fr : X.env.frame = some X.env.locals
  po : PassesOwn (model X.prog X.w) X.A X.env X.xe

/-! ### promises -/
/-- called with data enc z it gives what f tells of z, or raises it; nothing that was there changes -/
def spP (K : PySem.W.Frag) {Z : Type} (enc : Z → List D) (f : Z → Res) (dom : Z → Prop) (n : Nat) : Sp := fun vs H Q E => ∃ F z, Same F H ∧ (∀ a ps, F a ≠ some (.tbl ps)) ∧ LamX.Tabs LT.T H ∧ IsL K F vs (enc z) ∧ dom z ∧ (enc z).length = n ∧ (∀ d, f z = .ok d → Yld K F H d Q) ∧ (∀ x, f z = .error x → ∀ F' H', Gr F H F' H' → Thr E x H')
/-- .. its first argument is a list that it changes -/
def spL (K : PySem.W.Frag) {S Z : Type} (enc0 : S → List D) (enc : Z → List D) (f : S → Z → D × S) (dom : S → Z → Prop) (n : Nat) : Sp := fun vs H Q E => ∃ F a vs0 u vs1 z, vs = .ref a :: vs1 ∧ Same F H ∧ (∀ a ps, F a ≠ some (.tbl ps)) ∧ LamX.Tabs LT.T H ∧ F a = none ∧ H a = some (.lst vs0) ∧ IsL K F vs0 (enc0 u) ∧ IsL K F vs1 (enc z) ∧ dom u z ∧ (enc z).length = n ∧
  ∀ v F' H' ws, Same F F' → Same F' H' → (∀ b o, b ≠ a → (∀ ps, o ≠ .tbl ps) → H b = some o → H' b = some o) → (∀ b o, (∀ ps, o ≠ .tbl ps) → F b = none → H b = some o → F' b = none) → (∀ b ps, F' b ≠ some (.tbl ps)) → LamX.Tabs LT.T H' → H' a = some (.lst ws) → IsL K F' ws (enc0 (f u z).2) → Is K F' v (f u z).1 → Q v H'
/-- the def at an address -/
structure KnA (P : Program) (w : World) (K : PySem.W.Frag) (mg : Str → Option Value) (base : Heap) (a : Addr) (k : Nat) (n : Nat) {Z : Type} (enc : Z → List D) (f : Z → Res) (dom : Z → Prop) : Prop where
  ex : ∃ (fd : FuncData) (ps : List Str), ps.length = n ∧ PySem.W.keepIn K (.ref a) = true ∧ Binds K fd ps [] ∧ FnOk P w K mg base (L2.CX P w) k a fd ps (spP K enc f dom n)
/-- the def that the module's name x is -/
def Kn (P : Program) (w : World) (K : PySem.W.Frag) (mg : Str → Option Value) (base : Heap) (x : Str) (k : Nat) (n : Nat) {Z : Type} (enc : Z → List D) (f : Z → Res) (dom : Z → Prop) : Prop := ∃ a, mg x = some (.ref a) ∧ KnA P w K mg base a k n enc f dom
structure KnL (P : Program) (w : World) (K : PySem.W.Frag) (mg : Str → Option Value) (base : Heap) (x : Str) (k : Nat) (n : Nat) {S Z : Type} (enc0 : S → List D) (enc : Z → List D) (f : S → Z → D × S) (dom : S → Z → Prop) : Prop where
  ex : ∃ (a : Addr) (fd : FuncData) (ps : List Str), ps.length = n + 1 ∧ mg x = some (.ref a) ∧ PySem.W.keepIn K (.ref a) = true ∧ Binds K fd ps [] ∧ FnOk P w K mg base (L2.CX P w) k a fd ps (spL K enc0 enc f dom n)
/-- .. it gives a new list -/
def spO (K : PySem.W.Frag) {Z : Type} (enc : Z → List D) (f : Z → List D) (dom : Z → Prop) (n : Nat) : Sp := fun vs H Q E => ∃ F z, Same F H ∧ (∀ a ps, F a ≠ some (.tbl ps)) ∧ LamX.Tabs LT.T H ∧ IsL K F vs (enc z) ∧ dom z ∧ (enc z).length = n ∧ ∀ a ws F' H', Gr F H F' H' → F' a = none → (∀ o, H a = some o → ∃ ps, o = .tbl ps) → H' a = some (.lst ws) → IsL K F' ws (f z) → Q (.ref a) H'
def KnO (P : Program) (w : World) (K : PySem.W.Frag) (mg : Str → Option Value) (base : Heap) (x : Str) (k : Nat) (n : Nat) {Z : Type} (enc : Z → List D) (f : Z → List D) (dom : Z → Prop) : Prop := ∃ (a : Addr) (fd : FuncData) (ps : List Str), ps.length = n ∧ mg x = some (.ref a) ∧ PySem.W.keepIn K (.ref a) = true ∧ Binds K fd ps [] ∧ FnOk P w K mg base (L2.CX P w) k a fd ps (spO K enc f dom n)
section
variable {X : Cx} {E : XK} {a b c e : Expr} {es : List Expr} {ρ ρ1 ρ2 ρ3 : List Sl} {r : Res} {d : D} {pos p : Pos} {k j : Nat} {x y : Str} {n : Nat} {S Z : Type} {enc : Z → List D} {enc0 : S → List D}
theorem Kn.mono {P : Program} {w : World} {K : PySem.W.Frag} {mg : Str → Option Value} {base : Heap} {f : Z → Res} {dom : Z → Prop} (h : Kn P w K mg base x j n enc f dom) (hk : j ≤ k) : Kn P w K mg base x k n enc f dom :=
  let ⟨a, h1, ⟨fd, ps, h0, h2, h3, h4⟩⟩ := h; ⟨a, h1, ⟨fd, ps, h0, h2, h3, h4.mono hk⟩⟩
/-- f(..) -/
theorem de_call {f : Z → Res} {dom : Z → Prop} (z : Z) (C : Cp X E k) (h : Kn X.prog X.w X.K X.mg X.base x j n enc f dom) (hk : j ≤ k) (hg : Gl X x) (ha : DA X E (e :: es) ρ (.ok (enc z)) ρ1) (hl : (enc z).length = n) (hd : dom z)
    (hdb : (x == ("__debug__" : Str)) = false := by decide) (he : starEach (e :: es) X.env = (false, eval e X.env) :: starEach es X.env := by rfl) (hpl : (backTo pos (starEach es X.env)).any (·.1) = false := by rfl) : DE X E (.Call (.Name x p) (e :: es) [] pos) ρ (f z) ρ1 := by
  obtain ⟨a, hm, ⟨fd, ps, hps, hkp, hb, G⟩⟩ := h
  refine PE.wk (pe_callS G (C.room.mono hk) hg hm hkp hb C.ps ha hdb he hpl) fun σ H Q ⟨en, F, w, k1, k2⟩ => ⟨en, F, w, fun d1 hd1 vs F1 H1 w1 s1 i1 => ?_, fun _ z => nomatch z⟩
  cases hd1
  exact ⟨F1, z, w1.fh, w1.nt, w1.tb, i1, hd, hl, fun d hf v F' H' g i => k1 d hf v F' H' (w1.grow g) (s1.trans g.ff) i, fun x hf F' H' g => k2 x hf F' H' ρ1 (w1.grow g)⟩
theorem de_callE {f : Z → Res} {dom : Z → Prop} {z : Er} (C : Cp X E k) (h : Kn X.prog X.w X.K X.mg X.base x j n enc f dom) (hk : j ≤ k) (hg : Gl X x) (ha : DA X E (e :: es) ρ (.error z) ρ1)
    (hdb : (x == ("__debug__" : Str)) = false := by decide) (he : starEach (e :: es) X.env = (false, eval e X.env) :: starEach es X.env := by rfl) (hpl : (backTo pos (starEach es X.env)).any (·.1) = false := by rfl) : DE X E (.Call (.Name x p) (e :: es) [] pos) ρ (.error z) ρ1 := by
  obtain ⟨a, hm, ⟨fd, ps, hps, hkp, hb, G⟩⟩ := h
  exact PE.wk (pe_callS G (C.room.mono hk) hg hm hkp hb C.ps ha hdb he hpl) fun σ H Q ⟨en, F, w, k1, k2⟩ => ⟨en, F, w, fun _ z => (by cases z), fun y hy => k2 y (by cases hy; rfl)⟩
/-- f(l, ..), l a list of this frame's own (or lent to it): the call's reading -/
theorem callL_core {e0 : Expr} {f : S → Z → D × S} {dom : S → Z → Prop} (u : S) (z : Z) {i : Nat} {bb : Bool} (hp : PE X e0 (tCallS (spL X.K enc0 enc f dom n) (WE (W0 E)) (tCons (tVar i) (tDA X.K E ρ (.ok (enc z)) ρ1)))) (ho : ∃ b xs0, ρ[i]? = some (.own b xs0)) (hi : ρ1[i]? = some (.own bb (enc0 u))) (hl : (enc z).length = n) (hd : dom u z) :
    DE X E e0 ρ (.ok (f u z).1) (ρ1.set i (.own bb (enc0 (f u z).2))) := by
  refine PE.wk hp fun σ H Q ⟨en, F, w, k1, k2⟩ => ?_
  obtain ⟨b0, xs0, ho⟩ := ho
  obtain ⟨l0, vs00, q1, _⟩ := w.own i b0 xs0 ho
  refine ⟨.ref l0, q1, en, F, w, fun d1 hd1 vs F1 H1 w1 s1 i1 => ?_, fun _ z => nomatch z⟩
  cases hd1
  obtain ⟨l, vs0, p1, p2, p3, p4, p5⟩ := w1.own i bb (enc0 u) hi
  rw [q1] at p1
  cases p1
  refine ⟨F1, l0, vs0, u, vs, z, rfl, w1.fh, w1.nt, w1.tb, p2, p3, p4, i1, hd, hl, fun v F' H' ws g1 g2 g3 g4 gn gt g5 g6 g7 => ?_⟩
  -- the state behind the call
  have w2 : Wd X.K en F1 (upd H1 l0 (.lst vs0)) σ (ρ1.set i (.own bb (enc0 u))) := w1.write hi q1 p4
  have hir : i < ρ1.length := (List.getElem?_eq_some_iff.mp hi).1
  have inO : ∀ b, ¬ en.O b → en.H b ≠ none → b ≠ l0 := fun b h1 h2 z => by
    subst z
    cases bb with
    | true => exact h1 p5
    | false => exact h2 p5
  have key : Wd X.K en F' H' σ (ρ1.set i (.own bb (enc0 (f u z).2))) := by
    refine ⟨w1.ff.trans g1, g2, fun b o hb hn q => g3 b o (inO b hb (by rw [q]; simp)) hn (w1.hh b o hb hn q), fun b h1 h2 => ?_, fun b hb => ?_, gn, gt, w1.es, by simp [w1.len], fun m x q => ?_, fun m c es' q => ?_, fun m n c1 c2 e1 e2 b ne h1 h2 h3 h4 => ?_⟩
    · cases q : en.H b with
      | none => exact absurd q h2
      | some o =>
        obtain ⟨u, n, h⟩ := w1.had q
        exact g4 b u n (w1.fr b h1 h2) h
    · by_cases z : b = l0
      · rw [z, g5]; exact ⟨_, rfl⟩
      · obtain ⟨vs, q⟩ := w1.ol b hb
        exact ⟨vs, g3 b _ z (nofun) q⟩
    · rcases set_get q with ⟨rfl, e1⟩ | ⟨ne, q⟩
      · cases e1
      · obtain ⟨u, t1, t2⟩ := w1.dat m x q
        exact ⟨u, t1, t2.mono g1⟩
    · by_cases m1 : m = i
      · rw [m1, List.getElem?_set_self hir] at q
        cases q
        exact ⟨l0, ws, by rw [m1]; exact q1, g4 l0 (.lst vs0) (nofun) p2 p3, g5, g6, p5⟩
      · rw [List.getElem?_set_ne (Ne.symm m1)] at q
        obtain ⟨b', ws', t1, t2, t3, t4, t5⟩ := w1.own m c es' q
        have nb : b' ≠ l0 := fun z => by
          subst z
          exact w1.dis i m bb c (enc0 u) es' b' (Ne.symm m1) hi q q1 t1
        exact ⟨b', ws', t1, g4 b' (.lst ws') (nofun) t2 t3, g3 b' _ nb (nofun) t3, t4.mono g1, t5⟩
    · have own2 : ∀ {j : Nat} {b : Bool} {es : List D}, (ρ1.set i (.own bb (enc0 (f u z).2)))[j]? = some (.own b es) → ∃ b ds2, ρ1[j]? = some (.own b ds2) := fun {j b es} q => by
        by_cases j1 : j = i
        · exact ⟨bb, enc0 u, by rw [j1]; exact hi⟩
        · rw [List.getElem?_set_ne (Ne.symm j1)] at q
          exact ⟨_, _, q⟩
      obtain ⟨y1, x1, o1⟩ := own2 h1
      obtain ⟨y2, x2, o2⟩ := own2 h2
      exact w1.dis m n y1 y2 x1 x2 b ne o1 o2 h3 h4
  exact k1 _ rfl v F' H' key (s1.trans g1) g7
theorem de_callL {f : S → Z → D × S} {dom : S → Z → Prop} (u : S) (z : Z) {i : Nat} {bb : Bool} {py : Pos} (C : Cp X E k) (h : KnL X.prog X.w X.K X.mg X.base x j n enc0 enc f dom) (hk : j ≤ k) (hg : Gl X x) (hN : X.N[i]? = some y) (hv : Vis X.env.scope y)
    (ho : ∃ b xs0, ρ[i]? = some (.own b xs0)) (ha : DA X E es ρ (.ok (enc z)) ρ1) (hi : ρ1[i]? = some (.own bb (enc0 u))) (hl : (enc z).length = n) (hd : dom u z) (hdb : (x == ("__debug__" : Str)) = false := by decide)
    (hd1 : (y == ("__debug__" : Str)) = false := by decide) (hcd : (y == ("__classdict__" : Str)) = false := by decide)
    (he : starEach (.Name y py :: es) X.env = (false, eval (.Name y py) X.env) :: starEach es X.env := by rfl) (hpl : (backTo pos (starEach es X.env)).any (·.1) = false := by rfl) :
    DE X E (.Call (.Name x p) (.Name y py :: es) [] pos) ρ (.ok (f u z).1) (ρ1.set i (.own bb (enc0 (f u z).2))) := by
  obtain ⟨a, fd, ps, hps, hm, hkp, hb, G⟩ := h.ex
  exact callL_core u z (pe_callS G (C.room.mono hk) hg hm hkp hb C.ps (pa_cons (pe_var hN hv hd1 hcd) ha he) hdb he hpl) ho hi hl hd
end

/-! ### statements -/
inductive Out where
  | nx (ρ : List Sl)
  | rt (d : D) (ρ : List Sl)
  | bk (ρ : List Sl)
  | ct (ρ : List Sl)
  | rz (x : Er)
  | ro (ds : List D)
/-- what is wanted behind a statement that ran where F was frozen -/
structure Ks (K : PySem.W.Frag) (e : En) (F : Hp) (E : XK) (R : Out → Prop) (D : Ends) : Prop where
  nx : ∀ ρ', R (.nx ρ') → ∀ σ' F' H', Wd K e F' H' σ' ρ' → Same F F' → D.nx σ' H'
  rt : ∀ d ρ', R (.rt d ρ') → ∀ σ' v F' H', Wd K e F' H' σ' ρ' → Same F F' → Is K F' v d → D.rt v H'
  bk : ∀ ρ', R (.bk ρ') → ∀ σ' F' H', Wd K e F' H' σ' ρ' → Same F F' → D.bk σ' H'
  ct : ∀ ρ', R (.ct ρ') → ∀ σ' F' H', Wd K e F' H' σ' ρ' → Same F F' → D.ct σ' H'
  rz : ∀ x, R (.rz x) → ∀ σ' F' H' ρ', Wd K e F' H' σ' ρ' → Thr E x H'
  /-- a new list is given back, not frozen -/
  ro : ∀ ds, R (.ro ds) → ∀ σ' ρ' a vs F' H', Wd K e F' H' σ' ρ' → Same F F' → F' a = none → e.H a = none → H' a = some (.lst vs) → IsL K F' vs ds → D.rt (.ref a) H'
theorem Ks.shift {K : PySem.W.Frag} {e : En} {F F1 : Hp} {E : XK} {R : Out → Prop} {D : Ends} (k : Ks K e F E R D) (s : Same F F1) : Ks K e F1 E R D :=
  ⟨fun ρ' q σ' F' H' w s' => k.nx ρ' q σ' F' H' w (s.trans s'), fun d ρ' q σ' v F' H' w s' i => k.rt d ρ' q σ' v F' H' w (s.trans s') i, fun ρ' q σ' F' H' w s' => k.bk ρ' q σ' F' H' w (s.trans s'), fun ρ' q σ' F' H' w s' => k.ct ρ' q σ' F' H' w (s.trans s'), k.rz, fun ds q σ' ρ' a vs F' H' w s' => k.ro ds q σ' ρ' a vs F' H' w (s.trans s')⟩
theorem Ks.imp {K : PySem.W.Frag} {e : En} {F : Hp} {E : XK} {R R' : Out → Prop} {D : Ends} (k : Ks K e F E R' D) (h : ∀ o, R o → R' o) : Ks K e F E R D :=
  ⟨fun ρ' q => k.nx ρ' (h _ q), fun d ρ' q => k.rt d ρ' (h _ q), fun ρ' q => k.bk ρ' (h _ q), fun ρ' q => k.ct ρ' (h _ q), fun x q => k.rz x (h _ q), fun ds q => k.ro ds (h _ q)⟩
def tDS (K : PySem.W.Frag) (E : XK) (ρ : List Sl) (R : Out → Prop) : TS := fun D σ H => ∃ e F, Wd K e F H σ ρ ∧ Ks K e F E R D
def DS (X : Cx) (E : XK) (st : Stmt) (ρ : List Sl) (R : Out → Prop) : Prop := PS X st (tDS X.K E ρ R)
def DSs (X : Cx) (E : XK) (st : List Stmt) (ρ : List Sl) (R : Out → Prop) : Prop := PSs X st (tDS X.K E ρ R)
def Out.sq (k : List Sl → Prop) (R : Out → Prop) : Out → Prop
  | .nx ρ => k ρ
  | o => R o
section
variable {X : Cx} {E : XK} {a b c e : Expr} {es : List Expr} {ρ ρ1 ρ2 ρ3 : List Sl} {r : Res} {d : D} {pos p : Pos} {k j : Nat} {x y : Str} {st : Stmt} {rest body body2 : List Stmt} {R R' : Out → Prop}
theorem PS.wk {t t' : TS} (h : PS X st t) (q : ∀ D σ H, t' D σ H → t D σ H) : PS X st t' := ⟨fun pins s σ H D I w => h.run pins s σ H D I (q D σ H w)⟩
theorem PSs.wk {t t' : TS} (h : PSs X rest t) (q : ∀ D σ H, t' D σ H → t D σ H) : PSs X rest t' := ⟨fun pins s σ H D I w => h.run pins s σ H D I (q D σ H w)⟩
theorem tDS.imp {K : PySem.W.Frag} (h : ∀ o, R o → R' o) {D : Ends} {σ : L2.St} {H : Hp} (t : tDS K E ρ R' D σ H) : tDS K E ρ R D σ H := let ⟨en, F, w, k⟩ := t; ⟨en, F, w, k.imp h⟩
theorem DS.imp (h : DS X E st ρ R) (q : ∀ o, R o → R' o) : DS X E st ρ R' := PS.wk h fun D σ H t => tDS.imp q t
theorem DSs.imp (h : DSs X E rest ρ R) (q : ∀ o, R o → R' o) : DSs X E rest ρ R' := PSs.wk h fun D σ H t => tDS.imp q t
/-- the rest of a block, whatever state it is read at -/
theorem any_rest : PSs X rest (fun D σ H => ∃ ρ R, DSs X E rest ρ R ∧ tDS X.K E ρ R D σ H) := ⟨fun pins s σ H D I ⟨_, _, h, q⟩ => h.run pins s σ H D I q⟩
theorem dss_cons (h : DS X E st ρ (Out.sq (fun ρ1 => DSs X E rest ρ1 R) R)) : DSs X E (st :: rest) ρ R := PSs.wk (pss_cons h (any_rest (E := E))) fun D σ H ⟨en, F, w, k⟩ =>
  ⟨en, F, w, fun ρ' q σ' F' H' w' s' => ⟨ρ', R, q, en, F', w', k.shift s'⟩, fun d ρ' q => k.rt d ρ' q, fun ρ' q => k.bk ρ' q, fun ρ' q => k.ct ρ' q, fun x q => k.rz x q, fun ds q => k.ro ds q⟩
theorem dss_nil (h : R (.nx ρ)) : DSs X E [] ρ R := PSs.wk pss_nil fun D σ H ⟨en, F, w, k⟩ => k.nx ρ h σ F H w (Same.refl F)
theorem dss_one (h : DS X E st ρ R) : DSs X E [st] ρ R := dss_cons (h.imp fun o q => by
  cases o with
  | nx ρ1 => exact dss_nil q
  | rt d ρ1 => exact q
  | bk ρ1 => exact q
  | ct ρ1 => exact q
  | rz x => exact q
  | ro ds => exact q)
theorem ds_ret (h : DE X E e ρ (.ok d) ρ1) (k : R (.rt d ρ1)) : DS X E (.Return (some e) pos) ρ R := PS.wk (ps_ret h) fun D σ H ⟨en, F, w, kk⟩ => ⟨en, F, w, fun d1 hd v F1 H1 w1 s1 i1 => by
    cases hd
    exact kk.rt d ρ1 k σ v F1 H1 w1 s1 i1, fun _ z => nomatch z⟩
theorem ds_retR (h : DE X E e ρ r ρ1) (k : ∀ d, r = .ok d → R (.rt d ρ1)) (k' : ∀ x, r = .error x → R (.rz x)) : DS X E (.Return (some e) pos) ρ R := PS.wk (ps_ret h) fun D σ H ⟨en, F, w, kk⟩ =>
  ⟨en, F, w, fun d1 hd v F1 H1 w1 s1 i1 => kk.rt d1 ρ1 (k d1 hd) σ v F1 H1 w1 s1 i1, fun x hx F1 H1 ρ'' w1 => kk.rz x (k' x hx) σ F1 H1 ρ'' w1⟩
theorem ds_retOwn {i : Nat} {ds : List D} (hN : X.N[i]? = some x) (hv : Vis X.env.scope x) (h : ρ[i]? = some (.own false ds)) (k : R (.rt (.lst ds) (ρ.set i (.dat (.lst ds))))) (hd : (x == ("__debug__" : Str)) = false := by decide) (hcd : (x == ("__classdict__" : Str)) = false := by decide) :
    DS X E (.Return (some (.Name x p)) pos) ρ R := PS.wk (ps_ret (pe_var hN hv hd hcd)) fun D σ H ⟨en, F, w, kk⟩ => by
  obtain ⟨a, F', q1, q2, q3, q4⟩ := w.freeze h
  exact ⟨.ref a, q1, kk.rt _ _ k σ _ F' H q2 q3 q4⟩
theorem ds_retN (k : R (.rt dN ρ)) : DS X E (.Return none pos) ρ R := PS.wk ps_retN fun D σ H ⟨en, F, w, kk⟩ => kk.rt _ _ k σ .non F H w (Same.refl F) (.v _)
/-- an own list is data from here on -/
theorem dss_freeze {i : Nat} {ds : List D} (h : ρ[i]? = some (.own false ds)) (k : DSs X E rest (ρ.set i (.dat (.lst ds))) R) : DSs X E rest ρ R := ⟨fun pins s σ H D I ⟨en, F, w, kk⟩ => by
  obtain ⟨a, F', q1, q2, q3, q4⟩ := w.freeze h
  exact k.run pins s σ H D I ⟨en, F', q2, kk.shift q3⟩⟩
theorem dss_forget {i : Nat} (k : DSs X E rest (ρ.set i .no) R) : DSs X E rest ρ R := ⟨fun pins s σ H D I ⟨en, F, w, kk⟩ => k.run pins s σ H D I ⟨en, F, w.forget, kk⟩⟩
/-- name = e -/
theorem ds_set {i : Nat} {px : Pos} (hN : X.N.Nodup) (hi : X.N[i]? = some x) (hx : Loc X.env.scope x) (h : DE X E e ρ (.ok d) ρ1) (hl : i < ρ1.length) (k : R (.nx (ρ1.set i (.dat d)))) (hs : swapsWith e (some (.Name x px)) pos.line X.env = pure false := by rfl)
    (hf : X.fn x = true ∨ X.env.scope.names.lookup x = some .local := by first | exact .inl rfl | exact .inr rfl | assumption) : DS X E (.Assign [.Name x px] e pos) ρ R := PS.wk (ps_set hN hi hx h hs hf) fun D σ H ⟨en, F, w, kk⟩ =>
  ⟨en, F, w, fun d1 hd v F1 H1 w1 s1 i1 => by
    cases hd
    exact kk.nx _ k _ F1 H1 (w1.set hl i1) s1, fun _ z => nomatch z⟩
theorem ds_setE {i : Nat} {px : Pos} {z : Er} (hN : X.N.Nodup) (hi : X.N[i]? = some x) (hx : Loc X.env.scope x) (h : DE X E e ρ (.error z) ρ1) (k : R (.rz z)) (hs : swapsWith e (some (.Name x px)) pos.line X.env = pure false := by rfl)
    (hf : X.fn x = true ∨ X.env.scope.names.lookup x = some .local := by first | exact .inl rfl | exact .inr rfl | assumption) : DS X E (.Assign [.Name x px] e pos) ρ R := PS.wk (ps_set hN hi hx h hs hf) fun D σ H ⟨en, F, w, kk⟩ =>
  ⟨en, F, w, fun d1 hd => (by cases hd), fun y hy F1 H1 ρ'' w1 => by
    cases hy
    exact kk.rz z k σ F1 H1 ρ'' w1⟩
/-- return [..], a list that the caller will change -/
theorem ds_retL {pl : Pos} {ds : List D} (h : DA X E es ρ (.ok ds) ρ1) (hz : ds.length ≤ 1000) (k : R (.ro ds)) : DS X E (.Return (some (.List es pl)) pos) ρ R := PS.wk (ps_ret (pe_lst h)) fun D σ H ⟨en, F, w, kk⟩ => ⟨en, F, w, fun ds1 hd vs F1 H1 w1 s1 i1 => by
    cases hd
    exact ⟨Nat.le_of_lt (small1000 (by rw [i1.length]; exact hz)), fun q hq => kk.ro _ k σ ρ1 q vs F1 _ (w1.grow (Gr.loose (o := .lst vs) w1.fh hq)) s1 (w1.fh.free hq) (w1.eNone hq) upd_same i1⟩, fun _ z => nomatch z⟩
/-- name = [..], a list that will be changed -/
theorem ds_setOwn {i : Nat} {px pl : Pos} {ds : List D} (hN : X.N.Nodup) (hi : X.N[i]? = some x) (hx : Loc X.env.scope x) (h : DA X E es ρ (.ok ds) ρ1) (hz : ds.length ≤ 1000) (hl : i < ρ1.length) (k : R (.nx (ρ1.set i (.own false ds)))) (hs : swapsWith (.List es pl) (some (.Name x px)) pos.line X.env = pure false := by rfl)
    (hf : X.fn x = true ∨ X.env.scope.names.lookup x = some .local := by first | exact .inl rfl | exact .inr rfl | assumption) : DS X E (.Assign [.Name x px] (.List es pl) pos) ρ R := PS.wk (ps_set hN hi hx (pe_lst h) hs hf) fun D σ H ⟨en, F, w, kk⟩ =>
  ⟨en, F, w, fun ds1 hd vs F1 H1 w1 s1 i1 => by
    cases hd
    exact ⟨Nat.le_of_lt (small1000 (by rw [i1.length]; exact hz)), fun q hq => kk.nx _ k _ F1 _ (w1.newOwn hl hq i1) s1⟩, fun _ z => nomatch z⟩
/-- name = f(..), f gives a new list -/
theorem ds_setCallO {pos2 : Pos} {Z : Type} {enc : Z → List D} {f : Z → List D} {dom : Z → Prop} {n i : Nat} {px : Pos} {y : Str} (z : Z) (C : Cp X E k) (h : KnO X.prog X.w X.K X.mg X.base x j n enc f dom) (hk : j ≤ k) (hg : Gl X x) (ha : DA X E (e :: es) ρ (.ok (enc z)) ρ1) (hl : (enc z).length = n) (hd : dom z) (hi : X.N[i]? = some y) (hx : Loc X.env.scope y) (hli : i < ρ1.length)
    (kz : R (.nx (ρ1.set i (.own false (f z))))) (hdb : (x == ("__debug__" : Str)) = false := by decide) (he : starEach (e :: es) X.env = (false, eval e X.env) :: starEach es X.env := by rfl) (hpl : (backTo pos (starEach es X.env)).any (·.1) = false := by rfl)
    (hs : swapsWith (.Call (.Name x p) (e :: es) [] pos) (some (.Name y px)) pos2.line X.env = pure false := by rfl)
    (hf : X.fn y = true ∨ X.env.scope.names.lookup y = some .local := by first | exact .inl rfl | exact .inr rfl | assumption) : DS X E (.Assign [.Name y px] (.Call (.Name x p) (e :: es) [] pos) pos2) ρ R := by
  obtain ⟨a, fd, ps, hps, hm, hkp, hb, G⟩ := h
  refine PS.wk (ps_set C.nd hi hx (pe_callS G (C.room.mono hk) hg hm hkp hb C.ps ha hdb he hpl) hs hf) fun D σ H ⟨en, F, w, kk⟩ => ⟨en, F, w, fun d1 hd1 vs F1 H1 w1 s1 i1 => ?_, fun _ z => nomatch z⟩
  cases hd1
  refine ⟨F1, z, w1.fh, w1.nt, w1.tb, i1, hd, hl, fun a ws F' H' g q1 q2 q3 q4 => ?_⟩
  refine kk.nx _ kz _ F' H' ((w1.grow g).setOwn hli q1 q3 q4 (by
    cases q : en.H a with
    | none => rfl
    | some o =>
      obtain ⟨u, n, h⟩ := w1.had q
      obtain ⟨ps, z⟩ := q2 u h
      exact absurd z (n ps)) fun j b es q zz => ?_) (s1.trans g.ff)
  obtain ⟨a2, vs2, t1, _, t3, _⟩ := w1.own j b es q
  rw [zz] at t1
  cases t1
  obtain ⟨ps, z⟩ := q2 _ t3
  cases z
theorem ds_if {kb : Bool} (hc : DT X E c ρ (.ok kb) ρ1) (ha : kb = true → DSs X E body ρ1 R) (hb : kb = false → DSs X E body2 ρ1 R) : DS X E (.If c body body2 pos) ρ R := by
  cases kb with
  | true => exact PS.wk (ps_if hc (ha rfl) pss_never) fun D σ H ⟨en, F, w, k⟩ => ⟨en, F, w, fun b hb F1 H1 w1 s1 => by
      cases hb
      rw [if_pos rfl]
      exact ⟨en, F1, w1, k.shift s1⟩, fun _ z => nomatch z⟩
  | false => exact PS.wk (ps_if hc pss_never (hb rfl)) fun D σ H ⟨en, F, w, k⟩ => ⟨en, F, w, fun b hb F1 H1 w1 s1 => by
      cases hb
      rw [if_neg Bool.false_ne_true]
      exact ⟨en, F1, w1, k.shift s1⟩, fun _ z => nomatch z⟩
theorem ds_ifE {z : Er} (hc : DT X E c ρ (.error z) ρ1) (k : R (.rz z)) : DS X E (.If c body body2 pos) ρ R := PS.wk (ps_if hc pss_never pss_never) fun D σ H ⟨en, F, w, kk⟩ => ⟨en, F, w, fun b hb => (by cases hb), fun y hy F1 H1 ρ'' w1 => by
    cases hy
    exact kk.rz z k σ F1 H1 ρ'' w1⟩
theorem ds_pass (k : R (.nx ρ)) : DS X E (.Pass pos) ρ R := PS.wk ps_pass fun D σ H ⟨en, F, w, kk⟩ => kk.nx ρ k σ F H w (Same.refl F)
theorem ds_expr (h : DE X E e ρ (.ok d) ρ1) (k : R (.nx ρ1)) (hs : swapsWith e none pos.line X.env = pure false := by rfl) : DS X E (.Expr e pos) ρ R := PS.wk (ps_expr h hs) fun D σ H ⟨en, F, w, kk⟩ => ⟨en, F, w, fun d1 hd v F1 H1 w1 s1 i1 => kk.nx _ k σ F1 H1 w1 s1, fun _ z => nomatch z⟩
theorem ds_exprE {z : Er} (h : DE X E e ρ (.error z) ρ1) (k : R (.rz z)) (hs : swapsWith e none pos.line X.env = pure false := by rfl) : DS X E (.Expr e pos) ρ R := PS.wk (ps_expr h hs) fun D σ H ⟨en, F, w, kk⟩ =>
  ⟨en, F, w, fun d1 hd => (by cases hd), fun y hy F1 H1 ρ'' w1 => by
    cases hy
    exact kk.rz z k σ F1 H1 ρ'' w1⟩
end

/-! ### a def's promise by its body -/
/-- what a body is to come to -/
def Post (r : Res) : Out → Prop
  | .rt d _ => r = .ok d
  | .nx _ => r = .ok dN
  | .rz x => r = .error x
  | _ => False
def rho (N : List Str) (ds : List D) : List Sl := ds.map Sl.dat ++ List.replicate (N.length - ds.length) .no
section
variable {P : Program} {w : World} {K : PySem.W.Frag} {mg : Str → Option Value} {base : Heap}
theorem ct_of {N : List Str} {qual : Str} {sc : Scope} {f : Addr} {cdv : Value} {A : Around} {outer : List Env} {s : Shared} {H : Hp} {E : XK} {k : Nat} (nd : N.Nodup) (hr : Room k (A.deeper (envOfC qual sc s.heap.objs.size f cdv))) :
    Ct (cxOf (L2.CX P w) P w K mg base N qual sc f cdv A outer s H E) E k := by
  have tk : Takes (cxOf (L2.CX P w) P w K mg base N qual sc f cdv A outer s H E) (W0 E) := takes_of rfl rfl rfl rfl
  exact ⟨⟨Ps.of tk, rfl, nd, hr⟩, tk, rfl, rfl, passes_of rfl⟩
theorem start_get {N : List Str} {vs : List V} {ds : List D} {F : Hp} (l : IsL K F vs ds) (hn : ds.length ≤ N.length) {i : Nat} {d : D} (h : (rho N ds)[i]? = some (.dat d)) : ∃ v, (L2.start N vs)[i]? = some (some v) ∧ Is K F v d := by
  unfold rho at h
  by_cases hi : i < ds.length
  · rw [List.getElem?_append_left (by simpa using hi), List.getElem?_map] at h
    cases q : ds[i]? with
    | none => rw [q] at h; cases h
    | some d1 =>
      rw [q] at h
      cases h
      obtain ⟨v, h1, h2⟩ := l.get q
      refine ⟨v, ?_, h2⟩
      unfold L2.start
      rw [List.getElem?_append_left (by rw [List.length_map, l.length]; exact hi), List.getElem?_map, h1]
      rfl
  · rw [List.getElem?_append_right (by simpa using hi)] at h
    obtain ⟨_, z⟩ := List.getElem?_eq_some_iff.mp h
    rw [List.getElem_replicate] at z
    cases z
theorem rho_own {N : List Str} {ds es : List D} {i : Nat} {b : Bool} (h : (rho N ds)[i]? = some (.own b es)) : False := by
  unfold rho at h
  by_cases hi : i < ds.length
  · rw [List.getElem?_append_left (by simpa using hi), List.getElem?_map] at h
    cases q : ds[i]? with
    | none => rw [q] at h; cases h
    | some d1 => rw [q] at h; cases h
  · rw [List.getElem?_append_right (by simpa using hi)] at h
    obtain ⟨_, z⟩ := List.getElem?_eq_some_iff.mp h
    rw [List.getElem_replicate] at z
    cases z
theorem entP {x : Str} {st : Stmt} {a : Addr} {N : List Str} {n : Nat} {Z : Type} {enc : Z → List D} {f : Z → Res} {dom : Z → Prop} {cdv : Value} {A : Around} {outer : List Env} {s : Shared} {H : Hp} {vs : List V} {Q : VK} {E : XK} (hN : n ≤ N.length) (h : spP K enc f dom n vs H Q E)
    (body : ∀ z : Z, (enc z).length = n → dom z → DSs (cxOf (L2.CX P w) P w K mg base N x (defScope st) a cdv A outer s H E) E (defBody st) (rho N (enc z)) (Post (f z))) :
    ∃ t, PSs (cxOf (L2.CX P w) P w K mg base N x (defScope st) a cdv A outer s H E) (defBody st) t ∧ t { nx := fun _ H' => Q .non H', rt := Q } (L2.start N vs) H := by
  obtain ⟨F0, z, sm, n0, t0, l, hd, hl, k1, k2⟩ := h
  refine ⟨_, body z hl hd, ⟨fun _ => False, F0, stripH H⟩, F0, ?_, fun ρ' hp σ' F' H' w' _ => ?_, fun d ρ' hp σ' v F' H' w' _ i => ?_, fun ρ' hp => hp.elim, fun ρ' hp => hp.elim, fun y hy σ' F' H' ρ' w' => ?_, fun ds hp => hp.elim⟩
  · refine ⟨Same.refl _, sm, fun b o _ _ q => strip_some q, fun b h1 _ => h1, fun b hb => hb.elim, n0, t0, strip_nt, ?_, fun i d q => start_get l (by rw [hl]; exact hN) q, fun i b es q => (rho_own q).elim, fun i j b c es fs _ _ q => (rho_own q).elim⟩
    unfold L2.start rho
    rw [List.length_append, List.length_append, List.length_map, List.length_map, List.length_replicate, List.length_replicate, l.length]
  · exact k1 dN hp .non F' H' ⟨w'.ff, w'.fh, fun b o q n => w'.hh b o (fun z => z) n (strip_of q n), fun a o n h1 h2 => w'.fr a h1 (by show stripH H a ≠ none; rw [strip_of h2 n]; simp), fun a ps z => absurd z (w'.nt a ps), fun _ => w'.tb⟩ (.v _)
  · exact k1 d hp v F' H' ⟨w'.ff, w'.fh, fun b o q n => w'.hh b o (fun z => z) n (strip_of q n), fun a o n h1 h2 => w'.fr a h1 (by show stripH H a ≠ none; rw [strip_of h2 n]; simp), fun a ps z => absurd z (w'.nt a ps), fun _ => w'.tb⟩ i
  · exact k2 y hy F' H' ⟨w'.ff, w'.fh, fun b o q n => w'.hh b o (fun z => z) n (strip_of q n), fun a o n h1 h2 => w'.fr a h1 (by show stripH H a ≠ none; rw [strip_of h2 n]; simp), fun a ps z => absurd z (w'.nt a ps), fun _ => w'.tb⟩
theorem lenP {n : Nat} {Z : Type} {enc : Z → List D} {f : Z → Res} {dom : Z → Prop} {vs : List V} {H : Hp} {Q : VK} {E : XK} {ps : List Str} (hn : ps.length = n) (h : spP K enc f dom n vs H Q E) : vs.length = ps.length := by
  obtain ⟨_, ds, _, _, _, l, _, hl, _⟩ := h
  rw [l.length, hl, hn]
theorem kn_of {x : Str} {st : Stmt} {a : Addr} {fd : FuncData} {N ps : List Str} {k n : Nat} {Z : Type} {enc : Z → List D} {f : Z → Res} {dom : Z → Prop} (F : Fun K x x st a fd) (hm : mg x = some (.ref a)) (hb : Binds K fd ps []) (S : FnScope N ps (defScope st)) (hn : ps.length = n) (hN : n ≤ N.length)
    (body : ∀ (cdv : Value) (A : Around) (outer : List Env) (s : Shared) (H : Hp) (E : XK) (z : Z), Ct (cxOf (L2.CX P w) P w K mg base N x (defScope st) a cdv A outer s H E) E k → (enc z).length = n → dom z →
      DSs (cxOf (L2.CX P w) P w K mg base N x (defScope st) a cdv A outer s H E) E (defBody st) (rho N (enc z)) (Post (f z))) : Kn P w K mg base x (k + 1) n enc f dom := by
  exact ⟨a, hm, ⟨fd, ps, hn, F.kp, hb, F.okX S (fun vs H Q E h => lenP hn h) fun cdv A outer s H vs Q E hr h => entP hN h fun z hl hd => body cdv A outer s H E z (ct_of S.nd hr) hl hd⟩⟩
/-- what a body that gives a new list is to come to -/
def PostO (r : List D) : Out → Prop
  | .ro ds => ds = r
  | _ => False
theorem knO_of {x : Str} {st : Stmt} {a : Addr} {fd : FuncData} {N ps : List Str} {k n : Nat} {Z : Type} {enc : Z → List D} {f : Z → List D} {dom : Z → Prop} (F : Fun K x x st a fd) (hm : mg x = some (.ref a)) (hb : Binds K fd ps []) (S : FnScope N ps (defScope st)) (hn : ps.length = n) (hN : n ≤ N.length)
    (body : ∀ (cdv : Value) (A : Around) (outer : List Env) (s : Shared) (H : Hp) (E : XK) (z : Z), Ct (cxOf (L2.CX P w) P w K mg base N x (defScope st) a cdv A outer s H E) E k → (enc z).length = n → dom z →
      DSs (cxOf (L2.CX P w) P w K mg base N x (defScope st) a cdv A outer s H E) E (defBody st) (rho N (enc z)) (PostO (f z))) : KnO P w K mg base x (k + 1) n enc f dom := by
  refine ⟨a, fd, ps, hn, hm, F.kp, hb, F.okX S (fun vs H Q E h => ?_) fun cdv A outer s H vs Q E hr h => ?_⟩
  · obtain ⟨_, ds, _, _, _, l, _, hl, _⟩ := h
    rw [l.length, hl, hn]
  · obtain ⟨F0, z, sm, n0, t0, l, hd, hl, k1⟩ := h
    refine ⟨_, body cdv A outer s H E z (ct_of S.nd hr) hl hd, ⟨fun _ => False, F0, stripH H⟩, F0, ?_, fun ρ' hp => hp.elim, fun d ρ' hp => hp.elim, fun ρ' hp => hp.elim, fun ρ' hp => hp.elim, fun y hy => hy.elim, fun ds hp σ' ρ' b ws F' H' w' _ q1 q2 q3 q4 => ?_⟩
    · refine ⟨Same.refl _, sm, fun b o _ _ q => strip_some q, fun b h1 _ => h1, fun b hb => hb.elim, n0, t0, strip_nt, ?_, fun i d q => start_get l (by rw [hl]; exact hN) q, fun i b es q => (rho_own q).elim, fun i j b c es fs _ _ q => (rho_own q).elim⟩
      unfold L2.start rho
      rw [List.length_append, List.length_append, List.length_map, List.length_map, List.length_replicate, List.length_replicate, l.length]
    · cases hp
      exact k1 b ws F' H' ⟨w'.ff, w'.fh, fun b o q n => w'.hh b o (fun z => z) n (strip_of q n), fun a o n h1 h2 => w'.fr a h1 (by show stripH H a ≠ none; rw [strip_of h2 n]; simp), fun a ps z => absurd z (w'.nt a ps), fun _ => w'.tb⟩ q1 (strip_none q2) q3 q4
/-- what a body that changes its first argument is to come to -/
def PostL {S : Type} (enc0 : S → List D) (r : D × S) : Out → Prop
  | .rt d ρ' => d = r.1 ∧ ρ'[0]? = some (.own true (enc0 r.2))
  | _ => False
def rhoL (N : List Str) (xs ds : List D) : List Sl := .own true xs :: (ds.map Sl.dat ++ List.replicate (N.length - (ds.length + 1)) .no)
theorem entL {x : Str} {st : Stmt} {a : Addr} {N : List Str} {n : Nat} {S Z : Type} {enc0 : S → List D} {enc : Z → List D} {f : S → Z → D × S} {dom : S → Z → Prop} {cdv : Value} {A : Around} {outer : List Env} {s : Shared} {H : Hp} {vs : List V} {Q : VK} {E : XK} (hN : n + 1 ≤ N.length) (h : spL K enc0 enc f dom n vs H Q E)
    (body : ∀ (u : S) (z : Z), (enc z).length = n → dom u z → DSs (cxOf (L2.CX P w) P w K mg base N x (defScope st) a cdv A outer s H E) E (defBody st) (rhoL N (enc0 u) (enc z)) (PostL enc0 (f u z))) :
    ∃ t, PSs (cxOf (L2.CX P w) P w K mg base N x (defScope st) a cdv A outer s H E) (defBody st) t ∧ t { nx := fun _ H' => Q .non H', rt := Q } (L2.start N vs) H := by
  obtain ⟨F0, a0, vs0, u, vs1, z, rfl, sm, n0, t0, fn, h0, l0, l, hd, hl, k1⟩ := h
  refine ⟨_, body u z hl hd, ⟨fun b => b = a0, F0, stripH H⟩, F0, ?_, fun ρ' hp => hp.elim, fun d ρ' hp σ' v F' H' w' s' i => ?_, fun ρ' hp => hp.elim, fun ρ' hp => hp.elim, fun y hy => hy.elim, fun ds hp => hp.elim⟩
  · have e1 : L2.start N (.ref a0 :: vs1) = some (.ref a0) :: (vs1.map some ++ List.replicate (N.length - (vs1.length + 1)) none) := rfl
    have lz := l.length
    have datG : ∀ (i : Nat) d, (rhoL N (enc0 u) (enc z))[i]? = some (.dat d) → ∃ v, (L2.start N (.ref a0 :: vs1))[i]? = some (some v) ∧ Is K F0 v d := fun i d q => by
      cases i with
      | zero => cases q
      | succ i =>
        rw [e1]
        have q : ((enc z).map Sl.dat ++ List.replicate (N.length - ((enc z).length + 1)) Sl.no)[i]? = some (.dat d) := q
        show ∃ v, (vs1.map some ++ List.replicate (N.length - (vs1.length + 1)) none)[i]? = some (some v) ∧ Is K F0 v d
        by_cases hi : i < (enc z).length
        · rw [List.getElem?_append_left (by simpa using hi), List.getElem?_map] at q
          cases q1 : (enc z)[i]? with
          | none => rw [q1] at q; cases q
          | some d1 =>
            rw [q1] at q
            cases q
            obtain ⟨v, h1, h2⟩ := l.get q1
            refine ⟨v, ?_, h2⟩
            rw [List.getElem?_append_left (by rw [List.length_map, lz]; exact hi), List.getElem?_map, h1]
            rfl
        · rw [List.getElem?_append_right (by simpa using hi)] at q
          obtain ⟨_, zz⟩ := List.getElem?_eq_some_iff.mp q
          rw [List.getElem_replicate] at zz
          cases zz
    have ownG : ∀ (i : Nat) b es, (rhoL N (enc0 u) (enc z))[i]? = some (.own b es) → i = 0 ∧ b = true ∧ es = enc0 u := fun i b es q => by
      cases i with
      | zero => cases q; exact ⟨rfl, rfl, rfl⟩
      | succ i =>
        have q : ((enc z).map Sl.dat ++ List.replicate (N.length - ((enc z).length + 1)) Sl.no)[i]? = some (.own b es) := q
        by_cases hi : i < (enc z).length
        · rw [List.getElem?_append_left (by simpa using hi), List.getElem?_map] at q
          cases q1 : (enc z)[i]? with
          | none => rw [q1] at q; cases q
          | some d1 => rw [q1] at q; cases q
        · rw [List.getElem?_append_right (by simpa using hi)] at q
          obtain ⟨_, zz⟩ := List.getElem?_eq_some_iff.mp q
          rw [List.getElem_replicate] at zz
          cases zz
    refine ⟨Same.refl _, sm, fun b o _ _ q => strip_some q, fun b h1 _ => h1, fun b hb => ?_, n0, t0, strip_nt, ?_, datG, fun i b es q => ?_, fun i j b c es fs b2 ne q1 q2 => ?_⟩
    · have hb : b = a0 := hb
      rw [hb]
      exact ⟨vs0, h0⟩
    · rw [e1]
      unfold rhoL
      rw [List.length_cons, List.length_cons, List.length_append, List.length_append, List.length_map, List.length_map, List.length_replicate, List.length_replicate, lz]
    · obtain ⟨rfl, rfl, rfl⟩ := ownG i b es q
      exact ⟨a0, vs0, rfl, fn, h0, l0, rfl⟩
    · obtain ⟨rfl, _⟩ := ownG i b es q1
      obtain ⟨rfl, _⟩ := ownG j c fs q2
      exact absurd rfl ne
  · obtain ⟨rfl, hp⟩ := hp
    obtain ⟨a1, ws, q1, q2, q3, q4, q5⟩ := w'.own 0 true _ hp
    have q5 : a1 = a0 := q5
    subst q5
    exact k1 v F' H' ws w'.ff w'.fh (fun b o hb n q => w'.hh b o (fun zz => hb zz) n (strip_of q n)) (fun a o n h1 h2 => w'.fr a h1 (by show stripH H a ≠ none; rw [strip_of h2 n]; simp)) w'.nt w'.tb q3 q4 i
theorem lenL {n : Nat} {S Z : Type} {enc0 : S → List D} {enc : Z → List D} {f : S → Z → D × S} {dom : S → Z → Prop} {vs : List V} {H : Hp} {Q : VK} {E : XK} {ps : List Str} (hn : ps.length = n + 1) (h : spL K enc0 enc f dom n vs H Q E) : vs.length = ps.length := by
  obtain ⟨_, _, _, _, vs1, z, rfl, _, _, _, _, _, _, l, _, hl, _⟩ := h
  rw [List.length_cons, l.length, hl, hn]
theorem knL_of {x p : Str} {st : Stmt} {a : Addr} {fd : FuncData} {N ps : List Str} {k n : Nat} {S Z : Type} {enc0 : S → List D} {enc : Z → List D} {f : S → Z → D × S} {dom : S → Z → Prop} (F : Fun K x x st a fd) (hm : mg x = some (.ref a)) (hb : Binds K fd ps []) (Sc : FnScope N ps (defScope st)) (hn : ps.length = n + 1) (hN : n + 1 ≤ N.length)
    (body : ∀ (cdv : Value) (A : Around) (outer : List Env) (s : Shared) (H : Hp) (E : XK) (u : S) (z : Z), Ct (cxOf (L2.CX P w) P w K mg base N x (defScope st) a cdv A outer s H E) E k → (enc z).length = n → dom u z →
      DSs (cxOf (L2.CX P w) P w K mg base N x (defScope st) a cdv A outer s H E) E (defBody st) (rhoL N (enc0 u) (enc z)) (PostL enc0 (f u z))) : KnL P w K mg base x (k + 1) n enc0 enc f dom := by
  exact ⟨a, fd, ps, hn, hm, F.kp, hb, F.okX Sc (fun vs H Q E h => lenL hn h) fun cdv A outer s H vs Q E hr h => entL hN h fun u z hl hd => body cdv A outer s H E u z (ct_of Sc.nd hr) hl hd⟩
end
end Kd
set_option Elab.async false
set_option linter.all false
set_option maxRecDepth 100000
set_option maxHeartbeats 2000000
/-! more rules: chains, texts, subscripts, calls of built-ins -/
namespace Kd
open PySem PySem.Spec PyProof.Rows L2
variable [LT]

section
variable {X : Cx} {E : XK} {a b c e o : Expr} {es : List Expr} {ρ ρ1 ρ2 ρ3 : List Sl} {r : Res} {x y z d : D} {pos p : Pos}
/-! ### chains -/
theorem chain_of {K : PySem.W.Frag} {r1 r2 : R2} {k1 k2 : Bool} {σ : L2.St} {H : Hp} {Q : VK} (h1 : Op2 K r1 x y (dB k1)) (h2 : k1 = true → Op2 K r2 y z (dB k2)) (h : tD K E ρ (.ok (dB (k1 && k2))) ρ σ H Q) :
    tChain r1 r2 (tD K E ρ (.ok x) ρ) (tD K E ρ (.ok y) ρ) (tD K E ρ (.ok z) ρ) σ H Q := by
  obtain ⟨en, F, w, k, _⟩ := h
  refine ⟨en, F, w, fun d1 e1 v1 F1 H1 w1 s1 i1 => ⟨en, F1, w1, fun d2 e2 v2 F2 H2 w2 s2 i2 => ?_, fun _ z => nomatch z⟩, fun _ z => nomatch z⟩
  cases e1
  cases e2
  refine h1 F2 H2 v1 v2 _ w2.fh (i1.mono s2) i2 fun v F' H' g i => ?_
  cases i
  refine ⟨k1, rfl, ?_⟩
  have w3 := w2.grow g
  cases k1 with
  | true =>
    rw [if_pos rfl]
    refine ⟨en, F', w3, fun d3 e3 v3 F3 H3 w4 s4 i3 => ?_, fun _ z => nomatch z⟩
    cases e3
    exact h2 rfl F3 H3 v2 v3 _ w4.fh ((i2.mono g.ff).mono s4) i3 (K1.yld (fun d hd => k d (by rw [← hd]; rfl)) w4 (((s1.trans s2).trans g.ff).trans s4))
  | false =>
    rw [if_neg Bool.false_ne_true]
    exact k _ rfl _ F' H' w3 ((s1.trans s2).trans g.ff) (.v _)
theorem de_chain {o1 o2 : CmpOp} {r1 r2 : R2} {k1 k2 : Bool} (ho : OpR X (compareOp o1) r1) (h1 : Op2 X.K r1 x y (dB k1)) (ho2 : OpR X (compareOp o2) r2) (h2 : k1 = true → Op2 X.K r2 y z (dB k2)) (ha : DE X E a ρ (.ok x) ρ) (hb : DE X E b ρ (.ok y) ρ) (hc : DE X E c ρ (.ok z) ρ)
    (hm : lastMarks [o1, o2] [b, c] = false := by with_unfolding_all rfl) : DE X E (.Compare a [o1, o2] [b, c] pos) ρ (.ok (dB (k1 && k2))) ρ := PE.wk (pe_chain ho ho2 ha hb hc hm) fun σ H Q h => chain_of h1 h2 h
theorem dt_chain {o1 o2 : CmpOp} {r1 r2 : R2} {k1 k2 : Bool} (ho : OpR X (compareOp o1) r1) (h1 : Op2 X.K r1 x y (dB k1)) (ho2 : OpR X (compareOp o2) r2) (h2 : k1 = true → Op2 X.K r2 y z (dB k2)) (ha : DE X E a ρ (.ok x) ρ) (hb : DE X E b ρ (.ok y) ρ) (hc : DE X E c ρ (.ok z) ρ)
    (hm : lastMarks [o1, o2] [b, c] = false := by with_unfolding_all rfl) : DT X E (.Compare a [o1, o2] [b, c] pos) ρ (.ok (k1 && k2)) ρ := dt_of (pt_chain ho ho2 ha hb hc hm) fun σ H Q h => chain_of h1 h2 h
/-! ### texts -/
theorem op2_leS {K : PySem.W.Frag} {s t : Str} : Op2 K (fun x y H Q => ∃ i j, x = .str i ∧ y = .str j ∧ Q (.bl (!decide (j.cps.toList < i.cps.toList))) H) (dS s) (dS t) (dB (!decide (t.cps.toList < s.cps.toList))) := fun F H vx vy Q sm hx hy k => by
  cases hx; cases hy
  exact ⟨s, t, rfl, rfl, k.v sm⟩
theorem op2_addS {K : PySem.W.Frag} {s t : Str} (h : s.length + t.length ≤ 16000000) : Op2 K (fun x y H Q => ∃ i j, x = .str i ∧ y = .str j ∧ i.length + j.length ≤ sizeLine ∧ Q (.str (i ++ j)) H) (dS s) (dS t) (dS (s ++ t)) := fun F H vx vy Q sm hx hy k => by
  cases hx; cases hy
  exact ⟨s, t, rfl, rfl, Nat.le_trans h (by decide), k.v sm⟩
theorem op2_inC {K : PySem.W.Frag} {c : Nat} {t : Str} : Op2 K (fun x y H Q => ∃ (c : Nat) (z : Str), x = .str ⟨#[c]⟩ ∧ y = .str z ∧ Q (.bl (decide (c ∈ z.cps.toList))) H) (dS ⟨#[c]⟩) (dS t) (dB (decide (c ∈ t.cps.toList))) := fun F H vx vy Q sm hx hy k => by
  cases hx; cases hy
  exact ⟨c, t, rfl, rfl, k.v sm⟩
theorem op2_ninC {K : PySem.W.Frag} {c : Nat} {t : Str} : Op2 K (fun x y H Q => ∃ (c : Nat) (z : Str), x = .str ⟨#[c]⟩ ∧ y = .str z ∧ Q (.bl (!decide (c ∈ z.cps.toList))) H) (dS ⟨#[c]⟩) (dS t) (dB (!decide (c ∈ t.cps.toList))) := fun F H vx vy Q sm hx hy k => by
  cases hx; cases hy
  exact ⟨c, t, rfl, rfl, k.v sm⟩
/-- x in (a tuple of flat values), not in -/
theorem op2_inT {K : PySem.W.Frag} {neg : Bool} {v : V} {vs : List V} (h1 : flatV v = true) (h2 : vs.all flatV = true) : Op2 K (rIn K neg) (.v v) (.tup (vs.map D.v)) (dB (if neg then !inV v vs else inV v vs)) := fun F H vx vy Q sm hx hy k => by
  cases hx
  cases hy with
  | tup ht l =>
    have e := l.vs
    subst e
    exact ⟨_, _, rfl, .inr (sqT_mono sm ht), h1, h2, k.v sm⟩
theorem op2_isN {K : PySem.W.Frag} {v : V} : Op2 K (fun x y H Q => y = .non ∧ Q (.bl (decide (x = .non))) H) (.v v) dN (dB (decide (v = .non))) := fun F H vx vy Q sm hx hy k => by
  cases hx; cases hy
  exact ⟨rfl, k.v sm⟩
theorem op2_notN {K : PySem.W.Frag} {v : V} : Op2 K (fun x y H Q => y = .non ∧ Q (.bl (!decide (x = .non))) H) (.v v) dN (dB (!decide (v = .non))) := fun F H vx vy Q sm hx hy k => by
  cases hx; cases hy
  exact ⟨rfl, k.v sm⟩
/-! ### subscripts -/
theorem de_ix {r : R2} (ho : IxR X r) (hr : Op2 X.K r x y z) (ha : DE X E a ρ (.ok x) ρ1) (hb : DE X E b ρ1 (.ok y) ρ2) (hs : PlainIx b) : DE X E (.Subscript a b pos) ρ (.ok z) ρ2 := PE.wk (pe_ix ho ha hb hs) fun σ H Q h => tOp_of hr h
theorem atI_is {K : PySem.W.Frag} {F : Hp} {vs : List V} {ds : List D} {i : Int} (l : IsL K F vs ds) (h : atI ds i = some d) : ∃ v, atI vs i = some v ∧ Is K F v d := by
  unfold atI at h ⊢
  rw [l.length]
  cases q : ixN ds.length i with
  | none => rw [q] at h; cases h
  | some j =>
    rw [q] at h
    exact l.get h
theorem op2_ixT {K : PySem.W.Frag} {ds : List D} {i : Int} (h : atI ds i = some d) : Op2 K (rIxT K) (.tup ds) (dI i) d := fun F H vx vy Q sm hx hy k => by
  cases hy
  cases hx with
  | tup ht l =>
    obtain ⟨v, h1, h2⟩ := atI_is l h
    exact ⟨_, _, i, v, rfl, rfl, sqT_mono sm ht, h1, k v F H (Gr.refl sm) h2⟩
theorem op2_ixL {K : PySem.W.Frag} {ds : List D} {i : Int} (h : atI ds i = some d) : Op2 K (rIxL K) (.lst ds) (dI i) d := fun F H vx vy Q sm hx hy k => by
  cases hy
  cases hx with
  | lst ht l =>
    obtain ⟨v, h1, h2⟩ := atI_is l h
    exact ⟨_, _, i, v, rfl, rfl, .inl (.inl (sm _ _ ht)), h1, k v F H (Gr.refl sm) h2⟩
theorem op2_ixR {K : PySem.W.Frag} {ds : List D} {i : Int} (h : atI ds i = some d) : Op2 K (rIxL K) (.scr ds) (dI i) d := fun F H vx vy Q sm hx hy k => by
  cases hy
  cases hx with
  | scr ht l =>
    obtain ⟨v, h1, h2⟩ := atI_is l h
    exact ⟨_, _, i, v, rfl, rfl, sm.seq ht, h1, k v F H (Gr.refl sm) h2⟩
theorem op2_ixS {K : PySem.W.Frag} {s : Str} {i : Int} {c : Nat} (hz : s.length ≤ 16000000) (h : atI s.cps.toList i = some c) : Op2 K rIxS (dS s) (dI i) (dS ⟨#[c]⟩) := fun F H vx vy Q sm hx hy k => by
  cases hx; cases hy
  exact ⟨s, i, c, rfl, rfl, Nat.le_trans hz (by decide), h, k.v sm⟩
/-- own[i] -/
theorem de_ixOwn {i : Nat} {n : Str} {bb : Bool} {ds : List D} {j : Int} {pn : Pos} (hN : X.N[i]? = some n) (hv : Vis X.env.scope n) (h : ρ[i]? = some (.own bb ds)) (hb : DE X E b ρ (.ok (dI j)) ρ) (ha : atI ds j = some d) (hs : PlainIx b)
    (hd : (n == ("__debug__" : Str)) = false := by decide) (hcd : (n == ("__classdict__" : Str)) = false := by decide) : DE X E (.Subscript (.Name n pn) b pos) ρ (.ok d) ρ := PE.wk (pe_ix ix_list (pe_var hN hv hd hcd) hb hs) fun σ H Q ⟨en, F, w, k, _⟩ => by
  obtain ⟨l, vs, q1, q2, q3, q4, _⟩ := w.own i bb ds h
  refine ⟨.ref l, q1, en, F, w, fun d1 e1 v1 F1 H1 w1 s1 i1 => ?_, fun _ z => nomatch z⟩
  cases e1
  cases i1
  obtain ⟨l', vs', p1, p2, p3, p4, _⟩ := w1.own i bb ds h
  rw [q1] at p1
  cases p1
  obtain ⟨v, t1, t2⟩ := atI_is p4 ha
  exact ⟨l, vs', j, v, rfl, rfl, .inl (.inl p3), t1, k d rfl v F1 H1 w1 s1 t2⟩
/-- slices -/
def tDO (K : PySem.W.Frag) (E : XK) (ρ : List Sl) (o : Option Int) (ρ' : List Sl) : TO := fun σ H Q => ∃ e F, Wd K e F H σ ρ ∧ ∀ F' H', Wd K e F' H' σ ρ' → Same F F' → Q o H'
theorem do_none : PO X none (tDO X.K E ρ none ρ) := ⟨fun pins s σ H Q I ⟨en, F, w, k⟩ => po_none.run pins s σ H Q I (k F H w (Same.refl F))⟩
theorem do_some {i : Int} (h : DE X E e ρ (.ok (dI i)) ρ1) : PO X (some e) (tDO X.K E ρ (some i) ρ1) := ⟨fun pins s σ H Q I ⟨en, F, w, k⟩ => (po_some h).run pins s σ H Q I ⟨en, F, w, fun d hd v F1 H1 w1 s1 i1 => by
  cases hd
  cases i1
  exact ⟨i, rfl, k F1 H1 w1 s1⟩, fun _ z => nomatch z⟩⟩
def Sl3 (K : PySem.W.Frag) (r : V → Option Int → Option Int → Hp → VK → Prop) (x : D) (lo hi : Option Int) (z : D) : Prop := ∀ F H v Q, Same F H → Is K F v x → Yld K F H z Q → r v lo hi H Q
variable {lo hi : Option Expr} {p2 : Pos} {l u : Option Int}
theorem de_slice {r : V → Option Int → Option Int → Hp → VK → Prop} (ho : SlR X r) (hr : Sl3 X.K r x l u z) (ha : DE X E e ρ (.ok x) ρ1) (hl : PO X lo (tDO X.K E ρ1 l ρ2)) (hu : PO X hi (tDO X.K E ρ2 u ρ3)) : DE X E (.Subscript e (.Slice lo hi none p2) pos) ρ (.ok z) ρ3 :=
  PE.wk (pe_slice ho ha hl hu) fun σ H Q ⟨en, F, w, k, _⟩ => ⟨en, F, w, fun d hd v F1 H1 w1 s1 i1 => by
    cases hd
    exact ⟨en, F1, w1, fun F2 H2 w2 s2 => ⟨en, F2, w2, fun F3 H3 w3 s3 => hr F3 H3 v Q w3.fh ((i1.mono s2).mono s3) (K1.yld k w3 ((s1.trans s2).trans s3))⟩⟩, fun _ z => nomatch z⟩
theorem sl3_str {K : PySem.W.Frag} {s : Str} (h : s.length ≤ 16000000) : Sl3 K rSlS (dS s) l u (dS (cutS s l u)) := fun F H v Q sm hx k => by
  cases hx
  exact ⟨s, rfl, Nat.le_trans h (by decide), k.v sm⟩
theorem sl3_tup {K : PySem.W.Frag} {ds ds' : List D} (h : ∀ F vs, IsL K F vs ds → IsL K F (cutV vs l u) ds') (hw : HT.sIx ds.length 0 l = 0 ∧ HT.sIx ds.length ds.length u = ds.length → ds' = ds) : Sl3 K (rSlA K) (.tup ds) l u (.tup ds') := fun F H v Q sm hx k => by
  cases hx with
  | @tup a vs ds ht il =>
    refine ⟨a, vs, rfl, sqT_mono sm ht, fun hw1 => ?_, fun _ p hp => k.newT sm (h F vs il) hp⟩
    rw [il.length] at hw1
    rw [hw hw1] at k
    exact k _ F H (Gr.refl sm) (.tup ht il)
/-! ### calls of built-ins -/
def CallD (K : PySem.W.Frag) (r : List V → Hp → VK → Prop) (ds : List D) (z : D) : Prop := ∀ F H vs Q, Same F H → IsL K F vs ds → Yld K F H z Q → r vs H Q
theorem tCB_of {r : List V → Hp → VK → Prop} {K : PySem.W.Frag} {ds : List D} {σ : L2.St} {H : Hp} {Q : VK} (hr : CallD K r ds z) (h : tD K E ρ (.ok z) ρ1 σ H Q) : tCB r (tDA K E ρ (.ok ds) ρ1) σ H Q := by
  obtain ⟨en, F, w, k, _⟩ := h
  refine ⟨en, F, w, fun ds1 e1 vs F1 H1 w1 s1 i1 => ?_, fun _ z => nomatch z⟩
  cases e1
  exact hr F1 H1 vs Q w1.fh i1 (K1.yld k w1 s1)
theorem de_callB {r : List V → Hp → VK → Prop} {ds : List D} {id : String} {n : Str} (hc : CallR X (.builtin id) r) (hr : CallD X.K r ds z) (hg : Gl X n) (hm : X.mg n = none) (hv : bootBuiltins n = some (.builtin id)) (ha : DA X E (e :: es) ρ (.ok ds) ρ1) (hn : n ≠ "__name__" := by decide) (hdb : (n == ("__debug__" : Str)) = false := by decide)
    (he : starEach (e :: es) X.env = (false, eval e X.env) :: starEach es X.env := by rfl) (hpl : (backTo pos (starEach es X.env)).any (·.1) = false := by rfl) : DE X E (.Call (.Name n p) (e :: es) [] pos) ρ (.ok z) ρ1 := PE.wk (pe_callB hc hg hm hv ha hn hdb he hpl) fun σ H Q h => tCB_of hr h
theorem de_callTy {r : List V → Hp → VK → Prop} {ds : List D} {T : String} {n : Str} (hc : CallR X (.type T) r) (hr : CallD X.K r ds z) (hg : Gl X n) (hm : X.mg n = none) (hv : bootBuiltins n = some (.type T)) (ha : DA X E (e :: es) ρ (.ok ds) ρ1) (hn : n ≠ "__name__" := by decide) (hdb : (n == ("__debug__" : Str)) = false := by decide)
    (he : starEach (e :: es) X.env = (false, eval e X.env) :: starEach es X.env := by rfl) (hpl : (backTo pos (starEach es X.env)).any (·.1) = false := by rfl) : DE X E (.Call (.Name n p) (e :: es) [] pos) ρ (.ok z) ρ1 := PE.wk (pe_callTy hc hg hm hv ha hn hdb he hpl) fun σ H Q h => tCB_of hr h
variable {K : PySem.W.Frag}
theorem cd_lenS {s : Str} (h : s.length ≤ 16000000) : CallD K (fun xs H Q => ∃ z, xs = [.str z] ∧ z.length ≤ sizeLine ∧ Q (.int z.length) H) [dS s] (dI s.length) := fun F H vs Q sm l k => by
  cases l with
  | cons h1 l =>
    cases l
    cases h1
    exact ⟨s, rfl, Nat.le_trans h (by decide), k.v sm⟩
theorem cd_lenT {ds : List D} : CallD K (fun xs H Q => ∃ p ys, xs = [.ref p] ∧ (SqL K H p ys ∨ SqT K H p ys) ∧ Q (.int ys.length) H) [.tup ds] (dI ds.length) := fun F H vs Q sm l k => by
  cases l with
  | cons h1 l =>
    cases l
    cases h1 with
    | tup ht il => exact ⟨_, _, rfl, .inr (sqT_mono sm ht), by rw [il.length]; exact k.v sm⟩
theorem cd_lenL {ds : List D} : CallD K (fun xs H Q => ∃ p ys, xs = [.ref p] ∧ (SqL K H p ys ∨ SqT K H p ys) ∧ Q (.int ys.length) H) [.lst ds] (dI ds.length) := fun F H vs Q sm l k => by
  cases l with
  | cons h1 l =>
    cases l
    cases h1 with
    | lst ht il => exact ⟨_, _, rfl, .inl (.inl (.inl (sm _ _ ht))), by rw [il.length]; exact k.v sm⟩
theorem cd_lenR {ds : List D} : CallD K (fun xs H Q => ∃ p ys, xs = [.ref p] ∧ (SqL K H p ys ∨ SqT K H p ys) ∧ Q (.int ys.length) H) [.scr ds] (dI ds.length) := fun F H vs Q sm l k => by
  cases l with
  | cons h1 l =>
    cases l
    cases h1 with
    | scr ht il => exact ⟨_, _, rfl, .inl (sm.seq ht), by rw [il.length]; exact k.v sm⟩
/-- the name of a datum's type -/
def tyD : D → Option String
  | .v .non => some "NoneType"
  | .v (.bl _) => some "bool"
  | .v (.int _) => some "int"
  | .v (.str _) => some "str"
  | .tup _ => some "tuple"
  | .lst _ => some "list"
  | .emp => some "dict"
  | _ => none
theorem tyX_of {F H : Hp} {v : V} {t : String} (sm : Same F H) (h : Is K F v d) (e : tyD d = some t) : TyX K H v (.type t) := by
  cases h with
  | v => cases v <;> simp [tyD] at e <;> subst e <;> first | exact .base .non | exact .base (.bl _) | exact .base (.int _) | exact .base (.str _)
  | tup ht l =>
    simp [tyD] at e
    subst e
    rcases ht with (ht | ⟨o, ht⟩) | ⟨o, its, n, h1, h2, _⟩
    · exact .base (.tup (sm _ _ ht))
    · exact .fTuple (sm _ _ ht)
    · exact .kTuple h1 h2
  | lst ht l =>
    simp [tyD] at e
    subst e
    exact .base (.lst (sm _ _ ht))
  | scr ht l => simp [tyD] at e
  | emp ht =>
    simp [tyD] at e
    subst e
    exact .base (.dK (sm _ _ ht))
theorem cd_isi {t u : String} {k : Bool} (e : tyD d = some t) (h : kitB t u = some k) : CallD K (rIsi K) [d, .v (.ty u)] (dB k) := fun F H vs Q sm l kk => by
  cases l with
  | cons h1 l =>
    cases l with
    | cons h2 l =>
      cases l
      cases h2
      exact ⟨_, _, _, _, k, rfl, .ty u, tyX_of sm h1 e, kit_ty h, kk.v sm⟩
theorem cd_int {i : Int} : CallD K (fun xs H Q => (∃ i, xs = [.int i] ∧ Q (.int i) H) ∨ ∃ k, xs = [.bl k] ∧ Q (.int (if k then 1 else 0)) H) [dI i] (dI i) := fun F H vs Q sm l k => by
  cases l with
  | cons h1 l => cases l; cases h1; exact .inl ⟨i, rfl, k.v sm⟩
theorem cd_intB {i : Bool} : CallD K (fun xs H Q => (∃ i, xs = [.int i] ∧ Q (.int i) H) ∨ ∃ k, xs = [.bl k] ∧ Q (.int (if k then 1 else 0)) H) [dB i] (dI (if i then 1 else 0)) := fun F H vs Q sm l k => by
  cases l with
  | cons h1 l => cases l; cases h1; exact .inr ⟨i, rfl, k.v sm⟩
theorem cd_intS {s : Str} {n : Int} (h : PySem.intText? s = some n) (hz : s.length ≤ 640) : CallD K (fun xs H Q => ∃ a n, xs = [.str a] ∧ PySem.intText? a = some n ∧ a.length ≤ 640 ∧ Q (.int n) H) [dS s] (dI n) := fun F H vs Q sm l k => by
  cases l with
  | cons h1 l => cases l; cases h1; exact ⟨s, n, rfl, h, hz, k.v sm⟩
theorem cd_strI {i : Int} (h : i.natAbs.log2 < 1920) : CallD K (fun xs H Q => ∃ i, xs = [.int i] ∧ i.natAbs.log2 < 1920 ∧ Q (.str (toString i)) H) [dI i] (.v (.str (toString i))) := fun F H vs Q sm l k => by
  cases l with
  | cons h1 l => cases l; cases h1; exact ⟨i, rfl, h, k.v sm⟩
theorem cd_abs {i : Int} : CallD K (fun xs H Q => ∃ i, xs = [.int i] ∧ Q (.int (if i < 0 then -i else i)) H) [dI i] (dI (if i < 0 then -i else i)) := fun F H vs Q sm l k => by
  cases l with
  | cons h1 l => cases l; cases h1; exact ⟨i, rfl, k.v sm⟩
theorem cd_max2 {i j : Int} : CallD K (fun xs H Q => ∃ i j, xs = [.int i, .int j] ∧ Q (.int (if j > i then j else i)) H) [dI i, dI j] (dI (if j > i then j else i)) := fun F H vs Q sm l k => by
  cases l with
  | cons h1 l =>
    cases l with
    | cons h2 l => cases l; cases h1; cases h2; exact ⟨i, j, rfl, k.v sm⟩
theorem cd_min2 {i j : Int} : CallD K (fun xs H Q => ∃ i j, xs = [.int i, .int j] ∧ Q (.int (if j < i then j else i)) H) [dI i, dI j] (dI (if j < i then j else i)) := fun F H vs Q sm l k => by
  cases l with
  | cons h1 l =>
    cases l with
    | cons h2 l => cases l; cases h1; cases h2; exact ⟨i, j, rfl, k.v sm⟩
theorem cd_tupL {ds : List D} : CallD K (fun xs H Q => ∃ p ys, xs = [.ref p] ∧ ((SqL K H p ys ∧ ∀ l, H l = none → Q (.ref l) (upd H l (.tup ys))) ∨ (SqT K H p ys ∧ Q (.ref p) H))) [.lst ds] (.tup ds) := fun F H vs Q sm l k => by
  cases l with
  | cons h1 l =>
    cases l
    cases h1 with
    | lst ht il => exact ⟨_, _, rfl, .inl ⟨.inl (.inl (sm _ _ ht)), fun p hp => k.newT sm il hp⟩⟩
theorem cd_all {bs : List Bool} : CallD K (rAll K) [.lst (bs.map dB)] (dB (bs.all _root_.id)) := fun F H vs Q sm l k => by
  cases l with
  | cons h1 l =>
    cases l
    cases h1 with
    | @lst a xs ds ht il =>
      have e : xs = bs.map V.bl := by
        have il2 : IsL K F xs ((bs.map V.bl).map D.v) := by rw [List.map_map]; exact il
        exact il2.vs
      subst e
      exact ⟨_, bs, rfl, .inl (.inl (sm _ _ ht)), k.v sm⟩
/-! ### methods of texts -/
def MtD (K : PySem.W.Frag) (r : V → List V → Hp → VK → Prop) (s : Str) (y z : D) : Prop := ∀ F H vy Q, Same F H → Is K F vy y → Yld K F H z Q → r (.str s) [vy] H Q
theorem tM1_of {r : V → List V → Hp → VK → Prop} {s : Str} {σ : L2.St} {H : Hp} {Q : VK} (hr : MtD K r s y z) (h : tD K E ρ (.ok z) ρ2 σ H Q) : tM1 r (tD K E ρ (.ok (dS s)) ρ1) (tD K E ρ1 (.ok y) ρ2) σ H Q := by
  obtain ⟨en, F, w, k, _⟩ := h
  refine ⟨en, F, w, fun d hd v F1 H1 w1 s1 i1 => ?_, fun _ z => nomatch z⟩
  cases hd
  cases i1
  refine ⟨⟨s, rfl⟩, en, F1, w1, fun d2 hd2 v2 F2 H2 w2 s2 i2 => ?_, fun _ z => nomatch z⟩
  cases hd2
  exact hr F2 H2 v2 Q w2.fh i2 (K1.yld k w2 (s1.trans s2))
theorem de_m1 {id : String} {name : Str} {apos : Pos} {r : V → List V → Hp → VK → Prop} {s : Str} (slot : Slot "str" name id) (ty : typeOf (.builtin id) = pure (.type "method_descriptor")) (rule : MtR X id r) (hr : MtD X.K r s y z) (ho : DE X E o ρ (.ok (dS s)) ρ1) (he : DE X E e ρ1 (.ok y) ρ2)
    (hs : starEach [e] X.env = [(false, eval e X.env)] := by rfl) (hbase : attributeBase o name X.env (eval o X.env) = eval o X.env := by rfl) (hline : (apos.endLine == pos.line) = true := by rfl) : DE X E (.Call (.Attribute o name apos) [e] [] pos) ρ (.ok z) ρ2 :=
  PE.wk (pe_m1 slot ty rule ho he hs hbase hline) fun σ H Q h => tM1_of hr h
theorem md_split {s t : Str} (h1 : (t.length == 0) = false) (h2 : s.length ≤ 16000000) : MtD K (fun x xs H Q => ∃ a b, x = .str a ∧ xs = [.str b] ∧ (b.length == 0) = false ∧ a.length + 2 ≤ sizeLine ∧ rNewStrs (Txt.split a b) H Q) s (dS t) (.lst ((Txt.split s t).map dS)) := fun F H vy Q sm hy k => by
  cases hy
  refine ⟨s, t, rfl, rfl, h1, Nat.le_trans (Nat.add_le_add_right h2 2) (by decide), fun p hp => k.newL sm ?_ hp⟩
  have := IsL.ofV (K := K) (F := F) ((Txt.split s t).map V.str)
  rw [List.map_map] at this
  exact this
theorem md_part {s t : Str} (h1 : (t.length == 0) = false) (h2 : s.length ≤ 16000000) : MtD K (fun x xs H Q => ∃ a b, x = .str a ∧ xs = [.str b] ∧ (b.length == 0) = false ∧ a.length ≤ sizeLine ∧ ∀ p, H p = none → Q (.ref p) (upd H p (.tup [.str (Txt.partition a b).1, .str (Txt.partition a b).2.1, .str (Txt.partition a b).2.2]))) s (dS t)
    (.tup [dS (Txt.partition s t).1, dS (Txt.partition s t).2.1, dS (Txt.partition s t).2.2]) := fun F H vy Q sm hy k => by
  cases hy
  exact ⟨s, t, rfl, rfl, h1, Nat.le_trans h2 (by decide), fun p hp => k.newT sm (.cons (.v _) (.cons (.v _) (.cons (.v _) .nil))) hp⟩
theorem md_starts {s t : Str} : MtD K (fun x xs H Q => ∃ a b, x = .str a ∧ xs = [.str b] ∧ Q (.bl (Txt.startswith a b)) H) s (dS t) (dB (Txt.startswith s t)) := fun F H vy Q sm hy k => by
  cases hy
  exact ⟨s, t, rfl, rfl, k.v sm⟩
theorem md_join {s : Str} {ys : List Str} (h : (ys.map (·.length)).sum + ys.length * s.length ≤ 16000000) : MtD K (fun x xs H Q => ∃ a p, ∃ ys : List Str, x = .str a ∧ xs = [.ref p] ∧ (SqL K H p (ys.map V.str) ∨ SqT K H p (ys.map V.str)) ∧ (ys.map (·.length)).sum + ys.length * a.length ≤ 16777216 ∧ Q (.str (Txt.join a ys)) H)
    s (.lst (ys.map dS)) (dS (Txt.join s ys)) := fun F H vy Q sm hy k => by
  cases hy with
  | @lst a xs ds ht il =>
    have e : xs = ys.map V.str := by
      have il2 : IsL K F xs ((ys.map V.str).map D.v) := by rw [List.map_map]; exact il
      exact il2.vs
    subst e
    exact ⟨s, a, ys, rfl, rfl, .inl (.inl (.inl (sm _ _ ht))), Nat.le_trans h (by decide), k.v sm⟩
/-! ### or by truth -/
theorem de_orS {s : Str} {rest : List Expr} (ha : DE X E a ρ (.ok (dS s)) ρ1) (h1 : s.length ≠ 0 → r = .ok (dS s) ∧ ρ2 = ρ1) (h2 : s.length = 0 → DE X E (.BoolOp .Or (b :: rest) pos) ρ1 r ρ2) (hz : s.length ≤ 16000000) : DE X E (.BoolOp .Or (a :: b :: rest) pos) ρ r ρ2 := by
  have tv : ∀ H, TruV X.K (.str s) H (s.length != 0) := fun H => ⟨Nat.le_trans hz (by decide), by
    cases q : s.length with
    | zero => rfl
    | succ n => simp; omega⟩
  by_cases h0 : s.length = 0
  · refine PE.wk (pe_orT ha (h2 h0)) fun σ H Q ⟨en, F, w, k, k2⟩ => ⟨en, F, w, fun d hd v F1 H1 w1 s1 i1 => ?_, fun _ z => nomatch z⟩
    cases hd
    cases i1
    refine ⟨_, tv H1, ?_⟩
    rw [h0]
    exact ⟨en, F1, w1, fun d hd v F2 H2 w2 s2 i2 => k d hd v F2 H2 w2 (s1.trans s2) i2, k2⟩
  · obtain ⟨rfl, rfl⟩ := h1 h0
    refine PE.wk (pe_orT ha pe_no) fun σ H Q ⟨en, F, w, k, k2⟩ => ⟨en, F, w, fun d hd v F1 H1 w1 s1 i1 => ?_, fun _ z => nomatch z⟩
    cases hd
    cases i1
    refine ⟨_, tv H1, ?_⟩
    rw [if_pos (by simpa using h0)]
    exact k _ rfl _ F1 H1 w1 s1 (.v _)
theorem de_one {op} (h : DE X E a ρ r ρ1) : DE X E (.BoolOp op [a] pos) ρ r ρ1 := pe_one h
theorem de_andT {rest : List Expr} (ha : DE X E a ρ (.ok (dB true)) ρ1) (hb : DE X E (.BoolOp .And (b :: rest) pos) ρ1 r ρ2) : DE X E (.BoolOp .And (a :: b :: rest) pos) ρ r ρ2 := PE.wk (pe_and ha hb) fun σ H Q ⟨en, F, w, k, k2⟩ => ⟨en, F, w, fun d hd v F1 H1 w1 s1 i1 => by
    cases hd
    cases i1
    exact ⟨true, rfl, by rw [if_pos rfl]; exact ⟨en, F1, w1, fun d hd v F2 H2 w2 s2 i2 => k d hd v F2 H2 w2 (s1.trans s2) i2, k2⟩⟩, fun _ z => nomatch z⟩
theorem de_andF {rest : List Expr} (ha : DE X E a ρ (.ok (dB false)) ρ1) : DE X E (.BoolOp .And (a :: b :: rest) pos) ρ (.ok (dB false)) ρ1 := PE.wk (pe_and ha pe_no) fun σ H Q ⟨en, F, w, k, k2⟩ => ⟨en, F, w, fun d hd v F1 H1 w1 s1 i1 => by
    cases hd
    cases i1
    exact ⟨false, rfl, by rw [if_neg Bool.false_ne_true]; exact k _ rfl _ F1 H1 w1 s1 (.v _)⟩, fun _ z => nomatch z⟩
theorem de_orT {rest : List Expr} (ha : DE X E a ρ (.ok (dB true)) ρ1) : DE X E (.BoolOp .Or (a :: b :: rest) pos) ρ (.ok (dB true)) ρ1 := PE.wk (pe_or ha pe_no) fun σ H Q ⟨en, F, w, k, k2⟩ => ⟨en, F, w, fun d hd v F1 H1 w1 s1 i1 => by
    cases hd
    cases i1
    exact ⟨true, rfl, by rw [if_pos rfl]; exact k _ rfl _ F1 H1 w1 s1 (.v _)⟩, fun _ z => nomatch z⟩
theorem de_orF {rest : List Expr} (ha : DE X E a ρ (.ok (dB false)) ρ1) (hb : DE X E (.BoolOp .Or (b :: rest) pos) ρ1 r ρ2) : DE X E (.BoolOp .Or (a :: b :: rest) pos) ρ r ρ2 := PE.wk (pe_or ha hb) fun σ H Q ⟨en, F, w, k, k2⟩ => ⟨en, F, w, fun d hd v F1 H1 w1 s1 i1 => by
    cases hd
    cases i1
    exact ⟨false, rfl, by rw [if_neg Bool.false_ne_true]; exact ⟨en, F1, w1, fun d hd v F2 H2 w2 s2 i2 => k d hd v F2 H2 w2 (s1.trans s2) i2, k2⟩⟩, fun _ z => nomatch z⟩
theorem de_not {k : Bool} (ha : DE X E a ρ (.ok (dB k)) ρ1) : DE X E (.UnaryOp .Not a pos) ρ (.ok (dB (!k))) ρ1 := PE.wk (pe_not ha) fun σ H Q ⟨en, F, w, kk, k2⟩ => ⟨en, F, w, fun d hd v F1 H1 w1 s1 i1 => by
    cases hd
    cases i1
    exact ⟨k, rfl, kk _ rfl _ F1 H1 w1 s1 (.v _)⟩, fun _ z => nomatch z⟩
end
end Kd
set_option Elab.async false
set_option linter.all false
set_option maxRecDepth 100000
set_option maxHeartbeats 2000000
/-! walks, targets, loops, comprehensions -/
namespace Kd
open PySem PySem.Spec PyProof.Rows L2
variable [LT]

/-! ### what is walked -/
structure ItD (K : PySem.W.Frag) (J : It) (ds : List D) (F : Hp) : Prop where
  go : ∀ i F1 H, Same F F1 → Same F1 H → i < ds.length → J.go i H
  stop : ∀ i F1 H, Same F F1 → Same F1 H → ds.length ≤ i → J.stop i H
  yld : ∀ i F1 H x H', Same F F1 → Same F1 H → i < ds.length → J.yld i H x H' → ∃ F' d, Gr F1 H F' H' ∧ ds[i]? = some d ∧ Is K F' x d
theorem ItD.mono {K : PySem.W.Frag} {J : It} {ds : List D} {F F' : Hp} (h : ItD K J ds F) (s : Same F F') : ItD K J ds F' :=
  ⟨fun i F1 H a => h.go i F1 H (s.trans a), fun i F1 H a => h.stop i F1 H (s.trans a), fun i F1 H x H' a => h.yld i F1 H x H' (s.trans a)⟩
def tDI (K : PySem.W.Frag) (E : XK) (ρ : List Sl) (r : Except Er (List D)) (ρ' : List Sl) : TI := fun σ H R => ∃ e F, Wd K e F H σ ρ ∧ (∀ ds, r = .ok ds → ∀ J F' H', Wd K e F' H' σ ρ' → Same F F' → ItD K J ds F' → R J H') ∧
  (∀ x, r = .error x → ∀ F' H' ρ'', Wd K e F' H' σ ρ'' → Thr E x H')
def DI (X : Cx) (E : XK) (tg iter : Expr) (ρ : List Sl) (r : Except Er (List D)) (ρ' : List Sl) : Prop := PI X tg iter (tDI X.K E ρ r ρ')
section
variable {X : Cx} {E : XK} {a b c e o tg iter : Expr} {es : List Expr} {ρ ρ1 ρ2 ρ3 : List Sl} {r : Res} {x y z d : D} {pos p : Pos} {ds : List D}
theorem PI.wk {t t' : TI} (h : PI X tg iter t) (q : ∀ σ H R, t' σ H R → t σ H R) : PI X tg iter t' := ⟨fun pins s σ H R I w => h.run pins s σ H R I (q σ H R w)⟩
theorem di_list (h : DE X E e ρ (.ok (.lst ds)) ρ1) : DI X E tg e ρ (.ok ds) ρ1 := PI.wk (pi_list h) fun σ H R ⟨en, F, w, k, _⟩ => ⟨en, F, w, fun d hd v F1 H1 w1 s1 i1 => by
    cases hd
    cases i1 with
    | @lst a vs ds ht il =>
      refine ⟨a, rfl, ⟨vs, .inl (.inl (w1.fh _ _ ht))⟩, k ds rfl _ F1 H1 w1 s1 ⟨fun i F2 H s1 s2 hi => ?_, fun i F2 H s1 s2 hi => ?_, fun i F2 H x H' s1 s2 hi y => ?_⟩⟩
      · obtain ⟨v, h1, _⟩ := il.get (List.getElem?_eq_getElem hi)
        exact ⟨vs, v, .inl (.inl (s2 _ _ (s1 _ _ ht))), h1⟩
      · exact ⟨vs, .inl (.inl (s2 _ _ (s1 _ _ ht))), by rw [il.length]; exact hi⟩
      · obtain ⟨e1, y⟩ := y
        subst e1
        obtain ⟨d, h1, h2⟩ := il.getV (y vs (.inl (.inl (s2 _ _ (s1 _ _ ht)))))
        exact ⟨F2, d, Gr.refl s2, h1, h2.mono s1⟩, fun _ z => nomatch z⟩
theorem di_scr (h : DE X E e ρ (.ok (.scr ds)) ρ1) : DI X E tg e ρ (.ok ds) ρ1 := PI.wk (pi_list h) fun σ H R ⟨en, F, w, k, _⟩ => ⟨en, F, w, fun d hd v F1 H1 w1 s1 i1 => by
    cases hd
    cases i1 with
    | @scr a vs ds ht il =>
      refine ⟨a, rfl, ⟨vs, w1.fh.seq ht⟩, k ds rfl _ F1 H1 w1 s1 ⟨fun i F2 H s1 s2 hi => ?_, fun i F2 H s1 s2 hi => ?_, fun i F2 H x H' s1 s2 hi y => ?_⟩⟩
      · obtain ⟨v, h1, _⟩ := il.get (List.getElem?_eq_getElem hi)
        exact ⟨vs, v, (s1.trans s2).seq ht, h1⟩
      · exact ⟨vs, (s1.trans s2).seq ht, by rw [il.length]; exact hi⟩
      · obtain ⟨e1, y⟩ := y
        subst e1
        obtain ⟨d, h1, h2⟩ := il.getV (y vs ((s1.trans s2).seq ht))
        exact ⟨F2, d, Gr.refl s2, h1, h2.mono s1⟩, fun _ z => nomatch z⟩
theorem di_tup (h : DE X E e ρ (.ok (.tup ds)) ρ1) : DI X E tg e ρ (.ok ds) ρ1 := PI.wk (pi_tup h) fun σ H R ⟨en, F, w, k, _⟩ => ⟨en, F, w, fun d hd v F1 H1 w1 s1 i1 => by
    cases hd
    cases i1 with
    | @tup a vs ds ht il =>
      refine ⟨a, rfl, ⟨vs, sqT_mono w1.fh ht⟩, k ds rfl _ F1 H1 w1 s1 ⟨fun i F2 H s1 s2 hi => ?_, fun i F2 H s1 s2 hi => ?_, fun i F2 H x H' s1 s2 hi y => ?_⟩⟩
      · obtain ⟨v, h1, _⟩ := il.get (List.getElem?_eq_getElem hi)
        exact ⟨vs, v, sqT_mono (s1.trans s2) ht, h1⟩
      · exact ⟨vs, sqT_mono (s1.trans s2) ht, by rw [il.length]; exact hi⟩
      · obtain ⟨e1, y⟩ := y
        subst e1
        obtain ⟨d, h1, h2⟩ := il.getV (y vs (sqT_mono (s1.trans s2) ht))
        exact ⟨F2, d, Gr.refl s2, h1, h2.mono s1⟩, fun _ z => nomatch z⟩
/-- the signs of a text -/
def signs (s : Str) : List D := s.cps.toList.map fun c => dS ⟨#[c]⟩
theorem di_str {s : Str} (h : DE X E e ρ (.ok (dS s)) ρ1) : DI X E tg e ρ (.ok (signs s)) ρ1 := PI.wk (pi_str h) fun σ H R ⟨en, F, w, k, _⟩ => ⟨en, F, w, fun d hd v F1 H1 w1 s1 i1 => by
    cases hd
    cases i1
    refine ⟨s, rfl, k _ rfl _ F1 H1 w1 s1 ⟨fun i F2 H s1 s2 hi => ?_, fun i F2 H s1 s2 hi => ?_, fun i F2 H x H' s1 s2 hi y => ?_⟩⟩
    · show i < s.cps.size
      simpa [signs] using hi
    · show s.cps.size ≤ i
      simpa [signs] using hi
    · obtain ⟨e1, c, h1, e2⟩ := y
      subst e1 e2
      refine ⟨F2, dS ⟨#[c]⟩, Gr.refl s2, ?_, .v _⟩
      unfold signs
      rw [List.getElem?_map, Array.getElem?_toList, h1]
      rfl, fun _ z => nomatch z⟩
/-- lo, lo + 1, .. -/
def upto (lo : Int) (n : Nat) : List D := (List.range n).map fun (i : Nat) => dI (lo + (i : Int))
theorem itD_range {K : PySem.W.Frag} {lo : Int} {n : Nat} {F : Hp} : ItD K (Itr lo n) (upto lo n) F := by
  refine ⟨fun i F2 H s1 s2 hi => ?_, fun i F2 H s1 s2 hi => ?_, fun i F2 H x H' s1 s2 hi y => ?_⟩
  · show i < n
    simpa [upto] using hi
  · show n ≤ i
    simpa [upto] using hi
  · obtain ⟨e1, e2⟩ := y
    subst e1 e2
    refine ⟨F2, dI (lo + i), Gr.refl s2, ?_, .v _⟩
    have hi : i < n := by simpa [upto] using hi
    unfold upto
    rw [List.getElem?_map, List.getElem?_range hi]
    rfl
theorem di_range1 {j : Int} (hg : Gl X "range") (hm : X.mg "range" = none) (h : DE X E a ρ (.ok (dI j)) ρ1) (h1 : j ≤ 16000000) (h0 : -16000000 ≤ j) (hs : starEach [a] X.env = [(false, eval a X.env)] := by rfl) : DI X E tg (.Call (.Name "range" p) [a] [] pos) ρ (.ok (upto 0 j.toNat)) ρ1 :=
  PI.wk (pi_range1 hg hm (da_cons h da_nil hs) hs) fun σ H R ⟨en, F, w, k, _⟩ => ⟨en, F, w, fun ds hd vs F1 H1 w1 s1 i1 => by
    cases hd
    cases i1 with
    | cons h1 l =>
      cases l
      cases h1
      exact ⟨j, rfl, by omega, by omega, k _ rfl _ F1 H1 w1 s1 itD_range⟩, fun _ z => nomatch z⟩
/-- two tuples side by side -/
def zipD (xs ys : List D) : List D := (xs.zip ys).map fun p => .tup [p.1, p.2]
theorem sqT_inj {K : PySem.W.Frag} {F : Hp} {a : Addr} {vs ws : List V} (h : F a = some (.tup vs)) (h2 : SqT K F a ws) (hk : K.lookup a = none) : ws = vs := by
  rcases h2 with (h2 | ⟨o, h2⟩) | ⟨o, _, _, h3, _⟩
  · rw [h] at h2; cases h2; rfl
  · rw [h] at h2; cases h2
  · rw [hk] at h3; cases h3
/-! ### targets -/
def tDG (K : PySem.W.Frag) (ρ : List Sl) (d : D) (ρ' : List Sl) : TG := fun v σ H Q => ∃ e F, Wd K e F H σ ρ ∧ Is K F v d ∧ ∀ σ', Wd K e F H σ' ρ' → Q σ' H
def DG (X : Cx) (tg : Expr) (ρ : List Sl) (d : D) (ρ' : List Sl) : Prop := PG X tg (tDG X.K ρ d ρ')
def tDGs (K : PySem.W.Frag) (ρ : List Sl) (ds : List D) (ρ' : List Sl) : TGs := fun vs σ H Q => ∃ e F, Wd K e F H σ ρ ∧ IsL K F vs ds ∧ ∀ σ', Wd K e F H σ' ρ' → Q σ' H
def DGs (X : Cx) (ts : List Expr) (ρ : List Sl) (ds : List D) (ρ' : List Sl) : Prop := PGs X ts (tDGs X.K ρ ds ρ')
theorem PG.wk {t t' : TG} (h : PG X tg t) (q : ∀ v σ H Q, t' v σ H Q → t v σ H Q) : PG X tg t' := ⟨fun pins s σ H v u Q I r w => h.run pins s σ H v u Q I r (q v σ H Q w)⟩
theorem PGs.wk {t t' : TGs} (h : PGs X es t) (q : ∀ v σ H Q, t' v σ H Q → t v σ H Q) : PGs X es t' := ⟨fun pins s σ H v u Q I r w => h.run pins s σ H v u Q I r (q v σ H Q w)⟩
theorem dg_name {i : Nat} {n : Str} (hN : X.N.Nodup) (hi : X.N[i]? = some n) (hx : Loc X.env.scope n) (hl : i < ρ.length) (hf : X.fn n = true ∨ X.env.scope.names.lookup n = some .local := by first | exact .inl rfl | exact .inr rfl | assumption) : DG X (.Name n pos) ρ d (ρ.set i (.dat d)) :=
  PG.wk (pg_name hN hi hx hf) fun v σ H Q ⟨en, F, w, i1, k⟩ => k _ (w.set hl i1)
theorem dgs_nil : DGs X [] ρ [] ρ := PGs.wk pgs_nil fun vs σ H Q ⟨en, F, w, i1, k⟩ => by
  cases i1
  exact ⟨rfl, k σ w⟩
theorem dgs_cons (h1 : DG X e ρ d ρ1) (h2 : DGs X es ρ1 ds ρ2) (hs : (assignEach (e :: es) X.env).map (·.2) = assign e X.env :: (assignEach es X.env).map (·.2) := by rfl) : DGs X (e :: es) ρ (d :: ds) ρ2 :=
  PGs.wk (pgs_cons h1 h2 hs) fun vs σ H Q ⟨en, F, w, i1, k⟩ => by
    cases i1 with
    | @cons v vs d ds i1 i2 => exact ⟨v, vs, rfl, en, F, w, i1, fun σ1 w1 => ⟨en, F, w1, i2, k⟩⟩
theorem dg_tup {kk : Nat} (hc : X.calm = true) (h : DGs X es ρ ds ρ1) (hl : (assignEach es X.env).length = ds.length := by rfl) (hst : (assignEach es X.env).findIdx? (·.1) = none := by rfl) : DG X (.Tuple es kk pos) ρ (.tup ds) ρ1 :=
  PG.wk (pg_tup (n := ds.length) hc h hl hst) fun v σ H Q ⟨en, F, w, i1, k⟩ => by
    cases i1 with
    | @tup a vs ds ht il => exact ⟨a, vs, rfl, sqT_mono w.fh ht, il.length, en, F, w, il, k⟩
variable {R : Out → Prop} {body : List Stmt}
/-- targets = e -/
theorem ds_asg (h : DE X E e ρ (.ok d) ρ1) (hg : DG X tg ρ1 d ρ2) (k : R (.nx ρ2)) (hs : swapsWithSole [tg] e pos.line X.env = pure false := by rfl) (hw : swappedStores [tg] e X.env = pure none := by rfl) (h1 : (assignEach [tg] X.env).map (·.2) = [assign tg X.env] := by rfl) :
    DS X E (.Assign [tg] e pos) ρ R := PS.wk (ps_asg h hg hs hw h1) fun D σ H ⟨en, F, w, kk⟩ => ⟨en, F, w, fun d1 hd v F1 H1 w1 s1 i1 => by
    cases hd
    exact ⟨en, F1, w1, i1, fun σ' w' => kk.nx _ k σ' F1 H1 w' s1⟩, fun _ z => nomatch z⟩
theorem ds_asgE {z : Er} {t : TG} (h : DE X E e ρ (.error z) ρ1) (k : R (.rz z)) (hg : PG X tg t) (hs : swapsWithSole [tg] e pos.line X.env = pure false := by rfl) (hw : swappedStores [tg] e X.env = pure none := by rfl) (h1 : (assignEach [tg] X.env).map (·.2) = [assign tg X.env] := by rfl) :
    DS X E (.Assign [tg] e pos) ρ R := PS.wk (ps_asg h hg hs hw h1) fun D σ H ⟨en, F, w, kk⟩ => ⟨en, F, w, fun d1 hd => (by cases hd), fun y hy F1 H1 ρ'' w1 => by
    cases hy
    exact kk.rz z k σ F1 H1 ρ'' w1⟩
/-! ### for -/
theorem ds_for (po : PassesOwn (model X.prog X.w) X.A X.env X.xe) (hc : X.calm = true) (hi : DI X E tg iter ρ (.ok ds) ρ1) (I : Nat → List Sl → Prop) (h0 : I 0 ρ1)
    (hs : ∀ i ρ d, I i ρ → ds[i]? = some d → ∃ ρa, DG X tg ρ d ρa ∧ DSs X E body ρa (fun o => match o with | .nx ρ' => I (i + 1) ρ' | .ct ρ' => I (i + 1) ρ' | .bk ρ' => R (.nx ρ') | .rt d ρ' => R (.rt d ρ') | .rz x => R (.rz x) | .ro ds => R (.ro ds)))
    (hd : ∀ ρ, I ds.length ρ → R (.nx ρ)) (hf : ∀ x, foldedSetIterable iter X.env x = pure x := by intro _; rfl) : DS X E (.For tg iter body [] pos) ρ R := by
  have g : PG X tg (fun v σ H Q => ∃ ρ d ρ', DG X tg ρ d ρ' ∧ tDG X.K ρ d ρ' v σ H Q) := ⟨fun pins s σ H v u Q I r ⟨ρ, d, ρ', h, w⟩ => h.run pins s σ H v u Q I r w⟩
  refine PS.wk (ps_for po hc hi g (any_rest (E := E)) hf) fun D σ H ⟨en, F, w, kk⟩ => ⟨en, F, w, fun ds1 hd1 J F1 H1 w1 s1 it => ?_, fun _ z => nomatch z⟩
  cases hd1
  refine ⟨fun i m σ H => m = ds.length - i ∧ i ≤ ds.length ∧ ∃ ρ F', I i ρ ∧ Wd X.K en F' H σ ρ ∧ Same F1 F', ⟨ds.length, by omega, by omega, ρ1, F1, h0, w1, Same.refl _⟩, ?_⟩
  rintro i m σ2 H2 ⟨rfl, hle, ρ2, F2, hI, w2, s2⟩
  by_cases hlt : i < ds.length
  · refine .inr ⟨it.go i F2 H2 s2 w2.fh hlt, fun σ H => ∃ ρ F', I (i + 1) ρ ∧ Wd X.K en F' H σ ρ ∧ Same F1 F', fun σ' H' ⟨ρ', F', h1, h2, h3⟩ => ⟨ds.length - (i + 1), by omega, rfl, hlt, ρ', F', h1, h2, h3⟩, fun x H' y => ?_⟩
    obtain ⟨F3, d, g3, hd3, i3⟩ := it.yld i F2 H2 x H' s2 w2.fh hlt y
    obtain ⟨ρa, hg, hb⟩ := hs i ρ2 d hI hd3
    have w3 := w2.grow g3
    refine ⟨ρ2, d, ρa, hg, en, F3, w3, i3, fun σ' w' => ⟨ρa, _, hb, en, F3, w', ?_⟩⟩
    have k3 := kk.shift (s1.trans (s2.trans g3.ff))
    exact ⟨fun ρ' q σ' F' H' w s' => ⟨ρ', F', q, w, s2.trans (g3.ff.trans s')⟩, fun d ρ' q => k3.rt d ρ' q, fun ρ' q => k3.nx ρ' q, fun ρ' q σ' F' H' w s' => ⟨ρ', F', q, w, s2.trans (g3.ff.trans s')⟩, fun x q => k3.rz x q, fun ds q => k3.ro ds q⟩
  · have e : i = ds.length := by omega
    subst e
    exact .inl ⟨it.stop _ F2 H2 s2 w2.fh (Nat.le_refl _), kk.nx ρ2 (hd ρ2 hI) σ2 F2 H2 w2 (s1.trans s2)⟩
/-- own.append(e) -/
theorem ds_app {i : Nat} {n : Str} {bb b2 : Bool} {xs ys : List D} {pn apos cpos : Pos} (hN : X.N[i]? = some n) (hv : Vis X.env.scope n) (ho : ρ[i]? = some (.own b2 ys)) (h : DE X E e ρ (.ok d) ρ1) (hi : ρ1[i]? = some (.own bb xs)) (hz : xs.length ≤ 16000000) (k : R (.nx (ρ1.set i (.own bb (xs ++ [d])))))
    (hd : (n == ("__debug__" : Str)) = false := by decide) (hcd : (n == ("__classdict__" : Str)) = false := by decide)
    (hbase : attributeBase (.Name n pn) "append" X.env (eval (.Name n pn) X.env) = eval (.Name n pn) X.env := by rfl) (hfew : ((backTo cpos (starEach [e] X.env)).all (fun x => !x.1) && (backToKw cpos (keywordEach [] X.env)).all (fun x => x.1.isSome)
      && decide (([e] : List Expr).length + ([] : List Keyword).length + (if ([] : List Keyword).isEmpty then 0 else 1) < 30)) = true := by rfl)
    (hline : (apos.endLine == cpos.line) = true := by rfl) (hs : starEach [e] X.env = (false, eval e X.env) :: starEach [] X.env := by rfl) (hplain : (backTo cpos (starEach [] X.env)).any (·.1) = false := by rfl)
    (hsw : swapsWith (.Call (.Attribute (.Name n pn) "append" apos) [e] [] cpos) none pos.line X.env = pure false := by rfl) : DS X E (.Expr (.Call (.Attribute (.Name n pn) "append" apos) [e] [] cpos) pos) ρ R :=
  PS.wk (ps_expr (pe_bm PySem.F.plainAttrs_list PySem.F.slot_list_append PySem.F.type_list_append mt_append (pe_var hN hv hd hcd) (da_cons h da_nil hs) hbase hfew hline hs hplain) hsw) fun D σ H ⟨en, F, w, kk⟩ => by
  obtain ⟨l0, vs0, q1, q2, q3, _⟩ := w.own i b2 ys ho
  refine ⟨.ref l0, q1, .inl ⟨rfl, vs0, SqL.of q3⟩, en, F, w, fun ds hd vs F1 H1 w1 s1 i1 => ?_, fun _ z => nomatch z⟩
  cases hd
  cases i1 with
  | @cons v vs d ds i1 i2 =>
    cases i2
    obtain ⟨l, vs1, p1, p2, p3, p4, p5⟩ := w1.own i bb xs hi
    rw [q1] at p1
    cases p1
    refine ⟨l0, vs1, v, rfl, rfl, p3, by rw [p4.length]; exact Nat.lt_of_le_of_lt hz (by decide), ?_⟩
    exact kk.nx _ k σ F1 _ (w1.write hi q1 (p4.append (.cons i1 .nil))) s1
/-- own[j] = e -/
theorem ds_setItem {i : Nat} {n : Str} {bb : Bool} {xs : List D} {j : Int} {jj : Nat} {pn ps : Pos} {ix : Expr} (hN : X.N[i]? = some n) (hv : Vis X.env.scope n) (h : DE X E e ρ (.ok d) ρ1) (hi : ρ1[i]? = some (.own bb xs)) (hx : DE X E ix ρ1 (.ok (dI j)) ρ1) (hj : ixN xs.length j = some jj) (k : R (.nx (ρ1.set i (.own bb (xs.set jj d)))))
    (hd : (n == ("__debug__" : Str)) = false := by decide) (hcd : (n == ("__classdict__" : Str)) = false := by decide)
    (ha : ∀ v, assign (.Subscript (.Name n pn) ix ps) X.env v = (do
      let ov ← holding [v] (eval (.Name n pn) X.env)
      let iv ← holding [v, ov] (eval ix X.env)
      standAt ps
      holding [v, ov, iv] (setItem ov iv v)
      release [v, ov, iv] []) := by intro _; rfl)
    (hs : swapsWithSole [.Subscript (.Name n pn) ix ps] e pos.line X.env = pure false := by rfl) (hw : swappedStores [.Subscript (.Name n pn) ix ps] e X.env = pure none := by rfl) (h1 : (assignEach [.Subscript (.Name n pn) ix ps] X.env).map (·.2) = [assign (.Subscript (.Name n pn) ix ps) X.env] := by rfl) :
    DS X E (.Assign [.Subscript (.Name n pn) ix ps] e pos) ρ R := PS.wk (ps_asg h (pg_sub (pe_var hN hv hd hcd) hx set_list ha) hs hw h1) fun D σ H ⟨en, F, w, kk⟩ => ⟨en, F, w, fun d1 hd v F1 H1 w1 s1 i1 => by
    cases hd
    obtain ⟨l, vs1, p1, p2, p3, p4, p5⟩ := w1.own i bb xs hi
    refine ⟨.ref l, p1, en, F1, w1, fun d2 hd2 v2 F2 H2 w2 s2 i2 => ?_, fun _ z => nomatch z⟩
    cases hd2
    cases i2
    obtain ⟨l', vs2, t1, t2, t3, t4, t5⟩ := w2.own i bb xs hi
    rw [p1] at t1
    cases t1
    exact ⟨l, vs2, j, jj, rfl, rfl, t3, by rw [t4.length]; exact hj, kk.nx _ k σ F2 _ (w2.write hi p1 (t4.set jj (i1.mono s2))) (s1.trans s2)⟩, fun _ z => nomatch z⟩
/-- a, b = x, y -/
theorem ds_par {i j : Nat} {m n : Str} {px py pt pt2 : Pos} {kt k2 : Nat} {d1 d2 : D} (hc : X.calm = true) (hN : X.N.Nodup) (hi : X.N[i]? = some m) (hj : X.N[j]? = some n) (hij : i ≠ j) (hx : X.env.scope.names.lookup m = some .local) (hy : X.env.scope.names.lookup n = some .local) (ha : DA X E [a, b] ρ (.ok [d1, d2]) ρ1)
    (hl : i < ρ1.length) (hl2 : j < ρ1.length) (k : R (.nx ((ρ1.set i (.dat d1)).set j (.dat d2)))) (hw : swappedStores [.Tuple [.Name m px, .Name n py] kt pt] (.Tuple [a, b] k2 pt2) X.env = pure (some [m, n]))
    (hs : swapsWithSole [.Tuple [.Name m px, .Name n py] kt pt] (.Tuple [a, b] k2 pt2) pos.line X.env = pure false := by rfl) : DS X E (.Assign [.Tuple [.Name m px, .Name n py] kt pt] (.Tuple [a, b] k2 pt2) pos) ρ R :=
  PS.wk (ps_par hc hN hi hj hij hx hy ha hw hs) fun D σ H ⟨en, F, w, kk⟩ => ⟨en, F, w, fun ds hd vs F1 H1 w1 s1 i1 => by
    cases hd
    cases i1 with
    | cons i1 i2 =>
      cases i2 with
      | cons i2 i3 =>
        cases i3
        exact ⟨_, _, rfl, kk.nx _ k _ F1 H1 ((w1.set hl i1).set (by simpa using hl2) i2) s1⟩, fun _ z => nomatch z⟩
/-- raise C('..') -/
theorem ds_raise {p3 : Pos} {k : Nat} {C : Addr} {bmB : List Value} {B newId initId : String} {n m : Str} {j : Nat} {p2 : Pos} (CC : Ct X E k) (Fx : ExcBaseFacts B newId initId bmB) (q : PySem.W.excIn X.K C bmB newId = true) (gC : X.mg n = some (.ref C)) (kC : PySem.W.keepIn X.K (.ref C) = true) (rr : Raises X (.ref C)) (hg : Gl X n)
    (kz : R (.rz ⟨.ref C, none⟩)) (hdb : (n == ("__debug__" : Str)) = false := by decide) : DS X E (.Raise (some (.Call (.Name n p) [.Constant (.str m) j p2] [] p3)) none pos) ρ R :=
  PS.wk (ps_raise CC.calm CC.tk (pmk_own Fx q gC kC rr hg hdb)) fun D σ H ⟨en, F, w, kk⟩ => kk.rz _ kz σ F H ρ w
end
end Kd
set_option Elab.async false
set_option linter.all false
set_option maxRecDepth 100000
set_option maxHeartbeats 2000000
/-! comprehensions, enumerate over a text, zip of tuples, written texts with fields -/
namespace Kd
open PySem PySem.Spec PyProof.Rows L2
variable [LT]

/-! ### into a block and out of it -/
def lend1 : Sl → Sl
  | .own _ ds => .own true ds
  | s => s
def lend (ρ : List Sl) : List Sl := ρ.map lend1
def wipeR (ρ : List Sl) : List Nat → List Sl
  | [] => ρ
  | v :: vs => (wipeR ρ vs).set v .no
theorem lend_dat {ρ : List Sl} {i : Nat} {d : D} (h : (lend ρ)[i]? = some (.dat d)) : ρ[i]? = some (.dat d) := by
  unfold lend at h
  rw [List.getElem?_map] at h
  cases q : ρ[i]? with
  | none => rw [q] at h; cases h
  | some s =>
    rw [q] at h
    cases s <;> simp [lend1] at h
    rw [h]
theorem lend_own {ρ : List Sl} {i : Nat} {b : Bool} {ds : List D} (h : (lend ρ)[i]? = some (.own b ds)) : b = true ∧ ∃ c, ρ[i]? = some (.own c ds) := by
  unfold lend at h
  rw [List.getElem?_map] at h
  cases q : ρ[i]? with
  | none => rw [q] at h; cases h
  | some s =>
    rw [q] at h
    cases s <;> simp [lend1] at h
    exact ⟨h.1, _, by rw [h.2]⟩
/-- the entry of a block's turn: all own lists are lent to it -/
def entr (e : En) (F H : Hp) (σ : L2.St) (ρ : List Sl) : En := ⟨fun a => e.O a ∨ ∃ (i : Nat) (b : Bool) (ds : List D), ρ[i]? = some (.own b ds) ∧ σ[i]? = some (some (.ref a)), F, stripH H⟩
section
variable {K : PySem.W.Frag} {e : En} {F H F' H' : Hp} {σ σ' : L2.St} {ρ ρ' : List Sl} {i : Nat} {d : D} {v : V} {ds : List D}
theorem Wd.enter (w : Wd K e F H σ ρ) : Wd K (entr e F H σ ρ) F H σ (lend ρ) := by
  refine ⟨Same.refl F, w.fh, fun b o _ _ q => strip_some q, fun a h _ => h, fun a ha => ?_, w.nt, w.tb, strip_nt, by simp [lend, w.len], fun i d q => w.dat i d (lend_dat q), fun i b ds q => ?_, fun i j b c ds es a ne h1 h2 h3 => ?_⟩
  · rcases ha with ha | ⟨i, b, ds, h1, h2⟩
    · exact w.ol a ha
    · obtain ⟨a', vs, q1, _, q3, _⟩ := w.own i b ds h1
      rw [h2] at q1
      cases q1
      exact ⟨vs, q3⟩
  · obtain ⟨rfl, c, q⟩ := lend_own q
    obtain ⟨a, vs, q1, q2, q3, q4, q5⟩ := w.own i c ds q
    exact ⟨a, vs, q1, q2, q3, q4, .inr ⟨i, c, ds, q, q1⟩⟩
  · obtain ⟨_, c1, h1⟩ := lend_own h1
    obtain ⟨_, c2, h2⟩ := lend_own h2
    exact w.dis i j c1 c2 ds es a ne h1 h2 h3
theorem Wd.wipe1 (w : Wd K e F H σ ρ) : Wd K e F H (σ.set i none) (ρ.set i .no) := by
  have own2 : ∀ {j : Nat} {x : Sl}, x ≠ .no → (ρ.set i .no)[j]? = some x → ρ[j]? = some x ∧ (σ.set i none)[j]? = σ[j]? := fun {j x} n q => by
    rcases set_get q with ⟨rfl, e1⟩ | ⟨ne, q⟩
    · exact absurd e1 n
    · exact ⟨q, List.getElem?_set_ne (Ne.symm ne)⟩
  refine ⟨w.ff, w.fh, w.hh, w.fr, w.ol, w.nt, w.tb, w.es, by simp [w.len], fun j x q => ?_, fun j b es q => ?_, fun j k b c ds es a ne h1 h2 h3 h4 => ?_⟩
  · obtain ⟨q1, q2⟩ := own2 (by simp) q
    rw [q2]
    exact w.dat j x q1
  · obtain ⟨q1, q2⟩ := own2 (by simp) q
    rw [q2]
    exact w.own j b es q1
  · obtain ⟨q1, q2⟩ := own2 (by simp) h1
    obtain ⟨q3, q4⟩ := own2 (by simp) h2
    rw [q2] at h3
    rw [q4] at h4
    exact w.dis j k b c ds es a ne q1 q3 h3 h4
theorem Wd.wipe (w : Wd K e F H σ ρ) : ∀ vs : List Nat, Wd K e F H (wipe σ vs) (wipeR ρ vs)
  | [] => w
  | v :: vs => (Wd.wipe w vs).wipe1
/-- what a turn has changed -/
structure Back (vs : List Nat) (ρ ρ' ρt : List Sl) : Prop where
  len : ρ'.length = ρ.length
  dat : ∀ (i : Nat) d, ρ'[i]? = some (.dat d) → ρ[i]? = some (.dat d)
  own : ∀ (i : Nat) b ds, ρ'[i]? = some (.own b ds) → ∃ ds0, ρ[i]? = some (.own b ds0) ∧ ((ds0 = ds ∧ i ∈ vs) ∨ (i ∉ vs ∧ ρt[i]? = some (.own true ds)))
theorem wipe_out2 {σ : L2.St} : ∀ {vs : List Nat} {j : Nat}, j ∉ vs → (wipe σ vs)[j]? = σ[j]?
  | [], _, _ => rfl
  | v :: vs, j, h => by
    unfold L2.wipe
    rw [List.getElem?_set_ne (fun e => h (by rw [e]; exact List.mem_cons_self))]
    exact wipe_out2 fun m => h (List.mem_cons_of_mem _ m)
theorem Wd.leave {σt : L2.St} {ρt : List Sl} {vs : List Nat} (w : Wd K e F H σ ρ) (w' : Wd K (entr e F H σ ρ) F' H' σt ρt) (hσ : ∀ i : Nat, i ∉ vs → σt[i]? = σ[i]?) (hk : ∀ (i : Nat) b ds, i ∈ vs → ρ[i]? = some (.own b ds) → False) (b : Back vs ρ ρ' ρt) : Wd K e F' H' σ ρ' := by
  have O2 : ∀ b, ¬ e.O b → e.H b ≠ none → ¬ (entr e F H σ ρ).O b := fun b h1 h2 h3 => by
    rcases h3 with h3 | ⟨i, c, ds, q1, q2⟩
    · exact h1 h3
    · obtain ⟨a, vs, p1, p2, p3, p4, p5⟩ := w.own i c ds q1
      rw [q2] at p1
      cases p1
      cases c with
      | true => exact h1 p5
      | false => exact h2 p5
  refine ⟨w.ff.trans w'.ff, w'.fh, fun b o hb hn q => w'.hh b o (O2 b hb (by rw [q]; simp)) hn (strip_of (w.hh b o hb hn q) hn), fun a h1 h2 => ?_, fun a ha => w'.ol a (.inl ha), w'.nt, w'.tb, w.es, by rw [b.len]; exact w.len, fun i d q => ?_, fun i c ds q => ?_, fun i j c1 c2 ds es a ne h1 h2 h3 h4 => ?_⟩
  · cases q : e.H a with
    | none => exact absurd q h2
    | some o =>
      obtain ⟨u, n, h⟩ := w.had q
      exact w'.fr a (w.fr a h1 h2) (by show stripH H a ≠ none; rw [strip_of h n]; simp)
  · obtain ⟨v, q1, q2⟩ := w.dat i d (b.dat i d q)
    exact ⟨v, q1, q2.mono w'.ff⟩
  · obtain ⟨ds0, q1, q2⟩ := b.own i c ds q
    obtain ⟨a, vs0, p1, p2, p3, p4, p5⟩ := w.own i c ds0 q1
    rcases q2 with ⟨_, hm⟩ | ⟨hn, q2⟩
    · exact (hk i c ds0 hm q1).elim
    · obtain ⟨a', ws, t1, t2, t3, t4, _⟩ := w'.own i true ds q2
      rw [hσ i hn, p1] at t1
      cases t1
      exact ⟨a, ws, p1, t2, t3, t4, p5⟩
  · obtain ⟨ds0, q1, _⟩ := b.own i c1 ds h1
    obtain ⟨es0, q2, _⟩ := b.own j c2 es h2
    exact w.dis i j c1 c2 ds0 es0 a ne q1 q2 h3 h4
theorem Wd.loose {p : Addr} {vs0 vs1 : List V} (w : Wd K e F H σ ρ) (h1 : F p = none) (h2 : e.H p = none) (h0 : H p = some (.lst vs0)) (h3 : ∀ (j : Nat) b es, ρ[j]? = some (.own b es) → σ[j]? ≠ some (some (.ref p))) : Wd K e F (upd H p (.lst vs1)) σ ρ := by
  have up : ∀ b o, H b = some o → (∀ xs, o ≠ .lst xs) → upd H p (.lst vs1) b = some o := fun b o q n => by
    rw [upd_ne (fun z => by rw [z, h0] at q; exact n vs0 (Option.some.inj q).symm)]
    exact q
  refine ⟨w.ff, fun b u q => ?_, fun b u hb hn q => ?_, w.fr, fun a ha => ?_, w.nt, tabs_keep w.tb up, w.es, w.len, w.dat, fun i b ds q => ?_, w.dis⟩
  · rw [upd_ne (ne_of_none q h1)]
    exact w.fh b u q
  · rw [upd_ne (ne_of_none q h2)]
    exact w.hh b u hb hn q
  · by_cases z : a = p
    · rw [z, upd_same]; exact ⟨_, rfl⟩
    · rw [upd_ne z]; exact w.ol a ha
  · obtain ⟨a, vs, q1, q2, q3, q4, q5⟩ := w.own i b ds q
    have ne : a ≠ p := fun z => h3 i b ds q (by rw [q1, z])
    exact ⟨a, vs, q1, q2, by rw [upd_ne ne]; exact q3, q4, q5⟩
theorem Wd.freezeAt {p : Addr} {o : HO} (no : ∀ ps, o ≠ .tbl ps) (w : Wd K e F H σ ρ) (h1 : F p = none) (h2 : e.H p = none) (ho : H p = some o) (h3 : ∀ (j : Nat) b es, ρ[j]? = some (.own b es) → σ[j]? ≠ some (some (.ref p))) : Wd K e (upd F p o) H σ ρ ∧ Same F (upd F p o) := by
  have sm : Same F (upd F p o) := same_new h1
  refine ⟨⟨w.ff.trans sm, fun b u q => ?_, w.hh, fun a q1 q2 => ?_, w.ol, fun a ps q => w.nt a ps (nt_new no a ps q), w.tb, w.es, w.len, fun i d q => ?_, fun i b ds q => ?_, w.dis⟩, sm⟩
  · by_cases z : b = p
    · rw [z, upd_same] at q
      cases q
      rw [z]; exact ho
    · rw [upd_ne z] at q
      exact w.fh b u q
  · have ne : a ≠ p := fun z => q2 (by rw [z]; exact h2)
    rw [upd_ne ne]
    exact w.fr a q1 q2
  · obtain ⟨v, q1, q2⟩ := w.dat i d q
    exact ⟨v, q1, q2.mono sm⟩
  · obtain ⟨a, vs, q1, q2, q3, q4, q5⟩ := w.own i b ds q
    have ne : a ≠ p := fun z => h3 i b ds q (by rw [q1, z])
    exact ⟨a, vs, q1, by rw [upd_ne ne]; exact q2, q3, q4.mono sm, q5⟩
end

/-! ### comprehensions -/
/-- the target of a turn: st tells the slots behind it -/
def TgOk (K : PySem.W.Frag) (g : TG) (vs : List Nat) (st : D → List Sl → List Sl) (ok : D → Prop) : Prop := ∀ (x : V) (d : D) (F H : Hp) (σ : L2.St) (n : Nat) (Q : L2.St → Hp → Prop), ok d → Is K F x d → Same F H → σ.length = n →
  (∀ σ2, wipe σ2 vs = wipe σ vs → (∀ i : Nat, i ∉ vs → σ2[i]? = σ[i]?) → (∀ e ρ, Wd K e F H (wipe σ vs) (wipeR ρ vs) → Wd K e F H σ2 (st d ρ)) → Q σ2 H) → g x (wipe σ vs) H Q
theorem set_none_set {σ : L2.St} {j : Nat} {x : Option V} : ((σ.set j none).set j x).set j none = σ.set j none := by rw [List.set_set, List.set_set]
def st1 (j : Nat) (d : D) (ρ : List Sl) : List Sl := (wipeR ρ [j]).set j (.dat d)
theorem tg_name {K : PySem.W.Frag} {j n : Nat} (hj : j < n) : TgOk K (gName j) [j] (st1 j) (fun _ => True) ∧ True := ⟨fun x d F H σ m Q _ hi sm hl k => by
  refine k _ ?_ (fun i hi => ?_) fun e ρ w => ?_
  · exact set_none_set
  · have ne : i ≠ j := by simpa using hi
    rw [List.getElem?_set_ne (Ne.symm ne), wipe_out2 (by simpa using ne)]
  · by_cases hj : j < (wipeR ρ [j]).length
    · exact w.set hj hi
    · have h1 : (wipe σ [j]).set j (some x) = wipe σ [j] := List.set_eq_of_length_le (by rw [w.len]; omega)
      have h2 : st1 j d ρ = wipeR ρ [j] := List.set_eq_of_length_le (by omega)
      rw [h1, h2]
      exact w, trivial⟩
def st2 (i j : Nat) (d : D) (ρ : List Sl) : List Sl := match d with
  | .tup [a, b] => ((wipeR ρ [i, j]).set i (.dat a)).set j (.dat b)
  | _ => wipeR ρ [i, j]
theorem tg_pair {K : PySem.W.Frag} {i j : Nat} (hij : i ≠ j) : TgOk K (gTup K 2 (gCons (gName i) (gCons (gName j) gNil))) [i, j] (st2 i j) (fun d => ∃ a b, d = .tup [a, b]) := fun x d F H σ m Q hd hi sm hl k => by
  obtain ⟨a, b, rfl⟩ := hd
  cases hi with
  | @tup p vs ds ht il =>
    cases il with
    | @cons v1 vs d1 ds i1 il =>
      cases il with
      | @cons v2 vs d2 ds i2 il =>
        cases il
        refine ⟨p, [v1, v2], rfl, sqT_mono sm ht, rfl, v1, [v2], rfl, v2, [], rfl, rfl, ?_⟩
        refine k _ ?_ (fun q hq => ?_) fun e ρ w => ?_
        · show ((((σ.set j none).set i none).set i (some v1)).set j (some v2) |>.set j none).set i none = (σ.set j none).set i none
          simp only [List.set_set, List.set_comm _ _ hij]
        · have n1 : q ≠ i := fun z => hq (by simp [z])
          have n2 : q ≠ j := fun z => hq (by simp [z])
          rw [List.getElem?_set_ne (Ne.symm n2), List.getElem?_set_ne (Ne.symm n1), wipe_out2 hq]
        · have setW : ∀ {ρ : List Sl} {σ : L2.St} {n : Nat} {v : V} {d : D}, Wd K e F H σ ρ → Is K F v d → Wd K e F H (σ.set n (some v)) (ρ.set n (.dat d)) := fun {ρ σ n v d} w hi => by
            by_cases hn : n < ρ.length
            · exact w.set hn hi
            · rw [List.set_eq_of_length_le (by rw [w.len]; omega), List.set_eq_of_length_le (by omega)]
              exact w
          exact setW (setW w i1) i2
theorem tlc_of {X : Cx} {E : XK} {own : List (Str × Nat)} {g : TG} {ρ ρ1 ρf : List Sl} {ds : List D} {r : Res} {st : D → List Sl → List Sl} {ok : D → Prop} (tg1 : TgOk X.K g (own.map (·.2)) st ok) (hok : ∀ d ∈ ds, ok d) (hst : ∀ d ρ (i : Nat), i ∉ own.map (·.2) → (st d ρ)[i]? = ρ[i]?)
    (hown : ∀ (i : Nat) b es, i ∈ own.map (·.2) → ρ1[i]? = some (.own b es) → False) (hlen : ds.length ≤ 16000000)
    (I : Nat → List D → List Sl → Prop) (h0 : I 0 [] ρ1) (hI : ∀ i acc ρ', I i acc ρ' → (∀ (j : Nat) b es, j ∈ own.map (·.2) → ρ'[j]? = some (.own b es) → False))
    (tb : List Sl → Bool → Prop) (el : List Sl → Res → List Sl → Prop)
    (step : ∀ i acc ρ' d, I i acc ρ' → ds[i]? = some d → acc.length ≤ i → ∃ b, tb (st d (lend ρ')) b ∧ (b = false → I (i + 1) acc ρ') ∧ (b = true → ∃ y ρt', el (st d (lend ρ')) y ρt' ∧ (∀ z, y = .ok z → ∃ ρ2, I (i + 1) (acc ++ [z]) ρ2 ∧ Back (own.map (·.2)) ρ' ρ2 ρt') ∧ (∀ x, y = .error x → r = .error x)))
    (hd : ∀ acc ρ', I ds.length acc ρ' → r = .ok (.lst acc) ∧ ρ' = ρf) {σ : L2.St} {H : Hp} {Q : VK} (hq : tD X.K E ρ r ρf σ H Q) :
    tLc (tDI X.K E ρ (.ok ds) ρ1) g (fun σ H Q => ∃ ρt b, tb ρt b ∧ tDT X.K E ρt (.ok b) ρt σ H Q) (fun σ H Q => ∃ ρt y ρt', el ρt y ρt' ∧ tD X.K E ρt y ρt' σ H Q) (own.map (·.2)) σ H Q := by
  obtain ⟨en, F, w, kk, k2⟩ := hq
  refine ⟨en, F, w, fun ds1 hd1 J F1 H1 w1 s1 it => ?_, fun _ z => nomatch z⟩
  cases hd1
  intro Dn hDn
  have FD : F1 Dn = none := w1.fh.free hDn
  refine ⟨fun i m H => m = ds.length - i ∧ i ≤ ds.length ∧ ∃ acc ρ' F' vs, I i acc ρ' ∧ Wd X.K en F' H σ ρ' ∧ Same F1 F' ∧ F' Dn = none ∧ H Dn = some (.lst vs) ∧ IsL X.K F' vs acc ∧ acc.length ≤ i ∧ en.H Dn = none ∧ ¬ en.O Dn ∧ (∀ (j : Nat) b es, ρ'[j]? = some (.own b es) → σ[j]? ≠ some (some (.ref Dn))), ⟨ds.length, by omega, by omega, [], ρ1, F1, [], h0, w1.grow (Gr.loose w1.fh hDn), Same.refl _, FD, upd_same, .nil, Nat.le_refl _, w1.eNone hDn, fun z => w1.oh Dn z hDn, fun j b es q z => ?_⟩, ?_⟩
  · obtain ⟨a, vs', q1, _, q3, _⟩ := w1.own j b es q
    rw [z] at q1
    cases q1
    rw [hDn] at q3
    cases q3
  rintro i m H2 ⟨rfl, hle, acc, ρ2, F2, vs2, hI2, w2, s2, fd2, hd2, il2, hacc, eD, oD, nD⟩
  by_cases hlt : i < ds.length
  · refine .inr ⟨it.go i F2 H2 s2 w2.fh hlt, fun H => ∃ acc ρ' F' vs, I (i + 1) acc ρ' ∧ Wd X.K en F' H σ ρ' ∧ Same F1 F' ∧ F' Dn = none ∧ H Dn = some (.lst vs) ∧ IsL X.K F' vs acc ∧ acc.length ≤ i + 1 ∧ (∀ (j : Nat) b es, ρ'[j]? = some (.own b es) → σ[j]? ≠ some (some (.ref Dn))), fun H' ⟨acc', ρ', F', vs', h1, h2, h3, h4, h5, h6, h7, h8⟩ => ⟨ds.length - (i + 1), by omega, rfl, hlt, acc', ρ', F', vs', h1, h2, h3, h4, h5, h6, h7, eD, oD, h8⟩, fun x H3 y => ?_⟩
    obtain ⟨F3, d, g3, hd3, i3⟩ := it.yld i F2 H2 x H3 s2 w2.fh hlt y
    have w3 := w2.grow g3
    have fd3 : F3 Dn = none := g3.fr Dn (.lst vs2) (nofun) fd2 hd2
    have hd3' : H3 Dn = some (.lst vs2) := g3.hh _ _ hd2 (nofun)
    have il3 := il2.mono g3.ff
    have s3 := s2.trans g3.ff
    obtain ⟨b, htb, hf, htt⟩ := step i acc ρ2 d hI2 hd3 hacc
    have hk3 := hI i acc ρ2 hI2
    refine tg1 x d F3 H3 σ σ.length _ (hok d (List.mem_of_getElem? hd3)) i3 w3.fh rfl fun σ2 e2 o2 st2 => ⟨e2, ?_⟩
    -- the turn's own entry
    have wt : Wd X.K (entr en F3 H3 σ ρ2) F3 H3 σ2 (st d (lend ρ2)) := st2 _ _ (w3.enter.wipe _)
    have nO : ¬ (entr en F3 H3 σ ρ2).O Dn := fun z => by
      rcases z with z | ⟨j, c, es, q1, q2⟩
      · exact oD z
      · exact nD j c es q1 q2
    refine ⟨st d (lend ρ2), b, htb, entr en F3 H3 σ ρ2, F3, wt, fun b1 hb1 F4 H4 w4 s4 => ?_, fun _ z => nomatch z⟩
    cases hb1
    have fd4 : F4 Dn = none := w4.fr Dn fd3 (by show stripH H3 Dn ≠ none; rw [strip_of hd3' (nofun)]; simp)
    have hd4 : H4 Dn = some (.lst vs2) := w4.hh Dn _ nO (nofun) (strip_of hd3' (nofun))
    have lended : ∀ (j : Nat) c es, ρ2[j]? = some (.own c es) → (lend ρ2)[j]? = some (.own true es) := fun j c es q => by
      unfold lend
      rw [List.getElem?_map, q]
      rfl
    cases b with
    | false =>
      rw [if_neg Bool.false_ne_true]
      have bk : Back (own.map (·.2)) ρ2 ρ2 (st d (lend ρ2)) := ⟨rfl, fun _ _ q => q, fun j c es q => ⟨es, q, .inr ⟨fun hm => hk3 j c es hm q, by rw [hst _ _ _ fun hm => hk3 j c es hm q]; exact lended j c es q⟩⟩⟩
      exact ⟨acc, ρ2, F4, vs2, hf rfl, w3.leave w4 o2 hk3 bk, s3.trans s4, fd4, hd4, il3.mono s4, Nat.le_succ_of_le hacc, nD⟩
    | true =>
      rw [if_pos rfl]
      obtain ⟨y, ρt', hel, hok1, her⟩ := htt rfl
      refine ⟨st d (lend ρ2), y, ρt', hel, entr en F3 H3 σ ρ2, F4, w4, fun z hz v F5 H5 w5 s5 i5 => ?_, fun x hx F5 H5 ρ'' w5 => ?_⟩
      · have fd5 : F5 Dn = none := w5.fr Dn fd3 (by show stripH H3 Dn ≠ none; rw [strip_of hd3' (nofun)]; simp)
        have hd5 : H5 Dn = some (.lst vs2) := w5.hh Dn _ nO (nofun) (strip_of hd3' (nofun))
        obtain ⟨ρ5, hI5, bk⟩ := hok1 z hz
        have w6 := w3.leave w5 o2 hk3 bk
        have nD5 : ∀ (j : Nat) b es, ρ5[j]? = some (.own b es) → σ[j]? ≠ some (some (.ref Dn)) := fun j b es q => by
          obtain ⟨es0, q0, _⟩ := bk.own j b es q
          exact nD j b es0 q0
        refine ⟨vs2, hd5, ?_, acc ++ [z], ρ5, F5, vs2 ++ [v], hI5, w6.loose fd5 eD hd5 nD5, s3.trans (s4.trans s5), fd5, upd_same, (il3.mono (s4.trans s5)).append (.cons i5 .nil), by rw [List.length_append]; exact Nat.succ_le_succ hacc, nD5⟩
        rw [il3.length]
        exact Nat.lt_of_le_of_lt (Nat.le_trans hacc (Nat.le_trans (Nat.le_of_lt hlt) hlen)) (by decide)
      · refine k2 x (her x hx) F5 H5 (List.replicate ρ2.length .no) (w3.leave (vs := own.map (·.2)) w5 o2 hk3 ⟨by simp, fun j dd q => ?_, fun j b es q => ?_⟩)
        · obtain ⟨_, z⟩ := List.getElem?_eq_some_iff.mp q
          rw [List.getElem_replicate] at z
          cases z
        · obtain ⟨_, z⟩ := List.getElem?_eq_some_iff.mp q
          rw [List.getElem_replicate] at z
          cases z
  · have e : i = ds.length := by omega
    subst e
    obtain ⟨hr, rfl⟩ := hd acc ρ2 hI2
    refine .inl ⟨it.stop _ F2 H2 s2 w2.fh (Nat.le_refl _), ?_⟩
    obtain ⟨w3, s3⟩ := Wd.freezeAt (o := .lst vs2) (nofun) w2 fd2 eD hd2 nD
    exact kk _ hr (.ref Dn) _ H2 w3 (s1.trans (s2.trans s3)) (.lst upd_same (il2.mono s3))
/-- [elt for .. in .. if ..] -/
theorem de_lc {X : Cx} {E : XK} {k : Nat} {elt tg iter : Expr} {ifs : List Expr} {scope : Scope} {own : List (Str × Nat)} {pos : Pos} {g : TG} {ρ ρ1 ρf : List Sl} {ds : List D} {r : Res} {st : D → List Sl → List Sl} {ok : D → Prop} (C : Ct X E k) (hi : DI X E tg iter ρ (.ok ds) ρ1)
    (bo : BlkOk X.N X.env.scope scope own) (hg : ∀ (s : Shared) (H : Hp) (Cc : Addr) (cl : List (Str × Addr)) (fp : List Addr) (xe : Value → Shared → Prop), PG (bx X s H scope (compEnvC scope cl Cc X.env) fp xe) tg g) (tg1 : TgOk X.K g (own.map (·.2)) st ok) (hok : ∀ d ∈ ds, ok d) (hst : ∀ d ρ (i : Nat), i ∉ own.map (·.2) → (st d ρ)[i]? = ρ[i]?)
    (hown : ∀ (i : Nat) b es, i ∈ own.map (·.2) → ρ1[i]? = some (.own b es) → False) (hlen : ds.length ≤ 16000000)
    (I : Nat → List D → List Sl → Prop) (h0 : I 0 [] ρ1) (hI : ∀ i acc ρ', I i acc ρ' → (∀ (j : Nat) b es, j ∈ own.map (·.2) → ρ'[j]? = some (.own b es) → False))
    (tb : List Sl → Bool → Prop) (el : List Sl → Res → List Sl → Prop)
    (ht : ∀ (s : Shared) (H : Hp) (Cc : Addr) (cl : List (Str × Addr)) (fp : List Addr) (xe : Value → Shared → Prop), Cp (bx X s H scope (compEnvC scope cl Cc X.env) fp xe) E k → ∀ ρt b, tb ρt b → PTs (bx X s H scope (compEnvC scope cl Cc X.env) fp xe) ifs (tDT X.K E ρt (.ok b) ρt))
    (he : ∀ (s : Shared) (H : Hp) (Cc : Addr) (cl : List (Str × Addr)) (fp : List Addr) (xe : Value → Shared → Prop), Cp (bx X s H scope (compEnvC scope cl Cc X.env) fp xe) E k → ∀ ρt y ρt', el ρt y ρt' → DE (bx X s H scope (compEnvC scope cl Cc X.env) fp xe) E elt ρt y ρt')
    (step : ∀ i acc ρ' d, I i acc ρ' → ds[i]? = some d → acc.length ≤ i → ∃ b, tb (st d (lend ρ')) b ∧ (b = false → I (i + 1) acc ρ') ∧ (b = true → ∃ y ρt', el (st d (lend ρ')) y ρt' ∧ (∀ z, y = .ok z → ∃ ρ2, I (i + 1) (acc ++ [z]) ρ2 ∧ Back (own.map (·.2)) ρ' ρ2 ρt') ∧ (∀ x, y = .error x → r = .error x)))
    (hd : ∀ acc ρ', I ds.length acc ρ' → r = .ok (.lst acc) ∧ ρ' = ρf) (hs : ∀ x, foldedSetIterable iter X.env x = pure x := by intro _; rfl) : DE X E (.ListComp elt [⟨tg, iter, ifs, 0⟩] scope pos) ρ r ρf := by
  have cp : ∀ (s : Shared) (H : Hp) (Cc : Addr) (cl : List (Str × Addr)) (fp : List Addr) (xe : Value → Shared → Prop), Ps (bx X s H scope (compEnvC scope cl Cc X.env) fp xe) (W0 E) → Cp (bx X s H scope (compEnvC scope cl Cc X.env) fp xe) E k := fun s H Cc cl fp xe ps => ⟨ps, C.calm, C.nd, C.room⟩
  exact PE.wk (pe_lcx (tt := fun σ H Q => ∃ ρt b, tb ρt b ∧ tDT X.K E ρt (.ok b) ρt σ H Q) (te := fun σ H Q => ∃ ρt y ρt', el ρt y ρt' ∧ tD X.K E ρt y ρt' σ H Q) C.tk C.st C.fr C.calm C.nd hi bo hg
    (fun s H Cc cl fp xe ps => ⟨fun pins s' σ H' Q I ⟨ρt, b, h, w⟩ => (ht s H Cc cl fp xe (cp s H Cc cl fp xe ps) ρt b h).run pins s' σ H' Q I w⟩)
    (fun s H Cc cl fp xe ps => ⟨fun pins s' σ H' Q I ⟨ρt, y, ρt', h, w⟩ => (he s H Cc cl fp xe (cp s H Cc cl fp xe ps) ρt y ρt' h).run pins s' σ H' Q I w⟩) hs) fun σ H Q hq => tlc_of tg1 hok hst hown hlen I h0 hI tb el step hd hq
/-- name = [elt for .. in .. if ..], on one line -/
theorem ds_setLc {X : Cx} {E : XK} {R : Out → Prop} {ni : Nat} {ny : Str} {py spos : Pos} {k : Nat} {elt tg iter : Expr} {ifs : List Expr} {scope : Scope} {own : List (Str × Nat)} {pos : Pos} {g : TG} {ρ ρ1 ρf : List Sl} {ds : List D} {r : Res} {st : D → List Sl → List Sl} {ok : D → Prop} (C : Ct X E k) (hi : DI X E tg iter ρ (.ok ds) ρ1)
    (bo : BlkOk X.N X.env.scope scope own) (hg : ∀ (s : Shared) (H : Hp) (Cc : Addr) (cl : List (Str × Addr)) (fp : List Addr) (xe : Value → Shared → Prop), PG (bx X s H scope (compEnvC scope cl Cc X.env) fp xe) tg g) (tg1 : TgOk X.K g (own.map (·.2)) st ok) (hok : ∀ d ∈ ds, ok d) (hst : ∀ d ρ (i : Nat), i ∉ own.map (·.2) → (st d ρ)[i]? = ρ[i]?)
    (hown : ∀ (i : Nat) b es, i ∈ own.map (·.2) → ρ1[i]? = some (.own b es) → False) (hlen : ds.length ≤ 16000000)
    (I : Nat → List D → List Sl → Prop) (h0 : I 0 [] ρ1) (hI : ∀ i acc ρ', I i acc ρ' → (∀ (j : Nat) b es, j ∈ own.map (·.2) → ρ'[j]? = some (.own b es) → False))
    (tb : List Sl → Bool → Prop) (el : List Sl → Res → List Sl → Prop)
    (ht : ∀ (s : Shared) (H : Hp) (Cc : Addr) (cl : List (Str × Addr)) (fp : List Addr) (xe : Value → Shared → Prop), Cp (bx X s H scope (compEnvC scope cl Cc X.env) fp xe) E k → ∀ ρt b, tb ρt b → PTs (bx X s H scope (compEnvC scope cl Cc X.env) fp xe) ifs (tDT X.K E ρt (.ok b) ρt))
    (he : ∀ (s : Shared) (H : Hp) (Cc : Addr) (cl : List (Str × Addr)) (fp : List Addr) (xe : Value → Shared → Prop), Cp (bx X s H scope (compEnvC scope cl Cc X.env) fp xe) E k → ∀ ρt y ρt', el ρt y ρt' → DE (bx X s H scope (compEnvC scope cl Cc X.env) fp xe) E elt ρt y ρt')
    (step : ∀ i acc ρ' d, I i acc ρ' → ds[i]? = some d → acc.length ≤ i → ∃ b, tb (st d (lend ρ')) b ∧ (b = false → I (i + 1) acc ρ') ∧ (b = true → ∃ y ρt', el (st d (lend ρ')) y ρt' ∧ (∀ z, y = .ok z → ∃ ρ2, I (i + 1) (acc ++ [z]) ρ2 ∧ Back (own.map (·.2)) ρ' ρ2 ρt') ∧ (∀ x, y = .error x → r = .error x)))
    (hd : ∀ acc ρ', I ds.length acc ρ' → r = .ok (.lst acc) ∧ ρ' = ρf) (hs : ∀ x, foldedSetIterable iter X.env x = pure x := by intro _; rfl)
    (hy : X.N[ni]? = some ny) (hyl : X.env.scope.names.lookup ny = some .local) (hli : ni < ρf.length) (hsw : swapsWith (.ListComp elt [⟨tg, iter, ifs, 0⟩] scope pos) (some (.Name ny py)) spos.line X.env = pure true) (kr : ∀ d, r = .ok d → R (.nx (ρf.set ni (.dat d)))) (ke : ∀ x, r = .error x → R (.rz x)) : DS X E (.Assign [.Name ny py] (.ListComp elt [⟨tg, iter, ifs, 0⟩] scope pos) spos) ρ R := by
  have cp : ∀ (s : Shared) (H : Hp) (Cc : Addr) (cl : List (Str × Addr)) (fp : List Addr) (xe : Value → Shared → Prop), Ps (bx X s H scope (compEnvC scope cl Cc X.env) fp xe) (W0 E) → Cp (bx X s H scope (compEnvC scope cl Cc X.env) fp xe) E k := fun s H Cc cl fp xe ps => ⟨ps, C.calm, C.nd, C.room⟩
  refine PS.wk (ps_setLcx (tt := fun σ H Q => ∃ ρt b, tb ρt b ∧ tDT X.K E ρt (.ok b) ρt σ H Q) (te := fun σ H Q => ∃ ρt y ρt', el ρt y ρt' ∧ tD X.K E ρt y ρt' σ H Q) C.tk C.st C.fr C.calm C.nd hy hyl hsw hi bo hg
    (fun s H Cc cl fp xe ps => ⟨fun pins s' σ H' Q I ⟨ρt, b, h, w⟩ => (ht s H Cc cl fp xe (cp s H Cc cl fp xe ps) ρt b h).run pins s' σ H' Q I w⟩)
    (fun s H Cc cl fp xe ps => ⟨fun pins s' σ H' Q I ⟨ρt, y, ρt', h, w⟩ => (he s H Cc cl fp xe (cp s H Cc cl fp xe ps) ρt y ρt' h).run pins s' σ H' Q I w⟩) hs) fun D σ H ⟨en, F, w, kk⟩ => ?_
  show tLc _ g _ _ (own.map (·.2)) σ H (fun x H1 => gName ni x σ H1 D.nx)
  exact tlc_of tg1 hok hst hown hlen I h0 hI tb el step hd ⟨en, F, w, fun d hd v F' H' w' s' i' => kk.nx _ (kr d hd) _ F' H' (w'.set hli i') s', fun x hx F' H' ρ'' w' => kk.rz x (ke x hx) σ F' H' ρ'' w'⟩
end Kd
set_option Elab.async false
set_option linter.all false
set_option maxRecDepth 100000
set_option maxHeartbeats 2000000
/-! the comprehensions one uses, f-strings, data compared, walks over numbered signs and pairs -/
namespace Kd
open PySem PySem.Spec PyProof.Rows L2
variable [LT]

/-! ### maps and filters -/
def mapE (g : D → Res) : List D → Except Er (List D)
  | [] => .ok []
  | d :: ds => match g d with
    | .error x => .error x
    | .ok y => match mapE g ds with
      | .error x => .error x
      | .ok ys => .ok (y :: ys)
theorem mapE_cons {g : D → Res} {d : D} {ds : List D} : mapE g (d :: ds) = (match g d with | .error x => .error x | .ok y => match mapE g ds with | .error x => .error x | .ok ys => .ok (y :: ys)) := rfl
theorem mapE_app {g : D → Res} : ∀ {xs ys : List D} {acc : List D}, mapE g xs = .ok acc → mapE g (xs ++ ys) = (match mapE g ys with | .error x => .error x | .ok zs => .ok (acc ++ zs))
  | [], ys, acc, h => by
    cases h
    show mapE g ys = _
    cases mapE g ys <;> rfl
  | x :: xs, ys, acc, h => by
    rw [List.cons_append, mapE_cons]
    rw [mapE_cons] at h
    cases q : g x with
    | error e => rw [q] at h; cases h
    | ok y =>
      rw [q] at h
      cases q2 : mapE g xs with
      | error e =>
        rw [q2] at h
        cases h
      | ok zs =>
        rw [q2] at h
        cases h
        rw [mapE_app q2]
        cases mapE g ys <;> rfl
theorem mapE_take {g : D → Res} {ds acc : List D} {i : Nat} {d : D} (h : mapE g (ds.take i) = .ok acc) (hd : ds[i]? = some d) :
    (∀ y, g d = .ok y → mapE g (ds.take (i + 1)) = .ok (acc ++ [y])) ∧ ∀ x, g d = .error x → mapE g ds = .error x := by
  obtain ⟨hi, e⟩ := List.getElem?_eq_some_iff.mp hd
  have e1 : ds.take (i + 1) = ds.take i ++ [d] := by rw [List.take_succ, hd]; rfl
  refine ⟨fun y hy => ?_, fun x hx => ?_⟩
  · rw [e1, mapE_app h, mapE_cons, hy]
    rfl
  · have e2 : ds = ds.take i ++ (d :: ds.drop (i + 1)) := by
      rw [← e, List.getElem_cons_drop, List.take_append_drop]
    rw [e2, mapE_app h, mapE_cons, hx]
theorem mapE_ok {g : D → Res} {f : D → D} : ∀ {ds : List D}, (∀ d ∈ ds, g d = .ok (f d)) → mapE g ds = .ok (ds.map f)
  | [], _ => rfl
  | d :: ds, h => by
    rw [mapE_cons, h d List.mem_cons_self, mapE_ok fun e he => h e (List.mem_cons_of_mem _ he)]
    rfl
theorem st1_out {j : Nat} {d : D} {ρ : List Sl} {i : Nat} (h : i ∉ [j]) : (st1 j d ρ)[i]? = ρ[i]? := by
  have ne : j ≠ i := fun e => h (by simp [e])
  unfold st1 wipeR wipeR
  rw [List.getElem?_set_ne ne, List.getElem?_set_ne ne]
theorem st2_out {k j : Nat} {d : D} {ρ : List Sl} {i : Nat} (h : i ∉ [k, j]) : (st2 k j d ρ)[i]? = ρ[i]? := by
  have n1 : k ≠ i := fun e => h (by simp [e])
  have n2 : j ≠ i := fun e => h (by simp [e])
  have base : (wipeR ρ [k, j])[i]? = ρ[i]? := by
    show ((ρ.set j Sl.no).set k Sl.no)[i]? = ρ[i]?
    rw [List.getElem?_set_ne n1, List.getElem?_set_ne n2]
  unfold st2
  split
  · rw [List.getElem?_set_ne n2, List.getElem?_set_ne n1, base]
  · exact base
section
variable {X : Cx} {E : XK} {k : Nat} {elt iter a b c e : Expr} {es : List Expr} {ifs : List Expr} {scope : Scope} {pos p pt : Pos} {ρ ρ1 ρ2 : List Sl} {ds : List D} {n m : Str} {j i : Nat} {d x y z : D}
/-- [elt for n in ..], nothing is changed; the first error counts -/
theorem de_lcM {g : D → Res} (C : Ct X E k) (hn : X.N[j]? = some n) (hi : DI X E (.Name n pt) iter ρ (.ok ds) ρ1) (bo : BlkOk X.N X.env.scope scope [(n, j)]) (hg : ∀ (s : Shared) (H : Hp) (Cc : Addr) (cl : List (Str × Addr)) (fp : List Addr) (xe : Value → Shared → Prop), PG (bx X s H scope (compEnvC scope cl Cc X.env) fp xe) (.Name n pt) (gName j))
    (hown : ∀ b es, ρ1[j]? = some (.own b es) → False) (hlen : ds.length ≤ 16000000)
    (he : ∀ (s : Shared) (H : Hp) (Cc : Addr) (cl : List (Str × Addr)) (fp : List Addr) (xe : Value → Shared → Prop), Cp (bx X s H scope (compEnvC scope cl Cc X.env) fp xe) E k → ∀ d ∈ ds, DE (bx X s H scope (compEnvC scope cl Cc X.env) fp xe) E elt (st1 j d (lend ρ1)) (g d) (st1 j d (lend ρ1)))
    (hs : ∀ x, foldedSetIterable iter X.env x = pure x := by intro _; rfl) : DE X E (.ListComp elt [⟨.Name n pt, iter, [], 0⟩] scope pos) ρ ((mapE g ds).map D.lst) ρ1 := by
  have hj : j < X.N.length := (List.getElem?_eq_some_iff.mp hn).1
  have own1 : ∀ (i : Nat) b es, i ∈ [(n, j)].map (·.2) → ρ1[i]? = some (.own b es) → False := fun i b es hm q => by
    have e : i = j := by simpa using hm
    rw [e] at q
    exact hown b es q
  refine de_lc C hi bo hg (tg_name (K := X.K) hj).1 (fun _ _ => trivial) (fun d ρ i hm => st1_out hm) own1 hlen (fun i acc ρ' => ρ' = ρ1 ∧ mapE g (ds.take i) = .ok acc) ⟨rfl, by rw [List.take_zero]; rfl⟩ (fun i acc ρ' h => by rw [h.1]; exact own1)
    (fun _ b => b = true) (fun ρt y ρt' => ρt' = ρt ∧ ∃ d ∈ ds, ρt = st1 j d (lend ρ1) ∧ y = g d) (fun s H Cc cl fp xe cp ρt b hb => ?_) (fun s H Cc cl fp xe cp ρt y ρt' h => ?_) (fun i acc ρ' d h hd _ => ?_) (fun acc ρ' h => ?_) hs
  · subst hb
    exact ⟨fun pins s' σ H' Q I ⟨en, F, w, k1, _⟩ => pts_nil.run pins s' σ H' Q I (k1 true rfl F H' w (Same.refl F))⟩
  · obtain ⟨rfl, d, hd, rfl, rfl⟩ := h
    exact he s H Cc cl fp xe cp d hd
  · obtain ⟨rfl, h⟩ := h
    obtain ⟨t1, t2⟩ := mapE_take h hd
    refine ⟨true, rfl, (fun z => by cases z), fun _ => ⟨g d, st1 j d (lend ρ'), ⟨rfl, d, List.mem_of_getElem? hd, rfl, rfl⟩, fun z hz => ⟨ρ', ⟨rfl, t1 z hz⟩, rfl, fun _ _ q => q, fun i b es q => ⟨es, q, .inr ?_⟩⟩, fun x hx => by rw [t2 x hx]; rfl⟩⟩
    have ne : i ∉ [j] := fun hm => own1 i b es (by simpa using hm) q
    refine ⟨by simpa using ne, ?_⟩
    rw [st1_out ne]
    unfold lend
    rw [List.getElem?_map, q]
    rfl
  · obtain ⟨rfl, h⟩ := h
    rw [List.take_length] at h
    rw [h]
    exact ⟨rfl, rfl⟩
/-- [elt for n in .. if test], nothing is changed, nothing raised -/
theorem de_lcF {c : Expr} {g : D → D} {t : D → Bool} (C : Ct X E k) (hn : X.N[j]? = some n) (hi : DI X E (.Name n pt) iter ρ (.ok ds) ρ1) (bo : BlkOk X.N X.env.scope scope [(n, j)]) (hg : ∀ (s : Shared) (H : Hp) (Cc : Addr) (cl : List (Str × Addr)) (fp : List Addr) (xe : Value → Shared → Prop), PG (bx X s H scope (compEnvC scope cl Cc X.env) fp xe) (.Name n pt) (gName j))
    (hown : ∀ b es, ρ1[j]? = some (.own b es) → False) (hlen : ds.length ≤ 16000000)
    (ht : ∀ (s : Shared) (H : Hp) (Cc : Addr) (cl : List (Str × Addr)) (fp : List Addr) (xe : Value → Shared → Prop), Cp (bx X s H scope (compEnvC scope cl Cc X.env) fp xe) E k → ∀ d ∈ ds, DT (bx X s H scope (compEnvC scope cl Cc X.env) fp xe) E c (st1 j d (lend ρ1)) (.ok (t d)) (st1 j d (lend ρ1)))
    (he : ∀ (s : Shared) (H : Hp) (Cc : Addr) (cl : List (Str × Addr)) (fp : List Addr) (xe : Value → Shared → Prop), Cp (bx X s H scope (compEnvC scope cl Cc X.env) fp xe) E k → ∀ d ∈ ds, t d = true → DE (bx X s H scope (compEnvC scope cl Cc X.env) fp xe) E elt (st1 j d (lend ρ1)) (.ok (g d)) (st1 j d (lend ρ1)))
    (hs : ∀ x, foldedSetIterable iter X.env x = pure x := by intro _; rfl) : DE X E (.ListComp elt [⟨.Name n pt, iter, [c], 0⟩] scope pos) ρ (.ok (.lst ((ds.filter t).map g))) ρ1 := by
  have hj : j < X.N.length := (List.getElem?_eq_some_iff.mp hn).1
  have own1 : ∀ (i : Nat) b es, i ∈ [(n, j)].map (·.2) → ρ1[i]? = some (.own b es) → False := fun i b es hm q => by
    have e : i = j := by simpa using hm
    rw [e] at q
    exact hown b es q
  refine de_lc C hi bo hg (tg_name (K := X.K) hj).1 (fun _ _ => trivial) (fun d ρ i hm => st1_out hm) own1 hlen (fun i acc ρ' => ρ' = ρ1 ∧ acc = ((ds.take i).filter t).map g) ⟨rfl, by rw [List.take_zero]; rfl⟩ (fun i acc ρ' h => by rw [h.1]; exact own1)
    (fun ρt b => ∃ d ∈ ds, ρt = st1 j d (lend ρ1) ∧ b = t d) (fun ρt y ρt' => ρt' = ρt ∧ ∃ d ∈ ds, t d = true ∧ ρt = st1 j d (lend ρ1) ∧ y = .ok (g d)) (fun s H Cc cl fp xe cp ρt b hb => ?_) (fun s H Cc cl fp xe cp ρt y ρt' h => ?_) (fun i acc ρ' d h hd _ => ?_) (fun acc ρ' h => ?_) hs
  · obtain ⟨d, hd, rfl, rfl⟩ := hb
    exact pts_one (ht s H Cc cl fp xe cp d hd)
  · obtain ⟨rfl, d, hd, htd, rfl, rfl⟩ := h
    exact he s H Cc cl fp xe cp d hd htd
  · obtain ⟨rfl, rfl⟩ := h
    have hm := List.mem_of_getElem? hd
    have e1 : ds.take (i + 1) = ds.take i ++ [d] := by rw [List.take_succ, hd]; rfl
    refine ⟨t d, ⟨d, hm, rfl, rfl⟩, fun hf => ⟨rfl, ?_⟩, fun htd => ⟨.ok (g d), st1 j d (lend ρ'), ⟨rfl, d, hm, htd, rfl, rfl⟩, fun z hz => ⟨ρ', ⟨rfl, ?_⟩, rfl, fun _ _ q => q, fun i b es q => ⟨es, q, .inr ?_⟩⟩, fun x hx => by cases hx⟩⟩
    · rw [e1, List.filter_append, List.map_append]
      simp [hf]
    · cases hz
      rw [e1, List.filter_append, List.map_append]
      simp [htd]
    · have ne : i ∉ [j] := fun hm => own1 i b es (by simpa using hm) q
      refine ⟨by simpa using ne, ?_⟩
      rw [st1_out ne]
      unfold lend
      rw [List.getElem?_map, q]
      rfl
  · obtain ⟨rfl, rfl⟩ := h
    rw [List.take_length]
    exact ⟨rfl, rfl⟩
/-! ### f-strings -/
theorem de_fmtS {s : Str} (h : DE X E e ρ (.ok (dS s)) ρ1) (hz : s.length ≤ 16000000) : DE X E (.FormattedValue e (-1) none pos) ρ (.ok (dS s)) ρ1 := PE.wk (pe_fmt h) fun σ H Q ⟨en, F, w, k, _⟩ => ⟨en, F, w, fun d hd v F1 H1 w1 s1 i1 => by
    cases hd
    cases i1
    exact .inl ⟨s, rfl, Nat.le_trans hz (by decide), k _ rfl _ F1 H1 w1 s1 (.v _)⟩, fun _ z => nomatch z⟩
theorem de_fmtI {q : Int} (h : DE X E e ρ (.ok (dI q)) ρ1) (hz : q.natAbs.log2 < 1920) : DE X E (.FormattedValue e (-1) none pos) ρ (.ok (.v (.str (toString q)))) ρ1 := PE.wk (pe_fmt h) fun σ H Q ⟨en, F, w, k, _⟩ => ⟨en, F, w, fun d hd v F1 H1 w1 s1 i1 => by
    cases hd
    cases i1
    exact .inr ⟨q, rfl, hz, k _ rfl _ F1 H1 w1 s1 (.v _)⟩, fun _ z => nomatch z⟩
inductive DJ (X : Cx) (E : XK) (ρ : List Sl) : List Expr → List Str → Prop
  | nil : DJ X E ρ [] []
  | cons {e : Expr} {es : List Expr} {y : Str} {ys : List Str} : DE X E e ρ (.ok (dS y)) ρ → DJ X E ρ es ys → DJ X E ρ (e :: es) (y :: ys)
theorem DJ.pj : ∀ {es : List Expr} {ys : List Str}, DJ X E ρ es ys → PJ X es (ys.map fun y => tD X.K E ρ (.ok (dS y)) ρ)
  | _, _, .nil => .nil
  | _, _, .cons h r => .cons h (DJ.pj r)
theorem tJs_of {K : PySem.W.Frag} {σ : L2.St} {Q : Str → Hp → Prop} : ∀ (ys : List Str) (acc : Str) (en : En) (F : Hp) (H : Hp), acc.length + (ys.map (·.length)).sum ≤ 16000000 → Wd K en F H σ ρ → (∀ F' H', Wd K en F' H' σ ρ → Same F F' → Q (ys.foldl (· ++ ·) acc) H') → tJs (ys.map fun y => tD K E ρ (.ok (dS y)) ρ) acc σ H Q
  | [], acc, en, F, H, _, w, k => k F H w (Same.refl F)
  | y :: ys, acc, en, F, H, hz, w, k => ⟨en, F, w, fun d hd v F1 H1 w1 s1 i1 => by
      cases hd
      cases i1
      have hl : (acc ++ y).length = acc.length + y.length := by simp [Str.length_append]
      simp only [List.map_cons, List.sum_cons] at hz
      exact ⟨y, rfl, Nat.le_trans (by rw [hl]; omega) (by decide : 16000000 ≤ sizeLine), tJs_of ys (acc ++ y) en F1 H1 (by rw [hl]; omega) w1 fun F' H' w' s' => k F' H' w' (s1.trans s')⟩, fun _ z => nomatch z⟩
theorem de_fstr {v1 v2 : Expr} {rest : List Expr} {ys : List Str} (h : DJ X E ρ (v1 :: v2 :: rest) ys) (hz : (ys.map (·.length)).sum ≤ 16000000) : DE X E (.JoinedStr (v1 :: v2 :: rest) pos) ρ (.ok (dS (ys.foldl (· ++ ·) Str.empty))) ρ := PE.wk (pe_joined h.pj) fun σ H Q ⟨en, F, w, k, _⟩ =>
  tJs_of ys Str.empty en F H (by show 0 + _ ≤ _; omega) w fun F' H' w' s' => k _ rfl _ F' H' w' s' (.v _)
/-! ### data compared -/
mutual
def pyOf : D → Option PyData
  | .v .non => some .none
  | .v (.bl b) => some (.bool b)
  | .v (.int i) => some (.int i)
  | .v (.str s) => some (.str s)
  | .tup ds => (pyOfL ds).map .tuple
  | .lst ds => (pyOfL ds).map .list
  | _ => none
def pyOfL : List D → Option (List PyData)
  | [] => some []
  | d :: ds => match pyOf d, pyOfL ds with
    | some p, some ps => some (p :: ps)
    | _, _ => none
end
section
variable {K : PySem.W.Frag} {F H : Hp}
mutual
theorem dp_of (sm : Same F H) : ∀ {v : V} {d : D} {p : PyData}, Is K F v d → pyOf d = some p → Dp K H v p
  | _, .v .non, p, .v _, h => by cases h; exact .non
  | _, .v (.bl b), p, .v _, h => by cases h; exact .bl b
  | _, .v (.int b), p, .v _, h => by cases h; exact .int b
  | _, .v (.str b), p, .v _, h => by cases h; exact .str b
  | _, .v (.byt b), p, .v _, h => by simp [pyOf] at h
  | _, .v (.flt b), p, .v _, h => by simp [pyOf] at h
  | _, .v (.ref b), p, .v _, h => by simp [pyOf] at h
  | _, .v (.ty b), p, .v _, h => by simp [pyOf] at h
  | _, .tup ds, p, .tup ht il, h => by
    unfold pyOf at h
    cases q : pyOfL ds with
    | none => rw [q] at h; cases h
    | some ps =>
      rw [q] at h
      cases h
      exact .tup (sqT_mono sm ht) (dp_ofL sm il q)
  | _, .lst ds, p, .lst ht il, h => by
    unfold pyOf at h
    cases q : pyOfL ds with
    | none => rw [q] at h; cases h
    | some ps =>
      rw [q] at h
      cases h
      exact .lst (.inl (.inl (sm _ _ ht))) (dp_ofL sm il q)
  | _, .scr ds, p, .scr _ _, h => by simp [pyOf] at h
  | _, .emp, p, .emp _, h => by simp [pyOf] at h
theorem dp_ofL (sm : Same F H) : ∀ {vs : List V} {ds : List D} {ps : List PyData}, IsL K F vs ds → pyOfL ds = some ps → DpAll K H vs ps
  | _, [], ps, .nil, h => by cases h; exact .nil
  | _, d :: ds, ps, .cons i l, h => by
    unfold pyOfL at h
    cases q : pyOf d with
    | none => rw [q] at h; cases h
    | some p =>
      cases q2 : pyOfL ds with
      | none => rw [q, q2] at h; cases h
      | some ps2 =>
        rw [q, q2] at h
        cases h
        exact .cons (dp_of sm i q) (dp_ofL sm l q2)
end
end
theorem op2_eqD {K : PySem.W.Frag} {pa pb : PyData} (h1 : pyOf x = some pa) (h2 : pyOf y = some pb) (s1 : SeqAt.shaped pa = true) (s2 : SeqAt.shaped pb = true) : Op2 K (rEqD K) x y (dB (PyData.eqv pa pb)) := fun F H vx vy Q sm hx hy k => ⟨pa, pb, dp_of sm hx h1, dp_of sm hy h2, s1, s2, k.v sm⟩
theorem op2_neD {K : PySem.W.Frag} {pa pb : PyData} (h1 : pyOf x = some pa) (h2 : pyOf y = some pb) (s1 : SeqAt.shaped pa = true) (s2 : SeqAt.shaped pb = true) : Op2 K (rNeD K) x y (dB (!PyData.eqv pa pb)) := fun F H vx vy Q sm hx hy k => ⟨pa, pb, dp_of sm hx h1, dp_of sm hy h2, s1, s2, k.v sm⟩
end
end Kd
set_option Elab.async false
set_option linter.all false
set_option maxRecDepth 100000
set_option maxHeartbeats 2000000
/-! short words -/
namespace Kd
open PySem PySem.Spec PyProof.Rows L2
variable [LT]
section
variable {X : Cx} {E : XK} {k : Nat} {elt iter a b c e o : Expr} {es : List Expr} {scope : Scope} {pos p pt p2 : Pos} {ρ ρ1 ρ2 ρ3 : List Sl} {ds : List D} {n m x : Str} {d d1 d2 d3 z : D} {j : Nat} {ps : List Str}
theorem dv (i : Nat) (hN : X.N[i]? = some x := by rfl) (hv : Vis X.env.scope x := by first | exact Or.inl rfl | exact Or.inr (Or.inl rfl) | exact Or.inr (Or.inr rfl)) (h : ρ[i]? = some (.dat d) := by rfl) (hd : (x == ("__debug__" : Str)) = false := by decide) (hcd : (x == ("__classdict__" : Str)) = false := by decide) : DE X E (.Name x pos) ρ (.ok d) ρ := de_var i hN hv h hd hcd
theorem a1 (h : DE X E a ρ (.ok d) ρ1) (hs : starEach [a] X.env = (false, eval a X.env) :: starEach [] X.env := by rfl) : DA X E [a] ρ (.ok [d]) ρ1 := da_cons h da_nil hs
theorem a2 (h : DE X E a ρ (.ok d) ρ1) (h2 : DE X E b ρ1 (.ok d2) ρ2) (hs : starEach [a, b] X.env = (false, eval a X.env) :: starEach [b] X.env := by rfl) (hs2 : starEach [b] X.env = (false, eval b X.env) :: starEach [] X.env := by rfl) : DA X E [a, b] ρ (.ok [d, d2]) ρ2 := da_cons h (da_cons h2 da_nil hs2) hs
theorem a3 (h : DE X E a ρ (.ok d) ρ1) (h2 : DE X E b ρ1 (.ok d2) ρ2) (h3 : DE X E c ρ2 (.ok d3) ρ3) (hs : starEach [a, b, c] X.env = (false, eval a X.env) :: starEach [b, c] X.env := by rfl) (hs2 : starEach [b, c] X.env = (false, eval b X.env) :: starEach [c] X.env := by rfl) (hs3 : starEach [c] X.env = (false, eval c X.env) :: starEach [] X.env := by rfl) : DA X E [a, b, c] ρ (.ok [d, d2, d3]) ρ3 :=
  da_cons h (da_cons h2 (da_cons h3 da_nil hs3) hs2) hs
theorem dcall {Z : Type} {enc : Z → List D} {f : Z → Res} {dom : Z → Prop} {nn : Nat} (z : Z) (C : Cp X E k) (h : Kn X.prog X.w X.K X.mg X.base x j nn enc f dom) (ha : DA X E (e :: es) ρ (.ok (enc z)) ρ1) (hd : dom z) (hk : j ≤ k := by decide) (hg : Gl X x := by rfl) (hl : (enc z).length = nn := by rfl) (hdb : (x == ("__debug__" : Str)) = false := by decide)
    (he : starEach (e :: es) X.env = (false, eval e X.env) :: starEach es X.env := by rfl) (hpl : (backTo pos (starEach es X.env)).any (·.1) = false := by rfl) : DE X E (.Call (.Name x p) (e :: es) [] pos) ρ (f z) ρ1 := de_call z C h hk hg ha hl hd hdb he hpl
/-- its answer said otherwise -/
theorem DE.to {r r' : Res} (h : DE X E e ρ r ρ1) (q : r = r') : DE X E e ρ r' ρ1 := q ▸ h
theorem DT.to {r r' : Bool} (h : DT X E e ρ (.ok r) ρ1) (q : r = r') : DT X E e ρ (.ok r') ρ1 := q ▸ h
theorem dgI {i : Int} (h : ∃ t, X.mg x = some (.int i t)) (hg : Gl X x := by rfl) (hdb : (x == ("__debug__" : Str)) = false := by decide) : DE X E (.Name x pos) ρ (.ok (dI i)) ρ := by
  obtain ⟨t, h⟩ := h
  exact de_glob hg h (v := .int i) ⟨t, rfl⟩ (fun _ => .v _) hdb
theorem dgS {s : Str} (h : ∃ t, X.mg x = some (.str s t)) (hg : Gl X x := by rfl) (hdb : (x == ("__debug__" : Str)) = false := by decide) : DE X E (.Name x pos) ρ (.ok (dS s)) ρ := by
  obtain ⟨t, h⟩ := h
  exact de_glob hg h (v := .str s) ⟨t, rfl⟩ (fun _ => .v _) hdb
theorem dgT {vs : List V} (h : ∃ a, X.mg x = some (.ref a) ∧ ∀ F, SqT X.K F a vs) (hg : Gl X x := by rfl) (hdb : (x == ("__debug__" : Str)) = false := by decide) : DE X E (.Name x pos) ρ (.ok (.tup (vs.map D.v))) ρ := by
  obtain ⟨a, h, hq⟩ := h
  exact de_glob hg h (v := .ref a) rfl (fun F => .tup (hq F) (IsL.ofV vs)) hdb
/-- a def as a value -/
theorem dgF {f : Addr} (h : X.mg x = some (.ref f)) (hg : Gl X x := by rfl) (hdb : (x == ("__debug__" : Str)) = false := by decide) : DE X E (.Name x pos) ρ (.ok (.v (.ref f))) ρ := de_glob hg h (v := .ref f) rfl (fun _ => .v _) hdb
theorem disi {t u : String} {kb : Bool} {pn : Pos} (hm : X.mg "isinstance" = none) (hn : X.mg n = none) (hv : bootBuiltins n = some (.type u)) (h : DE X E a ρ (.ok d) ρ1) (ty : tyD d = some t) (hk : kitB t u = some kb) (hg : Gl X "isinstance" := by rfl) (hg2 : Gl X n := by rfl) (h1 : n ≠ "__name__" := by decide) (h2 : (n == ("__debug__" : Str)) = false := by decide)
    (hs : starEach [a, .Name n pn] X.env = (false, eval a X.env) :: starEach [.Name n pn] X.env := by rfl) (hs2 : starEach [.Name n pn] X.env = (false, eval (.Name n pn) X.env) :: starEach [] X.env := by rfl) (hpl : (backTo pos (starEach [.Name n pn] X.env)).any (·.1) = false := by rfl) :
    DE X E (.Call (.Name "isinstance" p) [a, .Name n pn] [] pos) ρ (.ok (dB kb)) ρ1 := de_callB call_isi (cd_isi ty hk) hg hm (by decide +kernel) (a2 h (de_c (pe_bltn hg2 hn hv rfl h1 h2)) hs hs2) (by decide) (by decide) hs hpl
theorem kit_tt : kitB "tuple" "tuple" = some true := by decide +kernel
theorem kit_it : kitB "int" "tuple" = some false := by decide +kernel
theorem kit_ii : kitB "int" "int" = some true := by decide +kernel
theorem kit_ti : kitB "tuple" "int" = some false := by decide +kernel
theorem kit_ib : kitB "int" "bool" = some false := by decide +kernel
theorem kit_ss : kitB "str" "str" = some true := by decide +kernel
theorem bt_tuple : bootBuiltins "tuple" = some (.type "tuple") := by decide +kernel
theorem bt_int : bootBuiltins "int" = some (.type "int") := by decide +kernel
theorem bt_bool : bootBuiltins "bool" = some (.type "bool") := by decide +kernel
theorem bt_str : bootBuiltins "str" = some (.type "str") := by decide +kernel
theorem bt_list : bootBuiltins "list" = some (.type "list") := by decide +kernel
theorem bb_len : bootBuiltins "len" = some (.builtin "len") := by decide +kernel
theorem bb_all : bootBuiltins "all" = some (.builtin "all") := by decide +kernel
theorem dlenS {s : Str} (hm : X.mg "len" = none) (h : DE X E a ρ (.ok (dS s)) ρ1) (hz : s.length ≤ 16000000) (hg : Gl X "len" := by rfl) (hs : starEach [a] X.env = (false, eval a X.env) :: starEach [] X.env := by rfl) (hpl : (backTo pos (starEach [] X.env)).any (·.1) = false := by rfl) :
    DE X E (.Call (.Name "len" p) [a] [] pos) ρ (.ok (dI s.length)) ρ1 := de_callB call_len_str (cd_lenS hz) hg hm bb_len (a1 h hs) (by decide) (by decide) hs hpl
theorem dlenT (hm : X.mg "len" = none) (h : DE X E a ρ (.ok (.tup ds)) ρ1) (hg : Gl X "len" := by rfl) (hs : starEach [a] X.env = (false, eval a X.env) :: starEach [] X.env := by rfl) (hpl : (backTo pos (starEach [] X.env)).any (·.1) = false := by rfl) :
    DE X E (.Call (.Name "len" p) [a] [] pos) ρ (.ok (dI ds.length)) ρ1 := de_callB call_len_seq cd_lenT hg hm bb_len (a1 h hs) (by decide) (by decide) hs hpl
theorem dlenL (hm : X.mg "len" = none) (h : DE X E a ρ (.ok (.lst ds)) ρ1) (hg : Gl X "len" := by rfl) (hs : starEach [a] X.env = (false, eval a X.env) :: starEach [] X.env := by rfl) (hpl : (backTo pos (starEach [] X.env)).any (·.1) = false := by rfl) :
    DE X E (.Call (.Name "len" p) [a] [] pos) ρ (.ok (dI ds.length)) ρ1 := de_callB call_len_seq cd_lenL hg hm bb_len (a1 h hs) (by decide) (by decide) hs hpl
theorem dlenR (hm : X.mg "len" = none) (h : DE X E a ρ (.ok (.scr ds)) ρ1) (hg : Gl X "len" := by rfl) (hs : starEach [a] X.env = (false, eval a X.env) :: starEach [] X.env := by rfl) (hpl : (backTo pos (starEach [] X.env)).any (·.1) = false := by rfl) :
    DE X E (.Call (.Name "len" p) [a] [] pos) ρ (.ok (dI ds.length)) ρ1 := de_callB call_len_seq cd_lenR hg hm bb_len (a1 h hs) (by decide) (by decide) hs hpl
theorem dall {bs : List Bool} (hc : X.calm = true) (hm : X.mg "all" = none) (h : DE X E a ρ (.ok (.lst (bs.map dB))) ρ1) (hg : Gl X "all" := by rfl) (hs : starEach [a] X.env = (false, eval a X.env) :: starEach [] X.env := by rfl) (hpl : (backTo pos (starEach [] X.env)).any (·.1) = false := by rfl) :
    DE X E (.Call (.Name "all" p) [a] [] pos) ρ (.ok (dB (bs.all id))) ρ1 := de_callB (cr_all hc) cd_all hg hm bb_all (a1 h hs) (by decide) (by decide) hs hpl
theorem dtupL (hm : X.mg "tuple" = none) (h : DE X E a ρ (.ok (.lst ds)) ρ1) (hg : Gl X "tuple" := by rfl) (hs : starEach [a] X.env = (false, eval a X.env) :: starEach [] X.env := by rfl) (hpl : (backTo pos (starEach [] X.env)).any (·.1) = false := by rfl) :
    DE X E (.Call (.Name "tuple" p) [a] [] pos) ρ (.ok (.tup ds)) ρ1 := de_callTy call_tuple_of cd_tupL hg hm bt_tuple (a1 h hs) (by decide) (by decide) hs hpl
theorem dbltE {w : Er} {r : List V → Hp → VK → Prop} {T : String} (hc : CallR X (.type T) r) (hg : Gl X n) (hm : X.mg n = none) (hv : bootBuiltins n = some (.type T)) (ha : DE X E a ρ (.error w) ρ1) (hn : n ≠ "__name__" := by decide) (hdb : (n == ("__debug__" : Str)) = false := by decide)
    (hs : starEach [a] X.env = (false, eval a X.env) :: starEach [] X.env := by rfl) (hpl : (backTo pos (starEach [] X.env)).any (·.1) = false := by rfl) : DE X E (.Call (.Name n p) [a] [] pos) ρ (.error w) ρ1 :=
  PE.wk (pe_callTy hc hg hm hv (da_err (ρ2 := ρ1) ha hs) hn hdb hs hpl) fun σ H Q ⟨en, F, w, k, k2⟩ => ⟨en, F, w, fun _ z => (by cases z), fun y hy => k2 y (by cases hy; rfl)⟩
theorem dtupE {w : Er} (hm : X.mg "tuple" = none) (h : DE X E a ρ (.error w) ρ1) (hg : Gl X "tuple" := by rfl) (hs : starEach [a] X.env = (false, eval a X.env) :: starEach [] X.env := by rfl) (hpl : (backTo pos (starEach [] X.env)).any (·.1) = false := by rfl) :
    DE X E (.Call (.Name "tuple" p) [a] [] pos) ρ (.error w) ρ1 := dbltE call_tuple_of hg hm bt_tuple h (by decide) (by decide) hs hpl
theorem dstrI {i : Int} (hm : X.mg "str" = none) (h : DE X E a ρ (.ok (dI i)) ρ1) (hz : i.natAbs.log2 < 1920) (hg : Gl X "str" := by rfl) (hs : starEach [a] X.env = (false, eval a X.env) :: starEach [] X.env := by rfl) (hpl : (backTo pos (starEach [] X.env)).any (·.1) = false := by rfl) :
    DE X E (.Call (.Name "str" p) [a] [] pos) ρ (.ok (.v (.str (toString i)))) ρ1 := de_callTy call_str_int (cd_strI hz) hg hm bt_str (a1 h hs) (by decide) (by decide) hs hpl
theorem dintS {s : Str} {i : Int} (hm : X.mg "int" = none) (h : DE X E a ρ (.ok (dS s)) ρ1) (hi : PySem.intText? s = some i) (hz : s.length ≤ 640) (hg : Gl X "int" := by rfl) (hs : starEach [a] X.env = (false, eval a X.env) :: starEach [] X.env := by rfl) (hpl : (backTo pos (starEach [] X.env)).any (·.1) = false := by rfl) :
    DE X E (.Call (.Name "int" p) [a] [] pos) ρ (.ok (dI i)) ρ1 := de_callTy call_int_str (cd_intS hi hz) hg hm bt_int (a1 h hs) (by decide) (by decide) hs hpl
theorem dintI {i : Int} (hm : X.mg "int" = none) (h : DE X E a ρ (.ok (dI i)) ρ1) (hg : Gl X "int" := by rfl) (hs : starEach [a] X.env = (false, eval a X.env) :: starEach [] X.env := by rfl) (hpl : (backTo pos (starEach [] X.env)).any (·.1) = false := by rfl) :
    DE X E (.Call (.Name "int" p) [a] [] pos) ρ (.ok (dI i)) ρ1 := de_callTy call_int1 cd_int hg hm bt_int (a1 h hs) (by decide) (by decide) hs hpl
theorem dintB {i : Bool} (hm : X.mg "int" = none) (h : DE X E a ρ (.ok (dB i)) ρ1) (hg : Gl X "int" := by rfl) (hs : starEach [a] X.env = (false, eval a X.env) :: starEach [] X.env := by rfl) (hpl : (backTo pos (starEach [] X.env)).any (·.1) = false := by rfl) :
    DE X E (.Call (.Name "int" p) [a] [] pos) ρ (.ok (dI (if i then 1 else 0))) ρ1 := de_callTy call_int1 cd_intB hg hm bt_int (a1 h hs) (by decide) (by decide) hs hpl
/-- t[i] -/
theorem dix {i : Int} (h : DE X E a ρ (.ok (.tup ds)) ρ1) (h2 : DE X E b ρ1 (.ok (dI i)) ρ2) (ha : atI ds i = some d := by rfl) (hs : PlainIx b := by exact fun _ _ => rfl) : DE X E (.Subscript a b pos) ρ (.ok d) ρ2 := de_ix ix_tup (op2_ixT ha) h h2 hs
/-- comparisons -/
theorem deq {u v : V} (h : DE X E a ρ (.ok (.v u)) ρ1) (h2 : DE X E b ρ1 (.ok (.v v)) ρ2) (hs : scal u v = true := by rfl) : DE X E (.Compare a [.Eq] [b] pos) ρ (.ok (dB (decide (u = v)))) ρ2 := de_cmp op_eq (op2_eq hs) h h2 (nomark _)
theorem teq {u v : V} (h : DE X E a ρ (.ok (.v u)) ρ1) (h2 : DE X E b ρ1 (.ok (.v v)) ρ2) (hs : scal u v = true := by rfl) : DT X E (.Compare a [.Eq] [b] pos) ρ (.ok (decide (u = v))) ρ2 := dt_cmp op_eq (op2_eq hs) h h2 (nomark _)
theorem dne {u v : V} (h : DE X E a ρ (.ok (.v u)) ρ1) (h2 : DE X E b ρ1 (.ok (.v v)) ρ2) (hs : scal u v = true := by rfl) : DE X E (.Compare a [.NotEq] [b] pos) ρ (.ok (dB (!decide (u = v)))) ρ2 := de_cmp op_ne (op2_ne hs) h h2 (nomark _)
theorem tne {u v : V} (h : DE X E a ρ (.ok (.v u)) ρ1) (h2 : DE X E b ρ1 (.ok (.v v)) ρ2) (hs : scal u v = true := by rfl) : DT X E (.Compare a [.NotEq] [b] pos) ρ (.ok (!decide (u = v))) ρ2 := dt_cmp op_ne (op2_ne hs) h h2 (nomark _)
theorem deqD {pa pb : PyData} (C : Cp X E k) (h : DE X E a ρ (.ok d) ρ1) (h2 : DE X E b ρ1 (.ok d2) ρ2) (h3 : pyOf d = some pa) (h4 : pyOf d2 = some pb) (s1 : SeqAt.shaped pa = true) (s2 : SeqAt.shaped pb = true) : DE X E (.Compare a [.Eq] [b] pos) ρ (.ok (dB (PyData.eqv pa pb))) ρ2 := de_cmp (op_eqD C.room.units) (op2_eqD h3 h4 s1 s2) h h2 (nomark _)
theorem dneD {pa pb : PyData} (C : Cp X E k) (h : DE X E a ρ (.ok d) ρ1) (h2 : DE X E b ρ1 (.ok d2) ρ2) (h3 : pyOf d = some pa) (h4 : pyOf d2 = some pb) (s1 : SeqAt.shaped pa = true) (s2 : SeqAt.shaped pb = true) : DE X E (.Compare a [.NotEq] [b] pos) ρ (.ok (dB (!PyData.eqv pa pb))) ρ2 := de_cmp (op_neD C.room.units) (op2_neD h3 h4 s1 s2) h h2 (nomark _)
theorem tneD {pa pb : PyData} (C : Cp X E k) (h : DE X E a ρ (.ok d) ρ1) (h2 : DE X E b ρ1 (.ok d2) ρ2) (h3 : pyOf d = some pa) (h4 : pyOf d2 = some pb) (s1 : SeqAt.shaped pa = true) (s2 : SeqAt.shaped pb = true) : DT X E (.Compare a [.NotEq] [b] pos) ρ (.ok (!PyData.eqv pa pb)) ρ2 := dt_cmp (op_neD C.room.units) (op2_neD h3 h4 s1 s2) h h2 (nomark _)
theorem teqD {pa pb : PyData} (C : Cp X E k) (h : DE X E a ρ (.ok d) ρ1) (h2 : DE X E b ρ1 (.ok d2) ρ2) (h3 : pyOf d = some pa) (h4 : pyOf d2 = some pb) (s1 : SeqAt.shaped pa = true) (s2 : SeqAt.shaped pb = true) : DT X E (.Compare a [.Eq] [b] pos) ρ (.ok (PyData.eqv pa pb)) ρ2 := dt_cmp (op_eqD C.room.units) (op2_eqD h3 h4 s1 s2) h h2 (nomark _)
/-- x in a tuple of flat values -/
theorem din {u : V} {vs : List V} (h : DE X E a ρ (.ok (.v u)) ρ1) (h2 : DE X E b ρ1 (.ok (.tup (vs.map D.v))) ρ2) (h3 : flatV u = true := by rfl) (h4 : vs.all flatV = true := by rfl) (hm : behindInMarks .In b = false := by rfl) : DE X E (.Compare a [.In] [b] pos) ρ (.ok (dB (inV u vs))) ρ2 := de_cmp op_in_seq (op2_inT h3 h4) h h2 hm
theorem dnin {u : V} {vs : List V} (h : DE X E a ρ (.ok (.v u)) ρ1) (h2 : DE X E b ρ1 (.ok (.tup (vs.map D.v))) ρ2) (h3 : flatV u = true := by rfl) (h4 : vs.all flatV = true := by rfl) (hm : behindInMarks .NotIn b = false := by rfl) : DE X E (.Compare a [.NotIn] [b] pos) ρ (.ok (dB (!inV u vs))) ρ2 := de_cmp op_notIn_seq (op2_inT h3 h4) h h2 hm
theorem tin {u : V} {vs : List V} (h : DE X E a ρ (.ok (.v u)) ρ1) (h2 : DE X E b ρ1 (.ok (.tup (vs.map D.v))) ρ2) (h3 : flatV u = true := by rfl) (h4 : vs.all flatV = true := by rfl) (hm : behindInMarks .In b = false := by rfl) : DT X E (.Compare a [.In] [b] pos) ρ (.ok (inV u vs)) ρ2 := dt_cmp op_in_seq (op2_inT h3 h4) h h2 hm
theorem tnin {u : V} {vs : List V} (h : DE X E a ρ (.ok (.v u)) ρ1) (h2 : DE X E b ρ1 (.ok (.tup (vs.map D.v))) ρ2) (h3 : flatV u = true := by rfl) (h4 : vs.all flatV = true := by rfl) (hm : behindInMarks .NotIn b = false := by rfl) : DT X E (.Compare a [.NotIn] [b] pos) ρ (.ok (!inV u vs)) ρ2 := dt_cmp op_notIn_seq (op2_inT h3 h4) h h2 hm
/-- signs in a text -/
theorem dinC {c : Nat} {s : Str} {e1 e2 : Expr} (h : DE X E e1 ρ (.ok (dS ⟨#[c]⟩)) ρ1) (h2 : DE X E e2 ρ1 (.ok (dS s)) ρ2) (hm : behindInMarks .In e2 = false := by rfl) : DE X E (.Compare e1 [.In] [e2] pos) ρ (.ok (dB (decide (c ∈ s.cps.toList)))) ρ2 := de_cmp op_in_sign op2_inC h h2 hm
theorem tninC {c : Nat} {s : Str} {e1 e2 : Expr} (h : DE X E e1 ρ (.ok (dS ⟨#[c]⟩)) ρ1) (h2 : DE X E e2 ρ1 (.ok (dS s)) ρ2) (hm : behindInMarks .NotIn e2 = false := by rfl) : DT X E (.Compare e1 [.NotIn] [e2] pos) ρ (.ok (!decide (c ∈ s.cps.toList))) ρ2 := dt_cmp op_notIn_sign op2_ninC h h2 hm
theorem tisN {u : V} (h : DE X E a ρ (.ok (.v u)) ρ1) {q : Pos} {j : Nat} : DT X E (.Compare a [.Is] [.Constant .none j q] pos) ρ (.ok (decide (u = .non))) ρ1 := dt_cmp op_isN op2_isN h de_non (nomark _)
theorem tnotN {u : V} (h : DE X E a ρ (.ok (.v u)) ρ1) {q : Pos} {j : Nat} : DT X E (.Compare a [.IsNot] [.Constant .none j q] pos) ρ (.ok (!decide (u = .non))) ρ1 := dt_cmp op_notN op2_notN h de_non (nomark _)
/-- texts -/
theorem dadd {s t : Str} (h : DE X E a ρ (.ok (dS s)) ρ1) (h2 : DE X E b ρ1 (.ok (dS t)) ρ2) (hz : s.length + t.length ≤ 16000000) : DE X E (.BinOp a .Add b pos) ρ (.ok (dS (s ++ t))) ρ2 := de_op op_add_str (op2_addS hz) h h2
theorem dpart {s t : Str} {apos : Pos} (h : DE X E o ρ (.ok (dS s)) ρ1) (h2 : DE X E e ρ1 (.ok (dS t)) ρ2) (hz : s.length ≤ 16000000) (ht : (t.length == 0) = false := by decide +kernel) (hs : starEach [e] X.env = [(false, eval e X.env)] := by rfl) (hbase : attributeBase o "partition" X.env (eval o X.env) = eval o X.env := by rfl) (hline : (apos.endLine == pos.line) = true := by rfl) :
    DE X E (.Call (.Attribute o "partition" apos) [e] [] pos) ρ (.ok (.tup [dS (Txt.partition s t).1, dS (Txt.partition s t).2.1, dS (Txt.partition s t).2.2])) ρ2 := de_m1 PySem.F.slot_str_partition PySem.F.type_str_partition mt_partition (md_part ht hz) h h2 hs hbase hline
theorem dsplit {s t : Str} {apos : Pos} (h : DE X E o ρ (.ok (dS s)) ρ1) (h2 : DE X E e ρ1 (.ok (dS t)) ρ2) (hz : s.length ≤ 16000000) (ht : (t.length == 0) = false := by decide +kernel) (hs : starEach [e] X.env = [(false, eval e X.env)] := by rfl) (hbase : attributeBase o "split" X.env (eval o X.env) = eval o X.env := by rfl) (hline : (apos.endLine == pos.line) = true := by rfl) :
    DE X E (.Call (.Attribute o "split" apos) [e] [] pos) ρ (.ok (.lst ((Txt.split s t).map dS))) ρ2 := de_m1 PySem.F.slot_str_split PySem.F.type_str_split mt_split (md_split ht hz) h h2 hs hbase hline
theorem djoin {s : Str} {ys : List Str} {apos : Pos} (h : DE X E o ρ (.ok (dS s)) ρ1) (h2 : DE X E e ρ1 (.ok (.lst (ys.map dS))) ρ2) (hz : (ys.map (·.length)).sum + ys.length * s.length ≤ 16000000) (hs : starEach [e] X.env = [(false, eval e X.env)] := by rfl) (hbase : attributeBase o "join" X.env (eval o X.env) = eval o X.env := by rfl) (hline : (apos.endLine == pos.line) = true := by rfl) :
    DE X E (.Call (.Attribute o "join" apos) [e] [] pos) ρ (.ok (dS (Txt.join s ys))) ρ2 := de_m1 PySem.F.slot_str_join PySem.F.type_str_join mt_join (md_join hz) h h2 hs hbase hline
theorem dstarts {s t : Str} {apos : Pos} (h : DE X E o ρ (.ok (dS s)) ρ1) (h2 : DE X E e ρ1 (.ok (dS t)) ρ2) (hs : starEach [e] X.env = [(false, eval e X.env)] := by rfl) (hbase : attributeBase o "startswith" X.env (eval o X.env) = eval o X.env := by rfl) (hline : (apos.endLine == pos.line) = true := by rfl) :
    DE X E (.Call (.Attribute o "startswith" apos) [e] [] pos) ρ (.ok (dB (Txt.startswith s t))) ρ2 := de_m1 PySem.F.slot_str_startswith PySem.F.type_str_startswith mt_startswith md_starts h h2 hs hbase hline
theorem dcutS {s : Str} {lo hi : Option Expr} {l u : Option Int} (h : DE X E e ρ (.ok (dS s)) ρ1) (hl : PO X lo (tDO X.K E ρ1 l ρ2)) (hu : PO X hi (tDO X.K E ρ2 u ρ3)) (hz : s.length ≤ 16000000) : DE X E (.Subscript e (.Slice lo hi none p2) pos) ρ (.ok (dS (cutS s l u))) ρ3 := de_slice sl_str (sl3_str hz) h hl hu
/-- x = e -/
theorem dset {i : Nat} {px : Pos} {R : Out → Prop} (C : Cp X E k) (h : DE X E e ρ (.ok d) ρ1) (kk : R (.nx (ρ1.set i (.dat d)))) (hi : X.N[i]? = some x := by rfl) (hx : Loc X.env.scope x := by first | exact Or.inl rfl | exact Or.inr rfl) (hl : i < ρ1.length := by exact Nat.le_of_ble_eq_true rfl) (hs : swapsWith e (some (.Name x px)) pos.line X.env = pure false := by rfl)
    (hf : X.fn x = true ∨ X.env.scope.names.lookup x = some .local := by first | exact .inl rfl | exact .inr rfl | assumption) : DS X E (.Assign [.Name x px] e pos) ρ R := ds_set C.nd hi hx h hl kk hs hf
theorem gn {i : Nat} (C : Cp X E k) (hi : X.N[i]? = some x := by rfl) (hx : Loc X.env.scope x := by first | exact Or.inl rfl | exact Or.inr rfl) (hl : i < ρ.length := by exact Nat.le_of_ble_eq_true rfl) (hf : X.fn x = true ∨ X.env.scope.names.lookup x = some .local := by first | exact .inl rfl | exact .inr rfl | assumption) : DG X (.Name x pos) ρ d (ρ.set i (.dat d)) := dg_name C.nd hi hx hl hf
end
end Kd
set_option Elab.async false
set_option linter.all false
set_option maxRecDepth 100000
set_option maxHeartbeats 2000000
/-! comprehensions over encoded lists; tests of open answers -/
namespace Kd
open PySem PySem.Spec PyProof.Rows L2
variable [LT]
def mapA {α β : Type} (g : α → Except Er β) : List α → Except Er (List β)
  | [] => .ok []
  | d :: ds => match g d with
    | .error x => .error x
    | .ok y => match mapA g ds with
      | .error x => .error x
      | .ok ys => .ok (y :: ys)
section
variable {α β : Type} {g : α → Except Er β}
theorem mapA_cons {d : α} {ds : List α} : mapA g (d :: ds) = (match g d with | .error x => .error x | .ok y => match mapA g ds with | .error x => .error x | .ok ys => .ok (y :: ys)) := rfl
theorem mapA_app : ∀ {xs ys : List α} {acc : List β}, mapA g xs = .ok acc → mapA g (xs ++ ys) = (match mapA g ys with | .error x => .error x | .ok zs => .ok (acc ++ zs))
  | [], ys, acc, h => by
    cases h
    show mapA g ys = _
    cases mapA g ys <;> rfl
  | x :: xs, ys, acc, h => by
    rw [List.cons_append, mapA_cons]
    rw [mapA_cons] at h
    cases q : g x with
    | error e => rw [q] at h; cases h
    | ok y =>
      rw [q] at h
      cases q2 : mapA g xs with
      | error e =>
        rw [q2] at h
        cases h
      | ok zs =>
        rw [q2] at h
        cases h
        rw [mapA_app q2]
        cases mapA g ys <;> rfl
theorem mapA_take {ds : List α} {acc : List β} {i : Nat} {d : α} (h : mapA g (ds.take i) = .ok acc) (hd : ds[i]? = some d) :
    (∀ y, g d = .ok y → mapA g (ds.take (i + 1)) = .ok (acc ++ [y])) ∧ ∀ x, g d = .error x → mapA g ds = .error x := by
  obtain ⟨hi, e⟩ := List.getElem?_eq_some_iff.mp hd
  have e1 : ds.take (i + 1) = ds.take i ++ [d] := by rw [List.take_succ, hd]; rfl
  refine ⟨fun y hy => ?_, fun x hx => ?_⟩
  · rw [e1, mapA_app h, mapA_cons, hy]
    rfl
  · have e2 : ds = ds.take i ++ (d :: ds.drop (i + 1)) := by
      rw [← e, List.getElem_cons_drop, List.take_append_drop]
    rw [e2, mapA_app h, mapA_cons, hx]
theorem mapA_ok {f : α → β} : ∀ {ds : List α}, (∀ d ∈ ds, g d = .ok (f d)) → mapA g ds = .ok (ds.map f)
  | [], _ => rfl
  | d :: ds, h => by
    rw [mapA_cons, h d List.mem_cons_self, mapA_ok fun e he => h e (List.mem_cons_of_mem _ he)]
    rfl
end
section
variable {X : Cx} {E : XK} {k : Nat} {elt iter a b c e : Expr} {es : List Expr} {ifs : List Expr} {scope : Scope} {pos p pt p1 p2 : Pos} {ρ ρ1 ρ2 : List Sl} {ds : List D} {n m : Str} {j i : Nat} {d x y z : D} {α : Type}
theorem lend_get {ρ : List Sl} {i : Nat} {b : Bool} {es : List D} (q : ρ[i]? = some (.own b es)) : (lend ρ)[i]? = some (.own true es) := by
  unfold lend
  rw [List.getElem?_map, q]
  rfl
/-- [elt for .. in ..], nothing is changed, the first error counts; the target is any -/
theorem lc_map {g : α → Res} {xs : List α} {enc : α → D} {tg : Expr} {tgv : TG} {own : List (Str × Nat)} {st : D → List Sl → List Sl} {ok : D → Prop} (C : Ct X E k) (hi : DI X E tg iter ρ (.ok (xs.map enc)) ρ1) (bo : BlkOk X.N X.env.scope scope own) (hg : ∀ (s : Shared) (H : Hp) (Cc : Addr) (cl : List (Str × Addr)) (fp : List Addr) (xe : Value → Shared → Prop), PG (bx X s H scope (compEnvC scope cl Cc X.env) fp xe) tg tgv)
    (tg1 : TgOk X.K tgv (own.map (·.2)) st ok) (hok : ∀ a ∈ xs, ok (enc a)) (hst : ∀ d ρ (i : Nat), i ∉ own.map (·.2) → (st d ρ)[i]? = ρ[i]?) (own1 : ∀ (i : Nat) b es, i ∈ own.map (·.2) → ρ1[i]? = some (.own b es) → False) (hlen : xs.length ≤ 16000000)
    (he : ∀ (s : Shared) (H : Hp) (Cc : Addr) (cl : List (Str × Addr)) (fp : List Addr) (xe : Value → Shared → Prop), Cp (bx X s H scope (compEnvC scope cl Cc X.env) fp xe) E k → ∀ a ∈ xs, DE (bx X s H scope (compEnvC scope cl Cc X.env) fp xe) E elt (st (enc a) (lend ρ1)) (g a) (st (enc a) (lend ρ1)))
    (hs : ∀ x, foldedSetIterable iter X.env x = pure x := by intro _; rfl) : DE X E (.ListComp elt [⟨tg, iter, [], 0⟩] scope pos) ρ ((mapA g xs).map D.lst) ρ1 := by
  have get : ∀ {i : Nat} {d : D}, (xs.map enc)[i]? = some d → ∃ a, xs[i]? = some a ∧ d = enc a := fun {i d} h => by
    rw [List.getElem?_map] at h
    cases q : xs[i]? with
    | none => rw [q] at h; cases h
    | some a => rw [q] at h; cases h; exact ⟨a, rfl, rfl⟩
  refine de_lc C hi bo hg tg1 (fun d hd => by obtain ⟨a, ha, rfl⟩ := List.mem_map.mp hd; exact hok a ha) hst own1 (by simpa using hlen) (fun i acc ρ' => ρ' = ρ1 ∧ mapA g (xs.take i) = .ok acc) ⟨rfl, by rw [List.take_zero]; rfl⟩ (fun i acc ρ' h => by rw [h.1]; exact own1)
    (fun _ b => b = true) (fun ρt y ρt' => ρt' = ρt ∧ ∃ a ∈ xs, ρt = st (enc a) (lend ρ1) ∧ y = g a) (fun s H Cc cl fp xe cp ρt b hb => ?_) (fun s H Cc cl fp xe cp ρt y ρt' h => ?_) (fun i acc ρ' d h hd _ => ?_) (fun acc ρ' h => ?_) hs
  · subst hb
    exact ⟨fun pins s' σ H' Q I ⟨en, F, w, k1, _⟩ => pts_nil.run pins s' σ H' Q I (k1 true rfl F H' w (Same.refl F))⟩
  · obtain ⟨rfl, a, ha, rfl, rfl⟩ := h
    exact he s H Cc cl fp xe cp a ha
  · obtain ⟨rfl, h⟩ := h
    obtain ⟨a, ha, rfl⟩ := get hd
    obtain ⟨t1, t2⟩ := mapA_take h ha
    refine ⟨true, rfl, (fun z => by cases z), fun _ => ⟨g a, st (enc a) (lend ρ'), ⟨rfl, a, List.mem_of_getElem? ha, rfl, rfl⟩, fun z hz => ⟨ρ', ⟨rfl, t1 z hz⟩, rfl, fun _ _ q => q, fun i b es q => ⟨es, q, .inr ?_⟩⟩, fun x hx => by rw [t2 x hx]; rfl⟩⟩
    have ne : i ∉ own.map (·.2) := fun hm => own1 i b es hm q
    exact ⟨ne, by rw [hst _ _ _ ne]; exact lend_get q⟩
  · obtain ⟨rfl, h⟩ := h
    rw [List.length_map, List.take_length] at h
    rw [h]
    exact ⟨rfl, rfl⟩
theorem own_one {ρ : List Sl} {n : Str} {j : Nat} (h : ∀ b es, ρ[j]? = some (.own b es) → False) : ∀ (i : Nat) b es, i ∈ [(n, j)].map (·.2) → ρ[i]? = some (.own b es) → False := fun i b es hm q => by
  have e : i = j := by simpa using hm
  rw [e] at q
  exact h b es q
theorem own_two {ρ : List Sl} {n m : Str} {j j2 : Nat} (h : ∀ b es, ρ[j]? = some (.own b es) → False) (h2 : ∀ b es, ρ[j2]? = some (.own b es) → False) : ∀ (i : Nat) b es, i ∈ [(n, j), (m, j2)].map (·.2) → ρ[i]? = some (.own b es) → False := fun i b es hm q => by
  have e : i = j ∨ i = j2 := by simpa using hm
  rcases e with e | e <;> rw [e] at q
  · exact h b es q
  · exact h2 b es q
/-- for one name -/
theorem dlc {g : α → Res} {xs : List α} {enc : α → D} (C : Ct X E k) (j : Nat) (hi : DI X E (.Name n pt) iter ρ (.ok (xs.map enc)) ρ1) (hlen : xs.length ≤ 16000000)
    (he : ∀ (s : Shared) (H : Hp) (Cc : Addr) (cl : List (Str × Addr)) (fp : List Addr) (xe : Value → Shared → Prop), Cp (bx X s H scope (compEnvC scope cl Cc X.env) fp xe) E k → ∀ a ∈ xs, DE (bx X s H scope (compEnvC scope cl Cc X.env) fp xe) E elt (st1 j (enc a) (lend ρ1)) (g a) (st1 j (enc a) (lend ρ1)))
    (hn : X.N[j]? = some n := by rfl) (bo : BlkOk X.N X.env.scope scope [(n, j)] := by exact blkOk_by (by first | decide +kernel | (dsimp only [cxOf, bx, compEnvC, envOfC]; decide +kernel) | rfl)) (hown : ∀ b es, ρ1[j]? = some (.own b es) → False := by intro b es h; cases h)
    (hloc : scope.names.lookup n = some .local := by rfl)
    (hs : ∀ x, foldedSetIterable iter X.env x = pure x := by intro _; rfl) : DE X E (.ListComp elt [⟨.Name n pt, iter, [], 0⟩] scope pos) ρ ((mapA g xs).map D.lst) ρ1 :=
  lc_map C hi bo (fun _ _ _ _ _ _ => pg_name C.nd hn (Or.inl (lookup_relabel_local hloc)) (.inr (lookup_relabel_local hloc))) (tg_name (K := X.K) (List.getElem?_eq_some_iff.mp hn).1).1 (fun _ _ => trivial) (fun d ρ i hm => st1_out hm) (own_one hown) hlen he hs
/-- .. nothing raised -/
theorem dlcP {g : α → D} {xs : List α} {enc : α → D} (C : Ct X E k) (j : Nat) (hi : DI X E (.Name n pt) iter ρ (.ok (xs.map enc)) ρ1) (hlen : xs.length ≤ 16000000)
    (he : ∀ (s : Shared) (H : Hp) (Cc : Addr) (cl : List (Str × Addr)) (fp : List Addr) (xe : Value → Shared → Prop), Cp (bx X s H scope (compEnvC scope cl Cc X.env) fp xe) E k → ∀ a ∈ xs, DE (bx X s H scope (compEnvC scope cl Cc X.env) fp xe) E elt (st1 j (enc a) (lend ρ1)) (.ok (g a)) (st1 j (enc a) (lend ρ1)))
    (hn : X.N[j]? = some n := by rfl) (bo : BlkOk X.N X.env.scope scope [(n, j)] := by exact blkOk_by (by first | decide +kernel | (dsimp only [cxOf, bx, compEnvC, envOfC]; decide +kernel) | rfl)) (hown : ∀ b es, ρ1[j]? = some (.own b es) → False := by intro b es h; cases h)
    (hloc : scope.names.lookup n = some .local := by rfl)
    (hs : ∀ x, foldedSetIterable iter X.env x = pure x := by intro _; rfl) : DE X E (.ListComp elt [⟨.Name n pt, iter, [], 0⟩] scope pos) ρ (.ok (.lst (xs.map g))) ρ1 :=
  (dlc (g := fun a => .ok (g a)) C j hi hlen he hn bo hown hloc hs).to (by rw [mapA_ok (f := g) fun _ _ => rfl]; rfl)
/-- for two names -/
theorem dlc2 {g : α → Res} {xs : List α} {e1 e2 : α → D} {kk : Nat} (C : Ct X E k) (i j : Nat) (hi : DI X E (.Tuple [.Name n p1, .Name m p2] kk pt) iter ρ (.ok (xs.map fun a => .tup [e1 a, e2 a])) ρ1) (hlen : xs.length ≤ 16000000)
    (he : ∀ (s : Shared) (H : Hp) (Cc : Addr) (cl : List (Str × Addr)) (fp : List Addr) (xe : Value → Shared → Prop), Cp (bx X s H scope (compEnvC scope cl Cc X.env) fp xe) E k → ∀ a ∈ xs, DE (bx X s H scope (compEnvC scope cl Cc X.env) fp xe) E elt (((wipeR (lend ρ1) [i, j]).set i (.dat (e1 a))).set j (.dat (e2 a))) (g a) (((wipeR (lend ρ1) [i, j]).set i (.dat (e1 a))).set j (.dat (e2 a))))
    (hij : i ≠ j := by decide) (bo : BlkOk X.N X.env.scope scope [(n, i), (m, j)] := by exact blkOk_by (by first | decide +kernel | (dsimp only [cxOf, bx, compEnvC, envOfC]; decide +kernel) | rfl)) (hown : ∀ b es, ρ1[i]? = some (.own b es) → False := by intro b es h; cases h) (hown2 : ∀ b es, ρ1[j]? = some (.own b es) → False := by intro b es h; cases h)
    (hn : X.N[i]? = some n := by rfl) (hn2 : X.N[j]? = some m := by rfl) (hloc : scope.names.lookup n = some .local := by rfl) (hloc2 : scope.names.lookup m = some .local := by rfl)
    (hs : ∀ x, foldedSetIterable iter X.env x = pure x := by intro _; rfl) : DE X E (.ListComp elt [⟨.Tuple [.Name n p1, .Name m p2] kk pt, iter, [], 0⟩] scope pos) ρ ((mapA g xs).map D.lst) ρ1 :=
  lc_map C hi bo (fun _ _ _ _ _ _ => pg_tup (X := bx _ _ _ _ _ _ _) C.calm (pgs_cons (X := bx _ _ _ _ _ _ _) (pg_name (X := bx _ _ _ _ _ _ _) C.nd hn (Or.inl (lookup_relabel_local hloc)) (.inr (lookup_relabel_local hloc))) (pgs_cons (X := bx _ _ _ _ _ _ _) (pg_name (X := bx _ _ _ _ _ _ _) C.nd hn2 (Or.inl (lookup_relabel_local hloc2)) (.inr (lookup_relabel_local hloc2))) pgs_nil))) (tg_pair (K := X.K) hij) (fun a _ => ⟨_, _, rfl⟩) (fun d ρ i hm => st2_out hm) (own_two hown hown2) hlen he hs
/-- [n for n in .. if c] and its like: nothing is changed, nothing raised -/
theorem dlcF {c : Expr} {g : α → D} {t : α → Bool} {xs : List α} {enc : α → D} (C : Ct X E k) (j : Nat) (hi : DI X E (.Name n pt) iter ρ (.ok (xs.map enc)) ρ1) (hlen : xs.length ≤ 16000000)
    (ht : ∀ (s : Shared) (H : Hp) (Cc : Addr) (cl : List (Str × Addr)) (fp : List Addr) (xe : Value → Shared → Prop), Cp (bx X s H scope (compEnvC scope cl Cc X.env) fp xe) E k → ∀ a ∈ xs, DT (bx X s H scope (compEnvC scope cl Cc X.env) fp xe) E c (st1 j (enc a) (lend ρ1)) (.ok (t a)) (st1 j (enc a) (lend ρ1)))
    (he : ∀ (s : Shared) (H : Hp) (Cc : Addr) (cl : List (Str × Addr)) (fp : List Addr) (xe : Value → Shared → Prop), Cp (bx X s H scope (compEnvC scope cl Cc X.env) fp xe) E k → ∀ a ∈ xs, DE (bx X s H scope (compEnvC scope cl Cc X.env) fp xe) E elt (st1 j (enc a) (lend ρ1)) (.ok (g a)) (st1 j (enc a) (lend ρ1)))
    (hn : X.N[j]? = some n := by rfl) (bo : BlkOk X.N X.env.scope scope [(n, j)] := by exact blkOk_by (by first | decide +kernel | (dsimp only [cxOf, bx, compEnvC, envOfC]; decide +kernel) | rfl)) (hown : ∀ b es, ρ1[j]? = some (.own b es) → False := by intro b es h; cases h)
    (hloc : scope.names.lookup n = some .local := by rfl)
    (hs : ∀ x, foldedSetIterable iter X.env x = pure x := by intro _; rfl) : DE X E (.ListComp elt [⟨.Name n pt, iter, [c], 0⟩] scope pos) ρ (.ok (.lst ((xs.filter t).map g))) ρ1 := by
  have own1 := own_one (n := n) hown
  have get : ∀ {i : Nat} {d : D}, (xs.map enc)[i]? = some d → ∃ a, xs[i]? = some a ∧ d = enc a := fun {i d} h => by
    rw [List.getElem?_map] at h
    cases q : xs[i]? with
    | none => rw [q] at h; cases h
    | some a => rw [q] at h; cases h; exact ⟨a, rfl, rfl⟩
  refine de_lc C hi bo (fun _ _ _ _ _ _ => pg_name C.nd hn (Or.inl (lookup_relabel_local hloc)) (.inr (lookup_relabel_local hloc))) (tg_name (K := X.K) (List.getElem?_eq_some_iff.mp hn).1).1 (fun _ _ => trivial) (fun d ρ i hm => st1_out hm) own1 (by simpa using hlen) (fun i acc ρ' => ρ' = ρ1 ∧ acc = ((xs.take i).filter t).map g) ⟨rfl, by rw [List.take_zero]; rfl⟩ (fun i acc ρ' h => by rw [h.1]; exact own1)
    (fun ρt b => ∃ a ∈ xs, ρt = st1 j (enc a) (lend ρ1) ∧ b = t a) (fun ρt y ρt' => ρt' = ρt ∧ ∃ a ∈ xs, ρt = st1 j (enc a) (lend ρ1) ∧ y = .ok (g a)) (fun s H Cc cl fp xe cp ρt b hb => ?_) (fun s H Cc cl fp xe cp ρt y ρt' h => ?_) (fun i acc ρ' d h hd _ => ?_) (fun acc ρ' h => ?_) hs
  · obtain ⟨d, hd, rfl, rfl⟩ := hb
    exact pts_one (ht s H Cc cl fp xe cp d hd)
  · obtain ⟨rfl, d, hd, rfl, rfl⟩ := h
    exact he s H Cc cl fp xe cp d hd
  · obtain ⟨rfl, rfl⟩ := h
    obtain ⟨a, ha, rfl⟩ := get hd
    have hm := List.mem_of_getElem? ha
    have e1 : xs.take (i + 1) = xs.take i ++ [a] := by rw [List.take_succ, ha]; rfl
    refine ⟨t a, ⟨a, hm, rfl, rfl⟩, fun hf => ⟨rfl, ?_⟩, fun htd => ⟨.ok (g a), st1 j (enc a) (lend ρ'), ⟨rfl, a, hm, rfl, rfl⟩, fun z hz => ⟨ρ', ⟨rfl, ?_⟩, rfl, fun _ _ q => q, fun i b es q => ⟨es, q, .inr ?_⟩⟩, fun x hx => by cases hx⟩⟩
    · rw [e1, List.filter_append, List.map_append]
      simp [hf]
    · cases hz
      rw [e1, List.filter_append, List.map_append]
      simp [htd]
    · have ne : i ∉ [j] := fun hm => own1 i b es (by simpa using hm) q
      exact ⟨by simpa using ne, by rw [st1_out ne]; exact lend_get q⟩
  · obtain ⟨rfl, rfl⟩ := h
    rw [List.length_map, List.take_length]
    exact ⟨rfl, rfl⟩
/-! ### tests of open answers, nothing changed -/
variable {rest : List Expr} {k1 k2 : Bool}
theorem dw_or (h : DT X E a ρ (.ok k1) ρ) (hr : k1 = false → DW X E (.BoolOp .Or (b :: rest) pos) ρ (.ok k2) ρ) : DW X E (.BoolOp .Or (a :: b :: rest) pos) ρ (.ok (k1 || k2)) ρ := by
  cases k1 with
  | true => exact dw_orT h
  | false => exact dw_orF h (hr rfl)
theorem dw_and (h : DT X E a ρ (.ok k1) ρ) (hr : k1 = true → DW X E (.BoolOp .And (b :: rest) pos) ρ (.ok k2) ρ) : DW X E (.BoolOp .And (a :: b :: rest) pos) ρ (.ok (k1 && k2)) ρ := by
  cases k1 with
  | true => exact dw_andT h (hr rfl)
  | false => exact dw_andF h
theorem de_and (h : DE X E a ρ (.ok (dB k1)) ρ) (hr : k1 = true → DE X E (.BoolOp .And (b :: rest) pos) ρ (.ok (dB k2)) ρ) : DE X E (.BoolOp .And (a :: b :: rest) pos) ρ (.ok (dB (k1 && k2))) ρ := by
  cases k1 with
  | true => exact de_andT h (hr rfl)
  | false => exact de_andF h
theorem de_or (h : DE X E a ρ (.ok (dB k1)) ρ) (hr : k1 = false → DE X E (.BoolOp .Or (b :: rest) pos) ρ (.ok (dB k2)) ρ) : DE X E (.BoolOp .Or (a :: b :: rest) pos) ρ (.ok (dB (k1 || k2))) ρ := by
  cases k1 with
  | true => exact de_orT h
  | false => exact de_orF h (hr rfl)
/-- two, three of them as a test -/
theorem or2 (h : DT X E a ρ (.ok k1) ρ) (h2 : k1 = false → DT X E b ρ (.ok k2) ρ) : DT X E (.BoolOp .Or [a, b] pos) ρ (.ok (k1 || k2)) ρ := dt_w (dw_or h fun z => dw_or1 (h2 z))
theorem or3 {k3 : Bool} (h : DT X E a ρ (.ok k1) ρ) (h2 : k1 = false → DT X E b ρ (.ok k2) ρ) (h3 : k1 = false → k2 = false → DT X E c ρ (.ok k3) ρ) : DT X E (.BoolOp .Or [a, b, c] pos) ρ (.ok (k1 || (k2 || k3))) ρ := dt_w (dw_or h fun z => dw_or (h2 z) fun z2 => dw_or1 (h3 z z2))
theorem and2 (h : DT X E a ρ (.ok k1) ρ) (h2 : k1 = true → DT X E b ρ (.ok k2) ρ) : DT X E (.BoolOp .And [a, b] pos) ρ (.ok (k1 && k2)) ρ := dt_w (dw_and h fun z => dw_and1 (h2 z))
theorem vand2 (h : DE X E a ρ (.ok (dB k1)) ρ) (h2 : k1 = true → DE X E b ρ (.ok (dB k2)) ρ) : DE X E (.BoolOp .And [a, b] pos) ρ (.ok (dB (k1 && k2))) ρ := de_and h fun z => de_one (h2 z)
theorem vand3 {k3 : Bool} (h : DE X E a ρ (.ok (dB k1)) ρ) (h2 : k1 = true → DE X E b ρ (.ok (dB k2)) ρ) (h3 : k1 = true → k2 = true → DE X E c ρ (.ok (dB k3)) ρ) : DE X E (.BoolOp .And [a, b, c] pos) ρ (.ok (dB (k1 && (k2 && k3)))) ρ := de_and h fun z => de_and (h2 z) fun z2 => de_one (h3 z z2)
theorem vor2 (h : DE X E a ρ (.ok (dB k1)) ρ) (h2 : k1 = false → DE X E b ρ (.ok (dB k2)) ρ) : DE X E (.BoolOp .Or [a, b] pos) ρ (.ok (dB (k1 || k2))) ρ := de_or h fun z => de_one (h2 z)
end
end Kd
set_option Elab.async false
set_option linter.all false
set_option maxRecDepth 100000
set_option maxHeartbeats 2000000
/-! texts as lists of code points -/
namespace Kd
open PySem PySem.Spec PyProof.Rows L2
variable [LT]
abbrev T := List Nat
abbrev dIn (n : Nat) : D := dI (n : Int)
abbrev dL (l : T) : D := dS (SX.S l)
def pt (S s : T) : T × T × T := match TL.par S [] s with | some (p, q) => (p, S, q) | none => (s, [], [])
theorem partition_pt {S s : T} (h : S ≠ []) : Txt.partition (SX.S s) (SX.S S) = (SX.S (pt S s).1, SX.S (pt S s).2.1, SX.S (pt S s).2.2) := by
  unfold pt
  cases q : TL.par S [] s with
  | none => exact SX.partition_none h q
  | some p => exact SX.partition_some h q
theorem tlS {l : T} : (SX.S l).cps.toList = l := rfl
theorem num_S (n : Nat) : (Str.ofString (toString (n : Int))) = SX.S (TL.numL n) := TL.ext_tl (TL.tl_num n)
theorem v_num (n : Nat) : (.v (.str (toString (n : Int))) : D) = dL (TL.numL n) := congrArg (fun x => D.v (V.str x)) (num_S n)
theorem small_log {n : Nat} (h : n < 10 ^ 40) : ((n : Int).natAbs.log2 < 1920) := by
  rw [Int.natAbs_natCast]
  by_cases z : n = 0
  · subst z; decide
  · exact (Nat.log2_lt z).mpr (Nat.lt_trans h (by decide +kernel))
theorem str_inj {a b : T} : (V.str (SX.S a) = V.str (SX.S b)) ↔ a = b := ⟨fun h => SX.S_inj (by cases h; rfl), fun h => by rw [h]⟩
theorem inV_L {a : T} : ∀ {ls : List T}, inV (V.str (SX.S a)) (ls.map fun l => V.str (SX.S l)) = decide (a ∈ ls)
  | [] => rfl
  | l :: ls => by
    have ih := inV_L (a := a) (ls := ls)
    unfold inV at ih ⊢
    have e : eqV (V.str (SX.S l)) (V.str (SX.S a)) = decide (a = l) := by
      show ((SX.S l : Str) == SX.S a) = _
      rw [SX.S_beq_eq]
      exact decide_eq_decide.mpr ⟨Eq.symm, Eq.symm⟩
    rw [List.map_cons, List.any_cons, ih, e, Bool.eq_iff_iff, Bool.or_eq_true, decide_eq_true_eq, decide_eq_true_eq, decide_eq_true_eq, List.mem_cons]
section
variable {X : Cx} {E : XK} {k : Nat} {elt iter a b c e o : Expr} {es : List Expr} {scope : Scope} {pos p pt p2 : Pos} {ρ ρ1 ρ2 ρ3 : List Sl} {ds : List D} {n m x : Str} {d d1 d2 d3 z : D} {j : Nat} {s t l : T}
theorem lit {i : Nat} (h : x = SX.S l := by decide +kernel) : DE X E (.Constant (.str x) i pos) ρ (.ok (dL l)) ρ := h ▸ de_str
theorem dgL (hm : ∃ t, X.mg x = some (.str (SX.S l) t)) (hg : Gl X x := by rfl) (hdb : (x == ("__debug__" : Str)) = false := by decide) : DE X E (.Name x pos) ρ (.ok (dL l)) ρ := dgS hm hg hdb
theorem llen (hm : X.mg "len" = none) (h : DE X E a ρ (.ok (dL l)) ρ1) (hz : l.length ≤ 16000000) (hg : Gl X "len" := by rfl) (hs : starEach [a] X.env = (false, eval a X.env) :: starEach [] X.env := by rfl) (hpl : (backTo pos (starEach [] X.env)).any (·.1) = false := by rfl) :
    DE X E (.Call (.Name "len" p) [a] [] pos) ρ (.ok (dI l.length)) ρ1 := (dlenS hm h (by rw [SX.S_len]; exact hz) hg hs hpl).to (by rw [SX.S_len])
theorem lpart {apos : Pos} (h : DE X E o ρ (.ok (dL s)) ρ1) (h2 : DE X E e ρ1 (.ok (dL t)) ρ2) (hz : s.length ≤ 16000000) (ht : t ≠ [] := by decide) (hs : starEach [e] X.env = [(false, eval e X.env)] := by rfl) (hbase : attributeBase o "partition" X.env (eval o X.env) = eval o X.env := by rfl) (hline : (apos.endLine == pos.line) = true := by rfl) :
    DE X E (.Call (.Attribute o "partition" apos) [e] [] pos) ρ (.ok (.tup [dL (Kd.pt t s).1, dL (Kd.pt t s).2.1, dL (Kd.pt t s).2.2])) ρ2 := (dpart h h2 (by rw [SX.S_len]; exact hz) (by
      rw [SX.S_len]
      cases t with
      | nil => exact absurd rfl ht
      | cons a b => rfl) hs hbase hline).to (by rw [partition_pt ht])
theorem lsplit {apos : Pos} (h : DE X E o ρ (.ok (dL s)) ρ1) (h2 : DE X E e ρ1 (.ok (dL t)) ρ2) (hz : s.length ≤ 16000000) (ht : t ≠ [] := by decide) (hk : t.all (· < 256) = true := by decide) (hs : starEach [e] X.env = [(false, eval e X.env)] := by rfl) (hbase : attributeBase o "split" X.env (eval o X.env) = eval o X.env := by rfl) (hline : (apos.endLine == pos.line) = true := by rfl) :
    DE X E (.Call (.Attribute o "split" apos) [e] [] pos) ρ (.ok (.lst ((TL.spl t 0 [] s).map dL))) ρ2 := (dsplit h h2 (by rw [SX.S_len]; exact hz) (by
      rw [SX.S_len]
      cases t with
      | nil => exact absurd rfl ht
      | cons a b => rfl) hs hbase hline).to (by rw [SX.split_S ht hk, List.map_map]; rfl)
theorem ljoin {ys : List T} {apos : Pos} (h : DE X E o ρ (.ok (dL s)) ρ1) (h2 : DE X E e ρ1 (.ok (.lst (ys.map dL))) ρ2) (hz : (ys.map (·.length)).sum + ys.length * s.length ≤ 16000000) (hs : starEach [e] X.env = [(false, eval e X.env)] := by rfl) (hbase : attributeBase o "join" X.env (eval o X.env) = eval o X.env := by rfl) (hline : (apos.endLine == pos.line) = true := by rfl) :
    DE X E (.Call (.Attribute o "join" apos) [e] [] pos) ρ (.ok (dL (TL.joinL s ys))) ρ2 := (djoin (ys := ys.map SX.S) h (h2.to (by rw [List.map_map]; rfl)) (by rw [SX.lens, List.length_map, SX.S_len]; exact hz) hs hbase hline).to (by rw [SX.join_S])
theorem ladd (h : DE X E a ρ (.ok (dL s)) ρ1) (h2 : DE X E b ρ1 (.ok (dL t)) ρ2) (hz : s.length + t.length ≤ 16000000) : DE X E (.BinOp a .Add b pos) ρ (.ok (dL (s ++ t))) ρ2 := (dadd h h2 (by rw [SX.S_len, SX.S_len]; exact hz)).to (by rw [SX.S_cat])
theorem lstarts {apos : Pos} (h : DE X E o ρ (.ok (dL s)) ρ1) (h2 : DE X E e ρ1 (.ok (dL t)) ρ2) (hs : starEach [e] X.env = [(false, eval e X.env)] := by rfl) (hbase : attributeBase o "startswith" X.env (eval o X.env) = eval o X.env := by rfl) (hline : (apos.endLine == pos.line) = true := by rfl) :
    DE X E (.Call (.Attribute o "startswith" apos) [e] [] pos) ρ (.ok (dB (decide (s.take t.length = t)))) ρ2 := (dstarts h h2 hs hbase hline).to (by
      have e : Txt.startswith (SX.S s) (SX.S t) = decide (s.take t.length = t) := by
        rw [Bool.eq_iff_iff, decide_eq_true_eq]
        unfold Txt.startswith
        rw [Bool.and_eq_true, decide_eq_true_eq, SX.S_len, SX.S_len, PySem.StrLaws.subAt_eq, List.drop_zero, beq_iff_eq, SX.S_len]
        constructor
        · exact fun h => h.2
        · exact fun h => ⟨by have := congrArg List.length h; rw [List.length_take] at this; omega, h⟩
      rw [e])
theorem cut_from {s : T} {n : Nat} : cutS (SX.S s) (some (n : Int)) none = SX.S (s.drop n) := by
  unfold cutS
  rw [HT.sIx_nat, HT.sIx_none, SX.S_len]
  refine congrArg SX.S ?_
  by_cases h : n ≤ s.length
  · rw [Nat.min_eq_left h]
    exact List.take_of_length_le (by rw [List.length_drop]; exact Nat.le_refl _)
  · rw [Nat.min_eq_right (by omega), Nat.sub_self, List.take_zero]
    exact (List.drop_eq_nil_of_le (by omega)).symm
theorem cut_to {s : T} {n : Nat} : cutS (SX.S s) none (some (n : Int)) = SX.S (s.take n) := by
  unfold cutS
  rw [HT.sIx_nat, HT.sIx_none, SX.S_len, Nat.sub_zero]
  refine congrArg SX.S ?_
  show (s.drop 0).take (min n s.length) = _
  rw [List.drop_zero]
  by_cases h : n ≤ s.length
  · rw [Nat.min_eq_left h]
  · rw [Nat.min_eq_right (by omega), List.take_of_length_le (Nat.le_refl _), List.take_of_length_le (by omega)]
theorem cut_mid {s : T} {m n : Nat} : cutS (SX.S s) (some (m : Int)) (some (n : Int)) = SX.S ((s.drop m).take (n - m)) := by
  unfold cutS
  rw [HT.sIx_nat, HT.sIx_nat, SX.S_len]
  refine congrArg SX.S ?_
  show (s.drop (min m s.length)).take (min n s.length - min m s.length) = _
  by_cases h : m ≤ s.length
  · rw [Nat.min_eq_left h]
    by_cases h2 : n ≤ s.length
    · rw [Nat.min_eq_left h2]
    · rw [Nat.min_eq_right (by omega), List.take_of_length_le (by rw [List.length_drop]; exact Nat.le_refl _), List.take_of_length_le (by rw [List.length_drop]; omega)]
  · rw [Nat.min_eq_right (show s.length ≤ m by omega), List.drop_eq_nil_of_le (Nat.le_refl _), List.drop_eq_nil_of_le (by omega), List.take_nil, List.take_nil]
theorem lfrom {i : Nat} (h : DE X E e ρ (.ok (dL s)) ρ1) (hl : DE X E a ρ1 (.ok (dI (i : Int))) ρ2) (hz : s.length ≤ 16000000) : DE X E (.Subscript e (.Slice (some a) none none p2) pos) ρ (.ok (dL (s.drop i))) ρ2 := (dcutS h (do_some hl) do_none (by rw [SX.S_len]; exact hz)).to (by rw [cut_from])
theorem lupto {i : Nat} (h : DE X E e ρ (.ok (dL s)) ρ1) (hl : DE X E a ρ1 (.ok (dI (i : Int))) ρ2) (hz : s.length ≤ 16000000) : DE X E (.Subscript e (.Slice none (some a) none p2) pos) ρ (.ok (dL (s.take i))) ρ2 := (dcutS h do_none (do_some hl) (by rw [SX.S_len]; exact hz)).to (by rw [cut_to])
theorem lmid {i j : Nat} (h : DE X E e ρ (.ok (dL s)) ρ1) (hl : DE X E a ρ1 (.ok (dI (i : Int))) ρ2) (hu : DE X E b ρ2 (.ok (dI (j : Int))) ρ3) (hz : s.length ≤ 16000000) : DE X E (.Subscript e (.Slice (some a) (some b) none p2) pos) ρ (.ok (dL ((s.drop i).take (j - i)))) ρ3 := (dcutS h (do_some hl) (do_some hu) (by rw [SX.S_len]; exact hz)).to (by rw [cut_mid])
theorem lstr {i : Nat} (hm : X.mg "str" = none) (h : DE X E a ρ (.ok (dI (i : Int))) ρ1) (hz : i < 10 ^ 40) (hg : Gl X "str" := by rfl) (hs : starEach [a] X.env = (false, eval a X.env) :: starEach [] X.env := by rfl) (hpl : (backTo pos (starEach [] X.env)).any (·.1) = false := by rfl) :
    DE X E (.Call (.Name "str" p) [a] [] pos) ρ (.ok (dL (TL.numL i))) ρ1 := (dstrI hm h (small_log hz) hg hs hpl).to (by rw [v_num])
theorem lint (hm : X.mg "int" = none) (h : DE X E a ρ (.ok (dL s)) ρ1) (h1 : PySem.NumText.AllDigits s) (h0 : s ≠ []) (hz : s.length ≤ 640) (hg : Gl X "int" := by rfl) (hs : starEach [a] X.env = (false, eval a X.env) :: starEach [] X.env := by rfl) (hpl : (backTo pos (starEach [] X.env)).any (·.1) = false := by rfl) :
    DE X E (.Call (.Name "int" p) [a] [] pos) ρ (.ok (dI (PySem.NumText.digitsVal s : Nat))) ρ1 := dintS hm h (PySem.intText_digits (x := SX.S s) h1 h0 (by rw [SX.S_len]; omega)) (by rw [SX.S_len]; exact hz) hg hs hpl
theorem fS (h : DE X E e ρ (.ok (dL s)) ρ1) (hz : s.length ≤ 16000000) : DE X E (.FormattedValue e (-1) none pos) ρ (.ok (dL s)) ρ1 := de_fmtS h (by rw [SX.S_len]; exact hz)
theorem fN {q : Nat} (h : DE X E e ρ (.ok (dI (q : Int))) ρ1) (hz : q < 10 ^ 40) : DE X E (.FormattedValue e (-1) none pos) ρ (.ok (dL (TL.numL q))) ρ1 := (de_fmtI h (small_log hz)).to (by rw [v_num])
theorem foldl_S : ∀ (ys : List T) (acc : T), (ys.map SX.S).foldl (· ++ ·) (SX.S acc) = SX.S (acc ++ ys.flatten)
  | [], acc => by simp
  | y :: ys, acc => by
    rw [List.map_cons, List.foldl_cons, SX.S_cat, foldl_S ys, List.flatten_cons, List.append_assoc]
theorem lfstr {v1 v2 : Expr} {rest : List Expr} {ys : List T} (h : DJ X E ρ (v1 :: v2 :: rest) (ys.map SX.S)) (hz : ys.flatten.length ≤ 16000000) : DE X E (.JoinedStr (v1 :: v2 :: rest) pos) ρ (.ok (dL ys.flatten)) ρ := (de_fstr h (by
  rw [SX.lens, ← List.length_flatten]
  exact hz)).to (congrArg (fun z => Except.ok (dS z)) (foldl_S ys []))
/-- all([t for n in ..]) -/
theorem dallc {α : Type} {t : α → Bool} {xs : List α} {enc : α → D} {pt pl : Pos} (C : Ct X E k) (hm : X.mg "all" = none) (j : Nat) (hi : DI X E (.Name n pt) iter ρ (.ok (xs.map enc)) ρ1) (hlen : xs.length ≤ 16000000)
    (he : ∀ (s : Shared) (H : Hp) (Cc : Addr) (cl : List (Str × Addr)) (fp : List Addr) (xe : Value → Shared → Prop), Cp (bx X s H scope (compEnvC scope cl Cc X.env) fp xe) E k → ∀ a ∈ xs, DE (bx X s H scope (compEnvC scope cl Cc X.env) fp xe) E elt (st1 j (enc a) (lend ρ1)) (.ok (dB (t a))) (st1 j (enc a) (lend ρ1)))
    (hn : X.N[j]? = some n := by rfl) (bo : BlkOk X.N X.env.scope scope [(n, j)] := by exact blkOk_by (by first | decide +kernel | (dsimp only [cxOf, bx, compEnvC, envOfC]; decide +kernel) | rfl)) (hown : ∀ b es, ρ1[j]? = some (.own b es) → False := by intro b es h; cases h)
    (hloc : scope.names.lookup n = some .local := by rfl) (hs : ∀ x, foldedSetIterable iter X.env x = pure x := by intro _; rfl) (hg : Gl X "all" := by rfl) (hs1 : starEach [.ListComp elt [⟨.Name n pt, iter, [], 0⟩] scope pl] X.env = (false, eval (.ListComp elt [⟨.Name n pt, iter, [], 0⟩] scope pl) X.env) :: starEach [] X.env := by rfl) (hpl : (backTo pos (starEach [] X.env)).any (·.1) = false := by rfl) :
    DE X E (.Call (.Name "all" p) [.ListComp elt [⟨.Name n pt, iter, [], 0⟩] scope pl] [] pos) ρ (.ok (dB (xs.all t))) ρ1 :=
  DE.to (dall (bs := xs.map t) C.calm hm (DE.to (dlcP (g := fun a => dB (t a)) C j hi hlen he hn bo hown hloc hs) (by rw [List.map_map]; rfl)) hg hs1 hpl) (by rw [List.all_map]; rfl)
theorem lone {v1 : Expr} (h : DE X E v1 ρ (.ok (dL s)) ρ) : True := trivial
/-- comparisons of texts -/
theorem leq (h : DE X E a ρ (.ok (dL s)) ρ1) (h2 : DE X E b ρ1 (.ok (dL t)) ρ2) : DE X E (.Compare a [.Eq] [b] pos) ρ (.ok (dB (decide (s = t)))) ρ2 := (deq h h2).to (by rw [decide_eq_decide.mpr str_inj])
theorem lteq (h : DE X E a ρ (.ok (dL s)) ρ1) (h2 : DE X E b ρ1 (.ok (dL t)) ρ2) : DT X E (.Compare a [.Eq] [b] pos) ρ (.ok (decide (s = t))) ρ2 := decide_eq_decide.mpr (str_inj (a := s) (b := t)) ▸ teq h h2
theorem lne (h : DE X E a ρ (.ok (dL s)) ρ1) (h2 : DE X E b ρ1 (.ok (dL t)) ρ2) : DE X E (.Compare a [.NotEq] [b] pos) ρ (.ok (dB (!decide (s = t)))) ρ2 := (dne h h2).to (by rw [decide_eq_decide.mpr str_inj])
theorem ltne (h : DE X E a ρ (.ok (dL s)) ρ1) (h2 : DE X E b ρ1 (.ok (dL t)) ρ2) : DT X E (.Compare a [.NotEq] [b] pos) ρ (.ok (!decide (s = t))) ρ2 := decide_eq_decide.mpr (str_inj (a := s) (b := t)) ▸ tne h h2
theorem ltin {ls : List T} (h : DE X E a ρ (.ok (dL s)) ρ1) (h2 : DE X E b ρ1 (.ok (.tup (ls.map dL))) ρ2) (h4 : (ls.map fun l => V.str (SX.S l)).all flatV = true := by rfl) (hm : behindInMarks .In b = false := by rfl) : DT X E (.Compare a [.In] [b] pos) ρ (.ok (decide (s ∈ ls))) ρ2 :=
  inV_L (a := s) (ls := ls) ▸ tin h (h2.to (by rw [List.map_map]; rfl)) rfl h4 hm
theorem ltnin {ls : List T} (h : DE X E a ρ (.ok (dL s)) ρ1) (h2 : DE X E b ρ1 (.ok (.tup (ls.map dL))) ρ2) (h4 : (ls.map fun l => V.str (SX.S l)).all flatV = true := by rfl) (hm : behindInMarks .NotIn b = false := by rfl) : DT X E (.Compare a [.NotIn] [b] pos) ρ (.ok (!decide (s ∈ ls))) ρ2 :=
  inV_L (a := s) (ls := ls) ▸ tnin h (h2.to (by rw [List.map_map]; rfl)) rfl h4 hm
theorem lsigns {s : T} : signs (SX.S s) = s.map fun c => dL [c] := rfl
theorem di_txt (h : DE X E e ρ (.ok (dL s)) ρ1) {tg : Expr} : DI X E tg e ρ (.ok (s.map fun c => dL [c])) ρ1 := di_str h
theorem lix {i : Nat} {c : Nat} (h : DE X E a ρ (.ok (dL s)) ρ1) (h2 : DE X E b ρ1 (.ok (dI (i : Int))) ρ2) (hz : s.length ≤ 16000000) (ha : s[i]? = some c) (hs : PlainIx b := by exact fun _ _ => rfl) : DE X E (.Subscript a b pos) ρ (.ok (dL [c])) ρ2 := de_ix ix_str (op2_ixS (by rw [SX.S_len]; exact hz) (atI_nat ha)) h h2 hs
end
end Kd
set_option Elab.async false
set_option linter.all false
set_option maxRecDepth 100000
set_option maxHeartbeats 2000000
/-! plain data compared -/
namespace Kd
open PySem PySem.Spec PyProof.Rows L2
variable [LT]
inductive Pl : Nat → D → Prop
  | non {n : Nat} : Pl n dN
  | bl {n : Nat} {b : Bool} : Pl n (dB b)
  | int {n : Nat} {i : Int} : Pl n (dI i)
  | str {n : Nat} {s : Str} (h : PyData.strOk s = true) : Pl n (dS s)
  | tup {n : Nat} {ds : List D} (h : ∀ d ∈ ds, Pl n d) : Pl (n + 1) (.tup ds)
  | lst {n : Nat} {ds : List D} (h : ∀ d ∈ ds, Pl n d) : Pl (n + 1) (.lst ds)
theorem pl_list {n : Nat} : ∀ {ds : List D}, (∀ d ∈ ds, ∃ p, pyOf d = some p ∧ p.canLay0 = true ∧ p.depth ≤ n) → ∃ ps, pyOfL ds = some ps ∧ PyData.canLayAll0 ps = true ∧ PyData.depthAll ps ≤ n
  | [], _ => ⟨[], rfl, rfl, Nat.zero_le _⟩
  | d :: ds, h => by
    obtain ⟨p, h1, h2, h3⟩ := h d List.mem_cons_self
    obtain ⟨ps, q1, q2, q3⟩ := pl_list (n := n) (ds := ds) fun x hx => h x (List.mem_cons_of_mem _ hx)
    refine ⟨p :: ps, by rw [pyOfL, h1, q1], by simp only [PyData.canLayAll0, h2, q2, Bool.and_self], ?_⟩
    rw [PyData.depthAll]
    omega
theorem Pl.py {n : Nat} {d : D} (h : Pl n d) : ∃ p, pyOf d = some p ∧ p.canLay0 = true ∧ p.depth ≤ n := by
  induction h with
  | non => exact ⟨_, rfl, rfl, Nat.zero_le _⟩
  | bl => exact ⟨_, rfl, rfl, Nat.zero_le _⟩
  | int => exact ⟨_, rfl, rfl, Nat.zero_le _⟩
  | str h => exact ⟨_, rfl, h, Nat.zero_le _⟩
  | tup h ih =>
    obtain ⟨ps, q1, q2, q3⟩ := pl_list ih
    refine ⟨.tuple ps, by rw [pyOf, q1]; rfl, q2, ?_⟩
    rw [PyData.depth]
    omega
  | lst h ih =>
    obtain ⟨ps, q1, q2, q3⟩ := pl_list ih
    refine ⟨.list ps, by rw [pyOf, q1]; rfl, q2, ?_⟩
    rw [PyData.depth]
    omega
def pyT (d : D) : PyData := (pyOf d).getD .none
def eqD (a b : D) : Bool := PyData.eqv (pyT a) (pyT b)
theorem Pl.ok {d : D} {n : Nat} (h : Pl n d) (hn : n ≤ 60) : pyOf d = some (pyT d) ∧ SeqAt.shaped (pyT d) = true := by
  obtain ⟨p, h1, h2, h3⟩ := h.py
  have e : pyT d = p := by unfold pyT; rw [h1]; rfl
  rw [e]
  exact ⟨h1, by unfold SeqAt.shaped; rw [h2, decide_eq_true (by omega : p.depth ≤ 64)]; rfl⟩
theorem eqD_refl {d : D} {n : Nat} (h : Pl n d) : eqD d d = true := by
  obtain ⟨p, h1, h2, h3⟩ := h.py
  unfold eqD pyT
  rw [h1]
  exact SeqAt.eqv_refl p h2
theorem eqD_tup {xs ys : List D} {m n : Nat} (h1 : ∀ d ∈ xs, Pl m d) (h2 : ∀ d ∈ ys, Pl n d) : eqD (.tup xs) (.tup ys) = (decide (xs.length = ys.length) && (xs.zip ys).all fun p => eqD p.1 p.2) := by
  have key : ∀ {xs : List D}, (∀ d ∈ xs, ∃ n, Pl n d) → pyOfL xs = some (xs.map pyT) := by
    intro xs
    induction xs with
    | nil => intro _; rfl
    | cons d ds ih =>
      intro h
      obtain ⟨n, hd⟩ := h d List.mem_cons_self
      obtain ⟨p, q1, _, _⟩ := hd.py
      have e : pyT d = p := by unfold pyT; rw [q1]; rfl
      rw [pyOfL, q1, ih fun x hx => h x (List.mem_cons_of_mem _ hx), List.map_cons, e]
  have e1 : pyT (.tup xs) = .tuple (xs.map pyT) := by unfold pyT; rw [pyOf, key fun d hd => ⟨m, h1 d hd⟩]; rfl
  have e2 : pyT (.tup ys) = .tuple (ys.map pyT) := by unfold pyT; rw [pyOf, key fun d hd => ⟨n, h2 d hd⟩]; rfl
  unfold eqD
  rw [e1, e2, PyData.eqv]
  clear e1 e2 h1 h2 key
  induction xs generalizing ys with
  | nil => cases ys <;> rfl
  | cons x xs ih =>
    cases ys with
    | nil => rfl
    | cons y ys =>
      rw [List.map_cons, List.map_cons, PyData.eqvAll, ih]
      simp only [List.zip_cons_cons, List.all_cons, List.length_cons, Nat.add_right_cancel_iff]
      generalize decide (xs.length = ys.length) = u
      generalize (xs.zip ys).all _ = v
      show (eqD x y && (u && v)) = (u && (eqD x y && v))
      cases u <;> cases v <;> cases eqD x y <;> rfl
theorem eqD_nil {x : D} {xs : List D} {n : Nat} (h : ∀ d ∈ x :: xs, Pl n d) : eqD (.tup (x :: xs)) (.tup []) = false := by
  rw [eqD_tup (n := 0) h (fun d hd => by cases hd)]
  rfl
theorem eqD_tupNil {xs : List D} {n : Nat} (h : ∀ d ∈ xs, Pl n d) : eqD (.tup xs) (.tup []) = decide (xs = []) := by
  cases xs with
  | nil => rfl
  | cons x xs => rw [eqD_nil h]; rfl
def asc (s : T) : Prop := ∀ c ∈ s, c < 128
theorem strOk_asc {s : T} (h : asc s) : PyData.strOk (SX.S s) = true := by
  unfold PyData.strOk
  rw [← Array.all_toList]
  exact List.all_eq_true.mpr fun c hc => decide_eq_true (Nat.lt_trans (h c hc) (by decide))
theorem Pl.txt {n : Nat} {s : T} (h : asc s) : Pl n (dL s) := .str (strOk_asc h)
theorem eqD_txt {a b : T} : eqD (dL a) (dL b) = decide (a = b) := SX.S_beq_eq
section
variable {X : Cx} {E : XK} {k : Nat} {a b : Expr} {pos : Pos} {ρ ρ1 ρ2 : List Sl} {d d2 : D} {m n : Nat}
theorem deqP (C : Cp X E k) (h : DE X E a ρ (.ok d) ρ1) (h2 : DE X E b ρ1 (.ok d2) ρ2) (g1 : Pl m d) (g2 : Pl n d2) (hm : m ≤ 60 := by decide) (hn : n ≤ 60 := by decide) : DE X E (.Compare a [.Eq] [b] pos) ρ (.ok (dB (eqD d d2))) ρ2 := deqD C h h2 (g1.ok hm).1 (g2.ok hn).1 (g1.ok hm).2 (g2.ok hn).2
theorem dneP (C : Cp X E k) (h : DE X E a ρ (.ok d) ρ1) (h2 : DE X E b ρ1 (.ok d2) ρ2) (g1 : Pl m d) (g2 : Pl n d2) (hm : m ≤ 60 := by decide) (hn : n ≤ 60 := by decide) : DE X E (.Compare a [.NotEq] [b] pos) ρ (.ok (dB (!eqD d d2))) ρ2 := dneD C h h2 (g1.ok hm).1 (g2.ok hn).1 (g1.ok hm).2 (g2.ok hn).2
theorem teqP (C : Cp X E k) (h : DE X E a ρ (.ok d) ρ1) (h2 : DE X E b ρ1 (.ok d2) ρ2) (g1 : Pl m d) (g2 : Pl n d2) (hm : m ≤ 60 := by decide) (hn : n ≤ 60 := by decide) : DT X E (.Compare a [.Eq] [b] pos) ρ (.ok (eqD d d2)) ρ2 := teqD C h h2 (g1.ok hm).1 (g2.ok hn).1 (g1.ok hm).2 (g2.ok hn).2
theorem tneP (C : Cp X E k) (h : DE X E a ρ (.ok d) ρ1) (h2 : DE X E b ρ1 (.ok d2) ρ2) (g1 : Pl m d) (g2 : Pl n d2) (hm : m ≤ 60 := by decide) (hn : n ≤ 60 := by decide) : DT X E (.Compare a [.NotEq] [b] pos) ρ (.ok (!eqD d d2)) ρ2 := tneD C h h2 (g1.ok hm).1 (g2.ok hn).1 (g1.ok hm).2 (g2.ok hn).2
end
end Kd
set_option Elab.async false
set_option linter.all false
set_option maxRecDepth 100000
set_option maxHeartbeats 2000000
/-! enumerate over a text, zip of two tuples, several names at once -/
namespace Kd
open PySem PySem.Spec PyProof.Rows L2
variable [LT]
/-- each sign of x with its place, in a new pair -/
def IteS (x : Str) : It :=
  ⟨fun i _ => i < x.cps.size, fun i H v H' => ∃ T c, v = .ref T ∧ H T = none ∧ H' = upd H T (.tup [.int (i : Nat), .str ⟨#[c]⟩]) ∧ x.cps[i]? = some c, fun i _ => x.cps.size ≤ i⟩
theorem turn_enumS {P : Program} {w : World} {K : PySem.W.Frag} {elts : List Expr} {kk : Nat} {tpos : Pos} (x : Str) (t : Tok) (e it : Addr) :
    Turn P w K (.Tuple elts kk tpos) (IteS x) [e, it] e (fun i h => i ≤ x.cps.size ∧ (∃ old, IsEnum h e it ((i : Nat) : Int) old) ∧ h.IsStrIter it (strIterType x) x t i ∧ e ≠ it) where
  mem := by simp
  obj := fun i h st b hb => by
    obtain ⟨_, ⟨old, he⟩, ⟨o, ho, hc, hd⟩, _⟩ := st
    have e' : b = e ∨ b = it := by simpa using hb
    rcases e' with z | z
    · rw [z]; exact ⟨_, he, fun v q => nomatch q⟩
    · rw [z]; exact ⟨o, ho, fun v q => by rw [hd] at q; cases q⟩
  keep := fun i h h' st k => let ⟨hi, ⟨old, he⟩, ⟨o, ho, r⟩, hne⟩ := st; ⟨hi, ⟨old, k e (by simp) _ he⟩, ⟨o, k it (by simp) o ho, r⟩, hne⟩
  item := by
    intro X hP hw hK hc i pins s σ H E I hf st hg
    subst hP hw hK
    obtain ⟨hi, ⟨old, he⟩, hit, hne⟩ := st
    have hel : e < s.heap.objs.size := Heap.lt_size he
    have hil : it < s.heap.objs.size := by obtain ⟨_, q, _⟩ := hit; exact Heap.lt_size q
    have hh : X.A.in1.handled = none := I.ok.hd hc
    refine wpAny_pyNext_enum_itemD (Draws.text hh it x t) he hit hg hne (by simpa using hne) fun u h' tk hP ho hit' hT hsz hk => ?_
    obtain ⟨c, u0, hxc, rfl⟩ := hP
    refine ⟨_, rfl, wpAny_letOwnedTupleGo_enum (s := { s with heap := h', toks := tk + 1 }) ho fun h'' he' sb => ?_⟩
    have hT2 : h''.get? s.heap.objs.size = some { cls := .type "tuple", data := .seq #[.int i tk, .str ⟨#[c]⟩ u0] } := (sb.2 _ (Nat.ne_of_gt hel)).trans hT
    have new : ObjOk X.prog X.w (upd H s.heap.objs.size (.tup [.int (i : Nat), .str ⟨#[c]⟩])) h'' s.heap.objs.size (.tup [.int (i : Nat), .str ⟨#[c]⟩]) :=
      ⟨by show 2 ≤ sizeLine; decide, [.int i tk, .str ⟨#[c]⟩ u0], .cons ⟨_, rfl⟩ (.cons ⟨_, rfl⟩ .nil), ⟨_, hT2, rfl, _, rfl⟩⟩
    have I1 : Inv X pins σ (upd H s.heap.objs.size (.tup [.int (i : Nat), .str ⟨#[c]⟩])) { s with heap := h'', toks := tk + 1 } :=
      I.turnedNew (ch := [e, it]) (fun b ob hb q => (sb.2 b (fun z => hb (by simp [z]))).trans (hk b ob (fun z => hb (by simp [z])) (fun z => hb (by simp [z])) q)) hf (Nat.le_refl _) new
    have e1 : ((i + 1 : Nat) : Int) = (i : Int) + 1 := by omega
    have st2 : h''.IsStrIter it (strIterType x) x t (i + 1) := by
      obtain ⟨o, q1, q2⟩ := hit'
      exact ⟨o, (sb.2 it (Ne.symm hne)).trans q1, q2⟩
    refine ⟨.ref s.heap.objs.size, _, I1, rfl, ⟨_, c, rfl, I.hok.fresh (Nat.le_refl _), rfl, hxc⟩, ⟨hg, ⟨.str ⟨#[c]⟩ u0, by rw [e1]; exact he'⟩, st2, hne⟩, fun b hb => ?_⟩
    have hb' : b < s.heap.objs.size := by
      have e' : b = e ∨ b = it := by simpa using hb
      rcases e' with z | z
      · rw [z]; exact hel
      · rw [z]; exact hil
    rw [upd_ne (Nat.ne_of_lt hb')]
    exact (hf b hb).1
  done := by
    intro X hP hw hK hc i pins s σ H E I hf st hg
    subst hP hw hK
    obtain ⟨hi, ⟨old, he⟩, hit, hne⟩ := st
    have hg : x.cps.size ≤ i := hg
    have e0 : i = x.cps.size := Nat.le_antisymm hi hg
    obtain ⟨f0, f1, f2, f3, f4, f5⟩ := hf it (by simp)
    have hh : X.A.in1.handled = none := I.ok.hd hc
    exact wpAny_pyNext_enum_endD (Draws.text hh it x t) he (e0 ▸ hit) fun h' eb => ⟨rfl, I.turned (t' := s.toks) (fun b o hb q => eb b o hb q) f0 f1 f3 f4 f5⟩
  self := fun A i s Q E st h => let ⟨_, ⟨_, he⟩, _⟩ := st; wpAny_pyIter_enum he h
def iEnumS (ta : TA) : TI := fun σ H R => ta σ H fun vs H1 => ∃ x, vs = [.str x] ∧ R (IteS x) H1
theorem pi_enumS {X : Cx} {e : Expr} {ta : TA} {p pos tpos : Pos} {elts : List Expr} {kk : Nat} (hg : Gl X "enumerate") (hm : X.mg "enumerate" = none) (ha : PA X [e] ta) (hs : starEach [e] X.env = [(false, eval e X.env)] := by rfl) :
    PI X (.Tuple elts kk tpos) (.Call (.Name "enumerate" p) [e] [] pos) (iEnumS ta) := by
  refine ⟨fun pins s σ H R I h => ?_⟩
  refine Call_ (ld_blt I hg hm boot_enumerate (PyProof.Rows.callWith_type1 (thn (ha.run pos pins s σ H _ I h) fun us s1 ⟨vs, H1, I1, r1, q1⟩ => ?_) hs rfl))
  obtain ⟨x, ex, q⟩ := q1
  subst ex
  cases r1 with
  | cons r rr =>
    cases rr
    obtain ⟨t, rfl⟩ := r
    refine call_enumerate_str fun h' he hit hsz hk => wpAny_pyIter_enum he ?_
    have I2 : Inv X pins σ H1 { s1 with heap := h' } := I1.kept (t' := s1.toks) hk
    refine ⟨s1.heap.objs.size + 1, [s1.heap.objs.size + 1, s1.heap.objs.size], _, _, H1, rfl, I2, turn_enumS x t (s1.heap.objs.size + 1) s1.heap.objs.size, ⟨Nat.zero_le _, ⟨.none, he⟩, hit, Nat.succ_ne_self _⟩, fun b hb => ?_, q⟩
    have e' : b = s1.heap.objs.size + 1 ∨ b = s1.heap.objs.size := by simpa using hb
    have hle : s1.heap.objs.size ≤ b := by
      rcases e' with z | z
      · rw [z]; exact Nat.le_add_right _ _
      · rw [z]; exact Nat.le_refl _
    exact I1.fpOk hle (I1.hok.fresh hle)
section
variable {X : Cx} {E : XK} {k : Nat} {elt iter a b c e o : Expr} {es elts : List Expr} {scope : Scope} {pos p pt tpos : Pos} {ρ ρ1 ρ2 ρ3 : List Sl} {ds xs ys : List D} {n m x : Str} {d d1 d2 d3 z : D} {j kk : Nat} {s t l : T} {R : Out → Prop}
/-- enumerate(text) -/
theorem di_enumS (hm : X.mg "enumerate" = none) (h : DE X E e ρ (.ok (dL s)) ρ1) (hg : Gl X "enumerate" := by rfl) (hs : starEach [e] X.env = [(false, eval e X.env)] := by rfl) : DI X E (.Tuple elts kk tpos) (.Call (.Name "enumerate" p) [e] [] pos) ρ (.ok (s.zipIdx.map fun q => .tup [dIn q.2, dL [q.1]])) ρ1 :=
  PI.wk (pi_enumS hg hm (da_cons h da_nil (by rw [hs]; rfl)) hs) fun σ H R ⟨en, F, w, k, _⟩ => ⟨en, F, w, fun d hd vs F1 H1 w1 s1 i1 => by
    cases hd
    cases i1 with
    | cons i1 i2 =>
      cases i2
      cases i1
      refine ⟨_, rfl, k _ rfl _ F1 H1 w1 s1 ⟨fun i F2 H s1 s2 hi => ?_, fun i F2 H s1 s2 hi => ?_, fun i F2 H x H' s1 s2 hi y => ?_⟩⟩
      · show i < s.toArray.size
        simpa using hi
      · show s.toArray.size ≤ i
        simpa using hi
      · obtain ⟨T0, c, rfl, h1, rfl, h2⟩ := y
        have h2 : s[i]? = some c := by simpa using h2
        refine ⟨upd F2 T0 (.tup [.int (i : Nat), .str ⟨#[c]⟩]), .tup [dIn i, dL [c]], Gr.new s2 h1 (nofun), ?_, .tup (.inl (.inl upd_same)) (.cons (.v _) (.cons (.v _) .nil))⟩
        rw [List.getElem?_map, List.getElem?_zipIdx, h2]
        simp, fun _ z => nomatch z⟩
/-- zip of two tuples -/
theorem di_zipT (hm : X.mg "zip" = none) (h : DA X E [a, b] ρ (.ok [.tup xs, .tup ys]) ρ1) (hg : Gl X "zip" := by rfl) (hs : starEach [a, b] X.env = (false, eval a X.env) :: starEach [b] X.env := by rfl) (hpl : (backTo pos (starEach [b] X.env)).any (·.1) = false := by rfl) : DI X E (.Tuple elts kk tpos) (.Call (.Name "zip" p) [a, b] [] pos) ρ (.ok (zipD xs ys)) ρ1 :=
  PI.wk (RZ.pi_zipA hg hm h hs hpl) fun σ H R ⟨en, F, w, k, _⟩ => ⟨en, F, w, fun d hd vs F1 H1 w1 s1 i1 => by
    cases hd
    cases i1 with
    | cons i1 i2 =>
      cases i2 with
      | cons i2 i3 =>
        cases i3
        cases i1 with
        | @tup pa va _ hta la =>
        cases i2 with
        | @tup pb vb _ htb lb =>
        refine ⟨pa, pb, va, vb, rfl, .inr ⟨sqT_mono w1.fh hta, sqT_mono w1.fh htb, k _ rfl _ F1 H1 w1 s1 ⟨fun i F2 H s1 s2 hi => ?_, fun i F2 H s1 s2 hi => ?_, fun i F2 H x H' s1 s2 hi y => ?_⟩⟩⟩
        · have hi : i < min xs.length ys.length := by simpa [zipD] using hi
          have ha : i < va.length := by rw [la.length]; omega
          have hb : i < vb.length := by rw [lb.length]; omega
          exact ⟨va, vb, va[i], vb[i], sqT_mono (s1.trans s2) hta, sqT_mono (s1.trans s2) htb, List.getElem?_eq_getElem ha, List.getElem?_eq_getElem hb⟩
        · have hi : min xs.length ys.length ≤ i := by simpa [zipD] using hi
          exact ⟨va, vb, sqT_mono (s1.trans s2) hta, sqT_mono (s1.trans s2) htb, by rw [la.length, lb.length]; omega⟩
        · obtain ⟨T0, x, y, rfl, h1, rfl, h2, h3⟩ := y
          have e2 := h2 va (sqT_mono (s1.trans s2) hta)
          have e3 := h3 vb (sqT_mono (s1.trans s2) htb)
          obtain ⟨dx, q1, q2⟩ := la.getV e2
          obtain ⟨dy, q3, q4⟩ := lb.getV e3
          refine ⟨upd F2 T0 (.tup [x, y]), .tup [dx, dy], Gr.new s2 h1 (nofun), ?_, .tup (.inl (.inl upd_same)) (.cons ((q2.mono s1).mono (same_new (s2.free h1))) (.cons ((q4.mono s1).mono (same_new (s2.free h1))) .nil))⟩
          unfold zipD
          rw [List.getElem?_map, (List.getElem?_zip_eq_some (z := (dx, dy))).mpr ⟨q1, q3⟩]
          rfl, fun _ z => nomatch z⟩
/-- a, b, c = x, y, z -/
theorem ds_par3L {i j l : Nat} {v2 v3 : V} {px py pz pl pt2 : Pos} {kt k2 : Nat} (hc : X.calm = true) (hN : X.N.Nodup) (hi : X.N[i]? = some x) (hj : X.N[j]? = some n) (hl : X.N[l]? = some m) (hij : i ≠ j) (hil : i ≠ l) (hjl : j ≠ l)
    (hx : X.env.scope.names.lookup x = some .local) (hy : X.env.scope.names.lookup n = some .local) (hz : X.env.scope.names.lookup m = some .local) (ha : DA X E es ρ (.ok ds) ρ1) (hsz : ds.length ≤ 1000) (hb : PE X b (tC v2)) (hcc : PE X c (tC v3)) (hn1 : i < ρ1.length) (hn2 : j < ρ1.length) (hn3 : l < ρ1.length)
    (kk : R (.nx (((ρ1.set i (.own false ds)).set j (.dat (.v v2))).set l (.dat (.v v3)))))
    (hw : swappedStores [.Tuple [.Name x px, .Name n py, .Name m pz] kt pt] (.Tuple [.List es pl, b, c] k2 pt2) X.env = pure (some [x, n, m]))
    (hs : swapsWithSole [.Tuple [.Name x px, .Name n py, .Name m pz] kt pt] (.Tuple [.List es pl, b, c] k2 pt2) pos.line X.env = pure false := by rfl)
    (h1 : starEach [.List es pl, b, c] X.env = (false, eval (.List es pl) X.env) :: starEach [b, c] X.env := by rfl) (h2 : starEach [b, c] X.env = (false, eval b X.env) :: starEach [c] X.env := by rfl) (h3 : starEach [c] X.env = (false, eval c X.env) :: starEach [] X.env := by rfl) :
    DS X E (.Assign [.Tuple [.Name x px, .Name n py, .Name m pz] kt pt] (.Tuple [.List es pl, b, c] k2 pt2) pos) ρ R :=
  PS.wk (ps_par3 hc hN hi hj hl hij hil hjl hx hy hz (pa_cons (pe_lst ha) (pa_cons hb (pa_cons hcc pa_nil h3) h2) h1) hw hs) fun D σ H ⟨en, F, w, k⟩ => ⟨en, F, w, fun ds1 hd vs F1 H1 w1 s1 i1 => by
    cases hd
    refine ⟨Nat.le_of_lt (small1000 (by rw [i1.length]; exact hsz)), fun q hq => ⟨_, _, _, rfl, ?_⟩⟩
    exact k.nx _ kk _ F1 _ (((w1.newOwn hn1 hq i1).set (by simpa using hn2) (.v v2)).set (by simpa using hn3) (.v v3)) s1, fun _ z => nomatch z⟩
theorem ds_parLC {i j : Nat} {v2 : V} {px py pl pt2 : Pos} {kt k2 : Nat} (hc : X.calm = true) (hN : X.N.Nodup) (hi : X.N[i]? = some x) (hj : X.N[j]? = some n) (hij : i ≠ j)
    (hx : X.env.scope.names.lookup x = some .local) (hy : X.env.scope.names.lookup n = some .local) (ha : DA X E es ρ (.ok ds) ρ1) (hsz : ds.length ≤ 1000) (hb : PE X b (tC v2)) (hn1 : i < ρ1.length) (hn2 : j < ρ1.length)
    (kk : R (.nx ((ρ1.set i (.own false ds)).set j (.dat (.v v2)))))
    (hw : swappedStores [.Tuple [.Name x px, .Name n py] kt pt] (.Tuple [.List es pl, b] k2 pt2) X.env = pure (some [x, n]))
    (hs : swapsWithSole [.Tuple [.Name x px, .Name n py] kt pt] (.Tuple [.List es pl, b] k2 pt2) pos.line X.env = pure false := by rfl)
    (h1 : starEach [.List es pl, b] X.env = (false, eval (.List es pl) X.env) :: starEach [b] X.env := by rfl) (h2 : starEach [b] X.env = (false, eval b X.env) :: starEach [] X.env := by rfl) :
    DS X E (.Assign [.Tuple [.Name x px, .Name n py] kt pt] (.Tuple [.List es pl, b] k2 pt2) pos) ρ R :=
  PS.wk (ps_par hc hN hi hj hij hx hy (pa_cons (pe_lst ha) (pa_cons hb pa_nil h2) h1) hw hs) fun D σ H ⟨en, F, w, k⟩ => ⟨en, F, w, fun ds1 hd vs F1 H1 w1 s1 i1 => by
    cases hd
    refine ⟨Nat.le_of_lt (small1000 (by rw [i1.length]; exact hsz)), fun q hq => ⟨_, _, rfl, ?_⟩⟩
    exact k.nx _ kk _ F1 _ ((w1.newOwn hn1 hq i1).set (by simpa using hn2) (.v v2)) s1, fun _ z => nomatch z⟩
end
end Kd
set_option Elab.async false
set_option linter.all false
set_option maxRecDepth 100000
set_option maxHeartbeats 2000000
/-! [*own, e] -/
namespace Kd
open PySem PySem.Spec PyProof.Rows L2
variable [LT]
section
variable {X : Cx} {E : XK} {k : Nat} {e : Expr} {es : List Expr} {pos p p2 : Pos} {ρ ρ1 : List Sl} {ds es2 : List D} {n : Str} {i : Nat} {bb : Bool}
theorem de_starOwn (hN : X.N[i]? = some n) (hv : Vis X.env.scope n) (h : ρ[i]? = some (.own bb ds)) (ha : DA X E es ρ (.ok es2) ρ) (hz : ds.length + es2.length ≤ 16000000) (hd : (n == ("__debug__" : Str)) = false := by decide) (hcd : (n == ("__classdict__" : Str)) = false := by decide)
    (hs : starEach (.Starred (.Name n p) p2 :: es) X.env = (true, eval (.Name n p) X.env) :: starEach es X.env := by rfl) : DE X E (.List (.Starred (.Name n p) p2 :: es) pos) ρ (.ok (.lst (ds ++ es2))) ρ :=
  PE.wk (pe_lst (StX.pa_star (pe_var hN hv hd hcd) ha hs)) fun σ H Q ⟨en, F, w, k, _⟩ => by
    obtain ⟨a, vs, q1, q2, q3, q4, q5⟩ := w.own i bb ds h
    refine ⟨.ref a, q1, a, vs, rfl, .inr (SqL.of q3), en, F, w, fun d2 hd2 vs2 F2 H2 w2 s2 i2 => ?_, fun _ z => nomatch z⟩
    cases hd2
    have il : IsL X.K F2 (vs ++ vs2) (ds ++ es2) := (q4.mono s2).append i2
    exact ⟨by rw [il.length, List.length_append]; exact Nat.le_trans hz (by decide), fun p hp => (K1.yld k w2 s2).newL w2.fh il hp⟩
end
end Kd
set_option Elab.async false
set_option linter.all false
set_option maxRecDepth 100000
set_option maxHeartbeats 2000000
/-! x in a list or tuple of plain data; is None; sums of lists and tuples -/
namespace Kd
open PySem PySem.Spec PyProof.Rows L2
variable [LT]
def rInDT (K : PySem.W.Frag) : R2 := fun x y H Q => ∃ d ds, Dp K H x d ∧ Dp K H y (.tuple ds) ∧ SeqAt.shaped d = true ∧ SeqAt.shaped (.tuple ds) = true ∧ Q (.bl (ds.any fun z => PyData.eqv z d)) H
theorem op_inDT {X : Cx} (hu : X.A.units + 65 < cLine) : OpR X (compareOp .In) (rInDT X.K) := by
  intro pins s σ H x y v u Q I rx ry h
  obtain ⟨d, ds, hd, he, sd, se, q⟩ := h
  obtain ⟨as, r1⟩ := Dp.reads I d x v hd rx
  obtain ⟨bs, r2⟩ := Dp.reads I (.tuple ds) y u he ry
  exact SeqAt.in_tuple_reads r2 r1 (SeqAt.canLay_of_shaped se) (SeqAt.canLay_of_shaped sd) (room_in_shaped sd hu) ⟨.bl _, H, I, rfl, q⟩
theorem any_py {d : D} : ∀ {ds : List D} {n : Nat}, (∀ x ∈ ds, Pl n x) → ∃ ps, pyOfL ds = some ps ∧ (ps.any fun z => PyData.eqv z (pyT d)) = ds.any fun z => eqD z d
  | [], _, _ => ⟨[], rfl, rfl⟩
  | x :: xs, n, h => by
    obtain ⟨p, g1, _, _⟩ := (h x List.mem_cons_self).py
    obtain ⟨ps, q1, q2⟩ := any_py (d := d) (ds := xs) (n := n) fun y hy => h y (List.mem_cons_of_mem _ hy)
    refine ⟨p :: ps, by rw [pyOfL, g1, q1], ?_⟩
    rw [List.any_cons, List.any_cons, q2]
    have e : pyT x = p := by unfold pyT; rw [g1]; rfl
    unfold eqD
    rw [e]
def isNonD : D → Bool
  | .v .non => true
  | _ => false
section
variable {X : Cx} {E : XK} {k : Nat} {a b e : Expr} {pos : Pos} {ρ ρ1 ρ2 : List Sl} {d d2 : D} {m n : Nat} {ds es : List D}
theorem tinPT (C : Cp X E k) (h : DE X E a ρ (.ok d) ρ1) (h2 : DE X E b ρ1 (.ok (.tup ds)) ρ2) (g1 : Pl m d) (g2 : ∀ x ∈ ds, Pl n x) (hm : m ≤ 50 := by decide) (hn : n ≤ 50 := by decide) (hb : behindInMarks .In b = false := by rfl) : DT X E (.Compare a [.In] [b] pos) ρ (.ok (ds.any fun z => eqD z d)) ρ2 := by
  obtain ⟨ps, q1, q2⟩ := any_py (d := d) g2
  have o1 := g1.ok (by omega)
  have o2 := (Pl.tup g2).ok (by omega)
  have e2 : pyT (.tup ds) = .tuple ps := by unfold pyT; rw [pyOf, q1]; rfl
  rw [e2] at o2
  exact dt_cmp (op_inDT (by have := C.room.un; omega)) (fun F H vx vy Q sm hx hy kk => ⟨pyT d, ps, dp_of sm hx o1.1, dp_of sm hy o2.1, o1.2, o2.2, by rw [q2]; exact kk.v sm⟩) h h2 hb
theorem tinPL (C : Cp X E k) (h : DE X E a ρ (.ok d) ρ1) (h2 : DE X E b ρ1 (.ok (.lst ds)) ρ2) (g1 : Pl m d) (g2 : ∀ x ∈ ds, Pl n x) (hm : m ≤ 50 := by decide) (hn : n ≤ 50 := by decide) (hb : behindInMarks .In b = false := by rfl) : DT X E (.Compare a [.In] [b] pos) ρ (.ok (ds.any fun z => eqD z d)) ρ2 := by
  obtain ⟨ps, q1, q2⟩ := any_py (d := d) g2
  have o1 := g1.ok (by omega)
  have o2 := (Pl.lst g2).ok (by omega)
  have e2 : pyT (.lst ds) = .list ps := by unfold pyT; rw [pyOf, q1]; rfl
  rw [e2] at o2
  exact dt_cmp (op_inD (by have := C.room.un; omega)) (fun F H vx vy Q sm hx hy kk => ⟨pyT d, ps, dp_of sm hx o1.1, dp_of sm hy o2.1, o1.2, o2.2, by rw [q2]; exact kk.v sm⟩) h h2 hb
theorem op2_isND {K : PySem.W.Frag} : Op2 K (fun x y H Q => y = .non ∧ Q (.bl (decide (x = .non))) H) d dN (dB (isNonD d)) := fun F H vx vy Q sm hx hy kk => by
  cases hy
  refine ⟨rfl, ?_⟩
  have e : decide (vx = .non) = isNonD d := by
    cases hx with
    | v => cases vx <;> rfl
    | tup _ _ => rfl
    | lst _ _ => rfl
    | scr _ _ => rfl
    | emp _ => rfl
  rw [e]
  exact kk.v sm
theorem op2_notND {K : PySem.W.Frag} : Op2 K (fun x y H Q => y = .non ∧ Q (.bl (!decide (x = .non))) H) d dN (dB (!isNonD d)) := fun F H vx vy Q sm hx hy kk => by
  cases hy
  refine ⟨rfl, ?_⟩
  have e : decide (vx = .non) = isNonD d := by
    cases hx with
    | v => cases vx <;> rfl
    | tup _ _ => rfl
    | lst _ _ => rfl
    | scr _ _ => rfl
    | emp _ => rfl
  rw [e]
  exact kk.v sm
theorem tisD (h : DE X E a ρ (.ok d) ρ1) {q : Pos} {j : Nat} : DT X E (.Compare a [.Is] [.Constant .none j q] pos) ρ (.ok (isNonD d)) ρ1 := dt_cmp op_isN op2_isND h de_non (nomark _)
theorem tnotD (h : DE X E a ρ (.ok d) ρ1) {q : Pos} {j : Nat} : DT X E (.Compare a [.IsNot] [.Constant .none j q] pos) ρ (.ok (!isNonD d)) ρ1 := dt_cmp op_notN op2_notND h de_non (nomark _)
/-- tuple + tuple -/
theorem dcatT (h : DE X E a ρ (.ok (.tup ds)) ρ1) (h2 : DE X E b ρ1 (.ok (.tup es)) ρ2) (hz : ds.length + es.length ≤ 16000000) : DE X E (.BinOp a .Add b pos) ρ (.ok (.tup (ds ++ es))) ρ2 := by
  refine de_op op_catA (fun F H vx vy Q sm hx hy kk => ?_) h h2
  cases hx with
  | @tup pa va _ hta la =>
  cases hy with
  | @tup pb vb _ htb lb =>
  refine ⟨pa, pb, va, vb, rfl, rfl, sqT_mono sm hta, sqT_mono sm htb, by rw [la.length, lb.length]; exact Nat.le_trans hz (by decide), fun hv => ?_, fun _ hv => ?_, fun _ _ p hp => kk.newT sm (la.append lb) hp⟩
  · subst hv
    cases la
    exact kk _ F H (Gr.refl sm) (.tup htb lb)
  · subst hv
    cases lb
    rw [List.append_nil] at kk
    exact kk _ F H (Gr.refl sm) (.tup hta la)
end
end Kd
set_option Elab.async false
set_option linter.all false
set_option maxRecDepth 100000
set_option maxHeartbeats 2000000
/-! max of a pair, sorted sets of pairs -/
namespace Kd
open PySem PySem.Spec PyProof.Rows L2
variable [LT]
def rMaxTD (K : PySem.W.Frag) : List V → Hp → VK → Prop := fun vs H Q => ∃ (x : V) (i : Int) (ns : List Int), vs = [x] ∧ Dp K H x (.tuple (.int i :: ns.map .int)) ∧ Q (.int (ns.foldl max i)) H
theorem depth_ints (i : Int) (ns : List Int) : PyData.depthAll (.int i :: ns.map .int) = 0 := by
  rw [PyData.depthAll]
  have : PyData.depthAll (ns.map .int) = 0 := by
    induction ns with
    | nil => rfl
    | cons n ns ih => rw [List.map_cons, PyData.depthAll, ih]; rfl
  rw [this]
  rfl
theorem cr_maxTD {X : Cx} (hc : X.calm = true) (hu : X.A.units + 65 < cLine) : CallR X (.builtin "max") (rMaxTD X.K) := by
  intro pins s σ H vs us Q I r h
  obtain ⟨x, i, ns, rfl, hd, q⟩ := h
  cases r with
  | cons r1 r2 =>
    cases r2
    obtain ⟨as, rr⟩ := Dp.reads I _ x _ hd r1
    cases rr with
    | tuple h1 h2 h3 h4 =>
      refine PySem.W.max_tuple_data (I.ok.hd hc) ⟨_, h1, h2, _, h3⟩ h4 ?_ (by rw [depth_ints]; omega) fun k v h' tk bs hv rd hk => ?_
      · have all : ∀ x ∈ (PyData.int i :: ns.map PyData.int), ∃ j, x = .int j := fun x hx => by
          rcases List.mem_cons.mp hx with rfl | hx
          · exact ⟨i, rfl⟩
          · obtain ⟨j, _, rfl⟩ := List.mem_map.mp hx
            exact ⟨j, rfl⟩
        exact ⟨fun x hx y hy => by
          obtain ⟨a, rfl⟩ := all x hx
          obtain ⟨b, rfl⟩ := all y hy
          rfl, fun x hx => by
          obtain ⟨a, rfl⟩ := all x hx
          nofun⟩
      · rw [PySem.W.maxD_ints] at rd
        cases rd
        exact ⟨.int _, H, I.kept hk, ⟨_, rfl⟩, q⟩
end Kd
set_option Elab.async false
set_option linter.all false
set_option maxRecDepth 100000
set_option maxHeartbeats 2000000
/-! a comprehension given to a name; comprehensions that draw -/
namespace Kd
open PySem PySem.Spec PyProof.Rows L2
variable [LT]
def mapS {S α : Type} (g : S → α → D × S) : S → List α → List D × S
  | u, [] => ([], u)
  | u, a :: as => ((g u a).1 :: (mapS g (g u a).2 as).1, (mapS g (g u a).2 as).2)
theorem mapS_snoc {S α : Type} {g : S → α → D × S} : ∀ {xs : List α} {u : S} {a : α}, mapS g u (xs ++ [a]) = ((mapS g u xs).1 ++ [(g (mapS g u xs).2 a).1], (g (mapS g u xs).2 a).2)
  | [], u, a => rfl
  | x :: xs, u, a => by
    rw [List.cons_append, mapS, mapS_snoc, mapS]
    rfl
theorem mapS_len {S α : Type} {g : S → α → D × S} : ∀ {xs : List α} {u : S}, (mapS g u xs).1.length = xs.length
  | [], u => rfl
  | x :: xs, u => by rw [mapS, List.length_cons, List.length_cons, mapS_len]
theorem set_self' {α : Type} : ∀ {l : List α} {i : Nat} {a : α}, l[i]? = some a → l.set i a = l
  | [], _, _, h => by cases h
  | x :: l, 0, a, h => by cases h; rfl
  | x :: l, i + 1, a, h => by
    rw [List.set_cons_succ, set_self' (by simpa using h)]
section
variable {X : Cx} {E : XK} {k : Nat} {elt iter : Expr} {scope : Scope} {n ny : Str} {pos spos p pt py : Pos} {ρ ρ1 : List Sl} {ds : List D} {R : Out → Prop} {α S : Type}
theorem set_lend {i : Nat} {b : Bool} {es : List D} : lend (ρ1.set i (.own b es)) = (lend ρ1).set i (.own true es) := by
  unfold lend
  rw [List.map_set]
  rfl
theorem wipe_in {j : Nat} {ρ : List Sl} : wipeR ρ [j] = ρ.set j .no := rfl
/-- what a drawing comprehension needs at each turn -/
structure LcS (X : Cx) (E : XK) (k : Nat) (elt : Expr) (scope : Scope) (ρ1 : List Sl) (j s : Nat) (b : Bool) (xs : List α) (enc : α → D) (enc0 : S → List D) (g : S → α → D × S) (P : S → Prop) : Prop where
  el : ∀ (s0 : Shared) (H : Hp) (Cc : Addr) (cl : List (Str × Addr)) (fp : List Addr) (xe : Value → Shared → Prop), Cp (bx X s0 H scope (compEnvC scope cl Cc X.env) fp xe) E k → ∀ a ∈ xs, ∀ u, P u → DE (bx X s0 H scope (compEnvC scope cl Cc X.env) fp xe) E elt (st1 j (enc a) (lend (ρ1.set s (.own b (enc0 u))))) (.ok (g u a).1) (st1 j (enc a) (lend (ρ1.set s (.own b (enc0 (g u a).2)))))
  inv : ∀ u, P u → ∀ a ∈ xs, P (g u a).2
def SIv (ρ1 : List Sl) (s : Nat) (b : Bool) (enc0 : S → List D) (g : S → α → D × S) (P : S → Prop) (u : S) (xs : List α) : Nat → List D → List Sl → Prop := fun i acc ρ' => ρ' = ρ1.set s (.own b (enc0 (mapS g u (xs.take i)).2)) ∧ acc = (mapS g u (xs.take i)).1 ∧ P (mapS g u (xs.take i)).2
def SEl (ρ1 : List Sl) (j s : Nat) (b : Bool) (enc : α → D) (enc0 : S → List D) (g : S → α → D × S) (P : S → Prop) (xs : List α) : List Sl → Res → List Sl → Prop := fun ρt y ρt' => ∃ a ∈ xs, ∃ v, P v ∧ ρt = st1 j (enc a) (lend (ρ1.set s (.own b (enc0 v)))) ∧ y = .ok (g v a).1 ∧ ρt' = st1 j (enc a) (lend (ρ1.set s (.own b (enc0 (g v a).2))))
theorem lcS_own {j s : Nat} {b : Bool} {xs : List α} {enc0 : S → List D} {g : S → α → D × S} {P : S → Prop} {u : S} (hj : j ≠ s) (hjo : ∀ c es, ρ1[j]? = some (.own c es) → False) (i : Nat) (acc : List D) (ρ' : List Sl) (h : SIv ρ1 s b enc0 g P u xs i acc ρ') : ∀ (m : Nat) c es, m ∈ [(n, j)].map (·.2) → ρ'[m]? = some (.own c es) → False := fun m c es hm q => by
  have e : m = j := by simpa using hm
  subst e
  rw [h.1, List.getElem?_set_ne (Ne.symm hj)] at q
  exact hjo c es q
theorem lcS_step {j s : Nat} {b : Bool} {xs : List α} {enc : α → D} {enc0 : S → List D} {g : S → α → D × S} {P : S → Prop} {u : S} (L : LcS X E k elt scope ρ1 j s b xs enc enc0 g P) (hj : j ≠ s) (h0 : ρ1[s]? = some (.own b (enc0 u))) (hjo : ∀ c es, ρ1[j]? = some (.own c es) → False) (i : Nat) (acc : List D) (ρ' : List Sl) (d : D) (h : SIv ρ1 s b enc0 g P u xs i acc ρ') (hd : (xs.map enc)[i]? = some d) :
    ∃ t, t = true ∧ (t = false → SIv ρ1 s b enc0 g P u xs (i + 1) acc ρ') ∧
      (t = true → ∃ (y : Res) (ρt' : List Sl), SEl ρ1 j s b enc enc0 g P xs (st1 j d (lend ρ')) y ρt' ∧
        (∀ z, y = .ok z → ∃ ρ2, SIv ρ1 s b enc0 g P u xs (i + 1) (acc ++ [z]) ρ2 ∧ Back ([(n, j)].map (·.2)) ρ' ρ2 ρt') ∧ (∀ x, y = .error x → (.ok (.lst (mapS g u xs).1) : Res) = .error x)) := by
  have hs : s < ρ1.length := (List.getElem?_eq_some_iff.mp h0).1
  obtain ⟨rfl, rfl, hP⟩ := h
  exact by
    rw [List.getElem?_map] at hd
    cases ha : xs[i]? with
    | none => rw [ha] at hd; cases hd
    | some a =>
      rw [ha] at hd
      cases hd
      have hm := List.mem_of_getElem? ha
      have tk : xs.take (i + 1) = xs.take i ++ [a] := by rw [List.take_succ, ha]; rfl
      generalize hv : (mapS g u (xs.take i)).2 = v at hP
      have e2 : mapS g u (xs.take (i + 1)) = ((mapS g u (xs.take i)).1 ++ [(g v a).1], (g v a).2) := by rw [tk, mapS_snoc, hv]
      refine ⟨true, rfl, fun z => (by cases z), fun _ => ⟨.ok (g v a).1, _, ⟨a, hm, v, hP, rfl, rfl, rfl⟩, fun z hz => ?_, fun x hx => by cases hx⟩⟩
      cases hz
      refine ⟨ρ1.set s (.own b (enc0 (g v a).2)), ⟨by rw [e2], by rw [e2], by rw [e2]; exact L.inv v hP a hm⟩, by simp, fun m dd q => ?_, fun m c es q => ?_⟩
      · by_cases hms : m = s
        · subst hms
          rw [List.getElem?_set_self hs] at q
          cases q
        · rw [List.getElem?_set_ne (Ne.symm hms)] at q ⊢
          exact q
      · by_cases hms : m = s
        · subst hms
          rw [List.getElem?_set_self hs] at q
          cases q
          refine ⟨_, List.getElem?_set_self hs, .inr ⟨by simpa using Ne.symm hj, ?_⟩⟩
          rw [st1_out (by simpa using Ne.symm hj), set_lend, List.getElem?_set_self (by unfold lend; rw [List.length_map]; exact hs)]
        · rw [List.getElem?_set_ne (Ne.symm hms)] at q
          refine ⟨es, by rw [List.getElem?_set_ne (Ne.symm hms)]; exact q, .inr ?_⟩
          have hmj : m ≠ j := fun e => by
            subst e
            exact hjo c es q
          refine ⟨by simpa using hmj, ?_⟩
          rw [st1_out (by simpa using hmj), set_lend, List.getElem?_set_ne (Ne.symm hms)]
          exact lend_get q
/-- [elt for n in ..], each turn draws from the list in slot s -/
theorem dlcS {j s : Nat} {b : Bool} {xs : List α} {enc : α → D} {enc0 : S → List D} {g : S → α → D × S} {P : S → Prop} (u : S) (C : Ct X E k) (hi : DI X E (.Name n pt) iter ρ (.ok (xs.map enc)) ρ1) (L : LcS X E k elt scope ρ1 j s b xs enc enc0 g P) (h0 : ρ1[s]? = some (.own b (enc0 u))) (hu : P u) (hlen : xs.length ≤ 16000000)
    (hj : j ≠ s := by decide) (hn : X.N[j]? = some n := by rfl) (bo : BlkOk X.N X.env.scope scope [(n, j)] := by exact blkOk_by (by first | decide +kernel | (dsimp only [cxOf, bx, compEnvC, envOfC]; decide +kernel) | rfl)) (hown : ∀ b es, ρ1[j]? = some (.own b es) → False := by intro b es h; cases h)
    (hloc : scope.names.lookup n = some .local := by rfl) (hs : ∀ x, foldedSetIterable iter X.env x = pure x := by intro _; rfl) : DE X E (.ListComp elt [⟨.Name n pt, iter, [], 0⟩] scope pos) ρ (.ok (.lst (mapS g u xs).1)) (ρ1.set s (.own b (enc0 (mapS g u xs).2))) := by
  have hsl : s < ρ1.length := (List.getElem?_eq_some_iff.mp h0).1
  have e0 : ρ1.set s (.own b (enc0 u)) = ρ1 := set_self' h0
  refine de_lc C hi bo (fun _ _ _ _ _ _ => pg_name C.nd hn (Or.inl (lookup_relabel_local hloc)) (.inr (lookup_relabel_local hloc))) (tg_name (K := X.K) (List.getElem?_eq_some_iff.mp hn).1).1 (fun _ _ => trivial) (fun d ρ i hm => st1_out hm) (own_one hown) (by simpa using hlen) (SIv ρ1 s b enc0 g P u xs) ⟨by rw [List.take_zero]; exact e0.symm, by rw [List.take_zero]; rfl, by rw [List.take_zero]; exact hu⟩ (fun i acc ρ' h => lcS_own hj hown i acc ρ' h)
    (fun _ t => t = true) (SEl ρ1 j s b enc enc0 g P xs) (fun s H Cc cl fp xe cp ρt t ht => ?_) (fun s H Cc cl fp xe cp ρt y ρt' h => ?_) (fun i acc ρ' d h hd _ => lcS_step L hj h0 hown i acc ρ' d h hd) (fun acc ρ' h => ?_) hs
  · subst ht
    exact ⟨fun pins s' σ H' Q I ⟨en, F, w, k1, _⟩ => pts_nil.run pins s' σ H' Q I (k1 true rfl F H' w (Same.refl F))⟩
  · obtain ⟨a, ha, v, hv, rfl, rfl, rfl⟩ := h
    exact L.el s H Cc cl fp xe cp a ha v hv
  · obtain ⟨rfl, rfl, _⟩ := h
    rw [List.length_map, List.take_length]
    exact ⟨rfl, rfl⟩
/-- name = [..], each turn draws -/
theorem dsetS {j s ni : Nat} {b : Bool} {xs : List α} {enc : α → D} {enc0 : S → List D} {g : S → α → D × S} {P : S → Prop} (u : S) (C : Ct X E k) (hi : DI X E (.Name n pt) iter ρ (.ok (xs.map enc)) ρ1) (L : LcS X E k elt scope ρ1 j s b xs enc enc0 g P) (h0 : ρ1[s]? = some (.own b (enc0 u))) (hu : P u) (hlen : xs.length ≤ 16000000)
    (kr : R (.nx ((ρ1.set s (.own b (enc0 (mapS g u xs).2))).set ni (.dat (.lst (mapS g u xs).1))))) (hsw : swapsWith (.ListComp elt [⟨.Name n pt, iter, [], 0⟩] scope pos) (some (.Name ny py)) spos.line X.env = pure true := by rfl) (hy : X.N[ni]? = some ny := by rfl) (hyl : X.env.scope.names.lookup ny = some .local := by rfl) (hli : ni < ρ1.length := by exact Nat.le_of_ble_eq_true rfl)
    (hj : j ≠ s := by decide) (hn : X.N[j]? = some n := by rfl) (bo : BlkOk X.N X.env.scope scope [(n, j)] := by exact blkOk_by (by first | decide +kernel | (dsimp only [cxOf, bx, compEnvC, envOfC]; decide +kernel) | rfl)) (hown : ∀ b es, ρ1[j]? = some (.own b es) → False := by intro b es h; cases h)
    (hloc : scope.names.lookup n = some .local := by rfl) (hs : ∀ x, foldedSetIterable iter X.env x = pure x := by intro _; rfl) : DS X E (.Assign [.Name ny py] (.ListComp elt [⟨.Name n pt, iter, [], 0⟩] scope pos) spos) ρ R := by
  have hsl : s < ρ1.length := (List.getElem?_eq_some_iff.mp h0).1
  have e0 : ρ1.set s (.own b (enc0 u)) = ρ1 := set_self' h0
  refine ds_setLc (r := .ok (.lst (mapS g u xs).1)) (ρf := ρ1.set s (.own b (enc0 (mapS g u xs).2))) C hi bo (fun _ _ _ _ _ _ => pg_name C.nd hn (Or.inl (lookup_relabel_local hloc)) (.inr (lookup_relabel_local hloc))) (tg_name (K := X.K) (List.getElem?_eq_some_iff.mp hn).1).1 (fun _ _ => trivial) (fun d ρ i hm => st1_out hm) (own_one hown) (by simpa using hlen) (SIv ρ1 s b enc0 g P u xs) ⟨by rw [List.take_zero]; exact e0.symm, by rw [List.take_zero]; rfl, by rw [List.take_zero]; exact hu⟩ (fun i acc ρ' h => lcS_own hj hown i acc ρ' h)
    (fun _ t => t = true) (SEl ρ1 j s b enc enc0 g P xs) (fun s H Cc cl fp xe cp ρt t ht => ?_) (fun s H Cc cl fp xe cp ρt y ρt' h => ?_) (fun i acc ρ' d h hd _ => lcS_step L hj h0 hown i acc ρ' d h hd) (fun acc ρ' h => ?_) hs hy hyl (by simpa using hli) hsw (fun d hd => by cases hd; exact kr) fun x hx => by cases hx
  · subst ht
    exact ⟨fun pins s' σ H' Q I ⟨en, F, w, k1, _⟩ => pts_nil.run pins s' σ H' Q I (k1 true rfl F H' w (Same.refl F))⟩
  · obtain ⟨a, ha, v, hv, rfl, rfl, rfl⟩ := h
    exact L.el s H Cc cl fp xe cp a ha v hv
  · obtain ⟨rfl, rfl, _⟩ := h
    rw [List.length_map, List.take_length]
    exact ⟨rfl, rfl⟩
/-- name = [f(n) for n in ..], nothing changed, nothing raised -/
theorem dsetP {g : α → D} {xs : List α} {enc : α → D} {ni : Nat} (C : Ct X E k) (j : Nat) (hi : DI X E (.Name n pt) iter ρ (.ok (xs.map enc)) ρ1) (hlen : xs.length ≤ 16000000)
    (he : ∀ (s : Shared) (H : Hp) (Cc : Addr) (cl : List (Str × Addr)) (fp : List Addr) (xe : Value → Shared → Prop), Cp (bx X s H scope (compEnvC scope cl Cc X.env) fp xe) E k → ∀ a ∈ xs, DE (bx X s H scope (compEnvC scope cl Cc X.env) fp xe) E elt (st1 j (enc a) (lend ρ1)) (.ok (g a)) (st1 j (enc a) (lend ρ1)))
    (kr : R (.nx (ρ1.set ni (.dat (.lst (xs.map g)))))) (hsw : swapsWith (.ListComp elt [⟨.Name n pt, iter, [], 0⟩] scope pos) (some (.Name ny py)) spos.line X.env = pure true := by rfl) (hy : X.N[ni]? = some ny := by rfl) (hyl : X.env.scope.names.lookup ny = some .local := by rfl) (hli : ni < ρ1.length := by exact Nat.le_of_ble_eq_true rfl)
    (hn : X.N[j]? = some n := by rfl) (bo : BlkOk X.N X.env.scope scope [(n, j)] := by exact blkOk_by (by first | decide +kernel | (dsimp only [cxOf, bx, compEnvC, envOfC]; decide +kernel) | rfl)) (hown : ∀ b es, ρ1[j]? = some (.own b es) → False := by intro b es h; cases h)
    (hloc : scope.names.lookup n = some .local := by rfl) (hs : ∀ x, foldedSetIterable iter X.env x = pure x := by intro _; rfl) : DS X E (.Assign [.Name ny py] (.ListComp elt [⟨.Name n pt, iter, [], 0⟩] scope pos) spos) ρ R := by
  have get : ∀ {i : Nat} {d : D}, (xs.map enc)[i]? = some d → ∃ a, xs[i]? = some a ∧ d = enc a := fun {i d} h => by
    rw [List.getElem?_map] at h
    cases q : xs[i]? with
    | none => rw [q] at h; cases h
    | some a => rw [q] at h; cases h; exact ⟨a, rfl, rfl⟩
  refine ds_setLc (r := .ok (.lst (xs.map g))) (ρf := ρ1) C hi bo (fun _ _ _ _ _ _ => pg_name C.nd hn (Or.inl (lookup_relabel_local hloc)) (.inr (lookup_relabel_local hloc))) (tg_name (K := X.K) (List.getElem?_eq_some_iff.mp hn).1).1 (fun _ _ => trivial) (fun d ρ i hm => st1_out hm) (own_one hown) (by simpa using hlen) (fun i acc ρ' => ρ' = ρ1 ∧ acc = (xs.take i).map g) ⟨rfl, by rw [List.take_zero]; rfl⟩ (fun i acc ρ' h => by rw [h.1]; exact own_one hown)
    (fun _ t => t = true) (fun ρt y ρt' => ρt' = ρt ∧ ∃ a ∈ xs, ρt = st1 j (enc a) (lend ρ1) ∧ y = .ok (g a)) (fun s H Cc cl fp xe cp ρt t ht => ?_) (fun s H Cc cl fp xe cp ρt y ρt' h => ?_) (fun i acc ρ' d h hd _ => ?_) (fun acc ρ' h => ?_) hs hy hyl hli hsw (fun d hd => by cases hd; exact kr) fun x hx => by cases hx
  · subst ht
    exact ⟨fun pins s' σ H' Q I ⟨en, F, w, k1, _⟩ => pts_nil.run pins s' σ H' Q I (k1 true rfl F H' w (Same.refl F))⟩
  · obtain ⟨rfl, a, ha, rfl, rfl⟩ := h
    exact he s H Cc cl fp xe cp a ha
  · obtain ⟨rfl, rfl⟩ := h
    obtain ⟨a, ha, rfl⟩ := get hd
    have tk : xs.take (i + 1) = xs.take i ++ [a] := by rw [List.take_succ, ha]; rfl
    refine ⟨true, rfl, (fun z => by cases z), fun _ => ⟨.ok (g a), st1 j (enc a) (lend ρ'), ⟨rfl, a, List.mem_of_getElem? ha, rfl, rfl⟩, fun z hz => ⟨ρ', ⟨rfl, by cases hz; rw [tk, List.map_append]; rfl⟩, rfl, fun _ _ q => q, fun i b es q => ⟨es, q, .inr ?_⟩⟩, fun x hx => by cases hx⟩⟩
    have ne : i ∉ [(n, j)].map (·.2) := fun hm => own_one (n := n) hown i b es hm q
    exact ⟨ne, by rw [st1_out (by simpa using ne)]; exact lend_get q⟩
  · obtain ⟨rfl, rfl⟩ := h
    rw [List.length_map, List.take_length]
    exact ⟨rfl, rfl⟩
end
end Kd
set_option Elab.async false
set_option linter.all false
set_option maxRecDepth 100000
set_option maxHeartbeats 2000000
/-! list(text), text[::-1], list + list, text * int -/
namespace Kd
open PySem PySem.Spec PyProof.Rows L2
variable [LT]
theorem vals_get : ∀ {xs : List V} {us : List Value}, xs.length = us.length → (∀ (i : Nat) x u, xs[i]? = some x → us[i]? = some u → RelV x u) → Vals xs us
  | [], [], _, _ => .nil
  | [], _ :: _, h, _ => by cases h
  | _ :: _, [], h, _ => by cases h
  | x :: xs, u :: us, h, hr => .cons (hr 0 x u rfl rfl) (vals_get (by simpa using h) fun i y v hy hv => hr (i + 1) y v (by simpa using hy) (by simpa using hv))
theorem cr_listS {X : Cx} (hc : X.calm = true) : CallR X (.type "list") (fun xs H Q => ∃ x : Str, xs = [.str x] ∧ x.length ≤ sizeLine ∧ ∀ p, H p = none → Q (.ref p) (upd H p (.lst (x.cps.toList.map fun c => V.str ⟨#[c]⟩)))) := by
  intro pins s σ H xs us Q I r h
  obtain ⟨x, rfl, hz, q⟩ := h
  obtain ⟨u, rfl, t, rfl⟩ := vals1 r
  refine call_list_str (I.ok.hd hc) x t (fun h' tk acc' c' kp e items => ?_) hz
  have hv : Vals (x.cps.toList.map fun c => V.str ⟨#[c]⟩) acc'.toList := by
    refine vals_get (by simp [items.1]) fun i y v hy hv => ?_
    obtain ⟨c, u0, hc2, rfl⟩ := items.2 i v (by simpa using hv)
    rw [List.getElem?_map, Array.getElem?_toList, hc2] at hy
    cases hy
    exact ⟨u0, rfl⟩
  refine ⟨.ref s.heap.objs.size, _, I.laid (t' := tk) kp (Nat.le_refl _) (show ObjOk X.prog X.w _ h' _ (.lst _) from ⟨by simpa [Str.length] using hz, acc'.toList, c', hv, by simpa using e⟩), rfl, q _ (I.hok.fresh (Nat.le_refl _))⟩
section
variable {X : Cx} {E : XK} {k : Nat} {a b e : Expr} {es : List Expr} {pos p p1 p2 p3 : Pos} {ρ ρ1 ρ2 : List Sl} {ds es2 : List D} {s : T} {n : Str} {i : Nat} {bb : Bool}
theorem dlistS (C : Cp X E k) (hm : X.mg "list" = none) (h : DE X E a ρ (.ok (dL s)) ρ1) (hz : s.length ≤ 16000000) (hg : Gl X "list" := by rfl) (hs : starEach [a] X.env = (false, eval a X.env) :: starEach [] X.env := by rfl) (hpl : (backTo pos (starEach [] X.env)).any (·.1) = false := by rfl) :
    DE X E (.Call (.Name "list" p) [a] [] pos) ρ (.ok (.lst (s.map fun c => dL [c]))) ρ1 := de_callTy (cr_listS C.calm) (fun F H vs Q sm l kk => by
      cases l with
      | cons h1 l =>
        cases l
        cases h1
        refine ⟨_, rfl, by rw [SX.S_len]; exact Nat.le_trans hz (by decide), fun q hq => ?_⟩
        have : IsL X.K F (s.map fun c => V.str ⟨#[c]⟩) (s.map fun c => dL [c]) := by
          have := IsL.ofV (K := X.K) (F := F) (s.map fun c => V.str ⟨#[c]⟩)
          rw [List.map_map] at this
          exact this
        exact kk.newL sm this hq) hg hm bt_list (a1 h hs) (by decide) (by decide) hs hpl
/-- list + list -/
theorem dcatL (h : DE X E a ρ (.ok (.lst ds)) ρ1) (h2 : DE X E b ρ1 (.ok (.lst es2)) ρ2) (hz : ds.length + es2.length ≤ 16000000) : DE X E (.BinOp a .Add b pos) ρ (.ok (.lst (ds ++ es2))) ρ2 := by
  refine de_op op_cat (fun F H vx vy Q sm hx hy kk => ?_) h h2
  cases hx with
  | @lst pa va _ hta la =>
  cases hy with
  | @lst pb vb _ htb lb =>
  exact ⟨pa, pb, va, vb, rfl, rfl, sm _ _ hta, sm _ _ htb, by rw [la.length, lb.length]; exact Nat.le_trans hz (by decide), fun p hp => kk.newL sm (la.append lb) hp⟩
def tRevS (te : TE) : TE := fun σ H Q => te σ H fun x H1 => ∃ z : Str, x = .str z ∧ z.length ≤ sizeLine ∧ Q (.str ⟨z.cps.toList.reverse.toArray⟩) H1
theorem rev_pick (z : Str) : (Builtin.Str.strSliceIndices none none (-1) z.length).filterMap (z.cps[·]?) = z.cps.toList.reverse := by
  have e : Builtin.Str.strSliceIndices none none (-1) z.length = sliceRange ((z.length : Int) - 1) (-1) (-1) := rfl
  rw [e]
  show (sliceRange ((z.cps.size : Int) - 1) (-1) (-1)).filterMap (z.cps[·]?) = _
  rw [PySem.W.krv_sliceRange, PySem.W.krv_range, List.filterMap_reverse, PySem.W.krv_all]
theorem pe_revS {te : TE} {j : Nat} (he : PE X e te) : PE X (.Subscript e (.Slice none none (some (.UnaryOp .USub (.Constant (.int 1) j p1) p2)) p3) pos) (tRevS te) := by
  refine ⟨fun pins s σ H Q I h => ?_⟩
  refine Subscript_ (thn (he.run pins s σ H _ I h) fun v s1 ⟨x, H1, I1, r1, q1⟩ => ?_)
  obtain ⟨z, ex, hz, q⟩ := q1
  subst ex
  obtain ⟨t, rfl⟩ := r1
  have hst : PO X (some (.UnaryOp .USub (.Constant (.int 1) j p1) p2)) (tPart (tUn (rU fun i => .int (-i)) (tC (.int 1)))) := po_some (pe_un un_neg pe_int)
  refine wpAny_Slice (thn (po_none.run pins s1 σ H1 (fun o H2 => o = none ∧ H2 = H1) I1 ⟨rfl, rfl⟩) fun vl s2 ⟨l, H2, I2, pl, el, e2⟩ => ?_)
  subst el e2
  refine thn (po_none.run pins s2 σ H2 (fun o H3 => o = none ∧ H3 = H2) I2 ⟨rfl, rfl⟩) fun vu s3 ⟨u, H3, I3, pu, eu, e3⟩ => ?_
  subst eu e3
  refine thn (hst.run pins s3 σ H3 (fun o H4 => o = some (-1) ∧ H4 = H3) I3 ⟨1, rfl, -1, rfl, rfl, rfl⟩) fun vs s4 ⟨o, H4, I4, ps, eo, e4⟩ => ?_
  subst eo e4
  have I5 : Inv X pins σ H4 { s4 with heap := s4.heap.push { cls := .type "slice", data := .fields #[vl, vu, vs] } } := I4.kept (t' := s4.toks) fun b ob q => Heap.get?_push_of_some _ q
  obtain ⟨l1, rfl, hl1⟩ := IsPart.raw pl
  obtain ⟨u1, rfl, hu1⟩ := IsPart.raw pu
  obtain ⟨st1, rfl, hst1⟩ := IsPart.raw ps
  refine tail_any (ops := [.str z t, .ref s4.heap.objs.size]) (typeIs_str _ _ _) F.slot_str_getitem.lookup ?_ (by with_unfolding_all rfl)
  refine wpAny_getItem_str_slice (l := l1) (u := u1) (st := st1) ⟨_, Heap.get?_push_size _ rfl, rfl, rfl⟩ (by rw [hst1]; rfl) ?_
  have hl0 : l1 = none := by cases l1 <;> first | rfl | cases hl1
  have hu0 : u1 = none := by cases u1 <;> first | rfl | cases hu1
  subst hl0 hu0
  unfold sliceMade slicePicked
  rw [hst1]
  show Made.post (if ((-1 : Int) == 1 && _) = true then _ else Made.str ⟨((Builtin.Str.strSliceIndices none none (-1) z.length).filterMap (z.cps[·]?)).toArray⟩) _ _
  rw [if_neg (by rw [show ((-1 : Int) == 1) = false from rfl, Bool.false_and]; exact Bool.false_ne_true), rev_pick]
  exact ⟨by simpa [Str.length] using hz, .str _, H4, I5.tok _, ⟨_, rfl⟩, q⟩
theorem lrev {j : Nat} (h : DE X E e ρ (.ok (dL s)) ρ1) (hz : s.length ≤ 16000000) : DE X E (.Subscript e (.Slice none none (some (.UnaryOp .USub (.Constant (.int 1) j p1) p2)) p3) pos) ρ (.ok (dL s.reverse)) ρ1 := PE.wk (pe_revS h) fun σ H Q ⟨en, F, w, kk, _⟩ => ⟨en, F, w, fun d hd v F1 H1 w1 s1 i1 => by
  cases hd
  cases i1
  exact ⟨_, rfl, by rw [SX.S_len]; exact Nat.le_trans hz (by decide), kk _ rfl _ F1 H1 w1 s1 (.v _)⟩, fun _ z => nomatch z⟩
end
end Kd
set_option Elab.async false
set_option linter.all false
set_option maxRecDepth 100000
set_option maxHeartbeats 2000000
/-! calls of values, repr, repeated texts, dict displays; defs called where no repr is on its way -/
namespace Kd
open PySem PySem.Spec PyProof.Rows L2
variable [LT]
section
variable {X : Cx} {E : XK} {k : Nat} {a : Addr} {fd : FuncData} {ps : List Str} {sp : Sp} {x : Str} {p pos : Pos} {e f c : Expr} {es : List Expr} {t : TA} {tf : TE} {W : WX} {ρ ρ1 ρ2 ρ3 : List Sl} {j n : Nat} {d : D}
/-! ### calls of values -/
theorem pe_callX (hf : PE X f tf) (ha : PA X (e :: es) t) (hx : Ps X W)
    (ht : eval (.Call f (e :: es) [] pos) X.env = (do callWith pos (← eval f X.env) [] (backTo pos (starEach (e :: es) X.env)) (backToKw pos (keywordEach [] X.env))) := by rfl) (he : starEach (e :: es) X.env = (false, eval e X.env) :: starEach es X.env := by rfl) (hpl : (backTo pos (starEach es X.env)).any (·.1) = false := by rfl) :
    PE X (.Call f (e :: es) [] pos) (fun σ H Q => tf σ H fun v H1 => ∃ a k fd ps sp, v = .ref a ∧ FnOk X.prog X.w X.K X.mg X.base (L2.CX X.prog X.w) k a fd ps sp ∧ Room k X.A ∧ PySem.W.keepIn X.K (.ref a) = true ∧ Binds X.K fd ps [] ∧ t σ H1 fun vs H2 => sp vs H2 Q (WE W σ)) := ⟨fun pins s σ H Q I h => by
  refine Call_ (thn (hf.run pins s σ H _ I h) fun u s1 ⟨v, H1, I1, r1, q1⟩ => ?_) ht
  obtain ⟨a, k, fd, ps, sp, rfl, G, hr, hk, hb, q⟩ := q1
  cases r1
  exact PySem.W.callWith_K (h₀ := X.base) I.ok.mod.kin hk (thn (ha.run pos pins s1 σ H1 _ I1 q) fun us s2 ⟨vs, H2, I2, r2, q2⟩ => ⟨I2.kIn, run_fnS (E := WE W) G hr hb (hx σ) I2 r2 q2⟩) he hpl⟩
/-- as DE, the slots are known behind an error, too -/
def tDk (K : PySem.W.Frag) (E : XK) (ρ : List Sl) (r : Res) (ρ' : List Sl) : TE := fun σ H Q => ∃ e F, Wd K e F H σ ρ ∧
  (∀ d, r = .ok d → ∀ v F' H', Wd K e F' H' σ ρ' → Same F F' → Is K F' v d → Q v H') ∧ (∀ x, r = .error x → ∀ F' H', Wd K e F' H' σ ρ' → Same F F' → Thr E x H')
def DEk (X : Cx) (E : XK) (e : Expr) (ρ : List Sl) (r : Res) (ρ' : List Sl) : Prop := PE X e (tDk X.K E ρ r ρ')
theorem DEk.de {r : Res} (h : DEk X E e ρ r ρ1) : DE X E e ρ r ρ1 := PE.wk h fun σ H Q ⟨en, F, w, k1, k2⟩ => ⟨en, F, w, k1, fun x hx F' H' w' _ => k2 x hx F' H' ρ1 w'⟩
theorem DEk.to {r r' : Res} (h : DEk X E e ρ r ρ1) (q : r = r') : DEk X E e ρ r' ρ1 := q ▸ h
theorem dek_callV {Z : Type} {enc : Z → List D} {g : Z → Res} {dom : Z → Prop} {w : Addr} (z : Z) (C : Cp X E k) (h : KnA X.prog X.w X.K X.mg X.base w j n enc g dom) (hf : DE X E f ρ (.ok (.v (.ref w))) ρ1) (ha : DA X E (e :: es) ρ1 (.ok (enc z)) ρ2) (hd : dom z) (hk : j ≤ k := by decide) (hl : (enc z).length = n := by rfl)
    (ht : eval (.Call f (e :: es) [] pos) X.env = (do callWith pos (← eval f X.env) [] (backTo pos (starEach (e :: es) X.env)) (backToKw pos (keywordEach [] X.env))) := by rfl) (he : starEach (e :: es) X.env = (false, eval e X.env) :: starEach es X.env := by rfl) (hpl : (backTo pos (starEach es X.env)).any (·.1) = false := by rfl) :
    DEk X E (.Call f (e :: es) [] pos) ρ (g z) ρ2 := by
  obtain ⟨fd, ps, hps, hkp, hb, G⟩ := h.ex
  refine PE.wk (pe_callX hf ha C.ps ht he hpl) fun σ H Q ⟨en, F, w, k1, k2⟩ => ⟨en, F, w, fun d0 hd0 v0 F0 H0 w0 s0 i0 => ?_, fun _ z => nomatch z⟩
  cases hd0
  cases i0
  refine ⟨_, j, fd, ps, _, rfl, G, C.room.mono hk, hkp, hb, en, F0, w0, fun d1 hd1 vs F1 H1 w1 s1 i1 => ?_, fun _ z => nomatch z⟩
  cases hd1
  exact ⟨F1, z, w1.fh, w1.nt, w1.tb, i1, hd, hl, fun d hf v F' H' g i => k1 d hf v F' H' (w1.grow g) ((s0.trans s1).trans g.ff) i, fun x hf F' H' g => k2 x hf F' H' (w1.grow g) ((s0.trans s1).trans g.ff)⟩
theorem de_callV {Z : Type} {enc : Z → List D} {g : Z → Res} {dom : Z → Prop} {w : Addr} (z : Z) (C : Cp X E k) (h : KnA X.prog X.w X.K X.mg X.base w j n enc g dom) (hf : DE X E f ρ (.ok (.v (.ref w))) ρ1) (ha : DA X E (e :: es) ρ1 (.ok (enc z)) ρ2) (hd : dom z) (hk : j ≤ k := by decide) (hl : (enc z).length = n := by rfl)
    (ht : eval (.Call f (e :: es) [] pos) X.env = (do callWith pos (← eval f X.env) [] (backTo pos (starEach (e :: es) X.env)) (backToKw pos (keywordEach [] X.env))) := by rfl) (he : starEach (e :: es) X.env = (false, eval e X.env) :: starEach es X.env := by rfl) (hpl : (backTo pos (starEach es X.env)).any (·.1) = false := by rfl) :
    DE X E (.Call f (e :: es) [] pos) ρ (g z) ρ2 := (dek_callV z C h hf ha hd hk hl ht he hpl).de
theorem dek_call {Z : Type} {enc : Z → List D} {g : Z → Res} {dom : Z → Prop} (z : Z) (C : Cp X E k) (h : Kn X.prog X.w X.K X.mg X.base x j n enc g dom) (ha : DA X E (e :: es) ρ (.ok (enc z)) ρ1) (hd : dom z) (hk : j ≤ k := by decide) (hg : Gl X x := by rfl) (hl : (enc z).length = n := by rfl) (hdb : (x == ("__debug__" : Str)) = false := by decide)
    (he : starEach (e :: es) X.env = (false, eval e X.env) :: starEach es X.env := by rfl) (hpl : (backTo pos (starEach es X.env)).any (·.1) = false := by rfl) : DEk X E (.Call (.Name x p) (e :: es) [] pos) ρ (g z) ρ1 := by
  obtain ⟨w, hm, G⟩ := h
  exact dek_callV z C G (de_glob hg hm (v := .ref w) rfl (fun _ => .v _) hdb) ha hd hk hl rfl he hpl
/-! ### repr -/
def refStr (v : V) : Prop := (∃ b, v = .ref b) ∨ ∃ s, v = .str s
theorem call_reprD (hg : X.A.guards = some []) (hu : X.A.units + 64 < cLine) : CallR X (.builtin "repr") (fun xs H Q => ∃ v d, xs = [v] ∧ Dp X.K H v d ∧ d.showable = true ∧ d.hasDict = false ∧ d.depth ≤ 60 ∧ d.shown.length ≤ sizeLine ∧ refStr v ∧ Q (.str d.shown) H) := by
  intro pins s σ H xs us Q I r h
  obtain ⟨v, d, rfl, dp, hs, hd, hn, hz, hv, q⟩ := h
  obtain ⟨u, rfl, ru⟩ := vals1 r
  obtain ⟨as, rd⟩ := Dp.reads I d v u dp ru
  rcases hv with ⟨b, rfl⟩ | ⟨y, rfl⟩
  · obtain rfl : u = .ref b := ru
    refine PySem.repr_of_reads' rd hs (fun z => by rw [hd] at z; cases z) hg (by omega) (fun _ _ e => e) (fun h' u' tk hk => ?_) hz
    exact ⟨.str d.shown, H, I.kept hk, ⟨_, rfl⟩, q⟩
  · obtain ⟨t, rfl⟩ := ru
    cases dp
    exact PySem.P.repr_of_str ⟨.str _, H, I.tok _, ⟨_, rfl⟩, q⟩ hz
/-- what repr writes of a datum -/
def reprOf (d : D) : Str := (pyT d).shown
/-- what repr takes -/
inductive Sw : Nat → D → Prop
  | non {n : Nat} : Sw n dN
  | bl {n : Nat} {x : Bool} : Sw n (dB x)
  | num {n : Nat} {i : Nat} (h : i < 10 ^ 40) : Sw n (dIn i)
  | txt {n : Nat} {s : T} (h : asc s) : Sw n (dL s)
  | tup {n : Nat} {ds : List D} (h : ∀ d ∈ ds, Sw n d) : Sw (n + 1) (.tup ds)
  | lst {n : Nat} {ds : List D} (h : ∀ d ∈ ds, Sw n d) : Sw (n + 1) (.lst ds)
theorem Sw.pl {n : Nat} {d : D} (h : Sw n d) : Pl n d := by
  induction h with
  | non => exact .non
  | bl => exact .bl
  | num h => exact .int
  | txt h => exact .txt h
  | tup h ih => exact .tup ih
  | lst h ih => exact .lst ih
theorem pyL {xs : List D} (h : ∀ d ∈ xs, ∃ n, Pl n d) : pyOfL xs = some (xs.map pyT) := by
  induction xs with
  | nil => rfl
  | cons d ds ih =>
    obtain ⟨n, hd⟩ := h d List.mem_cons_self
    obtain ⟨p, q1, _, _⟩ := hd.py
    have e : pyT d = p := by unfold pyT; rw [q1]; rfl
    rw [pyOfL, q1, ih fun x hx => h x (List.mem_cons_of_mem _ hx), List.map_cons, e]
theorem pyT_tup {xs : List D} (h : ∀ d ∈ xs, ∃ n, Pl n d) : pyT (.tup xs) = .tuple (xs.map pyT) := by unfold pyT; rw [pyOf, pyL h]; rfl
theorem pyT_lst {xs : List D} (h : ∀ d ∈ xs, ∃ n, Pl n d) : pyT (.lst xs) = .list (xs.map pyT) := by unfold pyT; rw [pyOf, pyL h]; rfl
theorem showAll {xs : List D} (h : ∀ d ∈ xs, (pyT d).showable = true) : PyData.showableAll (xs.map pyT) = true := by
  induction xs with
  | nil => rfl
  | cons d ds ih => rw [List.map_cons, PyData.showableAll, h d List.mem_cons_self, ih fun x hx => h x (List.mem_cons_of_mem _ hx)]; rfl
theorem Sw.shows {n : Nat} {d : D} (h : Sw n d) : (pyT d).showable = true := by
  induction h with
  | non => rfl
  | bl => rfl
  | num h => exact decide_eq_true (small_log h)
  | txt h => rfl
  | tup h ih => rw [pyT_tup fun d hd => ⟨_, (h d hd).pl⟩, PyData.showable]; exact showAll ih
  | lst h ih => rw [pyT_lst fun d hd => ⟨_, (h d hd).pl⟩, PyData.showable]; exact showAll ih
theorem shownAll_map {xs : List D} : PyData.shownAll (xs.map pyT) = xs.map reprOf := by
  induction xs with
  | nil => rfl
  | cons d ds ih => rw [List.map_cons, PyData.shownAll, ih]; rfl
def rl (d : D) : Nat := (reprOf d).length
theorem piled_map {xs : List D} : piled (xs.map reprOf) = (xs.map fun d => rl d + 2).sum := by unfold piled; rw [List.map_map]; rfl
theorem rl_tup {xs : List D} {n : Nat} (h : ∀ d ∈ xs, Sw n d) : rl (.tup xs) ≤ (xs.map fun d => rl d + 2).sum + 3 := by
  rw [← piled_map]
  show ((pyT (.tup xs)).shown).length ≤ _
  rw [pyT_tup fun d hd => ⟨_, (h d hd).pl⟩, PyData.shown, shownAll_map]
  unfold tupleText
  rw [strLen_append, strLen_append]
  have e : ∀ b : Bool, ((if b = true then ",)" else ")" : String) : Str).length ≤ 2 := by decide
  have := e ((xs.map reprOf).length == 1)
  have e1 : (("(" : Str)).length = 1 := rfl
  cases xs with
  | nil => exact Nat.le_of_ble_eq_true rfl
  | cons d ds =>
    have := join_length_add ((d :: ds).map reprOf) (by simp)
    omega
theorem rl_lst {xs : List D} {n : Nat} (h : ∀ d ∈ xs, Sw n d) : rl (.lst xs) ≤ (xs.map fun d => rl d + 2).sum + 3 := by
  rw [← piled_map]
  show ((pyT (.lst xs)).shown).length ≤ _
  rw [pyT_lst fun d hd => ⟨_, (h d hd).pl⟩, PyData.shown, shownAll_map]
  cases xs with
  | nil => exact Nat.le_of_ble_eq_true rfl
  | cons d ds =>
    rw [List.map_cons, piled_cons]
    show (textFrom 0 "[" (reprOf d :: ds.map reprOf) ++ "]").length ≤ _
    have h2 := textFrom_length_pos (ds.map reprOf) 1 (("[" : Str) ++ (if (0 : Nat) > 0 then ", " else "" : String) ++ reprOf d) (Nat.succ_pos 0)
    rw [strLen_append]
    have e2 : (textFrom 0 "[" (reprOf d :: ds.map reprOf)).length = (textFrom 1 (("[" : Str) ++ (if (0 : Nat) > 0 then ", " else "" : String) ++ reprOf d) (ds.map reprOf)).length := rfl
    have e3 : (("[" : Str) ++ (if (0 : Nat) > 0 then ", " else "" : String) ++ reprOf d).length = 1 + (reprOf d).length := by
      rw [strLen_append, strLen_append]; rfl
    have e4 : (("]" : Str)).length = 1 := rfl
    omega
theorem rl_num {i : Nat} : rl (dIn i) = (TL.numL i).length := by
  show (Str.ofString (toString (i : Int))).length = _
  rw [num_S]
  rfl
theorem rl_txt {s : T} (h : asc s) : rl (dL s) ≤ 10 * s.length + 2 := PySem.StrLaws.reprText_len (SX.S s) fun c hc => Nat.lt_trans (h c (by simpa [SX.S] using hc)) (by decide)
theorem drepr (C : Cp X E k) (hg : X.A.guards = some []) (hm : X.mg "repr" = none) (h : DE X E c ρ (.ok d) ρ1) (g : Sw n d) (hn : n ≤ 60) (hz : rl d ≤ 16000000) (ht : (∃ ds, d = .lst ds) ∨ (∃ ds, d = .tup ds) ∨ ∃ s, d = dL s)
    (hgl : Gl X "repr" := by rfl) (hs : starEach [c] X.env = (false, eval c X.env) :: starEach [] X.env := by rfl) (hpl : (backTo pos (starEach [] X.env)).any (·.1) = false := by rfl) : DE X E (.Call (.Name "repr" p) [c] [] pos) ρ (.ok (dS (reprOf d))) ρ1 := by
  have hu : X.A.units + 64 < cLine := by have := C.room.un; omega
  refine de_callB (call_reprD hg hu) (fun F H vs Q sm l kk => ?_) hgl hm (by decide +kernel) (a1 h hs) (by decide) (by decide) hs hpl
  cases l with
  | @cons v vs d ds i l =>
    cases l
    obtain ⟨p0, q1, q2, q3⟩ := g.pl.py
    have e : pyT d = p0 := by unfold pyT; rw [q1]; rfl
    refine ⟨v, pyT d, rfl, dp_of sm i (by rw [q1, e]), g.shows, PyData.hasDict_of_canLay _ (by rw [e]; exact q2), by rw [e]; omega, Nat.le_trans hz (by decide), ?_, kk.v sm⟩
    rcases ht with ⟨ds, rfl⟩ | ⟨ds, rfl⟩ | ⟨s, rfl⟩
    · cases i; exact .inl ⟨_, rfl⟩
    · cases i; exact .inl ⟨_, rfl⟩
    · cases i; exact .inr ⟨_, rfl⟩
end
end Kd
set_option Elab.async false
set_option linter.all false
set_option maxRecDepth 100000
set_option maxHeartbeats 2000000
/-! repeated texts and lists, an empty dict; a lambda that is called by the def that gets it -/
namespace Kd
open PySem PySem.Spec PyProof.Rows L2
variable [LT]
section
variable {X : Cx} {E : XK} {k : Nat} {x y : Str} {p pos lpos p3 : Pos} {a b e f c : Expr} {es : List Expr} {ρ ρ1 ρ2 ρ3 : List Sl} {j n : Nat} {d : D} {ds : List D}
theorem op_mulS : OpR X (binaryOp .Mult) (fun x y H Q => ∃ s n, x = .str s ∧ y = .int n ∧ MulOk s n ∧ Q (.str (Txt.mul s n)) H) := by
  intro pins s σ H x y v u Q I rx ry h
  obtain ⟨i, j, rfl, rfl, hz, q⟩ := h
  obtain ⟨t, rfl⟩ := rx
  obtain ⟨t', rfl⟩ := ry
  exact SB.mul hz fun t'' k => ⟨.str (Txt.mul i j), H, I.tok _, ⟨_, rfl⟩, q⟩
theorem foldl_reps (l : T) (m : Nat) (acc : Array Nat) : ((List.replicate m l.toArray).foldl (· ++ ·) acc).toList = acc.toList ++ (List.replicate m l).flatten := by
  induction m generalizing acc with
  | zero => simp
  | succ m ih => rw [List.replicate_succ, List.foldl_cons, ih, List.replicate_succ, List.flatten_cons]; simp
theorem mul_S {l : T} {m : Nat} : Txt.mul (SX.S l) (m : Int) = SX.S (List.replicate m l).flatten := by
  unfold Txt.mul
  cases m with
  | zero => rfl
  | succ m =>
    rw [if_neg (by omega)]
    by_cases h : (((m + 1 : Nat) : Int) == 1 || (SX.S l).length == 0) = true
    · rw [if_pos h]
      rcases Bool.or_eq_true _ _ |>.mp h with h | h
      · have : m = 0 := by have := eq_of_beq h; omega
        subst this
        simp
      · have : l = [] := by have := eq_of_beq h; simpa [SX.S, Str.length] using this
        subst this
        simp
    · rw [if_neg h]
      have : ((m + 1 : Nat) : Int).toNat = m + 1 := Int.toNat_natCast _
      rw [this]
      have e := foldl_reps l (m + 1) #[]
      unfold SX.S
      congr 1
      apply Array.toList_inj.mp
      rw [e]
      simp
/-- l * m -/
theorem lmul {l : T} {m : Nat} (h : DE X E a ρ (.ok (dL l)) ρ1) (h2 : DE X E b ρ1 (.ok (dI (m : Int))) ρ2) (h0 : m * l.length ≤ 1000000) (hm : m < 2 ^ 62) : DE X E (.BinOp a .Mult b pos) ρ (.ok (dL (List.replicate m l).flatten)) ρ2 := by
  refine DE.to (de_op (z := dS (Txt.mul (SX.S l) (m : Int))) op_mulS (fun F H vx vy Q s hx hy k => ?_) h h2) (congrArg (fun t => Except.ok (dS t)) mul_S)
  cases hx; cases hy
  have hl : (SX.S l).length = l.length := by simp [SX.S, Str.length]
  refine ⟨_, _, rfl, rfl, ⟨?_, fun h1 h3 => ?_, fun h1 h3 => ?_⟩, k.v s⟩
  · simp only [Bool.or_eq_false_iff, decide_eq_false_iff_not]
    omega
  · rw [hl]
    intro z
    have m1 : (0 : Int) < m := by omega
    have z2 : ((2 : Int) ^ 63 - 1) < (l.length : Int) * m := by
      have := (Int.ediv_lt_iff_lt_mul m1).mp (show ((2 : Int) ^ 63 - 1) / m < l.length from z)
      exact this
    have z3 : ((l.length : Int)) * m = ((m * l.length : Nat) : Int) := by rw [Int.natCast_mul, Int.mul_comm]
    omega
  · rw [hl, Int.toNat_natCast, Nat.mul_comm]
    unfold Builtin.Str.tooLong
    exact decide_eq_false (Nat.not_lt.mpr (Nat.le_trans h0 (by decide)))
/-- list * m -/
theorem isl_reps {K : PySem.W.Frag} {F : Hp} {vs : List V} (h : IsL K F vs ds) : ∀ m : Nat, IsL K F (List.replicate m vs).flatten (List.replicate m ds).flatten
  | 0 => .nil
  | m + 1 => by
    rw [List.replicate_succ, List.replicate_succ, List.flatten_cons, List.flatten_cons]
    exact h.append (isl_reps h m)
theorem dmulL {m : Nat} (h : DE X E a ρ (.ok (.lst ds)) ρ1) (h2 : DE X E b ρ1 (.ok (dI (m : Int))) ρ2) (h0 : ds.length * m ≤ 1000000) (hm : m < 2 ^ 62) : DE X E (.BinOp a .Mult b pos) ρ (.ok (.lst (List.replicate m ds).flatten)) ρ2 := de_op op_rep (fun F H vx vy Q s hx hy k => by
  cases hy
  cases hx with
  | @lst a xs ds ht il =>
    refine ⟨a, _, xs, rfl, rfl, s _ _ ht, by omega, by omega, ?_, fun p hp => ?_⟩
    · rw [Int.toNat_natCast, il.length]
      exact Nat.le_trans h0 (by decide)
    · rw [Int.toNat_natCast]
      exact k.newL s (isl_reps il m) hp) h h2
/-- {} -/
theorem de_emp : DE X E (.Dict [] [] pos) ρ (.ok .emp) ρ := PE.wk pe_dnewK fun σ H Q ⟨en, F, w, k, _⟩ p hp => k _ rfl (.ref p) _ _ (w.grow (Gr.new w.fh hp (nofun))) (same_new (w.fh.free hp)) (.emp upd_same)
/-! ### lambdas -/
theorem lam_ps {A : Around} {outer : List Env} {s : Shared} {H : Hp} {scope : Scope} {g c' : Addr} : Ps (LamX.lamCx X A outer s H E scope g c') (W0 E) := Ps.of (takes_of rfl rfl rfl rfl)
theorem lam_cp {A : Around} {outer : List Env} {s : Shared} {H : Hp} {scope : Scope} {g c' : Addr} (nd : X.N.Nodup) (hr : Room k (A.deeper (LamX.lamEnv X scope s.heap.objs.size g c'))) : Cp (LamX.lamCx X A outer s H E scope g c') E k := ⟨lam_ps, rfl, nd, hr⟩
/-- what the caller of a lambda tells: the answer in a list, or a word for the errors of C -/
def told (ret : T) : Res → D
  | .ok d => .lst [d]
  | .error _ => dL ret
/-- def x(a): try: return [a()] / except e: return ret -/
def TTl (K : PySem.W.Frag) (CS : Addr) (ret : Str) : (XK → Hp → VK → Prop) → Hp → VK → Prop := fun tl H Q =>
  tl (fun cls _ H' => ∃ b, PySem.W.exmOne K cls (.ref CS) = some b ∧ (b = true → Q (.str ret) H') ∧ (b = false → False)) H (fun v H' => ([v] : List V).length ≤ sizeLine ∧ ∀ p, H' p = none → Q (.ref p) (upd H' p (.lst [v])))
theorem toldL_gives {Ng : List Str} {x a e q ret : Str} {sg : Scope} {g CS : Addr} {cdg : Value} {j : Nat} {p1 p2 p3 p4 p5 p6 p7 p8 p9 : Pos} (gl : sg.names.lookup e = some .globalImplicit) (me : X.mg e = some (.ref CS)) (de : (e == ("__debug__" : Str)) = false) (z0 : ∀ f : Addr, (L2.start Ng [V.ref f])[0]? = some (some (V.ref f))) :
    LamX.GivesTo X Ng x sg g cdg [.Try [.Return (some (.List [.Call (.Name a p1) [] [] p2] p9)) p3] [.ExceptHandler (some (.Name e p4)) none [.Return (some (.Constant (.str ret) j p5)) p6] p7] [] [] p8] a q (TTl X.K CS ret) := fun f c' s H Q tl act hc h => by
  let Xg := (cxOf C8.CX0 X.prog X.w X.K X.mg X.base Ng x sg g cdg X.A X.stack s H C8.E0).nox
  have glX : Gl Xg e := gl
  refine ⟨_, pss_one (ps_try_only (X := Xg) (c := .ref CS)
      (tb := fun W D σ H => ∃ Ech : XK, (∀ cls d σ' H', Ech cls d H' → W cls d σ' H') ∧ σ[0]? = some (some (.ref f)) ∧ H c' = some (LamX.CodeO c' q) ∧ tl Ech H (fun v H' => ([v] : List V).length ≤ sizeLine ∧ ∀ p, H' p = none → D.rt (.ref p) (upd H' p (.lst [v]))))
      rfl rfl ⟨glX, de, .inl me⟩ LamX.takes0 (fun W pn xe tk _ => ⟨fun pins s' σ H' D I ⟨Ech, w1, w2, w3, w4⟩ => (pss_one (ps_ret (pos := p3) (pe_lst (pa_cons (act W pn xe Ech p1 p2 tk w1) pa_nil)))).run pins s' σ H' D I ⟨w2, w3, w4⟩⟩) (fun a oe cls d pn _ _ => pss_one (ps_ret pe_str))), ?_⟩
  refine ⟨fun cls _ H' => ∃ b, PySem.W.exmOne X.K cls (.ref CS) = some b ∧ (b = true → Q (.str ret) H') ∧ (b = false → False), fun cls d σ' H' z => ?_, z0 f, hc, h⟩
  obtain ⟨b, e1, e2, e3⟩ := z
  exact ⟨b, e1, fun hb a _ => e2 hb, fun hb => e3 hb⟩
/-- the def x is just so; C: what it catches -/
structure RdOk (K : PySem.W.Frag) (mg : Str → Option Value) (x : Str) (C : Addr) (ret : T) : Prop where
  ex : ∃ (g : Addr) (pg : Arguments) (sg : Scope) (kV doc pm cdv ct oc : Value) (an od : Option Addr) (osl : Array (Option Value)) (Ng : List Str) (a e : Str) (j : Nat) (p1 p2 p3 p4 p5 p6 p7 p8 p9 : Pos) (bg : List Stmt),
    bg = [.Try [.Return (some (.List [.Call (.Name a p1) [] [] p2] p9)) p3] [.ExceptHandler (some (.Name e p4)) none [.Return (some (.Constant (.str (SX.S ret)) j p5)) p6] p7] [] [] p8] ∧ mg x = some (.ref g) ∧ PySem.W.keepIn K (.ref g) = true ∧
    K.lookup g = some ⟨oc, od, .func (PySem.W.fnOf x x pg bg sg .none kV doc pm an cdv ct), osl⟩ ∧ PySem.W.codeIn K cdv x = true ∧ L2.Binds K (PySem.W.fnOf x x pg bg sg .none kV doc pm an cdv ct) [a] [] ∧ FnScope Ng [a] sg ∧ Ng[0]? = some a ∧ Vis sg a ∧
    sg.names.lookup e = some .globalImplicit ∧ mg e = some (.ref C) ∧ (e == ("__debug__" : Str)) = false ∧ (a == ("__debug__" : Str)) = false ∧ (a == ("__classdict__" : Str)) = false
/-- where lambdas are made: the code object at c, its table at P -/
structure Mkr (X : Cx) (c P : Addr) : Prop where
  tb : LamX.TabB X.base X.mg c P
  code : X.env.code = .ref c
  mem : (P, X.env.qual ++ "<lambda>") ∈ LT.T
  one : ∀ p ∈ LT.T, p.1 = P → p.2 = X.env.qual ++ "<lambda>"
/-- x(lambda: body) -/
theorem de_told {C c P : Addr} {ret : T} {body : Expr} {params : Arguments} {scope : Scope} {r : Res} (Cx : Ct X E k) (R : RdOk X.K X.mg x C ret) (M : Mkr X c P) (L : LamX.lamSB X.env.scope scope = true) (hk : j + 2 ≤ k)
    (hb : ∀ (A : Around) (outer : List Env) (s : Shared) (H : Hp) (E : XK) (f c' : Addr), Cp (LamX.lamCx X A outer s H E scope f c') E j → DEk (LamX.lamCx X A outer s H E scope f c') E body ρ r ρ) (he : ∀ y, r = .error y → y.fs = none ∧ PySem.W.exmOne X.K y.cls (.ref C) = some true)
    (hg : Gl X x := by rfl) (hdb : (x == ("__debug__" : Str)) = false := by decide) (hdef : defaultsOf params X.env = ([], []) := by rfl) (hbd : ∀ (q : Str) (cl : List (Str × Addr)) (pm cv ctv : Value), bindArgs (PySem.W.kla_fn "<lambda>" q params body scope cl pm cv ctv) ⟨[], []⟩ = pure [] := by intros; rfl) :
    DE X E (.Call (.Name x p) [.Lambda params body scope lpos] [] pos) ρ (.ok (told ret r)) ρ := by
  obtain ⟨g, pg, sg, kV, doc, pm, cdv, ct, oc, an, od, osl, Ng, a, e, jj, p1, p2, p3, p4, p5, p6, p7, p8, p9, bg, rfl, hm, hkp, lk, hcg, hbn, Sg, hNg, hva, hge, hme, hde, hd, hcd⟩ := R.ex
  have h0 : ∀ f : Addr, (L2.start Ng [V.ref f])[0]? = some (some (V.ref f)) := fun f => rfl
  refine PE.wk (LamX.pe_lamcall (T := LT.T) (TT := TTl X.K C (SX.S ret)) (k := j) (t := fun E σ H Q => tDk X.K E ρ r ρ σ H Q) hg hm hkp lk hcg hbn Sg hNg hva (toldL_gives hge hme hde h0) M.tb M.code M.mem M.one (Cx.room.mono hk) (LamX.lamS_by L) hdef hbd
    (fun A outer s H E f c' hr => hb A outer s H E f c' (lam_cp Cx.nd hr)) hdb hd hcd) fun σ H Q ⟨en, F, w, k1, k2⟩ => ⟨w.tb, fun H1 x1 t1 => ⟨en, F, w.lam x1 t1, fun d hd v F' H' w' s' i' => ?_, fun y hy F' H' w' s' => ?_⟩⟩
  · subst hd
    exact ⟨Nat.le_trans (by decide : 1 ≤ 16000000) (by decide), fun p hp => k1 _ rfl _ _ _ (w'.grow (Gr.new w'.fh hp (nofun))) (s'.trans (same_new (w'.fh.free hp))) (.lst upd_same (.cons (i'.mono (same_new (w'.fh.free hp))) .nil))⟩
  · subst hy
    obtain ⟨e1, e2⟩ := he y rfl
    show Thr _ y H'
    unfold Thr
    rw [e1]
    exact ⟨true, e2, fun _ => k1 _ rfl _ _ _ w' s' (.v _), fun z => by cases z⟩
end
end Kd
set_option Elab.async false
set_option linter.all false
set_option maxRecDepth 100000
set_option maxHeartbeats 2000000
/-! defs that make lambdas, called where no repr is on its way -/
namespace Kd
open PySem PySem.Spec PyProof.Rows L2
variable [LT]
/-! ### defs called where no repr is on its way -/
structure FnG (P : Program) (w : World) (K : PySem.W.Frag) (mg : Str → Option Value) (base : Heap) (k : Nat) (a : Addr) (fd : FuncData) (ps : List Str) (sp : Sp) : Prop where
  size : ∀ vs H Q E, sp vs H Q E → vs.length = ps.length
  go : ∀ (A : Around) (outer : List Env) (s : Shared) (H : Hp) (us : List Value) (vs : List V) (Q : VK) (E : XK), Room k A → A.guards = some [] → Env0 P w K mg base A outer s H → BindsTo s fd ⟨us, []⟩ (ps.zip us) → Vals vs us → sp vs H Q E → codeAny (model P w) A (.call (.ref a) ⟨us, []⟩) (CR (L2.CX P w) outer P w H s Q E) s
theorem FnG.mono {P : Program} {w : World} {K : PySem.W.Frag} {mg : Str → Option Value} {base : Heap} {j k : Nat} {a : Addr} {fd : FuncData} {ps : List Str} {sp : Sp} (G : FnG P w K mg base j a fd ps sp) (h : j ≤ k) : FnG P w K mg base k a fd ps sp :=
  ⟨G.size, fun A outer s H us vs Q E r => G.go A outer s H us vs Q E (r.mono h)⟩
/-- a def whose code object lies at c -/
structure FunC (K : PySem.W.Frag) (x : Str) (st : Stmt) (a : Addr) (fd : FuncData) (c : Addr) : Prop where
  ex : ∃ (oc kV doc pm ct : Value) (od an : Option Addr) (osl : Array (Option Value)), fd = PySem.W.fnOf x x (defArgs st) (defBody st) (defScope st) .none kV doc pm an (.ref c) ct ∧ K.lookup a = some ⟨oc, od, .func fd, osl⟩ ∧ PySem.W.codeIn K (.ref c) x = true
  kp : PySem.W.keepIn K (.ref a) = true
theorem FnG.of {P : Program} {w : World} {K : PySem.W.Frag} {mg : Str → Option Value} {base : Heap} {x : Str} {st : Stmt} {a c : Addr} {fd : FuncData} {N ps : List Str} {k : Nat} {sp : Sp} (F : FunC K x st a fd c) (S : FnScope N ps (defScope st)) (size : ∀ vs H Q E, sp vs H Q E → vs.length = ps.length)
    (body : ∀ (A : Around) (outer : List Env) (s : Shared) (H : Hp) (vs : List V) (Q : VK) (E : XK), Room k (A.deeper (envOfC x (defScope st) s.heap.objs.size a (.ref c))) → A.guards = some [] → sp vs H Q E →
      ∃ t, PSs (cxOf (L2.CX P w) P w K mg base N x (defScope st) a (.ref c) A outer s H E) (defBody st) t ∧ t { nx := fun _ H' => Q .non H', rt := Q } (L2.start N vs) H) : FnG P w K mg base (k + 1) a fd ps sp := by
  obtain ⟨oc, kV, doc, pm, ct, od, an, osl, rfl, lk, hcd⟩ := F.ex
  exact ⟨size, fun A outer s H us vs Q E hr hg e0 hb r h => LamX.run_ofS lk hcd S hr e0 hb r (size _ _ _ _ h) fun hr' => body A outer s H vs Q E hr' hg h⟩
section
variable {X : Cx} {k : Nat} {a : Addr} {fd : FuncData} {ps : List Str} {sp : Sp} {x : Str} {p pos : Pos} {e : Expr} {es : List Expr} {t : TA} {W : WX}
/-- a call as it runs -/
theorem run_g {pins : List (Addr × Obj)} {σ : L2.St} {H : Hp} {s : Shared} {Q : VK} {us : List Value} {vs : List V} (G : FnG X.prog X.w X.K X.mg X.base k a fd ps sp) (hr : Room k X.A) (hg : X.A.guards = some []) (hb : Binds X.K fd ps []) (hx : Ps X W) (I : Inv X pins σ H s) (r : Vals vs us) (h : sp vs H Q (WE W σ)) :
    wpAny (model X.prog X.w) X.A (call (.ref a) us) (EP X pins σ Q) X.xe s := by
  have hl : us.length = ps.length := r.length.symm.trans (G.size _ _ _ _ h)
  have b := hb s us I.kIn ((List.append_nil us).symm ▸ hl)
  rw [List.append_nil] at b
  exact wpAny_call (codeAny_mono (G.go X.A X.stack s H us vs Q (WE W σ) hr hg I.env0 b r h) fun z s' hq => match z, hq with
    | .error e, hq => hx σ pins H s e s' I hq
    | .ok (.ret _), hq => I.after hq)
/-- f(..) -/
theorem pe_callG (G : FnG X.prog X.w X.K X.mg X.base k a fd ps sp) (hr : Room k X.A) (hgd : X.A.guards = some []) (hg : Gl X x) (hm : X.mg x = some (.ref a)) (hk : PySem.W.keepIn X.K (.ref a) = true) (hb : Binds X.K fd ps []) (hx : Ps X W)
    (ha : PA X (e :: es) t) (hdb : (x == ("__debug__" : Str)) = false := by decide) (he : starEach (e :: es) X.env = (false, eval e X.env) :: starEach es X.env := by rfl) (hpl : (backTo pos (starEach es X.env)).any (·.1) = false := by rfl) :
    PE X (.Call (.Name x p) (e :: es) [] pos) (tCallS sp (WE W) t) := ⟨fun pins s σ H Q I h => by
  refine wpAny_Call_Name_kw (ld_glob I hg hm ?_ hdb)
  exact PySem.W.callWith_K (h₀ := X.base) I.ok.mod.kin hk (thn (ha.run pos pins s σ H _ I h) fun us s1 ⟨vs, H1, I1, r, q⟩ => ⟨I1.kIn, run_g G hr hgd hb hx I1 r q⟩) he hpl⟩
end

structure KnLG (P : Program) (w : World) (K : PySem.W.Frag) (mg : Str → Option Value) (base : Heap) (x : Str) (k : Nat) (n : Nat) {S Z : Type} (enc0 : S → List D) (enc : Z → List D) (f : S → Z → D × S) (dom : S → Z → Prop) : Prop where
  ex : ∃ (a : Addr) (fd : FuncData) (ps : List Str), ps.length = n + 1 ∧ mg x = some (.ref a) ∧ PySem.W.keepIn K (.ref a) = true ∧ Binds K fd ps [] ∧ FnG P w K mg base k a fd ps (spL K enc0 enc f dom n)
section
variable {X : Cx} {E : XK} {es : List Expr} {ρ ρ1 : List Sl} {pos p : Pos} {k j n : Nat} {x y : Str} {S Z : Type} {enc : Z → List D} {enc0 : S → List D}
theorem dclG {f : S → Z → D × S} {dom : S → Z → Prop} (u : S) (z : Z) (i : Nat) {bb : Bool} {py : Pos} (C : Cp X E k) (hgd : X.A.guards = some []) (h : KnLG X.prog X.w X.K X.mg X.base x j n enc0 enc f dom) (ha : DA X E es ρ (.ok (enc z)) ρ1) (hd : dom u z) (hi : ρ1[i]? = some (.own bb (enc0 u)) := by rfl) (ho : ∃ b xs0, ρ[i]? = some (.own b xs0) := by exact ⟨_, _, rfl⟩) (hk : j ≤ k := by decide) (hg : Gl X x := by rfl) (hN : X.N[i]? = some y := by rfl)
    (hv : Vis X.env.scope y := by first | exact Or.inl rfl | exact Or.inr (Or.inl rfl) | exact Or.inr (Or.inr rfl)) (hl : (enc z).length = n := by rfl) (hdb : (x == ("__debug__" : Str)) = false := by decide) (hd1 : (y == ("__debug__" : Str)) = false := by decide) (hcd : (y == ("__classdict__" : Str)) = false := by decide)
    (he : starEach (.Name y py :: es) X.env = (false, eval (.Name y py) X.env) :: starEach es X.env := by rfl) (hpl : (backTo pos (starEach es X.env)).any (·.1) = false := by rfl) :
    DE X E (.Call (.Name x p) (.Name y py :: es) [] pos) ρ (.ok (f u z).1) (ρ1.set i (.own bb (enc0 (f u z).2))) := by
  obtain ⟨a, fd, ps, hps, hm, hkp, hb, G⟩ := h.ex
  exact callL_core u z (pe_callG G (C.room.mono hk) hgd hg hm hkp hb C.ps (pa_cons (pe_var hN hv hd1 hcd) ha he) hdb he hpl) ho hi hl hd
end
section
variable {P : Program} {w : World} {K : PySem.W.Frag} {mg : Str → Option Value} {base : Heap}
theorem knLG_of {x : Str} {st : Stmt} {a c : Addr} {fd : FuncData} {N ps : List Str} {k n : Nat} {S Z : Type} {enc0 : S → List D} {enc : Z → List D} {f : S → Z → D × S} {dom : S → Z → Prop} (F : FunC K x st a fd c) (hm : mg x = some (.ref a)) (hb : Binds K fd ps []) (Sc : FnScope N ps (defScope st)) (hn : ps.length = n + 1) (hN : n + 1 ≤ N.length)
    (body : ∀ (A : Around) (outer : List Env) (s : Shared) (H : Hp) (E : XK) (u : S) (z : Z), Ct (cxOf (L2.CX P w) P w K mg base N x (defScope st) a (.ref c) A outer s H E) E k → A.guards = some [] → dom u z →
      DSs (cxOf (L2.CX P w) P w K mg base N x (defScope st) a (.ref c) A outer s H E) E (defBody st) (rhoL N (enc0 u) (enc z)) (PostL enc0 (f u z))) : KnLG P w K mg base x (k + 1) n enc0 enc f dom :=
  ⟨a, fd, ps, hn, hm, F.kp, hb, FnG.of F Sc (fun vs H Q E h => lenL hn h) fun A outer s H vs Q E hr hg h => entL hN h fun u z hl hd => body A outer s H E u z (ct_of Sc.nd hr) hg hd⟩
theorem fnG_of {x : Str} {st : Stmt} {a c : Addr} {fd : FuncData} {N ps : List Str} {k n : Nat} {Z : Type} {enc : Z → List D} {f : Z → Res} {dom : Z → Prop} (F : FunC K x st a fd c) (Sc : FnScope N ps (defScope st)) (hn : ps.length = n) (hN : n ≤ N.length)
    (body : ∀ (A : Around) (outer : List Env) (s : Shared) (H : Hp) (E : XK) (z : Z), Ct (cxOf (L2.CX P w) P w K mg base N x (defScope st) a (.ref c) A outer s H E) E k → A.guards = some [] → dom z →
      DSs (cxOf (L2.CX P w) P w K mg base N x (defScope st) a (.ref c) A outer s H E) E (defBody st) (rho N (enc z)) (Post (f z))) : FnG P w K mg base (k + 1) a fd ps (spP K enc f dom n) :=
  FnG.of F Sc (fun vs H Q E h => lenP hn h) fun A outer s H vs Q E hr hg h => entP hN h fun z hl hd => body A outer s H E z (ct_of Sc.nd hr) hg hd
end
end Kd
set_option Elab.async false
set_option linter.all false
set_option maxRecDepth 100000
set_option maxHeartbeats 2000000
/-! what the program's functions compute, said of lists -/
namespace Kd
open PySem PySem.Spec PyProof.Rows L2
variable [LT]
inductive AEl where
  | one (i : Nat)
  | rep (p : List Nat) (n : Nat)
  deriving DecidableEq
def encE : AEl → D
  | .one i => dIn i
  | .rep p n => .tup [.tup (p.map dIn), dIn n]
def encA (a : List AEl) : D := .tup (a.map encE)
inductive Look where
  | word (s : T) (n : Nat)
  | fn
  | var (n : Nat)
  deriving DecidableEq
def tWord : T := [119, 111, 114, 100]
def tVar : T := [118, 97, 114]
def tFun : T := [102, 117, 110]
def tLet : T := [108, 101, 116]
def tIn : T := [105, 110]
def tAlike : T := [97, 108, 105, 107, 101]
def tUnlike : T := [117, 110, 108, 105, 107, 101]
def tChain : T := [99, 104, 97, 105, 110]
def figs : T := [48, 49, 50, 51, 52, 53, 54, 55, 56, 57]
def kids : List T := [[48], [49], [50]]
def encK : Look → D
  | .word s n => .tup [dL tWord, dL s, dIn n]
  | .fn => .tup [dL tFun]
  | .var n => .tup [dL tVar, dIn n]
def encR (r : List (Nat × Nat)) : D := .tup (r.map fun p => .tup [dIn p.1, dIn p.2])
inductive Paper where
  | alike (r : List (Nat × Nat))
  | unlike (a : List AEl)
  deriving DecidableEq
def encP : Paper → D
  | .alike r => .tup [dL tAlike, encR r]
  | .unlike a => .tup [dL tUnlike, encA a]
structure Diff where
  a : List AEl
  x : Look
  y : Look
  deriving DecidableEq
def encF (d : Diff) : D := .tup [encA d.a, encK d.x, encK d.y]
structure Chn where
  a : List AEl
  ps : List (List AEl)
  deriving DecidableEq
def encC (c : Chn) : D := .tup [dL tChain, encA c.a, .tup (c.ps.map encA)]

/-! ### forms -/
def isName (s : T) : Bool := decide (1 ≤ s.length) && decide (s.length ≤ 8) && !decide (s ∈ [tFun, tLet, tIn]) && s.all fun c => decide (97 ≤ c) && decide (c ≤ 122)
def isPiece (p : List Nat) : Bool := !decide (p = []) && p.all fun i => decide (i ≤ 2)
def isEl : AEl → Bool
  | .one i => decide (i ≤ 2)
  | .rep p n => isPiece p && decide (n ≤ 10 ^ 30)
def isAddr (a : List AEl) : Bool := a.all isEl
def isOne : AEl → Bool
  | .one _ => true
  | .rep _ _ => false
def isPlain (a : List AEl) : Bool := isAddr a && a.all isOne
def isLook : Look → Bool
  | .word s n => isName s && decide (n ≤ 3)
  | .fn => true
  | .var n => decide (0 < n)
def adj : List (Nat × Nat) → Bool
  | p :: q :: r => (decide (p.1 < q.1) || (decide (p.1 = q.1) && decide (p.2 < q.2))) && adj (q :: r)
  | _ => true
def isRel (r : List (Nat × Nat)) : Bool := r.all (fun p => decide (p.1 ≤ 99) && decide (p.2 ≤ 99)) && adj r
def isDiff (d : Diff) : Bool := isPlain d.a && isLook d.x && isLook d.y
def isPaper : Paper → Bool
  | .alike r => isRel r
  | .unlike a => isAddr a
def isChain (c : Chn) : Bool := isPlain c.a && !decide (c.ps = []) && c.ps.all fun a => isPlain a && !decide (a = [])

/-! ### texts -/
def elText : AEl → T
  | .one i => TL.numL i
  | .rep p n => [40] ++ TL.joinL [46] (p.map TL.numL) ++ ([41, 42] ++ TL.numL n)
def orNo (s : T) : T := if s = [] then [45] else s
def addrText (a : List AEl) : T := orNo (TL.joinL [46] (a.map elText))
def lookText : Look → T
  | .word s n => s ++ ([47] ++ TL.numL n)
  | .fn => tFun
  | .var n => tVar ++ ([32] ++ TL.numL n)
def pairText (p : Nat × Nat) : T := TL.numL p.1 ++ ([45] ++ TL.numL p.2)
def relText (r : List (Nat × Nat)) : T := orNo (TL.joinL [32] (r.map pairText))
def diffText (d : Diff) : T := addrText d.a ++ ([58, 32] ++ (lookText d.x ++ ([44, 32] ++ lookText d.y)))
def paperText : Paper → T
  | .alike r => tAlike ++ ([32] ++ relText r)
  | .unlike a => tUnlike ++ ([32] ++ addrText a)
def chainText (c : Chn) : T := addrText c.a ++ ([58, 32] ++ TL.joinL [44, 32] (c.ps.map addrText))

/-! ### reading -/
def mapO {α β : Type} (g : α → Option β) : List α → Option (List β)
  | [] => some []
  | a :: as => match g a with
    | none => none
    | some b => match mapO g as with
      | none => none
      | some bs => some (b :: bs)
def numOk (s : T) : Bool := decide (1 ≤ s.length) && decide (s.length ≤ 40) && s.all fun c => decide (c ∈ figs)
def numIn (s : T) : Option Nat := if numOk s = true ∧ (s.head? = some 48 → s = [48]) then some (PySem.NumText.digitsVal s) else none
def childIn (s : T) : Option Nat := if s ∈ kids then some (PySem.NumText.digitsVal s) else none
def repIn (s : T) : Option AEl := match mapO childIn (TL.spl [46] 0 [] (pt [41, 42] s).1) with
  | none => none
  | some p => match numIn (pt [41, 42] s).2.2 with
    | none => none
    | some n => some (.rep p n)
def elIn (s : T) : Option AEl := if s.take 1 = [40] then repIn (s.drop 1) else (childIn s).map .one
def pcs : Bool → T → T → List T
  | _, acc, [] => [acc]
  | o, acc, c :: r => if c = 40 ∨ c = 41 then pcs (decide (c = 40)) (acc ++ [c]) r else if c = 46 ∧ o = false then acc :: pcs o [] r else pcs o (acc ++ [c]) r
def addrRaw (s : T) : Option (List AEl) := if s = [45] then some [] else mapO elIn (pcs false [] s)
def addrIn (s : T) : Option (List AEl) := match addrRaw s with
  | none => none
  | some a => if isAddr a = true ∧ addrText a = s then some a else none
def plainIn (s : T) : Option (List AEl) := match addrIn s with
  | none => none
  | some a => if isPlain a = true then some a else none
def lookRaw (s : T) : Option Look := if s = tFun then some .fn else if s.take 4 = tVar ++ [32] then (numIn (s.drop 4)).map .var else (numIn (pt [47] s).2.2).map (.word (pt [47] s).1)
def lookIn (s : T) : Option Look := match lookRaw s with
  | none => none
  | some l => if isLook l = true ∧ lookText l = s then some l else none
def pairIn (s : T) : Option (Nat × Nat) := match numIn (pt [45] s).1 with
  | none => none
  | some a => match numIn (pt [45] s).2.2 with
    | none => none
    | some b => some (a, b)
def relRaw (s : T) : Option (List (Nat × Nat)) := if s = [45] then some [] else mapO pairIn (TL.spl [32] 0 [] s)
def relIn (s : T) : Option (List (Nat × Nat)) := match relRaw s with
  | none => none
  | some r => if isRel r = true then some r else none
def diffIn (s : T) : Option Diff := match plainIn (pt [58, 32] s).1 with
  | none => none
  | some a => match lookIn (pt [44, 32] (pt [58, 32] s).2.2).1 with
    | none => none
    | some x => match lookIn (pt [44, 32] (pt [58, 32] s).2.2).2.2 with
      | none => none
      | some y => some ⟨a, x, y⟩
def paperIn (s : T) : Option Paper := if (pt [32] s).1 = tAlike then (relIn (pt [32] s).2.2).map .alike else if (pt [32] s).1 = tUnlike then (addrIn (pt [32] s).2.2).map .unlike else none
def chainIn (s : T) : Option Chn := match plainIn (pt [58, 32] s).1 with
  | none => none
  | some a => match mapO plainIn (TL.spl [44, 32] 0 [] (pt [58, 32] s).2.2) with
    | none => none
    | some ps => if isChain ⟨a, ps⟩ = true then some ⟨a, ps⟩ else none
/-- an answer, or the error -/
def ofO {α : Type} (c : Value) (g : α → D) : Option α → Res
  | some a => .ok (g a)
  | none => .error ⟨c, none⟩
theorem ofO_map {α β : Type} {c : Value} {g : β → D} {h : α → β} : ∀ {o : Option α}, ofO c g (o.map h) = ofO c (fun a => g (h a)) o
  | some _ => rfl
  | none => rfl
theorem mapA_O {α β : Type} {c : Value} {enc : β → D} {g : α → Option β} : ∀ {xs : List α}, mapA (fun a => ofO c enc (g a)) xs = (match mapO g xs with | some bs => .ok (bs.map enc) | none => .error ⟨c, none⟩)
  | [] => rfl
  | x :: xs => by
    rw [mapA_cons, mapO]
    cases g x with
    | none => rfl
    | some b =>
      rw [mapA_O]
      cases mapO g xs <;> rfl
/-! ### plain data -/
theorem plIs {n : Nat} (p : List Nat) : ∀ d ∈ p.map dIn, Pl n d := fun d hd => by
  obtain ⟨i, _, rfl⟩ := List.mem_map.mp hd
  exact .int
theorem plE (e : AEl) : Pl 2 (encE e) := by
  cases e with
  | one i => exact .int
  | rep p n =>
    exact .tup fun d hd => by
      rcases List.mem_cons.mp hd with rfl | hd
      · exact .tup (plIs p)
      · rcases List.mem_cons.mp hd with rfl | hd
        · exact .int
        · cases hd
theorem plEs (a : List AEl) : ∀ d ∈ a.map encE, Pl 2 d := fun d hd => by
  obtain ⟨e, _, rfl⟩ := List.mem_map.mp hd
  exact plE e
theorem plA (a : List AEl) : Pl 3 (encA a) := .tup (plEs a)
theorem plAs (ps : List (List AEl)) : ∀ d ∈ ps.map encA, Pl 3 d := fun d hd => by
  obtain ⟨e, _, rfl⟩ := List.mem_map.mp hd
  exact plA e
def ascK : Look → Prop
  | .word s _ => asc s
  | _ => True
theorem asc_lit {s : T} (h : s.all (· < 128) = true := by decide) : asc s := fun c hc => by simpa using List.all_eq_true.mp h c hc
theorem plK {l : Look} (h : ascK l) : Pl 1 (encK l) := by
  cases l with
  | word s n =>
    exact .tup fun d hd => by
      simp only [List.mem_cons, List.not_mem_nil, or_false] at hd
      rcases hd with rfl | rfl | rfl
      · exact .txt asc_lit
      · exact .txt h
      · exact .int
  | fn =>
    exact .tup fun d hd => by
      simp only [List.mem_cons, List.not_mem_nil, or_false] at hd
      subst hd
      exact .txt asc_lit
  | var n =>
    exact .tup fun d hd => by
      simp only [List.mem_cons, List.not_mem_nil, or_false] at hd
      rcases hd with rfl | rfl
      · exact .txt asc_lit
      · exact .int
theorem plR (r : List (Nat × Nat)) : Pl 2 (encR r) := .tup fun d hd => by
  obtain ⟨e, _, rfl⟩ := List.mem_map.mp hd
  exact .tup fun d hd => by
    simp only [List.mem_cons, List.not_mem_nil, or_false] at hd
    rcases hd with rfl | rfl <;> exact .int
theorem eqD_A {a b : List AEl} : eqD (encA a) (encA b) = true → a.length = b.length := fun h => by
  unfold encA at h
  rw [eqD_tup (plEs a) (plEs b), Bool.and_eq_true, decide_eq_true_eq, List.length_map, List.length_map] at h
  exact h.1
end Kd
set_option Elab.async false
set_option linter.all false
set_option maxRecDepth 100000
set_option maxHeartbeats 2000000
/-! plain laws: what is read is written back the same -/
namespace Kd
open PySem PySem.Spec PyProof.Rows L2
variable [LT]
theorem digitsVal_snoc (s : T) (c : Nat) : PySem.NumText.digitsVal (s ++ [c]) = PySem.NumText.digitsVal s * 10 + (c - 48) := by
  unfold PySem.NumText.digitsVal
  rw [List.foldl_append]
  rfl
theorem head_snoc {s : T} {c : Nat} (h : s ≠ []) : (s ++ [c]).head? = s.head? := by
  cases s with
  | nil => exact absurd rfl h
  | cons a s => rfl
theorem numL_canon : ∀ (n : Nat) (s : T), s.length = n → PySem.NumText.AllDigits s → s ≠ [] → (s.head? = some 48 → s = [48]) → TL.numL (PySem.NumText.digitsVal s) = s
  | 0, s, hn, _, h0, _ => absurd (List.length_eq_zero_iff.mp hn) h0
  | n + 1, s, hn, hd, h0, hz => by
    obtain ⟨s', c, rfl⟩ : ∃ s' c, s = s' ++ [c] := ⟨s.dropLast, s.getLast h0, (List.dropLast_concat_getLast h0).symm⟩
    have hc := hd c (by simp)
    rw [digitsVal_snoc]
    by_cases h1 : s' = []
    · subst h1
      have e : PySem.NumText.digitsVal [] * 10 + (c - 48) = c - 48 := by show 0 * 10 + (c - 48) = _; omega
      rw [e, TL.numL_lt (by omega)]
      show [48 + (c - 48)] = [c]
      rw [show 48 + (c - 48) = c by omega]
    · have nh : s'.head? ≠ some 48 := fun h => by
        have := hz (by rw [head_snoc h1]; exact h)
        have l := congrArg List.length this
        rw [List.length_append] at l
        exact h1 (List.length_eq_zero_iff.mp (by simpa using l))
      have ih := numL_canon n s' (by rw [List.length_append] at hn; simpa using hn) (fun d hd2 => hd d (List.mem_append_left _ hd2)) h1 (fun h => absurd h nh)
      have pos : 1 ≤ PySem.NumText.digitsVal s' := by
        refine Nat.one_le_iff_ne_zero.mpr fun z => nh ?_
        rw [z] at ih
        rw [← ih]
        rfl
      rw [TL.numL_step (by omega)]
      have e1 : (PySem.NumText.digitsVal s' * 10 + (c - 48)) / 10 = PySem.NumText.digitsVal s' := by omega
      have e2 : (PySem.NumText.digitsVal s' * 10 + (c - 48)) % 10 = c - 48 := by omega
      rw [e1, e2, ih, show 48 + (c - 48) = c by omega]
theorem digits_lt : ∀ (s : T), PySem.NumText.AllDigits s → PySem.NumText.digitsVal s < 10 ^ s.length := by
  intro s
  induction hn : s.length generalizing s with
  | zero =>
    intro _
    rw [List.length_eq_zero_iff.mp hn]
    decide
  | succ n ih =>
    intro hd
    have h0 : s ≠ [] := fun z => by rw [z] at hn; cases hn
    obtain ⟨s', c, rfl⟩ : ∃ s' c, s = s' ++ [c] := ⟨s.dropLast, s.getLast h0, (List.dropLast_concat_getLast h0).symm⟩
    have hc := hd c (by simp)
    have := ih s' (by rw [List.length_append] at hn; simpa using hn) (fun d hd2 => hd d (List.mem_append_left _ hd2))
    rw [digitsVal_snoc, Nat.pow_succ]
    omega
theorem fig_iff {c : Nat} : c ∈ figs ↔ 48 ≤ c ∧ c ≤ 57 := by
  unfold figs
  simp only [List.mem_cons, List.not_mem_nil, or_false]
  omega
theorem numOk_spec {s : T} (h : numOk s = true) : 1 ≤ s.length ∧ s.length ≤ 40 ∧ PySem.NumText.AllDigits s := by
  unfold numOk at h
  simp only [Bool.and_eq_true, decide_eq_true_eq, List.all_eq_true] at h
  exact ⟨h.1.1, h.1.2, fun c hc => fig_iff.mp (h.2 c hc)⟩
theorem numIn_spec {s : T} {n : Nat} (h : numIn s = some n) : numOk s = true ∧ (s.head? = some 48 → s = [48]) ∧ n = PySem.NumText.digitsVal s := by
  unfold numIn at h
  split at h
  · rename_i h1
    exact ⟨h1.1, h1.2, (Option.some.inj h).symm⟩
  · cases h
theorem numIn_text {s : T} {n : Nat} (h : numIn s = some n) : TL.numL n = s := by
  obtain ⟨h1, h2, rfl⟩ := numIn_spec h
  obtain ⟨g1, g2, g3⟩ := numOk_spec h1
  exact numL_canon _ s rfl g3 (fun z => by rw [z] at g1; cases g1) h2
theorem numIn_lt {s : T} {n : Nat} (h : numIn s = some n) : n < 10 ^ 40 := by
  obtain ⟨h1, h2, rfl⟩ := numIn_spec h
  obtain ⟨g1, g2, g3⟩ := numOk_spec h1
  exact Nat.lt_of_lt_of_le (digits_lt s g3) (Nat.pow_le_pow_right (by decide) g2)
theorem kid_cases {s : T} (h : s ∈ kids) : s = [48] ∨ s = [49] ∨ s = [50] := by
  unfold kids at h
  simpa using h
theorem childIn_spec {s : T} {n : Nat} (h : childIn s = some n) : TL.numL n = s ∧ n ≤ 2 := by
  unfold childIn at h
  split at h
  · rename_i h1
    cases h
    rcases kid_cases h1 with rfl | rfl | rfl
    · exact ⟨rfl, by decide⟩
    · exact ⟨rfl, by decide⟩
    · exact ⟨rfl, by decide⟩
  · cases h
theorem mapO_spec {α β : Type} {g : α → Option β} : ∀ {xs : List α} {ys : List β}, mapO g xs = some ys → xs.length = ys.length ∧ (∀ y ∈ ys, ∃ x ∈ xs, g x = some y)
  | [], ys, h => by cases h; exact ⟨rfl, fun y hy => by cases hy⟩
  | x :: xs, ys, h => by
    rw [mapO] at h
    cases q : g x with
    | none => rw [q] at h; cases h
    | some b =>
      rw [q] at h
      cases q2 : mapO g xs with
      | none => rw [q2] at h; cases h
      | some bs =>
        rw [q2] at h
        cases h
        obtain ⟨h1, h2⟩ := mapO_spec q2
        refine ⟨by rw [List.length_cons, List.length_cons, h1], fun y hy => ?_⟩
        rcases List.mem_cons.mp hy with rfl | hy
        · exact ⟨x, List.mem_cons_self, q⟩
        · obtain ⟨a, h3, h4⟩ := h2 y hy
          exact ⟨a, List.mem_cons_of_mem _ h3, h4⟩
theorem mapO_back {α β : Type} {g : α → Option β} {b : β → α} (hb : ∀ x y, g x = some y → b y = x) : ∀ {xs : List α} {ys : List β}, mapO g xs = some ys → ys.map b = xs
  | [], ys, h => by cases h; rfl
  | x :: xs, ys, h => by
    rw [mapO] at h
    cases q : g x with
    | none => rw [q] at h; cases h
    | some y =>
      rw [q] at h
      cases q2 : mapO g xs with
      | none => rw [q2] at h; cases h
      | some bs =>
        rw [q2] at h
        cases h
        rw [List.map_cons, hb x y q, mapO_back hb q2]
theorem par_sum (S : T) : ∀ (s acc p q : T), TL.par S acc s = some (p, q) → acc ++ s = p ++ (S ++ q)
  | [], acc, p, q, h => by cases h
  | c :: r, acc, p, q, h => by
    rw [TL.par] at h
    split at h
    · rename_i h1
      cases h
      have e : (c :: r).take S.length = S := eq_of_beq h1
      rw [← List.take_append_drop S.length (c :: r), e]
      simp
    · have := par_sum S r (acc ++ [c]) p q h
      rw [← this]
      simp
theorem spl_ne (S : T) : ∀ (s acc : T) (k : Nat), TL.spl S k acc s ≠ []
  | [], acc, k => by rw [TL.spl_nil]; simp
  | c :: r, acc, 0 => by
    rw [TL.spl]
    split
    · simp
    · exact spl_ne S r (acc ++ [c])  0
  | c :: r, acc, k + 1 => by rw [TL.spl]; exact spl_ne S r acc k
theorem joinL_cons {S p : T} {ps : List T} (h : ps ≠ []) : TL.joinL S (p :: ps) = p ++ (S ++ TL.joinL S ps) := by
  cases ps with
  | nil => exact absurd rfl h
  | cons a b => rfl
theorem join_spl1 (c : Nat) : ∀ (s acc : T), TL.joinL [c] (TL.spl [c] 0 acc s) = acc ++ s
  | [], acc => by rw [TL.spl_nil]; simp [TL.joinL]
  | d :: r, acc => by
    rw [TL.spl]
    split
    · rename_i h1
      have e : [d] = [c] := eq_of_beq h1
      have e : d = c := by simpa using e
      subst e
      show TL.joinL [d] (acc :: TL.spl [d] 0 [] r) = _
      rw [joinL_cons (spl_ne _ _ _ _), join_spl1]
      rfl
    · rw [join_spl1]
      simp
theorem repIn_text {s : T} {e : AEl} (h : repIn s = some e) : elText e = 40 :: s := by
  unfold repIn at h
  cases q1 : mapO childIn (TL.spl [46] 0 [] (pt [41, 42] s).1) with
  | none => rw [q1] at h; cases h
  | some p =>
    rw [q1] at h
    cases q2 : numIn (pt [41, 42] s).2.2 with
    | none => rw [q2] at h; cases h
    | some n =>
      rw [q2] at h
      cases h
      have e1 := mapO_back (b := TL.numL) (fun x y hxy => (childIn_spec hxy).1) q1
      have e2 := numIn_text q2
      show [40] ++ TL.joinL [46] (p.map TL.numL) ++ ([41, 42] ++ TL.numL n) = 40 :: s
      rw [e1, e2, join_spl1]
      unfold pt at q2 ⊢
      cases q3 : TL.par [41, 42] [] s with
      | none =>
        rw [q3] at q2
        have : numIn [] = none := by decide
        rw [this] at q2
        cases q2
      | some pq =>
        obtain ⟨p1, q4⟩ := pq
        have := par_sum _ _ _ _ _ q3
        rw [List.nil_append] at this
        rw [this]
        simp
theorem elIn_text {s : T} {e : AEl} (h : elIn s = some e) : elText e = s := by
  unfold elIn at h
  split at h
  · rename_i h1
    rw [repIn_text h]
    conv => rhs; rw [← List.take_append_drop 1 s, h1]
    rfl
  · cases q : childIn s with
    | none => rw [q] at h; cases h
    | some i =>
      rw [q] at h
      cases h
      exact (childIn_spec q).1
theorem pcs_ne : ∀ (s : T) (o : Bool) (acc : T), pcs o acc s ≠ []
  | [], o, acc => by simp [pcs]
  | c :: r, o, acc => by
    rw [pcs]
    split
    · exact pcs_ne r _ _
    · split
      · simp
      · exact pcs_ne r _ _
theorem pcs_join : ∀ (s : T) (o : Bool) (acc : T), TL.joinL [46] (pcs o acc s) = acc ++ s
  | [], o, acc => by simp [pcs, TL.joinL]
  | c :: r, o, acc => by
    rw [pcs]
    split
    · rw [pcs_join]; simp
    · split
      · rename_i h
        rw [joinL_cons (pcs_ne _ _ _), pcs_join, h.1]
        rfl
      · rw [pcs_join]; simp
theorem addrRaw_text {s : T} {a : List AEl} (h : addrRaw s = some a) : addrText a = s := by
  unfold addrRaw at h
  split at h
  · rename_i h1
    cases h
    rw [h1]
    rfl
  · have e := mapO_back (b := elText) (fun x y hxy => elIn_text hxy) h
    unfold addrText
    rw [e, pcs_join, List.nil_append]
    unfold orNo
    split
    · rename_i h2
      rw [h2] at h
      have : mapO elIn (pcs false [] []) = none := by decide
      rw [this] at h
      cases h
    · rfl
/-- what may be written -/
def okE : AEl → Prop
  | .one i => i < 10 ^ 40
  | .rep p n => p.length ≤ 20000 ∧ (∀ i ∈ p, i < 10 ^ 40) ∧ n < 10 ^ 40
def okA (a : List AEl) : Prop := a.length ≤ 20001 ∧ (∀ e ∈ a, okE e) ∧ ((a.map elText).map (·.length)).sum ≤ 100000
theorem elIn_ok {s : T} {e : AEl} (hs : s.length ≤ 20000) (h : elIn s = some e) : okE e := by
  have small : ∀ {i : Nat}, i ≤ 2 → i < 10 ^ 40 := fun h => Nat.lt_of_le_of_lt h (by decide)
  unfold elIn at h
  split at h
  · rename_i hp
    have tx := repIn_text h
    unfold repIn at h
    cases q1 : mapO childIn (TL.spl [46] 0 [] (pt [41, 42] (s.drop 1)).1) with
    | none => rw [q1] at h; cases h
    | some p =>
      rw [q1] at h
      cases q2 : numIn (pt [41, 42] (s.drop 1)).2.2 with
      | none => rw [q2] at h; cases h
      | some n =>
        rw [q2] at h
        cases h
        refine ⟨?_, fun i hi => ?_, numIn_lt q2⟩
        · have l1 : p.length ≤ (TL.joinL [46] (p.map TL.numL)).length := by
            clear q1 tx hp
            induction p with
            | nil => exact Nat.zero_le _
            | cons i p ih =>
              have n1 : 1 ≤ (TL.numL i).length := List.length_pos_iff.mpr (TL.numL_ne i)
              cases p with
              | nil => exact n1
              | cons j p =>
                rw [List.map_cons, joinL_cons (by simp), List.length_append, List.length_append, List.length_cons]
                have : ([46] : T).length = 1 := rfl
                omega
          have l2 := congrArg List.length tx
          unfold elText at l2
          simp only [List.length_append, List.length_cons, List.length_nil] at l2
          rw [List.length_drop] at l2
          omega
        · obtain ⟨x, _, hx⟩ := (mapO_spec q1).2 i hi
          exact small (childIn_spec hx).2
  · cases q : childIn s with
    | none => rw [q] at h; cases h
    | some i =>
      rw [q] at h
      cases h
      exact small (childIn_spec q).2
theorem pcs_len : ∀ (s : T) (o : Bool) (acc : T), ((pcs o acc s).map (·.length)).sum ≤ acc.length + s.length ∧ (pcs o acc s).length ≤ s.length + 1
  | [], o, acc => by simp [pcs]
  | c :: r, o, acc => by
    rw [pcs]
    split
    · have := pcs_len r (decide (c = 40)) (acc ++ [c])
      rw [List.length_append] at this
      simp only [List.length_cons, List.length_nil] at this ⊢
      omega
    · split
      · have := pcs_len r o []
        simp only [List.length_cons, List.length_nil, List.map_cons, List.sum_cons] at this ⊢
        omega
      · have := pcs_len r o (acc ++ [c])
        rw [List.length_append] at this
        simp only [List.length_cons, List.length_nil] at this ⊢
        omega
theorem sum_mem {s : T} : ∀ {ws : List T}, s ∈ ws → s.length ≤ (ws.map (·.length)).sum
  | w :: ws, h => by
    rw [List.map_cons, List.sum_cons]
    rcases List.mem_cons.mp h with rfl | h
    · omega
    · have := sum_mem h
      omega
theorem addrRaw_ok {s : T} {a : List AEl} (hs : s.length ≤ 20000) (h : addrRaw s = some a) : okA a := by
  unfold addrRaw at h
  split at h
  · cases h
    exact ⟨by decide, (fun e he => by cases he), by decide⟩
  · have e := mapO_back (b := elText) (fun x y hxy => elIn_text hxy) h
    obtain ⟨l1, l2⟩ := pcs_len s false []
    obtain ⟨m1, m2⟩ := mapO_spec h
    rw [List.length_nil] at l1
    refine ⟨by omega, fun x hx => ?_, by rw [e]; omega⟩
    obtain ⟨w, hw, hx2⟩ := m2 x hx
    exact elIn_ok (by have := sum_mem hw; omega) hx2
end Kd
set_option Elab.async false
set_option linter.all false
set_option maxRecDepth 100000
set_option maxHeartbeats 2000000
/-! the walk: forms, numbers -/
namespace Kd
open PySem PySem.Spec PyProof.Rows L2
variable [LT]
def top (i : Nat) : Stmt := PySem.Challenge.pw_sharedlets_k87_texts_of_papers_and_chain.main.body.getD i (.Pass ⟨0, 0, 0, 0⟩)
structure Exn (K : PySem.W.Frag) (mg : Str → Option Value) (n : Str) (C : Addr) : Prop where
  ex : ∃ (bmB : List Value) (B newId initId : String), ExcBaseFacts B newId initId bmB ∧ PySem.W.excIn K C bmB newId = true
  gC : mg n = some (.ref C)
  kC : PySem.W.keepIn K (.ref C) = true
  sub : PySem.W.subIn K (.ref C) (.type "BaseException") = some true
  ty : PySem.W.typeIn K (.ref C) = some (.type "type")
structure Df (K : PySem.W.Frag) (mg : Str → Option Value) (x : Str) (st : Stmt) (ps : List Str) : Prop where
  ex : ∃ (a : Addr) (fd : FuncData), Fun K x x st a fd ∧ mg x = some (.ref a) ∧ Binds K fd ps []
structure Md (K : PySem.W.Frag) (mg : Str → Option Value) (CP CI : Addr) : Prop where
  pe : Exn K mg "ParseError" CP
  io : Exn K mg "InvalidOperation" CI
  isi : mg "isinstance" = none
  int : mg "int" = none
  bool : mg "bool" = none
  str : mg "str" = none
  tuple : mg "tuple" = none
  list : mg "list" = none
  len : mg "len" = none
  all : mg "all" = none
  enum : mg "enumerate" = none
  zip : mg "zip" = none
  range : mg "range" = none
  max : mg "max" = none
  min : mg "min" = none
  abs : mg "abs" = none
  sorted : mg "sorted" = none
  set : mg "set" = none
  repr : mg "repr" = none
  letters : ∃ t, mg "MOST_LETTERS" = some (.int 8 t)
  reserved : ∃ a, mg "RESERVED" = some (.ref a) ∧ ∀ F, SqT K F a ([tFun, tLet, tIn].map fun l => V.str (SX.S l))
  times : ∃ t, mg "MAX_TIMES" = some (.int (10 ^ 30) t)
  last : ∃ t, mg "LAST_CHILD" = some (.int 2 t)
  nodes : ∃ t, mg "MOST_NODES" = some (.int 100 t)
  figures : ∃ t, mg "MOST_FIGURES" = some (.int 40 t)
  figs : ∃ t, mg "FIGURES" = some (.str (SX.S figs) t)
  kids : ∃ a, mg "CHILDREN" = some (.ref a) ∧ ∀ F, SqT K F a (kids.map fun l => V.str (SX.S l))
  nothing : ∃ t, mg "NOTHING" = some (.str (SX.S [45]) t)
  alike : ∃ t, mg "ALIKE" = some (.str (SX.S tAlike) t)
  unlike : ∃ t, mg "UNLIKE" = some (.str (SX.S tUnlike) t)
  chain : ∃ t, mg "CHAIN" = some (.str (SX.S tChain) t)
section
variable {X : Cx} {E : XK} {k : Nat} {n : Str} {C : Addr} {ρ : List Sl} {R : Out → Prop} {p p2 pos : Pos} {j : Nat} {m : Str}
theorem draise {p3 : Pos} (CC : Ct X E k) (h : Exn X.K X.mg n C) (kz : R (.rz ⟨.ref C, none⟩)) (hg : Gl X n := by rfl) (hdb : (n == ("__debug__" : Str)) = false := by decide) : DS X E (.Raise (some (.Call (.Name n p) [.Constant (.str m) j p2] [] p3)) none pos) ρ R := by
  obtain ⟨bmB, B, newId, initId, h1, h2⟩ := h.ex
  exact ds_raise CC h1 h2 h.gC h.kC (raises_own h.sub h.ty) hg kz hdb
theorem dgTL {ls : List T} (h : ∃ a, X.mg n = some (.ref a) ∧ ∀ F, SqT X.K F a (ls.map fun l => V.str (SX.S l))) (hg : Gl X n := by rfl) (hdb : (n == ("__debug__" : Str)) = false := by decide) : DE X E (.Name n pos) ρ (.ok (.tup (ls.map dL))) ρ := (dgT h hg hdb).to (by rw [List.map_map]; rfl)
end
section
variable {X : Cx} {E : XK} {k j : Nat} {x : Str} {ρ ρ1 : List Sl} {e : Expr} {es : List Expr} {p pos : Pos} {r : Res}
/-- a call whose answer is said -/
theorem dcq {Z : Type} {enc : Z → List D} {f : Z → Res} {dom : Z → Prop} {nn : Nat} (z : Z) (C : Ct X E k) (h : Kn X.prog X.w X.K X.mg X.base x j nn enc f dom) (ha : DA X E (e :: es) ρ (.ok (enc z)) ρ1) (hd : dom z) (q : f z = r := by rfl) (hk : j ≤ k := by decide) (hg : Gl X x := by rfl) (hl : (enc z).length = nn := by rfl) (hdb : (x == ("__debug__" : Str)) = false := by decide)
    (he : starEach (e :: es) X.env = (false, eval e X.env) :: starEach es X.env := by rfl) (hpl : (backTo pos (starEach es X.env)).any (·.1) = false := by rfl) : DE X E (.Call (.Name x p) (e :: es) [] pos) ρ r ρ1 := q ▸ de_call z C.toCp h hk hg ha hl hd hdb he hpl
/-- .. inside a comprehension -/
theorem dcp {Z : Type} {enc : Z → List D} {f : Z → Res} {dom : Z → Prop} {nn : Nat} (z : Z) (C : Cp X E k) (h : Kn X.prog X.w X.K X.mg X.base x j nn enc f dom) (ha : DA X E (e :: es) ρ (.ok (enc z)) ρ1) (hd : dom z) (q : f z = r := by rfl) (hk : j ≤ k := by decide) (hg : Gl X x := by rfl) (hl : (enc z).length = nn := by rfl) (hdb : (x == ("__debug__" : Str)) = false := by decide)
    (he : starEach (e :: es) X.env = (false, eval e X.env) :: starEach es X.env := by rfl) (hpl : (backTo pos (starEach es X.env)).any (·.1) = false := by rfl) : DE X E (.Call (.Name x p) (e :: es) [] pos) ρ r ρ1 := q ▸ de_call z C h hk hg ha hl hd hdb he hpl
end
theorem kn_df {P : Program} {w : World} {K : PySem.W.Frag} {mg : Str → Option Value} {base : Heap} {x : Str} {st : Stmt} {N ps : List Str} {k n : Nat} {Z : Type} {enc : Z → List D} {f : Z → Res} {dom : Z → Prop} (F : Df K mg x st ps) (S : FnScope N ps (defScope st)) (hn : ps.length = n := by rfl) (hN : n ≤ N.length := by decide)
    (body : ∀ (a : Addr) (cdv : Value) (A : Around) (outer : List Env) (s : Shared) (H : Hp) (E : XK) (z : Z), Ct (cxOf (L2.CX P w) P w K mg base N x (defScope st) a cdv A outer s H E) E k → dom z →
      DSs (cxOf (L2.CX P w) P w K mg base N x (defScope st) a cdv A outer s H E) E (defBody st) (rho N (enc z)) (Post (f z))) : Kn P w K mg base x (k + 1) n enc f dom := by
  obtain ⟨a, fd, h1, h2, h3⟩ := F.ex
  exact kn_of h1 h2 h3 S hn hN fun cdv A outer s H E z C _ hd => body a cdv A outer s H E z C hd
def isIntD : D → Bool
  | .v (.int _) => true
  | _ => false
section
variable {P : Program} {w : World} {K : PySem.W.Frag} {mg : Str → Option Value} {base : Heap} {CP CI : Addr}
variable (M : Md K mg CP CI)
/-- is_integer -/
abbrev KInt (P : Program) (w : World) (K : PySem.W.Frag) (mg : Str → Option Value) (base : Heap) := Kn P w K mg base "is_integer" 1 1 (fun d : D => [d]) (fun d => .ok (dB (isIntD d))) (fun d => (∃ i, d = dI i) ∨ ∃ ds, d = .tup ds)
abbrev s7 : Stmt := top 7
theorem sc7 : FnScope ["value"] ["value"] (defScope s7) := ⟨rfl, rfl, rfl, by decide +kernel, rfl, by decide +kernel, by decide +kernel⟩
theorem k7 (M : Md K mg CP CI) (F : Df K mg "is_integer" s7 ["value"]) : KInt P w K mg base := by
  refine kn_df F sc7 (body := fun a cdv A outer s H E z C hd => ?_)
  rcases hd with ⟨i, rfl⟩ | ⟨ds, rfl⟩
  · exact dss_one (ds_ret (vand2 (disi M.isi M.int bt_int (dv 0) rfl kit_ii) fun _ => de_not (disi M.isi M.bool bt_bool (dv 0) rfl kit_ib)) rfl)
  · exact dss_one (ds_ret (de_andF (disi M.isi M.int bt_int (dv 0) rfl kit_ti)) rfl)
/-- is_between -/
abbrev KBtw (P : Program) (w : World) (K : PySem.W.Frag) (mg : Str → Option Value) (base : Heap) := Kn P w K mg base "is_between" 2 3 (fun z : Nat × Nat × Nat => [dIn z.1, dIn z.2.1, dIn z.2.2]) (fun z => .ok (dB (decide (z.2.1 ≤ z.1) && decide (z.1 ≤ z.2.2)))) (fun _ => True)
abbrev s8 : Stmt := top 8
theorem sc8 : FnScope ["value", "low", "high"] ["value", "low", "high"] (defScope s8) := ⟨rfl, rfl, rfl, by decide +kernel, rfl, by decide +kernel, by decide +kernel⟩
theorem k8 (M : Md K mg CP CI) (F : Df K mg "is_between" s8 ["value", "low", "high"]) (k7 : KInt P w K mg base) : KBtw P w K mg base := by
  refine kn_df F sc8 (body := fun a cdv A outer s H E z C hd => ?_)
  obtain ⟨i, l, h⟩ := z
  refine dss_one (ds_ret (vand2 (k1 := true) (dcq (dIn i) C k7 (a1 (dv 0)) (.inl ⟨_, rfl⟩)) fun _ => (de_chain op_le op2_I0 op_le (fun _ => op2_I0) (dv 1) (dv 0) (dv 2))) ?_)
  show _ = _
  rw [Bool.true_and]
  congr 3 <;> simp
/-- is_name -/
abbrev KName (P : Program) (w : World) (K : PySem.W.Frag) (mg : Str → Option Value) (base : Heap) := Kn P w K mg base "is_name" 1 1 (fun z : T => [dL z]) (fun z => .ok (dB (isName z))) (fun z => z.length ≤ 100000)
abbrev s9 : Stmt := top 9
theorem sc9 : FnScope ["value", "letter"] ["value"] (defScope s9) := ⟨rfl, rfl, rfl, by decide +kernel, rfl, by decide +kernel, by decide +kernel⟩
theorem le_sign {a c : Nat} : (!decide (([c] : T) < [a])) = decide (a ≤ c) := by
  rw [Bool.eq_iff_iff, Bool.not_eq_true', decide_eq_false_iff_not, decide_eq_true_eq]
  constructor
  · exact fun h => Nat.le_of_not_lt fun hl => h (List.Lex.rel hl)
  · intro h hl
    cases hl with
    | rel h2 => omega
    | cons h2 => cases h2
theorem k9 (M : Md K mg CP CI) (F : Df K mg "is_name" s9 ["value"]) : KName P w K mg base := by
  refine kn_df F sc9 (body := fun a cdv A outer s H E z C hd => ?_)
  have hd : z.length ≤ 100000 := hd
  have hz : z.length ≤ 16000000 := by omega
  have i1 : decide (1 ≤ (z.length : Int)) = decide (1 ≤ z.length) := decide_eq_decide.mpr (by omega)
  have i8 : decide ((z.length : Int) ≤ 8) = decide (z.length ≤ 8) := decide_eq_decide.mpr (by omega)
  refine dss_cons (ds_if (or3 (dt_not (dt_val (disi M.isi M.str bt_str (dv 0) rfl kit_ss))) (fun _ => dt_not (dt_chain op_le op2_I0 op_le (fun _ => op2_I0) de_int (llen M.len (dv 0) hz) (dgI M.letters))) fun _ _ => ltin (dv 0) (dgTL M.reserved)) (fun h => ?_) fun h => ?_)
  · refine dss_one (ds_ret de_bl ?_)
    show _ = _
    have e : isName z = false := by
      rw [i1, i8] at h
      unfold isName
      revert h
      generalize decide (1 ≤ z.length) = b1
      generalize decide (z.length ≤ 8) = b2
      generalize decide (z ∈ [tFun, tLet, tIn]) = b3
      cases b1 <;> cases b2 <;> cases b3 <;> simp
    rw [e]
  · refine dss_nil (dss_one (ds_ret (dallc (xs := z) (enc := fun c => dL [c]) (t := fun c => decide (97 ≤ c) && decide (c ≤ 122)) C M.all 1 (di_txt (dv 0)) hz fun s H Cc cl fp xe cp c hc => ?_) ?_))
    · refine DE.to (de_chain op_le_str op2_leS op_le_str (fun _ => op2_leS) (lit (l := [97])) (dv 1) (lit (l := [122]))) ?_
      show Except.ok (dB ((!decide (([c] : T) < [97])) && (!decide (([122] : T) < [c])))) = _
      rw [le_sign, le_sign]
    · show _ = _
      rw [i1, i8] at h
      unfold isName
      revert h
      generalize decide (1 ≤ z.length) = b1
      generalize decide (z.length ≤ 8) = b2
      generalize decide (z ∈ [tFun, tLet, tIn]) = b3
      cases b1 <;> cases b2 <;> cases b3 <;> simp
/-- is_piece -/
abbrev KPiece (P : Program) (w : World) (K : PySem.W.Frag) (mg : Str → Option Value) (base : Heap) := Kn P w K mg base "is_piece" 3 1 (fun z : List Nat => [.tup (z.map dIn)]) (fun z => .ok (dB (isPiece z))) (fun z => z.length ≤ 100000)
abbrev s13 : Stmt := top 13
theorem sc13 : FnScope ["value", "one"] ["value"] (defScope s13) := ⟨rfl, rfl, rfl, by decide +kernel, rfl, by decide +kernel, by decide +kernel⟩
theorem k13 (M : Md K mg CP CI) (F : Df K mg "is_piece" s13 ["value"]) (k8 : KBtw P w K mg base) : KPiece P w K mg base := by
  refine kn_df F sc13 (body := fun a cdv A outer s H E z C hd => ?_)
  have hd : z.length ≤ 100000 := hd
  have hz : z.length ≤ 16000000 := by omega
  refine dss_one (ds_ret (vand3 (k2 := !decide (z = [])) (disi M.isi M.tuple bt_tuple (dv 0) rfl kit_tt) (fun _ => DE.to (dneP C.toCp (dv 0) (de_tup da_nil (by decide)) (.tup (plIs z (n := 0))) (.tup (n := 0) fun d hd => by cases hd)) ?_) fun _ _ => dallc (xs := z) (enc := dIn) (t := fun i => decide (i ≤ 2)) C M.all 1 (di_tup (dv 0)) hz fun s H Cc cl fp xe cp c hc => dcp (c, 0, 2) cp k8 (a3 (dv 1) de_int (dgI M.last)) trivial (by simp)) ?_)
  · rw [eqD_tupNil (plIs z (n := 0))]
    cases z <;> rfl
  · rfl
/-- is_element -/
abbrev KEl (P : Program) (w : World) (K : PySem.W.Frag) (mg : Str → Option Value) (base : Heap) := Kn P w K mg base "is_element" 4 1 (fun z : AEl => [encE z]) (fun z => .ok (dB (isEl z))) okE
abbrev s14 : Stmt := top 14
theorem sc14 : FnScope ["value"] ["value"] (defScope s14) := ⟨rfl, rfl, rfl, by decide +kernel, rfl, by decide +kernel, by decide +kernel⟩
theorem k14 (M : Md K mg CP CI) (F : Df K mg "is_element" s14 ["value"]) (k8 : KBtw P w K mg base) (k13 : KPiece P w K mg base) : KEl P w K mg base := by
  refine kn_df F sc14 (body := fun a cdv A outer s H E z C hd => ?_)
  cases z with
  | one i => exact dss_cons (ds_if (kb := true) (dt_not (k := false) (dt_val (disi M.isi M.tuple bt_tuple (dv 0) rfl kit_it))) (fun _ => dss_one (ds_ret (dcq (i, 0, 2) C k8 (a3 (dv 0) de_int (dgI M.last)) trivial) (by show _ = _; simp [isEl]))) fun z => by cases z)
  | rep p n =>
    obtain ⟨h1, h2, h3⟩ := hd
    refine dss_cons (ds_if (kb := false) (dt_not (k := true) (dt_val (disi M.isi M.tuple bt_tuple (dv 0) rfl kit_tt))) (fun z => by cases z) fun _ => dss_nil (dss_one (ds_ret (vand3 (k1 := true) (DE.to (deq (dlenT (ds := [.tup (p.map dIn), dIn n]) M.len (dv 0)) de_int) rfl) (fun _ => dcq p C k13 (a1 (dix (dv 0) de_int)) (by show _ ≤ 100000; omega)) fun _ _ => dcq (n, 0, 10 ^ 30) C k8 (a3 (dix (dv 0) de_int) de_int (dgI M.times)) trivial) (by show _ = _; simp [isEl]))))
/-- is_address -/
abbrev KAddr (P : Program) (w : World) (K : PySem.W.Frag) (mg : Str → Option Value) (base : Heap) := Kn P w K mg base "is_address" 5 1 (fun z : List AEl => [encA z]) (fun z => .ok (dB (isAddr z))) okA
abbrev s15 : Stmt := top 15
theorem sc15 : FnScope ["value", "element"] ["value"] (defScope s15) := ⟨rfl, rfl, rfl, by decide +kernel, rfl, by decide +kernel, by decide +kernel⟩
theorem k15 (M : Md K mg CP CI) (F : Df K mg "is_address" s15 ["value"]) (k14 : KEl P w K mg base) : KAddr P w K mg base := by
  refine kn_df F sc15 (body := fun a cdv A outer s H E z C hd => ?_)
  obtain ⟨h1, h2, h3⟩ := hd
  exact dss_one (ds_ret (vand2 (k1 := true) (disi M.isi M.tuple bt_tuple (dv 0) rfl kit_tt) fun _ => dallc (xs := z) (enc := encE) (t := isEl) C M.all 1 (di_tup (dv 0)) (by omega) fun s H Cc cl fp xe cp c hc => dcp c cp k14 (a1 (dv 1)) (h2 c hc)) rfl)
end
end Kd
set_option Elab.async false
set_option linter.all false
set_option maxRecDepth 100000
set_option maxHeartbeats 2000000
/-! the walk: numbers, addresses -/
namespace Kd
open PySem PySem.Spec PyProof.Rows L2
variable [LT]
def isStrD : D → Bool
  | .v (.str _) => true
  | _ => false
inductive Odd : D → Prop
  | txt (s : T) (h : s.length ≤ 20000) (h2 : asc s) : Odd (dL s)
  | non : Odd dN
  | int (i : Int) : Odd (dI i)
  | bl (b : Bool) : Odd (dB b)
  | tup (ds : List D) : Odd (.tup ds)
  | lst (ds : List D) : Odd (.lst ds)
  | emp : Odd .emp
def tx (s : T) : Prop := s.length ≤ 20000 ∧ asc s
theorem Odd.ty {d : D} (h : Odd d) : ∃ t, tyD d = some t ∧ kitB t "str" = some (isStrD d) := by
  have k1 : kitB "str" "str" = some true := by decide +kernel
  have k2 : kitB "NoneType" "str" = some false := by decide +kernel
  have k3 : kitB "int" "str" = some false := by decide +kernel
  have k4 : kitB "bool" "str" = some false := by decide +kernel
  have k5 : kitB "tuple" "str" = some false := by decide +kernel
  have k6 : kitB "list" "str" = some false := by decide +kernel
  have k7 : kitB "dict" "str" = some false := by decide +kernel
  cases h with
  | txt s h h2 => exact ⟨"str", rfl, k1⟩
  | non => exact ⟨"NoneType", rfl, k2⟩
  | int i => exact ⟨"int", rfl, k3⟩
  | bl b => exact ⟨"bool", rfl, k4⟩
  | tup ds => exact ⟨"tuple", rfl, k5⟩
  | lst ds => exact ⟨"list", rfl, k6⟩
  | emp => exact ⟨"dict", rfl, k7⟩
section
variable {P : Program} {w : World} {K : PySem.W.Frag} {mg : Str → Option Value} {base : Heap} {CP CI : Addr}
/-- require_text -/
abbrev KReq (P : Program) (w : World) (K : PySem.W.Frag) (mg : Str → Option Value) (base : Heap) (CP : Addr) := Kn P w K mg base "require_text" 1 1 (fun d : D => [d]) (fun d => if isStrD d = true then .ok dN else .error ⟨.ref CP, none⟩) Odd
abbrev s25 : Stmt := top 25
theorem sc25 : FnScope ["text"] ["text"] (defScope s25) := ⟨rfl, rfl, rfl, by decide +kernel, rfl, by decide +kernel, by decide +kernel⟩
theorem k25 (M : Md K mg CP CI) (F : Df K mg "require_text" s25 ["text"]) : KReq P w K mg base CP := by
  refine kn_df F sc25 (body := fun a cdv A outer s H E z C hd => ?_)
  obtain ⟨t, h1, h2⟩ := hd.ty
  refine dss_one (ds_if (dt_not (dt_val (disi M.isi M.str bt_str (dv 0) h1 h2))) (fun h => dss_one (draise C M.pe ?_)) fun h => dss_nil ?_)
  · show _ = _
    rw [if_neg (by cases q : isStrD z <;> rw [q] at h <;> simp at h ⊢)]
  · show _ = _
    rw [if_pos (by cases q : isStrD z <;> rw [q] at h <;> simp at h ⊢)]
/-- number_in -/
abbrev KNum (P : Program) (w : World) (K : PySem.W.Frag) (mg : Str → Option Value) (base : Heap) (CP : Addr) := Kn P w K mg base "number_in" 1 1 (fun s : T => [dL s]) (fun s => ofO (.ref CP) dIn (numIn s)) (fun s => s.length ≤ 20000)
abbrev s26 : Stmt := top 26
theorem sc26 : FnScope ["text", "sign"] ["text"] (defScope s26) := ⟨rfl, rfl, rfl, by decide +kernel, rfl, by decide +kernel, by decide +kernel⟩
theorem k26 (M : Md K mg CP CI) (F : Df K mg "number_in" s26 ["text"]) : KNum P w K mg base CP := by
  refine kn_df F sc26 (body := fun a cdv A outer s H E z C hd => ?_)
  have hd : z.length ≤ 20000 := hd
  have hz : z.length ≤ 16000000 := by omega
  have i1 : decide (1 ≤ (z.length : Int)) = decide (1 ≤ z.length) := decide_eq_decide.mpr (by omega)
  have i8 : decide ((z.length : Int) ≤ 40) = decide (z.length ≤ 40) := decide_eq_decide.mpr (by omega)
  have go : (!(decide (1 ≤ (z.length : Int)) && decide ((z.length : Int) ≤ 40)) || !z.all fun c => decide (c ∈ figs)) = !numOk z := by
    rw [i1, i8]
    unfold numOk
    generalize (decide (1 ≤ z.length) && decide (z.length ≤ 40)) = b1
    generalize (z.all fun c => decide (c ∈ figs)) = b2
    cases b1 <;> cases b2 <;> rfl
  refine dss_cons (ds_if (or2 (dt_not (dt_chain op_le op2_I0 op_le (fun _ => op2_I0) de_int (llen M.len (dv 0) hz) (dgI M.figures))) fun _ => dt_not (dt_val (dallc (xs := z) (enc := fun c => dL [c]) (t := fun c => decide (c ∈ figs)) C M.all 1 (di_txt (dv 0)) hz fun s H Cc cl fp xe cp c hc => dinC (dv 1) (dgL M.figs)))) (fun h => dss_one (draise C M.pe ?_)) fun h => dss_nil ?_)
  · show _ = _
    rw [go] at h
    have e : numIn z = none := by
      unfold numIn
      rw [if_neg fun c => by rw [c.1] at h; cases h]
    rw [e]
    rfl
  · rw [go] at h
    have ok : numOk z = true := by cases q : numOk z <;> rw [q] at h <;> simp at h ⊢
    obtain ⟨g1, g2, g3⟩ := numOk_spec ok
    obtain ⟨c, r, rfl⟩ : ∃ c r, z = c :: r := by
      cases z with
      | nil => cases g1
      | cons c r => exact ⟨c, r, rfl⟩
    refine dss_cons (ds_if (and2 (lteq (lix (i := 0) (dv 0) de_int hz rfl) (lit (l := [48]))) fun _ => ltne (dv 0) (lit (l := [48]))) (fun h => dss_one (draise C M.pe ?_)) fun h => dss_nil (dss_one (ds_ret (lint M.int (dv 0) g3 (by simp) (by omega)) ?_)))
    · show _ = _
      rw [Bool.and_eq_true, decide_eq_true_eq, Bool.not_eq_true', decide_eq_false_iff_not] at h
      have e : numIn (c :: r) = none := by
        unfold numIn
        rw [if_neg fun g => h.2 (g.2 (by rw [List.head?_cons]; exact congrArg some (by simpa using h.1)))]
      rw [e]
      rfl
    · show _ = _
      have e : numIn (c :: r) = some (PySem.NumText.digitsVal (c :: r)) := by
        unfold numIn
        refine if_pos ⟨ok, fun g => ?_⟩
        rw [List.head?_cons] at g
        cases g
        by_cases h2 : (48 :: r : T) = [48]
        · exact h2
        · rw [decide_eq_true rfl, decide_eq_false h2] at h
          cases h
      rw [e]
      rfl
end
end Kd
set_option Elab.async false
set_option linter.all false
set_option maxRecDepth 100000
set_option maxHeartbeats 2000000
/-! the walk: texts of addresses -/
namespace Kd
open PySem PySem.Spec PyProof.Rows L2
variable [LT]
theorem joinL_len (S : List Nat) : ∀ ys : List (List Nat), (TL.joinL S ys).length ≤ (ys.map List.length).sum + ys.length * S.length
  | [] => Nat.zero_le _
  | [p] => by simp [TL.joinL]
  | p :: q :: r => by
    have ih := joinL_len S (q :: r)
    rw [TL.joinL, List.length_append, List.length_append, List.map_cons, List.sum_cons, List.length_cons, Nat.add_mul]
    omega
theorem joinL_len1 (c : Nat) (ys : List (List Nat)) : (TL.joinL [c] ys).length ≤ (ys.map List.length).sum + ys.length := by
  have := joinL_len [c] ys
  rw [List.length_singleton, Nat.mul_one] at this
  exact this
theorem nums_len {p : List Nat} (h : ∀ i ∈ p, i < 10 ^ 40) : ((p.map TL.numL).map List.length).sum ≤ 40 * p.length := by
  induction p with
  | nil => exact Nat.zero_le _
  | cons i p ih =>
    have h1 := TL.numL_len (by decide) (h i List.mem_cons_self)
    have h2 := ih fun j hj => h j (List.mem_cons_of_mem _ hj)
    rw [List.map_cons, List.map_cons, List.sum_cons, List.length_cons]
    omega
section
variable {X : Cx} {E : XK} {a b e : Expr} {pos : Pos} {ρ ρ1 ρ2 : List Sl} {i j : Nat}
theorem daddN (h : DE X E a ρ (.ok (dIn i)) ρ1) (h2 : DE X E b ρ1 (.ok (dIn j)) ρ2) : DE X E (.BinOp a .Add b pos) ρ (.ok (dIn (i + j))) ρ2 := DE.to (de_op op_add op2_I0 h h2) (by rw [show ((i : Int) + (j : Int)) = ((i + j : Nat) : Int) from (Int.natCast_add i j).symm])
end
section
variable {P : Program} {w : World} {K : PySem.W.Frag} {mg : Str → Option Value} {base : Heap} {CP CI : Addr}
/-- element_text -/
abbrev KElT (P : Program) (w : World) (K : PySem.W.Frag) (mg : Str → Option Value) (base : Heap) := Kn P w K mg base "element_text" 1 1 (fun e : AEl => [encE e]) (fun e => .ok (dL (elText e))) okE
abbrev s27 : Stmt := top 27
theorem sc27 : FnScope ["element", "child"] ["element"] (defScope s27) := ⟨rfl, rfl, rfl, by decide +kernel, rfl, by decide +kernel, by decide +kernel⟩
theorem k27 (M : Md K mg CP CI) (F : Df K mg "element_text" s27 ["element"]) : KElT P w K mg base := by
  refine kn_df F sc27 (body := fun a cdv A outer s H E z C hd => ?_)
  cases z with
  | one i => exact dss_cons (ds_if (kb := false) (dt_val (disi M.isi M.tuple bt_tuple (dv 0) rfl kit_it)) (fun z => by cases z) fun _ => dss_nil (dss_one (ds_ret (lstr M.str (dv 0) hd) rfl)))
  | rep p n =>
    obtain ⟨h1, h2, h3⟩ := hd
    have l1 := nums_len h2
    have l2 := joinL_len1 46 (p.map TL.numL)
    rw [List.length_map] at l2
    have l3 := TL.numL_len (by decide) h3
    have e1 : (p.map TL.numL).length = p.length := List.length_map _
    have e2 : ([46] : T).length = 1 := rfl
    refine dss_cons (ds_if (kb := true) (dt_val (disi M.isi M.tuple bt_tuple (dv 0) rfl kit_tt)) (fun _ => dss_one (ds_ret (ladd (s := [40] ++ TL.joinL [46] (p.map TL.numL)) (t := [[41, 42], TL.numL n].flatten) (ladd (lit (l := [40])) (ljoin (lit (l := [46])) (DE.to (dlcP (xs := p) (enc := dIn) (g := fun i => dL (TL.numL i)) C 1 (di_tup (dix (dv 0) de_int)) (by omega) fun s H Cc cl fp xe cp c hc => lstr M.str (dv 1) (h2 c hc)) ?_) ?_) ?_) (lfstr (.cons lit (.cons (fN (dix (dv 0) de_int) h3) .nil)) ?_) ?_) ?_)) fun z => by cases z)
    · rw [List.map_map]; rfl
    · show ((p.map TL.numL).map List.length).sum + (p.map TL.numL).length * 1 ≤ _
      rw [e1]; omega
    · show 1 + (TL.joinL [46] (p.map TL.numL)).length ≤ _
      omega
    · show ([41, 42] ++ (TL.numL n ++ [])).length ≤ _
      rw [List.append_nil, List.length_append]
      show 2 + _ ≤ _
      omega
    · show ([40] ++ TL.joinL [46] (p.map TL.numL)).length + ([41, 42] ++ (TL.numL n ++ [])).length ≤ _
      rw [List.append_nil, List.length_append, List.length_append]
      show 1 + _ + (2 + _) ≤ _
      omega
    · show _ = _
      show Except.ok (dL ([40] ++ TL.joinL [46] (p.map TL.numL) ++ ([41, 42] ++ TL.numL n))) = Except.ok (dL ([40] ++ TL.joinL [46] (p.map TL.numL) ++ ([41, 42] ++ (TL.numL n ++ []))))
      rw [List.append_nil]
/-- address_text -/
abbrev KAdT (P : Program) (w : World) (K : PySem.W.Frag) (mg : Str → Option Value) (base : Heap) := Kn P w K mg base "address_text" 2 1 (fun e : List AEl => [encA e]) (fun e => .ok (dL (addrText e))) okA
abbrev s28 : Stmt := top 28
theorem sc28 : FnScope ["address", "element"] ["address"] (defScope s28) := ⟨rfl, rfl, rfl, by decide +kernel, rfl, by decide +kernel, by decide +kernel⟩
theorem k28 (M : Md K mg CP CI) (F : Df K mg "address_text" s28 ["address"]) (k27 : KElT P w K mg base) : KAdT P w K mg base := by
  refine kn_df F sc28 (body := fun a cdv A outer s H E z C hd => ?_)
  obtain ⟨h1, h2, h3⟩ := hd
  have h3 : ((z.map elText).map List.length).sum ≤ 100000 := h3
  have l2 := joinL_len1 46 (z.map elText)
  rw [List.length_map] at l2
  have e1 : (z.map elText).length = z.length := List.length_map _
  have e2 : ([46] : T).length = 1 := rfl
  have len : ∀ l : T, (SX.S l).length = l.length := SX.S_len
  refine dss_one (ds_ret (d := dL (addrText z)) (de_orS (s := SX.S (TL.joinL [46] (z.map elText))) (ljoin (lit (l := [46])) (DE.to (dlcP (xs := z) (enc := encE) (g := fun i => dL (elText i)) C 1 (di_tup (dv 0)) (by omega) fun s H Cc cl fp xe cp c hc => dcp c cp k27 (a1 (dv 1)) (h2 c hc)) ?_) ?_) (fun h => ⟨?_, rfl⟩) (fun h => ?_) ?_) rfl)
  · rw [List.map_map]; rfl
  · show ((z.map elText).map List.length).sum + (z.map elText).length * 1 ≤ _
    rw [e1]; omega
  · rw [len] at h
    unfold addrText orNo
    rw [if_neg fun q => h (by rw [q]; rfl)]
  · rw [len] at h
    have q := List.length_eq_zero_iff.mp h
    unfold addrText orNo
    rw [if_pos q]
    exact de_one (dgL M.nothing)
  · rw [len]; omega
/-- elements_in -/
abbrev KEls (P : Program) (w : World) (K : PySem.W.Frag) (mg : Str → Option Value) (base : Heap) := Kn P w K mg base "elements_in" 1 1 (fun s : T => [dL s]) (fun s => .ok (.lst ((pcs false [] s).map dL))) (fun s => s.length ≤ 20000)
abbrev s29 : Stmt := top 29
theorem sc29 : FnScope ["text", "found", "start", "is_open", "at", "sign"] ["text"] (defScope s29) := ⟨rfl, rfl, rfl, by decide +kernel, rfl, by decide +kernel, by decide +kernel⟩
theorem drop_snoc {s : T} {st i c : Nat} (hs : s[i]? = some c) (hst : st ≤ i) : (s.drop st).take (i + 1 - st) = (s.drop st).take (i - st) ++ [c] := by
  have e : i + 1 - st = (i - st) + 1 := by omega
  rw [e, List.take_succ, List.getElem?_drop, show st + (i - st) = i by omega, hs]
  rfl
theorem drop_cons {s : T} {i c : Nat} (hs : s[i]? = some c) : s.drop i = c :: s.drop (i + 1) := by
  obtain ⟨h, e⟩ := List.getElem?_eq_some_iff.mp hs
  rw [← e]
  exact List.drop_eq_getElem_cons h
theorem k29 (M : Md K mg CP CI) (F : Df K mg "elements_in" s29 ["text"]) : KEls P w K mg base := by
  refine kn_df F sc29 (body := fun a cdv A outer s H E z C hd => ?_)
  have hd : z.length ≤ 20000 := hd
  have hz : z.length ≤ 16000000 := by omega
  refine dss_cons (ds_par3L (i := 1) (j := 2) (l := 3) (v2 := .int 0) (v3 := .bl false) C.calm C.nd rfl rfl rfl (by decide) (by decide) (by decide) rfl rfl rfl da_nil (by decide) pe_int pe_bl (Nat.le_of_ble_eq_true rfl) (Nat.le_of_ble_eq_true rfl) (Nat.le_of_ble_eq_true rfl) ?_ rfl)
  refine dss_cons (ds_for (ds := z.zipIdx.map fun q => .tup [dIn q.2, dL [q.1]]) C.po C.calm (di_enumS M.enum (dv 0)) (fun i ρ => ∃ fs st o d4 d5, ρ = [.dat (dL z), .own false (fs.map dL), .dat (dIn st), .dat (dB o), d4, d5] ∧ st ≤ i ∧ fs.length ≤ i ∧ fs ++ pcs o ((z.drop st).take (i - st)) (z.drop i) = pcs false [] z) ⟨[], 0, false, .no, .no, rfl, Nat.le_refl _, Nat.le_refl _, rfl⟩ (fun i ρ d hI hdi => ?_) fun ρ hI => ?_)
  · obtain ⟨fs, st, o, d4, d5, rfl, hst, hfs, he⟩ := hI
    rw [List.getElem?_map, List.getElem?_zipIdx] at hdi
    cases hc : z[i]? with
    | none => rw [hc] at hdi; cases hdi
    | some c =>
      rw [hc] at hdi
      have hdi := Option.some.inj hdi
      simp only [Nat.zero_add] at hdi
      subst hdi
      have hil : i < z.length := (List.getElem?_eq_some_iff.mp hc).1
      refine ⟨_, dg_tup C.calm (dgs_cons (gn (i := 4) C.toCp) (dgs_cons (gn (i := 5) C.toCp) dgs_nil)), ?_⟩
      rw [drop_cons hc, pcs] at he
      refine dss_one (ds_if (kb := decide ([c] ∈ ([[40], [41]] : List T))) (ltin (ls := [[40], [41]]) (dv 5) (de_tup (a2 lit lit) (by decide))) (fun h => dss_one (dset C.toCp (i := 3) (leq (dv 5) (lit (l := [40]))) ?_)) fun h => dss_one (ds_if (kb := decide (c = 46) && !o) (and2 (DT.to (lteq (dv 5) (lit (l := [46]))) (by simp)) fun _ => dt_not (dt_val (dv 3))) (fun h2 => ?_) fun h2 => dss_nil ?_))
      · have h : c = 40 ∨ c = 41 := by simpa using h
        rw [if_pos h] at he
        refine ⟨fs, st, decide (c = 40), .dat (dIn i), .dat (dL [c]), by rw [show decide (c = 40) = decide (([c] : T) = [40]) from decide_eq_decide.mpr (by simp)]; rfl, by omega, by omega, ?_⟩
        rw [drop_snoc hc hst]
        exact he
      · have h : ¬ (c = 40 ∨ c = 41) := by simpa using h
        rw [if_neg h] at he
        have h2 : c = 46 ∧ o = false := by simpa using h2
        rw [if_pos h2] at he
        refine dss_cons (ds_app (i := 1) (b2 := false) (ys := fs.map dL) (xs := fs.map dL) (bb := false) rfl (.inl rfl) rfl (lmid (dv 0) (dv 2) (dv 4) hz) rfl (by rw [List.length_map]; omega) ?_)
        refine dss_one (dset C.toCp (i := 2) (daddN (i := i) (j := 1) (dv 4) de_int) ?_)
        refine ⟨fs ++ [(z.drop st).take (i - st)], i + 1, o, _, _, by rw [List.map_append]; rfl, by omega, by rw [List.length_append]; show fs.length + 1 ≤ _; omega, ?_⟩
        rw [Nat.sub_self, List.take_zero, List.append_assoc]
        exact he
      · have h : ¬ (c = 40 ∨ c = 41) := by simpa using h
        rw [if_neg h] at he
        have h2 : ¬ (c = 46 ∧ o = false) := fun q => by rw [q.1, q.2] at h2; cases h2
        rw [if_neg h2] at he
        refine ⟨fs, st, o, _, _, rfl, by omega, by omega, ?_⟩
        rw [drop_snoc hc hst]
        exact he
  · obtain ⟨fs, st, o, d4, d5, rfl, hst, hfs, he⟩ := hI
    rw [List.length_map, List.length_zipIdx] at hst hfs he
    rw [List.drop_length, pcs] at he
    have e2 : (z.drop st).take (z.length - st) = z.drop st := List.take_of_length_le (by rw [List.length_drop]; exact Nat.le_refl _)
    rw [e2] at he
    refine dss_one (ds_ret (de_starOwn (i := 1) (es2 := [dL (z.drop st)]) rfl (.inl rfl) rfl (a1 (lfrom (dv 0) (dv 2) hz)) (by rw [List.length_map]; show fs.length + 1 ≤ _; omega)) ?_)
    show _ = _
    rw [← he, List.map_append]
    rfl
end
end Kd
set_option Elab.async false
set_option linter.all false
set_option maxRecDepth 100000
set_option maxHeartbeats 2000000
/-! the walk: reading addresses -/
namespace Kd
open PySem PySem.Spec PyProof.Rows L2
variable [LT]
def ap2 {α β : Type} (c : Value) (g : α → β → D) : Option α → Option β → Res
  | none, _ => .error ⟨c, none⟩
  | some _, none => .error ⟨c, none⟩
  | some x, some y => .ok (g x y)
def ap3 {α β γ : Type} (c : Value) (g : α → β → γ → D) : Option α → Option β → Option γ → Res
  | none, _, _ => .error ⟨c, none⟩
  | some _, none, _ => .error ⟨c, none⟩
  | some _, some _, none => .error ⟨c, none⟩
  | some x, some y, some z => .ok (g x y z)
section
variable {X : Cx} {E : XK} {k : Nat} {elt iter a b e : Expr} {scope : Scope} {n : Str} {pos p pt pl : Pos} {ρ ρ1 ρ2 : List Sl} {i j : Nat} {r : Res} {R : Out → Prop}
/-- tuple([f(x) for x in ..]) -/
theorem dtupO {α β : Type} {c : Value} {g : α → Option β} {encB : β → D} {xs : List α} {enc : α → D} (C : Ct X E k) (hm : X.mg "tuple" = none) (j : Nat) (hi : DI X E (.Name n pt) iter ρ (.ok (xs.map enc)) ρ1) (hlen : xs.length ≤ 16000000)
    (he : ∀ (s : Shared) (H : Hp) (Cc : Addr) (cl : List (Str × Addr)) (fp : List Addr) (xe : Value → Shared → Prop), Cp (bx X s H scope (compEnvC scope cl Cc X.env) fp xe) E k → ∀ a ∈ xs, DE (bx X s H scope (compEnvC scope cl Cc X.env) fp xe) E elt (st1 j (enc a) (lend ρ1)) (ofO c encB (g a)) (st1 j (enc a) (lend ρ1)))
    (hn : X.N[j]? = some n := by rfl) (bo : BlkOk X.N X.env.scope scope [(n, j)] := by exact blkOk_by (by first | decide +kernel | (dsimp only [cxOf, bx, compEnvC, envOfC]; decide +kernel) | rfl)) (hown : ∀ b es, ρ1[j]? = some (.own b es) → False := by intro b es h; cases h)
    (hloc : scope.names.lookup n = some .local := by rfl) (hs : ∀ x, foldedSetIterable iter X.env x = pure x := by intro _; rfl) (hg : Gl X "tuple" := by rfl) (hs1 : starEach [.ListComp elt [⟨.Name n pt, iter, [], 0⟩] scope pl] X.env = (false, eval (.ListComp elt [⟨.Name n pt, iter, [], 0⟩] scope pl) X.env) :: starEach [] X.env := by rfl) (hpl : (backTo pos (starEach [] X.env)).any (·.1) = false := by rfl) :
    DE X E (.Call (.Name "tuple" p) [.ListComp elt [⟨.Name n pt, iter, [], 0⟩] scope pl] [] pos) ρ (ofO c (fun bs => .tup (bs.map encB)) (mapO g xs)) ρ1 := by
  have h := dlc (g := fun a => ofO c encB (g a)) C j hi hlen he hn bo hown hloc hs (pos := pl)
  rw [mapA_O] at h
  cases q : mapO g xs with
  | none =>
    rw [q] at h
    exact dtupE hm h hg hs1 hpl
  | some bs =>
    rw [q] at h
    exact dtupL hm h hg hs1 hpl
/-- x = e, where e may raise -/
theorem dsetO {α : Type} {c : Value} {g : α → D} {x : Str} {px : Pos} (o : Option α) (i : Nat) (C : Cp X E k) (h : DE X E e ρ (ofO c g o) ρ) (k0 : o = none → R (.rz ⟨c, none⟩)) (k1 : ∀ a, o = some a → R (.nx (ρ.set i (.dat (g a)))))
    (hi : X.N[i]? = some x := by rfl) (hx : Loc X.env.scope x := by first | exact Or.inl rfl | exact Or.inr rfl) (hl : i < ρ.length := by exact Nat.le_of_ble_eq_true rfl) (hs : swapsWith e (some (.Name x px)) pos.line X.env = pure false := by rfl)
    (hf : X.fn x = true ∨ X.env.scope.names.lookup x = some .local := by first | exact .inl rfl | exact .inr rfl | assumption) : DS X E (.Assign [.Name x px] e pos) ρ R := by
  cases o with
  | none => exact ds_setE C.nd hi hx h (k0 rfl) hs hf
  | some a => exact ds_set C.nd hi hx h hl (k1 a rfl) hs hf
theorem pcs_mem {s w : T} (h : w ∈ pcs false [] s) (hs : s.length ≤ 20000) : w.length ≤ 20000 := by
  have l1 := (pcs_len s false []).1
  have l2 := sum_mem h
  rw [List.length_nil] at l1
  omega
theorem spl_len (S : T) (hS : S ≠ []) (hk : S.all (· < 256) = true) (s : T) : ((TL.spl S 0 [] s).map List.length).sum + (TL.spl S 0 [] s).length ≤ s.length + 1 := by
  have h := split_weight (SX.S s) (SX.S S) (by rw [SX.S_len]; exact List.length_pos_iff.mpr hS)
  rw [SX.split_S hS hk, SX.lens, List.length_map, SX.S_len] at h
  exact h
theorem spl_mem {S s w : T} (hS : S ≠ []) (hk : S.all (· < 256) = true) (h : w ∈ TL.spl S 0 [] s) : w.length ≤ s.length := by
  have l1 := spl_len S hS hk s
  have l2 := sum_mem h
  have l3 : 0 < (TL.spl S 0 [] s).length := List.length_pos_iff.mpr (spl_ne S s [] 0)
  have l2 : w.length ≤ ((TL.spl S 0 [] s).map List.length).sum := l2
  omega
theorem pt_len (S s : T) : (Kd.pt S s).1.length ≤ s.length ∧ (Kd.pt S s).2.2.length ≤ s.length := by
  unfold Kd.pt
  cases q : TL.par S [] s with
  | none => exact ⟨Nat.le_refl _, Nat.zero_le _⟩
  | some pq =>
    obtain ⟨p1, p2⟩ := pq
    have := congrArg List.length (par_sum S s [] p1 p2 q)
    simp only [List.nil_append, List.length_append] at this
    exact ⟨by show p1.length ≤ _; omega, by show p2.length ≤ _; omega⟩
theorem de_tup2O {α β : Type} {c : Value} {g1 : α → D} {g2 : β → D} {o1 : Option α} {o2 : Option β} {kk : Nat} (h1 : DE X E a ρ (ofO c g1 o1) ρ) (h2 : DE X E b ρ (ofO c g2 o2) ρ) (hs : starEach [a, b] X.env = (false, eval a X.env) :: starEach [b] X.env := by rfl) (hs2 : starEach [b] X.env = (false, eval b X.env) :: starEach [] X.env := by rfl) :
    DE X E (.Tuple [a, b] kk pos) ρ (ap2 c (fun x y => .tup [g1 x, g2 y]) o1 o2) ρ := by
  cases o1 with
  | none => exact de_tupE (da_err (ρ2 := ρ) h1 hs)
  | some x =>
    cases o2 with
    | none => exact de_tupE (da_err2 h1 (da_err (ρ2 := ρ) h2 hs2) hs)
    | some y => exact de_tup (a2 h1 h2 hs hs2) (Nat.le_of_ble_eq_true rfl)
theorem de_tup3O {α β γ : Type} {e3 : Expr} {c : Value} {g1 : α → D} {g2 : β → D} {g3 : γ → D} {o1 : Option α} {o2 : Option β} {o3 : Option γ} {kk : Nat} (h1 : DE X E a ρ (ofO c g1 o1) ρ) (h2 : DE X E b ρ (ofO c g2 o2) ρ) (h3 : DE X E e3 ρ (ofO c g3 o3) ρ) (hs : starEach [a, b, e3] X.env = (false, eval a X.env) :: starEach [b, e3] X.env := by rfl) (hs2 : starEach [b, e3] X.env = (false, eval b X.env) :: starEach [e3] X.env := by rfl) (hs3 : starEach [e3] X.env = (false, eval e3 X.env) :: starEach [] X.env := by rfl) :
    DE X E (.Tuple [a, b, e3] kk pos) ρ (ap3 c (fun x y z => .tup [g1 x, g2 y, g3 z]) o1 o2 o3) ρ := by
  cases o1 with
  | none => exact de_tupE (da_err (ρ2 := ρ) h1 hs)
  | some x =>
    cases o2 with
    | none => exact de_tupE (da_err2 h1 (da_err (ρ2 := ρ) h2 hs2) hs)
    | some y =>
      cases o3 with
      | none => exact de_tupE (da_err2 h1 (da_err2 h2 (da_err (ρ2 := ρ) h3 hs3) hs2) hs)
      | some z => exact de_tup (a3 h1 h2 h3 hs hs2 hs3) (Nat.le_of_ble_eq_true rfl)
theorem pt_asc {S s : T} (h : asc s) : asc (Kd.pt S s).1 ∧ asc (Kd.pt S s).2.2 := by
  unfold Kd.pt
  cases q : TL.par S [] s with
  | none => exact ⟨h, fun c hc => by cases hc⟩
  | some pq =>
    obtain ⟨p1, p2⟩ := pq
    have e := par_sum S s [] p1 p2 q
    rw [List.nil_append] at e
    exact ⟨fun c hc => h c (by rw [e]; exact List.mem_append_left _ hc), fun c hc => h c (by rw [e]; exact List.mem_append_right _ (List.mem_append_right _ hc))⟩
end
section
variable {P : Program} {w : World} {K : PySem.W.Frag} {mg : Str → Option Value} {base : Heap} {CP CI : Addr}
/-- child_in -/
abbrev KChild (P : Program) (w : World) (K : PySem.W.Frag) (mg : Str → Option Value) (base : Heap) (CP : Addr) := Kn P w K mg base "child_in" 1 1 (fun s : T => [dL s]) (fun s => ofO (.ref CP) dIn (childIn s)) (fun s => s.length ≤ 20000)
abbrev s30 : Stmt := top 30
theorem sc30 : FnScope ["text"] ["text"] (defScope s30) := ⟨rfl, rfl, rfl, by decide +kernel, rfl, by decide +kernel, by decide +kernel⟩
theorem kid_digits {s : T} (h : s ∈ kids) : PySem.NumText.AllDigits s ∧ s ≠ [] ∧ s.length ≤ 640 := by
  rcases kid_cases h with rfl | rfl | rfl <;> exact ⟨fun c hc => by simp at hc; omega, by simp, by decide⟩
theorem k30 (M : Md K mg CP CI) (F : Df K mg "child_in" s30 ["text"]) : KChild P w K mg base CP := by
  refine kn_df F sc30 (body := fun a cdv A outer s H E z C hd => ?_)
  refine dss_cons (ds_if (ltnin (dv 0) (dgTL M.kids)) (fun h => dss_one (draise C M.pe ?_)) fun h => dss_nil ?_)
  · have h : z ∉ kids := by simpa using h
    show _ = _
    unfold childIn
    rw [if_neg h]
    rfl
  · have h : z ∈ kids := by simpa using h
    obtain ⟨h1, h2, h3⟩ := kid_digits h
    refine dss_one (ds_ret (lint M.int (dv 0) h1 h2 h3) ?_)
    show _ = _
    unfold childIn
    rw [if_pos h]
    rfl
/-- element_in -/
abbrev KElIn (P : Program) (w : World) (K : PySem.W.Frag) (mg : Str → Option Value) (base : Heap) (CP : Addr) := Kn P w K mg base "element_in" 2 1 (fun s : T => [dL s]) (fun s => ofO (.ref CP) encE (elIn s)) (fun s => s.length ≤ 20000)
abbrev s31 : Stmt := top 31
theorem sc31 : FnScope ["text", "piece", "found", "times", "word"] ["text"] (defScope s31) := ⟨rfl, rfl, rfl, by decide +kernel, rfl, by decide +kernel, by decide +kernel⟩
theorem k31 (M : Md K mg CP CI) (F : Df K mg "element_in" s31 ["text"]) (k30 : KChild P w K mg base CP) (k26 : KNum P w K mg base CP) : KElIn P w K mg base CP := by
  refine kn_df F sc31 (body := fun a cdv A outer s H E z C hd => ?_)
  have hd : z.length ≤ 20000 := hd
  have hz : z.length ≤ 16000000 := by omega
  refine dss_cons (ds_if (dt_not (dt_val (lstarts (t := [40]) (dv 0) lit))) (fun h => ?_) fun h => dss_nil ?_)
  · have h : ¬ z.take 1 = [40] := by simpa using h
    have e : ofO (.ref CP) encE (elIn z) = ofO (.ref CP) dIn (childIn z) := by
      unfold elIn
      rw [if_neg h, ofO_map]
      rfl
    exact dss_one (ds_retR (dcq z C k30 (a1 (dv 0)) hd) (fun d hd => e.trans hd) fun x hx => e.trans hx)
  · have h : z.take 1 = [40] := by simpa using h
    have e : elIn z = repIn (z.drop 1) := by
      unfold elIn
      rw [if_pos h]
    have dl : (z.drop 1).length ≤ 20000 := by rw [List.length_drop]; omega
    have p1 := pt_len [41, 42] (z.drop 1)
    refine dss_cons (ds_asg (lpart (s := z.drop 1) (t := [41, 42]) (lfrom (i := 1) (dv 0) de_int hz) lit (by omega)) (dg_tup C.calm (dgs_cons (gn (i := 1) C.toCp) (dgs_cons (gn (i := 2) C.toCp) (dgs_cons (gn (i := 3) C.toCp) dgs_nil)))) ?_)
    refine dss_one (ds_retR (de_tup2O (dtupO (c := .ref CP) (g := childIn) (encB := dIn) (xs := TL.spl [46] 0 [] (Kd.pt [41, 42] (z.drop 1)).1) (enc := dL) C M.tuple 4 (di_list (lsplit (dv 1) (lit (l := [46])) (by omega))) (by
      have := spl_len [46] (by decide) (by decide) (Kd.pt [41, 42] (z.drop 1)).1
      omega) fun s H Cc cl fp xe cp c hc => dcp c cp k30 (a1 (dv 4)) (by
        have := spl_mem (by decide) (by decide) hc
        show _ ≤ 20000
        omega)) (dcq (Kd.pt [41, 42] (z.drop 1)).2.2 C k26 (a1 (dv 3)) (by show _ ≤ 20000; omega))) (fun d hd => Eq.trans ?_ hd) fun x hx => Eq.trans ?_ hx)
    all_goals
      rw [e]
      unfold repIn
      cases mapO childIn (TL.spl [46] 0 [] (Kd.pt [41, 42] (z.drop 1)).1) with
      | none => rfl
      | some p => cases numIn (Kd.pt [41, 42] (z.drop 1)).2.2 <;> rfl
/-- address_in -/
abbrev KAdIn (P : Program) (w : World) (K : PySem.W.Frag) (mg : Str → Option Value) (base : Heap) (CP : Addr) := Kn P w K mg base "address_in" 6 1 (fun s : T => [dL s]) (fun s => ofO (.ref CP) encA (addrIn s)) tx
abbrev s32 : Stmt := top 32
theorem sc32 : FnScope ["text", "found", "word"] ["text"] (defScope s32) := ⟨rfl, rfl, rfl, by decide +kernel, rfl, by decide +kernel, by decide +kernel⟩
theorem k32 (M : Md K mg CP CI) (F : Df K mg "address_in" s32 ["text"]) (k25 : KReq P w K mg base CP) (k31 : KElIn P w K mg base CP) (k29 : KEls P w K mg base) (k15 : KAddr P w K mg base) (k28 : KAdT P w K mg base) : KAdIn P w K mg base CP := by
  refine kn_df F sc32 (body := fun a cdv A outer s H E z C hd => ?_)
  obtain ⟨hd, ha⟩ := hd
  have l1 := pcs_len z false []
  rw [List.length_nil] at l1
  refine dss_cons (ds_expr (dcq (dL z) C k25 (a1 (dv 0)) (.txt z hd ha)) ?_)
  refine dss_cons (dsetO (c := .ref CP) (g := encA) (addrRaw z) 1 C.toCp ?_ (fun q => ?_) fun a q => ?_)
  · unfold addrRaw
    refine de_if (lteq (dv 0) (dgL M.nothing)) (fun h => ?_) fun h => ?_
    · have h : z = [45] := by simpa using h
      rw [if_pos h]
      exact de_tup da_nil (by decide)
    · have h : ¬ z = [45] := by simpa using h
      rw [if_neg h]
      exact dtupO (c := .ref CP) (g := elIn) (encB := encE) (xs := pcs false [] z) (enc := dL) C M.tuple 2 (di_list (dcq z C k29 (a1 (dv 0)) hd)) (by omega) fun s H Cc cl fp xe cp c hc => dcp c cp k31 (a1 (dv 2)) (pcs_mem hc hd)
  · show _ = _
    unfold addrIn
    rw [q]
    rfl
  · skip
    have ok := addrRaw_ok hd q
    have te := addrRaw_text q
    refine dss_cons (ds_if (or2 (dt_not (dt_val (dcq a C k15 (a1 (dv 1)) ok))) fun _ => ltne (dcq a C k28 (a1 (dv 1)) ok) (dv 0)) (fun h => dss_one (draise C M.pe ?_)) fun h => dss_nil (dss_one (ds_ret (dv 1) ?_)))
    · show _ = _
      unfold addrIn
      rw [q]
      rw [decide_eq_true te] at h
      have h : isAddr a = false := by simpa using h
      show ofO _ _ (if isAddr a = true ∧ addrText a = z then some a else none) = _
      rw [if_neg fun c => by rw [h] at c; cases c.1]
      rfl
    · show _ = _
      unfold addrIn
      rw [q]
      rw [decide_eq_true te] at h
      have h : isAddr a = true := by simpa using h
      show ofO _ _ (if isAddr a = true ∧ addrText a = z then some a else none) = _
      rw [if_pos ⟨h, te⟩]
      rfl
end
end Kd
set_option Elab.async false
set_option linter.all false
set_option maxRecDepth 100000
set_option maxHeartbeats 2000000
/-! the walk: plain addresses, looks -/
namespace Kd
open PySem PySem.Spec PyProof.Rows L2
variable [LT]
theorem addrIn_spec {s : T} {a : List AEl} (h : addrIn s = some a) : addrRaw s = some a ∧ isAddr a = true ∧ addrText a = s := by
  unfold addrIn at h
  cases q : addrRaw s with
  | none => rw [q] at h; cases h
  | some b =>
    rw [q] at h
    have h : (if isAddr b = true ∧ addrText b = s then some b else none) = some a := h
    split at h
    · rename_i c
      cases h
      exact ⟨rfl, c.1, c.2⟩
    · cases h
def okK : Look → Prop
  | .word s n => s.length ≤ 20000 ∧ asc s ∧ n < 10 ^ 40
  | .fn => True
  | .var n => n < 10 ^ 40
theorem okK.asc {l : Look} (h : okK l) : ascK l := by
  cases l with
  | word s n => exact h.2.1
  | fn => trivial
  | var n => trivial
theorem lookRaw_ok {s : T} {l : Look} (hs : tx s) (h : lookRaw s = some l) : okK l ∧ lookText l = s := by
  unfold lookRaw at h
  split at h
  · rename_i h1
    cases h
    exact ⟨trivial, h1.symm⟩
  · split at h
    · rename_i h2
      cases q : numIn (s.drop 4) with
      | none => rw [q] at h; cases h
      | some n =>
        rw [q] at h
        cases h
        refine ⟨numIn_lt q, ?_⟩
        show tVar ++ ([32] ++ TL.numL n) = s
        rw [numIn_text q, ← List.append_assoc, ← h2, List.take_append_drop]
    · cases q : numIn (pt [47] s).2.2 with
      | none => rw [q] at h; cases h
      | some n =>
        rw [q] at h
        cases h
        refine ⟨⟨?_, (pt_asc hs.2).1, numIn_lt q⟩, ?_⟩
        · have := pt_len [47] s
          have := hs.1
          omega
        · show (pt [47] s).1 ++ ([47] ++ TL.numL n) = s
          rw [numIn_text q]
          unfold pt at q ⊢
          cases q3 : TL.par [47] [] s with
          | none =>
            rw [q3] at q
            have : numIn [] = none := by decide
            rw [this] at q
            cases q
          | some pq =>
            obtain ⟨p1, q4⟩ := pq
            exact (par_sum _ _ _ _ _ q3).symm
section
variable {P : Program} {w : World} {K : PySem.W.Frag} {mg : Str → Option Value} {base : Heap} {CP CI : Addr}
/-- is_plain_address -/
abbrev KPlain (P : Program) (w : World) (K : PySem.W.Frag) (mg : Str → Option Value) (base : Heap) := Kn P w K mg base "is_plain_address" 6 1 (fun z : List AEl => [encA z]) (fun z => .ok (dB (isPlain z))) okA
abbrev s33 : Stmt := top 33
theorem sc33 : FnScope ["value", "element"] ["value"] (defScope s33) := ⟨rfl, rfl, rfl, by decide +kernel, rfl, by decide +kernel, by decide +kernel⟩
theorem int_one (e : AEl) : ((∃ i, encE e = dI i) ∨ ∃ ds, encE e = .tup ds) ∧ isIntD (encE e) = isOne e := by
  cases e with
  | one i => exact ⟨.inl ⟨_, rfl⟩, rfl⟩
  | rep p n => exact ⟨.inr ⟨_, rfl⟩, rfl⟩
theorem k33 (M : Md K mg CP CI) (F : Df K mg "is_plain_address" s33 ["value"]) (k15 : KAddr P w K mg base) (k7 : KInt P w K mg base) : KPlain P w K mg base := by
  refine kn_df F sc33 (body := fun a cdv A outer s H E z C hd => ?_)
  exact dss_one (ds_ret (vand2 (dcq z C k15 (a1 (dv 0)) hd) fun _ => dallc (xs := z) (enc := encE) (t := isOne) C M.all 1 (di_tup (dv 0)) (by have := hd.1; omega) fun s H Cc cl fp xe cp c hc => dcp (encE c) cp k7 (a1 (dv 1)) (int_one c).1 (by rw [(int_one c).2])) rfl)
/-- plain_in -/
abbrev KPlIn (P : Program) (w : World) (K : PySem.W.Frag) (mg : Str → Option Value) (base : Heap) (CP : Addr) := Kn P w K mg base "plain_in" 7 1 (fun s : T => [dL s]) (fun s => ofO (.ref CP) encA (plainIn s)) tx
abbrev s34 : Stmt := top 34
theorem sc34 : FnScope ["text", "found"] ["text"] (defScope s34) := ⟨rfl, rfl, rfl, by decide +kernel, rfl, by decide +kernel, by decide +kernel⟩
theorem k34 (M : Md K mg CP CI) (F : Df K mg "plain_in" s34 ["text"]) (k32 : KAdIn P w K mg base CP) (k33 : KPlain P w K mg base) : KPlIn P w K mg base CP := by
  refine kn_df F sc34 (body := fun a cdv A outer s H E z C hd => ?_)
  refine dss_cons (dsetO (c := .ref CP) (g := encA) (addrIn z) 1 C.toCp (dcq z C k32 (a1 (dv 0)) hd) (fun q => ?_) fun a q => ?_)
  · show _ = _
    unfold plainIn
    rw [q]
    rfl
  · have ok := addrRaw_ok hd.1 (addrIn_spec q).1
    refine dss_cons (ds_if (dt_not (dt_val (dcq a C k33 (a1 (dv 1)) ok))) (fun h => dss_one (draise C M.pe ?_)) fun h => dss_nil (dss_one (ds_ret (dv 1) ?_)))
    · have h : isPlain a = false := by simpa using h
      show _ = _
      unfold plainIn
      rw [q]
      show ofO _ _ (if isPlain a = true then some a else none) = _
      rw [if_neg (by rw [h]; decide)]
      rfl
    · have h : isPlain a = true := by simpa using h
      show _ = _
      unfold plainIn
      rw [q]
      show ofO _ _ (if isPlain a = true then some a else none) = _
      rw [if_pos h]
      rfl
/-- is_look -/
abbrev KLook (P : Program) (w : World) (K : PySem.W.Frag) (mg : Str → Option Value) (base : Heap) := Kn P w K mg base "is_look" 3 1 (fun z : Look => [encK z]) (fun z => .ok (dB (isLook z))) okK
abbrev s35 : Stmt := top 35
theorem sc35 : FnScope ["value"] ["value"] (defScope s35) := ⟨rfl, rfl, rfl, by decide +kernel, rfl, by decide +kernel, by decide +kernel⟩
theorem plK1 {l : Look} (h : okK l) : ∃ d ds, encK l = .tup (d :: ds) ∧ ∀ x ∈ d :: ds, Pl 0 x := by
  have hp := plK h.asc
  cases l with
  | word s n => exact ⟨_, _, rfl, by cases hp; assumption⟩
  | fn => exact ⟨_, _, rfl, by cases hp; assumption⟩
  | var n => exact ⟨_, _, rfl, by cases hp; assumption⟩
theorem lk_nil {l : Look} (h : okK l) : eqD (encK l) (.tup []) = false := by
  obtain ⟨d, ds, e, hp⟩ := plK1 h
  rw [e]
  exact eqD_nil hp
theorem k35 (M : Md K mg CP CI) (F : Df K mg "is_look" s35 ["value"]) (k9 : KName P w K mg base) (k8 : KBtw P w K mg base) (k7 : KInt P w K mg base) : KLook P w K mg base := by
  refine kn_df F sc35 (body := fun a cdv A outer s H E z C hd => ?_)
  have hp := plK hd.asc
  have h0 := lk_nil hd
  have p0 : Pl 1 (D.tup []) := .tup fun d hd => by cases hd
  cases z with
  | word s n =>
    refine dss_cons (ds_if (kb := false) (or3 (k1 := false) (k2 := false) (k3 := false) (dt_not (k := true) (dt_val (disi M.isi M.tuple bt_tuple (dv 0) rfl kit_tt))) (fun _ => DT.to (teqP C.toCp (dv 0) (de_tup da_nil (by decide)) hp p0) h0) fun _ _ => dt_not (k := true) (dt_val (disi M.isi M.str bt_str (dix (dv 0) de_int) rfl kit_ss))) (fun z => by cases z) fun _ => dss_nil ?_)
    refine dss_cons (ds_if (kb := true) (DT.to (lteq (s := tWord) (dix (dv 0) de_int) (lit (l := tWord))) (decide_eq_true rfl)) (fun _ => ?_) fun z => by cases z)
    refine dss_one (ds_ret (vand3 (k1 := true) (DE.to (deq (dlenT (ds := [dL tWord, dL s, dIn n]) M.len (dv 0)) de_int) rfl) (fun _ => dcq s C k9 (a1 (dix (dv 0) de_int)) (by have := hd.1; show _ ≤ 100000; omega)) fun _ _ => dcq (n, 0, 3) C k8 (a3 (dix (dv 0) de_int) de_int (DE.to (dlenT (ds := kids.map dL) M.len (dgTL M.kids)) rfl)) trivial) ?_)
    show _ = _
    simp [isLook]
  | fn =>
    refine dss_cons (ds_if (kb := false) (or3 (k1 := false) (k2 := false) (k3 := false) (dt_not (k := true) (dt_val (disi M.isi M.tuple bt_tuple (dv 0) rfl kit_tt))) (fun _ => DT.to (teqP C.toCp (dv 0) (de_tup da_nil (by decide)) hp p0) h0) fun _ _ => dt_not (k := true) (dt_val (disi M.isi M.str bt_str (dix (dv 0) de_int) rfl kit_ss))) (fun z => by cases z) fun _ => dss_nil ?_)
    refine dss_cons (ds_if (kb := false) (DT.to (lteq (s := tFun) (dix (dv 0) de_int) (lit (l := tWord))) (by decide)) (fun z => by cases z) fun _ => dss_nil ?_)
    refine dss_cons (ds_if (kb := false) (DT.to (lteq (s := tFun) (dix (dv 0) de_int) (lit (l := tVar))) (by decide)) (fun z => by cases z) fun _ => dss_nil ?_)
    exact dss_one (ds_ret (DE.to (deqP C.toCp (dv 0) (de_tup (a1 (lit (l := tFun))) (Nat.le_of_ble_eq_true rfl)) hp hp) (congrArg (fun b => Except.ok (dB b)) (eqD_refl hp))) rfl)
  | var n =>
    refine dss_cons (ds_if (kb := false) (or3 (k1 := false) (k2 := false) (k3 := false) (dt_not (k := true) (dt_val (disi M.isi M.tuple bt_tuple (dv 0) rfl kit_tt))) (fun _ => DT.to (teqP C.toCp (dv 0) (de_tup da_nil (by decide)) hp p0) h0) fun _ _ => dt_not (k := true) (dt_val (disi M.isi M.str bt_str (dix (dv 0) de_int) rfl kit_ss))) (fun z => by cases z) fun _ => dss_nil ?_)
    refine dss_cons (ds_if (kb := false) (DT.to (lteq (s := tVar) (dix (dv 0) de_int) (lit (l := tWord))) (by decide)) (fun z => by cases z) fun _ => dss_nil ?_)
    refine dss_cons (ds_if (kb := true) (DT.to (lteq (s := tVar) (dix (dv 0) de_int) (lit (l := tVar))) (by decide)) (fun _ => ?_) fun z => by cases z)
    refine dss_one (ds_ret (vand3 (k1 := true) (k2 := true) (DE.to (deq (dlenT (ds := [dL tVar, dIn n]) M.len (dv 0)) de_int) rfl) (fun _ => dcq (dIn n) C k7 (a1 (dix (dv 0) de_int)) (.inl ⟨_, rfl⟩)) fun _ _ => de_cmp op_gt op2_I0 (dix (dv 0) de_int) de_int (nomark _)) ?_)
    show _ = _
    simp [isLook]
/-- look_text -/
abbrev KLkT (P : Program) (w : World) (K : PySem.W.Frag) (mg : Str → Option Value) (base : Heap) := Kn P w K mg base "look_text" 1 1 (fun z : Look => [encK z]) (fun z => .ok (dL (lookText z))) okK
abbrev s36 : Stmt := top 36
theorem sc36 : FnScope ["look"] ["look"] (defScope s36) := ⟨rfl, rfl, rfl, by decide +kernel, rfl, by decide +kernel, by decide +kernel⟩
theorem k36 (M : Md K mg CP CI) (F : Df K mg "look_text" s36 ["look"]) : KLkT P w K mg base := by
  refine kn_df F sc36 (body := fun a cdv A outer s H E z C hd => ?_)
  cases z with
  | word s n =>
    obtain ⟨h1, h2, h3⟩ := hd
    have l3 := TL.numL_len (by decide) h3
    refine dss_cons (ds_if (kb := true) (DT.to (lteq (s := tWord) (dix (dv 0) de_int) (lit (l := tWord))) (decide_eq_true rfl)) (fun _ => dss_one (ds_ret (lfstr (ys := [s, [47], TL.numL n]) (.cons (fS (dix (dv 0) de_int) (by omega)) (.cons lit (.cons (fN (dix (dv 0) de_int) h3) .nil))) ?_) ?_)) fun z => by cases z)
    · show (s ++ ([47] ++ (TL.numL n ++ []))).length ≤ _
      rw [List.append_nil, List.length_append, List.length_append]
      show s.length + (1 + _) ≤ _
      omega
    · show Except.ok (dL (s ++ ([47] ++ TL.numL n))) = Except.ok (dL (s ++ ([47] ++ (TL.numL n ++ []))))
      rw [List.append_nil]
  | fn =>
    refine dss_cons (ds_if (kb := false) (DT.to (lteq (s := tFun) (dix (dv 0) de_int) (lit (l := tWord))) (by decide)) (fun z => by cases z) fun _ => dss_nil ?_)
    exact dss_one (ds_ret (de_if (k := true) (DT.to (lteq (s := tFun) (dix (dv 0) de_int) (lit (l := tFun))) (by decide)) (fun _ => dix (dv 0) de_int) fun z => by cases z) rfl)
  | var n =>
    have l3 := TL.numL_len (by decide) hd
    refine dss_cons (ds_if (kb := false) (DT.to (lteq (s := tVar) (dix (dv 0) de_int) (lit (l := tWord))) (by decide)) (fun z => by cases z) fun _ => dss_nil ?_)
    refine dss_one (ds_ret (de_if (k := false) (DT.to (lteq (s := tVar) (dix (dv 0) de_int) (lit (l := tFun))) (by decide)) (fun z => by cases z) fun _ => lfstr (ys := [tVar, [32], TL.numL n]) (.cons (fS (dix (dv 0) de_int) (by decide)) (.cons lit (.cons (fN (dix (dv 0) de_int) hd) .nil))) ?_) ?_)
    · show (tVar ++ ([32] ++ (TL.numL n ++ []))).length ≤ _
      rw [List.append_nil, List.length_append, List.length_append]
      show 3 + (1 + _) ≤ _
      omega
    · show Except.ok (dL (tVar ++ ([32] ++ TL.numL n))) = Except.ok (dL (tVar ++ ([32] ++ (TL.numL n ++ []))))
      rw [List.append_nil]
end
end Kd
set_option Elab.async false
set_option linter.all false
set_option maxRecDepth 100000
set_option maxHeartbeats 2000000
/-! the walk: looks, differences -/
namespace Kd
open PySem PySem.Spec PyProof.Rows L2
variable [LT]
def okD (d : Diff) : Prop := okA d.a ∧ okK d.x ∧ okK d.y
theorem tx_drop {s : T} {n : Nat} (h : tx s) : tx (s.drop n) := ⟨by have := h.1; rw [List.length_drop]; omega, fun c hc => h.2 c (List.mem_of_mem_drop hc)⟩
theorem tx_pt {S s : T} (h : tx s) : tx (pt S s).1 ∧ tx (pt S s).2.2 := ⟨⟨by have := pt_len S s; have := h.1; omega, (pt_asc h.2).1⟩, ⟨by have := pt_len S s; have := h.1; omega, (pt_asc h.2).2⟩⟩
theorem lookIn_spec {s : T} {l : Look} (h : lookIn s = some l) : lookRaw s = some l ∧ isLook l = true ∧ lookText l = s := by
  unfold lookIn at h
  cases q : lookRaw s with
  | none => rw [q] at h; cases h
  | some b =>
    rw [q] at h
    have h : (if isLook b = true ∧ lookText b = s then some b else none) = some l := h
    split at h
    · rename_i c
      cases h
      exact ⟨rfl, c.1, c.2⟩
    · cases h
theorem lookText_len {l : Look} (h : okK l) : (lookText l).length ≤ 20050 := by
  cases l with
  | word s n =>
    have l3 := TL.numL_len (by decide) h.2.2
    have := h.1
    show (s ++ ([47] ++ TL.numL n)).length ≤ _
    rw [List.length_append, List.length_append]
    show s.length + (1 + _) ≤ _
    omega
  | fn => decide
  | var n =>
    have l3 := TL.numL_len (by decide) h
    show (tVar ++ ([32] ++ TL.numL n)).length ≤ _
    rw [List.length_append, List.length_append]
    show 3 + (1 + _) ≤ _
    omega
theorem addrText_len {a : List AEl} (h : okA a) : (addrText a).length ≤ 130000 := by
  obtain ⟨h1, h2, h3⟩ := h
  have h3 : ((a.map elText).map List.length).sum ≤ 100000 := h3
  have l2 := joinL_len1 46 (a.map elText)
  rw [List.length_map] at l2
  unfold addrText orNo
  split
  · decide
  · omega
section
variable {P : Program} {w : World} {K : PySem.W.Frag} {mg : Str → Option Value} {base : Heap} {CP CI : Addr}
/-- look_in -/
abbrev KLkIn (P : Program) (w : World) (K : PySem.W.Frag) (mg : Str → Option Value) (base : Heap) (CP : Addr) := Kn P w K mg base "look_in" 4 1 (fun s : T => [dL s]) (fun s => ofO (.ref CP) encK (lookIn s)) tx
abbrev s37 : Stmt := top 37
theorem sc37 : FnScope ["text", "found", "word", "sign", "many"] ["text"] (defScope s37) := ⟨rfl, rfl, rfl, by decide +kernel, rfl, by decide +kernel, by decide +kernel⟩
theorem k37 (M : Md K mg CP CI) (F : Df K mg "look_in" s37 ["text"]) (k26 : KNum P w K mg base CP) (k35 : KLook P w K mg base) (k36 : KLkT P w K mg base) : KLkIn P w K mg base CP := by
  refine kn_df F sc37 (body := fun a cdv A outer s H E z C hd => ?_)
  have hz : z.length ≤ 16000000 := by have := hd.1; omega
  refine dss_cons (ds_if (lteq (dv 0) (lit (l := tFun))) (fun h => dss_one (ds_ret (de_tup (a1 (lit (l := tFun))) (Nat.le_of_ble_eq_true rfl)) ?_)) fun h => dss_nil ?_)
  · have h : z = tFun := by simpa using h
    subst h
    rfl
  have h : ¬ z = tFun := by simpa using h
  refine dss_cons (DS.imp (R := fun o => match o with | .nx ρ => ∃ l d2 d3 d4, lookRaw z = some l ∧ ρ = [.dat (dL z), .dat (encK l), d2, d3, d4] | .rz x => lookRaw z = none ∧ x = ⟨.ref CP, none⟩ | _ => False) ?_ fun o ho => ?_)
  · refine ds_if (dt_val (lstarts (t := tVar ++ [32]) (dv 0) lit)) (fun h2 => ?_) fun h2 => ?_
    · have h2 : z.take 4 = tVar ++ [32] := of_decide_eq_true h2
      have e : lookRaw z = (numIn (z.drop 4)).map .var := by unfold lookRaw; rw [if_neg h, if_pos h2]
      refine dss_one (dsetO (c := .ref CP) (g := fun n : Nat => encK (.var n)) (numIn (z.drop 4)) 1 C.toCp ?_ (fun q => ?_) fun n q => ?_)
      · refine DE.to (de_tup2O (c := .ref CP) (o1 := some ()) (g1 := fun _ => dL tVar) (g2 := dIn) (o2 := numIn (z.drop 4)) (lit (l := tVar)) (dcq (z.drop 4) C k26 (a1 (lfrom (i := 4) (dv 0) de_int hz)) (tx_drop hd).1)) ?_
        cases numIn (z.drop 4) <;> rfl
      · exact ⟨by rw [e, q]; rfl, rfl⟩
      · exact ⟨.var n, .no, .no, .no, by rw [e, q]; rfl, rfl⟩
    · have h2 : ¬ z.take 4 = tVar ++ [32] := of_decide_eq_false h2
      have e : lookRaw z = (numIn (Kd.pt [47] z).2.2).map (.word (Kd.pt [47] z).1) := by unfold lookRaw; rw [if_neg h, if_neg h2]
      refine dss_cons (ds_asg (lpart (s := z) (t := [47]) (dv 0) lit hz) (dg_tup C.calm (dgs_cons (gn (i := 2) C.toCp) (dgs_cons (gn (i := 3) C.toCp) (dgs_cons (gn (i := 4) C.toCp) dgs_nil)))) ?_)
      refine dss_one (dsetO (c := .ref CP) (g := fun n : Nat => encK (.word (Kd.pt [47] z).1 n)) (numIn (Kd.pt [47] z).2.2) 1 C.toCp ?_ (fun q => ?_) fun n q => ?_)
      · refine DE.to (de_tup3O (c := .ref CP) (o1 := some ()) (g1 := fun _ => dL tWord) (o2 := some ()) (g2 := fun _ => dL (Kd.pt [47] z).1) (g3 := dIn) (o3 := numIn (Kd.pt [47] z).2.2) (lit (l := tWord)) (dv 2) (dcq (Kd.pt [47] z).2.2 C k26 (a1 (dv 4)) (tx_pt hd).2.1)) ?_
        cases numIn (Kd.pt [47] z).2.2 <;> rfl
      · exact ⟨by rw [e, q]; rfl, rfl⟩
      · exact ⟨.word (Kd.pt [47] z).1 n, _, _, _, by rw [e, q]; rfl, rfl⟩
  · cases o with
    | nx ρ =>
      obtain ⟨l, d2, d3, d4, q, rfl⟩ := ho
      obtain ⟨ok, tl⟩ := lookRaw_ok hd q
      refine dss_cons (ds_if (or2 (dt_not (dt_val (dcq l C k35 (a1 (dv 1)) ok))) fun _ => ltne (dcq l C k36 (a1 (dv 1)) ok) (dv 0)) (fun h => dss_one (draise C M.pe ?_)) fun h => dss_nil (dss_one (ds_ret (dv 1) ?_)))
      · show _ = _
        unfold lookIn
        rw [q]
        rw [decide_eq_true tl] at h
        have h : isLook l = false := by simpa using h
        show ofO _ _ (if isLook l = true ∧ lookText l = z then some l else none) = _
        rw [if_neg fun c => by rw [h] at c; cases c.1]
        rfl
      · show _ = _
        unfold lookIn
        rw [q]
        rw [decide_eq_true tl] at h
        have h : isLook l = true := by simpa using h
        show ofO _ _ (if isLook l = true ∧ lookText l = z then some l else none) = _
        rw [if_pos ⟨h, tl⟩]
        rfl
    | rz x =>
      obtain ⟨q, rfl⟩ := ho
      show _ = _
      unfold lookIn
      rw [q]
      rfl
    | rt d ρ => cases ho
    | bk ρ => cases ho
    | ct ρ => cases ho
    | ro ds => cases ho
/-- is_difference -/
abbrev KDiff (P : Program) (w : World) (K : PySem.W.Frag) (mg : Str → Option Value) (base : Heap) := Kn P w K mg base "is_difference" 7 1 (fun z : Diff => [encF z]) (fun z => .ok (dB (isDiff z))) okD
abbrev s38 : Stmt := top 38
theorem sc38 : FnScope ["value"] ["value"] (defScope s38) := ⟨rfl, rfl, rfl, by decide +kernel, rfl, by decide +kernel, by decide +kernel⟩
theorem k38 (M : Md K mg CP CI) (F : Df K mg "is_difference" s38 ["value"]) (k33 : KPlain P w K mg base) (k35 : KLook P w K mg base) : KDiff P w K mg base := by
  refine kn_df F sc38 (body := fun a cdv A outer s H E z C hd => ?_)
  obtain ⟨h1, h2, h3⟩ := hd
  refine dss_cons (ds_if (kb := false) (or2 (k1 := false) (k2 := false) (dt_not (k := true) (dt_val (disi M.isi M.tuple bt_tuple (dv 0) rfl kit_tt))) fun _ => DT.to (tne (u := .int 3) (v := .int 3) (dlenT (ds := [encA z.a, encK z.x, encK z.y]) M.len (dv 0)) de_int) rfl) (fun z => by cases z) fun _ => dss_nil ?_)
  refine dss_one (ds_ret (vand3 (dcq z.a C k33 (a1 (dix (dv 0) de_int)) h1) (fun _ => dcq z.x C k35 (a1 (dix (dv 0) de_int)) h2) fun _ _ => dcq z.y C k35 (a1 (dix (dv 0) de_int)) h3) ?_)
  show _ = _
  unfold isDiff
  rw [Bool.and_assoc]
/-- difference_text -/
abbrev KDfT (P : Program) (w : World) (K : PySem.W.Frag) (mg : Str → Option Value) (base : Heap) := Kn P w K mg base "difference_text" 3 1 (fun z : Diff => [encF z]) (fun z => .ok (dL (diffText z))) okD
abbrev s39 : Stmt := top 39
theorem sc39 : FnScope ["value"] ["value"] (defScope s39) := ⟨rfl, rfl, rfl, by decide +kernel, rfl, by decide +kernel, by decide +kernel⟩
theorem k39 (M : Md K mg CP CI) (F : Df K mg "difference_text" s39 ["value"]) (k28 : KAdT P w K mg base) (k36 : KLkT P w K mg base) : KDfT P w K mg base := by
  refine kn_df F sc39 (body := fun a cdv A outer s H E z C hd => ?_)
  obtain ⟨h1, h2, h3⟩ := hd
  have l1 := addrText_len h1
  have l2 := lookText_len h2
  have l3 := lookText_len h3
  refine dss_one (ds_ret (lfstr (ys := [addrText z.a, [58, 32], lookText z.x, [44, 32], lookText z.y]) (.cons (fS (dcq z.a C k28 (a1 (dix (dv 0) de_int)) h1) (by omega)) (.cons lit (.cons (fS (dcq z.x C k36 (a1 (dix (dv 0) de_int)) h2) (by omega)) (.cons lit (.cons (fS (dcq z.y C k36 (a1 (dix (dv 0) de_int)) h3) (by omega)) .nil))))) ?_) ?_)
  · show (addrText z.a ++ ([58, 32] ++ (lookText z.x ++ ([44, 32] ++ (lookText z.y ++ []))))).length ≤ _
    rw [List.append_nil]
    simp only [List.length_append]
    show _ + (2 + (_ + (2 + _))) ≤ _
    omega
  · show Except.ok (dL (diffText z)) = Except.ok (dL (addrText z.a ++ ([58, 32] ++ (lookText z.x ++ ([44, 32] ++ (lookText z.y ++ []))))))
    rw [List.append_nil]
    rfl
end
end Kd
set_option Elab.async false
set_option linter.all false
set_option maxRecDepth 100000
set_option maxHeartbeats 2000000
/-! the walk: relations -/
namespace Kd
open PySem PySem.Spec PyProof.Rows L2
variable [LT]
def encQ (p : Nat × Nat) : D := .tup [dIn p.1, dIn p.2]
theorem encR_eq (r : List (Nat × Nat)) : encR r = .tup (r.map encQ) := rfl
def okR (r : List (Nat × Nat)) : Prop := r.length ≤ 20001 ∧ ∀ p ∈ r, p.1 < 10 ^ 40 ∧ p.2 < 10 ^ 40
theorem cutV_drop {xs : List V} {n : Nat} : cutV xs (some (n : Int)) none = xs.drop n := by
  unfold cutV
  rw [HT.sIx_nat, HT.sIx_none]
  by_cases h : n ≤ xs.length
  · rw [Nat.min_eq_left h]
    exact List.take_of_length_le (by rw [List.length_drop]; exact Nat.le_refl _)
  · rw [Nat.min_eq_right (by omega), Nat.sub_self, List.take_zero]
    exact (List.drop_eq_nil_of_le (by omega)).symm
theorem lt_pair (a b c d : Nat) : HT.lexLt [(a : Int), (b : Int)] [(c : Int), (d : Int)] = (decide (a < c) || (decide (a = c) && decide (b < d))) := by
  rw [HT.lexLt_cons, HT.lexLt_cons, HT.lexLt_nil_nil, Bool.eq_iff_iff]
  by_cases h2 : a = c
  · subst h2
    rw [if_pos rfl]
    by_cases h3 : b = d
    · subst h3
      simp
    · rw [if_neg (by omega)]
      simp
  · rw [if_neg (by omega)]
    simp [h2]
theorem adj_zip : ∀ r : List (Nat × Nat), adj r = (r.zip (r.drop 1)).all fun q => decide (q.1.1 < q.2.1) || (decide (q.1.1 = q.2.1) && decide (q.1.2 < q.2.2))
  | [] => rfl
  | [p] => rfl
  | p :: q :: r => by
    have ih := adj_zip (q :: r)
    rw [adj, ih]
    rfl
section
variable {X : Cx} {E : XK} {k : Nat} {elt iter a b e : Expr} {scope : Scope} {n m : Str} {pos p pt pl p1 p2 : Pos} {ρ ρ1 ρ2 : List Sl} {i j : Nat} {r : Res} {R : Out → Prop} {ds : List D}
theorem dcutT {i : Nat} (h : DE X E e ρ (.ok (.tup ds)) ρ1) (hl : DE X E a ρ1 (.ok (dI (i : Int))) ρ2) : DE X E (.Subscript e (.Slice (some a) none none p2) pos) ρ (.ok (.tup (ds.drop i))) ρ2 :=
  de_slice sl_tupA (sl3_tup (fun F vs il => by rw [cutV_drop]; exact il.drop i) fun hw => by
    rw [HT.sIx_nat] at hw
    rcases Nat.min_eq_zero_iff.mp hw.1 with h | h
    · rw [h]; rfl
    · rw [List.length_eq_zero_iff.mp h, List.drop_nil]) h (do_some hl) do_none
theorem dltQ {p q : Nat × Nat} (C : Cp X E k) (h : DE X E a ρ (.ok (encQ p)) ρ1) (h2 : DE X E b ρ1 (.ok (encQ q)) ρ2) : DE X E (.Compare a [.Lt] [b] pos) ρ (.ok (dB (decide (p.1 < q.1) || (decide (p.1 = q.1) && decide (p.2 < q.2))))) ρ2 :=
  de_cmp (op_ltT (by have := C.room.units; omega)) (fun F H vx vy Q sm hx hy kk => by
    cases hx with
    | @tup pa va _ hta la =>
    cases hy with
    | @tup pb vb _ htb lb =>
    have e1 : va = [V.int p.1, V.int p.2] := IsL.vs (xs := [V.int p.1, V.int p.2]) la
    have e2 : vb = [V.int q.1, V.int q.2] := IsL.vs (xs := [V.int q.1, V.int q.2]) lb
    subst e1 e2
    refine ⟨pa, pb, [(p.1 : Int), (p.2 : Int)], [(q.1 : Int), (q.2 : Int)], rfl, rfl, sqT_mono sm hta, sqT_mono sm htb, ?_⟩
    rw [lt_pair]
    exact kk.v sm) h h2 (nomark _)
theorem DI.to {ds ds' : List D} {tg : Expr} (h : DI X E tg iter ρ (.ok ds) ρ1) (q : ds = ds') : DI X E tg iter ρ (.ok ds') ρ1 := q ▸ h
/-- all([t for a, b in ..]) -/
theorem dallc2 {α : Type} {t : α → Bool} {xs : List α} {e1 e2 : α → D} {kk : Nat} {p3 : Pos} (C : Ct X E k) (hm : X.mg "all" = none) (i j : Nat) (hi : DI X E (.Tuple [.Name n p1, .Name m p2] kk pt) iter ρ (.ok (xs.map fun a => .tup [e1 a, e2 a])) ρ1) (hlen : xs.length ≤ 16000000)
    (he : ∀ (s : Shared) (H : Hp) (Cc : Addr) (cl : List (Str × Addr)) (fp : List Addr) (xe : Value → Shared → Prop), Cp (bx X s H scope (compEnvC scope cl Cc X.env) fp xe) E k → ∀ a ∈ xs, DE (bx X s H scope (compEnvC scope cl Cc X.env) fp xe) E elt (((wipeR (lend ρ1) [i, j]).set i (.dat (e1 a))).set j (.dat (e2 a))) (.ok (dB (t a))) (((wipeR (lend ρ1) [i, j]).set i (.dat (e1 a))).set j (.dat (e2 a))))
    (hij : i ≠ j := by decide) (bo : BlkOk X.N X.env.scope scope [(n, i), (m, j)] := by exact blkOk_by (by first | decide +kernel | (dsimp only [cxOf, bx, compEnvC, envOfC]; decide +kernel) | rfl)) (hown : ∀ b es, ρ1[i]? = some (.own b es) → False := by intro b es h; cases h) (hown2 : ∀ b es, ρ1[j]? = some (.own b es) → False := by intro b es h; cases h)
    (hn : X.N[i]? = some n := by rfl) (hn2 : X.N[j]? = some m := by rfl) (hloc : scope.names.lookup n = some .local := by rfl) (hloc2 : scope.names.lookup m = some .local := by rfl) (hs : ∀ x, foldedSetIterable iter X.env x = pure x := by intro _; rfl) (hg : Gl X "all" := by rfl)
    (hs1 : starEach [.ListComp elt [⟨.Tuple [.Name n p1, .Name m p2] kk pt, iter, [], 0⟩] scope p3] X.env = (false, eval (.ListComp elt [⟨.Tuple [.Name n p1, .Name m p2] kk pt, iter, [], 0⟩] scope p3) X.env) :: starEach [] X.env := by rfl) (hpl : (backTo pos (starEach [] X.env)).any (·.1) = false := by rfl) :
    DE X E (.Call (.Name "all" p) [.ListComp elt [⟨.Tuple [.Name n p1, .Name m p2] kk pt, iter, [], 0⟩] scope p3] [] pos) ρ (.ok (dB (xs.all t))) ρ1 :=
  DE.to (dall (bs := xs.map t) C.calm hm (DE.to (dlc2 (g := fun a => .ok (dB (t a))) C i j hi hlen he hij bo hown hown2 hn hn2 hloc hloc2 hs) (by rw [mapA_ok (f := fun a => dB (t a)) fun _ _ => rfl, List.map_map]; rfl)) hg hs1 hpl) (by rw [List.all_map]; rfl)
end
section
variable {P : Program} {w : World} {K : PySem.W.Frag} {mg : Str → Option Value} {base : Heap} {CP CI : Addr}
/-- is_relation -/
abbrev KRel (P : Program) (w : World) (K : PySem.W.Frag) (mg : Str → Option Value) (base : Heap) := Kn P w K mg base "is_relation" 3 1 (fun z : List (Nat × Nat) => [encR z]) (fun z => .ok (dB (isRel z))) okR
abbrev s40 : Stmt := top 40
theorem sc40 : FnScope ["value", "pair", "one", "other", "number"] ["value"] (defScope s40) := ⟨rfl, rfl, rfl, by decide +kernel, rfl, by decide +kernel, by decide +kernel⟩
def small (p : Nat × Nat) : Bool := decide (p.1 ≤ 99) && decide (p.2 ≤ 99)
theorem k40 (M : Md K mg CP CI) (F : Df K mg "is_relation" s40 ["value"]) (k8 : KBtw P w K mg base) : KRel P w K mg base := by
  refine kn_df F sc40 (body := fun a cdv A outer s H E z C hd => ?_)
  have hl : z.length ≤ 16000000 := by have := hd.1; omega
  refine dss_cons (ds_if (kb := false) (dt_not (k := true) (dt_val (disi M.isi M.tuple bt_tuple (dv 0) rfl kit_tt))) (fun z => by cases z) fun _ => dss_nil ?_)
  refine dss_cons (ds_for (ds := z.map encQ) C.po C.calm (di_tup (dv 0)) (fun i ρ => ∃ d1, ρ = [.dat (encR z), d1, .no, .no, .no] ∧ (z.take i).all small = true) ⟨.no, rfl, rfl⟩ (fun i ρ d hI hdi => ?_) fun ρ hI => ?_)
  · obtain ⟨d1, rfl, h⟩ := hI
    rw [List.getElem?_map] at hdi
    cases hp : z[i]? with
    | none => rw [hp] at hdi; cases hdi
    | some q =>
      rw [hp] at hdi
      cases hdi
      refine ⟨_, gn (i := 1) C.toCp, ?_⟩
      refine dss_cons (ds_if (kb := false) (or2 (k1 := false) (k2 := false) (dt_not (k := true) (dt_val (disi M.isi M.tuple bt_tuple (dv 1) rfl kit_tt))) fun _ => DT.to (tne (u := .int 2) (v := .int 2) (dlenT (ds := [dIn q.1, dIn q.2]) M.len (dv 1)) de_int) rfl) (fun z => by cases z) fun _ => dss_nil ?_)
      refine dss_one (ds_if (kb := !small q) (dt_not (dt_val (DE.to (dallc (xs := [q.1, q.2]) (enc := dIn) (t := fun i => decide (i ≤ 99)) C M.all 4 (di_tup (dv 1)) (by show 2 ≤ _; decide) fun s H Cc cl fp xe cp c hc => dcp (c, 0, 99) cp k8 (a3 (dv 4) de_int (DE.to (de_op op_sub op2_I0 (dgI M.nodes) de_int) rfl)) trivial (by simp)) (by simp [small])))) (fun h2 => dss_one (ds_ret de_bl ?_)) fun h2 => dss_nil ?_)
      · show _ = _
        have hs : small q = false := by simpa using h2
        have e : isRel z = false := by
          unfold isRel
          have : (z.all fun p => decide (p.1 ≤ 99) && decide (p.2 ≤ 99)) = false := by
            refine Bool.eq_false_iff.mpr fun c => ?_
            have := List.all_eq_true.mp c q (List.mem_of_getElem? hp)
            unfold small at hs
            rw [hs] at this
            cases this
          rw [this]
          rfl
        rw [e]
      · have hs : small q = true := by simpa using h2
        refine ⟨_, rfl, ?_⟩
        rw [List.take_succ, hp, List.all_append, h]
        simp [hs]
  · obtain ⟨d1, rfl, h⟩ := hI
    rw [List.length_map, List.take_length] at h
    refine dss_one (ds_ret (dallc2 (xs := z.zip (z.drop 1)) (e1 := fun q => encQ q.1) (e2 := fun q => encQ q.2) (t := fun q => decide (q.1.1 < q.2.1) || (decide (q.1.1 = q.2.1) && decide (q.1.2 < q.2.2))) C M.all 2 3 (DI.to (di_zipT (xs := z.map encQ) (ys := (z.map encQ).drop 1) M.zip (a2 (dv 0) (dcutT (i := 1) (dv 0) de_int))) ?_) (by rw [List.length_zip]; omega) fun s H Cc cl fp xe cp c hc => dltQ cp (dv 2) (dv 3)) ?_)
    · unfold zipD
      rw [← List.map_drop, List.zip_map, List.map_map]
      rfl
    · show _ = _
      unfold isRel
      rw [← adj_zip]
      have h : (z.all fun p => decide (p.1 ≤ 99) && decide (p.2 ≤ 99)) = true := h
      rw [h, Bool.true_and]
end
end Kd
set_option Elab.async false
set_option linter.all false
set_option maxRecDepth 100000
set_option maxHeartbeats 2000000
/-! the walk: reading relations; forms -/
namespace Kd
open PySem PySem.Spec PyProof.Rows L2
variable [LT]
def prs {α : Type} (c : Value) (g : α → D) (f : T → Option α) : D → Res
  | .v (.str s) => ofO c g (f s.cps.toList)
  | _ => .error ⟨c, none⟩
theorem Odd.split {d : D} (h : Odd d) : (∃ s, d = dL s ∧ tx s) ∨ (isStrD d = false ∧ ∀ (α : Type) (c : Value) (g : α → D) (f : T → Option α), prs c g f d = .error ⟨c, none⟩) := by
  cases h with
  | txt s h h2 => exact .inl ⟨s, rfl, h, h2⟩
  | non => exact .inr ⟨rfl, fun _ _ _ _ => rfl⟩
  | int i => exact .inr ⟨rfl, fun _ _ _ _ => rfl⟩
  | bl b => exact .inr ⟨rfl, fun _ _ _ _ => rfl⟩
  | tup ds => exact .inr ⟨rfl, fun _ _ _ _ => rfl⟩
  | lst ds => exact .inr ⟨rfl, fun _ _ _ _ => rfl⟩
  | emp => exact .inr ⟨rfl, fun _ _ _ _ => rfl⟩
theorem Odd.ofTx {s : T} (h : tx s) : Odd (dL s) := .txt s h.1 h.2
theorem pairIn_lt {s : T} {p : Nat × Nat} (h : pairIn s = some p) : p.1 < 10 ^ 40 ∧ p.2 < 10 ^ 40 := by
  unfold pairIn at h
  cases q : numIn (pt [45] s).1 with
  | none => rw [q] at h; cases h
  | some a =>
    rw [q] at h
    cases q2 : numIn (pt [45] s).2.2 with
    | none => rw [q2] at h; cases h
    | some b =>
      rw [q2] at h
      cases h
      exact ⟨numIn_lt q, numIn_lt q2⟩
theorem relRaw_ok {s : T} {r : List (Nat × Nat)} (hs : s.length ≤ 20000) (h : relRaw s = some r) : okR r := by
  unfold relRaw at h
  split at h
  · cases h
    exact ⟨by decide, fun p hp => by cases hp⟩
  · obtain ⟨m1, m2⟩ := mapO_spec h
    have := spl_len [32] (by decide) (by decide) s
    refine ⟨by omega, fun p hp => ?_⟩
    obtain ⟨w, _, hw⟩ := m2 p hp
    exact pairIn_lt hw
theorem relIn_spec {s : T} {r : List (Nat × Nat)} (h : relIn s = some r) : relRaw s = some r ∧ isRel r = true := by
  unfold relIn at h
  cases q : relRaw s with
  | none => rw [q] at h; cases h
  | some b =>
    rw [q] at h
    have h : (if isRel b = true then some b else none) = some r := h
    split at h
    · rename_i c
      cases h
      exact ⟨rfl, c⟩
    · cases h
theorem pairText_len {p : Nat × Nat} (h : p.1 < 10 ^ 40 ∧ p.2 < 10 ^ 40) : (pairText p).length ≤ 81 := by
  have l1 := TL.numL_len (by decide) h.1
  have l2 := TL.numL_len (by decide) h.2
  show (TL.numL p.1 ++ ([45] ++ TL.numL p.2)).length ≤ _
  rw [List.length_append, List.length_append]
  show _ + (1 + _) ≤ _
  omega
theorem pairs_len : ∀ {r : List (Nat × Nat)}, (∀ p ∈ r, p.1 < 10 ^ 40 ∧ p.2 < 10 ^ 40) → ((r.map pairText).map List.length).sum ≤ 81 * r.length
  | [], _ => Nat.zero_le _
  | p :: r, h => by
    have h1 := pairText_len (h p List.mem_cons_self)
    have h2 := pairs_len fun q hq => h q (List.mem_cons_of_mem _ hq)
    rw [List.map_cons, List.map_cons, List.sum_cons, List.length_cons]
    omega
theorem relText_len {r : List (Nat × Nat)} (h : okR r) : (relText r).length ≤ 1700000 := by
  have l1 := pairs_len h.2
  have l2 := joinL_len1 32 (r.map pairText)
  have := h.1
  rw [List.length_map] at l2
  unfold relText orNo
  split
  · decide
  · omega
section
variable {X : Cx} {E : XK} {k : Nat} {a b c e : Expr} {pos : Pos} {ρ ρ1 ρ2 : List Sl} {d : Expr}
theorem or4 {k1 k2 k3 k4 : Bool} (h : DT X E a ρ (.ok k1) ρ) (h2 : k1 = false → DT X E b ρ (.ok k2) ρ) (h3 : k1 = false → k2 = false → DT X E c ρ (.ok k3) ρ) (h4 : k1 = false → k2 = false → k3 = false → DT X E d ρ (.ok k4) ρ) : DT X E (.BoolOp .Or [a, b, c, d] pos) ρ (.ok (k1 || (k2 || (k3 || k4)))) ρ := dt_w (dw_or h fun z => dw_or (h2 z) fun z2 => dw_or (h3 z z2) fun z3 => dw_or1 (h4 z z2 z3))
end
section
variable {P : Program} {w : World} {K : PySem.W.Frag} {mg : Str → Option Value} {base : Heap} {CP CI : Addr}
/-- relation_text -/
abbrev KReT (P : Program) (w : World) (K : PySem.W.Frag) (mg : Str → Option Value) (base : Heap) := Kn P w K mg base "relation_text" 1 1 (fun z : List (Nat × Nat) => [encR z]) (fun z => .ok (dL (relText z))) okR
abbrev s41 : Stmt := top 41
theorem sc41 : FnScope ["value", "one", "other"] ["value"] (defScope s41) := ⟨rfl, rfl, rfl, by decide +kernel, rfl, by decide +kernel, by decide +kernel⟩
theorem k41 (M : Md K mg CP CI) (F : Df K mg "relation_text" s41 ["value"]) : KReT P w K mg base := by
  refine kn_df F sc41 (body := fun a cdv A outer s H E z C hd => ?_)
  have l1 := pairs_len hd.2
  have l2 := joinL_len1 32 (z.map pairText)
  have l3 := hd.1
  have e1 : (z.map pairText).length = z.length := List.length_map _
  have len : ∀ l : T, (SX.S l).length = l.length := SX.S_len
  rw [e1] at l2
  refine dss_one (ds_ret (d := dL (relText z)) (de_orS (s := SX.S (TL.joinL [32] (z.map pairText))) (ljoin (lit (l := [32])) (DE.to (dlc2 (xs := z) (e1 := fun p => dIn p.1) (e2 := fun p => dIn p.2) (g := fun p => .ok (dL (pairText p))) C 1 2 (di_tup (dv 0)) (by omega) fun s H Cc cl fp xe cp c hc => DE.to (lfstr (ys := [TL.numL c.1, [45], TL.numL c.2]) (.cons (fN (dv 1) (hd.2 c hc).1) (.cons lit (.cons (fN (dv 2) (hd.2 c hc).2) .nil))) ?_) ?_) ?_) ?_) (fun h => ⟨?_, rfl⟩) (fun h => ?_) ?_) rfl)
  · have := pairText_len (hd.2 c hc)
    have e : [TL.numL c.1, [45], TL.numL c.2].flatten = pairText c := by
      show TL.numL c.1 ++ ([45] ++ (TL.numL c.2 ++ [])) = _
      rw [List.append_nil]
      rfl
    rw [e]
    omega
  · show Except.ok (dL (TL.numL c.1 ++ ([45] ++ (TL.numL c.2 ++ [])))) = _
    rw [List.append_nil]
    rfl
  · rw [mapA_ok (f := fun p => dL (pairText p)) fun _ _ => rfl, List.map_map]; rfl
  · show ((z.map pairText).map List.length).sum + (z.map pairText).length * 1 ≤ _
    rw [e1]; omega
  · rw [len] at h
    unfold relText orNo
    rw [if_neg fun q => h (by rw [q]; rfl)]
  · rw [len] at h
    have q := List.length_eq_zero_iff.mp h
    unfold relText orNo
    rw [if_pos q]
    exact de_one (dgL M.nothing)
  · rw [len]; omega
/-- pair_in -/
abbrev KPair (P : Program) (w : World) (K : PySem.W.Frag) (mg : Str → Option Value) (base : Heap) (CP : Addr) := Kn P w K mg base "pair_in" 2 1 (fun s : T => [dL s]) (fun s => ofO (.ref CP) encQ (pairIn s)) (fun s => s.length ≤ 20000)
abbrev s42 : Stmt := top 42
theorem sc42 : FnScope ["text", "one", "sign", "other"] ["text"] (defScope s42) := ⟨rfl, rfl, rfl, by decide +kernel, rfl, by decide +kernel, by decide +kernel⟩
theorem k42 (M : Md K mg CP CI) (F : Df K mg "pair_in" s42 ["text"]) (k26 : KNum P w K mg base CP) : KPair P w K mg base CP := by
  refine kn_df F sc42 (body := fun a cdv A outer s H E z C hd => ?_)
  have hd : z.length ≤ 20000 := hd
  have p1 := pt_len [45] z
  refine dss_cons (ds_asg (lpart (s := z) (t := [45]) (dv 0) lit (by omega)) (dg_tup C.calm (dgs_cons (gn (i := 1) C.toCp) (dgs_cons (gn (i := 2) C.toCp) (dgs_cons (gn (i := 3) C.toCp) dgs_nil)))) ?_)
  refine dss_one (ds_retR (de_tup2O (dcq (Kd.pt [45] z).1 C k26 (a1 (dv 1)) (by show _ ≤ 20000; omega)) (dcq (Kd.pt [45] z).2.2 C k26 (a1 (dv 3)) (by show _ ≤ 20000; omega))) (fun d hd => Eq.trans ?_ hd) fun x hx => Eq.trans ?_ hx)
  all_goals
    unfold pairIn
    cases numIn (Kd.pt [45] z).1 with
    | none => rfl
    | some p => cases numIn (Kd.pt [45] z).2.2 <;> rfl
/-- relation_in -/
abbrev KReIn (P : Program) (w : World) (K : PySem.W.Frag) (mg : Str → Option Value) (base : Heap) (CP : Addr) := Kn P w K mg base "relation_in" 4 1 (fun d : D => [d]) (prs (.ref CP) encR relIn) Odd
abbrev s43 : Stmt := top 43
theorem sc43 : FnScope ["text", "found", "word"] ["text"] (defScope s43) := ⟨rfl, rfl, rfl, by decide +kernel, rfl, by decide +kernel, by decide +kernel⟩
theorem k43 (M : Md K mg CP CI) (F : Df K mg "relation_in" s43 ["text"]) (k25 : KReq P w K mg base CP) (k42 : KPair P w K mg base CP) (k40 : KRel P w K mg base) : KReIn P w K mg base CP := by
  refine kn_df F sc43 (body := fun a cdv A outer s H E z C hd => ?_)
  rcases hd.split with ⟨z, rfl, ht⟩ | ⟨h1, h2⟩
  · show DSs _ _ _ _ (Post (ofO (.ref CP) encR (relIn z)))
    obtain ⟨hl, ha⟩ := ht
    have l1 := spl_len [32] (by decide) (by decide) z
    refine dss_cons (ds_expr (dcq (dL z) C k25 (a1 (dv 0)) hd) ?_)
    refine dss_cons (dsetO (c := .ref CP) (g := encR) (relRaw z) 1 C.toCp ?_ (fun q => ?_) fun r q => ?_)
    · unfold relRaw
      refine de_if (lteq (dv 0) (dgL M.nothing)) (fun h => ?_) fun h => ?_
      · have h : z = [45] := by simpa using h
        rw [if_pos h]
        exact de_tup da_nil (by decide)
      · have h : ¬ z = [45] := by simpa using h
        rw [if_neg h]
        exact dtupO (c := .ref CP) (g := pairIn) (encB := encQ) (xs := TL.spl [32] 0 [] z) (enc := dL) C M.tuple 2 (di_list (lsplit (dv 0) (lit (l := [32])) (by omega))) (by omega) fun s H Cc cl fp xe cp c hc => dcp c cp k42 (a1 (dv 2)) (by
          have := spl_mem (by decide) (by decide) hc
          show _ ≤ 20000
          omega)
    · show _ = _
      unfold relIn
      rw [q]
      rfl
    · have ok := relRaw_ok hl q
      refine dss_cons (ds_if (dt_not (dt_val (dcq r C k40 (a1 (dv 1)) ok))) (fun h => dss_one (draise C M.pe ?_)) fun h => dss_nil (dss_one (ds_ret (dv 1) ?_)))
      · have h : isRel r = false := by simpa using h
        show _ = _
        unfold relIn
        rw [q]
        show ofO _ _ (if isRel r = true then some r else none) = _
        rw [if_neg (by rw [h]; decide)]
        rfl
      · have h : isRel r = true := by simpa using h
        show _ = _
        unfold relIn
        rw [q]
        show ofO _ _ (if isRel r = true then some r else none) = _
        rw [if_pos h]
        rfl
  · exact dss_cons (ds_exprE (dcq z C k25 (a1 (dv 0)) hd (by rw [h1]; rfl)) (h2 _ _ _ _))
end
end Kd
set_option Elab.async false
set_option linter.all false
set_option maxRecDepth 100000
set_option maxHeartbeats 2000000
/-! the walk: what is called from outside -/
namespace Kd
open PySem PySem.Spec PyProof.Rows L2
variable [LT]
def okP : Paper → Prop
  | .alike r => okR r
  | .unlike a => okA a
def okC (c : Chn) : Prop := okA c.a ∧ c.ps.length ≤ 20001 ∧ (∀ p ∈ c.ps, okA p) ∧ ((c.ps.map addrText).map List.length).sum ≤ 1000000
theorem spl_sub (S : T) : ∀ (s acc : T) (k : Nat) (w : T), w ∈ TL.spl S k acc s → ∀ c ∈ w, c ∈ acc ∨ c ∈ s
  | [], acc, k, w, h, c, hc => by
    rw [TL.spl_nil] at h
    rw [List.mem_singleton.mp h] at hc
    exact .inl hc
  | d :: r, acc, 0, w, h, c, hc => by
    rw [TL.spl] at h
    split at h
    · rcases List.mem_cons.mp h with rfl | h
      · exact .inl hc
      · rcases spl_sub S r [] _ w h c hc with h | h
        · cases h
        · exact .inr (List.mem_cons_of_mem _ h)
    · rcases spl_sub S r (acc ++ [d]) 0 w h c hc with h | h
      · rcases List.mem_append.mp h with h | h
        · exact .inl h
        · exact .inr (by rw [List.mem_singleton.mp h]; exact List.mem_cons_self)
      · exact .inr (List.mem_cons_of_mem _ h)
  | d :: r, acc, k + 1, w, h, c, hc => by
    rw [TL.spl] at h
    rcases spl_sub S r acc k w h c hc with h | h
    · exact .inl h
    · exact .inr (List.mem_cons_of_mem _ h)
theorem spl_asc {S s : T} (h : asc s) : ∀ w ∈ TL.spl S 0 [] s, asc w := fun w hw c hc => by
  rcases spl_sub S s [] 0 w hw c hc with h2 | h2
  · cases h2
  · exact h c h2
theorem plainIn_spec {s : T} {a : List AEl} (h : plainIn s = some a) : addrIn s = some a ∧ isPlain a = true := by
  unfold plainIn at h
  cases q : addrIn s with
  | none => rw [q] at h; cases h
  | some b =>
    rw [q] at h
    have h : (if isPlain b = true then some b else none) = some a := h
    split at h
    · rename_i c
      cases h
      exact ⟨rfl, c⟩
    · cases h
theorem plainIn_text {s : T} {a : List AEl} (h : plainIn s = some a) : addrText a = s := (addrIn_spec (plainIn_spec h).1).2.2
theorem plainIn_ok {s : T} {a : List AEl} (hs : s.length ≤ 20000) (h : plainIn s = some a) : okA a := addrRaw_ok hs (addrIn_spec (plainIn_spec h).1).1
section
variable {P : Program} {w : World} {K : PySem.W.Frag} {mg : Str → Option Value} {base : Heap} {CP CI : Addr}
/-- is_paper_form -/
abbrev KPap (P : Program) (w : World) (K : PySem.W.Frag) (mg : Str → Option Value) (base : Heap) := Kn P w K mg base "is_paper_form" 6 1 (fun z : Paper => [encP z]) (fun z => .ok (dB (isPaper z))) okP
abbrev s44 : Stmt := top 44
theorem sc44 : FnScope ["value"] ["value"] (defScope s44) := ⟨rfl, rfl, rfl, by decide +kernel, rfl, by decide +kernel, by decide +kernel⟩
theorem k44 (M : Md K mg CP CI) (F : Df K mg "is_paper_form" s44 ["value"]) (k40 : KRel P w K mg base) (k15 : KAddr P w K mg base) : KPap P w K mg base := by
  refine kn_df F sc44 (body := fun a cdv A outer s H E z C hd => ?_)
  cases z with
  | alike r =>
    refine dss_cons (ds_if (kb := false) (or3 (k1 := false) (k2 := false) (k3 := false) (dt_not (k := true) (dt_val (disi M.isi M.tuple bt_tuple (dv 0) rfl kit_tt))) (fun _ => DT.to (tne (u := .int 2) (v := .int 2) (dlenT (ds := [dL tAlike, encR r]) M.len (dv 0)) de_int) rfl) fun _ _ => dt_not (k := true) (dt_val (disi M.isi M.str bt_str (dix (dv 0) de_int) rfl kit_ss))) (fun z => by cases z) fun _ => dss_nil ?_)
    exact dss_one (ds_ret (de_if (k := true) (DT.to (lteq (s := tAlike) (dix (dv 0) de_int) (dgL M.alike)) (by decide)) (fun _ => dcq r C k40 (a1 (dix (dv 0) de_int)) hd) fun z => by cases z) rfl)
  | unlike b =>
    refine dss_cons (ds_if (kb := false) (or3 (k1 := false) (k2 := false) (k3 := false) (dt_not (k := true) (dt_val (disi M.isi M.tuple bt_tuple (dv 0) rfl kit_tt))) (fun _ => DT.to (tne (u := .int 2) (v := .int 2) (dlenT (ds := [dL tUnlike, encA b]) M.len (dv 0)) de_int) rfl) fun _ _ => dt_not (k := true) (dt_val (disi M.isi M.str bt_str (dix (dv 0) de_int) rfl kit_ss))) (fun z => by cases z) fun _ => dss_nil ?_)
    exact dss_one (ds_ret (de_if (k := false) (DT.to (lteq (s := tUnlike) (dix (dv 0) de_int) (dgL M.alike)) (by decide)) (fun z => by cases z) fun _ => vand2 (k1 := true) (DE.to (leq (s := tUnlike) (t := tUnlike) (dix (dv 0) de_int) (dgL M.unlike)) rfl) fun _ => dcq b C k15 (a1 (dix (dv 0) de_int)) hd) rfl)
/-- is_chain_form -/
abbrev KChn (P : Program) (w : World) (K : PySem.W.Frag) (mg : Str → Option Value) (base : Heap) := Kn P w K mg base "is_chain_form" 7 1 (fun z : Chn => [encC z]) (fun z => .ok (dB (isChain z))) okC
abbrev s45 : Stmt := top 45
theorem sc45 : FnScope ["value", "piece"] ["value"] (defScope s45) := ⟨rfl, rfl, rfl, by decide +kernel, rfl, by decide +kernel, by decide +kernel⟩
theorem k45 (M : Md K mg CP CI) (F : Df K mg "is_chain_form" s45 ["value"]) (k33 : KPlain P w K mg base) : KChn P w K mg base := by
  refine kn_df F sc45 (body := fun a cdv A outer s H E z C hd => ?_)
  obtain ⟨h1, h2, h3, h4⟩ := hd
  refine dss_cons (ds_if (kb := false) (or4 (k1 := false) (k2 := false) (k3 := false) (k4 := false) (dt_not (k := true) (dt_val (disi M.isi M.tuple bt_tuple (dv 0) rfl kit_tt))) (fun _ => DT.to (tne (u := .int 3) (v := .int 3) (dlenT (ds := [dL tChain, encA z.a, .tup (z.ps.map encA)]) M.len (dv 0)) de_int) rfl) (fun _ _ => dt_not (k := true) (dt_val (disi M.isi M.str bt_str (dix (dv 0) de_int) rfl kit_ss))) fun _ _ _ => DT.to (ltne (s := tChain) (dix (dv 0) de_int) (dgL M.chain)) (by decide)) (fun z => by cases z) fun _ => dss_nil ?_)
  refine dss_cons (ds_if (kb := !isPlain z.a) (DT.to (or2 (k2 := false) (dt_not (dt_val (dcq z.a C k33 (a1 (dix (dv 0) de_int)) h1))) fun _ => dt_not (k := true) (dt_val (disi M.isi M.tuple bt_tuple (dix (dv 0) de_int) rfl kit_tt))) (Bool.or_false _)) (fun h => dss_one (ds_ret de_bl ?_)) fun h => dss_nil ?_)
  · have h : isPlain z.a = false := by simpa using h
    show _ = _
    unfold isChain
    rw [h]
    rfl
  · have h : isPlain z.a = true := by simpa using h
    refine dss_one (ds_ret (vand2 (k1 := !decide (z.ps = [])) (DE.to (dneP (m := 4) (n := 1) C.toCp (dix (dv 0) de_int) (de_tup da_nil (by decide)) (.tup (plAs z.ps)) (.tup fun d hd => by cases hd)) ?_) fun _ => dallc (xs := z.ps) (enc := encA) (t := fun a => isPlain a && !decide (a = [])) C M.all 1 (di_tup (dix (dv 0) de_int)) (by omega) fun s H Cc cl fp xe cp c hc => vand2 (dcp c cp k33 (a1 (dv 1)) (h3 c hc)) fun _ => DE.to (dneP (m := 3) (n := 1) cp (dv 1) (de_tup da_nil (by decide)) (plA c) (.tup fun d hd => by cases hd)) ?_) ?_)
    · rw [eqD_tupNil (plAs z.ps)]
      cases z.ps <;> rfl
    · rw [encA, eqD_tupNil (plEs c)]
      cases c <;> rfl
    · show _ = _
      unfold isChain
      rw [h]
      rfl
/-- require_form -/
abbrev KForm (P : Program) (w : World) (K : PySem.W.Frag) (mg : Str → Option Value) (base : Heap) (CI : Addr) := Kn P w K mg base "require_form" 1 1 (fun b : Bool => [dB b]) (fun b => if b = true then .ok dN else .error ⟨.ref CI, none⟩) (fun _ => True)
abbrev s46 : Stmt := top 46
theorem sc46 : FnScope ["has_form"] ["has_form"] (defScope s46) := ⟨rfl, rfl, rfl, by decide +kernel, rfl, by decide +kernel, by decide +kernel⟩
theorem k46 (M : Md K mg CP CI) (F : Df K mg "require_form" s46 ["has_form"]) : KForm P w K mg base CI := by
  refine kn_df F sc46 (body := fun a cdv A outer s H E z C hd => ?_)
  refine dss_one (ds_if (dt_not (dt_val (dv 0))) (fun h => dss_one (draise C M.io ?_)) fun h => dss_nil ?_)
  · have h : z = false := by simpa using h
    subst h
    rfl
  · have h : z = true := by simpa using h
    subst h
    rfl
/-- format_difference -/
abbrev KFDf (P : Program) (w : World) (K : PySem.W.Frag) (mg : Str → Option Value) (base : Heap) := Kn P w K mg base "format_difference" 8 1 (fun z : Diff => [encF z]) (fun z => .ok (dL (diffText z))) (fun z => okD z ∧ isDiff z = true)
abbrev s47 : Stmt := top 47
theorem sc47 : FnScope ["value"] ["value"] (defScope s47) := ⟨rfl, rfl, rfl, by decide +kernel, rfl, by decide +kernel, by decide +kernel⟩
theorem k47 (M : Md K mg CP CI) (F : Df K mg "format_difference" s47 ["value"]) (k46 : KForm P w K mg base CI) (k38 : KDiff P w K mg base) (k39 : KDfT P w K mg base) : KFDf P w K mg base := by
  refine kn_df F sc47 (body := fun a cdv A outer s H E z C hd => ?_)
  obtain ⟨h1, h2⟩ := hd
  refine dss_cons (ds_expr (dcq true C k46 (a1 (dcq z C k38 (a1 (dv 0)) h1 (by rw [h2]))) trivial) ?_)
  exact dss_one (ds_ret (dcq z C k39 (a1 (dv 0)) h1) rfl)
/-- parse_difference -/
abbrev KPDf (P : Program) (w : World) (K : PySem.W.Frag) (mg : Str → Option Value) (base : Heap) (CP : Addr) := Kn P w K mg base "parse_difference" 8 1 (fun d : D => [d]) (prs (.ref CP) encF diffIn) Odd
abbrev s48 : Stmt := top 48
theorem sc48 : FnScope ["text", "address", "found", "looks", "one", "sign", "other"] ["text"] (defScope s48) := ⟨rfl, rfl, rfl, by decide +kernel, rfl, by decide +kernel, by decide +kernel⟩
theorem k48 (M : Md K mg CP CI) (F : Df K mg "parse_difference" s48 ["text"]) (k25 : KReq P w K mg base CP) (k34 : KPlIn P w K mg base CP) (k37 : KLkIn P w K mg base CP) : KPDf P w K mg base CP := by
  refine kn_df F sc48 (body := fun a cdv A outer s H E z C hd => ?_)
  rcases hd.split with ⟨z, rfl, ht⟩ | ⟨h1, h2⟩
  · show DSs _ _ _ _ (Post (ofO (.ref CP) encF (diffIn z)))
    have hz : z.length ≤ 16000000 := by have := ht.1; omega
    have t1 := tx_pt (S := [58, 32]) ht
    have t2 := tx_pt (S := [44, 32]) t1.2
    refine dss_cons (ds_expr (dcq (dL z) C k25 (a1 (dv 0)) hd) ?_)
    refine dss_cons (ds_asg (lpart (s := z) (t := [58, 32]) (dv 0) lit hz) (dg_tup C.calm (dgs_cons (gn (i := 1) C.toCp) (dgs_cons (gn (i := 2) C.toCp) (dgs_cons (gn (i := 3) C.toCp) dgs_nil)))) ?_)
    refine dss_cons (ds_asg (lpart (s := (Kd.pt [58, 32] z).2.2) (t := [44, 32]) (dv 3) lit (by have := t1.2.1; omega)) (dg_tup C.calm (dgs_cons (gn (i := 4) C.toCp) (dgs_cons (gn (i := 5) C.toCp) (dgs_cons (gn (i := 6) C.toCp) dgs_nil)))) ?_)
    refine dss_one (ds_retR (de_tup3O (dcq _ C k34 (a1 (dv 1)) t1.1) (dcq _ C k37 (a1 (dv 4)) t2.1) (dcq _ C k37 (a1 (dv 6)) t2.2)) (fun d hd => Eq.trans ?_ hd) fun x hx => Eq.trans ?_ hx)
    all_goals
      unfold diffIn
      cases plainIn (Kd.pt [58, 32] z).1 with
      | none => rfl
      | some a =>
        cases lookIn (Kd.pt [44, 32] (Kd.pt [58, 32] z).2.2).1 with
        | none => rfl
        | some x => cases lookIn (Kd.pt [44, 32] (Kd.pt [58, 32] z).2.2).2.2 <;> rfl
  · exact dss_cons (ds_exprE (dcq z C k25 (a1 (dv 0)) hd (by rw [h1]; rfl)) (h2 _ _ _ _))
/-- format_relation -/
abbrev KFRe (P : Program) (w : World) (K : PySem.W.Frag) (mg : Str → Option Value) (base : Heap) := Kn P w K mg base "format_relation" 4 1 (fun z : List (Nat × Nat) => [encR z]) (fun z => .ok (dL (relText z))) (fun z => okR z ∧ isRel z = true)
abbrev s49 : Stmt := top 49
theorem sc49 : FnScope ["value"] ["value"] (defScope s49) := ⟨rfl, rfl, rfl, by decide +kernel, rfl, by decide +kernel, by decide +kernel⟩
theorem k49 (M : Md K mg CP CI) (F : Df K mg "format_relation" s49 ["value"]) (k46 : KForm P w K mg base CI) (k40 : KRel P w K mg base) (k41 : KReT P w K mg base) : KFRe P w K mg base := by
  refine kn_df F sc49 (body := fun a cdv A outer s H E z C hd => ?_)
  obtain ⟨h1, h2⟩ := hd
  refine dss_cons (ds_expr (dcq true C k46 (a1 (dcq z C k40 (a1 (dv 0)) h1 (by rw [h2]))) trivial) ?_)
  exact dss_one (ds_ret (dcq z C k41 (a1 (dv 0)) h1) rfl)
/-- parse_relation -/
abbrev KPRe (P : Program) (w : World) (K : PySem.W.Frag) (mg : Str → Option Value) (base : Heap) (CP : Addr) := Kn P w K mg base "parse_relation" 5 1 (fun d : D => [d]) (prs (.ref CP) encR relIn) Odd
abbrev s50 : Stmt := top 50
theorem sc50 : FnScope ["text"] ["text"] (defScope s50) := ⟨rfl, rfl, rfl, by decide +kernel, rfl, by decide +kernel, by decide +kernel⟩
theorem k50 (M : Md K mg CP CI) (F : Df K mg "parse_relation" s50 ["text"]) (k43 : KReIn P w K mg base CP) : KPRe P w K mg base CP := by
  refine kn_df F sc50 (body := fun a cdv A outer s H E z C hd => ?_)
  exact dss_one (ds_retR (dcq z C k43 (a1 (dv 0)) hd) (fun d hd => hd) fun x hx => hx)
/-- format_paper -/
abbrev KFPa (P : Program) (w : World) (K : PySem.W.Frag) (mg : Str → Option Value) (base : Heap) := Kn P w K mg base "format_paper" 7 1 (fun z : Paper => [encP z]) (fun z => .ok (dL (paperText z))) (fun z => okP z ∧ isPaper z = true)
abbrev s51 : Stmt := top 51
theorem sc51 : FnScope ["value"] ["value"] (defScope s51) := ⟨rfl, rfl, rfl, by decide +kernel, rfl, by decide +kernel, by decide +kernel⟩
theorem k51 (M : Md K mg CP CI) (F : Df K mg "format_paper" s51 ["value"]) (k46 : KForm P w K mg base CI) (k44 : KPap P w K mg base) (k41 : KReT P w K mg base) (k28 : KAdT P w K mg base) : KFPa P w K mg base := by
  refine kn_df F sc51 (body := fun a cdv A outer s H E z C hd => ?_)
  obtain ⟨h1, h2⟩ := hd
  refine dss_cons (ds_expr (dcq true C k46 (a1 (dcq z C k44 (a1 (dv 0)) h1 (by rw [h2]))) trivial) ?_)
  cases z with
  | alike r =>
    have l1 := relText_len h1
    refine dss_one (ds_ret (ladd (s := [tAlike, [32]].flatten) (t := relText r) (lfstr (ys := [tAlike, [32]]) (.cons (fS (dix (dv 0) de_int) (by decide)) (.cons lit .nil)) (by decide)) (de_if (k := true) (DT.to (lteq (s := tAlike) (dix (dv 0) de_int) (dgL M.alike)) (by decide)) (fun _ => dcq r C k41 (a1 (dix (dv 0) de_int)) h1) fun z => by cases z) (by show 6 + _ ≤ _; omega)) ?_)
    show Except.ok (dL (tAlike ++ ([32] ++ relText r))) = Except.ok (dL ((tAlike ++ ([32] ++ [])) ++ relText r))
    simp
  | unlike b =>
    have l1 := addrText_len h1
    refine dss_one (ds_ret (ladd (s := [tUnlike, [32]].flatten) (t := addrText b) (lfstr (ys := [tUnlike, [32]]) (.cons (fS (dix (dv 0) de_int) (by decide)) (.cons lit .nil)) (by decide)) (de_if (k := false) (DT.to (lteq (s := tUnlike) (dix (dv 0) de_int) (dgL M.alike)) (by decide)) (fun z => by cases z) fun _ => dcq b C k28 (a1 (dix (dv 0) de_int)) h1) (by show 7 + _ ≤ _; omega)) ?_)
    show Except.ok (dL (tUnlike ++ ([32] ++ addrText b))) = Except.ok (dL ((tUnlike ++ ([32] ++ [])) ++ addrText b))
    simp
/-- parse_paper -/
abbrev KPPa (P : Program) (w : World) (K : PySem.W.Frag) (mg : Str → Option Value) (base : Heap) (CP : Addr) := Kn P w K mg base "parse_paper" 7 1 (fun d : D => [d]) (prs (.ref CP) encP paperIn) Odd
abbrev s52 : Stmt := top 52
theorem sc52 : FnScope ["text", "word", "found", "rest"] ["text"] (defScope s52) := ⟨rfl, rfl, rfl, by decide +kernel, rfl, by decide +kernel, by decide +kernel⟩
theorem k52 (M : Md K mg CP CI) (F : Df K mg "parse_paper" s52 ["text"]) (k25 : KReq P w K mg base CP) (k43 : KReIn P w K mg base CP) (k32 : KAdIn P w K mg base CP) : KPPa P w K mg base CP := by
  refine kn_df F sc52 (body := fun a cdv A outer s H E z C hd => ?_)
  rcases hd.split with ⟨z, rfl, ht⟩ | ⟨h1, h2⟩
  · show DSs _ _ _ _ (Post (ofO (.ref CP) encP (paperIn z)))
    have hz : z.length ≤ 16000000 := by have := ht.1; omega
    have t1 := tx_pt (S := [32]) ht
    refine dss_cons (ds_expr (dcq (dL z) C k25 (a1 (dv 0)) hd) ?_)
    refine dss_cons (ds_asg (lpart (s := z) (t := [32]) (dv 0) lit hz) (dg_tup C.calm (dgs_cons (gn (i := 1) C.toCp) (dgs_cons (gn (i := 2) C.toCp) (dgs_cons (gn (i := 3) C.toCp) dgs_nil)))) ?_)
    refine dss_cons (ds_if (lteq (dv 1) (dgL M.alike)) (fun h => ?_) fun h => dss_nil ?_)
    · have h : (Kd.pt [32] z).1 = tAlike := by simpa using h
      refine dss_one (ds_retR (de_tup2O (c := .ref CP) (o1 := some ()) (g1 := fun _ => dL tAlike) (g2 := encR) (o2 := relIn (Kd.pt [32] z).2.2) (dgL M.alike) (dcq (dL (Kd.pt [32] z).2.2) C k43 (a1 (dv 3)) (Odd.ofTx t1.2))) (fun d hd => Eq.trans ?_ hd) fun x hx => Eq.trans ?_ hx)
      all_goals
        unfold paperIn
        rw [if_pos h]
        cases relIn (Kd.pt [32] z).2.2 <;> rfl
    · have h : ¬ (Kd.pt [32] z).1 = tAlike := by simpa using h
      refine dss_cons (ds_if (ltne (dv 1) (dgL M.unlike)) (fun h2 => dss_one (draise C M.pe ?_)) fun h2 => dss_nil ?_)
      · have h2 : ¬ (Kd.pt [32] z).1 = tUnlike := by simpa using h2
        show _ = _
        unfold paperIn
        rw [if_neg h, if_neg h2]
        rfl
      · have h2 : (Kd.pt [32] z).1 = tUnlike := by simpa using h2
        refine dss_one (ds_retR (de_tup2O (c := .ref CP) (o1 := some ()) (g1 := fun _ => dL tUnlike) (g2 := encA) (o2 := addrIn (Kd.pt [32] z).2.2) (dgL M.unlike) (dcq (Kd.pt [32] z).2.2 C k32 (a1 (dv 3)) t1.2)) (fun d hd => Eq.trans ?_ hd) fun x hx => Eq.trans ?_ hx)
        all_goals
          unfold paperIn
          rw [if_neg h, if_pos h2]
          cases addrIn (Kd.pt [32] z).2.2 <;> rfl
  · exact dss_cons (ds_exprE (dcq z C k25 (a1 (dv 0)) hd (by rw [h1]; rfl)) (h2 _ _ _ _))
/-- format_chain -/
abbrev KFCh (P : Program) (w : World) (K : PySem.W.Frag) (mg : Str → Option Value) (base : Heap) := Kn P w K mg base "format_chain" 8 1 (fun z : Chn => [encC z]) (fun z => .ok (dL (chainText z))) (fun z => okC z ∧ isChain z = true)
abbrev s53 : Stmt := top 53
theorem sc53 : FnScope ["value", "piece"] ["value"] (defScope s53) := ⟨rfl, rfl, rfl, by decide +kernel, rfl, by decide +kernel, by decide +kernel⟩
theorem k53 (M : Md K mg CP CI) (F : Df K mg "format_chain" s53 ["value"]) (k46 : KForm P w K mg base CI) (k45 : KChn P w K mg base) (k28 : KAdT P w K mg base) : KFCh P w K mg base := by
  refine kn_df F sc53 (body := fun a cdv A outer s H E z C hd => ?_)
  obtain ⟨hk, h2⟩ := hd
  obtain ⟨h1, h3, h4, h5⟩ := hk
  have l1 := addrText_len h1
  have l2 := joinL_len [44, 32] (z.ps.map addrText)
  have l3 : z.ps.length * ([44, 32] : List Nat).length ≤ 40002 := by show z.ps.length * 2 ≤ _; omega
  have e1 : (z.ps.map addrText).length = z.ps.length := List.length_map _
  rw [e1] at l2
  refine dss_cons (ds_expr (dcq true C k46 (a1 (dcq z C k45 (a1 (dv 0)) ⟨h1, h3, h4, h5⟩ (by rw [h2]))) trivial) ?_)
  refine dss_one (ds_ret (ladd (s := [addrText z.a, [58, 32]].flatten) (t := TL.joinL [44, 32] (z.ps.map addrText)) (lfstr (ys := [addrText z.a, [58, 32]]) (.cons (fS (dcq z.a C k28 (a1 (dix (dv 0) de_int)) h1) (by omega)) (.cons lit .nil)) ?_) (ljoin (lit (l := [44, 32])) (DE.to (dlcP (xs := z.ps) (enc := encA) (g := fun p => dL (addrText p)) C 1 (di_tup (dix (dv 0) de_int)) (by omega) fun s H Cc cl fp xe cp c hc => dcp c cp k28 (a1 (dv 1)) (h4 c hc)) ?_) ?_) ?_) ?_)
  · show (addrText z.a ++ ([58, 32] ++ [])).length ≤ _
    rw [List.append_nil, List.length_append]
    show _ + 2 ≤ _
    omega
  · rw [List.map_map]; rfl
  · show ((z.ps.map addrText).map List.length).sum + (z.ps.map addrText).length * ([44, 32] : List Nat).length ≤ _
    rw [e1]; omega
  · show (addrText z.a ++ ([58, 32] ++ [])).length + _ ≤ _
    rw [List.append_nil, List.length_append]
    show _ + 2 + _ ≤ _
    omega
  · show Except.ok (dL (addrText z.a ++ ([58, 32] ++ TL.joinL [44, 32] (z.ps.map addrText)))) = Except.ok (dL ((addrText z.a ++ ([58, 32] ++ [])) ++ TL.joinL [44, 32] (z.ps.map addrText)))
    simp
/-- parse_chain -/
abbrev KPCh (P : Program) (w : World) (K : PySem.W.Frag) (mg : Str → Option Value) (base : Heap) (CP : Addr) := Kn P w K mg base "parse_chain" 8 1 (fun d : D => [d]) (prs (.ref CP) encC chainIn) Odd
abbrev s54 : Stmt := top 54
theorem sc54 : FnScope ["text", "start", "found", "pieces", "value", "word"] ["text"] (defScope s54) := ⟨rfl, rfl, rfl, by decide +kernel, rfl, by decide +kernel, by decide +kernel⟩
theorem k54 (M : Md K mg CP CI) (F : Df K mg "parse_chain" s54 ["text"]) (k25 : KReq P w K mg base CP) (k34 : KPlIn P w K mg base CP) (k45 : KChn P w K mg base) : KPCh P w K mg base CP := by
  refine kn_df F sc54 (body := fun a cdv A outer s H E z C hd => ?_)
  rcases hd.split with ⟨z, rfl, ht⟩ | ⟨h1, h2⟩
  · show DSs _ _ _ _ (Post (ofO (.ref CP) encC (chainIn z)))
    have hz : z.length ≤ 16000000 := by have := ht.1; omega
    have t1 := tx_pt (S := [58, 32]) ht
    have sl := spl_len [44, 32] (by decide) (by decide) (Kd.pt [58, 32] z).2.2
    have sz := t1.2.1
    refine dss_cons (ds_expr (dcq (dL z) C k25 (a1 (dv 0)) hd) ?_)
    refine dss_cons (ds_asg (lpart (s := z) (t := [58, 32]) (dv 0) lit hz) (dg_tup C.calm (dgs_cons (gn (i := 1) C.toCp) (dgs_cons (gn (i := 2) C.toCp) (dgs_cons (gn (i := 3) C.toCp) dgs_nil)))) ?_)
    refine dss_cons (dsetO (c := .ref CP) (g := encC) (match plainIn (Kd.pt [58, 32] z).1 with | none => none | some a => (mapO plainIn (TL.spl [44, 32] 0 [] (Kd.pt [58, 32] z).2.2)).map fun ps => ⟨a, ps⟩) 4 C.toCp ?_ (fun q => ?_) fun c q => ?_)
    · refine DE.to (de_tup3O (c := .ref CP) (o1 := some ()) (g1 := fun _ => dL tChain) (g2 := encA) (o2 := plainIn (Kd.pt [58, 32] z).1) (g3 := fun ps => .tup (ps.map encA)) (o3 := mapO plainIn (TL.spl [44, 32] 0 [] (Kd.pt [58, 32] z).2.2)) (dgL M.chain) (dcq _ C k34 (a1 (dv 1)) t1.1) (dtupO (c := .ref CP) (g := plainIn) (encB := encA) (xs := TL.spl [44, 32] 0 [] (Kd.pt [58, 32] z).2.2) (enc := dL) C M.tuple 5 (di_list (lsplit (dv 3) (lit (l := [44, 32])) (by omega))) (by omega) fun s H Cc cl fp xe cp c hc => dcp c cp k34 (a1 (dv 5)) ?_)) ?_
      · exact ⟨by have := spl_mem (by decide) (by decide) hc; omega, spl_asc t1.2.2 c hc⟩
      · cases plainIn (Kd.pt [58, 32] z).1 with
        | none => rfl
        | some a => cases mapO plainIn (TL.spl [44, 32] 0 [] (Kd.pt [58, 32] z).2.2) <;> rfl
    · show _ = _
      unfold chainIn
      cases q1 : plainIn (Kd.pt [58, 32] z).1 with
      | none => rfl
      | some a =>
        rw [q1] at q
        cases q2 : mapO plainIn (TL.spl [44, 32] 0 [] (Kd.pt [58, 32] z).2.2) with
        | none => rfl
        | some ps => rw [q2] at q; cases q
    · cases q1 : plainIn (Kd.pt [58, 32] z).1 with
      | none => rw [q1] at q; cases q
      | some a =>
        rw [q1] at q
        cases q2 : mapO plainIn (TL.spl [44, 32] 0 [] (Kd.pt [58, 32] z).2.2) with
        | none => rw [q2] at q; cases q
        | some ps =>
          rw [q2] at q
          cases q
          have m1 := mapO_back (b := addrText) (fun x y hxy => plainIn_text hxy) q2
          obtain ⟨m2, m3⟩ := mapO_spec q2
          have ok : okC ⟨a, ps⟩ := by
            refine ⟨plainIn_ok t1.1.1 q1, by show ps.length ≤ _; omega, fun p hp => ?_, by show ((ps.map addrText).map List.length).sum ≤ _; rw [m1]; omega⟩
            obtain ⟨w, hw, hp2⟩ := m3 p hp
            exact plainIn_ok (by have := spl_mem (by decide) (by decide) hw; omega) hp2
          have e : chainIn z = if isChain ⟨a, ps⟩ = true then some ⟨a, ps⟩ else none := by
            unfold chainIn
            rw [q1, q2]
          refine dss_cons (ds_if (dt_not (dt_val (dcq ⟨a, ps⟩ C k45 (a1 (dv 4)) ok))) (fun h => dss_one (draise C M.pe ?_)) fun h => dss_nil (dss_one (ds_ret (dv 4) ?_)))
          · have h : isChain ⟨a, ps⟩ = false := by simpa using h
            show _ = _
            rw [e, if_neg (by rw [h]; decide)]
            rfl
          · have h : isChain ⟨a, ps⟩ = true := by simpa using h
            show _ = _
            rw [e, if_pos h]
            rfl
  · exact dss_cons (ds_exprE (dcq z C k25 (a1 (dv 0)) hd (by rw [h1]; rfl)) (h2 _ _ _ _))
end
end Kd
set_option Elab.async false
set_option linter.all false
set_option maxRecDepth 100000
set_option maxHeartbeats 2000000
/-! the walk of the law: streams, draws -/
namespace Kd
open PySem PySem.Spec PyProof.Rows L2
variable [LT]
abbrev S3 := Nat × Nat × Nat
def encS (u : S3) : List D := [dIn u.1, dIn u.2.1, dIn u.2.2]
def cellF (z : List Int × Nat) : Int := if z.2 < z.1.length then z.1.getD z.2 0 else 19 * (z.2 : Int) + 5
def streamF (z : List Int × Nat) : S3 := ((cellF z).natAbs % 10 ^ 600 - 10 ^ 18, ((cellF z).natAbs % 10 ^ 600 % 2147483423 * 45121 + 2017 * z.2 + 5 * (if cellF z < 0 then 1 else 0) + 23) % 2147483399, 0)
def mixF (u : S3) : Nat := ((u.2.1 + 1000303 * (u.2.2 + 1)) % 2305843009213693951)
def drawF (u : S3) (h : Nat) : Nat × S3 := if 0 < u.1 then (u.1 % h, (u.1 / h, u.2)) else (((mixF u * mixF u) % 2305843009213693921 * mixF u + 6911 * (u.2.2 + 1)) % 2305843009213693907 / 8192 % h, (u.1, u.2.1, u.2.2 + 1))
theorem draw_lt (u : S3) {h : Nat} (hh : 1 ≤ h) : (drawF u h).1 < h := by
  unfold drawF
  split <;> exact Nat.mod_lt _ hh
section
variable {X : Cx} {E : XK} {k : Nat} {a b c e : Expr} {es : List Expr} {pos p pn : Pos} {ρ ρ1 ρ2 : List Sl} {i j m n : Nat} {x y : Str} {bb : Bool} {ds : List D} {d : D} {R : Out → Prop}
theorem op_powW : OpR X (binaryOp .Pow) (rI (fun i j => 0 ≤ j ∧ (Builtin.Int.intBits i : Int) * j ≤ 2 ^ 27) fun i j => .int (i ^ j.toNat)) := opI fun _ _ _ _ _ _ _ hc q => pow_int hc.1 hc.2 q
theorem dmodN (h : DE X E a ρ (.ok (dIn i)) ρ1) (h2 : DE X E b ρ1 (.ok (dIn m)) ρ2) (hm : 0 < m := by decide) : DE X E (.BinOp a .Mod b pos) ρ (.ok (dIn (i % m))) ρ2 := DE.to (de_op op_mod (op2_I (by omega)) h h2) (by rw [show ((i : Int) % (m : Int)) = ((i % m : Nat) : Int) from (Int.natCast_emod i m).symm])
theorem dmulN (h : DE X E a ρ (.ok (dIn i)) ρ1) (h2 : DE X E b ρ1 (.ok (dIn m)) ρ2) (hm : i < 2 ^ 64 ∨ m < 2 ^ 64) : DE X E (.BinOp a .Mult b pos) ρ (.ok (dIn (i * m))) ρ2 := DE.to (de_op op_mul (op2_I (by
    rcases hm with h | h
    · exact Or.inl ⟨by omega, by omega⟩
    · exact Or.inr ⟨by omega, by omega⟩)) h h2) (by rw [show ((i : Int) * (m : Int)) = ((i * m : Nat) : Int) from (Int.natCast_mul i m).symm])
theorem dfdivN (h : DE X E a ρ (.ok (dIn i)) ρ1) (h2 : DE X E b ρ1 (.ok (dIn m)) ρ2) (h1 : 1 ≤ m) (hm : m < 1073741824) : DE X E (.BinOp a .FloorDiv b pos) ρ (.ok (dIn (i / m))) ρ2 := DE.to (de_op op_fdiv (op2_I ⟨by omega, by omega⟩) h h2) (by rw [show ((i : Int) / (m : Int)) = ((i / m : Nat) : Int) from (Int.natCast_ediv i m).symm])
theorem dixO (i : Nat) {j : Int} (h : ρ[i]? = some (.own bb ds) := by rfl) (hb : DE X E b ρ (.ok (dI j)) ρ) (ha : atI ds j = some d := by rfl) (hN : X.N[i]? = some x := by rfl) (hv : Vis X.env.scope x := by first | exact Or.inl rfl | exact Or.inr (Or.inl rfl) | exact Or.inr (Or.inr rfl)) (hs : PlainIx b := by exact fun _ _ => rfl) (hd : (x == ("__debug__" : Str)) = false := by decide) (hcd : (x == ("__classdict__" : Str)) = false := by decide) :
    DE X E (.Subscript (.Name x pn) b pos) ρ (.ok d) ρ := de_ixOwn hN hv h hb ha hs hd hcd
theorem dabs {i : Int} (hm : X.mg "abs" = none) (h : DE X E a ρ (.ok (dI i)) ρ1) (hg : Gl X "abs" := by rfl) (hs : starEach [a] X.env = (false, eval a X.env) :: starEach [] X.env := by rfl) (hpl : (backTo pos (starEach [] X.env)).any (·.1) = false := by rfl) :
    DE X E (.Call (.Name "abs" p) [a] [] pos) ρ (.ok (dIn i.natAbs)) ρ1 := DE.to (de_callB call_abs cd_abs hg hm (by decide +kernel) (a1 h hs) (by decide) (by decide) hs hpl) (by
      have e : (if i < 0 then -i else i) = (i.natAbs : Int) := by split <;> omega
      rw [e])
theorem dmax2 {i j : Int} (hc : X.calm = true) (hm : X.mg "max" = none) (h : DE X E a ρ (.ok (dI i)) ρ1) (h2 : DE X E b ρ1 (.ok (dI j)) ρ2) (hg : Gl X "max" := by rfl) (hs : starEach [a, b] X.env = (false, eval a X.env) :: starEach [b] X.env := by rfl) (hs2 : starEach [b] X.env = (false, eval b X.env) :: starEach [] X.env := by rfl) (hpl : (backTo pos (starEach [b] X.env)).any (·.1) = false := by rfl) :
    DE X E (.Call (.Name "max" p) [a, b] [] pos) ρ (.ok (dI (if j > i then j else i))) ρ2 := de_callB (call_max2 hc) cd_max2 hg hm (by decide +kernel) (a2 h h2 hs hs2) (by decide) (by decide) hs hpl
theorem dmin2 {i j : Int} (hc : X.calm = true) (hm : X.mg "min" = none) (h : DE X E a ρ (.ok (dI i)) ρ1) (h2 : DE X E b ρ1 (.ok (dI j)) ρ2) (hg : Gl X "min" := by rfl) (hs : starEach [a, b] X.env = (false, eval a X.env) :: starEach [b] X.env := by rfl) (hs2 : starEach [b] X.env = (false, eval b X.env) :: starEach [] X.env := by rfl) (hpl : (backTo pos (starEach [b] X.env)).any (·.1) = false := by rfl) :
    DE X E (.Call (.Name "min" p) [a, b] [] pos) ρ (.ok (dI (if j < i then j else i))) ρ2 := de_callB (call_min2 hc) cd_min2 hg hm (by decide +kernel) (a2 h h2 hs hs2) (by decide) (by decide) hs hpl
theorem dintN {i : Nat} (hm : X.mg "int" = none) (h : DE X E a ρ (.ok (dIn i)) ρ1) (hg : Gl X "int" := by rfl) (hs : starEach [a] X.env = (false, eval a X.env) :: starEach [] X.env := by rfl) (hpl : (backTo pos (starEach [] X.env)).any (·.1) = false := by rfl) :
    DE X E (.Call (.Name "int" p) [a] [] pos) ρ (.ok (dIn i)) ρ1 := dintI hm h hg hs hpl
end
theorem knO_df {P : Program} {w : World} {K : PySem.W.Frag} {mg : Str → Option Value} {base : Heap} {x : Str} {st : Stmt} {N ps : List Str} {k n : Nat} {Z : Type} {enc : Z → List D} {f : Z → List D} {dom : Z → Prop} (F : Df K mg x st ps) (S : FnScope N ps (defScope st)) (hn : ps.length = n := by rfl) (hN : n ≤ N.length := by decide)
    (body : ∀ (a : Addr) (cdv : Value) (A : Around) (outer : List Env) (s : Shared) (H : Hp) (E : XK) (z : Z), Ct (cxOf (L2.CX P w) P w K mg base N x (defScope st) a cdv A outer s H E) E k → dom z →
      DSs (cxOf (L2.CX P w) P w K mg base N x (defScope st) a cdv A outer s H E) E (defBody st) (rho N (enc z)) (PostO (f z))) : KnO P w K mg base x (k + 1) n enc f dom := by
  obtain ⟨a, fd, h1, h2, h3⟩ := F.ex
  exact knO_of h1 h2 h3 S hn hN fun cdv A outer s H E z C _ hd => body a cdv A outer s H E z C hd
theorem knL_df {P : Program} {w : World} {K : PySem.W.Frag} {mg : Str → Option Value} {base : Heap} {x : Str} {st : Stmt} {N ps : List Str} {k n : Nat} {S Z : Type} {enc0 : S → List D} {enc : Z → List D} {f : S → Z → D × S} {dom : S → Z → Prop} (F : Df K mg x st ps) (Sc : FnScope N ps (defScope st)) (hn : ps.length = n + 1 := by rfl) (hN : n + 1 ≤ N.length := by decide)
    (body : ∀ (a : Addr) (cdv : Value) (A : Around) (outer : List Env) (s : Shared) (H : Hp) (E : XK) (u : S) (z : Z), Ct (cxOf (L2.CX P w) P w K mg base N x (defScope st) a cdv A outer s H E) E k → dom u z →
      DSs (cxOf (L2.CX P w) P w K mg base N x (defScope st) a cdv A outer s H E) E (defBody st) (rhoL N (enc0 u) (enc z)) (PostL enc0 (f u z))) : KnL P w K mg base x (k + 1) n enc0 enc f dom := by
  obtain ⟨a, fd, h1, h2, h3⟩ := F.ex
  exact knL_of (p := x) h1 h2 h3 Sc hn hN fun cdv A outer s H E u z C _ hd => body a cdv A outer s H E u z C hd
section
variable {P : Program} {w : World} {K : PySem.W.Frag} {mg : Str → Option Value} {base : Heap} {CP CI : Addr}
/-- _law_stream -/
abbrev KStr (P : Program) (w : World) (K : PySem.W.Frag) (mg : Str → Option Value) (base : Heap) := KnO P w K mg base "_law_stream" 1 2 (fun z : List Int × Nat => [.scr (z.1.map dI), dIn z.2]) (fun z => encS (streamF z)) (fun z => z.2 < 100)
abbrev s56 : Stmt := top 56
theorem sc56 : FnScope ["_law_script", "_law_at", "_law_cell", "_law_great", "_law_mixed"] ["_law_script", "_law_at"] (defScope s56) := ⟨rfl, rfl, rfl, by decide +kernel, rfl, by decide +kernel, by decide +kernel⟩
theorem k56 (M : Md K mg CP CI) (F : Df K mg "_law_stream" s56 ["_law_script", "_law_at"]) : KStr P w K mg base := by
  refine knO_df F sc56 (body := fun a cdv A outer s H E z C hd => ?_)
  have hd : z.2 < 100 := hd
  refine dss_cons (dset (i := 2) (d := dI (19 * (z.2 : Int) + 5)) C.toCp (DE.to (daddN (i := 19 * z.2) (j := 5) (dmulN (i := 19) (m := z.2) de_int (dv 1) (.inl (by decide))) de_int) ?_) ?_)
  · show Except.ok (dI ((19 * z.2 + 5 : Nat) : Int)) = _
    rw [show ((19 * z.2 + 5 : Nat) : Int) = 19 * (z.2 : Int) + 5 by omega]
  refine dss_cons (DS.imp (R := fun o => o = .nx [.dat (.scr (z.1.map dI)), .dat (dIn z.2), .dat (dI (cellF z)), .no, .no]) (ds_if (kb := decide (z.2 < z.1.length)) (DT.to (dt_cmp op_lt (op2_I0 (i := (z.2 : Int)) (j := (z.1.length : Int))) (dv 1) (DE.to (dlenR (ds := z.1.map dI) M.len (dv 0)) (by rw [List.length_map])) (nomark _)) (decide_eq_decide.mpr (by omega))) (fun h => ?_) fun h => dss_nil ?_) fun o ho => ?_)
  · have h : z.2 < z.1.length := of_decide_eq_true h
    have e : cellF z = z.1[z.2] := by
      unfold cellF
      rw [if_pos h]
      exact (List.getElem_eq_getD 0).symm
    refine dss_one (dset (i := 2) (d := dI (cellF z)) C.toCp (de_ix ix_list (op2_ixR (atI_nat (j := z.2) ?_)) (dv 0) (dv 1) (by exact fun _ _ => rfl)) rfl)
    rw [List.getElem?_map, List.getElem?_eq_getElem h, e]
    rfl
  · have h : ¬ z.2 < z.1.length := of_decide_eq_false h
    have e : cellF z = 19 * (z.2 : Int) + 5 := by
      unfold cellF
      rw [if_neg h]
    show _ = _
    rw [e]
    rfl
  · subst ho
    refine dss_cons (dset (i := 3) (d := dIn ((cellF z).natAbs % 10 ^ 600)) C.toCp (dmodN (dintN M.int (dabs M.abs (dv 2))) (DE.to (de_op op_powW (op2_I (i := (10 : Int) ^ (60 : Int).toNat) (j := 10) ?_) (de_op op_pow (op2_I (i := 10) (j := 60) ?_) de_int de_int) de_int) ?_) (Nat.pow_pos (by decide))) ?_)
    · exact ⟨by decide, by decide +kernel⟩
    · exact ⟨by decide, by decide, by decide⟩
    · have e : ((10 : Int) ^ (60 : Int).toNat) ^ (10 : Int).toNat = ((10 ^ 600 : Nat) : Int) := by decide +kernel
      show Except.ok (dI (((10 : Int) ^ (60 : Int).toNat) ^ (10 : Int).toNat)) = Except.ok (dI ((10 ^ 600 : Nat) : Int))
      rw [e]
    generalize hg : (cellF z).natAbs % 10 ^ 600 = g
    refine dss_cons (dset (i := 4) (d := dIn (g % 2147483423 * 45121 + 2017 * z.2 + 5 * (if cellF z < 0 then 1 else 0) + 23)) C.toCp (daddN (j := 23) (daddN (daddN (dmulN (m := 45121) (dmodN (m := 2147483423) (dintN M.int (dv 3)) de_int) de_int (.inr (by decide))) (dmulN (i := 2017) (m := z.2) de_int (dv 1) (.inl (by decide)))) (dmulN (i := 5) (m := if cellF z < 0 then 1 else 0) de_int (DE.to (dintB (i := decide (cellF z < 0)) M.int (de_cmp op_lt op2_I0 (dv 2) de_int (nomark _))) ?_) (.inl (by decide)))) de_int) ?_)
    · by_cases h : cellF z < 0
      · rw [decide_eq_true h, if_pos h]; rfl
      · rw [decide_eq_false h, if_neg h]; rfl
    refine dss_one (ds_retL (ds := [dIn (g - 10 ^ 18), dIn ((g % 2147483423 * 45121 + 2017 * z.2 + 5 * (if cellF z < 0 then 1 else 0) + 23) % 2147483399), dI 0]) (a3 (DE.to (dmax2 (i := 0) (j := (g : Int) - 10 ^ 18) C.calm M.max de_int (DE.to (de_op op_sub op2_I0 (dv 3) (de_op op_pow (op2_I (i := 10) (j := 18) ?_) de_int de_int)) ?_)) ?_) (dmodN (m := 2147483399) (dintN M.int (dv 4)) de_int) de_int) (Nat.le_of_ble_eq_true rfl) ?_)
    · exact ⟨by decide, by decide, by decide⟩
    · rfl
    · exact congrArg (fun x => Except.ok (dI x)) (show (if (g : Int) - 10 ^ 18 > 0 then (g : Int) - 10 ^ 18 else 0) = ((g - 10 ^ 18 : Nat) : Int) by split <;> omega)
    · show _ = _
      unfold encS streamF
      rw [hg]
      rfl
/-- _law_draw -/
abbrev KDraw (P : Program) (w : World) (K : PySem.W.Frag) (mg : Str → Option Value) (base : Heap) := KnL P w K mg base "_law_draw" 1 1 encS (fun h : Nat => [dIn h]) (fun u h => (dIn (drawF u h).1, (drawF u h).2)) (fun _ h => 1 ≤ h ∧ h < 1073741824)
abbrev s57 : Stmt := top 57
theorem sc57 : FnScope ["_law_stream_here", "_law_high", "_law_one", "_law_two", "_law_found"] ["_law_stream_here", "_law_high"] (defScope s57) := ⟨rfl, rfl, rfl, by decide +kernel, rfl, by decide +kernel, by decide +kernel⟩
theorem k57 (M : Md K mg CP CI) (F : Df K mg "_law_draw" s57 ["_law_stream_here", "_law_high"]) : KDraw P w K mg base := by
  refine knL_df F sc57 (body := fun a cdv A outer s H E u h C hd => ?_)
  obtain ⟨s0, s1, s2⟩ := u
  obtain ⟨h1, h2⟩ := hd
  refine dss_cons (ds_if (kb := decide (0 < s0)) (DT.to (dt_cmp op_gt (op2_I0 (i := (s0 : Int)) (j := 0)) (dixO 0 (j := 0) (hb := de_int)) de_int (nomark _)) (decide_eq_decide.mpr (by omega))) (fun hp => ?_) fun hp => dss_nil ?_)
  · have hp : 0 < s0 := of_decide_eq_true hp
    have e : drawF (s0, s1, s2) h = (s0 % h, (s0 / h, s1, s2)) := if_pos hp
    rw [e]
    refine dss_cons (dset (i := 4) C.toCp (dmodN (m := h) (dintN M.int (dixO 0 (j := 0) (hb := de_int))) (dv 1) h1) ?_)
    refine dss_cons (ds_setItem (i := 0) (j := 0) (jj := 0) rfl (.inl rfl) (dfdivN (m := h) (dixO 0 (j := 0) (hb := de_int)) (dv 1) h1 h2) rfl de_int rfl ?_)
    exact dss_one (ds_ret (dv 4) ⟨rfl, rfl⟩)
  · have hp : ¬ 0 < s0 := of_decide_eq_false hp
    have e : drawF (s0, s1, s2) h = (((mixF (s0, s1, s2) * mixF (s0, s1, s2)) % 2305843009213693921 * mixF (s0, s1, s2) + 6911 * (s2 + 1)) % 2305843009213693907 / 8192 % h, (s0, s1, s2 + 1)) := if_neg hp
    rw [e]
    have em : mixF (s0, s1, s2) = (s1 + 1000303 * (s2 + 1)) % 2305843009213693951 := rfl
    have hm : (s1 + 1000303 * (s2 + 1)) % 2305843009213693951 < 2 ^ 64 := Nat.lt_trans (Nat.mod_lt _ (by decide)) (by decide)
    refine dss_cons (ds_setItem (i := 0) (j := 2) (jj := 2) rfl (.inl rfl) (daddN (i := s2) (j := 1) (dixO 0 (j := 2) (hb := de_int)) de_int) rfl de_int rfl ?_)
    refine dss_cons (dset (i := 2) (d := dIn ((s1 + 1000303 * (s2 + 1)) % 2305843009213693951)) C.toCp (dmodN (m := 2305843009213693951) (dintN M.int (daddN (dixO 0 (j := 1) (hb := de_int)) (dmulN (i := 1000303) (m := s2 + 1) de_int (dixO 0 (j := 2) (hb := de_int)) (.inl (by decide))))) de_int) ?_)
    rw [em]
    generalize (s1 + 1000303 * (s2 + 1)) % 2305843009213693951 = g at hm
    refine dss_cons (dset (i := 3) (d := dIn ((g * g) % 2305843009213693921 * g + 6911 * (s2 + 1))) C.toCp (daddN (dmulN (dmodN (m := 2305843009213693921) (dintN M.int (dmulN (i := g) (m := g) (dv 2) (dv 2) (.inl hm))) de_int) (dv 2) (.inr hm)) (dmulN (i := 6911) (m := s2 + 1) de_int (dixO 0 (j := 2) (hb := de_int)) (.inl (by decide)))) ?_)
    refine dss_cons (dset (i := 3) (d := dIn (((g * g) % 2305843009213693921 * g + 6911 * (s2 + 1)) % 2305843009213693907)) C.toCp (dmodN (m := 2305843009213693907) (dintN M.int (dv 3)) de_int) ?_)
    exact dss_one (ds_ret (dmodN (m := h) (dintN M.int (dfdivN (m := 8192) (dv 3) de_int (by decide) (by decide))) (dv 1) h1) ⟨rfl, rfl⟩)
/-- _law_pick -/
def pickF (u : S3) (ds : List D) : D × S3 := ((ds[(drawF u ds.length).1]?).getD dN, (drawF u ds.length).2)
abbrev KPick (P : Program) (w : World) (K : PySem.W.Frag) (mg : Str → Option Value) (base : Heap) := KnL P w K mg base "_law_pick" 2 1 encS (fun ds : List D => [.lst ds]) pickF (fun _ ds => 1 ≤ ds.length ∧ ds.length < 1000)
abbrev s58 : Stmt := top 58
theorem sc58 : FnScope ["_law_stream_here", "_law_items"] ["_law_stream_here", "_law_items"] (defScope s58) := ⟨rfl, rfl, rfl, by decide +kernel, rfl, by decide +kernel, by decide +kernel⟩
theorem k58 (M : Md K mg CP CI) (F : Df K mg "_law_pick" s58 ["_law_stream_here", "_law_items"]) (k57 : KDraw P w K mg base) : KPick P w K mg base := by
  refine knL_df F sc58 (body := fun a cdv A outer s H E u ds C hd => ?_)
  obtain ⟨h1, h2⟩ := hd
  have lt := draw_lt u h1
  refine dss_one (ds_ret (d := (pickF u ds).1) (de_ix ix_list (op2_ixL (atI_nat (j := (drawF u ds.length).1) ?_)) (dv 1) (de_callL (i := 0) u ds.length C.toCp k57 (by decide) rfl rfl (.inl rfl) ⟨_, _, rfl⟩ (a1 (dlenL M.len (dv 1))) rfl rfl ⟨h1, by omega⟩) (by exact fun _ _ => rfl)) ⟨rfl, rfl⟩)
  show ds[(drawF u ds.length).1]? = some ((ds[(drawF u ds.length).1]?).getD dN)
  rw [List.getElem?_eq_getElem lt]
  rfl
end
end Kd
set_option Elab.async false
set_option linter.all false
set_option maxRecDepth 100000
set_option maxHeartbeats 2000000
/-! pairs in order -/
namespace Kd
open PySem PySem.Spec PyProof.Rows L2
variable [LT]
abbrev NP := Nat × Nat
def plt (p q : NP) : Prop := p.1 < q.1 ∨ (p.1 = q.1 ∧ p.2 < q.2)
instance (p q : NP) : Decidable (plt p q) := by unfold plt; infer_instance
theorem plt_trans {p q r : NP} (h : plt p q) (h2 : plt q r) : plt p r := by unfold plt at *; omega
theorem plt_irrefl {p : NP} (h : plt p p) : False := by unfold plt at h; omega
theorem plt_total {p q : NP} (h : p ≠ q) (h2 : ¬ plt p q) : plt q p := by
  have : ¬ (p.1 = q.1 ∧ p.2 = q.2) := fun c => h (Prod.ext c.1 c.2)
  unfold plt at *
  omega
def ins (p : NP) : List NP → List NP
  | [] => [p]
  | q :: r => if p = q then q :: r else if plt p q then p :: q :: r else q :: ins p r
def sortQ (r : List NP) : List NP := r.foldr ins []
theorem mem_ins {x p : NP} : ∀ {l : List NP}, x ∈ ins p l ↔ x = p ∨ x ∈ l
  | [] => by simp [ins]
  | q :: r => by
    rw [ins]
    split
    · rename_i h
      subst h
      simp
    · split
      · simp
      · rw [List.mem_cons, mem_ins, List.mem_cons]
        constructor
        · rintro (h | h | h)
          · exact .inr (.inl h)
          · exact .inl h
          · exact .inr (.inr h)
        · rintro (h | h | h)
          · exact .inr (.inl h)
          · exact .inl h
          · exact .inr (.inr h)
theorem pw_ins {p : NP} : ∀ {l : List NP}, l.Pairwise plt → (ins p l).Pairwise plt
  | [], _ => by simp [ins]
  | q :: r, h => by
    rw [ins]
    split
    · exact h
    · rename_i hne
      obtain ⟨h1, h2⟩ := List.pairwise_cons.mp h
      split
      · rename_i hlt
        refine List.pairwise_cons.mpr ⟨fun x hx => ?_, h⟩
        rcases List.mem_cons.mp hx with rfl | hx
        · exact hlt
        · exact plt_trans hlt (h1 x hx)
      · rename_i hnl
        refine List.pairwise_cons.mpr ⟨fun x hx => ?_, pw_ins h2⟩
        rcases mem_ins.mp hx with rfl | hx
        · exact plt_total hne hnl
        · exact h1 x hx
theorem mem_sortQ {x : NP} : ∀ {r : List NP}, x ∈ sortQ r ↔ x ∈ r
  | [] => by simp [sortQ]
  | p :: r => by
    show x ∈ ins p (sortQ r) ↔ _
    rw [mem_ins, mem_sortQ, List.mem_cons]
theorem pw_sortQ : ∀ r : List NP, (sortQ r).Pairwise plt
  | [] => List.Pairwise.nil
  | p :: r => pw_ins (pw_sortQ r)
theorem pw_uniq : ∀ {l m : List NP}, l.Pairwise plt → m.Pairwise plt → (∀ x, x ∈ l ↔ x ∈ m) → l = m
  | [], [], _, _, _ => rfl
  | [], q :: m, _, _, h => by
    have := (h q).mpr List.mem_cons_self
    cases this
  | p :: l, [], _, _, h => by
    have := (h p).mp List.mem_cons_self
    cases this
  | p :: l, q :: m, hl, hm, h => by
    obtain ⟨l1, l2⟩ := List.pairwise_cons.mp hl
    obtain ⟨m1, m2⟩ := List.pairwise_cons.mp hm
    have e : p = q := by
      by_cases hpq : p = q
      · exact hpq
      · have hp : p ∈ m := by
          rcases List.mem_cons.mp ((h p).mp List.mem_cons_self) with c | c
          · exact absurd c hpq
          · exact c
        have hq : q ∈ l := by
          rcases List.mem_cons.mp ((h q).mpr List.mem_cons_self) with c | c
          · exact absurd c.symm hpq
          · exact c
        exact (plt_irrefl (plt_trans (l1 q hq) (m1 p hp))).elim
    subst e
    rw [pw_uniq l2 m2 fun x => ?_]
    constructor
    · intro hx
      rcases List.mem_cons.mp ((h x).mp (List.mem_cons_of_mem _ hx)) with c | c
      · subst c
        exact (plt_irrefl (l1 _ hx)).elim
      · exact c
    · intro hx
      rcases List.mem_cons.mp ((h x).mpr (List.mem_cons_of_mem _ hx)) with c | c
      · subst c
        exact (plt_irrefl (m1 _ hx)).elim
      · exact c
theorem adj_iff : ∀ r : List NP, adj r = true ↔ r.Pairwise plt
  | [] => by simp [adj]
  | [p] => by simp [adj]
  | p :: q :: r => by
    rw [adj, Bool.and_eq_true, adj_iff (q :: r), List.pairwise_cons (a := p)]
    have e : (decide (p.1 < q.1) || (decide (p.1 = q.1) && decide (p.2 < q.2))) = true ↔ plt p q := by
      unfold plt
      simp
    rw [e]
    constructor
    · rintro ⟨h1, h2⟩
      refine ⟨fun x hx => ?_, h2⟩
      rcases List.mem_cons.mp hx with rfl | hx
      · exact h1
      · exact plt_trans h1 ((List.pairwise_cons.mp h2).1 x hx)
    · rintro ⟨h1, h2⟩
      exact ⟨h1 q List.mem_cons_self, h2⟩
theorem sortQ_fix (r : List NP) : r = sortQ r ↔ adj r = true := by
  rw [adj_iff]
  constructor
  · intro h
    rw [h]
    exact pw_sortQ r
  · intro h
    exact pw_uniq h (pw_sortQ r) fun x => mem_sortQ.symm
end Kd
set_option Elab.async false
set_option linter.all false
set_option maxRecDepth 100000
set_option maxHeartbeats 2000000
/-! the walk of the law: its reader of addresses -/
namespace Kd
open PySem PySem.Spec PyProof.Rows L2
variable [LT]
theorem de_ifS {X : Cx} {E : XK} {a b c : Expr} {ρ : List Sl} {r : Res} {pos : Pos} {k : Bool} (hc : DT X E c ρ (.ok k) ρ) (ha : k = true → DE X E a ρ r ρ) (hb : k = false → DE X E b ρ r ρ) : DE X E (.IfExp c a b pos) ρ r ρ := de_if hc ha hb
def encO {α : Type} (g : α → D) : Option α → D
  | some a => g a
  | none => dN
def lawEl (w : T) : Option AEl := if w ∈ kids then some (.one (PySem.NumText.digitsVal w)) else match numIn (pt [41, 42] (w.drop 1)).2.2 with
  | none => none
  | some n => if w.take 1 ≠ [40] ∨ 10 ^ 30 < n then none else if (TL.spl [46] 0 [] (pt [41, 42] (w.drop 1)).1).filter (fun x => !decide (x ∈ kids)) = [] then some (.rep ((TL.spl [46] 0 [] (pt [41, 42] (w.drop 1)).1).map PySem.NumText.digitsVal) n) else none
def lawAddr (s : T) : Option (List AEl) := if s = [45] then some [] else mapO lawEl (pcs false [] s)
theorem eqD_lstNil {xs : List D} {n : Nat} (h : ∀ d ∈ xs, Pl n d) : eqD (.lst xs) (.lst []) = decide (xs = []) := by
  obtain ⟨p, h1, h2, h3⟩ := (Pl.lst h).py
  unfold eqD pyT
  rw [h1]
  cases xs with
  | nil =>
    have e : p = .list [] := by rw [pyOf, pyOfL] at h1; exact (Option.some.inj h1).symm
    rw [e]
    rfl
  | cons x xs =>
    rw [pyOf, pyOfL] at h1
    obtain ⟨q, g1, _, _⟩ := (h x List.mem_cons_self).py
    obtain ⟨qs, g2, _, _⟩ := pl_list (n := n) (ds := xs) fun d hd => (h d (List.mem_cons_of_mem _ hd)).py
    rw [g1, g2] at h1
    have e : p = .list (q :: qs) := (Option.some.inj h1).symm
    rw [e]
    rfl
theorem mapO_app {α β : Type} {g : α → Option β} : ∀ {xs ys : List α} {acc : List β}, mapO g xs = some acc → mapO g (xs ++ ys) = (mapO g ys).map (acc ++ ·)
  | [], ys, acc, h => by
    cases h
    cases q : mapO g ys <;> simp [q]
  | x :: xs, ys, acc, h => by
    rw [mapO] at h
    rw [List.cons_append, mapO]
    cases q : g x with
    | none => rw [q] at h; cases h
    | some b =>
      rw [q] at h
      cases q2 : mapO g xs with
      | none => rw [q2] at h; cases h
      | some bs =>
        rw [q2] at h
        cases h
        show (match mapO g (xs ++ ys) with | none => none | some bs => some (b :: bs)) = _
        rw [mapO_app q2]
        cases mapO g ys <;> rfl
theorem mapO_take {α β : Type} {g : α → Option β} {xs : List α} {acc : List β} {i : Nat} {x : α} (h : mapO g (xs.take i) = some acc) (hx : xs[i]? = some x) : (∀ y, g x = some y → mapO g (xs.take (i + 1)) = some (acc ++ [y])) ∧ (g x = none → mapO g xs = none) := by
  obtain ⟨hi, e⟩ := List.getElem?_eq_some_iff.mp hx
  refine ⟨fun y hy => ?_, fun hn => ?_⟩
  · rw [List.take_succ, hx]
    show mapO g (xs.take i ++ [x]) = _
    rw [mapO_app h, mapO, hy]
    rfl
  · have e2 : xs = xs.take i ++ (x :: xs.drop (i + 1)) := by rw [← e, List.getElem_cons_drop, List.take_append_drop]
    rw [e2, mapO_app h, mapO, hn]
    rfl
theorem signs_pl {s : T} (h : asc s) (t : Nat → Bool) : ∀ d ∈ (s.filter t).map fun c => dL [c], Pl 0 d := fun d hd => by
  obtain ⟨c, hc, rfl⟩ := List.mem_map.mp hd
  exact .txt fun x hx => by
    rw [List.mem_singleton.mp hx]
    exact h c (List.mem_filter.mp hc).1
theorem filter_nil {s : T} (p : Nat → Bool) : decide ((s.filter fun c => !p c).map (fun c => dL [c]) = []) = s.all p := by
  rw [Bool.eq_iff_iff, decide_eq_true_eq, List.map_eq_nil_iff, List.filter_eq_nil_iff, List.all_eq_true]
  exact ⟨fun h c hc => by have := h c hc; simpa using this, fun h c hc => by rw [h c hc]; decide⟩
theorem elText_ne (e : AEl) : elText e ≠ [] := by
  cases e with
  | one i => exact TL.numL_ne i
  | rep p n => show [40] ++ _ ++ _ ≠ []; simp
section
variable {P : Program} {w : World} {K : PySem.W.Frag} {mg : Str → Option Value} {base : Heap} {CP CI : Addr}
/-- _law_int -/
abbrev LInt (P : Program) (w : World) (K : PySem.W.Frag) (mg : Str → Option Value) (base : Heap) := Kn P w K mg base "_law_int" 1 1 (fun s : T => [dL s]) (fun s => .ok (encO dIn (numIn s))) tx
abbrev s59 : Stmt := top 59
theorem sc59 : FnScope ["_law_text", "_law_sign"] ["_law_text"] (defScope s59) := ⟨rfl, rfl, rfl, by decide +kernel, rfl, by decide +kernel, by decide +kernel⟩
theorem k59 (M : Md K mg CP CI) (F : Df K mg "_law_int" s59 ["_law_text"]) : LInt P w K mg base := by
  refine kn_df F sc59 (body := fun a cdv A outer s H E z C hd => ?_)
  obtain ⟨hd, ha⟩ := hd
  have hz : z.length ≤ 16000000 := by omega
  have i1 : decide (1 ≤ (z.length : Int)) = decide (1 ≤ z.length) := decide_eq_decide.mpr (by omega)
  have i8 : decide ((z.length : Int) ≤ 40) = decide (z.length ≤ 40) := decide_eq_decide.mpr (by omega)
  have go : (!(decide (1 ≤ (z.length : Int)) && decide ((z.length : Int) ≤ 40)) || !z.all fun c => decide (c ∈ figs)) = !numOk z := by
    rw [i1, i8]
    unfold numOk
    generalize (decide (1 ≤ z.length) && decide (z.length ≤ 40)) = b1
    generalize (z.all fun c => decide (c ∈ figs)) = b2
    cases b1 <;> cases b2 <;> rfl
  have pl := signs_pl ha fun c => !decide (c ∈ figs)
  refine dss_cons (ds_if (or2 (dt_not (dt_chain op_le op2_I0 op_le (fun _ => op2_I0) de_int (llen M.len (dv 0) hz) de_int)) fun _ => DT.to (tneP (m := 1) (n := 1) C.toCp (dlcF (xs := z) (enc := fun c => dL [c]) (g := fun c => dL [c]) (t := fun c => !decide (c ∈ figs)) C 1 (di_txt (dv 0)) hz (fun s H Cc cl fp xe cp c hc => tninC (dv 1) (lit (l := figs))) fun s H Cc cl fp xe cp c hc => dv 1) (de_lst da_nil (by decide)) (.lst pl) (.lst fun d hd => by cases hd)) (by rw [eqD_lstNil pl, filter_nil])) (fun h => dss_one (ds_ret de_non ?_)) fun h => dss_nil ?_)
  · show _ = _
    rw [go] at h
    have e : numIn z = none := by
      unfold numIn
      rw [if_neg fun c => by rw [c.1] at h; cases h]
    rw [e]
    rfl
  · rw [go] at h
    have ok : numOk z = true := by cases q : numOk z <;> rw [q] at h <;> simp at h ⊢
    obtain ⟨g1, g2, g3⟩ := numOk_spec ok
    obtain ⟨c, r, rfl⟩ : ∃ c r, z = c :: r := by
      cases z with
      | nil => cases g1
      | cons c r => exact ⟨c, r, rfl⟩
    refine dss_one (ds_ret (ρ1 := rho ["_law_text", "_law_sign"] [dL (c :: r)]) (de_if (ρ1 := rho ["_law_text", "_law_sign"] [dL (c :: r)]) (or2 (lteq (dv 0) (lit (l := [48]))) fun _ => ltne (lix (i := 0) (dv 0) de_int hz rfl) (lit (l := [48]))) (fun h => ?_) fun h => ?_) rfl)
    · have e : numIn (c :: r) = some (PySem.NumText.digitsVal (c :: r)) := by
        unfold numIn
        refine if_pos ⟨ok, fun g => ?_⟩
        rw [List.head?_cons] at g
        cases g
        by_cases h2 : (48 :: r : T) = [48]
        · exact h2
        · rw [decide_eq_false h2, decide_eq_true rfl] at h
          cases h
      rw [e]
      exact lint M.int (dv 0) g3 (by simp) (by omega)
    · rw [Bool.or_eq_false_iff, decide_eq_false_iff_not, Bool.not_eq_false', decide_eq_true_eq] at h
      have e : numIn (c :: r) = none := by
        unfold numIn
        rw [if_neg fun g => h.1 (g.2 (by rw [List.head?_cons]; exact congrArg some (by simpa using h.2)))]
      rw [e]
      exact de_non
/-- _law_is_name -/
abbrev LName (P : Program) (w : World) (K : PySem.W.Frag) (mg : Str → Option Value) (base : Heap) := Kn P w K mg base "_law_is_name" 1 1 (fun s : T => [dL s]) (fun s => .ok (dB (isName s))) tx
abbrev s60 : Stmt := top 60
theorem sc60 : FnScope ["_law_text", "_law_sign"] ["_law_text"] (defScope s60) := ⟨rfl, rfl, rfl, by decide +kernel, rfl, by decide +kernel, by decide +kernel⟩
def abc : T := [97, 98, 99, 100, 101, 102, 103, 104, 105, 106, 107, 108, 109, 110, 111, 112, 113, 114, 115, 116, 117, 118, 119, 120, 121, 122]
theorem abc_iff {c : Nat} : decide (c ∈ abc) = (decide (97 ≤ c) && decide (c ≤ 122)) := by
  rw [Bool.eq_iff_iff, Bool.and_eq_true, decide_eq_true_eq, decide_eq_true_eq, decide_eq_true_eq]
  unfold abc
  simp only [List.mem_cons, List.not_mem_nil, or_false]
  omega
theorem k60 (M : Md K mg CP CI) (F : Df K mg "_law_is_name" s60 ["_law_text"]) : LName P w K mg base := by
  refine kn_df F sc60 (body := fun a cdv A outer s H E z C hd => ?_)
  obtain ⟨hd, ha⟩ := hd
  have hz : z.length ≤ 16000000 := by omega
  have i1 : decide (1 ≤ (z.length : Int)) = decide (1 ≤ z.length) := decide_eq_decide.mpr (by omega)
  have i8 : decide ((z.length : Int) ≤ 8) = decide (z.length ≤ 8) := decide_eq_decide.mpr (by omega)
  have pl := signs_pl ha fun c => !decide (c ∈ abc)
  have ab : (z.all fun c => decide (c ∈ abc)) = z.all fun c => decide (97 ≤ c) && decide (c ≤ 122) := by
    congr 1
    funext c
    exact abc_iff
  refine dss_cons (ds_if (or2 (dt_not (dt_chain op_le op2_I0 op_le (fun _ => op2_I0) de_int (llen M.len (dv 0) hz) de_int)) fun _ => ltin (ls := [tFun, tLet, tIn]) (dv 0) (de_tup (a3 lit lit lit) (Nat.le_of_ble_eq_true rfl))) (fun h => dss_one (ds_ret de_bl ?_)) fun h => dss_nil ?_)
  · show _ = _
    have e : isName z = false := by
      rw [i1, i8] at h
      unfold isName
      revert h
      generalize decide (1 ≤ z.length) = b1
      generalize decide (z.length ≤ 8) = b2
      generalize decide (z ∈ [tFun, tLet, tIn]) = b3
      cases b1 <;> cases b2 <;> cases b3 <;> simp
    rw [e]
  · refine dss_one (ds_ret (DE.to (deqP (m := 1) (n := 1) C.toCp (dlcF (xs := z) (enc := fun c => dL [c]) (g := fun c => dL [c]) (t := fun c => !decide (c ∈ abc)) C 1 (di_txt (dv 0)) hz (fun s H Cc cl fp xe cp c hc => tninC (dv 1) (lit (l := abc))) fun s H Cc cl fp xe cp c hc => dv 1) (de_lst da_nil (by decide)) (.lst pl) (.lst fun d hd => by cases hd)) (by rw [eqD_lstNil pl, filter_nil, ab])) ?_)
    show _ = _
    rw [i1, i8] at h
    unfold isName
    revert h
    generalize decide (1 ≤ z.length) = b1
    generalize decide (z.length ≤ 8) = b2
    generalize decide (z ∈ [tFun, tLet, tIn]) = b3
    cases b1 <;> cases b2 <;> cases b3 <;> simp
/-- _law_address_text -/
abbrev LAdT (P : Program) (w : World) (K : PySem.W.Frag) (mg : Str → Option Value) (base : Heap) := Kn P w K mg base "_law_address_text" 1 1 (fun e : List AEl => [encA e]) (fun e => .ok (dL (addrText e))) (fun a => okA a ∧ asc (addrText a))
abbrev s61 : Stmt := top 61
theorem sc61 : FnScope ["_law_address_here", "_law_found", "_law_element", "_law_one"] ["_law_address_here"] (defScope s61) := ⟨rfl, rfl, rfl, by decide +kernel, rfl, by decide +kernel, by decide +kernel⟩
theorem digits_asc {s : T} (h : PySem.NumText.AllDigits s) : asc s := fun c hc => by have := h c hc; omega
theorem num_asc (n : Nat) : asc (TL.numL n) := digits_asc (TL.numL_digits n)
theorem asc_app {s t : T} (h : asc s) (h2 : asc t) : asc (s ++ t) := fun c hc => by
  rcases List.mem_append.mp hc with hc | hc
  · exact h c hc
  · exact h2 c hc
theorem asc_join {S : T} (hS : asc S) : ∀ {ys : List T}, (∀ y ∈ ys, asc y) → asc (TL.joinL S ys)
  | [], _ => fun c hc => by cases hc
  | [p], h => h p List.mem_cons_self
  | p :: q :: r, h => asc_app (h p List.mem_cons_self) (asc_app hS (asc_join hS fun y hy => h y (List.mem_cons_of_mem _ hy)))
theorem el_asc (e : AEl) : asc (elText e) := by
  cases e with
  | one i => exact num_asc i
  | rep p n => exact asc_app (asc_app asc_lit (asc_join asc_lit fun y hy => by
      obtain ⟨i, _, rfl⟩ := List.mem_map.mp hy
      exact num_asc i)) (asc_app asc_lit (num_asc n))
theorem addr_asc (a : List AEl) : asc (addrText a) := by
  unfold addrText orNo
  split
  · exact asc_lit
  · exact asc_join asc_lit fun y hy => by
      obtain ⟨i, _, rfl⟩ := List.mem_map.mp hy
      exact el_asc i
theorem k61 (M : Md K mg CP CI) (F : Df K mg "_law_address_text" s61 ["_law_address_here"]) : LAdT P w K mg base := by
  refine kn_df F sc61 (body := fun a cdv A outer s H E z C hd => ?_)
  obtain ⟨⟨h1, h2, h3⟩, _⟩ := hd
  have h3 : ((z.map elText).map List.length).sum ≤ 100000 := h3
  refine dss_cons (ds_setOwn (i := 1) C.nd rfl (.inl rfl) da_nil (by decide) (Nat.le_of_ble_eq_true rfl) ?_)
  refine dss_cons (ds_for (ds := z.map encE) C.po C.calm (di_tup (dv 0)) (fun i ρ => ∃ d2, ρ = [.dat (encA z), .own false (((z.map elText).take i).map dL), d2, .no]) ⟨.no, rfl⟩ (fun i ρ d hI hdi => ?_) fun ρ hI => ?_)
  · obtain ⟨d2, rfl⟩ := hI
    rw [List.getElem?_map] at hdi
    cases hp : z[i]? with
    | none => rw [hp] at hdi; cases hdi
    | some e =>
      rw [hp] at hdi
      cases hdi
      refine ⟨_, gn (i := 2) C.toCp, ?_⟩
      have tk : ((z.map elText).take i).map dL ++ [dL (elText e)] = ((z.map elText).take (i + 1)).map dL := by
        rw [List.take_succ, List.getElem?_map, hp, List.map_append]
        rfl
      have hle : (((z.map elText).take i).map dL).length ≤ 16000000 := by rw [List.length_map, List.length_take, List.length_map]; omega
      have he := h2 e (List.mem_of_getElem? hp)
      cases e with
      | one j => exact dss_one (ds_if (kb := false) (dt_val (disi M.isi M.tuple bt_tuple (dv 2) rfl kit_it)) (fun z => by cases z) fun _ => dss_one (ds_app (i := 1) (b2 := false) rfl (.inl rfl) rfl (lstr M.str (dv 2) he) rfl hle ⟨_, by rw [← tk]; rfl⟩))
      | rep p n =>
        obtain ⟨g1, g2, g3⟩ := he
        have l1 := nums_len g2
        have l2 := joinL_len1 46 (p.map TL.numL)
        rw [List.length_map] at l2
        have l3 := TL.numL_len (by decide) g3
        have e1 : (p.map TL.numL).length = p.length := List.length_map _
        refine dss_one (ds_if (kb := true) (dt_val (disi M.isi M.tuple bt_tuple (dv 2) rfl kit_tt)) (fun _ => dss_one (ds_app (i := 1) (b2 := false) rfl (.inl rfl) rfl (ladd (s := [40] ++ TL.joinL [46] (p.map TL.numL) ++ [41, 42]) (t := TL.numL n) (ladd (s := [40] ++ TL.joinL [46] (p.map TL.numL)) (ladd (lit (l := [40])) (ljoin (lit (l := [46])) (DE.to (dlcP (xs := p) (enc := dIn) (g := fun i => dL (TL.numL i)) C 3 (di_tup (dix (dv 2) de_int)) (by omega) fun s H Cc cl fp xe cp c hc => lstr M.str (dv 3) (g2 c hc)) ?_) ?_) ?_) (lit (l := [41, 42])) ?_) (lstr M.str (dix (dv 2) de_int) g3) ?_) rfl hle ⟨.dat (encE (.rep p n)), ?_⟩)) fun z => by cases z)
        · rw [List.map_map]; rfl
        · show ((p.map TL.numL).map List.length).sum + (p.map TL.numL).length * 1 ≤ _
          rw [e1]; omega
        · show 1 + (TL.joinL [46] (p.map TL.numL)).length ≤ _
          omega
        · show ([40] ++ TL.joinL [46] (p.map TL.numL)).length + 2 ≤ _
          rw [List.length_append]
          show 1 + _ + 2 ≤ _
          omega
        · rw [List.length_append, List.length_append]
          show 1 + _ + 2 + _ ≤ _
          omega
        · rw [← tk]
          show _ = [Sl.dat (encA z), Sl.own false (List.map dL (List.take i (List.map elText z)) ++ [dL ([40] ++ TL.joinL [46] (p.map TL.numL) ++ ([41, 42] ++ TL.numL n))]), _, Sl.no]
          rw [← List.append_assoc]
          rfl
  · obtain ⟨d2, rfl⟩ := hI
    rw [List.length_map, List.take_of_length_le (by rw [List.length_map]; exact Nat.le_refl _)]
    refine dss_freeze (i := 1) rfl ?_
    have pl : ∀ d ∈ (z.map elText).map dL, Pl 0 d := fun d hd => by
      obtain ⟨t, ht, rfl⟩ := List.mem_map.mp hd
      obtain ⟨e, _, rfl⟩ := List.mem_map.mp ht
      exact .txt (el_asc e)
    refine dss_one (ds_ret (d := dL (addrText z)) (de_ifS (k := !decide (z = [])) (DT.to (tneP (m := 1) (n := 1) C.toCp (dv 1) (de_lst da_nil (by decide)) (.lst pl) (.lst fun d hd => by cases hd)) ?_) (fun h => ?_) fun h => ?_) rfl)
    · rw [eqD_lstNil pl]
      cases z <;> rfl
    · have h : z ≠ [] := by simpa using h
      have l2 := joinL_len1 46 (z.map elText)
      have e1 : (z.map elText).length = z.length := List.length_map _
      rw [e1] at l2
      refine DE.to (ljoin (lit (l := [46])) (dv 1) ?_) ?_
      · show ((z.map elText).map List.length).sum + (z.map elText).length * 1 ≤ _
        rw [e1]; omega
      · unfold addrText orNo
        rw [if_neg]
        cases z with
        | nil => exact absurd rfl h
        | cons e r =>
          rw [List.map_cons]
          cases r with
          | nil => exact elText_ne e
          | cons f r =>
            rw [List.map_cons, joinL_cons (by simp)]
            simp
    · have h : z = [] := by simpa using h
      subst h
      exact lit (l := [45])
end
end Kd
set_option Elab.async false
set_option linter.all false
set_option maxRecDepth 100000
set_option maxHeartbeats 2000000
/-! the walk of the law: pieces, the reader of addresses -/
namespace Kd
open PySem PySem.Spec PyProof.Rows L2
variable [LT]
section
variable {X : Cx} {E : XK} {a : Expr} {pos : Pos} {ρ ρ1 : List Sl} {i : Int}
theorem dneg (h : DE X E a ρ (.ok (dI i)) ρ1) : DE X E (.UnaryOp .USub a pos) ρ (.ok (dI (-i))) ρ1 := PE.wk (pe_un un_neg h) fun σ H Q ⟨en, F, w, k, _⟩ => ⟨en, F, w, fun d hd v F1 H1 w1 s1 i1 => by
  cases hd
  cases i1
  exact ⟨i, rfl, k _ rfl _ F1 H1 w1 s1 (.v _)⟩, fun _ z => nomatch z⟩
end
theorem ixN_last (n : Nat) : ixN (n + 1) (-1) = some n := by
  unfold ixN
  rw [if_neg (by decide), if_pos (by omega)]
  congr 1
  omega
theorem atI_last {α : Type} (xs : List α) (x : α) : atI (xs ++ [x]) (-1) = some x := by
  unfold atI
  rw [List.length_append]
  show (ixN (xs.length + 1) (-1)).bind _ = _
  rw [ixN_last]
  simp
section
variable {P : Program} {w : World} {K : PySem.W.Frag} {mg : Str → Option Value} {base : Heap} {CP CI : Addr}
/-- _law_pieces -/
abbrev LPcs (P : Program) (w : World) (K : PySem.W.Frag) (mg : Str → Option Value) (base : Heap) := Kn P w K mg base "_law_pieces" 1 1 (fun s : T => [dL s]) (fun s => .ok (.lst ((pcs false [] s).map dL))) tx
abbrev s62 : Stmt := top 62
theorem sc62 : FnScope ["_law_text", "_law_found", "_law_is_in", "_law_sign"] ["_law_text"] (defScope s62) := ⟨rfl, rfl, rfl, by decide +kernel, rfl, by decide +kernel, by decide +kernel⟩
theorem k62 (M : Md K mg CP CI) (F : Df K mg "_law_pieces" s62 ["_law_text"]) : LPcs P w K mg base := by
  refine kn_df F sc62 (body := fun a cdv A outer s H E z C hd => ?_)
  obtain ⟨hd, ha⟩ := hd
  refine dss_cons (ds_parLC (i := 1) (j := 2) (v2 := .bl false) C.calm C.nd rfl rfl (by decide) rfl rfl (a1 (lit (l := []))) (by decide) pe_bl (Nat.le_of_ble_eq_true rfl) (Nat.le_of_ble_eq_true rfl) ?_ rfl)
  refine dss_cons (ds_for (ds := z.map fun c => dL [c]) C.po C.calm (di_txt (dv 0)) (fun i ρ => ∃ fs acc o d3, ρ = [.dat (dL z), .own false (fs.map dL ++ [dL acc]), .dat (dB o), d3] ∧ fs.length ≤ i ∧ acc.length ≤ i ∧ fs ++ pcs o acc (z.drop i) = pcs false [] z) ⟨[], [], false, .no, rfl, Nat.le_refl _, Nat.le_refl _, rfl⟩ (fun i ρ d hI hdi => ?_) fun ρ hI => ?_)
  · obtain ⟨fs, acc, o, d3, rfl, hf, hacc, he⟩ := hI
    rw [List.getElem?_map] at hdi
    cases hc : z[i]? with
    | none => rw [hc] at hdi; cases hdi
    | some c =>
      rw [hc] at hdi
      cases hdi
      have hil : i < z.length := (List.getElem?_eq_some_iff.mp hc).1
      rw [drop_cons hc, pcs] at he
      refine ⟨_, gn (i := 3) C.toCp, ?_⟩
      generalize ho : (decide (([c] : T) = [40]) || (o && !decide (([c] : T) = [41]))) = o'
      have e1 : decide (([c] : T) = [40]) = decide (c = 40) := decide_eq_decide.mpr (by simp)
      have e2 : decide (([c] : T) = [41]) = decide (c = 41) := decide_eq_decide.mpr (by simp)
      have e3 : decide (([c] : T) = [46]) = decide (c = 46) := decide_eq_decide.mpr (by simp)
      refine dss_cons (dset (i := 2) (d := dB o') C.toCp (DE.to (vor2 (leq (dv 3) (lit (l := [40]))) fun _ => vand2 (dv 2) fun _ => lne (dv 3) (lit (l := [41]))) (by rw [ho])) ?_)
      rw [e1, e2] at ho
      refine dss_one (ds_if (kb := decide (c = 46) && !o') (and2 (DT.to (lteq (dv 3) (lit (l := [46]))) e3) fun _ => dt_not (dt_val (dv 2))) (fun h => dss_one (ds_app (i := 1) (b2 := false) rfl (.inl rfl) rfl (lit (l := [])) rfl (by rw [List.length_append, List.length_map]; show fs.length + 1 ≤ _; omega) ?_)) fun h => dss_one (ds_setItem (i := 1) (j := -1) (jj := fs.length) rfl (.inl rfl) (ladd (s := acc) (t := [c]) (dixO 1 (hb := dneg de_int) (ha := atI_last _ _)) (dv 3) (by show acc.length + 1 ≤ _; omega)) rfl (dneg de_int) (by rw [List.length_append, List.length_map]; exact ixN_last _) ?_))
      · have hh : c = 46 ∧ o' = false := by simpa using h
        clear h
        obtain ⟨hh1, hh2⟩ := hh
        subst hh1
        rw [hh2] at ho
        have ho : o = false := by simpa using ho
        rw [if_neg (by decide), if_pos ⟨rfl, ho⟩] at he
        refine ⟨fs ++ [acc], [], o', _, by rw [List.map_append]; rfl, by rw [List.length_append]; show fs.length + 1 ≤ _; omega, Nat.zero_le _, ?_⟩
        rw [List.append_assoc, hh2]
        rw [ho] at he
        exact he
      · refine ⟨fs, acc ++ [c], o', .dat (dL [c]), ?_, by omega, by rw [List.length_append]; show acc.length + 1 ≤ _; omega, ?_⟩
        · have e4 : (fs.map dL ++ [dL acc]).set fs.length (dL (acc ++ [c])) = fs.map dL ++ [dL (acc ++ [c])] := by
            have := List.set_append_right (s := fs.map dL) (t := [dL acc]) fs.length (dL (acc ++ [c])) (by rw [List.length_map]; exact Nat.le_refl _)
            rw [this, List.length_map, Nat.sub_self]
            rfl
          show [_, Sl.own false ((fs.map dL ++ [dL acc]).set fs.length (dL (acc ++ [c]))), _, _] = _
          rw [e4]
        · by_cases h1 : c = 40 ∨ c = 41
          · rw [if_pos h1] at he
            have : o' = decide (c = 40) := by
              rw [← ho]
              rcases h1 with rfl | rfl
              · rfl
              · cases o <;> rfl
            rw [this]
            exact he
          · rw [if_neg h1] at he
            have h40 : c ≠ 40 := fun q => h1 (.inl q)
            have h41 : c ≠ 41 := fun q => h1 (.inr q)
            have : o' = o := by
              rw [← ho, decide_eq_false h40, decide_eq_false h41]
              cases o <;> rfl
            rw [this] at h ⊢
            rw [if_neg (fun q => by rw [q.1, q.2] at h; cases h)] at he
            exact he
  · obtain ⟨fs, acc, o, d3, rfl, hf, hacc, he⟩ := hI
    rw [List.length_map] at he
    rw [List.drop_length, pcs] at he
    refine dss_one (ds_retOwn (i := 1) rfl (.inl rfl) rfl ?_)
    show _ = _
    rw [← he, List.map_append]
    rfl
/-- _law_read_address -/
abbrev LAddr (P : Program) (w : World) (K : PySem.W.Frag) (mg : Str → Option Value) (base : Heap) := Kn P w K mg base "_law_read_address" 2 1 (fun s : T => [dL s]) (fun s => .ok (encO encA (lawAddr s))) tx
abbrev s63 : Stmt := top 63
theorem sc63 : FnScope ["_law_text", "_law_found", "_law_piece", "_law_row", "_law_sign", "_law_ending", "_law_steps_here", "_law_times", "_law_one"] ["_law_text"] (defScope s63) := ⟨rfl, rfl, rfl, by decide +kernel, rfl, by decide +kernel, by decide +kernel⟩
theorem pcs_sub : ∀ (s : T) (o : Bool) (acc w : T), w ∈ pcs o acc s → ∀ c ∈ w, c ∈ acc ∨ c ∈ s
  | [], o, acc, w, h, c, hc => by
    rw [pcs] at h
    rw [List.mem_singleton.mp h] at hc
    exact .inl hc
  | d :: r, o, acc, w, h, c, hc => by
    have key : ∀ o' , w ∈ pcs o' (acc ++ [d]) r → c ∈ acc ∨ c ∈ d :: r := fun o' h => by
      rcases pcs_sub r o' (acc ++ [d]) w h c hc with h | h
      · rcases List.mem_append.mp h with h | h
        · exact .inl h
        · exact .inr (by rw [List.mem_singleton.mp h]; exact List.mem_cons_self)
      · exact .inr (List.mem_cons_of_mem _ h)
    rw [pcs] at h
    split at h
    · exact key _ h
    · split at h
      · rcases List.mem_cons.mp h with rfl | h
        · exact .inl hc
        · rcases pcs_sub r o [] w h c hc with h | h
          · cases h
          · exact .inr (List.mem_cons_of_mem _ h)
      · exact key _ h
theorem pcs_tx {s w : T} (hs : tx s) (h : w ∈ pcs false [] s) : tx w := ⟨pcs_mem h hs.1, fun c hc => by
  rcases pcs_sub s false [] w h c hc with h | h
  · cases h
  · exact hs.2 c h⟩
theorem filter_nilL {s : List T} (p : T → Bool) : decide ((s.filter p).map dL = []) = decide (s.filter p = []) := by
  rw [decide_eq_decide, List.map_eq_nil_iff]
theorem k63 (M : Md K mg CP CI) (F : Df K mg "_law_read_address" s63 ["_law_text"]) (k62 : LPcs P w K mg base) (k59 : LInt P w K mg base) : LAddr P w K mg base := by
  refine kn_df F sc63 (body := fun a cdv A outer s H E z C hd => ?_)
  generalize hws : (if z = [45] then [] else pcs false [] z) = ws
  have lw : lawAddr z = mapO lawEl ws := by
    unfold lawAddr
    rw [← hws]
    split <;> rfl
  have wtx : ∀ w ∈ ws, tx w := fun w hw => by
    rw [← hws] at hw
    split at hw
    · cases hw
    · exact pcs_tx hd hw
  have wlen : ws.length ≤ 20001 := by
    rw [← hws]
    split
    · decide
    · have := (pcs_len z false []).2
      have := hd.1
      omega
  refine dss_cons (ds_setOwn (i := 1) C.nd rfl (.inl rfl) da_nil (by decide) (Nat.le_of_ble_eq_true rfl) ?_)
  refine dss_cons (ds_for (ds := ws.map dL) C.po C.calm (di_list (de_ifS (k := !decide (z = [45])) (ltne (dv 0) (lit (l := [45]))) (fun h => ?_) fun h => ?_)) (fun i ρ => ∃ acc d2 d3 d4 d5 d6 d7, ρ = [.dat (dL z), .own false (acc.map encE), d2, d3, d4, d5, d6, d7, .no] ∧ mapO lawEl (ws.take i) = some acc) ⟨[], .no, .no, .no, .no, .no, .no, rfl, rfl⟩ (fun i ρ d hI hdi => ?_) fun ρ hI => ?_)
  · have h : ¬ z = [45] := by simpa using h
    rw [if_neg h] at hws
    rw [← hws]
    exact dcq z C k62 (a1 (dv 0)) hd
  · have h : z = [45] := by simpa using h
    rw [if_pos h] at hws
    rw [← hws]
    exact de_lst da_nil (by decide)
  · obtain ⟨acc, d2, d3, d4, d5, d6, d7, rfl, hm⟩ := hI
    rw [List.getElem?_map] at hdi
    cases hp : ws[i]? with
    | none => rw [hp] at hdi; cases hdi
    | some w0 =>
      rw [hp] at hdi
      cases hdi
      obtain ⟨t1, t2⟩ := mapO_take hm hp
      have hw0 := wtx w0 (List.mem_of_getElem? hp)
      have ha := (mapO_spec hm).1
      have hal : (acc.map encE).length ≤ 16000000 := by rw [List.length_map, ← ha, List.length_take]; omega
      refine ⟨_, gn (i := 2) C.toCp, ?_⟩
      refine dss_one (ds_if (ltin (ls := kids) (dv 2) (de_tup (a3 lit lit lit) (Nat.le_of_ble_eq_true rfl))) (fun h => ?_) fun h => ?_)
      · have h : w0 ∈ kids := by simpa using h
        obtain ⟨g1, g2, g3⟩ := kid_digits h
        refine dss_one (ds_app (i := 1) (b2 := false) rfl (.inl rfl) rfl (lint M.int (dv 2) g1 g2 g3) rfl hal ⟨acc ++ [.one (PySem.NumText.digitsVal w0)], _, _, _, _, _, _, by rw [List.map_append]; rfl, t1 _ ?_⟩)
        unfold lawEl
        rw [if_pos h]
      · have h : ¬ w0 ∈ kids := by simpa using h
        have dt : tx (w0.drop 1) := tx_drop hw0
        have pt2 := tx_pt (S := [41, 42]) dt
        have e0 : lawEl w0 = (match numIn (Kd.pt [41, 42] (w0.drop 1)).2.2 with
            | none => none
            | some n => if w0.take 1 ≠ [40] ∨ 10 ^ 30 < n then none else if (TL.spl [46] 0 [] (Kd.pt [41, 42] (w0.drop 1)).1).filter (fun x => !decide (x ∈ kids)) = [] then some (.rep ((TL.spl [46] 0 [] (Kd.pt [41, 42] (w0.drop 1)).1).map PySem.NumText.digitsVal) n) else none) := by
          unfold lawEl
          rw [if_neg h]
          all_goals rfl
        have hz0 : w0.length ≤ 16000000 := by have := hw0.1; omega
        have bad : lawEl w0 = none → Except.ok (encO encA (lawAddr z)) = (.ok dN : Res) := fun hb => by rw [lw, t2 hb]; rfl
        refine dss_cons (ds_asg (lpart (s := w0.drop 1) (t := [41, 42]) (lfrom (i := 1) (dv 2) de_int hz0) lit (by have := dt.1; omega)) (dg_tup C.calm (dgs_cons (gn (i := 3) C.toCp) (dgs_cons (gn (i := 4) C.toCp) (dgs_cons (gn (i := 5) C.toCp) dgs_nil)))) ?_)
        refine dss_cons (ds_par (i := 6) (j := 7) C.calm C.nd rfl rfl (by decide) rfl rfl (a2 (lsplit (s := (Kd.pt [41, 42] (w0.drop 1)).1) (t := [46]) (dv 3) lit (by have := pt2.1.1; omega)) (dcq (Kd.pt [41, 42] (w0.drop 1)).2.2 C k59 (a1 (dv 5)) pt2.2)) (Nat.le_of_ble_eq_true rfl) (Nat.le_of_ble_eq_true rfl) ?_ rfl)
        generalize hT : TL.spl [46] 0 [] (Kd.pt [41, 42] (w0.drop 1)).1 = st at e0
        generalize hq : numIn (Kd.pt [41, 42] (w0.drop 1)).2.2 = q at e0
        cases q with
        | none =>
          refine dss_cons (ds_if (kb := true) (DT.to (or3 (k2 := true) (k3 := true) (ltne (s := w0.take 1) (t := [40]) (lupto (i := 1) (dv 2) de_int hz0) lit) (fun _ => tisN (u := .non) (dv 7)) fun _ z => by cases z) (Bool.or_true _)) (fun _ => dss_one (ds_ret de_non ?_)) fun z => by cases z)
          exact bad e0
        | some n =>
          have e0 : lawEl w0 = if w0.take 1 ≠ [40] ∨ 10 ^ 30 < n then none else if st.filter (fun x => !decide (x ∈ kids)) = [] then some (.rep (st.map PySem.NumText.digitsVal) n) else none := e0
          refine dss_cons (ds_if (kb := !decide (w0.take 1 = [40]) || decide (10 ^ 30 < n)) (DT.to (or3 (k2 := false) (k3 := decide (10 ^ 30 < n)) (ltne (s := w0.take 1) (t := [40]) (lupto (i := 1) (dv 2) de_int hz0) lit) (fun _ => DT.to (tisN (u := .int n) (dv 7)) rfl) fun _ _ => DT.to (dt_cmp op_gt (op2_I0 (i := (n : Int)) (j := (10 : Int) ^ (30 : Int).toNat)) (dv 7) (de_op op_pow (op2_I (i := 10) (j := 30) ⟨by decide, by decide, by decide⟩) de_int de_int) (nomark _)) ?_) (by rw [Bool.false_or])) (fun h2 => dss_one (ds_ret de_non (bad ?_))) fun h2 => dss_nil ?_)
          · refine decide_eq_decide.mpr ?_
            have : ((10 : Int) ^ (30 : Int).toNat) = ((10 ^ 30 : Nat) : Int) := by decide +kernel
            rw [this]
            omega
          · rw [Bool.or_eq_true, Bool.not_eq_true', decide_eq_false_iff_not, decide_eq_true_eq] at h2
            rw [e0, if_pos h2]
          · have h2 : ¬ (w0.take 1 ≠ [40] ∨ 10 ^ 30 < n) := fun c => by
              have : (!decide (w0.take 1 = [40]) || decide (10 ^ 30 < n)) = true := by rw [Bool.or_eq_true, Bool.not_eq_true', decide_eq_false_iff_not, decide_eq_true_eq]; exact c
              rw [this] at h2
              cases h2
            rw [if_neg h2] at e0
            have sa : ∀ x ∈ st, asc x := fun x hx => by rw [← hT] at hx; exact spl_asc pt2.1.2 x hx
            have sl : st.length ≤ 16000000 := by
              have := spl_len [46] (by decide) (by decide) (Kd.pt [41, 42] (w0.drop 1)).1
              rw [hT] at this
              have := pt2.1.1
              omega
            have pl : ∀ d ∈ (st.filter fun x => !decide (x ∈ kids)).map dL, Pl 0 d := fun d hd => by
              obtain ⟨t, ht, rfl⟩ := List.mem_map.mp hd
              exact .txt (sa t (List.mem_filter.mp ht).1)
            refine dss_cons (ds_if (kb := !decide (st.filter (fun x => !decide (x ∈ kids)) = [])) (DT.to (tneP (m := 1) (n := 1) C.toCp (dlcF (xs := st) (enc := dL) (g := dL) (t := fun x => !decide (x ∈ kids)) C 8 (di_list (dv 6)) sl (fun s H Cc cl fp xe cp c hc => ltnin (ls := kids) (dv 8) (de_tup (a3 lit lit lit) (Nat.le_of_ble_eq_true rfl))) fun s H Cc cl fp xe cp c hc => dv 8) (de_lst da_nil (by decide)) (.lst pl) (.lst fun d hd => by cases hd)) (by rw [eqD_lstNil pl, filter_nilL])) (fun h3 => dss_one (ds_ret de_non (bad ?_))) fun h3 => dss_nil ?_)
            · have h3 : ¬ st.filter (fun x => !decide (x ∈ kids)) = [] := by simpa using h3
              rw [e0, if_neg h3]
            · have h3 : st.filter (fun x => !decide (x ∈ kids)) = [] := by simpa using h3
              rw [if_pos h3] at e0
              have allk : ∀ x ∈ st, x ∈ kids := fun x hx => by
                have := List.filter_eq_nil_iff.mp h3 x hx
                simpa using this
              refine dss_one (ds_app (i := 1) (b2 := false) rfl (.inl rfl) rfl (de_tup (a2 (dtupL M.tuple (dlcP (xs := st) (enc := dL) (g := fun x => dIn (PySem.NumText.digitsVal x)) C 8 (di_list (dv 6)) sl fun s H Cc cl fp xe cp c hc => lint M.int (dv 8) (kid_digits (allk c hc)).1 (kid_digits (allk c hc)).2.1 (kid_digits (allk c hc)).2.2)) (dv 7)) (Nat.le_of_ble_eq_true rfl)) rfl hal ⟨acc ++ [.rep (st.map PySem.NumText.digitsVal) n], .dat (dL w0), .dat (dL (Kd.pt [41, 42] (w0.drop 1)).1), .dat (dL (Kd.pt [41, 42] (w0.drop 1)).2.1), .dat (dL (Kd.pt [41, 42] (w0.drop 1)).2.2), .dat (.lst (st.map dL)), .dat (dIn n), ?_, t1 _ e0⟩)
              rw [List.map_append]
              show _ = [_, Sl.own false (acc.map encE ++ [.tup [.tup ((st.map PySem.NumText.digitsVal).map dIn), dIn n]]), _, _, _, _, _, _, _]
              rw [List.map_map]
              rfl
  · obtain ⟨acc, d2, d3, d4, d5, d6, d7, rfl, hm⟩ := hI
    rw [List.length_map, List.take_length] at hm
    refine dss_freeze (i := 1) rfl ?_
    refine dss_one (ds_ret (dtupL M.tuple (dv 1)) ?_)
    show _ = _
    rw [lw, hm]
    rfl
end
end Kd
set_option Elab.async false
set_option linter.all false
set_option maxRecDepth 100000
set_option maxHeartbeats 2000000
/-! the walk of the law: its other readers -/
namespace Kd
open PySem PySem.Spec PyProof.Rows L2
variable [LT]
def kids4 : List T := [[48], [49], [50], [51]]
def lawLook (s : T) : Option Look := if s = tFun then some .fn else if s.take 4 = tVar ++ [32] then (match numIn (s.drop 4) with
    | none => none
    | some n => if 0 < n then some (.var n) else none) else if isName (pt [47] s).1 = true ∧ (pt [47] s).2.2 ∈ kids4 then some (.word (pt [47] s).1 (PySem.NumText.digitsVal (pt [47] s).2.2)) else none
def lawPlain (s : T) : Option (List AEl) := match lawAddr s with
  | none => none
  | some a => if a.all isOne = true then some a else none
def mk3 : Option (List AEl) → Option Look → Option Look → Option Diff
  | some a, some x, some y => some ⟨a, x, y⟩
  | _, _, _ => none
def lawDiff (s : T) : Option Diff := mk3 (lawPlain (pt [58, 32] s).1) (lawLook (pt [44, 32] (pt [58, 32] s).2.2).1) (lawLook (pt [44, 32] (pt [58, 32] s).2.2).2.2)
theorem mk3_enc (o1 : Option (List AEl)) (o2 o3 : Option Look) : encO encF (mk3 o1 o2 o3) = if (isNonD (encO encA o1) || (isNonD (encO encK o2) || isNonD (encO encK o3))) = true then dN else .tup [encO encA o1, encO encK o2, encO encK o3] := by
  have hk : ∀ x : Look, isNonD (encK x) = false := fun x => by cases x <;> rfl
  cases o1 with
  | none => rfl
  | some a =>
    cases o2 with
    | none => rfl
    | some x =>
      cases o3 with
      | none =>
        have e : (isNonD (encO encA (some a)) || (isNonD (encO encK (some x)) || isNonD (encO encK (none : Option Look)))) = true := by
          show (_ || (_ || true)) = true
          rw [Bool.or_true, Bool.or_true]
        rw [if_pos e]
        rfl
      | some y =>
        have e : (isNonD (encO encA (some a)) || (isNonD (encO encK (some x)) || isNonD (encO encK (some y)))) = false := by
          show (false || (isNonD (encK x) || isNonD (encK y))) = false
          rw [hk, hk]
          rfl
        rw [e]
        rfl
def lawChain (s : T) : Option Chn := match lawPlain (pt [58, 32] s).1 with
  | none => none
  | some a => match mapO lawPlain (TL.spl [44, 32] 0 [] (pt [58, 32] s).2.2) with
    | none => none
    | some ps => if ps.all (fun p => !decide (p = [])) = true then some ⟨a, ps⟩ else none
theorem kid4_digits {s : T} (h : s ∈ kids4) : PySem.NumText.AllDigits s ∧ s ≠ [] ∧ s.length ≤ 640 := by
  have : s = [48] ∨ s = [49] ∨ s = [50] ∨ s = [51] := by unfold kids4 at h; simpa using h
  rcases this with rfl | rfl | rfl | rfl <;> exact ⟨fun c hc => by simp at hc; omega, by simp, by decide⟩
theorem encO_pl {α : Type} {g : α → D} {n : Nat} (h : ∀ a, Pl n (g a)) : ∀ o : Option α, Pl n (encO g o)
  | none => .non
  | some a => h a
section
variable {X : Cx} {E : XK} {a b c d e : Expr} {pos : Pos} {ρ : List Sl}
theorem a4 {d1 d2 d3 d4 : D} {ρ1 ρ2 ρ3 ρ4 : List Sl} (h : DE X E a ρ (.ok d1) ρ1) (h2 : DE X E b ρ1 (.ok d2) ρ2) (h3 : DE X E c ρ2 (.ok d3) ρ3) (h4 : DE X E d ρ3 (.ok d4) ρ4) (hs : starEach [a, b, c, d] X.env = (false, eval a X.env) :: starEach [b, c, d] X.env := by rfl) (hs2 : starEach [b, c, d] X.env = (false, eval b X.env) :: starEach [c, d] X.env := by rfl) (hs3 : starEach [c, d] X.env = (false, eval c X.env) :: starEach [d] X.env := by rfl) (hs4 : starEach [d] X.env = (false, eval d X.env) :: starEach [] X.env := by rfl) : DA X E [a, b, c, d] ρ (.ok [d1, d2, d3, d4]) ρ4 :=
  da_cons h (da_cons h2 (da_cons h3 (da_cons h4 da_nil hs4) hs3) hs2) hs
end
section
variable {P : Program} {w : World} {K : PySem.W.Frag} {mg : Str → Option Value} {base : Heap} {CP CI : Addr}
/-- _law_look_text -/
abbrev LLkT (P : Program) (w : World) (K : PySem.W.Frag) (mg : Str → Option Value) (base : Heap) := Kn P w K mg base "_law_look_text" 1 1 (fun z : Look => [encK z]) (fun z => .ok (dL (lookText z))) okK
abbrev s69 : Stmt := top 69
theorem sc69 : FnScope ["_law_look_here"] ["_law_look_here"] (defScope s69) := ⟨rfl, rfl, rfl, by decide +kernel, rfl, by decide +kernel, by decide +kernel⟩
theorem k69 (M : Md K mg CP CI) (F : Df K mg "_law_look_text" s69 ["_law_look_here"]) : LLkT P w K mg base := by
  refine kn_df F sc69 (body := fun a cdv A outer s H E z C hd => ?_)
  cases z with
  | word s n =>
    obtain ⟨h1, h2, h3⟩ := hd
    have l3 := TL.numL_len (by decide) h3
    refine dss_cons (ds_if (kb := true) (DT.to (lteq (s := tWord) (dix (dv 0) de_int) (lit (l := tWord))) (decide_eq_true rfl)) (fun _ => dss_one (ds_ret (ladd (s := s ++ [47]) (t := TL.numL n) (ladd (s := s) (t := [47]) (dix (dv 0) de_int) lit (by show s.length + 1 ≤ _; omega)) (lstr M.str (dix (dv 0) de_int) h3) (by rw [List.length_append]; show s.length + 1 + _ ≤ _; omega)) ?_)) fun z => by cases z)
    show Except.ok (dL (s ++ ([47] ++ TL.numL n))) = Except.ok (dL ((s ++ [47]) ++ TL.numL n))
    rw [List.append_assoc]
  | fn =>
    refine dss_cons (ds_if (kb := false) (DT.to (lteq (s := tFun) (dix (dv 0) de_int) (lit (l := tWord))) (by decide)) (fun z => by cases z) fun _ => dss_nil ?_)
    exact dss_one (ds_ret (de_ifS (k := true) (DT.to (lteq (s := tFun) (dix (dv 0) de_int) (lit (l := tFun))) (by decide)) (fun _ => lit (l := tFun)) fun z => by cases z) rfl)
  | var n =>
    have l3 := TL.numL_len (by decide) hd
    refine dss_cons (ds_if (kb := false) (DT.to (lteq (s := tVar) (dix (dv 0) de_int) (lit (l := tWord))) (by decide)) (fun z => by cases z) fun _ => dss_nil ?_)
    refine dss_one (ds_ret (de_ifS (k := false) (DT.to (lteq (s := tVar) (dix (dv 0) de_int) (lit (l := tFun))) (by decide)) (fun z => by cases z) fun _ => ladd (s := tVar ++ [32]) (t := TL.numL n) (lit (l := tVar ++ [32])) (lstr M.str (dix (dv 0) de_int) hd) (by show 4 + _ ≤ _; omega)) ?_)
    show Except.ok (dL (tVar ++ ([32] ++ TL.numL n))) = Except.ok (dL ((tVar ++ [32]) ++ TL.numL n))
    rw [List.append_assoc]
/-- _law_read_look -/
abbrev LLook (P : Program) (w : World) (K : PySem.W.Frag) (mg : Str → Option Value) (base : Heap) := Kn P w K mg base "_law_read_look" 2 1 (fun s : T => [dL s]) (fun s => .ok (encO encK (lawLook s))) tx
abbrev s70 : Stmt := top 70
theorem sc70 : FnScope ["_law_text", "_law_token", "_law_sign", "_law_ending", "_law_up"] ["_law_text"] (defScope s70) := ⟨rfl, rfl, rfl, by decide +kernel, rfl, by decide +kernel, by decide +kernel⟩
theorem k70 (M : Md K mg CP CI) (F : Df K mg "_law_read_look" s70 ["_law_text"]) (k59 : LInt P w K mg base) (k60 : LName P w K mg base) : LLook P w K mg base := by
  refine kn_df F sc70 (body := fun a cdv A outer s H E z C hd => ?_)
  have hz : z.length ≤ 16000000 := by have := hd.1; omega
  refine dss_cons (ds_if (lteq (dv 0) (lit (l := tFun))) (fun h => dss_one (ds_ret (de_tup (a1 (lit (l := tFun))) (Nat.le_of_ble_eq_true rfl)) ?_)) fun h => dss_nil ?_)
  · have h : z = tFun := by simpa using h
    subst h
    rfl
  have h : ¬ z = tFun := by simpa using h
  refine dss_cons (ds_if (kb := decide (z.take 4 = tVar ++ [32])) (lteq (s := z.take 4) (lupto (i := 4) (dv 0) de_int hz) (lit (l := tVar ++ [32]))) (fun h2 => ?_) fun h2 => dss_nil ?_)
  · have h2 : z.take 4 = tVar ++ [32] := of_decide_eq_true h2
    have e : lawLook z = (match numIn (z.drop 4) with
      | none => none
      | some n => if 0 < n then some (.var n) else none) := by unfold lawLook; rw [if_neg h, if_pos h2]
    refine dss_cons (dset (i := 4) C.toCp (dcq (z.drop 4) C k59 (a1 (lfrom (i := 4) (dv 0) de_int hz)) (tx_drop hd)) ?_)
    generalize numIn (z.drop 4) = q at e
    cases q with
    | none =>
      refine dss_one (ds_ret (de_ifS (k := false) (DT.to (and2 (k1 := false) (k2 := false) (DT.to (tnotN (u := .non) (dv 4)) rfl) fun z => by cases z) rfl) (fun z => by cases z) fun _ => de_non) ?_)
      show _ = _
      rw [e]
      rfl
    | some n =>
      refine dss_one (ds_ret (d := encO encK (lawLook z)) (de_ifS (k := decide (0 < n)) (DT.to (and2 (k1 := true) (k2 := decide (0 < n)) (DT.to (tnotN (u := .int n) (dv 4)) rfl) fun _ => DT.to (dt_cmp op_gt (op2_I0 (i := (n : Int)) (j := 0)) (dv 4) de_int (nomark _)) (decide_eq_decide.mpr (by omega))) (Bool.true_and _)) (fun h3 => ?_) fun h3 => ?_) rfl)
      · have h3 : 0 < n := of_decide_eq_true h3
        have e : lawLook z = if 0 < n then some (.var n) else none := e
        rw [e, if_pos h3]
        exact de_tup (a2 (lit (l := tVar)) (dv 4)) (Nat.le_of_ble_eq_true rfl)
      · have h3 : ¬ 0 < n := of_decide_eq_false h3
        have e : lawLook z = if 0 < n then some (.var n) else none := e
        rw [e, if_neg h3]
        exact de_non
  · have h2 : ¬ z.take 4 = tVar ++ [32] := of_decide_eq_false h2
    have p2 := tx_pt (S := [47]) hd
    have e : lawLook z = if isName (Kd.pt [47] z).1 = true ∧ (Kd.pt [47] z).2.2 ∈ kids4 then some (.word (Kd.pt [47] z).1 (PySem.NumText.digitsVal (Kd.pt [47] z).2.2)) else none := by unfold lawLook; rw [if_neg h, if_neg h2]
    refine dss_cons (ds_asg (lpart (s := z) (t := [47]) (dv 0) lit hz) (dg_tup C.calm (dgs_cons (gn (i := 1) C.toCp) (dgs_cons (gn (i := 2) C.toCp) (dgs_cons (gn (i := 3) C.toCp) dgs_nil)))) ?_)
    refine dss_one (ds_ret (d := encO encK (lawLook z)) (de_ifS (k := isName (Kd.pt [47] z).1 && decide ((Kd.pt [47] z).2.2 ∈ kids4)) (and2 (dt_val (dcq (Kd.pt [47] z).1 C k60 (a1 (dv 1)) p2.1)) fun _ => ltin (ls := kids4) (dv 3) (de_tup (a4 lit lit lit lit) (Nat.le_of_ble_eq_true rfl))) (fun h3 => ?_) fun h3 => ?_) rfl)
    · have h3 : isName (Kd.pt [47] z).1 = true ∧ (Kd.pt [47] z).2.2 ∈ kids4 := by simpa using h3
      rw [e, if_pos h3]
      obtain ⟨g1, g2, g3⟩ := kid4_digits h3.2
      exact de_tup (a3 (lit (l := tWord)) (dv 1) (lint M.int (dv 3) g1 g2 g3)) (Nat.le_of_ble_eq_true rfl)
    · rw [e, if_neg fun c => by rw [c.1, decide_eq_true c.2] at h3; cases h3]
      exact de_non
/-- _law_read_plain -/
abbrev LPlain (P : Program) (w : World) (K : PySem.W.Frag) (mg : Str → Option Value) (base : Heap) := Kn P w K mg base "_law_read_plain" 3 1 (fun s : T => [dL s]) (fun s => .ok (encO encA (lawPlain s))) tx
abbrev s71 : Stmt := top 71
theorem sc71 : FnScope ["_law_text", "_law_found", "_law_one"] ["_law_text"] (defScope s71) := ⟨rfl, rfl, rfl, by decide +kernel, rfl, by decide +kernel, by decide +kernel⟩
theorem lawAddr_len {s : T} {a : List AEl} (hs : tx s) (h : lawAddr s = some a) : a.length ≤ 20001 := by
  unfold lawAddr at h
  split at h
  · cases h; decide
  · have m1 := (mapO_spec h).1
    have := (pcs_len s false []).2
    have := hs.1
    omega
theorem one_filter (a : List AEl) : decide ((a.filter fun e => !isOne e).map encE = []) = a.all isOne := by
  rw [Bool.eq_iff_iff, decide_eq_true_eq, List.map_eq_nil_iff, List.filter_eq_nil_iff, List.all_eq_true]
  exact ⟨fun h c hc => by have := h c hc; simpa using this, fun h c hc => by rw [h c hc]; decide⟩
theorem k71 (M : Md K mg CP CI) (F : Df K mg "_law_read_plain" s71 ["_law_text"]) (k63 : LAddr P w K mg base) : LPlain P w K mg base := by
  refine kn_df F sc71 (body := fun a cdv A outer s H E z C hd => ?_)
  refine dss_cons (dset (i := 1) C.toCp (dcq z C k63 (a1 (dv 0)) hd) ?_)
  cases q : lawAddr z with
  | none =>
    have e : lawPlain z = none := by unfold lawPlain; rw [q]
    refine dss_one (ds_ret (d := encO encA (lawPlain z)) (de_ifS (k := false) (and2 (k1 := false) (k2 := false) (tnotD (d := dN) (dv 1)) fun z => by cases z) (fun z => by cases z) fun _ => ?_) rfl)
    rw [e]
    exact de_non
  | some a =>
    have e : lawPlain z = if a.all isOne = true then some a else none := by unfold lawPlain; rw [q]
    have al := lawAddr_len hd q
    have pl : ∀ d ∈ (a.filter fun e => !isOne e).map encE, Pl 2 d := fun d hd => by
      obtain ⟨t, _, rfl⟩ := List.mem_map.mp hd
      exact plE t
    refine dss_one (ds_ret (d := encO encA (lawPlain z)) (de_ifS (k := a.all isOne) (DT.to (and2 (k1 := true) (k2 := a.all isOne) (tnotD (d := encA a) (dv 1)) fun _ => DT.to (teqP (m := 3) (n := 1) C.toCp (dlcF (xs := a) (enc := encE) (g := encE) (t := fun e => !isOne e) C 2 (di_tup (dv 1)) (by omega) (fun s H Cc cl fp xe cp c hc => ?_) fun s H Cc cl fp xe cp c hc => dv 2) (de_lst da_nil (by decide)) (.lst pl) (.lst fun d hd => by cases hd)) (by rw [eqD_lstNil pl, one_filter])) (Bool.true_and _)) (fun h => ?_) fun h => ?_) rfl)
    · cases c with
      | one i => exact dt_val (disi M.isi M.tuple bt_tuple (dv 2) rfl kit_it)
      | rep p n => exact dt_val (disi M.isi M.tuple bt_tuple (dv 2) rfl kit_tt)
    · rw [e, if_pos h]
      exact dv 1
    · rw [e, if_neg (by rw [h]; decide)]
      exact de_non
/-- _law_read_difference -/
abbrev LDiff (P : Program) (w : World) (K : PySem.W.Frag) (mg : Str → Option Value) (base : Heap) := Kn P w K mg base "_law_read_difference" 4 1 (fun s : T => [dL s]) (fun s => .ok (encO encF (lawDiff s))) tx
abbrev s72 : Stmt := top 72
theorem sc72 : FnScope ["_law_text", "_law_steps_here", "_law_sign", "_law_rest", "_law_one", "_law_other", "_law_found"] ["_law_text"] (defScope s72) := ⟨rfl, rfl, rfl, by decide +kernel, rfl, by decide +kernel, by decide +kernel⟩
theorem eqD_non {d : D} {n : Nat} (h : Pl n d) : eqD d dN = isNonD d := by
  obtain ⟨p, h1, _, _⟩ := h.py
  unfold eqD pyT
  rw [h1]
  cases d with
  | v x => cases x <;> first | cases h1; rfl | cases h1
  | tup ds =>
    rw [pyOf] at h1
    cases q : pyOfL ds with
    | none => rw [q] at h1; cases h1
    | some ps => rw [q] at h1; cases h1; rfl
  | lst ds =>
    rw [pyOf] at h1
    cases q : pyOfL ds with
    | none => rw [q] at h1; cases h1
    | some ps => rw [q] at h1; cases h1; rfl
  | scr ds => cases h1
  | emp => cases h1
theorem lawLook_asc {s : T} {l : Look} (hs : tx s) (h : lawLook s = some l) : ascK l := by
  unfold lawLook at h
  split at h
  · cases h; trivial
  · split at h
    · split at h
      · cases h
      · split at h
        · cases h; trivial
        · cases h
    · split at h
      · cases h
        exact (pt_asc hs.2).1
      · cases h
theorem k72 (M : Md K mg CP CI) (F : Df K mg "_law_read_difference" s72 ["_law_text"]) (k71 : LPlain P w K mg base) (k70 : LLook P w K mg base) : LDiff P w K mg base := by
  refine kn_df F sc72 (body := fun a cdv A outer s H E z C hd => ?_)
  have hz : z.length ≤ 16000000 := by have := hd.1; omega
  have t1 := tx_pt (S := [58, 32]) hd
  have t2 := tx_pt (S := [44, 32]) t1.2
  refine dss_cons (ds_asg (lpart (s := z) (t := [58, 32]) (dv 0) lit hz) (dg_tup C.calm (dgs_cons (gn (i := 1) C.toCp) (dgs_cons (gn (i := 2) C.toCp) (dgs_cons (gn (i := 3) C.toCp) dgs_nil)))) ?_)
  refine dss_cons (ds_asg (lpart (s := (Kd.pt [58, 32] z).2.2) (t := [44, 32]) (dv 3) lit (by have := t1.2.1; omega)) (dg_tup C.calm (dgs_cons (gn (i := 4) C.toCp) (dgs_cons (gn (i := 2) C.toCp) (dgs_cons (gn (i := 5) C.toCp) dgs_nil)))) ?_)
  refine dss_cons (dset (i := 6) C.toCp (de_tup (a3 (dcq (Kd.pt [58, 32] z).1 C k71 (a1 (dv 1)) t1.1) (dcq (Kd.pt [44, 32] (Kd.pt [58, 32] z).2.2).1 C k70 (a1 (dv 4)) t2.1) (dcq (Kd.pt [44, 32] (Kd.pt [58, 32] z).2.2).2.2 C k70 (a1 (dv 5)) t2.2)) (Nat.le_of_ble_eq_true rfl)) ?_)
  have p1 : Pl 3 (encO encA (lawPlain (Kd.pt [58, 32] z).1)) := encO_pl plA _
  have lk : ∀ {s : T}, tx s → Pl 3 (encO encK (lawLook s)) := fun {s} hs => by
    cases q : lawLook s with
    | none => exact .non
    | some l =>
      have := plK (lawLook_asc hs q)
      show Pl 3 (encK l)
      cases l with
      | word s n => exact .tup fun d hd => by
                      simp only [List.mem_cons, List.not_mem_nil, or_false] at hd
                      rcases hd with rfl | rfl | rfl
                      · exact .txt asc_lit
                      · exact .txt (lawLook_asc hs q)
                      · exact .int
      | fn => exact .tup fun d hd => by
                      simp only [List.mem_cons, List.not_mem_nil, or_false] at hd
                      subst hd
                      exact .txt asc_lit
      | var n => exact .tup fun d hd => by
                      simp only [List.mem_cons, List.not_mem_nil, or_false] at hd
                      rcases hd with rfl | rfl
                      · exact .txt asc_lit
                      · exact .int
  have p2 := lk t2.1
  have p3 := lk t2.2
  unfold lawDiff
  generalize lawPlain (Kd.pt [58, 32] z).1 = o1 at p1
  generalize lawLook (Kd.pt [44, 32] (Kd.pt [58, 32] z).2.2).1 = o2 at p2
  generalize lawLook (Kd.pt [44, 32] (Kd.pt [58, 32] z).2.2).2.2 = o3 at p3
  have pa : ∀ x ∈ [encO encA o1, encO encK o2, encO encK o3], Pl 3 x := fun x hx => by
    simp only [List.mem_cons, List.not_mem_nil, or_false] at hx
    rcases hx with rfl | rfl | rfl
    · exact p1
    · exact p2
    · exact p3
  have ev : ([encO encA o1, encO encK o2, encO encK o3].any fun z => eqD z dN) = (isNonD (encO encA o1) || (isNonD (encO encK o2) || isNonD (encO encK o3))) := by
    rw [List.any_cons, List.any_cons, List.any_cons, List.any_nil, eqD_non p1, eqD_non p2, eqD_non p3, Bool.or_false]
  refine dss_one (ds_ret (de_ifS (k := isNonD (encO encA o1) || (isNonD (encO encK o2) || isNonD (encO encK o3))) (DT.to (tinPT (m := 0) (n := 3) C.toCp de_non (dv 6) .non pa) ev) (fun h => ?_) fun h => ?_) rfl)
  · rw [mk3_enc, if_pos h]
    exact de_non
  · rw [mk3_enc, if_neg (by rw [h]; decide)]
    exact dv 6
end
end Kd
set_option Elab.async false
set_option linter.all false
set_option maxRecDepth 100000
set_option maxHeartbeats 2000000
/-! the walk of the law: its reader of relations -/
namespace Kd
open PySem PySem.Spec PyProof.Rows L2
variable [LT]
theorem refs_of {K : PySem.W.Frag} {F : Hp} : ∀ {r : List NP} {vs : List V}, IsL K F vs (r.map encQ) → ∃ ks : List (Addr × List Int), vs = ks.map (fun p => V.ref p.1) ∧ ks.map (·.2) = r.map (fun p => [(p.1 : Int), (p.2 : Int)]) ∧ ∀ p ∈ ks, SqT K F p.1 (p.2.map V.int)
  | [], _, .nil => ⟨[], rfl, rfl, fun p hp => by cases hp⟩
  | p :: r, _, .cons (v := v) (vs := vs) h l => by
    obtain ⟨ks, e1, e2, e3⟩ := refs_of l
    cases h with
    | @tup a xs _ ht il =>
      have e : xs = [V.int p.1, V.int p.2] := IsL.vs (xs := [V.int p.1, V.int p.2]) il
      subst e
      refine ⟨(a, [(p.1 : Int), (p.2 : Int)]) :: ks, by rw [e1]; rfl, by rw [List.map_cons, List.map_cons, e2], fun q hq => ?_⟩
      rcases List.mem_cons.mp hq with rfl | hq
      · exact ht
      · exact e3 q hq
def pr (p : NP) : List Int := [(p.1 : Int), (p.2 : Int)]
theorem pr_inj {p q : NP} (h : pr p = pr q) : p = q := by
  unfold pr at h
  injection h with h1 h2
  injection h2 with h2 _
  exact Prod.ext (by omega) (by omega)
theorem code_pr (p : NP) : TS.code 100 (pr p) = (p.1 : Int) * 100 + p.2 := by
  have e1 : (100 : Int) ^ 1 = 100 := by decide
  have e0 : (100 : Int) ^ 0 = 1 := by decide
  show (p.1 : Int) * 100 ^ 1 + ((p.2 : Int) * 100 ^ 0 + 0) = _
  rw [e1, e0, Int.mul_one, Int.add_zero]
theorem is_pairs {K : PySem.W.Frag} {F : Hp} : ∀ {L : List (Addr × List Int)} {r : List NP}, L.map (·.2) = r.map pr → (∀ p ∈ L, SqT K F p.1 (p.2.map V.int)) → IsL K F (L.map fun q => V.ref q.1) (r.map encQ)
  | [], [], _, _ => .nil
  | [], _ :: _, h, _ => by cases h
  | _ :: _, [], h, _ => by cases h
  | p :: L, q :: r, h, hs => by
    rw [List.map_cons, List.map_cons] at h
    injection h with h1 h2
    have hp := hs p List.mem_cons_self
    rw [h1] at hp
    exact .cons (.tup hp (.cons (.v _) (.cons (.v _) .nil))) (is_pairs h2 fun x hx => hs x (List.mem_cons_of_mem _ hx))
theorem pairs_back : ∀ {l : List (List Int)}, (∀ x ∈ l, ∃ p : NP, x = pr p) → ∃ r : List NP, l = r.map pr
  | [], _ => ⟨[], rfl⟩
  | x :: l, h => by
    obtain ⟨p, rfl⟩ := h x List.mem_cons_self
    obtain ⟨r, rfl⟩ := pairs_back fun y hy => h y (List.mem_cons_of_mem _ hy)
    exact ⟨p :: r, rfl⟩
theorem map_pr_inj : ∀ {a b : List NP}, a.map pr = b.map pr → a = b
  | [], [], _ => rfl
  | [], _ :: _, h => by cases h
  | _ :: _, [], h => by cases h
  | p :: a, q :: b, h => by
    rw [List.map_cons, List.map_cons] at h
    injection h with h1 h2
    rw [pr_inj h1, map_pr_inj h2]
section
variable {X : Cx} {E : XK} {k : Nat} {a b e : Expr} {pos p p2 : Pos} {ρ ρ1 : List Sl} {r : List NP} {i j : Nat}
/-- sorted(set(l)), l a list of pairs -/
theorem dsortS (C : Cp X E k) (hm : X.mg "sorted" = none) (hm2 : X.mg "set" = none) (h : DE X E e ρ (.ok (.lst (r.map encQ))) ρ1) (hl : r.length < 64) (hb : ∀ p ∈ r, p.1 ≤ 99 ∧ p.2 ≤ 99) (hg : Gl X "sorted" := by rfl) (hg2 : Gl X "set" := by rfl)
    (hs : starEach [.Call (.Name "set" p2) [e] [] pos2] X.env = (false, eval (.Call (.Name "set" p2) [e] [] pos2) X.env) :: starEach [] X.env := by rfl) (hpl : (backTo pos (starEach [] X.env)).any (·.1) = false := by rfl)
    (hs2 : starEach [e] X.env = (false, eval e X.env) :: starEach [] X.env := by rfl) (hpl2 : (backTo pos2 (starEach [] X.env)).any (·.1) = false := by rfl) :
    DE X E (.Call (.Name "sorted" p) [.Call (.Name "set" p2) [e] [] pos2] [] pos) ρ (.ok (.lst ((sortQ r).map encQ))) ρ1 := by
  refine PE.wk (pe_callB (cr_sortedT C.calm) hg hm (by decide +kernel) (pa_cons (pe_callTy (cr_setOfT C.calm C.room.units) hg2 hm2 (by decide +kernel) (da_cons h da_nil hs2) (by decide) (by decide) hs2 hpl2) pa_nil hs) (by decide) (by decide) hs hpl) fun σ H Q ⟨en, F, w, k1, _⟩ => ⟨en, F, w, fun ds hd vs F1 H1 w1 s1 i1 => ?_, fun _ z => nomatch z⟩
  cases hd
  cases i1 with
  | cons i1 i2 =>
    cases i2
    cases i1 with
    | @lst l xs _ hF il =>
      obtain ⟨ks, e1, e2, e3⟩ := refs_of il
      have e2 : ks.map (·.2) = r.map pr := e2
      subst e1
      have len : ks.length = r.length := by have := congrArg List.length e2; simpa using this
      refine ⟨l, ks, rfl, .inl (.inl (w1.fh _ _ hF)), fun p hp => sqT_mono w1.fh (e3 p hp), by omega, fun b L hb0 hsub hall => ?_⟩
      have Ls : ∀ p ∈ L, SqT X.K F1 p.1 (p.2.map V.int) := fun p hp => e3 p (hsub p hp)
      have Lp : ∀ p ∈ L, ∃ q ∈ r, p.2 = pr q := fun p hp => by
        have : p.2 ∈ ks.map (·.2) := List.mem_map_of_mem (hsub p hp)
        rw [e2] at this
        obtain ⟨q, h1, h2⟩ := List.mem_map.mp this
        exact ⟨q, h1, h2.symm⟩
      have sm2 : Same F1 (upd H1 b (SetTO X.prog X.w b L)) := w1.fh.trans (same_new hb0)
      refine ⟨b, L, 2, 100, rfl, upd_same, fun p hp => sqT_mono sm2 (Ls p hp), by decide, fun p hp => ?_, fun L' q pm nd few pw hq => ?_⟩
      · obtain ⟨x, hx, e⟩ := Lp p hp
        rw [e]
        refine ⟨rfl, fun m hm => ?_⟩
        have := hb x hx
        unfold pr at hm
        simp only [List.mem_cons, List.not_mem_nil, or_false] at hm
        rcases hm with rfl | rfl <;> omega
      · obtain ⟨r', er⟩ := pairs_back (l := L'.map (·.2)) fun x hx => by
          obtain ⟨p, hp, rfl⟩ := List.mem_map.mp hx
          obtain ⟨y, _, e⟩ := Lp p (pm.mem_iff.mp hp)
          exact ⟨y, e⟩
        have mem : ∀ x, x ∈ r' ↔ x ∈ r := fun x => by
          have h1 : x ∈ r' ↔ pr x ∈ L'.map (·.2) := by
            rw [er]
            constructor
            · exact fun h => List.mem_map_of_mem h
            · intro h
              obtain ⟨y, hy, e⟩ := List.mem_map.mp h
              rw [← pr_inj e]
              exact hy
          rw [h1]
          constructor
          · intro h
            obtain ⟨p, hp, e⟩ := List.mem_map.mp h
            obtain ⟨y, hy, e4⟩ := Lp p (pm.mem_iff.mp hp)
            rw [← pr_inj (e4.symm.trans e)]
            exact hy
          · intro h
            have : pr x ∈ ks.map (·.2) := by rw [e2]; exact List.mem_map_of_mem h
            obtain ⟨p, hp, e⟩ := List.mem_map.mp this
            have := hall p hp
            rw [e] at this
            exact (pm.map (·.2)).mem_iff.mpr this
        have pwr : r'.Pairwise plt := by
          have pw2 : (L'.map (·.2)).Pairwise fun x y => TS.code 100 x ≤ TS.code 100 y := List.pairwise_map.mpr pw
          have both := List.Pairwise.and pw2 nd
          rw [er] at both
          have both := List.pairwise_map.mp both
          refine List.Pairwise.imp_of_mem (fun {x y} hx hy hxy => ?_) both
          obtain ⟨h1, h2⟩ := hxy
          rw [code_pr, code_pr] at h1
          have b1 := hb x ((mem x).mp hx)
          have b2 := hb y ((mem y).mp hy)
          have ne : ¬ (x.1 = y.1 ∧ x.2 = y.2) := fun c => h2 (by rw [Prod.ext c.1 c.2])
          unfold plt
          omega
        have fin : r' = sortQ r := pw_uniq pwr (pw_sortQ r) fun x => (mem x).trans mem_sortQ.symm
        rw [fin] at er
        have g1 : Gr F1 H1 F1 (upd H1 b (SetTO X.prog X.w b L)) := Gr.loose w1.fh hb0
        have g2 := Gr.new (o := .lst (L'.map fun q => V.ref q.1)) g1.fh hq (nofun)
        have il2 : IsL X.K F1 (L'.map fun q => V.ref q.1) ((sortQ r).map encQ) := is_pairs er fun p hp => Ls p (pm.mem_iff.mp hp)
        exact (K1.yld k1 w1 s1) (.ref q) _ _ (g1.trans g2) (.lst upd_same (il2.mono (same_new (g1.fh.free hq))))
/-- max of a pair -/
theorem dmaxQ (C : Cp X E k) (hm : X.mg "max" = none) (h : DE X E a ρ (.ok (.tup [dIn i, dIn j])) ρ1) (hg : Gl X "max" := by rfl) (hs : starEach [a] X.env = (false, eval a X.env) :: starEach [] X.env := by rfl) (hpl : (backTo pos (starEach [] X.env)).any (·.1) = false := by rfl) :
    DE X E (.Call (.Name "max" p) [a] [] pos) ρ (.ok (dIn (max i j))) ρ1 := DE.to (de_callB (z := dI (max (i : Int) (j : Int))) (cr_maxTD C.calm (by have := C.room.un; omega)) (fun F H vs Q sm l k => by
      cases l with
      | cons h1 l =>
        cases l
        exact ⟨_, (i : Int), [(j : Int)], rfl, dp_of sm h1 rfl, k.v sm⟩) hg hm (by decide +kernel) (a1 h hs) (by decide) (by decide) hs hpl) (by
      rw [show max (i : Int) (j : Int) = ((max i j : Nat) : Int) by omega])
end
def lawPair (s : T) : Option Nat × Option Nat := (numIn (pt [45] s).1, numIn (pt [45] s).2.2)
def encOp (p : Option Nat × Option Nat) : D := .tup [encO dIn p.1, encO dIn p.2]
def badP (p : Option Nat × Option Nat) : Bool := match p.1, p.2 with
  | some a, some b => decide (99 < a) || decide (99 < b)
  | _, _ => true
def lawRel (s : T) : Option (List NP) := if s = [45] then some [] else match mapO pairIn (TL.spl [32] 0 [] s) with
  | none => none
  | some r => if isRel r = true then some r else none
theorem encOp_pl (p : Option Nat × Option Nat) : ∀ x ∈ [encO dIn p.1, encO dIn p.2], Pl 0 x := fun x hx => by
  simp only [List.mem_cons, List.not_mem_nil, or_false] at hx
  rcases hx with rfl | rfl <;> exact encO_pl (fun _ => .int) _
section
variable {P : Program} {w : World} {K : PySem.W.Frag} {mg : Str → Option Value} {base : Heap} {CP CI : Addr}
/-- _law_read_relation -/
abbrev LRel (P : Program) (w : World) (K : PySem.W.Frag) (mg : Str → Option Value) (base : Heap) := Kn P w K mg base "_law_read_relation" 2 1 (fun s : T => [dL s]) (fun s => .ok (encO encR (lawRel s))) (fun s => tx s ∧ s.length ≤ 250)
abbrev s74 : Stmt := top 74
theorem sc74 : FnScope ["_law_text", "_law_found", "_law_token", "_law_one", "_law_sign", "_law_other", "_law_pair"] ["_law_text"] (defScope s74) := ⟨rfl, rfl, rfl, by decide +kernel, rfl, by decide +kernel, by decide +kernel⟩
theorem pairIn_text {s : T} {p : NP} (h : pairIn s = some p) : pairText p = s := by
  unfold pairIn at h
  cases q : numIn (pt [45] s).1 with
  | none => rw [q] at h; cases h
  | some a =>
    rw [q] at h
    cases q2 : numIn (pt [45] s).2.2 with
    | none => rw [q2] at h; cases h
    | some b =>
      rw [q2] at h
      cases h
      show TL.numL a ++ ([45] ++ TL.numL b) = s
      rw [numIn_text q, numIn_text q2]
      unfold pt at q2 ⊢
      cases q3 : TL.par [45] [] s with
      | none =>
        rw [q3] at q2
        have : numIn [] = none := by decide
        rw [this] at q2
        cases q2
      | some pq =>
        obtain ⟨p1, q4⟩ := pq
        exact (par_sum _ _ _ _ _ q3).symm
theorem good_pairs : ∀ {ws : List T}, (ws.map lawPair).filter badP = [] → ∃ r, mapO pairIn ws = some r ∧ ws.map lawPair = r.map (fun p => (some p.1, some p.2)) ∧ ∀ p ∈ r, p.1 ≤ 99 ∧ p.2 ≤ 99
  | [], _ => ⟨[], rfl, rfl, fun p hp => by cases hp⟩
  | w :: ws, h => by
    rw [List.map_cons, List.filter_cons] at h
    split at h
    · cases h
    · rename_i hb
      obtain ⟨r, h1, h2, h3⟩ := good_pairs h
      cases q1 : numIn (pt [45] w).1 with
      | none => exact absurd (by unfold badP lawPair; rw [q1]) hb
      | some a =>
        cases q2 : numIn (pt [45] w).2.2 with
        | none => exact absurd (by unfold badP lawPair; rw [q1, q2]) hb
        | some b =>
          have hb : ¬ (99 < a ∨ 99 < b) := fun c => hb (by
            unfold badP lawPair
            rw [q1, q2]
            show (decide (99 < a) || decide (99 < b)) = true
            simpa using c)
          refine ⟨(a, b) :: r, ?_, ?_, fun p hp => ?_⟩
          · have : pairIn w = some (a, b) := by unfold pairIn; rw [q1, q2]
            rw [mapO, this, h1]
          · rw [List.map_cons, h2]
            show (numIn (pt [45] w).1, numIn (pt [45] w).2.2) :: _ = _
            rw [q1, q2]
            rfl
          · rcases List.mem_cons.mp hp with rfl | hp
            · exact ⟨by show a ≤ 99; omega, by show b ≤ 99; omega⟩
            · exact h3 p hp
theorem bad_pairs : ∀ {ws : List T}, (ws.map lawPair).filter badP ≠ [] → ∀ r, mapO pairIn ws = some r → r.all small = false
  | [], h, _, _ => absurd rfl h
  | w :: ws, h, r, hr => by
    rw [mapO] at hr
    cases q : pairIn w with
    | none => rw [q] at hr; cases hr
    | some p =>
      rw [q] at hr
      cases q2 : mapO pairIn ws with
      | none => rw [q2] at hr; cases hr
      | some rs =>
        rw [q2] at hr
        cases hr
        have key : small p = false ∨ (rs.all small = false) := by
          rw [List.map_cons, List.filter_cons] at h
          split at h
          · rename_i hb
            refine .inl ?_
            unfold pairIn at q
            unfold badP lawPair at hb
            cases q3 : numIn (pt [45] w).1 with
            | none => rw [q3] at q; cases q
            | some a =>
              cases q4 : numIn (pt [45] w).2.2 with
              | none => rw [q3, q4] at q; cases q
              | some b =>
                rw [q3, q4] at q hb
                cases q
                have hb : (decide (99 < a) || decide (99 < b)) = true := hb
                have hb : 99 < a ∨ 99 < b := by simpa using hb
                show (decide (a ≤ 99) && decide (b ≤ 99)) = false
                rcases hb with hb | hb
                · rw [decide_eq_false (by omega)]; rfl
                · rw [decide_eq_false (show ¬ b ≤ 99 by omega), Bool.and_false]
          · exact .inr (bad_pairs h rs q2)
        rw [List.all_cons]
        rcases key with h | h
        · rw [h]; rfl
        · rw [h, Bool.and_false]
theorem isRel_small {r : List NP} (h : r.all small = false) : isRel r = false := by
  unfold isRel
  have : (r.all fun p => decide (p.1 ≤ 99) && decide (p.2 ≤ 99)) = false := h
  rw [this]
  rfl
theorem eqD_pairs {a b : List NP} : eqD (.lst (a.map encQ)) (.lst (b.map encQ)) = decide (a = b) := by
  have py : ∀ r : List NP, pyOfL (r.map encQ) = some (r.map fun p => .tuple [.int p.1, .int p.2]) := fun r => by
    induction r with
    | nil => rfl
    | cons p r ih =>
      rw [List.map_cons, pyOfL, ih]
      rfl
  have e : ∀ r : List NP, pyT (.lst (r.map encQ)) = .list (r.map fun p => .tuple [.int p.1, .int p.2]) := fun r => by
    unfold pyT
    rw [pyOf, py]
    rfl
  unfold eqD
  rw [e, e, PyData.eqv]
  clear e py
  induction a generalizing b with
  | nil => cases b <;> rfl
  | cons p a ih =>
    cases b with
    | nil => rfl
    | cons q b =>
      rw [List.map_cons, List.map_cons, PyData.eqvAll, ih]
      have e : PyData.eqv (.tuple [.int p.1, .int p.2]) (.tuple [.int q.1, .int q.2]) = decide (p = q) := by
        show (((p.1 : Int) == (q.1 : Int)) && (((p.2 : Int) == (q.2 : Int)) && true)) = _
        rw [Bool.and_true, Bool.eq_iff_iff, Bool.and_eq_true, beq_iff_eq, beq_iff_eq, decide_eq_true_eq]
        constructor
        · exact fun h => Prod.ext (by omega) (by omega)
        · rintro rfl
          exact ⟨rfl, rfl⟩
      rw [e, Bool.eq_iff_iff]
      simp
theorem bad_dt {X : Cx} {E : XK} {k : Nat} {e1 e2 : Expr} {ρ : List Sl} {p1 p2 p3 p4 p5 pos : Pos} {j1 j2 : Nat} (C : Cp X E k) (hm : X.mg "max" = none) (c : Option Nat × Option Nat) (h1 : DE X E e1 ρ (.ok (encOp c)) ρ) (h2 : DE X E e2 ρ (.ok (encOp c)) ρ) (hg : Gl X "max" := by rfl) (hs : starEach [e2] X.env = (false, eval e2 X.env) :: starEach [] X.env := by rfl) (hb : behindInMarks .In e1 = false := by rfl) :
    DT X E (.BoolOp .Or [.Compare (.Constant .none j1 p1) [.In] [e1] p2, .Compare (.Call (.Name "max" p3) [e2] [] p4) [.Gt] [.Constant (.int 99) j2 p5] pos] pos2) ρ (.ok (badP c)) ρ := by
  obtain ⟨o1, o2⟩ := c
  cases o1 with
  | none => exact DT.to (or2 (k1 := true) (k2 := true) (tinPT (m := 0) (n := 0) C de_non h1 .non (encOp_pl _) (hb := hb)) fun z => by cases z) rfl
  | some a =>
    cases o2 with
    | none => exact DT.to (or2 (k1 := true) (k2 := true) (tinPT (m := 0) (n := 0) C de_non h1 .non (encOp_pl _) (hb := hb)) fun z => by cases z) rfl
    | some b =>
      refine DT.to (or2 (k1 := false) (k2 := decide (99 < a) || decide (99 < b)) (tinPT (m := 0) (n := 0) C de_non h1 .non (encOp_pl _) (hb := hb)) fun _ => DT.to (dt_cmp op_gt (op2_I0 (i := ((max a b : Nat) : Int)) (j := 99)) (dmaxQ C hm h2 hg hs rfl) de_int (nomark _)) ?_) (Bool.false_or _)
      rw [Bool.eq_iff_iff, Bool.or_eq_true, decide_eq_true_eq, decide_eq_true_eq, decide_eq_true_eq]
      omega
theorem k74 (M : Md K mg CP CI) (F : Df K mg "_law_read_relation" s74 ["_law_text"]) (k59 : LInt P w K mg base) : LRel P w K mg base := by
  refine kn_df F sc74 (body := fun a cdv A outer s H E z C hd => ?_)
  obtain ⟨hd, h250⟩ := hd
  generalize hws : (if z = [45] then [] else TL.spl [32] 0 [] z) = ws
  have lw : lawRel z = (match mapO pairIn ws with
      | none => none
      | some r => if isRel r = true then some r else none) := by
    unfold lawRel
    rw [← hws]
    by_cases h : z = [45]
    · rw [if_pos h, if_pos h]
      rfl
    · rw [if_neg h, if_neg h]
  have sl := spl_len [32] (by decide) (by decide) z
  have wlen : ws.length ≤ 251 := by
    rw [← hws]
    split
    · decide
    · omega
  have wsum : (ws.map List.length).sum + ws.length ≤ 251 := by
    rw [← hws]
    split
    · decide
    · omega
  have wtx : ∀ w ∈ ws, tx w := fun w hw => by
    rw [← hws] at hw
    split at hw
    · cases hw
    · exact ⟨by have := spl_mem (by decide) (by decide) hw; have := hd.1; omega, spl_asc hd.2 w hw⟩
  refine dss_cons (ds_setOwn (i := 1) C.nd rfl (.inl rfl) da_nil (by decide) (Nat.le_of_ble_eq_true rfl) ?_)
  refine dss_cons (ds_for (ds := ws.map dL) C.po C.calm (di_list (de_ifS (k := !decide (z = [45])) (ltne (dv 0) (lit (l := [45]))) (fun h => ?_) fun h => ?_)) (fun i ρ => ∃ d2 d3 d4 d5, ρ = [.dat (dL z), .own false (((ws.map lawPair).take i).map encOp), d2, d3, d4, d5, .no]) ⟨.no, .no, .no, .no, rfl⟩ (fun i ρ d hI hdi => ?_) fun ρ hI => ?_)
  · have h : ¬ z = [45] := by simpa using h
    rw [if_neg h] at hws
    rw [← hws]
    exact lsplit (dv 0) (lit (l := [32])) (by have := hd.1; omega)
  · have h : z = [45] := by simpa using h
    rw [if_pos h] at hws
    rw [← hws]
    exact de_lst da_nil (by decide)
  · obtain ⟨d2, d3, d4, d5, rfl⟩ := hI
    rw [List.getElem?_map] at hdi
    cases hp : ws[i]? with
    | none => rw [hp] at hdi; cases hdi
    | some w0 =>
      rw [hp] at hdi
      cases hdi
      have hw0 := wtx w0 (List.mem_of_getElem? hp)
      have p2 := tx_pt (S := [45]) hw0
      refine ⟨_, gn (i := 2) C.toCp, ?_⟩
      refine dss_cons (ds_asg (lpart (s := w0) (t := [45]) (dv 2) lit (by have := hw0.1; omega)) (dg_tup C.calm (dgs_cons (gn (i := 3) C.toCp) (dgs_cons (gn (i := 4) C.toCp) (dgs_cons (gn (i := 5) C.toCp) dgs_nil)))) ?_)
      refine dss_one (ds_app (i := 1) (b2 := false) rfl (.inl rfl) rfl (de_tup (a2 (dcq (Kd.pt [45] w0).1 C k59 (a1 (dv 3)) p2.1) (dcq (Kd.pt [45] w0).2.2 C k59 (a1 (dv 5)) p2.2)) (Nat.le_of_ble_eq_true rfl)) rfl (by rw [List.length_map, List.length_take, List.length_map]; omega) ⟨.dat (dL w0), .dat (dL (Kd.pt [45] w0).1), .dat (dL (Kd.pt [45] w0).2.1), .dat (dL (Kd.pt [45] w0).2.2), ?_⟩)
      have : ((ws.map lawPair).take (i + 1)).map encOp = ((ws.map lawPair).take i).map encOp ++ [encOp (lawPair w0)] := by
        rw [List.take_succ, List.getElem?_map, hp, List.map_append]
        rfl
      rw [this]
      rfl
  · obtain ⟨d2, d3, d4, d5, rfl⟩ := hI
    rw [List.length_map, List.take_of_length_le (by rw [List.length_map]; exact Nat.le_refl _)]
    refine dss_freeze (i := 1) rfl ?_
    have pl : ∀ d ∈ ((ws.map lawPair).filter badP).map encOp, Pl 1 d := fun d hd => by
      obtain ⟨p, _, rfl⟩ := List.mem_map.mp hd
      exact .tup (encOp_pl p)
    by_cases hb : (ws.map lawPair).filter badP = []
    · obtain ⟨r, m1, m2, m3⟩ := good_pairs hb
      have e1 : (ws.map lawPair).map encOp = r.map encQ := by rw [m2, List.map_map]; rfl
      have rl : r.length < 64 := by
        have b1 := mapO_back (b := pairText) (fun x y hxy => pairIn_text hxy) m1
        have b2 : 3 * r.length ≤ ((r.map pairText).map List.length).sum := by
          clear m1 m2 m3 e1 b1 hb pl
          induction r with
          | nil => exact Nat.zero_le _
          | cons p r ih =>
            have n1 : 1 ≤ (TL.numL p.1).length := List.length_pos_iff.mpr (TL.numL_ne _)
            have n2 : 1 ≤ (TL.numL p.2).length := List.length_pos_iff.mpr (TL.numL_ne _)
            have n3 : (pairText p).length = (TL.numL p.1).length + (1 + (TL.numL p.2).length) := by
              show (TL.numL p.1 ++ ([45] ++ TL.numL p.2)).length = _
              rw [List.length_append, List.length_append]
              rfl
            rw [List.map_cons, List.map_cons, List.sum_cons, List.length_cons]
            omega
        rw [b1] at b2
        have := (mapO_spec m1).1
        have wsum : ((ws : List (List Nat)).map List.length).sum + ws.length ≤ 251 := wsum
        omega
      have sm : r.all small = true := List.all_eq_true.mpr fun p hp => by
        have := m3 p hp
        unfold small
        simp [this.1, this.2]
      have ir : isRel r = adj r := by
        unfold isRel
        have : (r.all fun p => decide (p.1 ≤ 99) && decide (p.2 ≤ 99)) = true := sm
        rw [this, Bool.true_and]
      have lr : lawRel z = if adj r = true then some r else none := by rw [lw, m1, ← ir]
      refine dss_cons (ds_if (kb := !adj r) (DT.to (or2 (k1 := false) (k2 := !adj r) (DT.to (tneP (m := 2) (n := 1) C.toCp (dlcF (xs := ws.map lawPair) (enc := encOp) (g := encOp) (t := badP) C 6 (di_list (dv 1)) (by rw [List.length_map]; omega) (fun s H Cc cl fp xe cp c hc => ?_) fun s H Cc cl fp xe cp c hc => dv 6) (de_lst da_nil (by decide)) (.lst pl) (.lst fun d hd => by cases hd)) ?_) fun _ => DT.to (tneP (m := 3) (n := 3) C.toCp (DE.to (dv 1) (congrArg (fun l => Except.ok (D.lst l)) e1)) (dsortS C.toCp M.sorted M.set (DE.to (dv 1) (congrArg (fun l => Except.ok (D.lst l)) e1)) rl m3) (.lst fun d hd => ?_) (.lst fun d hd => ?_)) ?_) rfl) (fun h => dss_one (ds_ret de_non ?_)) fun h => dss_nil (dss_one (ds_ret (dtupL M.tuple (dv 1)) ?_)))
      · exact bad_dt cp M.max c (dv 6) (dv 6)
      · rw [eqD_lstNil pl, hb]
        rfl
      · obtain ⟨p, _, rfl⟩ := List.mem_map.mp hd
        exact .tup fun d hd => by
          simp only [List.mem_cons, List.not_mem_nil, or_false] at hd
          rcases hd with rfl | rfl <;> exact .int
      · obtain ⟨p, _, rfl⟩ := List.mem_map.mp hd
        exact .tup fun d hd => by
          simp only [List.mem_cons, List.not_mem_nil, or_false] at hd
          rcases hd with rfl | rfl <;> exact .int
      · rw [eqD_pairs]
        have : decide (r = sortQ r) = adj r := by
          rw [Bool.eq_iff_iff, decide_eq_true_eq]
          exact sortQ_fix r
        rw [this]
      · show _ = _
        have h : adj r = false := by simpa using h
        rw [lr, if_neg (by rw [h]; decide)]
        rfl
      · show _ = _
        have h : adj r = true := by simpa using h
        rw [lr, if_pos h, e1]
        rfl
    · refine dss_cons (ds_if (kb := true) (DT.to (or2 (k1 := true) (k2 := true) (DT.to (tneP (m := 2) (n := 1) C.toCp (dlcF (xs := ws.map lawPair) (enc := encOp) (g := encOp) (t := badP) C 6 (di_list (dv 1)) (by rw [List.length_map]; omega) (fun s H Cc cl fp xe cp c hc => ?_) fun s H Cc cl fp xe cp c hc => dv 6) (de_lst da_nil (by decide)) (.lst pl) (.lst fun d hd => by cases hd)) ?_) fun z => by cases z) rfl) (fun h => dss_one (ds_ret de_non ?_)) fun h => by cases h)
      · exact bad_dt cp M.max c (dv 6) (dv 6)
      · rw [eqD_lstNil pl, decide_eq_false]
        · rfl
        · rw [List.map_eq_nil_iff]
          exact hb
      · show _ = _
        rw [lw]
        cases q : mapO pairIn ws with
        | none => rfl
        | some r =>
          show Except.ok (encO encR (if isRel r = true then some r else none)) = _
          rw [if_neg (by rw [isRel_small (bad_pairs hb r q)]; decide)]
          rfl
end
end Kd
set_option Elab.async false
set_option linter.all false
set_option maxRecDepth 100000
set_option maxHeartbeats 2000000
/-! the walk of the law: readers of papers and chains -/
namespace Kd
open PySem PySem.Spec PyProof.Rows L2
variable [LT]
def lawPaper (s : T) : Option Paper := if (pt [32] s).1 = tAlike then (lawRel (pt [32] s).2.2).map .alike else if (pt [32] s).1 = tUnlike then (lawAddr (pt [32] s).2.2).map .unlike else none
theorem mapO_none {α β : Type} {g : α → Option β} {enc : β → D} (he : ∀ b, isNonD (enc b) = false) : ∀ {xs : List α}, (xs.any fun x => isNonD (encO enc (g x))) = (mapO g xs).isNone
  | [] => rfl
  | x :: xs => by
    rw [List.any_cons, mapO_none he, mapO]
    cases g x with
    | none => rfl
    | some b =>
      show (isNonD (enc b) || _) = _
      rw [he]
      cases mapO g xs <;> rfl
theorem eqD_e {o : Option (List AEl)} : eqD (encO encA o) (.tup []) = (match o with | some a => decide (a = []) | none => false) := by
  cases o with
  | none => rfl
  | some a =>
    show eqD (.tup (a.map encE)) (.tup []) = _
    rw [eqD_tupNil (plEs a)]
    cases a <;> rfl
theorem mapO_empty : ∀ {xs : List T} {ps : List (List AEl)}, mapO lawPlain xs = some ps → (xs.any fun x => eqD (encO encA (lawPlain x)) (.tup [])) = !(ps.all fun p => !decide (p = []))
  | [], ps, h => by cases h; rfl
  | x :: xs, ps, h => by
    rw [mapO] at h
    cases q : lawPlain x with
    | none => rw [q] at h; cases h
    | some a =>
      rw [q] at h
      cases q2 : mapO lawPlain xs with
      | none => rw [q2] at h; cases h
      | some bs =>
        rw [q2] at h
        cases h
        rw [List.any_cons, mapO_empty q2, List.all_cons, q, eqD_e]
        show (decide (a = []) || _) = _
        cases decide (a = []) <;> cases (bs.all fun p => !decide (p = [])) <;> rfl
section
variable {P : Program} {w : World} {K : PySem.W.Frag} {mg : Str → Option Value} {base : Heap} {CP CI : Addr}
/-- _law_relation_text -/
abbrev LReT (P : Program) (w : World) (K : PySem.W.Frag) (mg : Str → Option Value) (base : Heap) := Kn P w K mg base "_law_relation_text" 1 1 (fun z : List NP => [encR z]) (fun z => .ok (dL (relText z))) okR
abbrev s73 : Stmt := top 73
theorem sc73 : FnScope ["_law_pairs_here", "_law_one", "_law_other"] ["_law_pairs_here"] (defScope s73) := ⟨rfl, rfl, rfl, by decide +kernel, rfl, by decide +kernel, by decide +kernel⟩
theorem k73 (M : Md K mg CP CI) (F : Df K mg "_law_relation_text" s73 ["_law_pairs_here"]) : LReT P w K mg base := by
  refine kn_df F sc73 (body := fun a cdv A outer s H E z C hd => ?_)
  have l1 := pairs_len hd.2
  have l2 := joinL_len1 32 (z.map pairText)
  have l3 := hd.1
  have e1 : (z.map pairText).length = z.length := List.length_map _
  rw [e1] at l2
  have pl : ∀ d ∈ z.map encQ, Pl 1 d := fun d hd => by
    obtain ⟨p, _, rfl⟩ := List.mem_map.mp hd
    exact .tup fun d hd => by
      simp only [List.mem_cons, List.not_mem_nil, or_false] at hd
      rcases hd with rfl | rfl <;> exact .int
  refine dss_one (ds_ret (d := dL (relText z)) (de_ifS (k := !decide (z = [])) (DT.to (tneP (m := 2) (n := 1) C.toCp (dv 0) (de_tup da_nil (by decide)) (.tup pl) (.tup fun d hd => by cases hd)) ?_) (fun h => ?_) fun h => ?_) rfl)
  · rw [eqD_tupNil pl]
    cases z <;> rfl
  · have h : z ≠ [] := by simpa using h
    refine DE.to (ljoin (s := [32]) (ys := z.map pairText) lit (DE.to (dlc2 (xs := z) (e1 := fun p => dIn p.1) (e2 := fun p => dIn p.2) (g := fun p => .ok (dL (pairText p))) C 1 2 (di_tup (dv 0)) (by omega) fun s H Cc cl fp xe cp c hc => DE.to (ladd (s := TL.numL c.1 ++ [45]) (t := TL.numL c.2) (ladd (s := TL.numL c.1) (t := [45]) (lstr M.str (dv 1) (hd.2 c hc).1) lit ?_) (lstr M.str (dv 2) (hd.2 c hc).2) ?_) ?_) ?_) ?_) ?_
    · have := TL.numL_len (by decide) (hd.2 c hc).1
      show _ + 1 ≤ _
      omega
    · have n1 := TL.numL_len (by decide) (hd.2 c hc).1
      have n2 := TL.numL_len (by decide) (hd.2 c hc).2
      rw [List.length_append]
      show _ + 1 + _ ≤ _
      omega
    · show Except.ok (dL ((TL.numL c.1 ++ [45]) ++ TL.numL c.2)) = Except.ok (dL (TL.numL c.1 ++ ([45] ++ TL.numL c.2)))
      rw [List.append_assoc]
    · rw [mapA_ok (f := fun p => dL (pairText p)) fun _ _ => rfl, List.map_map]; rfl
    · show ((z.map pairText).map List.length).sum + (z.map pairText).length * 1 ≤ _
      rw [e1]; omega
    · unfold relText orNo
      rw [if_neg]
      cases z with
      | nil => exact absurd rfl h
      | cons p r =>
        have hp : pairText p ≠ [] := fun q => by
          have : TL.numL p.1 ++ ([45] ++ TL.numL p.2) = [] := q
          simp at this
        rw [List.map_cons]
        cases r with
        | nil => exact hp
        | cons f r =>
          rw [List.map_cons, joinL_cons (by simp)]
          simp
  · have h : z = [] := by simpa using h
    subst h
    exact lit (l := [45])
/-- _law_read_paper -/
abbrev LPap (P : Program) (w : World) (K : PySem.W.Frag) (mg : Str → Option Value) (base : Heap) := Kn P w K mg base "_law_read_paper" 3 1 (fun s : T => [dL s]) (fun s => .ok (encO encP (lawPaper s))) (fun s => tx s ∧ s.length ≤ 250)
abbrev s75 : Stmt := top 75
theorem sc75 : FnScope ["_law_text", "_law_token", "_law_sign", "_law_rest", "_law_found"] ["_law_text"] (defScope s75) := ⟨rfl, rfl, rfl, by decide +kernel, rfl, by decide +kernel, by decide +kernel⟩
theorem k75 (M : Md K mg CP CI) (F : Df K mg "_law_read_paper" s75 ["_law_text"]) (k74 : LRel P w K mg base) (k63 : LAddr P w K mg base) : LPap P w K mg base := by
  refine kn_df F sc75 (body := fun a cdv A outer s H E z C hd => ?_)
  obtain ⟨hd, h250⟩ := hd
  have t1 := tx_pt (S := [32]) hd
  have pl := pt_len [32] z
  refine dss_cons (ds_asg (lpart (s := z) (t := [32]) (dv 0) lit (by have := hd.1; omega)) (dg_tup C.calm (dgs_cons (gn (i := 1) C.toCp) (dgs_cons (gn (i := 2) C.toCp) (dgs_cons (gn (i := 3) C.toCp) dgs_nil)))) ?_)
  refine dss_cons (ds_if (ltnin (ls := [tAlike, tUnlike]) (dv 1) (de_tup (a2 lit lit) (Nat.le_of_ble_eq_true rfl))) (fun h => dss_one (ds_ret de_non ?_)) fun h => dss_nil ?_)
  · have h : ¬ (Kd.pt [32] z).1 ∈ [tAlike, tUnlike] := by rw [Bool.not_eq_true', decide_eq_false_iff_not] at h; exact h
    have h : ¬ ((Kd.pt [32] z).1 = tAlike ∨ (Kd.pt [32] z).1 = tUnlike) := fun c => h (by simpa using c)
    show _ = _
    unfold lawPaper
    rw [if_neg (fun c => h (.inl c)), if_neg (fun c => h (.inr c))]
    rfl
  · have h : (Kd.pt [32] z).1 ∈ [tAlike, tUnlike] := by rw [Bool.not_eq_false', decide_eq_true_eq] at h; exact h
    have h : (Kd.pt [32] z).1 = tAlike ∨ (Kd.pt [32] z).1 = tUnlike := by simpa using h
    by_cases h1 : (Kd.pt [32] z).1 = tAlike
    · have e : lawPaper z = (lawRel (Kd.pt [32] z).2.2).map .alike := by unfold lawPaper; rw [if_pos h1]
      refine dss_cons (dset (i := 4) (d := encO encR (lawRel (Kd.pt [32] z).2.2)) C.toCp (de_ifS (k := true) (DT.to (lteq (dv 1) (lit (l := tAlike))) (decide_eq_true h1)) (fun _ => dcq (Kd.pt [32] z).2.2 C k74 (a1 (dv 3)) ⟨t1.2, by omega⟩) fun z => by cases z) ?_)
      rw [e]
      cases lawRel (Kd.pt [32] z).2.2 with
      | none => exact dss_one (ds_ret (de_ifS (k := true) (tisD (d := dN) (dv 4)) (fun _ => de_non) fun z => by cases z) rfl)
      | some r =>
        refine dss_one (ds_ret (de_ifS (k := false) (tisD (d := encR r) (dv 4)) (fun z => by cases z) fun _ => de_tup (a2 (dv 1) (dv 4)) (Nat.le_of_ble_eq_true rfl)) ?_)
        rw [h1]
        rfl
    · have h2 : (Kd.pt [32] z).1 = tUnlike := by
        rcases h with h | h
        · exact absurd h h1
        · exact h
      have e : lawPaper z = (lawAddr (Kd.pt [32] z).2.2).map .unlike := by unfold lawPaper; rw [if_neg h1, if_pos h2]
      refine dss_cons (dset (i := 4) (d := encO encA (lawAddr (Kd.pt [32] z).2.2)) C.toCp (de_ifS (k := false) (DT.to (lteq (dv 1) (lit (l := tAlike))) (decide_eq_false h1)) (fun z => by cases z) fun _ => dcq (Kd.pt [32] z).2.2 C k63 (a1 (dv 3)) t1.2) ?_)
      rw [e]
      cases lawAddr (Kd.pt [32] z).2.2 with
      | none => exact dss_one (ds_ret (de_ifS (k := true) (tisD (d := dN) (dv 4)) (fun _ => de_non) fun z => by cases z) rfl)
      | some r =>
        refine dss_one (ds_ret (de_ifS (k := false) (tisD (d := encA r) (dv 4)) (fun z => by cases z) fun _ => de_tup (a2 (dv 1) (dv 4)) (Nat.le_of_ble_eq_true rfl)) ?_)
        rw [h2]
        rfl
/-- _law_read_chain -/
abbrev LChn (P : Program) (w : World) (K : PySem.W.Frag) (mg : Str → Option Value) (base : Heap) := Kn P w K mg base "_law_read_chain" 4 1 (fun s : T => [dL s]) (fun s => .ok (encO encC (lawChain s))) tx
abbrev s76 : Stmt := top 76
theorem sc76 : FnScope ["_law_text", "_law_start", "_law_sign", "_law_rest", "_law_pieces_here", "_law_token"] ["_law_text"] (defScope s76) := ⟨rfl, rfl, rfl, by decide +kernel, rfl, by decide +kernel, by decide +kernel⟩
theorem k76 (M : Md K mg CP CI) (F : Df K mg "_law_read_chain" s76 ["_law_text"]) (k71 : LPlain P w K mg base) : LChn P w K mg base := by
  refine kn_df F sc76 (body := fun a cdv A outer s H E z C hd => ?_)
  have t1 := tx_pt (S := [58, 32]) hd
  have sl := spl_len [44, 32] (by decide) (by decide) (Kd.pt [58, 32] z).2.2
  have sz := t1.2.1
  refine dss_cons (ds_asg (lpart (s := z) (t := [58, 32]) (dv 0) lit (by have := hd.1; omega)) (dg_tup C.calm (dgs_cons (gn (i := 1) C.toCp) (dgs_cons (gn (i := 2) C.toCp) (dgs_cons (gn (i := 3) C.toCp) dgs_nil)))) ?_)
  generalize hws : TL.spl [44, 32] 0 [] (Kd.pt [58, 32] z).2.2 = ws at sl
  refine dss_cons (dsetP (ni := 4) (xs := ws) (enc := dL) (g := fun w => encO encA (lawPlain w)) C 5 (di_list (DE.to (lsplit (s := (Kd.pt [58, 32] z).2.2) (t := [44, 32]) (dv 3) lit (by omega)) (by rw [hws]))) (by omega) (fun s H Cc cl fp xe cp c hc => dcp c cp k71 (a1 (dv 5)) ?_) ?_)
  · rw [← hws] at hc
    exact ⟨by have := spl_mem (by decide) (by decide) hc; omega, spl_asc t1.2.2 c hc⟩
  have pl : ∀ d ∈ ws.map (fun w => encO encA (lawPlain w)), Pl 3 d := fun d hd => by
    obtain ⟨t, _, rfl⟩ := List.mem_map.mp hd
    exact encO_pl plA _
  have a2' : ((ws.map fun w => encO encA (lawPlain w)).any fun z => eqD z dN) = (mapO lawPlain ws).isNone := by
    rw [List.any_map, ← mapO_none (enc := encA) fun _ => rfl]
    congr 1
    funext w
    exact eqD_non (encO_pl plA _)
  have el : lawChain z = (match lawPlain (Kd.pt [58, 32] z).1 with
      | none => none
      | some a => match mapO lawPlain ws with
        | none => none
        | some ps => if ps.all (fun p => !decide (p = [])) = true then some ⟨a, ps⟩ else none) := by
    unfold lawChain
    rw [hws]
    all_goals rfl
  have fin : ∀ (q : Option (List AEl)) (m : Option (List (List AEl))), lawPlain (Kd.pt [58, 32] z).1 = q → mapO lawPlain ws = m → True := fun _ _ _ _ => trivial
  cases q : lawPlain (Kd.pt [58, 32] z).1 with
  | none =>
    refine dss_cons (ds_if (kb := true) (DT.to (or3 (k1 := true) (k2 := true) (k3 := true) (DT.to (tisD (dcq (Kd.pt [58, 32] z).1 C k71 (a1 (dv 1)) t1.1)) (by rw [q]; rfl)) (fun z => by cases z) fun z => by cases z) rfl) (fun _ => dss_one (ds_ret de_non ?_)) fun z => by cases z)
    show _ = _
    rw [el, q]
    rfl
  | some a =>
    have k1 : ∀ {X : Cx}, True := trivial
    cases m : mapO lawPlain ws with
    | none =>
      refine dss_cons (ds_if (kb := true) (DT.to (or3 (k1 := false) (k2 := true) (k3 := true) (DT.to (tisD (dcq (Kd.pt [58, 32] z).1 C k71 (a1 (dv 1)) t1.1)) (by rw [q]; rfl)) (fun _ => DT.to (tinPL (m := 0) (n := 3) C.toCp de_non (dv 4) .non pl) (by rw [a2', m]; rfl)) fun _ z => by cases z) rfl) (fun _ => dss_one (ds_ret de_non ?_)) fun z => by cases z)
      show _ = _
      rw [el, q, m]
      rfl
    | some ps =>
      have el2 : lawChain z = if ps.all (fun p => !decide (p = [])) = true then some ⟨a, ps⟩ else none := by rw [el, q, m]
      refine dss_cons (ds_if (kb := !(ps.all fun p => !decide (p = []))) (DT.to (or3 (k1 := false) (k2 := false) (k3 := !(ps.all fun p => !decide (p = []))) (DT.to (tisD (dcq (Kd.pt [58, 32] z).1 C k71 (a1 (dv 1)) t1.1)) (by rw [q]; rfl)) (fun _ => DT.to (tinPL (m := 0) (n := 3) C.toCp de_non (dv 4) .non pl) (by rw [a2', m]; rfl)) fun _ _ => DT.to (tinPL (m := 1) (n := 3) C.toCp (de_tup da_nil (by decide)) (dv 4) (.tup fun d hd => by cases hd) pl) ?_) rfl) (fun h => dss_one (ds_ret de_non ?_)) fun h => dss_nil ?_)
      · rw [List.any_map]
        exact mapO_empty m
      · have h : (ps.all fun p => !decide (p = [])) = false := by simpa using h
        show _ = _
        rw [el2, if_neg (by rw [h]; decide)]
        rfl
      · have hh : (ps.all fun p => !decide (p = [])) = true := by simpa using h
        have em : ws.map (fun w => encO encA (lawPlain w)) = ps.map encA := by
          clear pl a2' el el2 fin hws sl h hh
          induction ws generalizing ps with
          | nil => cases m; rfl
          | cons w ws ih =>
            rw [mapO] at m
            cases q1 : lawPlain w with
            | none => rw [q1] at m; cases m
            | some b =>
              rw [q1] at m
              cases q2 : mapO lawPlain ws with
              | none => rw [q2] at m; cases m
              | some bs =>
                rw [q2] at m
                cases m
                rw [List.map_cons, List.map_cons, ih bs q2, q1]
                rfl
        refine dss_one (ds_ret (de_tup (a3 (lit (l := tChain)) (dcq (Kd.pt [58, 32] z).1 C k71 (a1 (dv 1)) t1.1) (dtupL M.tuple (dv 4))) (Nat.le_of_ble_eq_true rfl)) ?_)
        show _ = _
        rw [el2, if_pos hh, em, q]
        rfl
end
end Kd
set_option Elab.async false
set_option linter.all false
set_option maxRecDepth 100000
set_option maxHeartbeats 2000000
/-! the walk of the law: what it draws -/
namespace Kd
open PySem PySem.Spec PyProof.Rows L2
variable [LT]
def mapT {S α β : Type} (g : S → α → β × S) : S → List α → List β × S
  | u, [] => ([], u)
  | u, a :: as => ((g u a).1 :: (mapT g (g u a).2 as).1, (mapT g (g u a).2 as).2)
theorem mapT_snoc {S α β : Type} {g : S → α → β × S} : ∀ {xs : List α} {u : S} {a : α}, mapT g u (xs ++ [a]) = ((mapT g u xs).1 ++ [(g (mapT g u xs).2 a).1], (g (mapT g u xs).2 a).2)
  | [], u, a => rfl
  | x :: xs, u, a => by
    rw [List.cons_append, mapT, mapT_snoc, mapT]
    rfl
theorem mapS_T {S α β : Type} {g : S → α → β × S} {enc : β → D} : ∀ {xs : List α} {u : S}, mapS (fun u a => (enc (g u a).1, (g u a).2)) u xs = ((mapT g u xs).1.map enc, (mapT g u xs).2)
  | [], u => rfl
  | x :: xs, u => by
    rw [mapS, mapS_T, mapT]
    rfl
theorem mapT_mem {S α β : Type} {g : S → α → β × S} {P : β → Prop} (h : ∀ u a, P (g u a).1) : ∀ {xs : List α} {u : S}, ∀ b ∈ (mapT g u xs).1, P b
  | [], u, b, hb => by cases hb
  | x :: xs, u, b, hb => by
    rw [mapT] at hb
    rcases List.mem_cons.mp hb with rfl | hb
    · exact h u x
    · exact mapT_mem h b hb
theorem mapT_len {S α β : Type} {g : S → α → β × S} : ∀ {xs : List α} {u : S}, (mapT g u xs).1.length = xs.length
  | [], u => rfl
  | x :: xs, u => by rw [mapT, List.length_cons, List.length_cons, mapT_len]
def pickT {β : Type} (d : β) (u : S3) (xs : List β) : β × S3 := ((xs[(drawF u xs.length).1]?).getD d, (drawF u xs.length).2)
theorem pickT_mem {β : Type} {d : β} {u : S3} {xs : List β} (h : 1 ≤ xs.length) : (pickT d u xs).1 ∈ xs := by
  unfold pickT
  rw [List.getElem?_eq_getElem (draw_lt u h)]
  exact List.getElem_mem _
theorem pickF_T {β : Type} {d : β} {enc : β → D} {u : S3} {xs : List β} (h : 1 ≤ xs.length) : pickF u (xs.map enc) = (enc (pickT d u xs).1, (pickT d u xs).2) := by
  unfold pickF pickT
  rw [List.length_map, List.getElem?_map, List.getElem?_eq_getElem (draw_lt u h)]
  rfl
def stepsF (u : S3) (m : Nat) : List Nat × S3 := mapT (fun v (_ : Nat) => drawF v 3) (drawF u (m + 1)).2 (List.range (drawF u (m + 1)).1)
def pairD (u : S3) (_ : Nat) : NP × S3 := (((pickT 0 u [0, 1, 2, 10, 99]).1, (drawF (pickT 0 u [0, 1, 2, 10, 99]).2 12).1), (drawF (pickT 0 u [0, 1, 2, 10, 99]).2 12).2)
def pairsF (u : S3) : List NP × S3 := (sortQ (mapT pairD (drawF u 5).2 (List.range (drawF u 5).1)).1, (mapT pairD (drawF u 5).2 (List.range (drawF u 5).1)).2)
section
variable {X : Cx} {E : XK} {k j : Nat} {x y : Str} {e : Expr} {es : List Expr} {ρ ρ1 : List Sl} {pos p py : Pos} {S Z : Type} {n : Nat} {enc0 : S → List D} {enc : Z → List D} {f : S → Z → D × S} {dom : S → Z → Prop} {bb : Bool}
/-- f(stream, ..) -/
theorem dcl (u : S) (z : Z) (i : Nat) (C : Cp X E k) (h : KnL X.prog X.w X.K X.mg X.base x j n enc0 enc f dom) (ha : DA X E es ρ (.ok (enc z)) ρ1) (hd : dom u z) (hi : ρ1[i]? = some (.own bb (enc0 u)) := by rfl) (ho : ∃ b xs0, ρ[i]? = some (.own b xs0) := by exact ⟨_, _, rfl⟩) (hk : j ≤ k := by decide) (hg : Gl X x := by rfl) (hN : X.N[i]? = some y := by rfl) (hv : Vis X.env.scope y := by first | exact Or.inl rfl | exact Or.inr (Or.inl rfl) | exact Or.inr (Or.inr rfl)) (hl : (enc z).length = n := by rfl)
    (hdb : (x == ("__debug__" : Str)) = false := by decide) (hd1 : (y == ("__debug__" : Str)) = false := by decide) (hcd : (y == ("__classdict__" : Str)) = false := by decide)
    (he : starEach (.Name y py :: es) X.env = (false, eval (.Name y py) X.env) :: starEach es X.env := by rfl) (hpl : (backTo pos (starEach es X.env)).any (·.1) = false := by rfl) :
    DE X E (.Call (.Name x p) (.Name y py :: es) [] pos) ρ (.ok (f u z).1) (ρ1.set i (.own bb (enc0 (f u z).2))) := de_callL u z C h hk hg hN hv ho ha hi hl hd hdb hd1 hcd he hpl
/-- _law_pick(stream, items) -/
theorem dpick {β : Type} {e : Expr} (d : β) (enc : β → D) (u : S3) (xs : List β) (i : Nat) (C : Cp X E k) (h : KnL X.prog X.w X.K X.mg X.base "_law_pick" 2 1 encS (fun ds : List D => [.lst ds]) pickF (fun _ ds => 1 ≤ ds.length ∧ ds.length < 1000)) (ha : DE X E e ρ (.ok (.lst (xs.map enc))) ρ1) (hx : 1 ≤ xs.length ∧ xs.length < 1000) (hi : ρ1[i]? = some (.own bb (encS u)) := by rfl) (ho : ∃ b xs0, ρ[i]? = some (.own b xs0) := by exact ⟨_, _, rfl⟩) (hk : 2 ≤ k := by decide) (hg : Gl X "_law_pick" := by rfl) (hN : X.N[i]? = some y := by rfl) (hv : Vis X.env.scope y := by first | exact Or.inl rfl | exact Or.inr (Or.inl rfl) | exact Or.inr (Or.inr rfl))
    (hd1 : (y == ("__debug__" : Str)) = false := by decide) (hcd : (y == ("__classdict__" : Str)) = false := by decide) (hs : starEach [e] X.env = (false, eval e X.env) :: starEach [] X.env := by rfl)
    (he : starEach [.Name y py, e] X.env = (false, eval (.Name y py) X.env) :: starEach [e] X.env := by rfl) (hpl : (backTo pos (starEach [e] X.env)).any (·.1) = false := by rfl) :
    DE X E (.Call (.Name "_law_pick" p) [.Name y py, e] [] pos) ρ (.ok (enc (pickT d u xs).1)) (ρ1.set i (.own bb (encS (pickT d u xs).2))) := by
  have := dcl (p := p) (pos := pos) (py := py) u (xs.map enc) i C h (a1 ha hs) ⟨by rw [List.length_map]; exact hx.1, by rw [List.length_map]; exact hx.2⟩ hi ho hk hg hN hv rfl (by decide) hd1 hcd he hpl
  rw [pickF_T (d := d) hx.1] at this
  exact this
/-- range(n) -/
theorem drange {m : Nat} {tg a : Expr} (hm : X.mg "range" = none) (h : DE X E a ρ (.ok (dIn m)) ρ1) (h1 : m ≤ 16000000) (hg : Gl X "range" := by rfl) (hs : starEach [a] X.env = [(false, eval a X.env)] := by rfl) : DI X E tg (.Call (.Name "range" p) [a] [] pos) ρ (.ok ((List.range m).map fun i : Nat => dIn i)) ρ1 := by
  have h := di_range1 (tg := tg) (p := p) (pos := pos) hg hm h (by omega) (by omega) hs
  have e : upto 0 ((m : Int)).toNat = (List.range m).map fun i : Nat => dIn i := by
    unfold upto
    rw [Int.toNat_natCast]
    refine List.map_congr_left fun i _ => ?_
    rw [Int.zero_add]
  rw [e] at h
  exact h
end
section
variable {P : Program} {w : World} {K : PySem.W.Frag} {mg : Str → Option Value} {base : Heap} {CP CI : Addr}
/-- _law_steps -/
abbrev KStp (P : Program) (w : World) (K : PySem.W.Frag) (mg : Str → Option Value) (base : Heap) := KnL P w K mg base "_law_steps" 2 1 encS (fun m : Nat => [dIn m]) (fun u m => (.tup ((stepsF u m).1.map dIn), (stepsF u m).2)) (fun _ m => m ≤ 100)
abbrev s66 : Stmt := top 66
theorem sc66 : FnScope ["_law_stream_here", "_law_most", "_law_turn"] ["_law_stream_here", "_law_most"] (defScope s66) := ⟨rfl, rfl, rfl, by decide +kernel, rfl, by decide +kernel, by decide +kernel⟩
theorem k66 (M : Md K mg CP CI) (F : Df K mg "_law_steps" s66 ["_law_stream_here", "_law_most"]) (k57 : KDraw P w K mg base) : KStp P w K mg base := by
  refine knL_df F sc66 (body := fun a cdv A outer s H E u m C hd => ?_)
  have hd : m ≤ 100 := hd
  have lt := draw_lt u (show 1 ≤ m + 1 by omega)
  refine dss_one (ds_ret (d := .tup ((stepsF u m).1.map dIn)) (dtupL M.tuple (DE.to (dlcS (j := 2) (s := 0) (b := true) (xs := List.range (drawF u (m + 1)).1) (enc := dIn) (enc0 := encS) (g := fun v (_ : Nat) => (dIn (drawF v 3).1, (drawF v 3).2)) (P := fun _ => True) (drawF u (m + 1)).2 C (drange M.range (dcl u (m + 1) 0 C.toCp k57 (a1 (daddN (dv 1) de_int)) ⟨by omega, by omega⟩) (by omega)) ⟨fun s0 H Cc cl fp xe cp a _ v _ => dcl v 3 0 cp k57 (a1 de_int) ⟨by decide, by decide⟩, fun _ _ _ _ => trivial⟩ rfl trivial (by rw [List.length_range]; omega)) ?_)) ⟨rfl, ?_⟩)
  · rw [mapS_T (g := fun v (_ : Nat) => drawF v 3)]
    rfl
  · have e := mapS_T (g := fun v (_ : Nat) => drawF v 3) (enc := dIn) (xs := List.range (drawF u (m + 1)).1) (u := (drawF u (m + 1)).2)
    rw [e]
    rfl
/-- _law_pairs -/
abbrev KPrs (P : Program) (w : World) (K : PySem.W.Frag) (mg : Str → Option Value) (base : Heap) := KnL P w K mg base "_law_pairs" 3 0 encS (fun _ : Unit => []) (fun u _ => (encR (pairsF u).1, (pairsF u).2)) (fun _ _ => True)
abbrev s77 : Stmt := top 77
theorem sc77 : FnScope ["_law_stream_here", "_law_some", "_law_turn"] ["_law_stream_here"] (defScope s77) := ⟨rfl, rfl, rfl, by decide +kernel, rfl, by decide +kernel, by decide +kernel⟩
theorem pairD_ok (u : S3) (i : Nat) : (pairD u i).1.1 ≤ 99 ∧ (pairD u i).1.2 ≤ 99 := by
  have h1 := pickT_mem (d := 0) (u := u) (xs := [0, 1, 2, 10, 99]) (by decide)
  have h2 := draw_lt (pickT 0 u [0, 1, 2, 10, 99]).2 (show 1 ≤ 12 by decide)
  refine ⟨?_, by show (drawF _ 12).1 ≤ 99; omega⟩
  show (pickT 0 u [0, 1, 2, 10, 99]).1 ≤ 99
  simp only [List.mem_cons, List.not_mem_nil, or_false] at h1
  omega
theorem k77 (M : Md K mg CP CI) (F : Df K mg "_law_pairs" s77 ["_law_stream_here"]) (k57 : KDraw P w K mg base) (k58 : KPick P w K mg base) : KPrs P w K mg base := by
  refine knL_df F sc77 (body := fun a cdv A outer s H E u _ C _ => ?_)
  have lt := draw_lt u (show 1 ≤ 5 by decide)
  have em := mapS_T (g := pairD) (enc := encQ) (xs := List.range (drawF u 5).1) (u := (drawF u 5).2)
  refine dss_cons (dsetS (ni := 1) (j := 2) (s := 0) (b := true) (xs := List.range (drawF u 5).1) (enc := dIn) (enc0 := encS) (g := fun v (i : Nat) => (encQ (pairD v i).1, (pairD v i).2)) (P := fun _ => True) (drawF u 5).2 C (drange M.range (dcl u 5 0 C.toCp k57 (a1 de_int) ⟨by decide, by decide⟩) (by omega)) ⟨fun s0 H Cc cl fp xe cp a _ v _ => de_tup (a2 (dpick 0 dIn v [0, 1, 2, 10, 99] 0 cp k58 (de_lst (da_cons de_int (da_cons de_int (da_cons de_int (da_cons de_int (da_cons de_int da_nil))))) (by decide)) ⟨by decide, by decide⟩) (dcl (pickT 0 v [0, 1, 2, 10, 99]).2 12 0 cp k57 (a1 de_int) ⟨by decide, by decide⟩)) (Nat.le_of_ble_eq_true rfl), fun _ _ _ _ => trivial⟩ rfl trivial (by rw [List.length_range]; omega) ?_)
  rw [em]
  have all : ∀ p ∈ (mapT pairD (drawF u 5).2 (List.range (drawF u 5).1)).1, p.1 ≤ 99 ∧ p.2 ≤ 99 := mapT_mem (P := fun p : NP => p.1 ≤ 99 ∧ p.2 ≤ 99) pairD_ok
  exact dss_one (ds_ret (dtupL M.tuple (dsortS C.toCp M.sorted M.set (dv 1) (by rw [mapT_len, List.length_range]; omega) all)) ⟨rfl, rfl⟩)
end
end Kd
set_option Elab.async false
set_option linter.all false
set_option maxRecDepth 100000
set_option maxHeartbeats 2000000
/-! the walk of the law: drawn addresses, looks -/
namespace Kd
open PySem PySem.Spec PyProof.Rows L2
variable [LT]
def timesL : List Nat := [0, 1, 2, 10, 99, 10 ^ 30, 10 ^ 29 + 7]
def elD (u : S3) (_ : Nat) : AEl × S3 :=
  if (drawF (pickT 0 u timesL).2 2).1 = 0 then (.rep ((stepsF (drawF (pickT 0 u timesL).2 2).2 2).1 ++ [0]) (pickT 0 u timesL).1, (stepsF (drawF (pickT 0 u timesL).2 2).2 2).2)
  else (.one (drawF (drawF (pickT 0 u timesL).2 2).2 3).1, (drawF (drawF (pickT 0 u timesL).2 2).2 3).2)
def addrD (u : S3) : List AEl × S3 := mapT elD (drawF u 5).2 (List.range (drawF u 5).1)
def namesL : List T := [[102], tVar, tWord, [97, 98, 99, 100, 101, 102, 103, 104], [107]]
def lookD (u : S3) : Look × S3 :=
  if (drawF u 4).1 < 2 then (.word (pickT [] (drawF u 4).2 namesL).1 (drawF (pickT [] (drawF u 4).2 namesL).2 4).1, (drawF (pickT [] (drawF u 4).2 namesL).2 4).2)
  else if (drawF u 4).1 = 2 then (.fn, (drawF u 4).2) else (.var (pickT 0 (drawF u 4).2 [1, 2, 10, 10 ^ 31]).1, (pickT 0 (drawF u 4).2 [1, 2, 10, 10 ^ 31]).2)
section
variable {X : Cx} {E : XK} {ρ : List Sl} {p1 p2 pos : Pos} {j1 j2 : Nat} {n : Nat}
theorem dpow10 (n : Nat) (hn : n ≤ 1000 := by decide) : DE X E (.BinOp (.Constant (.int 10) j1 p1) .Pow (.Constant (.int (n : Int)) j2 p2) pos) ρ (.ok (dIn (10 ^ n))) ρ := DE.to (de_op op_pow (op2_I (i := 10) (j := (n : Int)) ⟨by omega, by omega, by decide⟩) de_int de_int) (by
  have e : (10 : Int) ^ ((n : Int)).toNat = ((10 ^ n : Nat) : Int) := by rw [Int.toNat_natCast, Int.natCast_pow]; rfl
  rw [e])
end
theorem range_take {n i : Nat} (h : i < n) : (List.range n).take (i + 1) = (List.range n).take i ++ [i] := by
  rw [List.take_succ, List.getElem?_range h]
  rfl
section
variable {P : Program} {w : World} {K : PySem.W.Frag} {mg : Str → Option Value} {base : Heap} {CP CI : Addr}
/-- _law_address -/
abbrev KAdd (P : Program) (w : World) (K : PySem.W.Frag) (mg : Str → Option Value) (base : Heap) := KnL P w K mg base "_law_address" 3 0 encS (fun _ : Unit => []) (fun u _ => (encA (addrD u).1, (addrD u).2)) (fun _ _ => True)
abbrev s67 : Stmt := top 67
theorem sc67 : FnScope ["_law_stream_here", "_law_found", "_law_turn", "_law_times"] ["_law_stream_here"] (defScope s67) := ⟨rfl, rfl, rfl, by decide +kernel, rfl, by decide +kernel, by decide +kernel⟩
theorem k67 (M : Md K mg CP CI) (F : Df K mg "_law_address" s67 ["_law_stream_here"]) (k57 : KDraw P w K mg base) (k58 : KPick P w K mg base) (k66 : KStp P w K mg base) : KAdd P w K mg base := by
  refine knL_df F sc67 (body := fun a cdv A outer s H E u _ C _ => ?_)
  have lt := draw_lt u (show 1 ≤ 5 by decide)
  generalize hn : (drawF u 5).1 = n at lt
  generalize hv : (drawF u 5).2 = v
  have ea : addrD u = mapT elD v (List.range n) := by unfold addrD; rw [hn, hv]
  refine dss_cons (ds_setOwn (i := 1) C.nd rfl (.inl rfl) da_nil (by decide) (Nat.le_of_ble_eq_true rfl) ?_)
  refine dss_cons (ds_for (ds := (List.range n).map fun i : Nat => dIn i) C.po C.calm (drange M.range (DE.to (dcl u 5 0 C.toCp k57 (a1 de_int) ⟨by decide, by decide⟩) (by rw [hn])) (by omega)) (fun i ρ => ∃ d2 d3, ρ = [.own true (encS (mapT elD v ((List.range n).take i)).2), .own false ((mapT elD v ((List.range n).take i)).1.map encE), d2, d3]) ⟨.no, .no, by rw [hv]; rfl⟩ (fun i ρ d hI hdi => ?_) fun ρ hI => ?_)
  · obtain ⟨d2, d3, rfl⟩ := hI
    rw [List.getElem?_map] at hdi
    cases hp : (List.range n)[i]? with
    | none => rw [hp] at hdi; cases hdi
    | some m =>
      rw [hp] at hdi
      cases hdi
      have hi : i < n := by
        have := (List.getElem?_eq_some_iff.mp hp).1
        rwa [List.length_range] at this
      have hal : ((mapT elD v ((List.range n).take i)).1.map encE).length ≤ 16000000 := by rw [List.length_map, mapT_len, List.length_take, List.length_range]; omega
      rw [range_take hi, mapT_snoc]
      generalize mapT elD v ((List.range n).take i) = acc at hal
      obtain ⟨as, x⟩ := acc
      show ∃ ρa, DG _ _ _ _ _ ∧ _
      refine ⟨_, gn (i := 2) C.toCp, ?_⟩
      refine dss_cons (dset (i := 3) C.toCp (dpick 0 dIn x timesL 0 C.toCp k58 (de_lst (da_cons de_int (da_cons de_int (da_cons de_int (da_cons de_int (da_cons de_int (da_cons (dpow10 30) (da_cons (daddN (j := 7) (dpow10 29) de_int) da_nil))))))) (by decide)) ⟨by decide, by decide⟩) ?_)
      by_cases hc : (drawF (pickT 0 x timesL).2 2).1 = 0
      · have e : elD x i = (.rep ((stepsF (drawF (pickT 0 x timesL).2 2).2 2).1 ++ [0]) (pickT 0 x timesL).1, (stepsF (drawF (pickT 0 x timesL).2 2).2 2).2) := by unfold elD; rw [if_pos hc]
        rw [e]
        refine dss_one (ds_app (i := 1) (b2 := false) rfl (.inl rfl) rfl (de_if (k := true) (DT.to (teq (u := .int ((drawF (pickT 0 x timesL).2 2).1 : Int)) (v := .int 0) (dcl (pickT 0 x timesL).2 2 0 C.toCp k57 (a1 de_int) ⟨by decide, by decide⟩) de_int) (by rw [hc]; rfl)) (fun _ => de_tup (a2 (dcatT (ds := (stepsF (drawF (pickT 0 x timesL).2 2).2 2).1.map dIn) (es := [dIn 0]) (dcl (drawF (pickT 0 x timesL).2 2).2 2 0 C.toCp k66 (a1 de_int) (by show 2 ≤ 100; decide)) (de_tup (a1 de_int) (by decide)) ?_) (dv 3)) (Nat.le_of_ble_eq_true rfl)) fun z => by cases z) rfl hal ⟨.dat (dIn m), .dat (dIn (pickT 0 x timesL).1), ?_⟩)
        · rw [List.length_map]
          unfold stepsF
          rw [mapT_len, List.length_range]
          have := draw_lt (drawF (pickT 0 x timesL).2 2).2 (show 1 ≤ 2 + 1 by decide)
          show _ + 1 ≤ _
          omega
        · rw [List.map_append]
          show _ = [_, Sl.own false (as.map encE ++ [.tup [.tup (((stepsF (drawF (pickT 0 x timesL).2 2).2 2).1 ++ [0]).map dIn), dIn (pickT 0 x timesL).1]]), _, _]
          rw [List.map_append]
          rfl
      · have e : elD x i = (.one (drawF (drawF (pickT 0 x timesL).2 2).2 3).1, (drawF (drawF (pickT 0 x timesL).2 2).2 3).2) := by unfold elD; rw [if_neg hc]
        rw [e]
        refine dss_one (ds_app (i := 1) (b2 := false) rfl (.inl rfl) rfl (de_if (k := false) (DT.to (teq (u := .int ((drawF (pickT 0 x timesL).2 2).1 : Int)) (v := .int 0) (dcl (pickT 0 x timesL).2 2 0 C.toCp k57 (a1 de_int) ⟨by decide, by decide⟩) de_int) (decide_eq_false fun q => hc (by injection q with q; omega))) (fun z => by cases z) fun _ => dcl (drawF (pickT 0 x timesL).2 2).2 3 0 C.toCp k57 (a1 de_int) ⟨by decide, by decide⟩) rfl hal ⟨.dat (dIn m), .dat (dIn (pickT 0 x timesL).1), ?_⟩)
        rw [List.map_append]
        rfl
  · obtain ⟨d2, d3, rfl⟩ := hI
    rw [List.length_map, List.length_range, List.take_of_length_le (by rw [List.length_range]; exact Nat.le_refl _), ← ea]
    refine dss_freeze (i := 1) rfl ?_
    exact dss_one (ds_ret (dtupL M.tuple (dv 1)) ⟨rfl, rfl⟩)
/-- _law_drawn_look -/
abbrev KDLk (P : Program) (w : World) (K : PySem.W.Frag) (mg : Str → Option Value) (base : Heap) := KnL P w K mg base "_law_drawn_look" 3 0 encS (fun _ : Unit => []) (fun u _ => (encK (lookD u).1, (lookD u).2)) (fun _ _ => True)
abbrev s68 : Stmt := top 68
theorem sc68 : FnScope ["_law_stream_here", "_law_way"] ["_law_stream_here"] (defScope s68) := ⟨rfl, rfl, rfl, by decide +kernel, rfl, by decide +kernel, by decide +kernel⟩
theorem k68 (M : Md K mg CP CI) (F : Df K mg "_law_drawn_look" s68 ["_law_stream_here"]) (k57 : KDraw P w K mg base) (k58 : KPick P w K mg base) : KDLk P w K mg base := by
  refine knL_df F sc68 (body := fun a cdv A outer s H E u _ C _ => ?_)
  refine dss_cons (dset (i := 1) C.toCp (dcl u 4 0 C.toCp k57 (a1 de_int) ⟨by decide, by decide⟩) ?_)
  by_cases h1 : (drawF u 4).1 < 2
  · have e : lookD u = (.word (pickT [] (drawF u 4).2 namesL).1 (drawF (pickT [] (drawF u 4).2 namesL).2 4).1, (drawF (pickT [] (drawF u 4).2 namesL).2 4).2) := by unfold lookD; rw [if_pos h1]
    rw [e]
    refine dss_cons (ds_if (kb := true) (DT.to (dt_cmp op_lt (op2_I0 (i := ((drawF u 4).1 : Int)) (j := 2)) (dv 1) de_int (nomark _)) (decide_eq_true (by omega))) (fun _ => ?_) fun z => by cases z)
    exact dss_one (ds_ret (de_tup (a3 (lit (l := tWord)) (dpick [] dL (drawF u 4).2 namesL 0 C.toCp k58 (de_lst (da_cons lit (da_cons lit (da_cons lit (da_cons lit (da_cons lit da_nil))))) (by decide)) ⟨by decide, by decide⟩) (dcl (pickT [] (drawF u 4).2 namesL).2 4 0 C.toCp k57 (a1 de_int) ⟨by decide, by decide⟩)) (Nat.le_of_ble_eq_true rfl)) ⟨rfl, rfl⟩)
  · refine dss_cons (ds_if (kb := false) (DT.to (dt_cmp op_lt (op2_I0 (i := ((drawF u 4).1 : Int)) (j := 2)) (dv 1) de_int (nomark _)) (decide_eq_false (by omega))) (fun z => by cases z) fun _ => dss_nil ?_)
    by_cases h2 : (drawF u 4).1 = 2
    · have e : lookD u = (.fn, (drawF u 4).2) := by unfold lookD; rw [if_neg h1, if_pos h2]
      rw [e]
      exact dss_one (ds_ret (de_if (k := true) (DT.to (teq (u := .int ((drawF u 4).1 : Int)) (v := .int 2) (dv 1) de_int) (by rw [h2]; rfl)) (fun _ => de_tup (a1 (lit (l := tFun))) (Nat.le_of_ble_eq_true rfl)) fun z => by cases z) ⟨rfl, rfl⟩)
    · have e : lookD u = (.var (pickT 0 (drawF u 4).2 [1, 2, 10, 10 ^ 31]).1, (pickT 0 (drawF u 4).2 [1, 2, 10, 10 ^ 31]).2) := by unfold lookD; rw [if_neg h1, if_neg h2]
      rw [e]
      exact dss_one (ds_ret (de_if (k := false) (DT.to (teq (u := .int ((drawF u 4).1 : Int)) (v := .int 2) (dv 1) de_int) (decide_eq_false fun q => h2 (by injection q with q; omega))) (fun z => by cases z) fun _ => de_tup (a2 (lit (l := tVar)) (dpick 0 dIn (drawF u 4).2 [1, 2, 10, 10 ^ 31] 0 C.toCp k58 (de_lst (da_cons de_int (da_cons de_int (da_cons de_int (da_cons (dpow10 31) da_nil)))) (by decide)) ⟨by decide, by decide⟩)) (Nat.le_of_ble_eq_true rfl)) ⟨rfl, rfl⟩)
end
end Kd
set_option Elab.async false
set_option linter.all false
set_option maxRecDepth 100000
set_option maxHeartbeats 2000000
/-! the walk of the law: bent texts -/
namespace Kd
open PySem PySem.Spec PyProof.Rows L2
variable [LT]
def signs0 : T := [32, 46, 45, 40, 41, 42, 58, 44, 47, 48, 49, 50, 51, 97, 102, 107]
def signs1 : List T := [[10], tWord ++ [32], tVar ++ [32, 49], tFun, [57, 57], [48, 48]]
def signsL : List T := signs0.map (fun c => [c]) ++ signs1
def bentT (w a : Nat) (sg s : T) : T :=
  if w < 2 then s.take a ++ sg ++ s.drop a
  else if w = 2 then s.take a ++ s.drop (a + 1)
  else if w = 3 then s.take a ++ sg ++ s.drop (a + 1)
  else if w = 4 then s.take a ++ ((s.drop a).take 2).reverse ++ s.drop (a + 2)
  else s.take a ++ (s.drop a).take 2 ++ s.drop a
def bentF (u : S3) (s : T) : T × S3 :=
  (bentT (drawF (drawF u (s.length + 1)).2 6).1 (drawF u (s.length + 1)).1 (pickT [] (drawF (drawF u (s.length + 1)).2 6).2 signsL).1 s, (pickT [] (drawF (drawF u (s.length + 1)).2 6).2 signsL).2)
theorem signsL_ok : ∀ t ∈ signsL, t.length ≤ 5 ∧ asc t := by
  intro t ht
  have : t.length ≤ 5 ∧ t.all (· < 128) = true := by
    have h : signsL.all (fun t => decide (t.length ≤ 5) && t.all (· < 128)) = true := by decide
    have := List.all_eq_true.mp h t ht
    rw [Bool.and_eq_true, decide_eq_true_eq] at this
    exact this
  exact ⟨this.1, fun c hc => by simpa using List.all_eq_true.mp this.2 c hc⟩
section
variable {P : Program} {w : World} {K : PySem.W.Frag} {mg : Str → Option Value} {base : Heap} {CP CI : Addr}
/-- _law_bent_text -/
abbrev KBnt (P : Program) (w : World) (K : PySem.W.Frag) (mg : Str → Option Value) (base : Heap) := KnL P w K mg base "_law_bent_text" 3 1 encS (fun s : T => [dL s]) (fun u s => (dL (bentF u s).1, (bentF u s).2)) (fun _ s => s.length ≤ 1000)
abbrev s64 : Stmt := top 64
theorem sc64 : FnScope ["_law_stream_here", "_law_text", "_law_at", "_law_way", "_law_sign", "_law_both"] ["_law_stream_here", "_law_text"] (defScope s64) := ⟨rfl, rfl, rfl, by decide +kernel, rfl, by decide +kernel, by decide +kernel⟩
theorem k64 (M : Md K mg CP CI) (F : Df K mg "_law_bent_text" s64 ["_law_stream_here", "_law_text"]) (k57 : KDraw P w K mg base) (k58 : KPick P w K mg base) : KBnt P w K mg base := by
  refine knL_df F sc64 (body := fun a cdv A outer s0 H E u s C hd => ?_)
  have hd : s.length ≤ 1000 := hd
  have hz : s.length ≤ 16000000 := by omega
  have lt1 := draw_lt u (show 1 ≤ s.length + 1 by omega)
  refine dss_cons (ds_par (i := 2) (j := 3) C.calm C.nd rfl rfl (by decide) rfl rfl (a2 (dcl u (s.length + 1) 0 C.toCp k57 (a1 (daddN (j := 1) (llen M.len (dv 1) hz) de_int)) ⟨by omega, by omega⟩) (dcl (drawF u (s.length + 1)).2 6 0 C.toCp k57 (a1 de_int) ⟨by decide, by decide⟩)) (Nat.le_of_ble_eq_true rfl) (Nat.le_of_ble_eq_true rfl) ?_ rfl)
  have ms := signsL_ok _ (pickT_mem (d := []) (u := (drawF (drawF u (s.length + 1)).2 6).2) (xs := signsL) (by decide))
  refine dss_cons (dset (i := 4) (d := dL (pickT [] (drawF (drawF u (s.length + 1)).2 6).2 signsL).1) C.toCp (dpick [] dL (drawF (drawF u (s.length + 1)).2 6).2 signsL 0 C.toCp k58 (dcatL (ds := (signs0.map fun c => dL [c])) (es2 := signs1.map dL) (dlistS C.toCp M.list (lit (l := signs0)) (by decide)) (de_lst (da_cons lit (da_cons lit (da_cons lit (da_cons lit (da_cons lit (da_cons lit da_nil)))))) (by decide)) (by decide)) ⟨by decide, by decide⟩) ?_)
  have eb : bentF u s = (bentT (drawF (drawF u (s.length + 1)).2 6).1 (drawF u (s.length + 1)).1 (pickT [] (drawF (drawF u (s.length + 1)).2 6).2 signsL).1 s, (pickT [] (drawF (drawF u (s.length + 1)).2 6).2 signsL).2) := rfl
  rw [eb]
  generalize (pickT [] (drawF (drawF u (s.length + 1)).2 6).2 signsL) = q3 at ms
  generalize (drawF (drawF u (s.length + 1)).2 6).1 = wy
  generalize (drawF u (s.length + 1)).1 = at0 at lt1
  obtain ⟨sg, u3⟩ := q3
  have ms : sg.length ≤ 5 ∧ asc sg := ms
  have tk : (s.take at0).length ≤ 1000 := by rw [List.length_take]; omega
  have dr : ∀ n, (s.drop n).length ≤ 1000 := fun n => by rw [List.length_drop]; omega
  refine dss_cons (ds_if (kb := decide (wy < 2)) (DT.to (dt_cmp op_lt (op2_I0 (i := (wy : Int)) (j := 2)) (dv 3) de_int (nomark _)) (decide_eq_decide.mpr (by omega))) (fun h => ?_) fun h => dss_nil ?_)
  · have h : wy < 2 := of_decide_eq_true h
    have e : bentT wy at0 sg s = s.take at0 ++ sg ++ s.drop at0 := by unfold bentT; rw [if_pos h]
    rw [e]
    refine dss_one (ds_ret (ladd (s := s.take at0 ++ sg) (t := s.drop at0) (ladd (s := s.take at0) (t := sg) (lupto (dv 1) (dv 2) hz) (dv 4) (by omega)) (lfrom (dv 1) (dv 2) hz) ?_) ⟨rfl, rfl⟩)
    rw [List.length_append]
    have := dr at0
    omega
  have h0 : ¬ wy < 2 := of_decide_eq_false h
  clear h
  refine dss_cons (ds_if (kb := decide (wy = 2)) (DT.to (teq (u := .int (wy : Int)) (v := .int 2) (dv 3) de_int) (decide_eq_decide.mpr ⟨fun q => by injection q with q; omega, fun q => by rw [q]; rfl⟩)) (fun h => ?_) fun h => dss_nil ?_)
  · have h : wy = 2 := of_decide_eq_true h
    have e : bentT wy at0 sg s = s.take at0 ++ s.drop (at0 + 1) := by unfold bentT; rw [if_neg h0, if_pos h]
    rw [e]
    refine dss_one (ds_ret (ladd (s := s.take at0) (t := s.drop (at0 + 1)) (lupto (dv 1) (dv 2) hz) (lfrom (dv 1) (daddN (j := 1) (dv 2) de_int) hz) ?_) ⟨rfl, rfl⟩)
    have := dr (at0 + 1)
    omega
  have h2 : ¬ wy = 2 := of_decide_eq_false h
  clear h
  refine dss_cons (ds_if (kb := decide (wy = 3)) (DT.to (teq (u := .int (wy : Int)) (v := .int 3) (dv 3) de_int) (decide_eq_decide.mpr ⟨fun q => by injection q with q; omega, fun q => by rw [q]; rfl⟩)) (fun h => ?_) fun h => dss_nil ?_)
  · have h : wy = 3 := of_decide_eq_true h
    have e : bentT wy at0 sg s = s.take at0 ++ sg ++ s.drop (at0 + 1) := by unfold bentT; rw [if_neg h0, if_neg h2, if_pos h]
    rw [e]
    refine dss_one (ds_ret (ladd (s := s.take at0 ++ sg) (t := s.drop (at0 + 1)) (ladd (s := s.take at0) (t := sg) (lupto (dv 1) (dv 2) hz) (dv 4) (by omega)) (lfrom (dv 1) (daddN (j := 1) (dv 2) de_int) hz) ?_) ⟨rfl, rfl⟩)
    rw [List.length_append]
    have := dr (at0 + 1)
    omega
  have h3 : ¬ wy = 3 := of_decide_eq_false h
  clear h
  have mid : (s.drop at0).take (at0 + 2 - at0) = (s.drop at0).take 2 := by rw [show at0 + 2 - at0 = 2 by omega]
  have ml : ((s.drop at0).take 2).length ≤ 2 := by rw [List.length_take]; omega
  refine dss_cons (ds_if (kb := decide (wy = 4)) (DT.to (teq (u := .int (wy : Int)) (v := .int 4) (dv 3) de_int) (decide_eq_decide.mpr ⟨fun q => by injection q with q; omega, fun q => by rw [q]; rfl⟩)) (fun h => ?_) fun h => dss_nil ?_)
  · have h : wy = 4 := of_decide_eq_true h
    have e : bentT wy at0 sg s = s.take at0 ++ ((s.drop at0).take 2).reverse ++ s.drop (at0 + 2) := by unfold bentT; rw [if_neg h0, if_neg h2, if_neg h3, if_pos h]
    rw [e]
    refine dss_cons (dset (i := 5) (d := dL ((s.drop at0).take 2)) C.toCp (DE.to (lmid (dv 1) (dv 2) (daddN (j := 2) (dv 2) de_int) hz) (by rw [mid])) ?_)
    refine dss_one (ds_ret (ladd (s := s.take at0 ++ ((s.drop at0).take 2).reverse) (t := s.drop (at0 + 2)) (ladd (s := s.take at0) (t := ((s.drop at0).take 2).reverse) (lupto (dv 1) (dv 2) hz) (lrev (dv 5) (by omega)) (by rw [List.length_reverse]; omega)) (lfrom (dv 1) (daddN (j := 2) (dv 2) de_int) hz) ?_) ⟨rfl, rfl⟩)
    rw [List.length_append, List.length_reverse]
    have := dr (at0 + 2)
    omega
  have h4 : ¬ wy = 4 := of_decide_eq_false h
  clear h
  have e : bentT wy at0 sg s = s.take at0 ++ (s.drop at0).take 2 ++ s.drop at0 := by unfold bentT; rw [if_neg h0, if_neg h2, if_neg h3, if_neg h4]
  rw [e]
  refine dss_one (ds_ret (ladd (s := s.take at0 ++ (s.drop at0).take 2) (t := s.drop at0) (ladd (s := s.take at0) (t := (s.drop at0).take 2) (lupto (dv 1) (dv 2) hz) (DE.to (lmid (dv 1) (dv 2) (daddN (j := 2) (dv 2) de_int) hz) (by rw [mid])) (by omega)) (lfrom (dv 1) (dv 2) hz) ?_) ⟨rfl, rfl⟩)
  rw [List.length_append]
  have := dr at0
  omega
end
end Kd
set_option Elab.async false
set_option linter.all false
set_option maxRecDepth 100000
set_option maxHeartbeats 2000000
/-! plain laws: what is drawn is of its form, and short -/
namespace Kd
open PySem PySem.Spec PyProof.Rows L2
variable [LT]
theorem steps_ok (u : S3) (m : Nat) : (∀ i ∈ (stepsF u m).1, i ≤ 2) ∧ (stepsF u m).1.length ≤ m := by
  unfold stepsF
  refine ⟨mapT_mem (P := fun i => i ≤ 2) fun v _ => ?_, ?_⟩
  · have := draw_lt v (show 1 ≤ 3 by decide)
    omega
  · rw [mapT_len, List.length_range]
    have := draw_lt u (show 1 ≤ m + 1 by omega)
    omega
theorem num1 {i : Nat} (h : i ≤ 2) : (TL.numL i).length = 1 := by
  rw [TL.numL_lt (by omega)]
  rfl
theorem nums1 : ∀ {l : List Nat}, (∀ i ∈ l, i ≤ 2) → ((l.map TL.numL).map List.length).sum = l.length
  | [], _ => rfl
  | i :: l, h => by
    rw [List.map_cons, List.map_cons, List.sum_cons, num1 (h i List.mem_cons_self), nums1 fun j hj => h j (List.mem_cons_of_mem _ hj), List.length_cons]
    omega
theorem lt40 {i k : Nat} (h : i ≤ k) (hk : k < 10 ^ 40) : i < 10 ^ 40 := Nat.lt_of_le_of_lt h hk
theorem ones_ok {l : List Nat} (h : ∀ i ∈ l, i ≤ 2) (hl : l.length ≤ 10) : okA (l.map .one) ∧ isPlain (l.map .one) = true ∧ (addrText (l.map .one)).length ≤ 20 := by
  have e : (l.map AEl.one).map elText = l.map TL.numL := by rw [List.map_map]; rfl
  have s := nums1 h
  refine ⟨⟨by rw [List.length_map]; omega, fun x hx => ?_, ?_⟩, ?_, ?_⟩
  · obtain ⟨i, hi, rfl⟩ := List.mem_map.mp hx
    exact lt40 (h i hi) (by decide)
  · rw [e]
    have s : ((l.map TL.numL).map List.length).sum = l.length := s
    show ((l.map TL.numL).map List.length).sum ≤ _
    omega
  · unfold isPlain isAddr
    rw [Bool.and_eq_true, List.all_eq_true, List.all_eq_true]
    refine ⟨fun x hx => ?_, fun x hx => ?_⟩
    · obtain ⟨i, hi, rfl⟩ := List.mem_map.mp hx
      exact decide_eq_true (h i hi)
    · obtain ⟨i, hi, rfl⟩ := List.mem_map.mp hx
      rfl
  · have l2 := joinL_len1 46 ((l.map AEl.one).map elText)
    rw [e, List.length_map] at l2
    unfold addrText orNo
    rw [e]
    split
    · decide
    · omega
theorem look_ok (u : S3) : okK (lookD u).1 ∧ isLook (lookD u).1 = true ∧ (lookText (lookD u).1).length ≤ 40 ∧ asc (lookText (lookD u).1) := by
  have nm : ∀ t ∈ namesL, t.length ≤ 8 ∧ asc t ∧ isName t = true := by
    intro t ht
    have h : namesL.all (fun t => decide (t.length ≤ 8) && (t.all (· < 128) && isName t)) = true := by decide
    have := List.all_eq_true.mp h t ht
    rw [Bool.and_eq_true, Bool.and_eq_true, decide_eq_true_eq] at this
    exact ⟨this.1, fun c hc => by simpa using List.all_eq_true.mp this.2.1 c hc, this.2.2⟩
  unfold lookD
  split
  · have h1 := nm _ (pickT_mem (d := []) (u := (drawF u 4).2) (xs := namesL) (by decide))
    have h2 := draw_lt (pickT [] (drawF u 4).2 namesL).2 (show 1 ≤ 4 by decide)
    generalize (pickT [] (drawF u 4).2 namesL) = q at h1 h2
    generalize drawF q.2 4 = r at h2
    have n1 : (TL.numL r.1).length = 1 := by rw [TL.numL_lt (by omega)]; rfl
    refine ⟨⟨by omega, h1.2.1, lt40 (k := 3) (by omega) (by decide)⟩, ?_, ?_, ?_⟩
    · show (isName q.1 && decide (r.1 ≤ 3)) = true
      rw [h1.2.2, decide_eq_true (by omega)]
      rfl
    · show (q.1 ++ ([47] ++ TL.numL r.1)).length ≤ _
      rw [List.length_append, List.length_append, n1]
      show _ + (1 + 1) ≤ _
      omega
    · exact asc_app h1.2.1 (asc_app asc_lit (num_asc _))
  · split
    · exact ⟨trivial, rfl, (show tFun.length ≤ 40 by decide), (show asc tFun from asc_lit)⟩
    · have h1 := pickT_mem (d := 0) (u := (drawF u 4).2) (xs := [1, 2, 10, 10 ^ 31]) (by decide)
      generalize (pickT 0 (drawF u 4).2 [1, 2, 10, 10 ^ 31]) = q at h1
      have b : 1 ≤ q.1 ∧ q.1 ≤ 10 ^ 31 := by
        simp only [List.mem_cons, List.not_mem_nil, or_false] at h1
        rcases h1 with h | h | h | h <;> rw [h] <;> decide
      have l := TL.numL_len (k := 32) (by decide) (Nat.lt_of_le_of_lt b.2 (by decide : 10 ^ 31 < 10 ^ 32))
      refine ⟨lt40 b.2 (by decide), decide_eq_true (by omega), ?_, ?_⟩
      · show (tVar ++ ([32] ++ TL.numL q.1)).length ≤ _
        rw [List.length_append, List.length_append]
        show 3 + (1 + _) ≤ _
        omega
      · exact asc_app asc_lit (asc_app asc_lit (num_asc _))
theorem sortQ_len : ∀ r : List NP, (sortQ r).length ≤ r.length
  | [] => Nat.le_refl _
  | p :: r => by
    have ih := sortQ_len r
    have : ∀ l : List NP, (ins p l).length ≤ l.length + 1 := fun l => by
      induction l with
      | nil => exact Nat.le_refl _
      | cons q l ih =>
        rw [ins]
        split
        · simp
        · split
          · simp
          · rw [List.length_cons, List.length_cons]
            omega
    have := this (sortQ r)
    show (ins p (sortQ r)).length ≤ _
    rw [List.length_cons]
    omega
theorem pairText2 {p : NP} (h : p.1 ≤ 99 ∧ p.2 ≤ 99) : (pairText p).length ≤ 5 := by
  have l1 := TL.numL_len (k := 2) (n := p.1) (by decide) (by omega)
  have l2 := TL.numL_len (k := 2) (n := p.2) (by decide) (by omega)
  show (TL.numL p.1 ++ ([45] ++ TL.numL p.2)).length ≤ _
  rw [List.length_append, List.length_append]
  show _ + (1 + _) ≤ _
  omega
theorem pairs_ok (u : S3) : okR (pairsF u).1 ∧ isRel (pairsF u).1 = true ∧ (relText (pairsF u).1).length ≤ 40 ∧ asc (relText (pairsF u).1) := by
  have all0 : ∀ p ∈ (mapT pairD (drawF u 5).2 (List.range (drawF u 5).1)).1, p.1 ≤ 99 ∧ p.2 ≤ 99 := mapT_mem (P := fun p : NP => p.1 ≤ 99 ∧ p.2 ≤ 99) pairD_ok
  have lt := draw_lt u (show 1 ≤ 5 by decide)
  have len0 : (mapT pairD (drawF u 5).2 (List.range (drawF u 5).1)).1.length ≤ 4 := by rw [mapT_len, List.length_range]; omega
  unfold pairsF
  generalize (mapT pairD (drawF u 5).2 (List.range (drawF u 5).1)).1 = r at all0 len0
  have all : ∀ p ∈ sortQ r, p.1 ≤ 99 ∧ p.2 ≤ 99 := fun p hp => all0 p (mem_sortQ.mp hp)
  have len : (sortQ r).length ≤ 4 := by have := sortQ_len r; omega
  have pw := pw_sortQ r
  generalize sortQ r = q at all len pw
  refine ⟨⟨by show q.length ≤ _; omega, fun p hp => ⟨lt40 (all p hp).1 (by decide), lt40 (all p hp).2 (by decide)⟩⟩, ?_, ?_, ?_⟩
  · show isRel q = true
    unfold isRel
    rw [Bool.and_eq_true, adj_iff, List.all_eq_true]
    exact ⟨fun p hp => by simp [(all p hp).1, (all p hp).2], pw⟩
  · show (relText q).length ≤ 40
    have l1 : ∀ {q : List NP}, (∀ p ∈ q, p.1 ≤ 99 ∧ p.2 ≤ 99) → ((q.map pairText).map List.length).sum ≤ 5 * q.length := fun {q} h => by
      induction q with
      | nil => exact Nat.zero_le _
      | cons p q ih =>
        have h1 := pairText2 (h p List.mem_cons_self)
        have h2 := ih fun x hx => h x (List.mem_cons_of_mem _ hx)
        rw [List.map_cons, List.map_cons, List.sum_cons, List.length_cons]
        omega
    have l1 := l1 all
    have l2 := joinL_len1 32 (q.map pairText)
    rw [List.length_map] at l2
    unfold relText orNo
    split
    · decide
    · omega
  · show asc (relText q)
    unfold relText orNo
    split
    · exact asc_lit
    · exact asc_join asc_lit fun y hy => by
        obtain ⟨p, _, rfl⟩ := List.mem_map.mp hy
        exact asc_app (num_asc _) (asc_app asc_lit (num_asc _))
theorem elD_ok (u : S3) (i : Nat) : okE (elD u i).1 ∧ isEl (elD u i).1 = true ∧ (elText (elD u i).1).length ≤ 41 := by
  have h1 := pickT_mem (d := 0) (u := u) (xs := timesL) (by decide)
  unfold elD
  generalize (pickT 0 u timesL) = q at h1
  have b : q.1 ≤ 10 ^ 30 := by
    have h : timesL.all (fun t => decide (t ≤ 10 ^ 30)) = true := by decide
    simpa using List.all_eq_true.mp h q.1 h1
  split
  · obtain ⟨s1, s2⟩ := steps_ok (drawF q.2 2).2 2
    generalize stepsF (drawF q.2 2).2 2 = st at s1 s2
    have s3 : ∀ i ∈ st.1 ++ [0], i ≤ 2 := fun i hi => by
      rcases List.mem_append.mp hi with hi | hi
      · exact s1 i hi
      · rw [List.mem_singleton.mp hi]; decide
    have s4 : (st.1 ++ [0]).length ≤ 3 := by rw [List.length_append]; show _ + 1 ≤ _; omega
    refine ⟨⟨by show (st.1 ++ [0]).length ≤ _; omega, fun i hi => lt40 (s3 i hi) (by decide), lt40 b (by decide)⟩, ?_, ?_⟩
    · show (isPiece (st.1 ++ [0]) && decide (q.1 ≤ 10 ^ 30)) = true
      rw [decide_eq_true b, Bool.and_true]
      unfold isPiece
      rw [Bool.and_eq_true, Bool.not_eq_true', decide_eq_false_iff_not, List.all_eq_true]
      exact ⟨by simp, fun i hi => decide_eq_true (s3 i hi)⟩
    · have n1 := nums1 s3
      have l2 := joinL_len1 46 ((st.1 ++ [0]).map TL.numL)
      rw [List.length_map] at l2
      have l3 := TL.numL_len (k := 31) (by decide) (Nat.lt_of_le_of_lt b (by decide : 10 ^ 30 < 10 ^ 31))
      show ([40] ++ TL.joinL [46] ((st.1 ++ [0]).map TL.numL) ++ ([41, 42] ++ TL.numL q.1)).length ≤ _
      simp only [List.length_append]
      show 1 + _ + (2 + _) ≤ _
      rw [List.length_append] at s4 l2 n1
      omega
  · have h2 := draw_lt (drawF q.2 2).2 (show 1 ≤ 3 by decide)
    generalize drawF (drawF q.2 2).2 3 = r at h2
    refine ⟨lt40 (k := 2) (by omega) (by decide), decide_eq_true (by omega), ?_⟩
    show (TL.numL r.1).length ≤ _
    rw [num1 (by omega)]
    decide
theorem addr_ok (u : S3) : okA (addrD u).1 ∧ isAddr (addrD u).1 = true ∧ (addrText (addrD u).1).length ≤ 170 := by
  have all : ∀ e ∈ (addrD u).1, okE e ∧ isEl e = true ∧ (elText e).length ≤ 41 := mapT_mem (P := fun e => okE e ∧ isEl e = true ∧ (elText e).length ≤ 41) elD_ok
  have lt := draw_lt u (show 1 ≤ 5 by decide)
  have len : (addrD u).1.length ≤ 4 := by unfold addrD; rw [mapT_len, List.length_range]; omega
  generalize (addrD u).1 = a at all len
  have l1 : ∀ {a : List AEl}, (∀ e ∈ a, okE e ∧ isEl e = true ∧ (elText e).length ≤ 41) → ((a.map elText).map List.length).sum ≤ 41 * a.length := fun {a} h => by
    induction a with
    | nil => exact Nat.zero_le _
    | cons p q ih =>
      have h1 := (h p List.mem_cons_self).2.2
      have h2 := ih fun x hx => h x (List.mem_cons_of_mem _ hx)
      rw [List.map_cons, List.map_cons, List.sum_cons, List.length_cons]
      omega
  have l1 := l1 all
  refine ⟨⟨by omega, fun e he => (all e he).1, by show ((a.map elText).map List.length).sum ≤ _; omega⟩, List.all_eq_true.mpr fun e he => (all e he).2.1, ?_⟩
  have l2 := joinL_len1 46 (a.map elText)
  rw [List.length_map] at l2
  unfold addrText orNo
  split
  · decide
  · omega
end Kd
set_option Elab.async false
set_option linter.all false
set_option maxRecDepth 100000
set_option maxHeartbeats 2000000
/-! the walk of the law: its cases -/
namespace Kd
open PySem PySem.Spec PyProof.Rows L2
variable [LT]
/-- where the defs lie -/
structure Fs where
  fd : Addr
  pd : Addr
  rd : Addr
  fr : Addr
  pr : Addr
  rr : Addr
  fp : Addr
  pp : Addr
  rp : Addr
  fc : Addr
  pc : Addr
  rc : Addr
structure FsM (mg : Str → Option Value) (F : Fs) : Prop where
  fd : mg "format_difference" = some (.ref F.fd)
  pd : mg "parse_difference" = some (.ref F.pd)
  rd : mg "_law_read_difference" = some (.ref F.rd)
  fr : mg "format_relation" = some (.ref F.fr)
  pr : mg "parse_relation" = some (.ref F.pr)
  rr : mg "_law_read_relation" = some (.ref F.rr)
  fp : mg "format_paper" = some (.ref F.fp)
  pp : mg "parse_paper" = some (.ref F.pp)
  rp : mg "_law_read_paper" = some (.ref F.rp)
  fc : mg "format_chain" = some (.ref F.fc)
  pc : mg "parse_chain" = some (.ref F.pc)
  rc : mg "_law_read_chain" = some (.ref F.rc)
inductive Kind where
  | diff (d : Diff)
  | rel (r : List NP)
  | pap (p : Paper)
  | chn (c : Chn)
def Kind.val : Kind → D
  | .diff d => encF d
  | .rel r => encR r
  | .pap p => encP p
  | .chn c => encC c
def Kind.txt : Kind → T
  | .diff d => diffText d
  | .rel r => relText r
  | .pap p => paperText p
  | .chn c => chainText c
def Kind.f (F : Fs) : Kind → Addr
  | .diff _ => F.fd
  | .rel _ => F.fr
  | .pap _ => F.fp
  | .chn _ => F.fc
def Kind.p (F : Fs) : Kind → Addr
  | .diff _ => F.pd
  | .rel _ => F.pr
  | .pap _ => F.pp
  | .chn _ => F.pc
def Kind.r (F : Fs) : Kind → Addr
  | .diff _ => F.rd
  | .rel _ => F.rr
  | .pap _ => F.rp
  | .chn _ => F.rc
abbrev dF (a : Addr) : D := .v (.ref a)
def Kind.enc (F : Fs) (k : Kind) : D := .tup [k.val, dL k.txt, .tup [dF (k.f F), dF (k.p F)], dF (k.r F)]
/-- the drawing functions, whatever they are -/
structure Fn where
  st : S3 → Nat → List Nat × S3
  lk : S3 → Look × S3
  pr : S3 → List NP × S3
  ad : S3 → List AEl × S3
  dr : S3 → Nat → Nat × S3
  pk : S3 → List Paper → Paper × S3
def Fn.c1 (Z : Fn) (u : S3) := Z.st u 5
def Fn.c2 (Z : Fn) (u : S3) := Z.lk (Z.c1 u).2
def Fn.c3 (Z : Fn) (u : S3) := Z.lk (Z.c2 u).2
def Fn.c4 (Z : Fn) (u : S3) := Z.pr (Z.c3 u).2
def Fn.c5 (Z : Fn) (u : S3) := Z.ad (Z.c4 u).2
def Fn.c6 (Z : Fn) (u : S3) := Z.pk (Z.c5 u).2 [Paper.alike (Z.c4 u).1, .unlike (Z.c5 u).1]
def Fn.c7 (Z : Fn) (u : S3) := Z.dr (Z.c6 u).2 3
def Fn.pieceD (Z : Fn) (v : S3) (_ : Nat) : List AEl × S3 := (((Z.st v 3).1 ++ [1]).map .one, (Z.st v 3).2)
def Fn.c8 (Z : Fn) (u : S3) := mapT Z.pieceD (Z.c7 u).2 (List.range (1 + (Z.c7 u).1))
def Fn.rowF (Z : Fn) (u : S3) : Diff := ⟨(Z.c1 u).1.map .one, (Z.c2 u).1, (Z.c3 u).1⟩
def Fn.chnF (Z : Fn) (u : S3) : Chn := ⟨(Z.c1 u).1.map .one, (Z.c8 u).1⟩
def Fn.kindsF (Z : Fn) (u : S3) : List Kind := [.diff (Z.rowF u), .rel (Z.c4 u).1, .pap (Z.c6 u).1, .chn (Z.chnF u)]
/-- what is known of them -/
structure FnB (Z : Fn) : Prop where
  st : ∀ u m, (∀ i ∈ (Z.st u m).1, i ≤ 2) ∧ (Z.st u m).1.length ≤ m
  lk : ∀ u, okK (Z.lk u).1 ∧ isLook (Z.lk u).1 = true ∧ (lookText (Z.lk u).1).length ≤ 40 ∧ asc (lookText (Z.lk u).1)
  pr : ∀ u, okR (Z.pr u).1 ∧ isRel (Z.pr u).1 = true ∧ (relText (Z.pr u).1).length ≤ 40 ∧ asc (relText (Z.pr u).1)
  ad : ∀ u, okA (Z.ad u).1 ∧ isAddr (Z.ad u).1 = true ∧ (addrText (Z.ad u).1).length ≤ 170
  dr : ∀ u h, 1 ≤ h → (Z.dr u h).1 < h
  pk : ∀ u xs, 1 ≤ xs.length → (Z.pk u xs).1 ∈ xs
def fnR : Fn := ⟨stepsF, lookD, pairsF, addrD, drawF, fun u xs => pickT (.alike []) u xs⟩
theorem fnR_ok : FnB fnR := ⟨steps_ok, look_ok, pairs_ok, addr_ok, fun u h hh => draw_lt u hh, fun u xs h => pickT_mem h⟩
theorem ones_enc (l : List Nat) : encA (l.map .one) = .tup (l.map dIn) := by
  unfold encA
  rw [List.map_map]
  rfl
theorem piece_enc (l : List Nat) (i : Nat) : encA ((l ++ [i]).map .one) = .tup (l.map dIn ++ [dIn i]) := by
  rw [ones_enc, List.map_append]
  rfl
section
variable {Z : Fn}
theorem piece_ok (B : FnB Z) (v : S3) (i : Nat) : okA (Z.pieceD v i).1 ∧ isPlain (Z.pieceD v i).1 = true ∧ (addrText (Z.pieceD v i).1).length ≤ 20 ∧ (Z.pieceD v i).1 ≠ [] := by
  obtain ⟨h1, h2⟩ := B.st v 3
  have := ones_ok (l := (Z.st v 3).1 ++ [1]) (fun i hi => by
    rcases List.mem_append.mp hi with hi | hi
    · exact h1 i hi
    · rw [List.mem_singleton.mp hi]; decide) (by rw [List.length_append]; show _ + 1 ≤ _; omega)
  exact ⟨this.1, this.2.1, this.2.2, by unfold Fn.pieceD; simp⟩
theorem row_ok (B : FnB Z) (u : S3) : okD (Z.rowF u) ∧ isDiff (Z.rowF u) = true ∧ (addrText (Z.rowF u).a).length ≤ 20 ∧ (diffText (Z.rowF u)).length ≤ 200 ∧ asc (diffText (Z.rowF u)) := by
  obtain ⟨h1, h2⟩ := B.st u 5
  obtain ⟨a1, a2, a3⟩ := ones_ok h1 (by omega)
  obtain ⟨x1, x2, x3, x4⟩ := B.lk (Z.c1 u).2
  obtain ⟨y1, y2, y3, y4⟩ := B.lk (Z.c2 u).2
  refine ⟨⟨a1, x1, y1⟩, ?_, a3, ?_, ?_⟩
  · show (isPlain _ && isLook _ && isLook _) = true
    rw [Bool.and_eq_true, Bool.and_eq_true]
    exact ⟨⟨a2, x2⟩, y2⟩
  · show (addrText (Z.rowF u).a ++ ([58, 32] ++ (lookText (Z.c2 u).1 ++ ([44, 32] ++ lookText (Z.c3 u).1)))).length ≤ _
    have a3 : (addrText (Z.rowF u).a).length ≤ 20 := a3
    have x3 : (lookText (Z.c2 u).1).length ≤ 40 := x3
    have y3 : (lookText (Z.c3 u).1).length ≤ 40 := y3
    simp only [List.length_append]
    show _ + (2 + (_ + (2 + _))) ≤ _
    omega
  · exact asc_app (addr_asc _) (asc_app asc_lit (asc_app x4 (asc_app asc_lit y4)))
theorem pap_ok (B : FnB Z) (u : S3) : okP (Z.c6 u).1 ∧ isPaper (Z.c6 u).1 = true ∧ (paperText (Z.c6 u).1).length ≤ 200 ∧ asc (paperText (Z.c6 u).1) ∧ ((Z.c6 u).1 = .alike (Z.c4 u).1 ∨ (Z.c6 u).1 = .unlike (Z.c5 u).1) := by
  have m := B.pk (Z.c5 u).2 [Paper.alike (Z.c4 u).1, .unlike (Z.c5 u).1] (by simp)
  have m : (Z.c6 u).1 = .alike (Z.c4 u).1 ∨ (Z.c6 u).1 = .unlike (Z.c5 u).1 := by
    rcases List.mem_cons.mp m with h | h
    · exact .inl h
    · exact .inr (List.mem_singleton.mp h)
  obtain ⟨r1, r2, r3, r4⟩ := B.pr (Z.c3 u).2
  obtain ⟨a1, a2, a3⟩ := B.ad (Z.c4 u).2
  have r3 : (relText (Z.c4 u).1).length ≤ 40 := r3
  have a3 : (addrText (Z.c5 u).1).length ≤ 170 := a3
  rcases m with h | h <;> rw [h]
  · refine ⟨r1, r2, ?_, asc_app asc_lit (asc_app asc_lit r4), .inl rfl⟩
    show (tAlike ++ ([32] ++ relText (Z.c4 u).1)).length ≤ _
    simp only [List.length_append]
    show 5 + (1 + _) ≤ _
    omega
  · refine ⟨a1, a2, ?_, asc_app asc_lit (asc_app asc_lit (addr_asc _)), .inr rfl⟩
    show (tUnlike ++ ([32] ++ addrText (Z.c5 u).1)).length ≤ _
    simp only [List.length_append]
    show 6 + (1 + _) ≤ _
    omega
theorem c8_ok (B : FnB Z) (u : S3) : (∀ a ∈ (Z.c8 u).1, okA a ∧ isPlain a = true ∧ (addrText a).length ≤ 20 ∧ a ≠ []) ∧ (Z.c8 u).1.length ≤ 3 ∧ 1 ≤ (Z.c8 u).1.length := by
  have lt : (Z.c7 u).1 < 3 := B.dr (Z.c6 u).2 3 (by decide)
  unfold Fn.c8
  generalize Z.c7 u = q at lt
  refine ⟨mapT_mem (P := fun a => okA a ∧ isPlain a = true ∧ (addrText a).length ≤ 20 ∧ a ≠ []) (piece_ok B), ?_⟩
  rw [mapT_len, List.length_range]
  omega
theorem sum20 : ∀ {l : List (List AEl)}, (∀ a ∈ l, okA a ∧ isPlain a = true ∧ (addrText a).length ≤ 20 ∧ a ≠ []) → ((l.map addrText).map List.length).sum ≤ 20 * l.length
  | [], _ => Nat.zero_le _
  | p :: q, h => by
    have h1 := (h p List.mem_cons_self).2.2.1
    have h2 := sum20 fun x hx => h x (List.mem_cons_of_mem _ hx)
    rw [List.map_cons, List.map_cons, List.sum_cons, List.length_cons]
    omega
theorem chn_gen {a : List AEl} {l : List (List AEl)} (a1 : okA a) (a2 : isPlain a = true) (a3 : (addrText a).length ≤ 20) (all : ∀ a ∈ l, okA a ∧ isPlain a = true ∧ (addrText a).length ≤ 20 ∧ a ≠ []) (l1 : l.length ≤ 3) (l0 : 1 ≤ l.length) :
    okC ⟨a, l⟩ ∧ isChain ⟨a, l⟩ = true ∧ (chainText ⟨a, l⟩).length ≤ 200 ∧ asc (chainText ⟨a, l⟩) := by
  have sum := sum20 all
  refine ⟨⟨a1, by show l.length ≤ _; omega, fun p hp => (all p hp).1, by show ((l.map addrText).map List.length).sum ≤ _; omega⟩, ?_, ?_, ?_⟩
  · show (isPlain a && !decide (l = []) && l.all fun a => isPlain a && !decide (a = [])) = true
    rw [Bool.and_eq_true, Bool.and_eq_true, List.all_eq_true]
    refine ⟨⟨a2, ?_⟩, fun a ha => ?_⟩
    · have : l ≠ [] := fun c => by rw [c] at l0; exact absurd l0 (by decide)
      simp [this]
    · have := all a ha
      simp [this.2.1, this.2.2.2]
  · show (addrText a ++ ([58, 32] ++ TL.joinL [44, 32] (l.map addrText))).length ≤ _
    have l2 := joinL_len [44, 32] (l.map addrText)
    rw [List.length_map] at l2
    have e2 : l.length * ([44, 32] : List Nat).length = l.length * 2 := rfl
    rw [e2] at l2
    rw [List.length_append, List.length_append]
    have e3 : ([58, 32] : List Nat).length = 2 := rfl
    rw [e3]
    omega
  · exact asc_app (addr_asc _) (asc_app asc_lit (asc_join asc_lit fun y hy => by
      obtain ⟨a, _, rfl⟩ := List.mem_map.mp hy
      exact addr_asc a))
theorem chn_ok (B : FnB Z) (u : S3) : okC (Z.chnF u) ∧ isChain (Z.chnF u) = true ∧ (chainText (Z.chnF u)).length ≤ 200 ∧ asc (chainText (Z.chnF u)) := by
  obtain ⟨h1, h2⟩ := B.st u 5
  obtain ⟨a1, a2, a3⟩ := ones_ok h1 (by omega)
  obtain ⟨all, l1, l0⟩ := c8_ok B u
  exact chn_gen a1 a2 a3 all l1 l0
end
end Kd
set_option Elab.async false
set_option linter.all false
set_option maxRecDepth 100000
set_option maxHeartbeats 2000000
/-! plain law: the program's parsers answer as the law's readers, on every text -/
namespace Kd
open PySem PySem.Spec PyProof.Rows L2
variable [LT]
theorem mapO_sub {α β : Type} {f g : α → Option β} {t : β → Bool} (h : ∀ x, g x = (match f x with | some e => if t e = true then some e else none | none => none)) : ∀ {xs : List α}, mapO g xs = (match mapO f xs with | some a => if a.all t = true then some a else none | none => none)
  | [] => rfl
  | x :: xs => by
    rw [mapO, mapO, h x, mapO_sub h]
    cases f x with
    | none => rfl
    | some b =>
      cases q : t b with
      | false =>
        show (match (if t b = true then some b else none) with | none => none | some b => _) = _
        rw [if_neg (by rw [q]; decide)]
        cases mapO f xs with
        | none => rfl
        | some bs =>
          show none = if (b :: bs).all t = true then some (b :: bs) else none
          rw [List.all_cons, q, Bool.false_and]
          rfl
      | true =>
        show (match (if t b = true then some b else none) with | none => none | some b => _) = _
        rw [if_pos q]
        cases mapO f xs with
        | none => rfl
        | some bs =>
          show (match (if bs.all t = true then some bs else none) with | none => none | some bs => some (b :: bs)) = if (b :: bs).all t = true then some (b :: bs) else none
          rw [List.all_cons, q, Bool.true_and]
          cases bs.all t <;> rfl
theorem child_kid {s : T} (h : s ∈ kids) : childIn s = some (PySem.NumText.digitsVal s) := by unfold childIn; rw [if_pos h]
theorem child_not {s : T} (h : s ∉ kids) : childIn s = none := by unfold childIn; rw [if_neg h]
theorem kid_val {s : T} (h : s ∈ kids) : PySem.NumText.digitsVal s ≤ 2 := by
  rcases kid_cases h with rfl | rfl | rfl <;> decide
theorem kid_head {s : T} (h : s ∈ kids) : s.take 1 ≠ [40] := by
  rcases kid_cases h with rfl | rfl | rfl <;> decide
theorem childs_all : ∀ {st : List T}, (∀ x ∈ st, x ∈ kids) → mapO childIn st = some (st.map PySem.NumText.digitsVal)
  | [], _ => rfl
  | x :: st, h => by
    rw [mapO, child_kid (h x List.mem_cons_self), childs_all fun y hy => h y (List.mem_cons_of_mem _ hy)]
    rfl
theorem childs_none : ∀ {st : List T}, (∃ x ∈ st, x ∉ kids) → mapO childIn st = none
  | [], ⟨x, h, _⟩ => by cases h
  | y :: st, ⟨x, h, hn⟩ => by
    rw [mapO]
    rcases List.mem_cons.mp h with rfl | h
    · rw [child_not hn]
    · rw [childs_none ⟨x, h, hn⟩]
      cases childIn y <;> rfl
theorem el_eq (w : T) : lawEl w = (match elIn w with | some e => if isEl e = true then some e else none | none => none) := by
  unfold lawEl elIn
  by_cases h : w ∈ kids
  · rw [if_pos h, if_neg (kid_head h), child_kid h]
    show some (AEl.one (PySem.NumText.digitsVal w)) = if isEl (AEl.one (PySem.NumText.digitsVal w)) = true then some (AEl.one (PySem.NumText.digitsVal w)) else none
    rw [if_pos (show isEl (AEl.one (PySem.NumText.digitsVal w)) = true from decide_eq_true (kid_val h))]
  · rw [if_neg h]
    by_cases h1 : w.take 1 = [40]
    · rw [if_pos h1]
      unfold repIn
      generalize hst : TL.spl [46] 0 [] (pt [41, 42] (w.drop 1)).1 = st
      have ne : st ≠ [] := by rw [← hst]; exact spl_ne _ _ _ _
      by_cases ha : ∀ x ∈ st, x ∈ kids
      · rw [childs_all ha]
        have ef : st.filter (fun x => !decide (x ∈ kids)) = [] := List.filter_eq_nil_iff.mpr fun x hx => by simp [ha x hx]
        cases numIn (pt [41, 42] (w.drop 1)).2.2 with
        | none => rfl
        | some n =>
          show (if w.take 1 ≠ [40] ∨ 10 ^ 30 < n then none else if st.filter (fun x => !decide (x ∈ kids)) = [] then some (AEl.rep (st.map PySem.NumText.digitsVal) n) else none) = if isEl (.rep (st.map PySem.NumText.digitsVal) n) = true then some (.rep (st.map PySem.NumText.digitsVal) n) else none
          rw [if_pos ef]
          have ip : isPiece (st.map PySem.NumText.digitsVal) = true := by
            unfold isPiece
            rw [Bool.and_eq_true, Bool.not_eq_true', decide_eq_false_iff_not, List.all_eq_true]
            refine ⟨fun c => ne (List.map_eq_nil_iff.mp c), fun i hi => ?_⟩
            obtain ⟨x, hx, rfl⟩ := List.mem_map.mp hi
            exact decide_eq_true (kid_val (ha x hx))
          have e : isEl (.rep (st.map PySem.NumText.digitsVal) n) = decide (n ≤ 10 ^ 30) := by
            show (isPiece _ && _) = _
            rw [ip, Bool.true_and]
          rw [e]
          by_cases hn : n ≤ 10 ^ 30
          · rw [if_neg (fun c => by rcases c with c | c; exact c h1; exact absurd hn (by omega)), if_pos (decide_eq_true hn)]
          · rw [if_pos (.inr (by omega)), if_neg (by rw [decide_eq_false hn]; decide)]
      · have ⟨x, hx, hn⟩ : ∃ x ∈ st, x ∉ kids := by
          by_cases c : ∃ x ∈ st, x ∉ kids
          · exact c
          · exact absurd (fun x hx => by
              by_cases hk : x ∈ kids
              · exact hk
              · exact absurd ⟨x, hx, hk⟩ c) ha
        rw [childs_none ⟨x, hx, hn⟩]
        have ef : ¬ st.filter (fun x => !decide (x ∈ kids)) = [] := fun c => by
          have := List.filter_eq_nil_iff.mp c x hx
          simp [hn] at this
        cases numIn (pt [41, 42] (w.drop 1)).2.2 with
        | none => rfl
        | some n =>
          show (if w.take 1 ≠ [40] ∨ 10 ^ 30 < n then none else if st.filter (fun x => !decide (x ∈ kids)) = [] then some (AEl.rep (st.map PySem.NumText.digitsVal) n) else none) = none
          rw [if_neg ef]
          split <;> rfl
    · rw [if_neg h1, child_not h]
      cases numIn (pt [41, 42] (w.drop 1)).2.2 with
      | none => rfl
      | some n =>
        show (if w.take 1 ≠ [40] ∨ 10 ^ 30 < n then none else _) = none
        rw [if_pos (.inl h1)]
theorem addr_eq (s : T) : addrIn s = lawAddr s := by
  unfold addrIn lawAddr
  have key : ∀ a, addrRaw s = some a → (if isAddr a = true ∧ addrText a = s then some a else none) = if isAddr a = true then some a else none := fun a h => by
    have te := addrRaw_text h
    by_cases c : isAddr a = true
    · rw [if_pos ⟨c, te⟩, if_pos c]
    · rw [if_neg fun q => c q.1, if_neg c]
  have m := mapO_sub (f := elIn) (g := lawEl) (t := isEl) (fun x => (el_eq x).trans (by cases elIn x <;> rfl)) (xs := pcs false [] s)
  cases q : addrRaw s with
  | none =>
    show none = _
    unfold addrRaw at q
    split at q
    · cases q
    · rename_i h
      rw [if_neg h, m, q]
  | some a =>
    show (if isAddr a = true ∧ addrText a = s then some a else none) = _
    rw [key a q]
    unfold addrRaw at q
    split at q
    · rename_i h
      cases q
      rw [if_pos h]
      rfl
    · rename_i h
      rw [if_neg h, m, q]
      rfl
theorem plain_eq (s : T) : plainIn s = lawPlain s := by
  unfold plainIn lawPlain
  rw [← addr_eq]
  cases q : addrIn s with
  | none => rfl
  | some a =>
    show (if isPlain a = true then some a else none) = if a.all isOne = true then some a else none
    unfold isPlain
    rw [(addrIn_spec q).2.1, Bool.true_and]
theorem kid4_iff {s : T} {n : Nat} (h : numIn s = some n) : decide (n ≤ 3) = decide (s ∈ kids4) := by
  rw [Bool.eq_iff_iff, decide_eq_true_eq, decide_eq_true_eq]
  constructor
  · intro hn
    rw [← numIn_text h, TL.numL_lt (by omega)]
    have : n = 0 ∨ n = 1 ∨ n = 2 ∨ n = 3 := by omega
    rcases this with rfl | rfl | rfl | rfl <;> decide
  · intro hs
    have : s = [48] ∨ s = [49] ∨ s = [50] ∨ s = [51] := by unfold kids4 at hs; simpa using hs
    rcases this with rfl | rfl | rfl | rfl <;> (cases h; decide)
theorem kid4_num {s : T} (h : s ∈ kids4) : numIn s = some (PySem.NumText.digitsVal s) := by
  have : s = [48] ∨ s = [49] ∨ s = [50] ∨ s = [51] := by unfold kids4 at h; simpa using h
  rcases this with rfl | rfl | rfl | rfl <;> decide
theorem look_eq' {s : T} {l : Look} (h : lookRaw s = some l) (ht : lookText l = s) : lookIn s = if isLook l = true then some l else none := by
  unfold lookIn
  rw [h]
  show (if isLook l = true ∧ lookText l = s then some l else none) = _
  by_cases c : isLook l = true
  · rw [if_pos ⟨c, ht⟩, if_pos c]
  · rw [if_neg fun q => c q.1, if_neg c]
theorem look_eq {s : T} (hs : tx s) : lookIn s = lawLook s := by
  cases q : lookRaw s with
  | none =>
    have e : lookIn s = none := by unfold lookIn; rw [q]
    rw [e]
    unfold lawLook
    unfold lookRaw at q
    split at q
    · cases q
    · rename_i h1
      rw [if_neg h1]
      split at q
      · rename_i h2
        rw [if_pos h2]
        cases q2 : numIn (s.drop 4) with
        | none => rfl
        | some n => rw [q2] at q; cases q
      · rename_i h2
        rw [if_neg h2]
        cases q2 : numIn (pt [47] s).2.2 with
        | none => rw [if_neg fun c => by rw [kid4_num c.2] at q2; cases q2]
        | some n => rw [q2] at q; cases q
  | some l =>
    rw [look_eq' q (lookRaw_ok hs q).2]
    unfold lawLook
    unfold lookRaw at q
    split at q
    · rename_i h1
      cases q
      rw [if_pos h1]
      rfl
    · rename_i h1
      rw [if_neg h1]
      split at q
      · rename_i h2
        rw [if_pos h2]
        cases q2 : numIn (s.drop 4) with
        | none => rw [q2] at q; cases q
        | some n =>
          rw [q2] at q
          cases q
          show (if decide (0 < n) = true then some (Look.var n) else none) = if 0 < n then some (Look.var n) else none
          by_cases h : 0 < n
          · rw [if_pos h, if_pos (decide_eq_true h)]
          · rw [if_neg h, if_neg (by rw [decide_eq_false h]; decide)]
      · rename_i h2
        rw [if_neg h2]
        cases q2 : numIn (pt [47] s).2.2 with
        | none => rw [q2] at q; cases q
        | some n =>
          rw [q2] at q
          cases q
          show (if (isName (pt [47] s).1 && decide (n ≤ 3)) = true then some (Look.word (pt [47] s).1 n) else none) = _
          rw [kid4_iff q2]
          by_cases c : isName (pt [47] s).1 = true ∧ (pt [47] s).2.2 ∈ kids4
          · rw [if_pos c, if_pos (by rw [c.1, decide_eq_true c.2]; rfl)]
            have := kid4_num c.2
            rw [q2] at this
            cases this
            rfl
          · rw [if_neg c, if_neg fun z => c (by simpa using z)]
theorem diff_eq {s : T} (hs : tx s) : diffIn s = lawDiff s := by
  have t1 := tx_pt (S := [58, 32]) hs
  have t2 := tx_pt (S := [44, 32]) t1.2
  unfold diffIn lawDiff
  rw [plain_eq, look_eq t2.1, look_eq t2.2]
  cases lawPlain (pt [58, 32] s).1 with
  | none => rfl
  | some a =>
    cases lawLook (pt [44, 32] (pt [58, 32] s).2.2).1 with
    | none => rfl
    | some x => cases lawLook (pt [44, 32] (pt [58, 32] s).2.2).2.2 <;> rfl
theorem rel_eq (s : T) : relIn s = lawRel s := by
  unfold relIn lawRel relRaw
  split
  · rename_i h
    by_cases c : s = [45]
    · rw [if_pos c] at h; cases h
    · rw [if_neg c] at h ⊢
      rw [h]
  · rename_i r h
    by_cases c : s = [45]
    · rw [if_pos c] at h ⊢
      cases h
      rfl
    · rw [if_neg c] at h ⊢
      rw [h]
theorem paper_eq (s : T) : paperIn s = lawPaper s := by
  unfold paperIn lawPaper
  rw [rel_eq, addr_eq]
theorem chain_eq (s : T) : chainIn s = lawChain s := by
  unfold chainIn lawChain
  have e : mapO plainIn (TL.spl [44, 32] 0 [] (pt [58, 32] s).2.2) = mapO lawPlain (TL.spl [44, 32] 0 [] (pt [58, 32] s).2.2) := by
    rw [show plainIn = lawPlain from funext plain_eq]
  rw [← plain_eq, ← e]
  cases q1 : plainIn (pt [58, 32] s).1 with
  | none => rfl
  | some a =>
    cases q2 : mapO plainIn (TL.spl [44, 32] 0 [] (pt [58, 32] s).2.2) with
    | none => rfl
    | some ps =>
      show (if isChain ⟨a, ps⟩ = true then some (Chn.mk a ps) else none) = if ps.all (fun p => !decide (p = [])) = true then some ⟨a, ps⟩ else none
      have ne : ps ≠ [] := fun c => by
        have := (mapO_spec q2).1
        rw [c, List.length_nil] at this
        exact spl_ne _ _ _ _ (List.length_eq_zero_iff.mp this)
      have pl : ∀ p ∈ ps, isPlain p = true := fun p hp => by
        obtain ⟨w, _, hw⟩ := (mapO_spec q2).2 p hp
        exact (plainIn_spec hw).2
      have ec : isChain ⟨a, ps⟩ = ps.all fun p => !decide (p = []) := by
        show (isPlain a && !decide (ps = []) && ps.all fun p => isPlain p && !decide (p = [])) = _
        rw [(plainIn_spec q1).2, decide_eq_false ne]
        show (ps.all fun p => isPlain p && !decide (p = [])) = _
        rw [Bool.eq_iff_iff, List.all_eq_true, List.all_eq_true]
        exact ⟨fun h p hp => by have := h p hp; rw [pl p hp, Bool.true_and] at this; exact this, fun h p hp => by rw [pl p hp, Bool.true_and]; exact h p hp⟩
      rw [ec]
end Kd
set_option Elab.async false
set_option linter.all false
set_option maxRecDepth 100000
set_option maxHeartbeats 2000000
/-! plain law: what is written is read back -/
namespace Kd
open PySem PySem.Spec PyProof.Rows L2
variable [LT]
theorem numL_head : ∀ n : Nat, n ≠ 0 → (TL.numL n).head? ≠ some 48 := by
  intro n
  induction n using Nat.strongRecOn with
  | ind n ih =>
    intro h
    by_cases h1 : n < 10
    · rw [TL.numL_lt h1]
      show some (48 + n) ≠ some 48
      intro c
      injection c with c
      omega
    · rw [TL.numL_step (by omega), head_snoc (TL.numL_ne _)]
      exact ih (n / 10) (by omega) (by omega)
theorem numIn_num {n : Nat} (h : n < 10 ^ 40) : numIn (TL.numL n) = some n := by
  unfold numIn
  rw [if_pos, TL.numL_val]
  refine ⟨?_, fun hh => ?_⟩
  · unfold numOk
    rw [Bool.and_eq_true, Bool.and_eq_true, decide_eq_true_eq, decide_eq_true_eq, List.all_eq_true]
    refine ⟨⟨List.length_pos_iff.mpr (TL.numL_ne n), TL.numL_len (by decide) h⟩, fun c hc => decide_eq_true (fig_iff.mpr (TL.numL_digits n c hc))⟩
  · by_cases z : n = 0
    · subst z
      rfl
    · exact absurd hh (numL_head n z)
theorem childIn_num {i : Nat} (h : i ≤ 2) : childIn (TL.numL i) = some i := by
  have : i = 0 ∨ i = 1 ∨ i = 2 := by omega
  rcases this with rfl | rfl | rfl <;> decide
theorem mapO_all {α β : Type} {g : α → Option β} {b : β → α} : ∀ {ys : List β}, (∀ y ∈ ys, g (b y) = some y) → mapO g (ys.map b) = some ys
  | [], _ => rfl
  | y :: ys, h => by
    rw [List.map_cons, mapO, h y List.mem_cons_self, mapO_all fun z hz => h z (List.mem_cons_of_mem _ hz)]
theorem pt_app {s : Nat} {S p rest : T} (h : s ∉ p) : pt (s :: S) (p ++ (s :: S ++ rest)) = (p, s :: S, rest) := by
  unfold pt
  rw [TL.par_part1 h]
  rfl
theorem join_free {c : Nat} {S : T} (hS : c ∉ S) : ∀ {ys : List T}, (∀ y ∈ ys, c ∉ y) → c ∉ TL.joinL S ys
  | [], _ => fun h => by cases h
  | [p], h => h p List.mem_cons_self
  | p :: q :: r, h => fun hc => by
    rcases List.mem_append.mp hc with hc | hc
    · exact h p List.mem_cons_self hc
    · rcases List.mem_append.mp hc with hc | hc
      · exact hS hc
      · exact join_free hS (fun y hy => h y (List.mem_cons_of_mem _ hy)) hc
theorem num_free {c n : Nat} (h : c < 48 ∨ 57 < c) : c ∉ TL.numL n := TL.numL_free h
theorem el_free {c : Nat} (h : c < 48 ∨ 57 < c) (h2 : c ≠ 40 ∧ c ≠ 41 ∧ c ≠ 42 ∧ c ≠ 46) (e : AEl) : c ∉ elText e := by
  cases e with
  | one i => exact num_free h
  | rep p n =>
    intro hc
    rcases List.mem_append.mp hc with hc | hc
    · rcases List.mem_append.mp hc with hc | hc
      · exact h2.1 (List.mem_singleton.mp hc)
      · exact join_free (fun q => h2.2.2.2 (List.mem_singleton.mp q)) (fun y hy => by
          obtain ⟨i, _, rfl⟩ := List.mem_map.mp hy
          exact num_free h) hc
    · rcases List.mem_append.mp hc with hc | hc
      · simp only [List.mem_cons, List.not_mem_nil, or_false] at hc
        rcases hc with rfl | rfl
        · exact h2.2.1 rfl
        · exact h2.2.2.1 rfl
      · exact num_free h hc
theorem addr_free {c : Nat} (h : c < 48 ∨ 57 < c) (h2 : c ≠ 40 ∧ c ≠ 41 ∧ c ≠ 42 ∧ c ≠ 46 ∧ c ≠ 45) (a : List AEl) : c ∉ addrText a := by
  unfold addrText orNo
  split
  · exact fun q => h2.2.2.2.2 (List.mem_singleton.mp q)
  · exact join_free (fun q => h2.2.2.2.1 (List.mem_singleton.mp q)) fun y hy => by
      obtain ⟨i, _, rfl⟩ := List.mem_map.mp hy
      exact el_free h ⟨h2.1, h2.2.1, h2.2.2.1, h2.2.2.2.1⟩ i
theorem elIn_text' {e : AEl} (h : isEl e = true) : elIn (elText e) = some e := by
  cases e with
  | one i =>
    have hi : i ≤ 2 := of_decide_eq_true h
    unfold elIn
    show (if (TL.numL i).take 1 = [40] then _ else (childIn (TL.numL i)).map AEl.one) = _
    rw [childIn_num hi, if_neg]
    · rfl
    · have : i = 0 ∨ i = 1 ∨ i = 2 := by omega
      rcases this with rfl | rfl | rfl <;> decide
  | rep p n =>
    have h : (isPiece p && decide (n ≤ 10 ^ 30)) = true := h
    rw [Bool.and_eq_true, decide_eq_true_eq] at h
    have hp := h.1
    unfold isPiece at hp
    rw [Bool.and_eq_true, Bool.not_eq_true', decide_eq_false_iff_not, List.all_eq_true] at hp
    have e1 : elText (.rep p n) = 40 :: (TL.joinL [46] (p.map TL.numL) ++ ([41, 42] ++ TL.numL n)) := by
      show [40] ++ TL.joinL [46] (p.map TL.numL) ++ ([41, 42] ++ TL.numL n) = _
      rw [List.append_assoc]
      rfl
    unfold elIn
    rw [e1]
    rw [if_pos (show List.take 1 (40 :: (TL.joinL [46] (p.map TL.numL) ++ ([41, 42] ++ TL.numL n))) = [40] from rfl)]
    show repIn (TL.joinL [46] (p.map TL.numL) ++ ([41, 42] ++ TL.numL n)) = _
    unfold repIn
    have ep : pt [41, 42] (TL.joinL [46] (p.map TL.numL) ++ ([41, 42] ++ TL.numL n)) = (TL.joinL [46] (p.map TL.numL), [41, 42], TL.numL n) := pt_app (join_free (by decide) fun y hy => by
      obtain ⟨i, _, rfl⟩ := List.mem_map.mp hy
      exact num_free (by omega))
    rw [ep]
    show (match mapO childIn (TL.spl [46] 0 [] (TL.joinL [46] (p.map TL.numL))) with | none => none | some p => match numIn (TL.numL n) with | none => none | some n => some (AEl.rep p n)) = _
    rw [TL.spl_join (by simpa using hp.1) fun y hy => by
      obtain ⟨i, _, rfl⟩ := List.mem_map.mp hy
      exact num_free (by omega), mapO_all (b := TL.numL) fun i hi => childIn_num (of_decide_eq_true (hp.2 i hi)), numIn_num (lt40' h.2)]
where
  lt40' {n : Nat} (h : n ≤ 10 ^ 30) : n < 10 ^ 40 := Nat.lt_of_le_of_lt h (by decide)
theorem pcs_plain : ∀ (t acc r : T) (o : Bool), (∀ c ∈ t, c ≠ 40 ∧ c ≠ 41 ∧ (o = true ∨ c ≠ 46)) → pcs o acc (t ++ r) = pcs o (acc ++ t) r
  | [], acc, r, o, _ => by rw [List.nil_append, List.append_nil]
  | c :: t, acc, r, o, h => by
    obtain ⟨h1, h2, h3⟩ := h c List.mem_cons_self
    rw [List.cons_append, pcs, if_neg (fun q => by rcases q with q | q; exact h1 q; exact h2 q), if_neg (fun q => by rcases h3 with h3 | h3; rw [h3] at q; cases q.2; exact h3 q.1), pcs_plain t (acc ++ [c]) r o fun d hd => h d (List.mem_cons_of_mem _ hd), List.append_assoc]
    rfl
theorem pcs_el (e : AEl) (acc r : T) : pcs false acc (elText e ++ r) = pcs false (acc ++ elText e) r := by
  have nm : ∀ n, ∀ c ∈ TL.numL n, c ≠ 40 ∧ c ≠ 41 ∧ (false = true ∨ c ≠ 46) := fun n c hc => by
    have := TL.numL_digits n c hc
    refine ⟨by omega, by omega, .inr (by omega)⟩
  cases e with
  | one i => exact pcs_plain _ _ _ _ (nm i)
  | rep p n =>
    have e1 : elText (.rep p n) ++ r = 40 :: (TL.joinL [46] (p.map TL.numL) ++ (41 :: ([42] ++ TL.numL n ++ r))) := by
      show [40] ++ TL.joinL [46] (p.map TL.numL) ++ ([41, 42] ++ TL.numL n) ++ r = _
      simp
    have e2 : elText (.rep p n) = [40] ++ (TL.joinL [46] (p.map TL.numL) ++ ([41] ++ ([42] ++ TL.numL n))) := by
      show [40] ++ TL.joinL [46] (p.map TL.numL) ++ ([41, 42] ++ TL.numL n) = _
      simp
    rw [e1, pcs, if_pos (.inl rfl)]
    show pcs true (acc ++ [40]) _ = _
    rw [pcs_plain _ _ _ _ fun c hc => ⟨fun q => by
        subst q
        exact join_free (by decide) (fun y hy => by
          obtain ⟨i, _, rfl⟩ := List.mem_map.mp hy
          exact num_free (by omega)) hc, fun q => by
        subst q
        exact join_free (by decide) (fun y hy => by
          obtain ⟨i, _, rfl⟩ := List.mem_map.mp hy
          exact num_free (by omega)) hc, .inl rfl⟩, pcs, if_pos (.inr rfl)]
    show pcs false (acc ++ [40] ++ TL.joinL [46] (p.map TL.numL) ++ [41]) ([42] ++ TL.numL n ++ r) = _
    rw [pcs_plain _ _ _ _ fun c hc => by
      rcases List.mem_append.mp hc with hc | hc
      · rw [List.mem_singleton.mp hc]
        exact ⟨by decide, by decide, .inr (by decide)⟩
      · exact nm n c hc, e2]
    simp
theorem pcs_join' : ∀ {a : List AEl}, a ≠ [] → pcs false [] (TL.joinL [46] (a.map elText)) = a.map elText
  | [], h => absurd rfl h
  | [e], _ => by
    show pcs false [] (elText e) = [elText e]
    have := pcs_el e [] []
    rw [List.append_nil] at this
    rw [this]
    rfl
  | e :: f :: r, _ => by
    show pcs false [] (elText e ++ ([46] ++ TL.joinL [46] ((f :: r).map elText))) = _
    rw [pcs_el]
    show pcs false (elText e) (46 :: TL.joinL [46] ((f :: r).map elText)) = _
    rw [pcs, if_neg (by decide), if_pos ⟨rfl, rfl⟩, pcs_join' (by simp)]
    rfl
theorem joinEl_ne {a : List AEl} (h : a ≠ []) : TL.joinL [46] (a.map elText) ≠ [] := by
  cases a with
  | nil => exact absurd rfl h
  | cons e r =>
    rw [List.map_cons]
    cases r with
    | nil => exact elText_ne e
    | cons f r =>
      rw [List.map_cons, joinL_cons (by simp)]
      simp
theorem addrIn_back {a : List AEl} (h : isAddr a = true) : addrIn (addrText a) = some a := by
  have raw : addrRaw (addrText a) = some a := by
    cases a with
    | nil => rfl
    | cons e r =>
      have ne := joinEl_ne (a := e :: r) (by simp)
      have et : addrText (e :: r) = TL.joinL [46] ((e :: r).map elText) := by unfold addrText orNo; rw [if_neg ne]
      unfold addrRaw
      rw [et, if_neg, pcs_join' (by simp), mapO_all (b := elText) fun x hx => elIn_text' (List.all_eq_true.mp h x hx)]
      intro c
      have : 45 ∉ TL.joinL [46] ((e :: r).map elText) := join_free (by decide) fun y hy => by
        obtain ⟨i, _, rfl⟩ := List.mem_map.mp hy
        exact el_free (by omega) (by decide) i
      rw [c] at this
      exact this (by simp)
  unfold addrIn
  rw [raw]
  exact if_pos ⟨h, addrRaw_text raw⟩
theorem plainIn_back {a : List AEl} (h : isPlain a = true) : plainIn (addrText a) = some a := by
  have h1 := h
  unfold isPlain at h1
  rw [Bool.and_eq_true] at h1
  unfold plainIn
  rw [addrIn_back h1.1]
  exact if_pos h
theorem name_free {c : Nat} (hc : c < 97 ∨ 122 < c) {s : T} (h : isName s = true) : c ∉ s := fun hm => by
  unfold isName at h
  rw [Bool.and_eq_true, List.all_eq_true] at h
  have := h.2 c hm
  rw [Bool.and_eq_true, decide_eq_true_eq, decide_eq_true_eq] at this
  omega
theorem look_free {c : Nat} (hc : c = 10 ∨ c = 44) {l : Look} (h : isLook l = true) : c ∉ lookText l := by
  cases l with
  | word s n =>
    have h : (isName s && decide (n ≤ 3)) = true := h
    rw [Bool.and_eq_true] at h
    intro hm
    rcases List.mem_append.mp hm with hm | hm
    · exact name_free (by omega) h.1 hm
    · rcases List.mem_append.mp hm with hm | hm
      · have := List.mem_singleton.mp hm
        omega
      · exact num_free (by omega) hm
  | fn => rcases hc with rfl | rfl <;> decide
  | var n =>
    intro hm
    rcases List.mem_append.mp hm with hm | hm
    · rcases hc with rfl | rfl <;> exact absurd hm (by decide)
    · rcases List.mem_append.mp hm with hm | hm
      · have := List.mem_singleton.mp hm
        omega
      · exact num_free (by omega) hm
theorem lookIn_back {l : Look} (h : isLook l = true) (hk : okK l) : lookIn (lookText l) = some l := by
  have raw : lookRaw (lookText l) = some l := by
    cases l with
    | word s n =>
      have h : (isName s && decide (n ≤ 3)) = true := h
      rw [Bool.and_eq_true] at h
      have m47 : 47 ∈ lookText (.word s n) := List.mem_append_right _ (List.mem_append_left _ (by simp))
      have n32 : 32 ∉ lookText (.word s n) := fun hm => by
        rcases List.mem_append.mp hm with hm | hm
        · exact name_free (by omega) h.1 hm
        · rcases List.mem_append.mp hm with hm | hm
          · simp at hm
          · exact num_free (by omega) hm
      unfold lookRaw
      rw [if_neg (fun c => by rw [c] at m47; exact absurd m47 (by decide)), if_neg (fun c => n32 (List.mem_of_mem_take (show 32 ∈ (lookText (.word s n)).take 4 by rw [c]; decide)))]
      have ep : pt [47] (lookText (.word s n)) = (s, [47], TL.numL n) := pt_app (name_free (by omega) h.1)
      rw [ep]
      show (numIn (TL.numL n)).map (Look.word s) = _
      rw [numIn_num hk.2.2]
      rfl
    | fn => rfl
    | var n =>
      unfold lookRaw
      have e1 : lookText (.var n) = 118 :: 97 :: 114 :: 32 :: TL.numL n := rfl
      rw [e1, if_neg (by unfold tFun; simp)]
      rw [if_pos (show List.take 4 (118 :: 97 :: 114 :: 32 :: TL.numL n) = tVar ++ [32] from rfl)]
      show (numIn (TL.numL n)).map Look.var = _
      rw [numIn_num hk]
      rfl
  rw [look_eq' raw rfl, if_pos h]
theorem diffIn_back {d : Diff} (h : isDiff d = true) (hk : okD d) : diffIn (diffText d) = some d := by
  unfold isDiff at h
  rw [Bool.and_eq_true, Bool.and_eq_true] at h
  unfold diffIn
  have e1 : pt [58, 32] (diffText d) = (addrText d.a, [58, 32], lookText d.x ++ ([44, 32] ++ lookText d.y)) := pt_app (addr_free (by omega) (by decide) d.a)
  have e2 : pt [44, 32] (lookText d.x ++ ([44, 32] ++ lookText d.y)) = (lookText d.x, [44, 32], lookText d.y) := pt_app (look_free (.inr rfl) h.1.2)
  rw [e1]
  show (match plainIn (addrText d.a) with | none => none | some a => match lookIn (pt [44, 32] (lookText d.x ++ ([44, 32] ++ lookText d.y))).1 with | none => none | some x => match lookIn (pt [44, 32] (lookText d.x ++ ([44, 32] ++ lookText d.y))).2.2 with | none => none | some y => some (Diff.mk a x y)) = _
  rw [e2, plainIn_back h.1.1, lookIn_back h.1.2 hk.2.1, lookIn_back h.2 hk.2.2]
theorem pairIn_back {p : NP} (h : p.1 < 10 ^ 40 ∧ p.2 < 10 ^ 40) : pairIn (pairText p) = some p := by
  unfold pairIn
  have e1 : pt [45] (pairText p) = (TL.numL p.1, [45], TL.numL p.2) := pt_app (num_free (by omega))
  rw [e1]
  show (match numIn (TL.numL p.1) with | none => none | some a => match numIn (TL.numL p.2) with | none => none | some b => some (a, b)) = _
  rw [numIn_num h.1, numIn_num h.2]
theorem relIn_back {r : List NP} (h : isRel r = true) (hk : okR r) : relIn (relText r) = some r := by
  have raw : relRaw (relText r) = some r := by
    cases r with
    | nil => rfl
    | cons p q =>
      have l3 : 3 ≤ (TL.joinL [32] ((p :: q).map pairText)).length := by
        have n1 : 1 ≤ (TL.numL p.1).length := List.length_pos_iff.mpr (TL.numL_ne _)
        have n2 : 1 ≤ (TL.numL p.2).length := List.length_pos_iff.mpr (TL.numL_ne _)
        have n3 : (pairText p).length = (TL.numL p.1).length + (1 + (TL.numL p.2).length) := by
          show (TL.numL p.1 ++ ([45] ++ TL.numL p.2)).length = _
          rw [List.length_append, List.length_append]
          rfl
        rw [List.map_cons]
        cases q with
        | nil => show 3 ≤ (pairText p).length; omega
        | cons f q =>
          rw [List.map_cons, joinL_cons (by simp), List.length_append]
          omega
      have ne : TL.joinL [32] ((p :: q).map pairText) ≠ [] := fun c => by rw [c] at l3; cases l3
      have et : relText (p :: q) = TL.joinL [32] ((p :: q).map pairText) := by unfold relText orNo; rw [if_neg ne]
      unfold relRaw
      rw [et, if_neg (fun c => by rw [c] at l3; exact absurd l3 (by decide)), TL.spl_join (by simp) fun y hy => by
        obtain ⟨x, _, rfl⟩ := List.mem_map.mp hy
        intro hm
        rcases List.mem_append.mp hm with hm | hm
        · exact num_free (by omega) hm
        · rcases List.mem_append.mp hm with hm | hm
          · simp at hm
          · exact num_free (by omega) hm, mapO_all (b := pairText) fun x hx => pairIn_back (hk.2 x hx)]
  unfold relIn
  rw [raw]
  exact if_pos h
theorem paperIn_back {p : Paper} (h : isPaper p = true) (hk : okP p) : paperIn (paperText p) = some p := by
  unfold paperIn
  cases p with
  | alike r =>
    have e1 : pt [32] (paperText (.alike r)) = (tAlike, [32], relText r) := pt_app (by decide)
    rw [e1]
    show (if tAlike = tAlike then (relIn (relText r)).map Paper.alike else _) = _
    rw [if_pos rfl, relIn_back h hk]
    rfl
  | unlike a =>
    have e1 : pt [32] (paperText (.unlike a)) = (tUnlike, [32], addrText a) := pt_app (by decide)
    rw [e1]
    show (if tUnlike = tAlike then _ else if tUnlike = tUnlike then (addrIn (addrText a)).map Paper.unlike else none) = _
    rw [if_neg (by decide), if_pos rfl, addrIn_back h]
    rfl
theorem chainIn_back {c : Chn} (h : isChain c = true) : chainIn (chainText c) = some c := by
  have h0 := h
  unfold isChain at h
  rw [Bool.and_eq_true, Bool.and_eq_true, Bool.not_eq_true', decide_eq_false_iff_not, List.all_eq_true] at h
  unfold chainIn
  have e1 : pt [58, 32] (chainText c) = (addrText c.a, [58, 32], TL.joinL [44, 32] (c.ps.map addrText)) := pt_app (addr_free (by omega) (by decide) c.a)
  rw [e1]
  show (match plainIn (addrText c.a) with | none => none | some a => match mapO plainIn (TL.spl [44, 32] 0 [] (TL.joinL [44, 32] (c.ps.map addrText))) with | none => none | some ps => if isChain ⟨a, ps⟩ = true then some (Chn.mk a ps) else none) = _
  rw [plainIn_back h.1.1, TL.spl_join (by simpa using h.1.2) fun y hy => by
    obtain ⟨a, _, rfl⟩ := List.mem_map.mp hy
    exact addr_free (by omega) (by decide) a, mapO_all (b := addrText) fun a ha => plainIn_back (by have := h.2 a ha; rw [Bool.and_eq_true] at this; exact this.1)]
  exact if_pos h0
end Kd
set_option Elab.async false
set_option linter.all false
set_option maxRecDepth 100000
set_option maxHeartbeats 2000000
/-! plain law: what is refused -/
namespace Kd
open PySem PySem.Spec PyProof.Rows L2
variable [LT]
/-- what each text that is read has -/
structure Fine (s : T) : Prop where
  nl : 10 ∉ s
  hd : s.head? ≠ some 32
  x9 : ∃ c ∈ s, c ≠ 57
theorem head_app {p q : T} (h : p ≠ []) : (p ++ q).head? = p.head? := by
  cases p with
  | nil => exact absurd rfl h
  | cons a p => rfl
theorem addrText_ne (a : List AEl) : addrText a ≠ [] := by
  unfold addrText orNo
  split
  · simp
  · assumption
theorem addr_head (a : List AEl) : (addrText a).head? ≠ some 32 := fun h => by
  have : 32 ∈ addrText a := List.mem_of_mem_head? (by rw [h]; rfl)
  exact addr_free (by omega) (by decide) a this
theorem split_join2 {S s : T} (hS : S ≠ []) (hk : S.all (· < 256) = true) : TL.joinL S (TL.spl S 0 [] s) = s := by
  have h := PySem.StrLaws.join_split (SX.S s) (SX.S S)
  rw [SX.split_S hS hk, ← TL.join_eq, SX.join_S] at h
  exact SX.S_inj h
theorem pt_some {S s : T} (h : (pt S s).2.2 ≠ []) : s = (pt S s).1 ++ (S ++ (pt S s).2.2) := by
  unfold pt at h ⊢
  cases q : TL.par S [] s with
  | none => rw [q] at h; exact absurd rfl h
  | some pq =>
    obtain ⟨a, b⟩ := pq
    exact (par_sum S s [] a b q)
theorem pt_none {S s : T} (h : TL.par S [] s = none) : (pt S s).1 = s ∧ (pt S s).2.2 = [] := by unfold pt; rw [h]; exact ⟨rfl, rfl⟩
theorem plainIn_nil : plainIn [] = none := by decide
theorem lookIn_nil : lookIn [] = none := by decide
theorem relIn_nil : relIn [] = none := by decide
theorem addrIn_nil : addrIn [] = none := by decide
theorem diffIn_fine {s : T} (hs : tx s) {d : Diff} (h : diffIn s = some d) : Fine s := by
  unfold diffIn at h
  cases q1 : plainIn (pt [58, 32] s).1 with
  | none => rw [q1] at h; cases h
  | some a =>
    rw [q1] at h
    cases q2 : lookIn (pt [44, 32] (pt [58, 32] s).2.2).1 with
    | none => rw [q2] at h; cases h
    | some x =>
      rw [q2] at h
      cases q3 : lookIn (pt [44, 32] (pt [58, 32] s).2.2).2.2 with
      | none => rw [q3] at h; cases h
      | some y =>
        have n1 : (pt [58, 32] s).2.2 ≠ [] := fun c => by
          rw [c] at q2
          have : lookIn (pt [44, 32] []).1 = none := by decide
          rw [this] at q2
          cases q2
        have n2 : (pt [44, 32] (pt [58, 32] s).2.2).2.2 ≠ [] := fun c => by
          rw [c, lookIn_nil] at q3
          cases q3
        have e1 := pt_some n1
        have e2 := pt_some n2
        have t1 := plainIn_text q1
        obtain ⟨_, x2, x3⟩ := lookIn_spec q2
        obtain ⟨_, y2, y3⟩ := lookIn_spec q3
        rw [e2, ← t1, ← x3, ← y3] at e1
        rw [e1]
        refine ⟨fun hm => ?_, ?_, ⟨58, List.mem_append_right _ (List.mem_append_left _ (by decide)), by decide⟩⟩
        · rcases List.mem_append.mp hm with hm | hm
          · exact addr_free (by omega) (by decide) a hm
          · rcases List.mem_append.mp hm with hm | hm
            · exact absurd hm (by decide)
            · rcases List.mem_append.mp hm with hm | hm
              · exact look_free (.inl rfl) x2 hm
              · rcases List.mem_append.mp hm with hm | hm
                · exact absurd hm (by decide)
                · exact look_free (.inl rfl) y2 hm
        · rw [head_app (addrText_ne a)]
          exact addr_head a
theorem relText_free {r : List NP} {c : Nat} (h : c < 48 ∨ 57 < c) (h2 : c ≠ 45 ∧ c ≠ 32) : c ∉ relText r := by
  unfold relText orNo
  split
  · exact fun q => h2.1 (List.mem_singleton.mp q)
  · exact join_free (fun q => h2.2 (List.mem_singleton.mp q)) fun y hy => by
      obtain ⟨p, _, rfl⟩ := List.mem_map.mp hy
      intro hm
      rcases List.mem_append.mp hm with hm | hm
      · exact num_free h hm
      · rcases List.mem_append.mp hm with hm | hm
        · exact h2.1 (List.mem_singleton.mp hm)
        · exact num_free h hm
theorem relIn_text {s : T} {r : List NP} (h : relIn s = some r) : relText r = s := by
  have h1 := (relIn_spec h).1
  unfold relRaw at h1
  split at h1
  · rename_i c
    cases h1
    rw [c]
    rfl
  · have e := mapO_back (b := pairText) (fun x y hxy => pairIn_text hxy) h1
    unfold relText
    rw [e, join_spl1, List.nil_append]
    unfold orNo
    split
    · rename_i c
      rw [c] at h
      rw [relIn_nil] at h
      cases h
    · rfl
theorem relText_head (r : List NP) : (relText r).head? ≠ some 32 ∧ (45 ∈ relText r) ∧ relText r ≠ [] := by
  unfold relText orNo
  split
  · exact ⟨by decide, by decide, by decide⟩
  · rename_i h
    cases r with
    | nil => exact absurd rfl h
    | cons p q =>
      have ph : ∀ z : T, ((pairText p) ++ z).head? ≠ some 32 := fun z => by
        have e : pairText p ++ z = TL.numL p.1 ++ ([45] ++ TL.numL p.2 ++ z) := by
          show (TL.numL p.1 ++ ([45] ++ TL.numL p.2)) ++ z = _
          simp
        rw [e, head_app (TL.numL_ne _)]
        intro c
        have : 32 ∈ TL.numL p.1 := List.mem_of_mem_head? (by rw [c]; rfl)
        exact num_free (by omega) this
      have pm : 45 ∈ pairText p := List.mem_append_right _ (List.mem_append_left _ (by simp))
      rw [List.map_cons]
      cases q with
      | nil =>
        have := ph []
        rw [List.append_nil] at this
        exact ⟨this, pm, fun c => by
          have c : pairText p = [] := c
          rw [c] at pm
          cases pm⟩
      | cons f q =>
        rw [List.map_cons, joinL_cons (by simp)]
        exact ⟨ph _, List.mem_append_left _ pm, by simp⟩
theorem relIn_fine {s : T} {r : List NP} (h : relIn s = some r) : Fine s := by
  rw [← relIn_text h]
  obtain ⟨h1, h2, _⟩ := relText_head r
  exact ⟨relText_free (by omega) (by decide), h1, ⟨45, h2, by decide⟩⟩
theorem paperIn_fine {s : T} {p : Paper} (h : paperIn s = some p) : Fine s := by
  have key : ∀ (w rest : T), (pt [32] s).1 = w → w ≠ [] → w.head? ≠ some 32 → 10 ∉ w → (pt [32] s).2.2 ≠ [] → 10 ∉ (pt [32] s).2.2 → Fine s := fun w rest e1 e2 e3 e4 e5 e6 => by
    have e := pt_some e5
    rw [e1] at e
    generalize (pt [32] s).2.2 = z at e e6
    rw [e]
    refine ⟨fun hm => ?_, by rw [head_app e2]; exact e3, ⟨32, List.mem_append_right _ (List.mem_append_left _ (by decide)), by decide⟩⟩
    rcases List.mem_append.mp hm with hm | hm
    · exact e4 hm
    · rcases List.mem_append.mp hm with hm | hm
      · exact absurd hm (by decide)
      · exact e6 hm
  unfold paperIn at h
  split at h
  · rename_i h1
    cases q : relIn (pt [32] s).2.2 with
    | none => rw [q] at h; cases h
    | some r => exact key tAlike [] h1 (by decide) (by decide) (by decide) (fun c => by rw [c, relIn_nil] at q; cases q) (relIn_fine q).nl
  · split at h
    · rename_i h1
      cases q : addrIn (pt [32] s).2.2 with
      | none => rw [q] at h; cases h
      | some a =>
        refine key tUnlike [] h1 (by decide) (by decide) (by decide) (fun c => by rw [c, addrIn_nil] at q; cases q) ?_
        rw [← (addrIn_spec q).2.2]
        exact addr_free (by omega) (by decide) a
    · cases h
theorem chainIn_fine {s : T} {c : Chn} (h : chainIn s = some c) : Fine s := by
  unfold chainIn at h
  cases q1 : plainIn (pt [58, 32] s).1 with
  | none => rw [q1] at h; cases h
  | some a =>
    rw [q1] at h
    cases q2 : mapO plainIn (TL.spl [44, 32] 0 [] (pt [58, 32] s).2.2) with
    | none => rw [q2] at h; cases h
    | some ps =>
      have n1 : (pt [58, 32] s).2.2 ≠ [] := fun c => by
        rw [c] at q2
        have : mapO plainIn (TL.spl [44, 32] 0 [] []) = none := by decide
        rw [this] at q2
        cases q2
      have e1 := pt_some n1
      have t1 := plainIn_text q1
      have m1 := mapO_back (b := addrText) (fun x y hxy => plainIn_text hxy) q2
      have e2 := split_join2 (S := [44, 32]) (s := (pt [58, 32] s).2.2) (by decide) (by decide)
      rw [← m1] at e2
      rw [← t1, ← e2] at e1
      rw [e1]
      refine ⟨fun hm => ?_, by rw [head_app (addrText_ne a)]; exact addr_head a, ⟨58, List.mem_append_right _ (List.mem_append_left _ (by decide)), by decide⟩⟩
      rcases List.mem_append.mp hm with hm | hm
      · exact addr_free (by omega) (by decide) a hm
      · rcases List.mem_append.mp hm with hm | hm
        · exact absurd hm (by decide)
        · exact join_free (by decide) (fun y hy => by
            obtain ⟨b, _, rfl⟩ := List.mem_map.mp hy
            exact addr_free (by omega) (by decide) b) hm
end Kd
set_option Elab.async false
set_option linter.all false
set_option maxRecDepth 100000
set_option maxHeartbeats 2000000
/-! what is known of a case: its texts are read, others are not; what repr writes is short -/
namespace Kd
open PySem PySem.Spec PyProof.Rows L2
variable [LT]
theorem joinL_ge (S : T) : ∀ ys : List T, (ys.map List.length).sum ≤ (TL.joinL S ys).length
  | [] => Nat.zero_le _
  | [y] => by show y.length + 0 ≤ y.length; omega
  | y :: z :: ys => by
    rw [joinL_cons (by simp), List.map_cons, List.sum_cons, List.length_append, List.length_append]
    have := joinL_ge S (z :: ys)
    omega
theorem orNo_ge (s : T) : s.length ≤ (orNo s).length := by
  unfold orNo
  split
  · rename_i h; rw [h]; exact Nat.zero_le _
  · exact Nat.le_refl _
theorem addrText_ge (a : List AEl) : ((a.map elText).map List.length).sum ≤ (addrText a).length := Nat.le_trans (joinL_ge [46] _) (orNo_ge _)
theorem sum_le {α : Type} {f g : α → Nat} : ∀ {xs : List α}, (∀ x ∈ xs, f x ≤ g x) → (xs.map f).sum ≤ (xs.map g).sum
  | [], _ => Nat.le_refl _
  | x :: xs, h => by
    rw [List.map_cons, List.map_cons, List.sum_cons, List.sum_cons]
    exact Nat.add_le_add (h x List.mem_cons_self) (sum_le fun y hy => h y (List.mem_cons_of_mem _ hy))
theorem sum_mul {α : Type} {f : α → Nat} (c : Nat) : ∀ {xs : List α}, (xs.map fun x => c * f x).sum = c * (xs.map f).sum
  | [] => rfl
  | x :: xs => by rw [List.map_cons, List.map_cons, List.sum_cons, List.sum_cons, sum_mul c, Nat.mul_add]
theorem sum_addc {α : Type} {f : α → Nat} (c : Nat) : ∀ {xs : List α}, (xs.map fun x => f x + c).sum = (xs.map f).sum + c * xs.length
  | [] => rfl
  | x :: xs => by rw [List.map_cons, List.map_cons, List.sum_cons, List.sum_cons, sum_addc c, List.length_cons, Nat.mul_succ]; omega
theorem sum_one {α : Type} : ∀ {xs : List α}, (xs.map fun _ => 1).sum = xs.length
  | [] => rfl
  | x :: xs => by rw [List.map_cons, List.sum_cons, sum_one, List.length_cons]; omega
theorem num_pos (n : Nat) : 1 ≤ (TL.numL n).length := by
  cases h : TL.numL n with
  | nil =>
    have e := TL.numL_ne n
    exact absurd h e
  | cons c r => exact Nat.succ_le_succ (Nat.zero_le _)
theorem swE {e : AEl} (h : okE e) : Sw 2 (encE e) := by
  cases e with
  | one i => exact .num h
  | rep p n =>
    obtain ⟨_, h2, h3⟩ := h
    refine .tup fun d hd => ?_
    rcases List.mem_cons.mp hd with rfl | hd
    · refine .tup fun d hd => ?_
      obtain ⟨i, hi, rfl⟩ := List.mem_map.mp hd
      exact .num (h2 i hi)
    · rw [List.mem_singleton.mp hd]
      exact .num h3
theorem rlE {e : AEl} (h : okE e) : rl (encE e) + 2 ≤ 4 * (elText e).length := by
  cases e with
  | one i =>
    have e1 : rl (encE (.one i)) = (TL.numL i).length := rl_num
    have e2 : (elText (.one i)).length = (TL.numL i).length := rfl
    have := num_pos i
    omega
  | rep p n =>
    obtain ⟨h1, h2, h3⟩ := h
    have sp : ∀ d ∈ p.map dIn, Sw 0 d := fun d hd => by
      obtain ⟨i, hi, rfl⟩ := List.mem_map.mp hd
      exact .num (h2 i hi)
    have e1 : rl (encE (.rep p n)) ≤ ([D.tup (p.map dIn), dIn n].map fun d => rl d + 2).sum + 3 := rl_tup (n := 1) fun d hd => by
      rcases List.mem_cons.mp hd with rfl | hd
      · exact .tup sp
      · rw [List.mem_singleton.mp hd]
        exact .num h3
    have e2 := rl_tup sp
    have e3 : ((p.map dIn).map fun d => rl d + 2).sum = ((p.map TL.numL).map List.length).sum + 2 * p.length := by
      rw [List.map_map, List.map_map, ← sum_addc 2]
      congr 1
      exact List.map_congr_left fun i _ => by show rl (dIn i) + 2 = _; rw [rl_num]; rfl
    have e4 : rl (dIn n) = (TL.numL n).length := rl_num
    have e5 := joinL_ge [46] (p.map TL.numL)
    have e6 : p.length ≤ ((p.map TL.numL).map List.length).sum := by
      rw [List.map_map]
      have : (p.map fun _ => 1).sum ≤ (p.map (List.length ∘ TL.numL)).sum := sum_le fun i _ => num_pos i
      rw [sum_one] at this
      exact this
    have e8 : (elText (.rep p n)).length = 1 + (TL.joinL [46] (p.map TL.numL)).length + (2 + (TL.numL n).length) := by
      unfold elText
      rw [List.length_append, List.length_append, List.length_append]
      rfl
    simp only [List.map_cons, List.map_nil, List.sum_cons, List.sum_nil] at e1
    have := num_pos n
    omega
theorem swA {a : List AEl} (h : okA a) : Sw 3 (encA a) := .tup fun d hd => by
  obtain ⟨e, he, rfl⟩ := List.mem_map.mp hd
  exact swE (h.2.1 e he)
theorem rlA {a : List AEl} (h : okA a) : rl (encA a) ≤ 4 * (addrText a).length + 3 := by
  have e1 : rl (encA a) ≤ ((a.map encE).map fun d => rl d + 2).sum + 3 := rl_tup (n := 2) fun d hd => by
    obtain ⟨e, he, rfl⟩ := List.mem_map.mp hd
    exact swE (h.2.1 e he)
  have e2 : ((a.map encE).map fun d => rl d + 2).sum ≤ (a.map fun e => 4 * (elText e).length).sum := by
    rw [List.map_map]
    exact sum_le fun e he => rlE (h.2.1 e he)
  rw [sum_mul 4] at e2
  have e3 := addrText_ge a
  rw [List.map_map] at e3
  have e4 : (a.map fun e => (elText e).length).sum = (a.map (List.length ∘ elText)).sum := rfl
  omega
theorem rl2 {a b : D} {n : Nat} (h1 : Sw n a) (h2 : Sw n b) : Sw (n + 1) (.tup [a, b]) ∧ rl (.tup [a, b]) ≤ rl a + rl b + 7 := by
  have h : ∀ d ∈ [a, b], Sw n d := fun d hd => by
    rcases List.mem_cons.mp hd with rfl | hd
    · exact h1
    · rw [List.mem_singleton.mp hd]; exact h2
  have := rl_tup h
  simp only [List.map_cons, List.map_nil, List.sum_cons, List.sum_nil] at this
  exact ⟨.tup h, by omega⟩
theorem rl3 {a b c : D} {n : Nat} (h1 : Sw n a) (h2 : Sw n b) (h3 : Sw n c) : Sw (n + 1) (.tup [a, b, c]) ∧ rl (.tup [a, b, c]) ≤ rl a + rl b + rl c + 9 := by
  have h : ∀ d ∈ [a, b, c], Sw n d := fun d hd => by
    rcases List.mem_cons.mp hd with rfl | hd
    · exact h1
    · rcases List.mem_cons.mp hd with rfl | hd
      · exact h2
      · rw [List.mem_singleton.mp hd]; exact h3
  have := rl_tup h
  simp only [List.map_cons, List.map_nil, List.sum_cons, List.sum_nil] at this
  exact ⟨.tup h, by omega⟩
theorem Sw.up {n : Nat} {d : D} (h : Sw n d) : Sw (n + 1) d := by
  induction h with
  | non => exact .non
  | bl => exact .bl
  | num h => exact .num h
  | txt h => exact .txt h
  | tup h ih => exact .tup ih
  | lst h ih => exact .lst ih
theorem num40 {n : Nat} (h : n < 10 ^ 40) : (TL.numL n).length ≤ 40 := TL.numL_len (by decide) h
theorem swK {l : Look} (h : okK l) : Sw 1 (encK l) ∧ rl (encK l) ≤ 200200 := by
  cases l with
  | word s n =>
    obtain ⟨h1, h2, h3⟩ := h
    have a : asc tWord := asc_lit
    obtain ⟨q1, q2⟩ := rl3 (n := 0) (.txt a) (.txt h2) (.num h3)
    have r1 := rl_txt a
    have r2 := rl_txt h2
    have r3 : rl (dIn n) = _ := rl_num
    have := num40 h3
    have e : tWord.length = 4 := rfl
    exact ⟨q1, by show rl (.tup [dL tWord, dL s, dIn n]) ≤ _; omega⟩
  | fn =>
    have a : asc tFun := asc_lit
    have h : ∀ d ∈ [dL tFun], Sw 0 d := fun d hd => by rw [List.mem_singleton.mp hd]; exact .txt a
    have := rl_tup h
    have r1 := rl_txt a
    have e : tFun.length = 3 := rfl
    simp only [List.map_cons, List.map_nil, List.sum_cons, List.sum_nil] at this
    exact ⟨.tup h, by show rl (.tup [dL tFun]) ≤ _; omega⟩
  | var n =>
    have a : asc tVar := asc_lit
    obtain ⟨q1, q2⟩ := rl2 (n := 0) (.txt a) (.num (show n < 10 ^ 40 from h))
    have r1 := rl_txt a
    have r3 : rl (dIn n) = _ := rl_num
    have := num40 (show n < 10 ^ 40 from h)
    have e : tVar.length = 3 := rfl
    exact ⟨q1, by show rl (.tup [dL tVar, dIn n]) ≤ _; omega⟩
theorem swR {r : List NP} (h : okR r) : Sw 2 (encR r) ∧ rl (encR r) ≤ 2000000 := by
  have q : ∀ p ∈ r, Sw 1 (.tup [dIn p.1, dIn p.2]) ∧ rl (.tup [dIn p.1, dIn p.2]) + 2 ≤ 89 := fun p hp => by
    obtain ⟨a, b⟩ := h.2 p hp
    obtain ⟨q1, q2⟩ := rl2 (n := 0) (.num a) (.num b)
    have r1 : rl (dIn p.1) = _ := rl_num
    have r2 : rl (dIn p.2) = _ := rl_num
    have := num40 a
    have := num40 b
    exact ⟨q1, by omega⟩
  have all : ∀ d ∈ r.map (fun p : NP => D.tup [dIn p.1, dIn p.2]), Sw 1 d := fun d hd => by
    obtain ⟨p, hp, rfl⟩ := List.mem_map.mp hd
    exact (q p hp).1
  have e1 := rl_tup all
  rw [List.map_map] at e1
  have e2 : (r.map ((fun d => rl d + 2) ∘ fun p : NP => D.tup [dIn p.1, dIn p.2])).sum ≤ (r.map fun _ => 89 * 1).sum := sum_le fun p hp => (q p hp).2
  rw [sum_mul (f := fun _ => 1) 89, sum_one] at e2
  have := h.1
  exact ⟨.tup all, by show rl (.tup (r.map fun p : NP => D.tup [dIn p.1, dIn p.2])) ≤ _; omega⟩
theorem swF {d : Diff} (h : okD d) : Sw 4 (encF d) ∧ rl (encF d) ≤ 1500000 := by
  obtain ⟨h1, h2, h3⟩ := h
  obtain ⟨a1, a2⟩ := swK h2
  obtain ⟨b1, b2⟩ := swK h3
  obtain ⟨q1, q2⟩ := rl3 (swA h1) a1.up.up b1.up.up
  have := rlA h1
  have := addrText_len h1
  exact ⟨q1, by show rl (.tup [encA d.a, encK d.x, encK d.y]) ≤ _; omega⟩
theorem swP {p : Paper} (h : okP p) : Sw 4 (encP p) ∧ rl (encP p) ≤ 2500000 := by
  cases p with
  | alike r =>
    have a : asc tAlike := asc_lit
    obtain ⟨a1, a2⟩ := swR h
    obtain ⟨q1, q2⟩ := rl2 (n := 3) (.txt a) a1.up
    have r1 := rl_txt a
    have e : tAlike.length = 5 := rfl
    exact ⟨q1, by show rl (.tup [dL tAlike, encR r]) ≤ _; omega⟩
  | unlike l =>
    have a : asc tUnlike := asc_lit
    have hl : okA l := h
    obtain ⟨q1, q2⟩ := rl2 (n := 3) (.txt a) (swA hl)
    have r1 := rl_txt a
    have e : tUnlike.length = 6 := rfl
    have := rlA hl
    have := addrText_len hl
    exact ⟨q1, by show rl (.tup [dL tUnlike, encA l]) ≤ _; omega⟩
theorem swC {c : Chn} (h : okC c) : Sw 5 (encC c) ∧ rl (encC c) ≤ 6000000 := by
  obtain ⟨h1, h2, h3, h4⟩ := h
  have a : asc tChain := asc_lit
  have all : ∀ d ∈ c.ps.map encA, Sw 3 d := fun d hd => by
    obtain ⟨p, hp, rfl⟩ := List.mem_map.mp hd
    exact swA (h3 p hp)
  have e1 := rl_tup all
  have e2 : ((c.ps.map encA).map fun d => rl d + 2).sum ≤ (c.ps.map fun p => 4 * (addrText p).length + 5).sum := by
    rw [List.map_map]
    exact sum_le fun p hp => by have := rlA (h3 p hp); show rl (encA p) + 2 ≤ _; omega
  rw [sum_addc (f := fun p => 4 * (addrText p).length) 5, sum_mul 4] at e2
  rw [List.map_map] at h4
  have h5 : (c.ps.map fun p => (addrText p).length).sum ≤ 1000000 := h4
  obtain ⟨q1, q2⟩ := rl3 (n := 4) (.txt a) (swA h1).up (.tup all)
  have r1 := rl_txt a
  have e : tChain.length = 5 := rfl
  have := rlA h1
  have := addrText_len h1
  exact ⟨q1, by show rl (.tup [dL tChain, encA c.a, .tup (c.ps.map encA)]) ≤ _; omega⟩
end Kd
set_option Elab.async false
set_option linter.all false
set_option maxRecDepth 100000
set_option maxHeartbeats 2000000
/-! the kinds of cases: what is read from a text -/
namespace Kd
open PySem PySem.Spec PyProof.Rows L2
variable [LT]
def Kind.rdv : Kind → T → Option D
  | .diff _ => fun s => (diffIn s).map encF
  | .rel _ => fun s => (relIn s).map encR
  | .pap _ => fun s => (paperIn s).map encP
  | .chn _ => fun s => (chainIn s).map encC
def Kind.okV : Kind → Prop
  | .diff d => okD d ∧ isDiff d = true
  | .rel r => okR r ∧ isRel r = true
  | .pap p => okP p ∧ isPaper p = true
  | .chn c => okC c ∧ isChain c = true
structure Kind.fine (k : Kind) : Prop where
  ok : k.okV
  len : k.txt.length ≤ 200
  asc : asc k.txt
theorem diffIn_ok {s : T} (hs : tx s) {d : Diff} (h : diffIn s = some d) : okD d := by
  have t1 := tx_pt (S := [58, 32]) hs
  have t2 := tx_pt (S := [44, 32]) t1.2
  unfold diffIn at h
  cases q1 : plainIn (pt [58, 32] s).1 with
  | none => rw [q1] at h; cases h
  | some a =>
    cases q2 : lookIn (pt [44, 32] (pt [58, 32] s).2.2).1 with
    | none => rw [q1, q2] at h; cases h
    | some x =>
      cases q3 : lookIn (pt [44, 32] (pt [58, 32] s).2.2).2.2 with
      | none => rw [q1, q2, q3] at h; cases h
      | some y =>
        rw [q1, q2, q3] at h
        cases h
        exact ⟨plainIn_ok t1.1.1 q1, (lookRaw_ok t2.1 (lookIn_spec q2).1).1, (lookRaw_ok t2.2 (lookIn_spec q3).1).1⟩
theorem paperIn_ok {s : T} (hs : tx s) {p : Paper} (h : paperIn s = some p) : okP p := by
  have t1 := tx_pt (S := [32]) hs
  unfold paperIn at h
  split at h
  · cases q : relIn (pt [32] s).2.2 with
    | none => rw [q] at h; cases h
    | some r =>
      rw [q] at h
      cases h
      exact relRaw_ok t1.2.1 (relIn_spec q).1
  · split at h
    · cases q : addrIn (pt [32] s).2.2 with
      | none => rw [q] at h; cases h
      | some a =>
        rw [q] at h
        cases h
        exact addrRaw_ok t1.2.1 (addrIn_spec q).1
    · cases h
theorem chainIn_ok {s : T} (hs : tx s) {c : Chn} (h : chainIn s = some c) : okC c := by
  have t1 := tx_pt (S := [58, 32]) hs
  have sl := spl_len [44, 32] (by decide) (by decide) (pt [58, 32] s).2.2
  have sz := t1.2.1
  unfold chainIn at h
  cases q1 : plainIn (pt [58, 32] s).1 with
  | none => rw [q1] at h; cases h
  | some a =>
    rw [q1] at h
    cases q2 : mapO plainIn (TL.spl [44, 32] 0 [] (pt [58, 32] s).2.2) with
    | none => rw [q2] at h; cases h
    | some ps =>
      rw [q2] at h
      have h : (if isChain ⟨a, ps⟩ = true then some (⟨a, ps⟩ : Chn) else none) = some c := h
      split at h
      · cases h
        have m1 := mapO_back (b := addrText) (fun x y hxy => plainIn_text hxy) q2
        obtain ⟨m2, m3⟩ := mapO_spec q2
        refine ⟨plainIn_ok t1.1.1 q1, by show ps.length ≤ _; omega, fun p hp => ?_, by show ((ps.map addrText).map List.length).sum ≤ _; rw [m1]; omega⟩
        obtain ⟨w, hw, hp2⟩ := m3 p hp
        exact plainIn_ok (by have := spl_mem (by decide) (by decide) hw; omega) hp2
      · cases h
theorem Kind.rdv_ok {k : Kind} {s : T} {v : D} (hs : tx s) (h : k.rdv s = some v) : Sw 5 v ∧ rl v ≤ 6000000 ∧ ∃ ds, v = .tup ds := by
  cases k with
  | diff d =>
    obtain ⟨x, h1, rfl⟩ := Option.map_eq_some_iff.mp h
    obtain ⟨a, b⟩ := swF (diffIn_ok hs h1)
    exact ⟨a.up, by omega, _, rfl⟩
  | rel r =>
    obtain ⟨x, h1, rfl⟩ := Option.map_eq_some_iff.mp h
    obtain ⟨a, b⟩ := swR (relRaw_ok hs.1 (relIn_spec h1).1)
    exact ⟨a.up.up.up, by omega, _, rfl⟩
  | pap p =>
    obtain ⟨x, h1, rfl⟩ := Option.map_eq_some_iff.mp h
    obtain ⟨a, b⟩ := swP (paperIn_ok hs h1)
    exact ⟨a.up, by omega, by cases x <;> exact ⟨_, rfl⟩⟩
  | chn c =>
    obtain ⟨x, h1, rfl⟩ := Option.map_eq_some_iff.mp h
    obtain ⟨a, b⟩ := swC (chainIn_ok hs h1)
    exact ⟨a, b, _, rfl⟩
theorem Kind.rdv_fine {k : Kind} {s : T} {v : D} (hs : tx s) (h : k.rdv s = some v) : Fine s := by
  cases k with
  | diff d => obtain ⟨x, h1, _⟩ := Option.map_eq_some_iff.mp h; exact diffIn_fine hs h1
  | rel r => obtain ⟨x, h1, _⟩ := Option.map_eq_some_iff.mp h; exact relIn_fine h1
  | pap p => obtain ⟨x, h1, _⟩ := Option.map_eq_some_iff.mp h; exact paperIn_fine h1
  | chn c => obtain ⟨x, h1, _⟩ := Option.map_eq_some_iff.mp h; exact chainIn_fine h1
theorem Kind.rdv_back {k : Kind} (h : k.fine) : k.rdv k.txt = some k.val := by
  have o := h.ok
  cases k with
  | diff d => show (diffIn (diffText d)).map encF = _; rw [diffIn_back o.2 o.1]; rfl
  | rel r => show (relIn (relText r)).map encR = _; rw [relIn_back o.2 o.1]; rfl
  | pap p => show (paperIn (paperText p)).map encP = _; rw [paperIn_back o.2 o.1]; rfl
  | chn c => show (chainIn (chainText c)).map encC = _; rw [chainIn_back o.2]; rfl
theorem Kind.sw {k : Kind} (h : k.fine) : Sw 5 k.val ∧ ∃ ds, k.val = .tup ds := by
  have q := Kind.rdv_ok (k := k) ⟨by have := h.len; omega, h.asc⟩ (Kind.rdv_back h)
  exact ⟨q.1, q.2.2⟩
/-- a bent text -/
theorem bent_ok {u : S3} {s : T} (h1 : s.length ≤ 200) (h2 : asc s) : tx (bentF u s).1 ∧ (bentF u s).1.length ≤ 250 := by
  have ms := signsL_ok _ (pickT_mem (d := []) (u := (drawF (drawF u (s.length + 1)).2 6).2) (xs := signsL) (by decide))
  show tx (bentT _ _ _ _) ∧ (bentT _ _ _ _).length ≤ 250
  generalize (pickT [] (drawF (drawF u (s.length + 1)).2 6).2 signsL).1 = sg at ms
  generalize (drawF (drawF u (s.length + 1)).2 6).1 = w
  generalize (drawF u (s.length + 1)).1 = a
  have tk : ∀ n, (s.take n).length ≤ 200 ∧ asc (s.take n) := fun n => ⟨by rw [List.length_take]; omega, fun c hc => h2 c (List.mem_of_mem_take hc)⟩
  have dr : ∀ n, (s.drop n).length ≤ 200 - min n s.length ∧ asc (s.drop n) := fun n => ⟨by rw [List.length_drop]; omega, fun c hc => h2 c (List.mem_of_mem_drop hc)⟩
  have t0 : (s.take a).length = min a s.length := List.length_take
  have key : ∀ x : T, x.length ≤ 250 → asc x → tx x ∧ x.length ≤ 250 := fun x h3 h4 => ⟨⟨by omega, h4⟩, h3⟩
  have mid : ((s.drop a).take 2).length ≤ 2 ∧ asc ((s.drop a).take 2) := ⟨by rw [List.length_take]; omega, fun c hc => (dr a).2 c (List.mem_of_mem_take hc)⟩
  unfold bentT
  have d0 := (dr a).1
  have d1 := (dr (a + 1)).1
  have d2 := (dr (a + 2)).1
  split
  · exact key _ (by rw [List.length_append, List.length_append]; omega) (asc_app (asc_app (tk a).2 ms.2) (dr a).2)
  · split
    · exact key _ (by rw [List.length_append]; omega) (asc_app (tk a).2 (dr _).2)
    · split
      · exact key _ (by rw [List.length_append, List.length_append]; omega) (asc_app (asc_app (tk a).2 ms.2) (dr _).2)
      · split
        · exact key _ (by rw [List.length_append, List.length_append, List.length_reverse]; omega) (asc_app (asc_app (tk a).2 fun c hc => mid.2 c (List.mem_reverse.mp hc)) (dr _).2)
        · exact key _ (by rw [List.length_append, List.length_append]; omega) (asc_app (asc_app (tk a).2 mid.2) (dr _).2)
/-! ### the program's functions and the law's, by kind -/
section
variable {P : Program} {w : World} {K : PySem.W.Frag} {mg : Str → Option Value} {base : Heap} {CP CI : Addr}
theorem KnA.imp {a : Addr} {k n : Nat} {Z Z' : Type} {enc : Z → List D} {enc' : Z' → List D} {f : Z → Res} {f' : Z' → Res} {dom : Z → Prop} {dom' : Z' → Prop} (h : KnA P w K mg base a k n enc f dom) (t : Z' → Z) (q : ∀ z, dom' z → dom (t z) ∧ f (t z) = f' z ∧ enc (t z) = enc' z) : KnA P w K mg base a k n enc' f' dom' := by
  obtain ⟨fd, ps, h1, h2, h3, h4⟩ := h.ex
  refine ⟨fd, ps, h1, h2, h3, h4.imp fun vs H Q E z => ?_⟩
  obtain ⟨F, z, sm, n0, t0, l, hd, hl, k1, k2⟩ := z
  obtain ⟨q1, q2, q3⟩ := q z hd
  exact ⟨F, t z, sm, n0, t0, by rw [q3]; exact l, q1, by rw [q3]; exact hl, fun d hf => k1 d (by rw [← q2]; exact hf), fun x hf => k2 x (by rw [← q2]; exact hf)⟩
theorem KnA.mono {a : Addr} {j k n : Nat} {Z : Type} {enc : Z → List D} {f : Z → Res} {dom : Z → Prop} (h : KnA P w K mg base a j n enc f dom) (hk : j ≤ k) : KnA P w K mg base a k n enc f dom := by
  obtain ⟨fd, ps, h1, h2, h3, h4⟩ := h.ex
  exact ⟨fd, ps, h1, h2, h3, h4.mono hk⟩
/-- the functions of a case -/
structure KFn (P : Program) (w : World) (K : PySem.W.Frag) (mg : Str → Option Value) (base : Heap) (CP : Addr) (G : Fs) : Prop where
  f : ∀ k : Kind, KnA P w K mg base (k.f G) 8 1 (fun _ : Unit => [k.val]) (fun _ => .ok (dL k.txt)) (fun _ => k.fine)
  p : ∀ k : Kind, KnA P w K mg base (k.p G) 8 1 (fun d : D => [d]) (prs (.ref CP) _root_.id k.rdv) Odd
  r : ∀ k : Kind, KnA P w K mg base (k.r G) 8 1 (fun s : T => [dL s]) (fun s => .ok (encO _root_.id (k.rdv s))) (fun s => tx s ∧ s.length ≤ 250)
theorem kn_at {x : Str} {k n : Nat} {Z : Type} {enc : Z → List D} {f : Z → Res} {dom : Z → Prop} (h : Kn P w K mg base x k n enc f dom) {a : Addr} (ha : mg x = some (.ref a)) : KnA P w K mg base a k n enc f dom := by
  obtain ⟨b, h1, h2⟩ := h
  rw [ha] at h1
  cases h1
  exact h2
theorem prs_map {α : Type} {c : Value} {g : α → D} {f : T → Option α} (d : D) : prs c g f d = prs c _root_.id (fun s => (f s).map g) d := by
  unfold prs
  split
  · rw [ofO_map]; rfl
  · rfl
theorem encO_map {α : Type} {g : α → D} {o : Option α} : encO g o = encO _root_.id (o.map g) := by cases o <;> rfl
theorem kfn_of {G : Fs} (GM : FsM mg G) (f1 : KFDf P w K mg base) (f2 : KFRe P w K mg base) (f3 : KFPa P w K mg base) (f4 : KFCh P w K mg base) (p1 : KPDf P w K mg base CP) (p2 : KPRe P w K mg base CP) (p3 : KPPa P w K mg base CP) (p4 : KPCh P w K mg base CP)
    (r1 : LDiff P w K mg base) (r2 : LRel P w K mg base) (r3 : LPap P w K mg base) (r4 : LChn P w K mg base) : KFn P w K mg base CP G := by
  refine ⟨fun k => ?_, fun k => ?_, fun k => ?_⟩
  · cases k with
    | diff d => exact ((kn_at f1 GM.fd).imp (fun _ => d) fun _ h => ⟨h.ok, rfl, rfl⟩).mono (by decide)
    | rel d => exact ((kn_at f2 GM.fr).imp (fun _ => d) fun _ h => ⟨h.ok, rfl, rfl⟩).mono (by decide)
    | pap d => exact ((kn_at f3 GM.fp).imp (fun _ => d) fun _ h => ⟨h.ok, rfl, rfl⟩).mono (by decide)
    | chn d => exact ((kn_at f4 GM.fc).imp (fun _ => d) fun _ h => ⟨h.ok, rfl, rfl⟩).mono (by decide)
  · cases k with
    | diff d => exact ((kn_at p1 GM.pd).imp (fun d => d) fun _ h => ⟨h, prs_map _, rfl⟩).mono (by decide)
    | rel d => exact ((kn_at p2 GM.pr).imp (fun d => d) fun _ h => ⟨h, prs_map _, rfl⟩).mono (by decide)
    | pap d => exact ((kn_at p3 GM.pp).imp (fun d => d) fun _ h => ⟨h, prs_map _, rfl⟩).mono (by decide)
    | chn d => exact ((kn_at p4 GM.pc).imp (fun d => d) fun _ h => ⟨h, prs_map _, rfl⟩).mono (by decide)
  · cases k with
    | diff d => exact ((kn_at r1 GM.rd).imp (fun d => d) fun s h => ⟨h.1, by rw [← diff_eq h.1, encO_map]; rfl, rfl⟩).mono (by decide)
    | rel d => exact ((kn_at r2 GM.rr).imp (fun d => d) fun s h => ⟨h, by rw [← rel_eq, encO_map]; rfl, rfl⟩).mono (by decide)
    | pap d => exact ((kn_at r3 GM.rp).imp (fun d => d) fun s h => ⟨h, by rw [← paper_eq, encO_map]; rfl, rfl⟩).mono (by decide)
    | chn d => exact ((kn_at r4 GM.rc).imp (fun d => d) fun s h => ⟨h.1, by rw [← chain_eq, encO_map]; rfl, rfl⟩).mono (by decide)
end
end Kd
set_option Elab.async false
set_option linter.all false
set_option maxRecDepth 100000
set_option maxHeartbeats 2000000
/-! the walk of _law_cases -/
namespace Kd
open PySem PySem.Spec PyProof.Rows L2
variable [LT]
def pw : Paper → T
  | .alike _ => tAlike
  | .unlike _ => tUnlike
def pe : Paper → T
  | .alike r => relText r
  | .unlike a => addrText a
def pv : Paper → D
  | .alike r => encR r
  | .unlike a => encA a
theorem encP_eq (p : Paper) : encP p = .tup [dL (pw p), pv p] := by cases p <;> rfl
theorem paperText_eq (p : Paper) : paperText p = pw p ++ ([32] ++ pe p) := by cases p <;> rfl
section
variable {P : Program} {w : World} {K : PySem.W.Frag} {mg : Str → Option Value} {base : Heap} {CP CI : Addr}
/-- _law_cases -/
abbrev KCas (P : Program) (w : World) (K : PySem.W.Frag) (mg : Str → Option Value) (base : Heap) (G : Fs) (Z : Fn) := KnL P w K mg base "_law_cases" 4 0 encS (fun _ : Unit => []) (fun u _ => (.lst ((Z.kindsF u).map (Kind.enc G)), (Z.c8 u).2)) (fun _ _ => True)
abbrev s78 : Stmt := top 78
theorem sc78 : FnScope ["_law_stream_here", "_law_row", "_law_text", "_law_found", "_law_pairs_here", "_law_address_here", "_law_paper", "_law_ending", "_law_pieces_here", "_law_turn", "_law_one"] ["_law_stream_here"] (defScope s78) := ⟨rfl, rfl, rfl, by decide +kernel, rfl, by decide +kernel, by decide +kernel⟩
theorem k78b (M : Md K mg CP CI) {G : Fs} {Z : Fn} (B : FnB Z) (GM : FsM mg G) (k66 : KnL P w K mg base "_law_steps" 2 1 encS (fun m : Nat => [dIn m]) (fun u m => (.tup ((Z.st u m).1.map dIn), (Z.st u m).2)) (fun _ m => m ≤ 100)) (k68 : KnL P w K mg base "_law_drawn_look" 3 0 encS (fun _ : Unit => []) (fun u _ => (encK (Z.lk u).1, (Z.lk u).2)) (fun _ _ => True)) (k61 : LAdT P w K mg base) (k69 : LLkT P w K mg base) (k77 : KnL P w K mg base "_law_pairs" 3 0 encS (fun _ : Unit => []) (fun u _ => (encR (Z.pr u).1, (Z.pr u).2)) (fun _ _ => True)) (k67 : KnL P w K mg base "_law_address" 3 0 encS (fun _ : Unit => []) (fun u _ => (encA (Z.ad u).1, (Z.ad u).2)) (fun _ _ => True)) (k73 : LReT P w K mg base) (k58 : KnL P w K mg base "_law_pick" 2 1 encS (fun ps : List Paper => [.lst (ps.map encP)]) (fun u ps => (encP (Z.pk u ps).1, (Z.pk u ps).2)) (fun _ ps => 1 ≤ ps.length ∧ ps.length < 1000)) (k57 : KnL P w K mg base "_law_draw" 1 1 encS (fun h : Nat => [dIn h]) (fun u h => (dIn (Z.dr u h).1, (Z.dr u h).2)) (fun _ h => 1 ≤ h ∧ h < 1073741824)) {a : Addr} {cdv : Value} {A : Around} {outer : List Env} {s : Shared} {H : Hp} {E : XK} (u : S3) (C : Ct (cxOf (L2.CX P w) P w K mg base ["_law_stream_here", "_law_row", "_law_text", "_law_found", "_law_pairs_here", "_law_address_here", "_law_paper", "_law_ending", "_law_pieces_here", "_law_turn", "_law_one"] "_law_cases" (defScope s78) a cdv A outer s H E) E 3) {d2 d4 d5 d6 d7 : Sl} :
    DSs (cxOf (L2.CX P w) P w K mg base ["_law_stream_here", "_law_row", "_law_text", "_law_found", "_law_pairs_here", "_law_address_here", "_law_paper", "_law_ending", "_law_pieces_here", "_law_turn", "_law_one"] "_law_cases" (defScope s78) a cdv A outer s H E) E ((defBody s78).drop 8) [.own true (encS (Z.c6 u).2), .dat (encF (Z.rowF u)), d2, .own false [(Kind.diff (Z.rowF u)).enc G, (Kind.rel (Z.c4 u).1).enc G, (Kind.pap (Z.c6 u).1).enc G], d4, d5, d6, d7, .no, .no, .no] (PostL encS (.lst ((Z.kindsF u).map (Kind.enc G)), (Z.c8 u).2)) := by
  obtain ⟨k8, l81, l80⟩ := c8_ok B u
  have lt7 : (Z.c7 u).1 < 3 := B.dr (Z.c6 u).2 3 (by decide)
  refine dss_cons (dset (i := 8) (d := .tup ((Z.c8 u).1.map encA)) C.toCp (dtupL M.tuple (DE.to (dlcS (j := 9) (s := 0) (b := true) (xs := List.range (1 + (Z.c7 u).1)) (enc := dIn) (enc0 := encS) (g := fun v i => (encA (Z.pieceD v i).1, (Z.pieceD v i).2)) (P := fun _ => True) (Z.c7 u).2 C (drange M.range (daddN (i := 1) (j := (Z.c7 u).1) de_int (dcl (Z.c6 u).2 3 0 C.toCp k57 (a1 de_int) ⟨by decide, by decide⟩)) (by omega)) ⟨fun s0 H Cc cl fp xe cp a _ v _ => ?_, fun _ _ _ _ => trivial⟩ rfl trivial (by rw [List.length_range]; omega)) ?_)) ?_)
  · refine DE.to (dcatT (ds := (Z.st v 3).1.map dIn) (es := [dIn 1]) (dcl v 3 0 cp k66 (a1 de_int) (by show 3 ≤ 100; decide)) (de_tup (a1 de_int) (by decide)) ?_) ?_
    · have := (B.st v 3).2
      rw [List.length_map]
      show _ + 1 ≤ _
      omega
    · exact congrArg Except.ok (piece_enc (Z.st v 3).1 1).symm
  · rw [mapS_T (g := Z.pieceD) (enc := encA)]
    rfl
  have e8 : (mapS (fun v i => (encA (Z.pieceD v i).1, (Z.pieceD v i).2)) (Z.c7 u).2 (List.range (1 + (Z.c7 u).1))).2 = (Z.c8 u).2 := by
    rw [mapS_T (g := Z.pieceD) (enc := encA)]
    rfl
  rw [e8]
  obtain ⟨⟨o1, _, _⟩, _, ra, _, _⟩ := row_ok B u
  have sm := sum20 k8
  have jl := joinL_len [44, 32] ((Z.c8 u).1.map addrText)
  have e2 : ((Z.c8 u).1.map addrText).length = (Z.c8 u).1.length := List.length_map _
  rw [e2] at jl
  have e3 : (Z.c8 u).1.length * ([44, 32] : List Nat).length = (Z.c8 u).1.length * 2 := rfl
  rw [e3] at jl
  refine dss_cons (dset (i := 2) (d := dL (chainText (Z.chnF u))) C.toCp (DE.to (ladd (s := addrText (Z.rowF u).a ++ [58, 32]) (t := TL.joinL [44, 32] ((Z.c8 u).1.map addrText)) (ladd (s := addrText (Z.rowF u).a) (t := [58, 32]) (dcq (Z.rowF u).a C k61 (a1 (dix (dv 1) de_int)) ⟨o1, addr_asc _⟩) lit ?_) (ljoin (s := [44, 32]) lit (DE.to (dlcP (xs := (Z.c8 u).1) (enc := encA) (g := fun a => dL (addrText a)) C 10 (di_tup (dv 8)) (by omega) fun s H Cc cl fp xe cp c hc => dcp c cp k61 (a1 (dv 10)) ⟨(k8 c hc).1, addr_asc _⟩) ?_) ?_) ?_) ?_) ?_)
  · show _ + 2 ≤ _
    omega
  · rw [List.map_map]; rfl
  · show (((Z.c8 u).1.map addrText).map List.length).sum + ((Z.c8 u).1.map addrText).length * 2 ≤ _
    rw [e2]
    omega
  · rw [List.length_append]
    show _ + 2 + _ ≤ _
    omega
  · refine congrArg (fun t => Except.ok (dL t)) ?_
    show _ = addrText (Z.rowF u).a ++ ([58, 32] ++ TL.joinL [44, 32] ((Z.c8 u).1.map addrText))
    rw [List.append_assoc]
  refine dss_freeze (i := 3) rfl ?_
  exact dss_one (ds_ret (dcatL (dv 3) (de_lst (a1 (de_tup (a4 (de_tup (a3 (lit (l := tChain)) (dix (dv 1) de_int) (dv 8)) (Nat.le_of_ble_eq_true rfl)) (dv 2) (de_tup (a2 (dgF GM.fc) (dgF GM.pc)) (Nat.le_of_ble_eq_true rfl)) (dgF GM.rc)) (Nat.le_of_ble_eq_true rfl))) (Nat.le_of_ble_eq_true rfl)) (Nat.le_of_ble_eq_true rfl)) ⟨rfl, rfl⟩)
end
end Kd
set_option Elab.async false
set_option linter.all false
set_option maxRecDepth 100000
set_option maxHeartbeats 2000000
/-! the walk of _law_cases -/
namespace Kd
open PySem PySem.Spec PyProof.Rows L2
variable [LT]
section
variable {P : Program} {w : World} {K : PySem.W.Frag} {mg : Str → Option Value} {base : Heap} {CP CI : Addr}
theorem k78 (M : Md K mg CP CI) {G : Fs} {Z : Fn} (B : FnB Z) (GM : FsM mg G) (F : Df K mg "_law_cases" s78 ["_law_stream_here"]) (k66 : KnL P w K mg base "_law_steps" 2 1 encS (fun m : Nat => [dIn m]) (fun u m => (.tup ((Z.st u m).1.map dIn), (Z.st u m).2)) (fun _ m => m ≤ 100)) (k68 : KnL P w K mg base "_law_drawn_look" 3 0 encS (fun _ : Unit => []) (fun u _ => (encK (Z.lk u).1, (Z.lk u).2)) (fun _ _ => True)) (k61 : LAdT P w K mg base) (k69 : LLkT P w K mg base) (k77 : KnL P w K mg base "_law_pairs" 3 0 encS (fun _ : Unit => []) (fun u _ => (encR (Z.pr u).1, (Z.pr u).2)) (fun _ _ => True)) (k67 : KnL P w K mg base "_law_address" 3 0 encS (fun _ : Unit => []) (fun u _ => (encA (Z.ad u).1, (Z.ad u).2)) (fun _ _ => True)) (k73 : LReT P w K mg base) (k58 : KnL P w K mg base "_law_pick" 2 1 encS (fun ps : List Paper => [.lst (ps.map encP)]) (fun u ps => (encP (Z.pk u ps).1, (Z.pk u ps).2)) (fun _ ps => 1 ≤ ps.length ∧ ps.length < 1000)) (k57 : KnL P w K mg base "_law_draw" 1 1 encS (fun h : Nat => [dIn h]) (fun u h => (dIn (Z.dr u h).1, (Z.dr u h).2)) (fun _ h => 1 ≤ h ∧ h < 1073741824)) : KCas P w K mg base G Z := by
  refine knL_df F sc78 (body := fun a cdv A outer s H E u _ C _ => ?_)
  obtain ⟨⟨o1, o2, o3⟩, _, ra, rl, rasc⟩ := row_ok B u
  have x3 := lookText_len o2
  have y3 := lookText_len o3
  refine dss_cons (dset (i := 1) (d := encF (Z.rowF u)) C.toCp (DE.to (de_tup (a3 (dcl u 5 0 C.toCp k66 (a1 de_int) (by show 5 ≤ 100; decide)) (dcl (Z.c1 u).2 () 0 C.toCp k68 da_nil trivial) (dcl (Z.c2 u).2 () 0 C.toCp k68 da_nil trivial)) (Nat.le_of_ble_eq_true rfl)) ?_) ?_)
  · show Except.ok (D.tup [.tup ((Z.c1 u).1.map dIn), encK (Z.c2 u).1, encK (Z.c3 u).1]) = Except.ok (D.tup [encA ((Z.c1 u).1.map .one), encK (Z.c2 u).1, encK (Z.c3 u).1])
    rw [ones_enc]
  generalize hq3 : Z.rowF u = row at o1 o2 o3 ra rl rasc x3 y3
  refine dss_cons (dset (i := 2) (d := dL (diffText row)) C.toCp (DE.to (ladd (s := addrText row.a ++ [58, 32] ++ lookText row.x ++ [44, 32]) (t := lookText row.y) (ladd (s := addrText row.a ++ [58, 32] ++ lookText row.x) (t := [44, 32]) (ladd (s := addrText row.a ++ [58, 32]) (t := lookText row.x) (ladd (s := addrText row.a) (t := [58, 32]) (dcq row.a C k61 (a1 (dix (dv 1) de_int)) ⟨o1, addr_asc _⟩) lit ?_) (dcq row.x C k69 (a1 (dix (dv 1) de_int)) o2) ?_) lit ?_) (dcq row.y C k69 (a1 (dix (dv 1) de_int)) o3) ?_) ?_) ?_)
  · show _ + 2 ≤ _; omega
  · rw [List.length_append]; show _ + 2 + _ ≤ _; omega
  · rw [List.length_append, List.length_append]; show _ + 2 + _ + 2 ≤ _; omega
  · rw [List.length_append, List.length_append, List.length_append]; show _ + 2 + _ + 2 + _ ≤ _; omega
  · refine congrArg (fun t => Except.ok (dL t)) ?_
    show _ = addrText row.a ++ ([58, 32] ++ (lookText row.x ++ ([44, 32] ++ lookText row.y)))
    simp
  refine dss_cons (ds_setOwn (i := 3) (ds := [(Kind.diff row).enc G]) C.nd rfl (.inl rfl) (a1 (de_tup (a4 (dv 1) (dv 2) (de_tup (a2 (dgF GM.fd) (dgF GM.pd)) (Nat.le_of_ble_eq_true rfl)) (dgF GM.rd)) (Nat.le_of_ble_eq_true rfl))) (Nat.le_of_ble_eq_true rfl) (Nat.le_of_ble_eq_true rfl) ?_)
  obtain ⟨r1, _, r3, r4⟩ := B.pr (Z.c3 u).2
  have r1 : okR (Z.c4 u).1 := r1
  have r3 : (relText (Z.c4 u).1).length ≤ 40 := r3
  obtain ⟨a1', _, a3'⟩ := B.ad (Z.c4 u).2
  have a1' : okA (Z.c5 u).1 := a1'
  have a3' : (addrText (Z.c5 u).1).length ≤ 170 := a3'
  refine dss_cons (ds_par (i := 4) (j := 5) (d1 := encR (Z.c4 u).1) (d2 := encA (Z.c5 u).1) C.calm C.nd rfl rfl (by decide) rfl rfl (a2 (dcl (Z.c3 u).2 () 0 C.toCp k77 da_nil trivial) (dcl (Z.c4 u).2 () 0 C.toCp k67 da_nil trivial)) (Nat.le_of_ble_eq_true rfl) (Nat.le_of_ble_eq_true rfl) ?_ rfl)
  refine dss_cons (ds_app (i := 3) (b2 := false) (d := (Kind.rel (Z.c4 u).1).enc G) rfl (.inl rfl) rfl (de_tup (a4 (dv 4) (dcq (Z.c4 u).1 C k73 (a1 (dv 4)) r1) (de_tup (a2 (dgF GM.fr) (dgF GM.pr)) (Nat.le_of_ble_eq_true rfl)) (dgF GM.rr)) (Nat.le_of_ble_eq_true rfl)) rfl (Nat.le_of_ble_eq_true rfl) ?_)
  obtain ⟨_, _, _, _, pm⟩ := pap_ok B u
  refine dss_cons (dset (i := 6) (d := .tup [dL (pw (Z.c6 u).1), pv (Z.c6 u).1]) C.toCp (DE.to (dcl (Z.c5 u).2 [Paper.alike (Z.c4 u).1, .unlike (Z.c5 u).1] 0 C.toCp k58 (a1 (de_lst (a2 (de_tup (a2 (lit (l := tAlike)) (dv 4)) (Nat.le_of_ble_eq_true rfl)) (de_tup (a2 (lit (l := tUnlike)) (dv 5)) (Nat.le_of_ble_eq_true rfl))) (Nat.le_of_ble_eq_true rfl))) ⟨by simp, by simp⟩) (congrArg Except.ok (encP_eq (Z.c6 u).1))) ?_)
  have pl : (pe (Z.c6 u).1).length ≤ 170 ∧ (pw (Z.c6 u).1).length ≤ 6 := by
    rcases pm with h | h <;> rw [h]
    · exact ⟨by show (relText (Z.c4 u).1).length ≤ _; omega, by show tAlike.length ≤ 6; decide⟩
    · exact ⟨a3', by show tUnlike.length ≤ 6; decide⟩
  refine dss_cons (dset (i := 7) (d := dL (pe (Z.c6 u).1)) C.toCp (de_ifS (k := decide (pw (Z.c6 u).1 = tAlike)) (lteq (s := pw (Z.c6 u).1) (dix (dv 6) de_int) lit) (fun h => ?_) fun h => ?_) ?_)
  · have h := of_decide_eq_true h
    rcases pm with e | e <;> rw [e] at h ⊢
    · exact dcq (Z.c4 u).1 C k73 (a1 (dv 4)) r1
    · exact absurd h (by show ¬ tUnlike = tAlike; decide)
  · have h := of_decide_eq_false h
    rcases pm with e | e <;> rw [e] at h ⊢
    · exact absurd rfl h
    · exact dcq (Z.c5 u).1 C k61 (a1 (dv 5)) ⟨a1', addr_asc _⟩
  refine dss_cons (ds_app (i := 3) (b2 := false) (d := (Kind.pap (Z.c6 u).1).enc G) rfl (.inl rfl) rfl (DE.to (de_tup (a4 (dv 6) (ladd (s := pw (Z.c6 u).1 ++ [32]) (t := pe (Z.c6 u).1) (ladd (s := pw (Z.c6 u).1) (t := [32]) (dix (dv 6) de_int) lit ?_) (dv 7) ?_) (de_tup (a2 (dgF GM.fp) (dgF GM.pp)) (Nat.le_of_ble_eq_true rfl)) (dgF GM.rp)) (Nat.le_of_ble_eq_true rfl)) ?_) rfl (Nat.le_of_ble_eq_true rfl) ?_)
  · show _ + 1 ≤ _
    omega
  · rw [List.length_append]
    show _ + 1 + _ ≤ _
    omega
  · show Except.ok (D.tup [.tup [dL (pw (Z.c6 u).1), pv (Z.c6 u).1], dL ((pw (Z.c6 u).1 ++ [32]) ++ pe (Z.c6 u).1), _, _]) = Except.ok (D.tup [encP (Z.c6 u).1, dL (paperText (Z.c6 u).1), _, _])
    rw [← encP_eq, paperText_eq, List.append_assoc]
    rfl
  subst hq3
  exact k78b M B GM k66 k68 k61 k69 k77 k67 k73 k58 k57 u C
end
end Kd
set_option Elab.async false
set_option linter.all false
set_option maxRecDepth 100000
set_option maxHeartbeats 2000000
/-! the walk of the law: one case -/
namespace Kd
open PySem PySem.Spec PyProof.Rows L2
variable [LT]
def tRef : T := [114, 101, 102, 117, 115, 101, 100]
def lamq (x : Str) : Str := (x ++ ".<locals>.") ++ "<lambda>"
/-- the tables of a maker of lambdas -/
structure Tm (base : Heap) (mg : Str → Option Value) (x : Str) (c P : Addr) : Prop where
  tb : LamX.TabB base mg c P
  mem : (P, lamq x) ∈ LT.T
  one : ∀ p ∈ LT.T, p.1 = P → p.2 = lamq x
/-- the streams behind n bent texts -/
def bentsG (bf : S3 → T → T × S3) (s : T) : Nat → S3 → S3
  | 0, u => u
  | n + 1, u => (bf (bentsG bf s n u) s).2
abbrev bents := bentsG bentF
def odds (k : Kind) (z : T) : List D := [dN, dI 0, .tup [], .lst [dL k.txt], .emp, dB true, k.val, dL (k.txt ++ [10]), dL ([32] ++ k.txt), dL [], dL z]
def caseF (u : S3) (k : Kind) : S3 := (drawF (bents k.txt 8 u) 11).2
section
variable {P : Program} {w : World} {K : PySem.W.Frag} {mg : Str → Option Value} {base : Heap} {CP CI : Addr}
theorem nines (m : Nat) : ∀ c ∈ (List.replicate m ([57] : T)).flatten, c = 57 := fun c hc => by
  obtain ⟨l, hl, hc⟩ := List.mem_flatten.mp hc
  rw [(List.mem_replicate.mp hl).2] at hc
  exact List.mem_singleton.mp hc
theorem nines_len (m : Nat) : ((List.replicate m ([57] : T)).flatten).length = m := by
  induction m with
  | zero => rfl
  | succ m ih => rw [List.replicate_succ, List.flatten_cons, List.length_append, ih]; show 1 + m = _; omega
theorem odd_refused {k : Kind} (h : k.fine) {d : D} {z : T} (hz : z = (List.replicate 5000 ([57] : T)).flatten) (hd : d ∈ odds k z) (CP : Addr) : Odd d ∧ prs (.ref CP) _root_.id k.rdv d = .error ⟨.ref CP, none⟩ := by
  have hl := h.len
  have txtNo : ∀ s : T, tx s → ¬ Fine s → Odd (dL s) ∧ prs (.ref CP) _root_.id k.rdv (dL s) = .error ⟨.ref CP, none⟩ := fun s h1 h2 => by
    refine ⟨.txt s h1.1 h1.2, ?_⟩
    show ofO (.ref CP) _root_.id (k.rdv (SX.S s).cps.toList) = _
    have e : (SX.S s).cps.toList = s := by simp [SX.S]
    rw [e]
    cases q : k.rdv s with
    | none => rfl
    | some v => exact absurd (Kind.rdv_fine h1 q) h2
  obtain ⟨_, ds, hv⟩ := Kind.sw h
  unfold odds at hd
  simp only [List.mem_cons, List.not_mem_nil, or_false] at hd
  rcases hd with rfl | rfl | rfl | rfl | rfl | rfl | rfl | rfl | rfl | rfl | rfl
  · exact ⟨.non, rfl⟩
  · exact ⟨.int 0, rfl⟩
  · exact ⟨.tup _, rfl⟩
  · exact ⟨.lst _, rfl⟩
  · exact ⟨.emp, rfl⟩
  · exact ⟨.bl _, rfl⟩
  · rw [hv]; exact ⟨.tup _, rfl⟩
  · exact txtNo _ ⟨by rw [List.length_append]; show _ + 1 ≤ _; omega, asc_app h.asc asc_lit⟩ fun f => f.nl (List.mem_append_right _ (by decide))
  · exact txtNo _ ⟨by rw [List.length_append]; show 1 + _ ≤ _; omega, asc_app asc_lit h.asc⟩ fun f => f.hd rfl
  · exact txtNo _ ⟨by decide, asc_lit⟩ fun f => by obtain ⟨c, hc, _⟩ := f.x9; cases hc
  · subst hz; exact txtNo _ ⟨by rw [nines_len]; decide, fun c hc => by rw [nines _ c hc]; decide⟩ fun f => by obtain ⟨c, hc, h9⟩ := f.x9; exact h9 (nines _ c hc)
/-- _law_read -/
abbrev s65 : Stmt := top 65
theorem sc65 : FnScope ["_law_call"] ["_law_call"] (defScope s65) := ⟨rfl, rfl, rfl, by decide +kernel, rfl, by decide +kernel, by decide +kernel⟩
theorem rd65 (M : Md K mg CP CI) (F : Df K mg "_law_read" s65 ["_law_call"]) : RdOk K mg "_law_read" CP tRef := by
  obtain ⟨a, fd, h1, h2, h3⟩ := F.ex
  obtain ⟨oc, od, kV, doc, pm, an, cdv, ct, osl, rfl, lk, hcd⟩ := h1.ex
  exact ⟨⟨a, _, _, kV, doc, pm, cdv, ct, oc, an, od, osl, ["_law_call"], "_law_call", "ParseError", _, _, _, _, _, _, _, _, _, _, _, rfl, h2, h1.kp, lk, hcd, h3, sc65, rfl, .inl rfl, rfl, M.pe.gC, by decide, by decide, by decide⟩⟩
end
end Kd
set_option Elab.async false
set_option linter.all false
set_option maxRecDepth 100000
set_option maxHeartbeats 2000000
/-! the walk of the law: one case -/
namespace Kd
open PySem PySem.Spec PyProof.Rows L2
variable [LT]
section
variable {P : Program} {w : World} {K : PySem.W.Frag} {mg : Str → Option Value} {base : Heap} {CP CI : Addr}
/-- _law_case_right -/
abbrev KCr (P : Program) (w : World) (K : PySem.W.Frag) (mg : Str → Option Value) (base : Heap) (G : Fs) := KnLG P w K mg base "_law_case_right" 11 4 encS (fun k : Kind => [k.val, dL k.txt, .tup [dF (k.f G), dF (k.p G)], dF (k.r G)]) (fun u k => (dB true, caseF u k)) (fun _ k => k.fine)
abbrev s79 : Stmt := top 79
abbrev N79 : List Str := ["_law_stream_here", "_law_value", "_law_text", "_law_calls", "_law_reading", "_law_turn", "_law_odd", "_law_other", "_law_told", "_law_due"]
theorem sc79 : FnScope N79 ["_law_stream_here", "_law_value", "_law_text", "_law_calls", "_law_reading"] (defScope s79) := ⟨rfl, rfl, rfl, by decide +kernel, rfl, by decide +kernel, by decide +kernel⟩
theorem prs_txt {α : Type} {c : Value} {g : α → D} {f : T → Option α} {s : T} : prs c g f (dL s) = ofO c g (f s) := by
  show ofO c g (f (SX.S s).cps.toList) = _
  have e : (SX.S s).cps.toList = s := by simp [SX.S]
  rw [e]
theorem ofO_err {α : Type} {g : α → D} {o : Option α} {y : Er} (hx : PySem.W.exmOne K (.ref CP) (.ref CP) = some true) (h : ofO (.ref CP) g o = .error y) : y.fs = none ∧ PySem.W.exmOne K y.cls (.ref CP) = some true := by
  cases o with
  | some a => cases h
  | none => cases h; exact ⟨rfl, hx⟩
theorem pickF_mem {u : S3} {ds : List D} (h : 1 ≤ ds.length) : (pickF u ds).1 ∈ ds := by
  have lt := draw_lt u h
  show (ds[(drawF u ds.length).1]?).getD dN ∈ ds
  rw [List.getElem?_eq_getElem lt]
  exact List.getElem_mem lt
theorem k79b (M : Md K mg CP CI) {G : Fs} (KF : KFn P w K mg base CP G) (hx : PySem.W.exmOne K (.ref CP) (.ref CP) = some true) (R : RdOk K mg "_law_read" CP tRef) {a c T0 : Addr}
    (tm : Tm base mg "_law_case_right" c T0) {f : S3 → List D → D × S3} (hf : ∀ u ds, 1 ≤ ds.length → (f u ds).1 ∈ ds) (k58 : KnL P w K mg base "_law_pick" 2 1 encS (fun ds : List D => [.lst ds]) f (fun _ ds => 1 ≤ ds.length ∧ ds.length < 1000)) {A : Around} {outer : List Env} {s0 : Shared} {H : Hp} {E : XK} (u8 : S3) {kd : Kind} (hk : kd.fine) {n5 : T} (hn5 : n5 = (List.replicate 5000 ([57] : T)).flatten)
    (C : Ct (cxOf (L2.CX P w) P w K mg base N79 "_law_case_right" (defScope s79) a (.ref c) A outer s0 H E) E 10) {d5 d7 d8 d9 : Sl} :
    DSs (cxOf (L2.CX P w) P w K mg base N79 "_law_case_right" (defScope s79) a (.ref c) A outer s0 H E) E ((defBody s79).drop 2) [.own true (encS u8), .dat kd.val, .dat (dL kd.txt), .dat (.tup [dF (kd.f G), dF (kd.p G)]), .dat (dF (kd.r G)), d5, .no, d7, d8, d9] (PostL encS (dB true, (f u8 (odds kd n5)).2)) := by
  have mk : Mkr (cxOf (L2.CX P w) P w K mg base N79 "_law_case_right" (defScope s79) a (.ref c) A outer s0 H E) c T0 := ⟨tm.tb, rfl, tm.mem, tm.one⟩
  have hl := hk.len
  have hmem : (f u8 (odds kd n5)).1 ∈ odds kd n5 := hf _ _ (show 1 ≤ 11 by decide)
  refine dss_cons (dset (i := 6) (d := (f u8 (odds kd n5)).1) C.toCp (dcl u8 (odds kd n5) 0 C.toCp k58 (a1 (de_lst (da_cons de_non (da_cons de_int (da_cons (de_tup da_nil (by decide)) (da_cons (de_lst (a1 (dv 2)) (Nat.le_of_ble_eq_true rfl)) (da_cons de_emp (da_cons de_bl (da_cons (dv 1) (da_cons (ladd (s := kd.txt) (t := [10]) (dv 2) lit (by show _ + 1 ≤ _; omega)) (da_cons (ladd (s := [32]) (t := kd.txt) lit (dv 2) (by show 1 + _ ≤ _; omega)) (da_cons (lit (l := [])) (da_cons (DE.to (lmul (l := [57]) (m := 5000) lit de_int (by decide) (by decide)) (by rw [hn5])) da_nil))))))))))) (Nat.le_of_ble_eq_true rfl))) ⟨show 1 ≤ 11 by decide, show 11 < 1000 by decide⟩) ?_)
  obtain ⟨o1, o2⟩ := odd_refused hk hn5 hmem CP
  generalize (f u8 (odds kd n5)).1 = od at o1 o2
  refine dss_one (ds_ret (d := dB true) (DE.to (deqP (m := 0) (n := 0) (d := dL tRef) (d2 := dL tRef) C.toCp (DE.to (de_told (j := 8) C R mk (by show LamX.lamSB (defScope s79) _ = true; decide +kernel) (by decide) (fun A outer s H E f c' cp => DEk.to (dek_callV od cp (KF.p kd) (dix (dv 3) de_int) (a1 (dv 6)) o1) o2) fun y hy => by cases hy; exact ⟨rfl, hx⟩) rfl) lit (.txt asc_lit) (.txt asc_lit)) (by rw [eqD_refl (n := 0) (.txt asc_lit)])) ⟨rfl, rfl⟩)
theorem k79g (M : Md K mg CP CI) {G : Fs} (KF : KFn P w K mg base CP G) (hx : PySem.W.exmOne K (.ref CP) (.ref CP) = some true) (R : RdOk K mg "_law_read" CP tRef) {a c T0 : Addr} {fd : FuncData} (F : FunC K "_law_case_right" s79 a fd c) (hm : mg "_law_case_right" = some (.ref a)) (hb : Binds K fd ["_law_stream_here", "_law_value", "_law_text", "_law_calls", "_law_reading"] [])
    (tm : Tm base mg "_law_case_right" c T0) {bf : S3 → T → T × S3} (hbf : ∀ u s, s.length ≤ 200 → asc s → tx (bf u s).1 ∧ (bf u s).1.length ≤ 250) (k64 : KnL P w K mg base "_law_bent_text" 3 1 encS (fun s : T => [dL s]) (fun u s => (dL (bf u s).1, (bf u s).2)) (fun _ s => s.length ≤ 1000)) {f : S3 → List D → D × S3} (hf : ∀ u ds, 1 ≤ ds.length → (f u ds).1 ∈ ds) (k58 : KnL P w K mg base "_law_pick" 2 1 encS (fun ds : List D => [.lst ds]) f (fun _ ds => 1 ≤ ds.length ∧ ds.length < 1000)) {n5 : T} (hn5 : n5 = (List.replicate 5000 ([57] : T)).flatten) :
    KnLG P w K mg base "_law_case_right" 11 4 encS (fun k : Kind => [k.val, dL k.txt, .tup [dF (k.f G), dF (k.p G)], dF (k.r G)]) (fun u k => (dB true, (f (bentsG bf k.txt 8 u) (odds k n5)).2)) (fun _ k => k.fine) := by
  refine knLG_of (k := 10) F hm hb sc79 rfl (by decide) fun A outer s0 H E u kd C hgd hk => ?_
  have mk : Mkr (cxOf (L2.CX P w) P w K mg base N79 "_law_case_right" (defScope s79) a (.ref c) A outer s0 H E) c T0 := ⟨tm.tb, rfl, tm.mem, tm.one⟩
  have hl := hk.len
  have ha := hk.asc
  obtain ⟨sv, dv0, hv⟩ := Kind.sw hk
  have back := Kind.rdv_back hk
  refine dss_cons (ds_if (kb := false) (DT.to (or2 (k1 := false) (k2 := false) (DT.to (ltne (s := kd.txt) (t := kd.txt) (de_callV () C.toCp (KF.f kd) (dix (dv 3) de_int) (a1 (dv 1)) hk) (dv 2)) (by simp)) fun _ => DT.to (tneP (m := 5) (n := 5) (d := kd.val) (d2 := kd.val) C.toCp (DE.to (de_callV (dL kd.txt) C.toCp (KF.p kd) (dix (dv 3) de_int) (a1 (dv 2)) (.txt _ (by omega) ha)) ?_) (dv 1) sv.pl sv.pl) (by rw [eqD_refl sv.pl]; rfl)) rfl) (fun h => by cases h) fun _ => dss_nil ?_)
  · rw [prs_txt, back]
    rfl
  refine dss_cons (ds_for (ds := (List.range 8).map fun i : Nat => dIn i) C.po C.calm (drange M.range de_int (by decide)) (fun i ρ => ∃ d5 d7 d8 d9, ρ = [.own true (encS (bentsG bf kd.txt i u)), .dat kd.val, .dat (dL kd.txt), .dat (.tup [dF (kd.f G), dF (kd.p G)]), .dat (dF (kd.r G)), d5, .no, d7, d8, d9]) ⟨.no, .no, .no, .no, rfl⟩ (fun i ρ d hI hdi => ?_) fun ρ hI => ?_)
  · obtain ⟨d5, d7, d8, d9, rfl⟩ := hI
    refine ⟨_, gn (i := 5) C.toCp, ?_⟩
    obtain ⟨tb, lb⟩ := hbf (bentsG bf kd.txt i u) kd.txt hl ha
    refine dss_cons (dset (i := 7) (d := dL (bf (bentsG bf kd.txt i u) kd.txt).1) C.toCp (dcl (bentsG bf kd.txt i u) kd.txt 0 C.toCp k64 (a1 (dv 2)) (by show _ ≤ 1000; omega)) ?_)
    generalize hq : bf (bentsG bf kd.txt i u) kd.txt = q at tb lb
    have hq2 : (bf (bentsG bf kd.txt i u) kd.txt).2 = q.2 := by rw [hq]
    obtain ⟨o, v⟩ := q
    have hb1 : bentsG bf kd.txt (i + 1) u = v := hq2
    have pt : prs (.ref CP) _root_.id kd.rdv (dL o) = ofO (.ref CP) _root_.id (kd.rdv o) := prs_txt
    refine dss_cons (ds_par (i := 8) (j := 9) (d1 := told tRef (ofO (.ref CP) _root_.id (kd.rdv o))) (d2 := encO _root_.id (kd.rdv o)) C.calm C.nd rfl rfl (by decide) rfl rfl (a2 (de_told (j := 8) C R mk (by show LamX.lamSB (defScope s79) _ = true; decide +kernel) (by decide) (fun A outer s H E f c' cp => DEk.to (dek_callV (dL o) cp (KF.p kd) (dix (dv 3) de_int) (a1 (dv 7)) (.txt _ tb.1 tb.2)) pt) fun y hy => ofO_err hx hy) (de_callV o C.toCp (KF.r kd) (dv 4) (a1 (dv 7)) ⟨tb, lb⟩)) (Nat.le_of_ble_eq_true rfl) (Nat.le_of_ble_eq_true rfl) ?_ rfl)
    have ar : asc tRef := asc_lit
    have rr : rl (dL tRef) ≤ 16000000 := Nat.le_trans (rl_txt ar) (by decide)
    cases q : kd.rdv o with
    | none =>
      refine dss_one (ds_if (kb := false) (DT.to (tne (drepr C.toCp hgd M.repr (dv 8) (Sw.txt (n := 0) ar) (by decide) rr (.inr (.inr ⟨_, rfl⟩))) (drepr C.toCp hgd M.repr (de_ifS (k := true) (DT.to (tisD (dv 9)) rfl) (fun _ => lit (l := tRef)) fun h => by cases h) (Sw.txt (n := 0) ar) (by decide) rr (.inr (.inr ⟨_, rfl⟩)))) (by simp)) (fun h => by cases h) fun _ => dss_nil ?_)
      exact ⟨_, _, _, _, by rw [hb1]; rfl⟩
    | some v =>
      obtain ⟨s1, s2, ds, s3⟩ := Kind.rdv_ok tb q
      have sl : ∀ d ∈ [v], Sw 5 d := fun d hd => by rw [List.mem_singleton.mp hd]; exact s1
      have r2 : rl (.lst [v]) ≤ 16000000 := by
        have := rl_lst sl
        simp only [List.map_cons, List.map_nil, List.sum_cons, List.sum_nil] at this
        omega
      refine dss_one (ds_if (kb := false) (DT.to (tne (drepr C.toCp hgd M.repr (dv 8) (Sw.lst sl) (by decide) r2 (.inl ⟨_, rfl⟩)) (drepr C.toCp hgd M.repr (de_ifS (k := false) (DT.to (tisD (dv 9)) (by rw [s3]; rfl)) (fun h => by cases h) fun _ => de_lst (a1 (dv 9)) (Nat.le_of_ble_eq_true rfl)) (Sw.lst sl) (by decide) r2 (.inl ⟨_, rfl⟩))) (by simp)) (fun h => by cases h) fun _ => dss_nil ?_)
      exact ⟨_, _, _, _, by rw [hb1]; rfl⟩
  · obtain ⟨d5, d7, d8, d9, rfl⟩ := hI
    exact k79b M KF hx R tm hf k58 _ hk hn5 C
theorem pick_case (v : S3) (k : Kind) (z : T) : (pickF v (odds k z)).2 = (drawF v 11).2 := rfl
theorem k79 (M : Md K mg CP CI) {G : Fs} (KF : KFn P w K mg base CP G) (hx : PySem.W.exmOne K (.ref CP) (.ref CP) = some true) (R : RdOk K mg "_law_read" CP tRef) {a c T0 : Addr} {fd : FuncData} (F : FunC K "_law_case_right" s79 a fd c) (hm : mg "_law_case_right" = some (.ref a)) (hb : Binds K fd ["_law_stream_here", "_law_value", "_law_text", "_law_calls", "_law_reading"] [])
    (tm : Tm base mg "_law_case_right" c T0) (k64 : KBnt P w K mg base) (k58 : KPick P w K mg base) : KCr P w K mg base G := by
  obtain ⟨n5, hn5⟩ : ∃ n5 : T, n5 = (List.replicate 5000 ([57] : T)).flatten := ⟨_, rfl⟩
  have e : (fun (u : S3) (k : Kind) => ((dB true, caseF u k) : D × S3)) = fun u k => (dB true, (pickF (bentsG bentF k.txt 8 u) (odds k n5)).2) := by
    funext u k
    rw [pick_case]
    rfl
  show KnLG P w K mg base "_law_case_right" 11 4 encS (fun k : Kind => [k.val, dL k.txt, .tup [dF (k.f G), dF (k.p G)], dF (k.r G)]) (fun (u : S3) (k : Kind) => ((dB true, caseF u k) : D × S3)) (fun _ k => k.fine)
  rw [e]
  exact k79g M KF hx R F hm hb tm (fun u s => bent_ok) k64 (fun u ds h => pickF_mem h) k58 hn5
end
end Kd
set_option Elab.async false
set_option linter.all false
set_option maxRecDepth 100000
set_option maxHeartbeats 2000000
/-! the walk of the law itself -/
namespace Kd
open PySem PySem.Spec PyProof.Rows L2
variable [LT]
def wr0 : T := [40, 48, 41, 42, 50, 58, 32, 102, 117, 110, 44, 32, 118, 97, 114, 32, 49]
def wrs : List T := [[48, 58, 32, 40, 48, 41, 42, 50], [40, 48, 41, 42, 48, 58, 32, 48], [48, 58, 32, 45], [48, 58, 32, 48, 44, 32, 40, 49, 41, 42, 49]]
theorem wr0_no : diffIn wr0 = none := by decide
theorem wrs_no : ∀ s ∈ wrs, chainIn s = none := by decide
theorem wrs_tx : ∀ s ∈ wrs, tx s := by
  intro s hs
  have h : wrs.all (fun s => decide (s.length ≤ 20000) && s.all (· < 128)) = true := by decide
  have := List.all_eq_true.mp h s hs
  rw [Bool.and_eq_true, decide_eq_true_eq] at this
  exact ⟨this.1, fun c hc => by simpa using List.all_eq_true.mp this.2 c hc⟩
def chn1 : Chn := ⟨[], [[.one 0, .one 1]]⟩
theorem chn1_ok : okC chn1 ∧ isChain chn1 = true := by
  refine ⟨⟨⟨by decide, (fun e he => nomatch (show e ∈ ([] : List AEl) from he)), by decide⟩, by decide, fun p hp => ?_, by decide⟩, by decide⟩
  rw [List.mem_singleton.mp hp]
  refine ⟨by decide, fun e he => ?_, by decide⟩
  rcases List.mem_cons.mp he with rfl | he
  · show 0 < 10 ^ 40; decide
  · rw [List.mem_singleton.mp he]; show 1 < 10 ^ 40; decide
theorem chn1_text : chainText chn1 = [45, 58, 32, 48, 46, 49] := by decide
theorem pap1 : paperIn [97, 108, 105, 107, 101, 32, 45] = some (.alike []) := by decide
section
variable {P : Program} {w : World} {K : PySem.W.Frag} {mg : Str → Option Value} {base : Heap} {CP CI : Addr}
abbrev s80 : Stmt := top 80
abbrev N80 : List Str := ["_law_script", "_law_at", "_law_wrong", "_law_text", "_law_stream_here", "_law_turn", "_law_value", "_law_calls", "_law_reading"]
theorem sc80 : FnScope N80 ["_law_script"] (defScope s80) := ⟨rfl, rfl, rfl, by decide +kernel, rfl, by decide +kernel, by decide +kernel⟩
theorem k80 (M : Md K mg CP CI) {G : Fs} (hx : PySem.W.exmOne K (.ref CP) (.ref CP) = some true) (R : RdOk K mg "_law_read" CP tRef) {a c T0 : Addr} {fd : FuncData} (F : FunC K "law" s80 a fd c) (tm : Tm base mg "law" c T0)
    {f56 : List Int × Nat → S3} (k56 : KnO P w K mg base "_law_stream" 1 2 (fun z : List Int × Nat => [.scr (z.1.map dI), dIn z.2]) (fun z => encS (f56 z)) (fun z => z.2 < 100))
    {f78 : S3 → List Kind × S3} (h78 : ∀ u, ∀ k ∈ (f78 u).1, k.fine) (k78 : KnL P w K mg base "_law_cases" 4 0 encS (fun _ : Unit => []) (fun u _ => (.lst ((f78 u).1.map (Kind.enc G)), (f78 u).2)) (fun _ _ => True))
    {f79 : S3 → Kind → S3} (k79 : KnLG P w K mg base "_law_case_right" 11 4 encS (fun k : Kind => [k.val, dL k.txt, .tup [dF (k.f G), dF (k.p G)], dF (k.r G)]) (fun u k => (dB true, f79 u k)) (fun _ k => k.fine))
    (p1 : KPDf P w K mg base CP) (p4 : KPCh P w K mg base CP) (f4 : KFCh P w K mg base) (p3 : KPPa P w K mg base CP) :
    FnG P w K mg base 12 a fd ["_law_script"] (spP K (fun z : List Int => [.scr (z.map dI)]) (fun _ => .ok (dB true)) (fun z => z.length ≤ 63) 1) := by
  refine fnG_of (k := 11) F sc80 rfl (by decide) fun A outer s0 H E z C hgd hz => ?_
  have mk : Mkr (cxOf (L2.CX P w) P w K mg base N80 "law" (defScope s80) a (.ref c) A outer s0 H E) c T0 := ⟨tm.tb, rfl, tm.mem, tm.one⟩
  have hz : z.length ≤ 63 := hz
  obtain ⟨m, hm5, hm⟩ : ∃ m : Nat, m ≤ 5 ∧ (if (if ((z.map dI).length : Int) < 5 then ((z.map dI).length : Int) else 5) > 1 then (if ((z.map dI).length : Int) < 5 then ((z.map dI).length : Int) else 5) else 1) = (m : Int) := by
    refine ⟨(if (if ((z.map dI).length : Int) < 5 then ((z.map dI).length : Int) else 5) > 1 then (if ((z.map dI).length : Int) < 5 then ((z.map dI).length : Int) else 5) else 1).toNat, ?_, ?_⟩ <;> split <;> split <;> omega
  refine dss_cons (ds_for (ds := (List.range m).map fun i : Nat => dIn i) C.po C.calm (drange M.range (DE.to (dmax2 C.calm M.max de_int (dmin2 C.calm M.min de_int (dlenR M.len (dv 0)))) (by rw [hm])) (by omega)) (fun i ρ => ∃ d1 d3 d4 d5 d6 d7 d8, ρ = [.dat (.scr (z.map dI)), d1, .no, d3, d4, d5, d6, d7, d8]) ⟨_, _, _, _, _, _, _, rfl⟩ (fun i ρ d hI hdi => ?_) fun ρ hI => ?_)
  · obtain ⟨d1, d3, d4, d5, d6, d7, d8, rfl⟩ := hI
    have hi : i < m ∧ d = dIn i := by
      rw [List.getElem?_map] at hdi
      cases q : (List.range m)[i]? with
      | none => rw [q] at hdi; cases hdi
      | some j =>
        rw [q] at hdi
        have := List.getElem?_eq_some_iff.mp q
        obtain ⟨h1, h2⟩ := this
        rw [List.length_range] at h1
        rw [List.getElem_range] at h2
        exact ⟨h1, by cases hdi; rw [h2]⟩
    obtain ⟨hi, rfl⟩ := hi
    refine ⟨_, gn (i := 1) C.toCp, ?_⟩
    refine dss_cons (ds_setCallO (i := 4) (z, i) C.toCp k56 (by decide) rfl (a2 (dv 0) (dv 1)) rfl (show i < 100 by omega) rfl (.inl rfl) (Nat.le_of_ble_eq_true rfl) ?_)
    generalize f56 (z, i) = u
    refine dss_one (ds_for (ds := (List.range 4).map fun i : Nat => dIn i) C.po C.calm (drange M.range de_int (by decide)) (fun j ρ => ∃ u d1 d3 d5 d6 d7 d8, ρ = [.dat (.scr (z.map dI)), d1, .no, d3, .own false (encS u), d5, d6, d7, d8]) ⟨u, _, _, _, _, _, _, rfl⟩ (fun j ρ d hI hdj => ?_) fun ρ hI => ?_)
    · obtain ⟨u, e1, e3, e5, e6, e7, e8, rfl⟩ := hI
      refine ⟨_, gn (i := 5) C.toCp, ?_⟩
      have fine := h78 u
      refine dss_one (ds_for (ds := (f78 u).1.map (Kind.enc G)) C.po C.calm (di_list (dcl u () 4 C.toCp k78 da_nil trivial)) (fun j ρ => ∃ v d1 d3 d5 d6 d7 d8, ρ = [.dat (.scr (z.map dI)), d1, .no, d3, .own false (encS v), d5, d6, d7, d8]) ⟨(f78 u).2, _, _, _, _, _, _, rfl⟩ (fun l ρ d hI hdl => ?_) fun ρ hI => ?_)
      · obtain ⟨v, e1, e3, e5, e6, e7, e8, rfl⟩ := hI
        obtain ⟨kd, hk, rfl⟩ := List.mem_map.mp (List.mem_of_getElem? hdl)
        refine ⟨_, dg_tup C.calm (dgs_cons (gn (i := 6) C.toCp) (dgs_cons (gn (i := 3) C.toCp) (dgs_cons (gn (i := 7) C.toCp) (dgs_cons (gn (i := 8) C.toCp) dgs_nil)))), ?_⟩
        refine dss_one (ds_if (kb := false) (dt_not (k := true) (dt_val (dclG v kd 4 C.toCp hgd k79 (a4 (dv 6) (dv 3) (dv 7) (dv 8)) (fine kd hk)))) (fun h => by cases h) fun _ => dss_nil ?_)
        exact ⟨f79 v kd, _, _, _, _, _, _, rfl⟩
      · obtain ⟨v, e1, e3, e5, e6, e7, e8, rfl⟩ := hI
        exact ⟨v, _, _, _, _, _, _, rfl⟩
    · obtain ⟨u, e1, e3, e5, e6, e7, e8, rfl⟩ := hI
      exact ⟨_, _, _, _, _, _, _, rfl⟩
  · obtain ⟨d1, d3, d4, d5, d6, d7, d8, rfl⟩ := hI
    have pt : prs (.ref CP) encF diffIn (dL wr0) = .error ⟨.ref CP, none⟩ := by rw [prs_txt, wr0_no]; rfl
    have w0 : tx wr0 := ⟨by decide, asc_lit⟩
    refine dss_cons (ds_setOwn (i := 2) (ds := [dL tRef]) C.nd rfl (.inl rfl) (a1 (DE.to (de_told (j := 8) C R mk (by show LamX.lamSB (defScope s80) _ = true; decide +kernel) (by decide) (fun A outer s H E f c' cp => DEk.to (dek_call (dL wr0) cp p1 (a1 lit) (.txt _ w0.1 w0.2)) pt) fun y hy => by cases hy; exact ⟨rfl, hx⟩) rfl)) (Nat.le_of_ble_eq_true rfl) (Nat.le_of_ble_eq_true rfl) ?_)
    refine dss_cons (ds_for (ds := wrs.map dL) C.po C.calm (di_tup (de_tup (a4 (lit (l := [48, 58, 32, 40, 48, 41, 42, 50])) (lit (l := [40, 48, 41, 42, 48, 58, 32, 48])) (lit (l := [48, 58, 32, 45])) (lit (l := [48, 58, 32, 48, 44, 32, 40, 49, 41, 42, 49]))) (Nat.le_of_ble_eq_true rfl))) (fun i ρ => ∃ d3, ρ = [.dat (.scr (z.map dI)), d1, .own false (List.replicate (1 + i) (dL tRef)), d3, d4, d5, d6, d7, d8]) ⟨d3, rfl⟩ (fun i ρ d hI hdi => ?_) fun ρ hI => ?_)
    · obtain ⟨e3, rfl⟩ := hI
      obtain ⟨s, hs, rfl⟩ := List.mem_map.mp (List.mem_of_getElem? hdi)
      have hi : i < 4 := (List.getElem?_eq_some_iff.mp hdi).1
      have pt : prs (.ref CP) encC chainIn (dL s) = .error ⟨.ref CP, none⟩ := by rw [prs_txt, wrs_no s hs]; rfl
      have ws := wrs_tx s hs
      refine ⟨_, gn (i := 3) C.toCp, ?_⟩
      refine dss_one (ds_app (i := 2) (b2 := false) (xs := List.replicate (1 + i) (dL tRef)) (d := dL tRef) rfl (.inl rfl) rfl (DE.to (de_told (j := 8) C R mk (by show LamX.lamSB (defScope s80) _ = true; decide +kernel) (by decide) (fun A outer s' H E f c' cp => DEk.to (dek_call (dL s) cp p4 (a1 (dv 3)) (.txt _ ws.1 ws.2)) pt) fun y hy => by cases hy; exact ⟨rfl, hx⟩) rfl) rfl (by rw [List.length_replicate]; omega) ?_)
      have e : List.replicate (1 + i) (dL tRef) ++ [dL tRef] = List.replicate (1 + (i + 1)) (dL tRef) := by rw [show 1 + (i + 1) = (1 + i) + 1 by omega, List.replicate_succ']
      exact ⟨.dat (dL s), by rw [← e]; rfl⟩
    · obtain ⟨e3, rfl⟩ := hI
      have pe : Pl 4 (encP (.alike [])) := (swP (p := .alike []) ⟨by decide, fun p hp => nomatch hp⟩).1.pl
      have ar : asc tRef := asc_lit
      have pr : ∀ d ∈ List.replicate (1 + 4) (dL tRef), Pl 0 d := fun d hd => by rw [(List.mem_replicate.mp hd).2]; exact .txt ar
      refine dss_freeze (i := 2) (ds := List.replicate (1 + 4) (dL tRef)) rfl ?_
      refine dss_cons (ds_if (kb := false) (DT.to (tneP (m := 1) (n := 1) (d := .lst (List.replicate (1 + 4) (dL tRef))) (d2 := .lst (List.replicate (1 + 4) (dL tRef))) C.toCp (dv 2) (DE.to (dmulL (m := 5) (ds := [dL tRef]) (de_lst (a1 lit) (Nat.le_of_ble_eq_true rfl)) de_int (by decide) (by decide)) rfl) (.lst pr) (.lst pr)) (by rw [eqD_refl (n := 1) (.lst pr)]; rfl)) (fun h => by cases h) fun _ => dss_nil ?_)
      have pp : prs (.ref CP) encP paperIn (dL [97, 108, 105, 107, 101, 32, 45]) = .ok (encP (.alike [])) := by rw [prs_txt, pap1]; rfl
      refine dss_one (ds_ret (d := dB true) (DE.to (vand2 (k1 := true) (k2 := true) (DE.to (deqP (m := 0) (n := 0) (d := dL (chainText chn1)) (d2 := dL [45, 58, 32, 48, 46, 49]) C.toCp (dcq chn1 C f4 (a1 (de_tup (a3 (lit (l := tChain)) (de_tup da_nil (Nat.le_of_ble_eq_true rfl)) (de_tup (a1 (de_tup (a2 de_int de_int) (Nat.le_of_ble_eq_true rfl))) (Nat.le_of_ble_eq_true rfl))) (Nat.le_of_ble_eq_true rfl))) chn1_ok) lit (by rw [chn1_text]; exact .txt asc_lit) (.txt asc_lit)) (by rw [chn1_text, eqD_refl (n := 0) (.txt asc_lit)])) fun _ => DE.to (deqP (m := 4) (n := 4) (d := encP (.alike [])) (d2 := encP (.alike [])) C.toCp (dcq (dL [97, 108, 105, 107, 101, 32, 45]) C p3 (a1 lit) (.txt _ (by decide) asc_lit) pp) (de_tup (a2 (lit (l := tAlike)) (de_tup da_nil (Nat.le_of_ble_eq_true rfl))) (Nat.le_of_ble_eq_true rfl)) pe pe) (by rw [eqD_refl pe])) rfl) rfl)
end
end Kd
set_option Elab.async false
set_option linter.all false
set_option maxRecDepth 100000
set_option maxHeartbeats 2000000
/-! the law is called from outside: its lambdas' tables are empty, no repr is on its way -/
namespace Kd
open PySem PySem.Spec PyProof.Rows L2
variable [LT]
/-- what is tracked when the law is called: the script, where it is no part of the frame, and the empty tables -/
def startH (K : PySem.W.Frag) (ts : List Addr) (a : Addr) (oa : Obj) (xs : List V) : Hp := fun b => if b ∈ ts then some (.tbl #[]) else if b = a ∧ K.lookup a = none then some (.frz oa (.lst xs)) else none
section
variable {K : PySem.W.Frag} {ts : List Addr} {a : Addr} {oa : Obj} {xs : List V}
theorem startH_tab {b : Addr} (h : b ∈ ts) : startH K ts a oa xs b = some (.tbl #[]) := if_pos h
theorem startH_scr (h : a ∉ ts) (hk : K.lookup a = none) : startH K ts a oa xs a = some (.frz oa (.lst xs)) := (if_neg h).trans (if_pos ⟨rfl, hk⟩)
theorem startH_inv {b : Addr} {u : HO} (h : startH K ts a oa xs b = some u) : (b ∈ ts ∧ u = .tbl #[]) ∨ (b ∉ ts ∧ b = a ∧ K.lookup a = none ∧ u = .frz oa (.lst xs)) := by
  unfold startH at h
  split at h
  · rename_i hb
    exact .inl ⟨hb, (Option.some.inj h).symm⟩
  · rename_i hb
    split at h
    · rename_i hc
      exact .inr ⟨hb, hc.1, hc.2, (Option.some.inj h).symm⟩
    · cases h
end
theorem lawG_call {P : Program} {w : World} {K : PySem.W.Frag} {mg mb : Str → Option Value} {k n : Nat} {fa a : Addr} {cs : List (Addr × Addr)} {fd : FuncData} {x : Str} {st : Shared} {vals : List Value} {ns : List Int}
    (inK : K.In st.heap) (main : st.heap.Ns mainGlobals mg) (blt : st.heap.Ns builtinsNs mb) (bo : ∀ y : Str, y ≠ "__name__" → mb y = bootBuiltins y) (nolim : st.heap.NoLimit) (gen0 : st.gens = #[])
    (tab : ∀ q ∈ cs, st.heap.get? q.2 = some { cls := .none, data := .fields #[] }) (tabK : ∀ q ∈ cs, K.lookup q.2 = none) (cod : ∀ q ∈ cs, PySem.W.CodeHd st.heap q.1 q.2)
    (bmod : ∃ (bm : Addr) (ob : Obj), mg "__builtins__" = some (.ref bm) ∧ bm ≠ builtinsNs ∧ st.heap.get? bm = some ob ∧ ob.cls = .type "module" ∧ ob.dict = some builtinsNs ∧ ob.data = .plain)
    (scr : st.heap.get? a = some { cls := .type "list", data := .seq vals.toArray }) (iv : IntsAre vals ns) (short : ns.length ≤ 63) (room : Room k callerA) (hT : LT.T.map (·.1) = cs.map (·.2))
    (law : ∀ base : Heap, K.In base → base.Ns mainGlobals mg → (∀ q ∈ cs, LamX.TabB base mg q.1 q.2) → FnG P w K mg base k fa fd [x] (spP K (fun z : List Int => [.scr (z.map dI)]) (fun _ => .ok (dB true)) (fun z => z.length ≤ 63) 1)) (bind1 : ∀ (s : Shared) (u : Value), BindsTo s fd ⟨[u], []⟩ [(x, u)]) :
    codeAny (model P w) callerA (.call (.ref fa) ⟨[.ref a], []⟩) (fun r s' => r = .ok (.ret (.bool true)) ∧ OldK st.heap s'.heap ∧ s'.os = st.os ∧ AllBare s'.gens) st := by
  have rel := vals_ints iv
  have len := iv.length
  obtain ⟨ts, hts⟩ : ∃ ts, ts = cs.map (·.2) := ⟨_, rfl⟩
  have onTab : ∀ b, b ∈ ts → ∃ q ∈ cs, q.2 = b := fun b hb => by
    rw [hts] at hb
    obtain ⟨q, h1, h2⟩ := List.mem_map.mp hb
    exact ⟨q, h1, h2⟩
  have toTab : ∀ q ∈ cs, q.2 ∈ ts := fun q hq => by rw [hts]; exact List.mem_map.mpr ⟨q, hq, rfl⟩
  have tabAt : ∀ b, b ∈ ts → st.heap.get? b = some { cls := .none, data := .fields #[] } := fun b hb => by
    obtain ⟨q, h1, rfl⟩ := onTab b hb
    exact tab q h1
  have aNo : a ∉ ts := fun hb => by
    have e := (tabAt a hb).symm.trans scr
    have e := congrArg Obj.data (Option.some.inj e)
    cases e
  obtain ⟨H, hH⟩ : ∃ H, H = startH K ts a { cls := .type "list", data := .seq vals.toArray } (ns.map V.int) := ⟨_, rfl⟩
  have inv : ∀ {b u}, H b = some u → (b ∈ ts ∧ u = .tbl #[]) ∨ (b ∉ ts ∧ b = a ∧ K.lookup a = none ∧ u = .frz { cls := .type "list", data := .seq vals.toArray } (.lst (ns.map V.int))) := fun {b u} h => startH_inv (by rw [← hH]; exact h)
  have hTab : ∀ b, b ∈ ts → H b = some (.tbl #[]) := fun b hb => by rw [hH]; exact startH_tab hb
  -- what is no list and no empty table is not tracked
  have free : ∀ {b : Addr} {o : Obj}, st.heap.get? b = some o → (∀ u m, o.data ≠ .seq u m) → o.data ≠ .fields #[] → H b = none := fun {b o} e n1 n2 => by
    cases q : H b with
    | none => rfl
    | some u =>
      rcases inv q with ⟨hb, _⟩ | ⟨_, rfl, _⟩
      · rw [tabAt b hb] at e
        cases e
        exact absurd rfl n2
      · rw [scr] at e
        cases e
        exact absurd rfl (n1 _ _)
  have kept : ∀ {b : Addr} {o : Obj}, st.heap.get? b = some o → H b = none → (hidT st.heap H).get? b = some o := fun e q => hidT_get e q
  have dict : ∀ {b : Addr} {o : Obj} {es : Array DictEntry} {ep : Nat}, st.heap.get? b = some o → o.data = .dict es ep → (hidT st.heap H).get? b = some o := fun {b o es ep} e d => kept e (free e (fun u m z => by rw [d] at z; cases z) fun z => by rw [d] at z; cases z)
  have ns2 : ∀ {b : Addr} {m : Str → Option Value}, st.heap.Ns b m → (hidT st.heap H).Ns b m := fun ⟨o, es, ep, e, d, r⟩ => ⟨o, es, ep, dict e d, d, r⟩
  have inB : K.In (hidT st.heap H) := fun b o e => kept (inK b o e) (by
    cases q : H b with
    | none => rfl
    | some u =>
      rcases inv q with ⟨hb, _⟩ | ⟨_, rfl, z, _⟩
      · obtain ⟨p, h1, rfl⟩ := onTab b hb
        rw [tabK p h1] at e
        cases e
      · rw [z] at e
        cases e)
  have modB : L2.Mod K mg (hidT st.heap H) := ⟨inB, ns2 main, ⟨mb, ns2 blt, bo⟩, let ⟨mc, h1, h2⟩ := nolim; ⟨mc, ns2 h1, h2⟩⟩
  have tabB : ∀ q ∈ cs, LamX.TabB (hidT st.heap H) mg q.1 q.2 := fun q hq => by
    have tq := tab q hq
    refine ⟨?_, ?_, fun z => ?_⟩
    · obtain ⟨o, us, file, tf, flags, tg, inF, text, tt, e1, r1, r2, r3, r4⟩ := cod q hq
      exact ⟨o, us, file, tf, flags, tg, inF, text, tt, kept e1 (free e1 (fun u m z => by rw [r2] at z; cases z) fun z => by rw [r2] at z; cases z; simp at r3), r1, r2, r3, r4⟩
    · obtain ⟨bm, ob, b1, b2, b3, b4, b5, b6⟩ := bmod
      refine ⟨bm, ob, b1, b2, fun z => ?_, fun z => ?_, kept b3 (free b3 (fun u m z => by rw [b6] at z; cases z) fun z => by rw [b6] at z; cases z), b4, b5, b6⟩
      · obtain ⟨o, es, ep, e, hd, _⟩ := main
        rw [z, e] at b3
        cases b3
        rw [hd] at b6
        cases b6
      · rw [z, tq] at b3
        cases b3
        cases b6
    · obtain ⟨o, es, ep, e, hd, _⟩ := main
      rw [z, tq] at e
      cases e
      cases hd
  have okH : HOk P w H st.heap := fun b u q => by
    rcases inv q with ⟨hb, rfl⟩ | ⟨_, rfl, _, rfl⟩
    · exact tabAt b hb
    · exact ⟨scr, by rw [List.length_map]; exact Nat.le_trans short (by decide), vals, _, rel, scr⟩
  have sq : SqL K H a (ns.map V.int) := by
    cases hk : K.lookup a with
    | none => exact .inl (.inr ⟨_, by rw [hH]; exact startH_scr aNo hk⟩)
    | some o =>
      have e := inK a o hk
      rw [scr] at e
      cases e
      exact .inr ⟨_, vals.toArray, _, hk, rfl, rfl, rfl, by rw [List.size_toArray, len]; exact Nat.le_trans short (by decide), by simpa using rel⟩
  have tabsH : LamX.Tabs LT.T H := fun p hp => ⟨#[], hTab p.1 (by rw [hts, ← hT]; exact List.mem_map.mpr ⟨p, hp, rfl⟩), True.intro, fun pos cv hc => by
    have z : codeAmong pos [] = some cv := hc
    simp [codeAmong] at z⟩
  have env : Env0 P w K mg (hidT st.heap H) callerA [] st H := ⟨rfl, modB, fun b o e => of_hidT e, Nat.le_of_eq (hidT_size _ _), trivial, (fun b hb => nomatch hb), okH, .of_eq gen0⟩
  have strip : SqL K (stripH H) a (ns.map V.int) := by
    rcases sq with (h | ⟨o, h⟩) | h
    · exact .inl (.inl (strip_of h (nofun)))
    · exact .inl (.inr ⟨o, strip_of h (nofun)⟩)
    · exact .inr h
  have pre : spP K (fun z : List Int => [.scr (z.map dI)]) (fun _ => .ok (dB true)) (fun z => z.length ≤ 63) 1 [.ref a] H (fun v _ => v = .bl true) (fun _ _ _ => False) :=
    ⟨stripH H, ns, fun b o q => strip_some q, strip_nt, tabsH, .cons (.scr strip (by have := IsL.ofV (K := K) (F := stripH H) (ns.map V.int); rw [List.map_map] at this; exact this)) .nil, short, rfl, fun d hd v F' H' _ i => by cases hd; cases i; rfl, fun y hy => nomatch hy⟩
  refine codeAny_mono ((law _ inB (ns2 main) tabB).go callerA [] st H [.ref a] [.ref a] _ _ room rfl env (bind1 st (.ref a)) (.cons rfl .nil) pre) fun r s' h => ?_
  cases r with
  | error e =>
    obtain ⟨_, _, _, _, _, _, _, _, _, _, _, _, z⟩ : L2.CX P w [] H st (fun _ _ _ => False) e s' := h
    exact z.elim
  | ok fl =>
    cases fl with
    | ret u =>
      obtain ⟨v, H', os, bare, un, ok', rv, q⟩ := h
      have q : v = .bl true := q
      subst q
      obtain rfl : u = Value.bool true := rv
      have same : ∀ b o, b ∉ ts → st.heap.get? b = some o → s'.heap.get? b = some o := fun b o nb e => by
        cases q : H b with
        | none => exact un.keep b o e q (fun z => nomatch z) (fun z => nomatch z)
        | some u =>
          rcases inv q with ⟨hb, _⟩ | ⟨_, rfl, _, rfl⟩
          · exact absurd hb nb
          · obtain ⟨e2, _⟩ := ok' b _ (un.frzs b _ _ q)
            rw [scr] at e
            cases e
            exact e2
      have more : ∀ b, b ∈ ts → ∃ m : Array Value, s'.heap.get? b = some { cls := .none, data := .fields m } := fun b hb => by
        obtain ⟨m, z⟩ := un.tbls b #[] (hTab b hb)
        exact ⟨_, ok' b _ z⟩
      refine ⟨rfl, ⟨fun b o e => ?_, fun b o e => ?_⟩, os, bare⟩
      · by_cases hb : b ∈ ts
        · obtain ⟨m, hm⟩ := more b hb
          obtain ⟨p, h1, rfl⟩ := onTab b hb
          have e0 := tab p h1
          rw [e0] at e
          cases e
          exact .inr (.inl ⟨((cod p h1).tab e0).isCodeTable, rfl, #[], m, rfl, by rw [Array.empty_append]; exact hm⟩)
        · exact .inl (same b o hb e)
      · by_cases hb : b ∈ ts
        · obtain ⟨m, hm⟩ := more b hb
          exact ⟨_, hm⟩
        · exact ⟨o, same b o hb e⟩
    | next => exact h.elim
    | brk => exact h.elim
    | cont => exact h.elim
end Kd
set_option Elab.async false
set_option linter.all false
set_option maxRecDepth 100000
set_option maxHeartbeats 2000000
/-! towards the end: the cases are fine; a def's facts by names -/
namespace Kd
open PySem PySem.Spec PyProof.Rows L2
variable [LT]
theorem kinds_fine {Z : Fn} (B : FnB Z) (u : S3) : ∀ k ∈ Z.kindsF u, k.fine := fun k hk => by
  unfold Fn.kindsF at hk
  simp only [List.mem_cons, List.not_mem_nil, or_false] at hk
  rcases hk with rfl | rfl | rfl | rfl
  · obtain ⟨h1, h2, _, h3, h4⟩ := row_ok B u
    exact ⟨⟨h1, h2⟩, h3, h4⟩
  · obtain ⟨h1, h2, h3, h4⟩ := B.pr (Z.c3 u).2
    exact ⟨⟨h1, h2⟩, Nat.le_trans (show (relText (Z.c4 u).1).length ≤ 40 from h3) (by decide), h4⟩
  · obtain ⟨h1, h2, h3, h4, _⟩ := pap_ok B u
    exact ⟨⟨h1, h2⟩, h3, h4⟩
  · obtain ⟨h1, h2, h3, h4⟩ := chn_ok B u
    exact ⟨⟨h1, h2⟩, h3, h4⟩
section
variable {P : Program} {w : World} {K : PySem.W.Frag} {mg : Str → Option Value} {base : Heap}
theorem KnL.imp {x : Str} {k n : Nat} {S Z Z' : Type} {enc0 : S → List D} {enc : Z → List D} {enc' : Z' → List D} {f : S → Z → D × S} {f' : S → Z' → D × S} {dom : S → Z → Prop} {dom' : S → Z' → Prop} (h : KnL P w K mg base x k n enc0 enc f dom) (t : Z' → Z) (q : ∀ u z, dom' u z → dom u (t z) ∧ f u (t z) = f' u z ∧ enc (t z) = enc' z) : KnL P w K mg base x k n enc0 enc' f' dom' := by
  obtain ⟨a, fd, ps, h1, h2, h3, h4, h5⟩ := h.ex
  refine ⟨a, fd, ps, h1, h2, h3, h4, h5.imp fun vs H Q E z => ?_⟩
  obtain ⟨F, a, vs0, u, vs1, z, rfl, sm, n0, t0, fn, h0, l0, l, hd, hl, k1⟩ := z
  obtain ⟨q1, q2, q3⟩ := q u z hd
  exact ⟨F, a, vs0, u, vs1, t z, rfl, sm, n0, t0, fn, h0, l0, by rw [q3]; exact l, q1, by rw [q3]; exact hl, by rw [q2]; exact k1⟩
theorem pick_T {β : Type} (d : β) (enc : β → D) (u : S3) {xs : List β} (h : 1 ≤ xs.length) : pickF u (xs.map enc) = (enc (pickT d u xs).1, (pickT d u xs).2) := by
  have lt := draw_lt u h
  unfold pickF pickT
  rw [List.length_map, List.getElem?_map, List.getElem?_eq_getElem lt]
  rfl
theorem k58T {β : Type} (d : β) (enc : β → D) (h : KPick P w K mg base) : KnL P w K mg base "_law_pick" 2 1 encS (fun ps : List β => [.lst (ps.map enc)]) (fun u ps => (enc (pickT d u ps).1, (pickT d u ps).2)) (fun _ ps => 1 ≤ ps.length ∧ ps.length < 1000) :=
  KnL.imp h (fun ps => ps.map enc) fun u z hz => ⟨by rw [List.length_map]; exact hz, pick_T d enc u hz.1, rfl⟩
end
section
variable {P : Program} {w : World} {K : PySem.W.Frag} {mg : Str → Option Value} {base : Heap} {CP CI : Addr}
/-- the cases, over variable functions -/
theorem k78v (M : Md K mg CP CI) {G : Fs} {st : S3 → Nat → List Nat × S3} {lk : S3 → Look × S3} {pr : S3 → List NP × S3} {ad : S3 → List AEl × S3} {dr : S3 → Nat → Nat × S3} {pk : S3 → List Paper → Paper × S3} (B : FnB ⟨st, lk, pr, ad, dr, pk⟩) (GM : FsM mg G) (F : Df K mg "_law_cases" s78 ["_law_stream_here"])
    (k66 : KnL P w K mg base "_law_steps" 2 1 encS (fun m : Nat => [dIn m]) (fun u m => (.tup ((st u m).1.map dIn), (st u m).2)) (fun _ m => m ≤ 100)) (k68 : KnL P w K mg base "_law_drawn_look" 3 0 encS (fun _ : Unit => []) (fun u _ => (encK (lk u).1, (lk u).2)) (fun _ _ => True)) (k61 : LAdT P w K mg base) (k69 : LLkT P w K mg base)
    (k77 : KnL P w K mg base "_law_pairs" 3 0 encS (fun _ : Unit => []) (fun u _ => (encR (pr u).1, (pr u).2)) (fun _ _ => True)) (k67 : KnL P w K mg base "_law_address" 3 0 encS (fun _ : Unit => []) (fun u _ => (encA (ad u).1, (ad u).2)) (fun _ _ => True)) (k73 : LReT P w K mg base)
    (k58 : KnL P w K mg base "_law_pick" 2 1 encS (fun ps : List Paper => [.lst (ps.map encP)]) (fun u ps => (encP (pk u ps).1, (pk u ps).2)) (fun _ ps => 1 ≤ ps.length ∧ ps.length < 1000)) (k57 : KnL P w K mg base "_law_draw" 1 1 encS (fun h : Nat => [dIn h]) (fun u h => (dIn (dr u h).1, (dr u h).2)) (fun _ h => 1 ≤ h ∧ h < 1073741824)) :
    ∃ f : S3 → List Kind × S3, (∀ u, ∀ k ∈ (f u).1, k.fine) ∧ KnL P w K mg base "_law_cases" 4 0 encS (fun _ : Unit => []) (fun u _ => (.lst ((f u).1.map (Kind.enc G)), (f u).2)) (fun _ _ => True) :=
  ⟨fun u => ((Fn.mk st lk pr ad dr pk).kindsF u, ((Fn.mk st lk pr ad dr pk).c8 u).2), fun u => kinds_fine B u, k78 (Z := ⟨st, lk, pr, ad, dr, pk⟩) M B GM F k66 k68 k61 k69 k77 k67 k73 k58 k57⟩
end
/-! ### facts of the head -/
section
variable {K : PySem.W.Frag} {mg : Str → Option Value} {h : Heap} {fa : List He.Fa} {fn : List He.DefD} {x : Str} {st : Stmt} {ps : List Str}
abbrev dfn (x : Str) (st : Stmt) : He.DefD := ⟨(x, none), x, x, defArgs st, defBody st, defScope st, [], []⟩
abbrev Bnd (x : Str) (st : Stmt) (ps : List Str) : Prop := ∀ (kV doc pm : Value) (an : Option Addr) (cdv ct : Value) (us : List Value), us.length = ps.length → bindArgs (PySem.W.fnOf x x (defArgs st) (defBody st) (defScope st) .none kV doc pm an cdv ct) ⟨us, []⟩ = pure (ps.zip us)
theorem fun_of (c : He.SaysD fa fn K) (i : Nat) (e : fn[i]? = some (dfn x st)) : ∃ (fd : FuncData), (∃ c0, FunC K x st (He.ga K x) fd c0 ∧ He.codeOf K (x, none) = c0) ∧ Fun K x x st (He.ga K x) fd := by
  obtain ⟨fd, F⟩ := c.def_ i e
  obtain ⟨oc, od, dV, kV, doc, pm, an, cdv, ct, osl, e1, lk, hc, hd, _⟩ := F.ex
  have hd : dV = .none := by
    rcases hd with ⟨_, h⟩ | ⟨h, _⟩
    · exact h
    · exact absurd rfl h
  subst hd
  obtain ⟨c0, rfl⟩ := He.codeIn_ref hc
  exact ⟨fd, ⟨c0, ⟨⟨oc, kV, doc, pm, ct, od, an, osl, e1, lk, hc⟩, F.kp⟩, He.codeOf_eq lk (by rw [e1])⟩, ⟨⟨oc, od, kV, doc, pm, an, .ref c0, ct, osl, e1, lk, hc⟩, F.kp⟩⟩
theorem bind1_of {p : Str} {a c : Addr} {fd : FuncData} (F : FunC K x st a fd c) (b : Bnd x st [p]) (s : Shared) (u : Value) : BindsTo s fd ⟨[u], []⟩ [(p, u)] := by
  obtain ⟨oc, kV, doc, pm, ct, od, an, osl, rfl, _, _⟩ := F.ex
  exact .of_eq (b kV doc pm an (.ref c) ct [u] rfl)
theorem df_of (X : K.In h) (G : h.Ns mainGlobals mg) (c : He.SaysD fa fn K) (i j : Nat) (e : fn[i]? = some (dfn x st)) (e2 : fa[j]? = some (.glo x)) (b : Bnd x st ps) : Df K mg x st ps := by
  obtain ⟨fd, _, F⟩ := fun_of c i e
  exact ⟨⟨_, fd, F, He.glo_ok X G (c.fact j e2), F.binds b⟩⟩
theorem exn_of (X : K.In h) (G : h.Ns mainGlobals mg) (c : He.SaysD fa fn K) (i j : Nat) (e : fa[i]? = some (.exc x)) (e2 : fa[j]? = some (.glo x)) : Exn K mg x (He.ga K x) := by
  obtain ⟨h1, h2, h3, h4⟩ := He.exc_ok (c.fact i e)
  exact ⟨⟨_, _, _, _, PySem.F.excBase_ValueError, h1⟩, He.glo_ok X G (c.fact j e2), h2, h3, h4⟩
theorem str_to {z : Str} {l : T} (h : ∃ t, mg x = some (.str z t)) (e : z = SX.S l := by decide +kernel) : ∃ t, mg x = some (.str (SX.S l) t) := e ▸ h
theorem tup_to {a : Addr} {F : Hp} {vs ws : List V} (h : SqT K F a vs) (e : vs = ws := by decide +kernel) : SqT K F a ws := e ▸ h
end
end Kd
set_option Elab.async false
set_option linter.all false
set_option maxRecDepth 100000
set_option maxHeartbeats 0
/-! the head: facts by names, the run of the top -/
namespace Kd
open PySem PySem.Spec PyProof.Rows L2

def fn0 : List He.DefD := [dfn "is_integer" (top 7), dfn "is_between" (top 8), dfn "is_name" (top 9), dfn "is_piece" (top 13), dfn "is_element" (top 14), dfn "is_address" (top 15), dfn "require_text" (top 25), dfn "number_in" (top 26), dfn "element_text" (top 27), dfn "address_text" (top 28), dfn "elements_in" (top 29), dfn "child_in" (top 30), dfn "element_in" (top 31), dfn "address_in" (top 32), dfn "is_plain_address" (top 33), dfn "plain_in" (top 34), dfn "is_look" (top 35), dfn "look_text" (top 36), dfn "look_in" (top 37), dfn "is_difference" (top 38), dfn "difference_text" (top 39), dfn "is_relation" (top 40), dfn "relation_text" (top 41), dfn "pair_in" (top 42), dfn "relation_in" (top 43), dfn "is_paper_form" (top 44), dfn "is_chain_form" (top 45), dfn "require_form" (top 46), dfn "format_difference" (top 47), dfn "parse_difference" (top 48)]
def fn1 : List He.DefD := [dfn "format_relation" (top 49), dfn "parse_relation" (top 50), dfn "format_paper" (top 51), dfn "parse_paper" (top 52), dfn "format_chain" (top 53), dfn "parse_chain" (top 54), dfn "_law_stream" (top 56), dfn "_law_draw" (top 57), dfn "_law_pick" (top 58), dfn "_law_int" (top 59), dfn "_law_is_name" (top 60), dfn "_law_address_text" (top 61), dfn "_law_pieces" (top 62), dfn "_law_read_address" (top 63), dfn "_law_bent_text" (top 64), dfn "_law_read" (top 65), dfn "_law_steps" (top 66), dfn "_law_address" (top 67), dfn "_law_drawn_look" (top 68), dfn "_law_look_text" (top 69), dfn "_law_read_look" (top 70), dfn "_law_read_plain" (top 71), dfn "_law_read_difference" (top 72), dfn "_law_relation_text" (top 73), dfn "_law_read_relation" (top 74), dfn "_law_read_paper" (top 75), dfn "_law_read_chain" (top 76), dfn "_law_pairs" (top 77), dfn "_law_cases" (top 78), dfn "_law_case_right" (top 79)]
def fn2 : List He.DefD := [dfn "law" (top 80)]
def fnA : List He.DefD := fn0 ++ fn1 ++ fn2
def faA : List He.Fa := [.free "isinstance", .free "int", .free "bool", .free "str", .free "tuple", .free "list", .free "len", .free "all", .free "enumerate", .free "zip", .free "range", .free "max", .free "min", .free "abs", .free "sorted", .free "set", .free "repr", .int "MOST_LETTERS" 8, .int "MAX_TIMES" (10 ^ 30), .int "LAST_CHILD" 2, .int "MOST_NODES" 100, .int "MOST_FIGURES" 40, .str "FIGURES" "0123456789", .str "NOTHING" "-", .str "ALIKE" "alike", .str "UNLIKE" "unlike", .str "CHAIN" "chain", .exc "ParseError", .glo "ParseError", .exc "InvalidOperation", .glo "InvalidOperation", .exm "ParseError" "ParseError" true, .glo "is_integer", .glo "is_between", .glo "is_name", .glo "is_piece", .glo "is_element", .glo "is_address", .glo "require_text", .glo "number_in", .glo "element_text", .glo "address_text", .glo "elements_in", .glo "child_in", .glo "element_in", .glo "address_in", .glo "is_plain_address", .glo "plain_in", .glo "is_look", .glo "look_text", .glo "look_in", .glo "is_difference", .glo "difference_text", .glo "is_relation", .glo "relation_text", .glo "pair_in", .glo "relation_in", .glo "is_paper_form", .glo "is_chain_form", .glo "require_form", .glo "format_difference", .glo "parse_difference", .glo "format_relation", .glo "parse_relation", .glo "format_paper", .glo "parse_paper", .glo "format_chain", .glo "parse_chain", .glo "_law_stream", .glo "_law_draw", .glo "_law_pick", .glo "_law_int", .glo "_law_is_name", .glo "_law_address_text", .glo "_law_pieces", .glo "_law_read_address", .glo "_law_bent_text", .glo "_law_read", .glo "_law_steps", .glo "_law_address", .glo "_law_drawn_look", .glo "_law_look_text", .glo "_law_read_look", .glo "_law_read_plain", .glo "_law_read_difference", .glo "_law_relation_text", .glo "_law_read_relation", .glo "_law_read_paper", .glo "_law_read_chain", .glo "_law_pairs", .glo "_law_cases", .glo "_law_case_right", .glo "law", .glo "RESERVED", .glo "CHILDREN"]
def exA (K : PySem.W.Frag) : Bool := He.tupB K "RESERVED" [.str "fun", .str "let", .str "in"] && (He.tupB K "CHILDREN" [.str "0", .str "1", .str "2"] && (decide ((He.cT K ("_law_case_right", none)).2 ≠ (He.cT K ("law", none)).2) && (decide ((He.cT K ("_law_case_right", none)).2 ≠ mainGlobals) && decide ((He.cT K ("law", none)).2 ≠ mainGlobals))))
def tfA : List He.Defn := [("_law_case_right", none), ("law", none)]
def nm0 : List PySem.Str := [("LetError" : PySem.Str), ("InvalidOperation" : PySem.Str), ("ParseError" : PySem.Str), ("MOST_LETTERS" : PySem.Str), ("RESERVED" : PySem.Str), ("is_integer" : PySem.Str), ("is_between" : PySem.Str), ("is_name" : PySem.Str), ("MAX_TIMES" : PySem.Str), ("LAST_CHILD" : PySem.Str), ("is_piece" : PySem.Str), ("is_element" : PySem.Str), ("is_address" : PySem.Str), ("MOST_NODES" : PySem.Str), ("MOST_FIGURES" : PySem.Str), ("FIGURES" : PySem.Str), ("CHILDREN" : PySem.Str), ("NOTHING" : PySem.Str), ("ALIKE" : PySem.Str), ("UNLIKE" : PySem.Str), ("CHAIN" : PySem.Str), ("require_text" : PySem.Str), ("number_in" : PySem.Str), ("element_text" : PySem.Str), ("address_text" : PySem.Str), ("elements_in" : PySem.Str), ("child_in" : PySem.Str), ("element_in" : PySem.Str), ("address_in" : PySem.Str), ("is_plain_address" : PySem.Str), ("plain_in" : PySem.Str), ("is_look" : PySem.Str), ("look_text" : PySem.Str), ("look_in" : PySem.Str), ("is_difference" : PySem.Str)]
def nm1 : List PySem.Str := [("difference_text" : PySem.Str), ("is_relation" : PySem.Str), ("relation_text" : PySem.Str), ("pair_in" : PySem.Str), ("relation_in" : PySem.Str), ("is_paper_form" : PySem.Str), ("is_chain_form" : PySem.Str), ("require_form" : PySem.Str), ("format_difference" : PySem.Str), ("parse_difference" : PySem.Str), ("format_relation" : PySem.Str), ("parse_relation" : PySem.Str), ("format_paper" : PySem.Str), ("parse_paper" : PySem.Str), ("format_chain" : PySem.Str), ("parse_chain" : PySem.Str), ("_law_stream" : PySem.Str), ("_law_draw" : PySem.Str), ("_law_pick" : PySem.Str), ("_law_int" : PySem.Str), ("_law_is_name" : PySem.Str), ("_law_address_text" : PySem.Str), ("_law_pieces" : PySem.Str), ("_law_read_address" : PySem.Str), ("_law_bent_text" : PySem.Str), ("_law_read" : PySem.Str), ("_law_steps" : PySem.Str), ("_law_address" : PySem.Str), ("_law_drawn_look" : PySem.Str), ("_law_look_text" : PySem.Str), ("_law_read_look" : PySem.Str), ("_law_read_plain" : PySem.Str), ("_law_read_difference" : PySem.Str), ("_law_relation_text" : PySem.Str), ("_law_read_relation" : PySem.Str)]
def nm2 : List PySem.Str := [("_law_read_paper" : PySem.Str), ("_law_read_chain" : PySem.Str), ("_law_pairs" : PySem.Str), ("_law_cases" : PySem.Str), ("_law_case_right" : PySem.Str)]
def nmA : List PySem.Str := nm0 ++ nm1 ++ nm2
abbrev rowA : PySem.W.OpenRow := PySem.W.OpenLaw.row PySem.Challenge.rw_sharedlets_k87_texts_of_papers_and_chain
abbrev hkA : PySem.W.Hook := He.hookX 4 faA fnA [] tfA exA
def obA (s : PySem.W.SharedT) : He.AlX := He.obsX 4 faA fnA [] tfA exA (HandSHeadRun.getT s)
theorem obA_eq (s : PySem.W.SharedT) : obA s = hkA.obs s.abs := He.obsX_eq (HandSHeadRun.getT_eq s)
theorem runA (w : World) : HandSHeadRun.RunEq rowA (PySem.W.view rowA.prog [80]) hkA obA 4000 nmA w := by
  intro os
  kernel_rfl
end Kd
set_option Elab.async false
set_option linter.all false
set_option maxRecDepth 100000
set_option maxHeartbeats 20000000
/-! the end: all walks joined -/
namespace Kd
open PySem PySem.Spec PyProof.Rows L2
theorem bn7 : Bnd "is_integer" (top 7) ["value"] := fun _ _ _ _ _ _ us hl => match us, hl with | [_], _ => rfl
theorem bn8 : Bnd "is_between" (top 8) ["value", "low", "high"] := fun _ _ _ _ _ _ us hl => match us, hl with | [_, _, _], _ => rfl
theorem bn9 : Bnd "is_name" (top 9) ["value"] := fun _ _ _ _ _ _ us hl => match us, hl with | [_], _ => rfl
theorem bn13 : Bnd "is_piece" (top 13) ["value"] := fun _ _ _ _ _ _ us hl => match us, hl with | [_], _ => rfl
theorem bn14 : Bnd "is_element" (top 14) ["value"] := fun _ _ _ _ _ _ us hl => match us, hl with | [_], _ => rfl
theorem bn15 : Bnd "is_address" (top 15) ["value"] := fun _ _ _ _ _ _ us hl => match us, hl with | [_], _ => rfl
theorem bn25 : Bnd "require_text" (top 25) ["text"] := fun _ _ _ _ _ _ us hl => match us, hl with | [_], _ => rfl
theorem bn26 : Bnd "number_in" (top 26) ["text"] := fun _ _ _ _ _ _ us hl => match us, hl with | [_], _ => rfl
theorem bn27 : Bnd "element_text" (top 27) ["element"] := fun _ _ _ _ _ _ us hl => match us, hl with | [_], _ => rfl
theorem bn28 : Bnd "address_text" (top 28) ["address"] := fun _ _ _ _ _ _ us hl => match us, hl with | [_], _ => rfl
theorem bn29 : Bnd "elements_in" (top 29) ["text"] := fun _ _ _ _ _ _ us hl => match us, hl with | [_], _ => rfl
theorem bn30 : Bnd "child_in" (top 30) ["text"] := fun _ _ _ _ _ _ us hl => match us, hl with | [_], _ => rfl
theorem bn31 : Bnd "element_in" (top 31) ["text"] := fun _ _ _ _ _ _ us hl => match us, hl with | [_], _ => rfl
theorem bn32 : Bnd "address_in" (top 32) ["text"] := fun _ _ _ _ _ _ us hl => match us, hl with | [_], _ => rfl
theorem bn33 : Bnd "is_plain_address" (top 33) ["value"] := fun _ _ _ _ _ _ us hl => match us, hl with | [_], _ => rfl
theorem bn34 : Bnd "plain_in" (top 34) ["text"] := fun _ _ _ _ _ _ us hl => match us, hl with | [_], _ => rfl
theorem bn35 : Bnd "is_look" (top 35) ["value"] := fun _ _ _ _ _ _ us hl => match us, hl with | [_], _ => rfl
theorem bn36 : Bnd "look_text" (top 36) ["look"] := fun _ _ _ _ _ _ us hl => match us, hl with | [_], _ => rfl
theorem bn37 : Bnd "look_in" (top 37) ["text"] := fun _ _ _ _ _ _ us hl => match us, hl with | [_], _ => rfl
theorem bn38 : Bnd "is_difference" (top 38) ["value"] := fun _ _ _ _ _ _ us hl => match us, hl with | [_], _ => rfl
theorem bn39 : Bnd "difference_text" (top 39) ["value"] := fun _ _ _ _ _ _ us hl => match us, hl with | [_], _ => rfl
theorem bn40 : Bnd "is_relation" (top 40) ["value"] := fun _ _ _ _ _ _ us hl => match us, hl with | [_], _ => rfl
theorem bn41 : Bnd "relation_text" (top 41) ["value"] := fun _ _ _ _ _ _ us hl => match us, hl with | [_], _ => rfl
theorem bn42 : Bnd "pair_in" (top 42) ["text"] := fun _ _ _ _ _ _ us hl => match us, hl with | [_], _ => rfl
theorem bn43 : Bnd "relation_in" (top 43) ["text"] := fun _ _ _ _ _ _ us hl => match us, hl with | [_], _ => rfl
theorem bn44 : Bnd "is_paper_form" (top 44) ["value"] := fun _ _ _ _ _ _ us hl => match us, hl with | [_], _ => rfl
theorem bn45 : Bnd "is_chain_form" (top 45) ["value"] := fun _ _ _ _ _ _ us hl => match us, hl with | [_], _ => rfl
theorem bn46 : Bnd "require_form" (top 46) ["has_form"] := fun _ _ _ _ _ _ us hl => match us, hl with | [_], _ => rfl
theorem bn47 : Bnd "format_difference" (top 47) ["value"] := fun _ _ _ _ _ _ us hl => match us, hl with | [_], _ => rfl
theorem bn48 : Bnd "parse_difference" (top 48) ["text"] := fun _ _ _ _ _ _ us hl => match us, hl with | [_], _ => rfl
theorem bn49 : Bnd "format_relation" (top 49) ["value"] := fun _ _ _ _ _ _ us hl => match us, hl with | [_], _ => rfl
theorem bn50 : Bnd "parse_relation" (top 50) ["text"] := fun _ _ _ _ _ _ us hl => match us, hl with | [_], _ => rfl
theorem bn51 : Bnd "format_paper" (top 51) ["value"] := fun _ _ _ _ _ _ us hl => match us, hl with | [_], _ => rfl
theorem bn52 : Bnd "parse_paper" (top 52) ["text"] := fun _ _ _ _ _ _ us hl => match us, hl with | [_], _ => rfl
theorem bn53 : Bnd "format_chain" (top 53) ["value"] := fun _ _ _ _ _ _ us hl => match us, hl with | [_], _ => rfl
theorem bn54 : Bnd "parse_chain" (top 54) ["text"] := fun _ _ _ _ _ _ us hl => match us, hl with | [_], _ => rfl
theorem bn56 : Bnd "_law_stream" (top 56) ["_law_script", "_law_at"] := fun _ _ _ _ _ _ us hl => match us, hl with | [_, _], _ => rfl
theorem bn57 : Bnd "_law_draw" (top 57) ["_law_stream_here", "_law_high"] := fun _ _ _ _ _ _ us hl => match us, hl with | [_, _], _ => rfl
theorem bn58 : Bnd "_law_pick" (top 58) ["_law_stream_here", "_law_items"] := fun _ _ _ _ _ _ us hl => match us, hl with | [_, _], _ => rfl
theorem bn59 : Bnd "_law_int" (top 59) ["_law_text"] := fun _ _ _ _ _ _ us hl => match us, hl with | [_], _ => rfl
theorem bn60 : Bnd "_law_is_name" (top 60) ["_law_text"] := fun _ _ _ _ _ _ us hl => match us, hl with | [_], _ => rfl
theorem bn61 : Bnd "_law_address_text" (top 61) ["_law_address_here"] := fun _ _ _ _ _ _ us hl => match us, hl with | [_], _ => rfl
theorem bn62 : Bnd "_law_pieces" (top 62) ["_law_text"] := fun _ _ _ _ _ _ us hl => match us, hl with | [_], _ => rfl
theorem bn63 : Bnd "_law_read_address" (top 63) ["_law_text"] := fun _ _ _ _ _ _ us hl => match us, hl with | [_], _ => rfl
theorem bn64 : Bnd "_law_bent_text" (top 64) ["_law_stream_here", "_law_text"] := fun _ _ _ _ _ _ us hl => match us, hl with | [_, _], _ => rfl
theorem bn65 : Bnd "_law_read" (top 65) ["_law_call"] := fun _ _ _ _ _ _ us hl => match us, hl with | [_], _ => rfl
theorem bn66 : Bnd "_law_steps" (top 66) ["_law_stream_here", "_law_most"] := fun _ _ _ _ _ _ us hl => match us, hl with | [_, _], _ => rfl
theorem bn67 : Bnd "_law_address" (top 67) ["_law_stream_here"] := fun _ _ _ _ _ _ us hl => match us, hl with | [_], _ => rfl
theorem bn68 : Bnd "_law_drawn_look" (top 68) ["_law_stream_here"] := fun _ _ _ _ _ _ us hl => match us, hl with | [_], _ => rfl
theorem bn69 : Bnd "_law_look_text" (top 69) ["_law_look_here"] := fun _ _ _ _ _ _ us hl => match us, hl with | [_], _ => rfl
theorem bn70 : Bnd "_law_read_look" (top 70) ["_law_text"] := fun _ _ _ _ _ _ us hl => match us, hl with | [_], _ => rfl
theorem bn71 : Bnd "_law_read_plain" (top 71) ["_law_text"] := fun _ _ _ _ _ _ us hl => match us, hl with | [_], _ => rfl
theorem bn72 : Bnd "_law_read_difference" (top 72) ["_law_text"] := fun _ _ _ _ _ _ us hl => match us, hl with | [_], _ => rfl
theorem bn73 : Bnd "_law_relation_text" (top 73) ["_law_pairs_here"] := fun _ _ _ _ _ _ us hl => match us, hl with | [_], _ => rfl
theorem bn74 : Bnd "_law_read_relation" (top 74) ["_law_text"] := fun _ _ _ _ _ _ us hl => match us, hl with | [_], _ => rfl
theorem bn75 : Bnd "_law_read_paper" (top 75) ["_law_text"] := fun _ _ _ _ _ _ us hl => match us, hl with | [_], _ => rfl
theorem bn76 : Bnd "_law_read_chain" (top 76) ["_law_text"] := fun _ _ _ _ _ _ us hl => match us, hl with | [_], _ => rfl
theorem bn77 : Bnd "_law_pairs" (top 77) ["_law_stream_here"] := fun _ _ _ _ _ _ us hl => match us, hl with | [_], _ => rfl
theorem bn78 : Bnd "_law_cases" (top 78) ["_law_stream_here"] := fun _ _ _ _ _ _ us hl => match us, hl with | [_], _ => rfl
theorem bn79 : Bnd "_law_case_right" (top 79) ["_law_stream_here", "_law_value", "_law_text", "_law_calls", "_law_reading"] := fun _ _ _ _ _ _ us hl => match us, hl with | [_, _, _, _, _], _ => rfl
theorem bn80 : Bnd "law" (top 80) ["_law_script"] := fun _ _ _ _ _ _ us hl => match us, hl with | [_], _ => rfl
section
variable {P : Program} {w : World} {K : PySem.W.Frag} {mg : Str → Option Value} {h : Heap}
theorem md_of [LT] (X : K.In h) (G : h.Ns mainGlobals mg) (c : He.SaysD faA fnA K) (hx : exA K = true) : Md K mg (He.ga K "ParseError") (He.ga K "InvalidOperation") := by
  obtain ⟨t1, hx⟩ := Bool.and_eq_true_iff.mp hx
  obtain ⟨t2, hx⟩ := Bool.and_eq_true_iff.mp hx
  exact {
    pe := exn_of X G c 27 28 rfl rfl,
    io := exn_of X G c 29 30 rfl rfl,
    isi := He.free_ok X G (c.fact 0 (f := .free "isinstance") rfl),
    int := He.free_ok X G (c.fact 1 (f := .free "int") rfl),
    bool := He.free_ok X G (c.fact 2 (f := .free "bool") rfl),
    str := He.free_ok X G (c.fact 3 (f := .free "str") rfl),
    tuple := He.free_ok X G (c.fact 4 (f := .free "tuple") rfl),
    list := He.free_ok X G (c.fact 5 (f := .free "list") rfl),
    len := He.free_ok X G (c.fact 6 (f := .free "len") rfl),
    all := He.free_ok X G (c.fact 7 (f := .free "all") rfl),
    enum := He.free_ok X G (c.fact 8 (f := .free "enumerate") rfl),
    zip := He.free_ok X G (c.fact 9 (f := .free "zip") rfl),
    range := He.free_ok X G (c.fact 10 (f := .free "range") rfl),
    max := He.free_ok X G (c.fact 11 (f := .free "max") rfl),
    min := He.free_ok X G (c.fact 12 (f := .free "min") rfl),
    abs := He.free_ok X G (c.fact 13 (f := .free "abs") rfl),
    sorted := He.free_ok X G (c.fact 14 (f := .free "sorted") rfl),
    set := He.free_ok X G (c.fact 15 (f := .free "set") rfl),
    repr := He.free_ok X G (c.fact 16 (f := .free "repr") rfl),
    letters := He.int_ok X G (c.fact 17 (f := .int "MOST_LETTERS" 8) rfl),
    reserved := ⟨_, He.glo_ok X G (c.fact 93 (f := .glo "RESERVED") rfl), fun F => tup_to (He.tupB_ok t1 F) (by show [V.str "fun", V.str "let", V.str "in"] = _; decide +kernel)⟩,
    times := He.int_ok X G (c.fact 18 (f := .int "MAX_TIMES" (10 ^ 30)) rfl),
    last := He.int_ok X G (c.fact 19 (f := .int "LAST_CHILD" 2) rfl),
    nodes := He.int_ok X G (c.fact 20 (f := .int "MOST_NODES" 100) rfl),
    figures := He.int_ok X G (c.fact 21 (f := .int "MOST_FIGURES" 40) rfl),
    figs := str_to (He.str_ok X G (c.fact 22 (f := .str "FIGURES" "0123456789") rfl)),
    kids := ⟨_, He.glo_ok X G (c.fact 94 (f := .glo "CHILDREN") rfl), fun F => tup_to (He.tupB_ok t2 F) (by show [V.str "0", V.str "1", V.str "2"] = _; decide +kernel)⟩,
    nothing := str_to (He.str_ok X G (c.fact 23 (f := .str "NOTHING" "-") rfl)),
    alike := str_to (He.str_ok X G (c.fact 24 (f := .str "ALIKE" "alike") rfl)),
    unlike := str_to (He.str_ok X G (c.fact 25 (f := .str "UNLIKE" "unlike") rfl)),
    chain := str_to (He.str_ok X G (c.fact 26 (f := .str "CHAIN" "chain") rfl)) }
theorem law_of {fa0 : Addr} (X : K.In h) (G : h.Ns mainGlobals mg) (hfa : mg "law" = some (.ref fa0)) (c : He.SaysX faA fnA [] tfA exA w h K) :
    ∃ (L : LT) (fd : FuncData), @LT.T L = [((He.cT K ("_law_case_right", none)).2, lamq "_law_case_right"), ((He.cT K ("law", none)).2, lamq "law")] ∧ (∀ (s : Shared) (u : Value), BindsTo s fd ⟨[u], []⟩ [("_law_script", u)]) ∧
      ∀ base : Heap, K.In base → base.Ns mainGlobals mg → (∀ q ∈ tfA.map (He.cT K), LamX.TabB base mg q.1 q.2) → FnG P w K mg base 12 fa0 fd ["_law_script"] (@spP L K _ (fun z : List Int => [.scr (z.map dI)]) (fun _ => .ok (dB true)) (fun z => z.length ≤ 63) 1) := by
  let L : LT := ⟨[((He.cT K ("_law_case_right", none)).2, lamq "_law_case_right"), ((He.cT K ("law", none)).2, lamq "law")]⟩
  have cd := c.t.d
  have M := md_of X G cd c.more
  have hx := He.exm_ok (cd.fact 31 (f := .exm "ParseError" "ParseError" true) rfl)
  have ne : (He.cT K ("_law_case_right", none)).2 ≠ (He.cT K ("law", none)).2 := by
    obtain ⟨_, q⟩ := Bool.and_eq_true_iff.mp c.more
    obtain ⟨_, q⟩ := Bool.and_eq_true_iff.mp q
    obtain ⟨q, _⟩ := Bool.and_eq_true_iff.mp q
    exact of_decide_eq_true q
  have d7 : Df K mg "is_integer" (top 7) ["value"] := df_of X G cd 0 32 rfl rfl bn7
  have d8 : Df K mg "is_between" (top 8) ["value", "low", "high"] := df_of X G cd 1 33 rfl rfl bn8
  have d9 : Df K mg "is_name" (top 9) ["value"] := df_of X G cd 2 34 rfl rfl bn9
  have d13 : Df K mg "is_piece" (top 13) ["value"] := df_of X G cd 3 35 rfl rfl bn13
  have d14 : Df K mg "is_element" (top 14) ["value"] := df_of X G cd 4 36 rfl rfl bn14
  have d15 : Df K mg "is_address" (top 15) ["value"] := df_of X G cd 5 37 rfl rfl bn15
  have d25 : Df K mg "require_text" (top 25) ["text"] := df_of X G cd 6 38 rfl rfl bn25
  have d26 : Df K mg "number_in" (top 26) ["text"] := df_of X G cd 7 39 rfl rfl bn26
  have d27 : Df K mg "element_text" (top 27) ["element"] := df_of X G cd 8 40 rfl rfl bn27
  have d28 : Df K mg "address_text" (top 28) ["address"] := df_of X G cd 9 41 rfl rfl bn28
  have d29 : Df K mg "elements_in" (top 29) ["text"] := df_of X G cd 10 42 rfl rfl bn29
  have d30 : Df K mg "child_in" (top 30) ["text"] := df_of X G cd 11 43 rfl rfl bn30
  have d31 : Df K mg "element_in" (top 31) ["text"] := df_of X G cd 12 44 rfl rfl bn31
  have d32 : Df K mg "address_in" (top 32) ["text"] := df_of X G cd 13 45 rfl rfl bn32
  have d33 : Df K mg "is_plain_address" (top 33) ["value"] := df_of X G cd 14 46 rfl rfl bn33
  have d34 : Df K mg "plain_in" (top 34) ["text"] := df_of X G cd 15 47 rfl rfl bn34
  have d35 : Df K mg "is_look" (top 35) ["value"] := df_of X G cd 16 48 rfl rfl bn35
  have d36 : Df K mg "look_text" (top 36) ["look"] := df_of X G cd 17 49 rfl rfl bn36
  have d37 : Df K mg "look_in" (top 37) ["text"] := df_of X G cd 18 50 rfl rfl bn37
  have d38 : Df K mg "is_difference" (top 38) ["value"] := df_of X G cd 19 51 rfl rfl bn38
  have d39 : Df K mg "difference_text" (top 39) ["value"] := df_of X G cd 20 52 rfl rfl bn39
  have d40 : Df K mg "is_relation" (top 40) ["value"] := df_of X G cd 21 53 rfl rfl bn40
  have d41 : Df K mg "relation_text" (top 41) ["value"] := df_of X G cd 22 54 rfl rfl bn41
  have d42 : Df K mg "pair_in" (top 42) ["text"] := df_of X G cd 23 55 rfl rfl bn42
  have d43 : Df K mg "relation_in" (top 43) ["text"] := df_of X G cd 24 56 rfl rfl bn43
  have d44 : Df K mg "is_paper_form" (top 44) ["value"] := df_of X G cd 25 57 rfl rfl bn44
  have d45 : Df K mg "is_chain_form" (top 45) ["value"] := df_of X G cd 26 58 rfl rfl bn45
  have d46 : Df K mg "require_form" (top 46) ["has_form"] := df_of X G cd 27 59 rfl rfl bn46
  have d47 : Df K mg "format_difference" (top 47) ["value"] := df_of X G cd 28 60 rfl rfl bn47
  have d48 : Df K mg "parse_difference" (top 48) ["text"] := df_of X G cd 29 61 rfl rfl bn48
  have d49 : Df K mg "format_relation" (top 49) ["value"] := df_of X G cd 30 62 rfl rfl bn49
  have d50 : Df K mg "parse_relation" (top 50) ["text"] := df_of X G cd 31 63 rfl rfl bn50
  have d51 : Df K mg "format_paper" (top 51) ["value"] := df_of X G cd 32 64 rfl rfl bn51
  have d52 : Df K mg "parse_paper" (top 52) ["text"] := df_of X G cd 33 65 rfl rfl bn52
  have d53 : Df K mg "format_chain" (top 53) ["value"] := df_of X G cd 34 66 rfl rfl bn53
  have d54 : Df K mg "parse_chain" (top 54) ["text"] := df_of X G cd 35 67 rfl rfl bn54
  have d56 : Df K mg "_law_stream" (top 56) ["_law_script", "_law_at"] := df_of X G cd 36 68 rfl rfl bn56
  have d57 : Df K mg "_law_draw" (top 57) ["_law_stream_here", "_law_high"] := df_of X G cd 37 69 rfl rfl bn57
  have d58 : Df K mg "_law_pick" (top 58) ["_law_stream_here", "_law_items"] := df_of X G cd 38 70 rfl rfl bn58
  have d59 : Df K mg "_law_int" (top 59) ["_law_text"] := df_of X G cd 39 71 rfl rfl bn59
  have d60 : Df K mg "_law_is_name" (top 60) ["_law_text"] := df_of X G cd 40 72 rfl rfl bn60
  have d61 : Df K mg "_law_address_text" (top 61) ["_law_address_here"] := df_of X G cd 41 73 rfl rfl bn61
  have d62 : Df K mg "_law_pieces" (top 62) ["_law_text"] := df_of X G cd 42 74 rfl rfl bn62
  have d63 : Df K mg "_law_read_address" (top 63) ["_law_text"] := df_of X G cd 43 75 rfl rfl bn63
  have d64 : Df K mg "_law_bent_text" (top 64) ["_law_stream_here", "_law_text"] := df_of X G cd 44 76 rfl rfl bn64
  have d65 : Df K mg "_law_read" (top 65) ["_law_call"] := df_of X G cd 45 77 rfl rfl bn65
  have d66 : Df K mg "_law_steps" (top 66) ["_law_stream_here", "_law_most"] := df_of X G cd 46 78 rfl rfl bn66
  have d67 : Df K mg "_law_address" (top 67) ["_law_stream_here"] := df_of X G cd 47 79 rfl rfl bn67
  have d68 : Df K mg "_law_drawn_look" (top 68) ["_law_stream_here"] := df_of X G cd 48 80 rfl rfl bn68
  have d69 : Df K mg "_law_look_text" (top 69) ["_law_look_here"] := df_of X G cd 49 81 rfl rfl bn69
  have d70 : Df K mg "_law_read_look" (top 70) ["_law_text"] := df_of X G cd 50 82 rfl rfl bn70
  have d71 : Df K mg "_law_read_plain" (top 71) ["_law_text"] := df_of X G cd 51 83 rfl rfl bn71
  have d72 : Df K mg "_law_read_difference" (top 72) ["_law_text"] := df_of X G cd 52 84 rfl rfl bn72
  have d73 : Df K mg "_law_relation_text" (top 73) ["_law_pairs_here"] := df_of X G cd 53 85 rfl rfl bn73
  have d74 : Df K mg "_law_read_relation" (top 74) ["_law_text"] := df_of X G cd 54 86 rfl rfl bn74
  have d75 : Df K mg "_law_read_paper" (top 75) ["_law_text"] := df_of X G cd 55 87 rfl rfl bn75
  have d76 : Df K mg "_law_read_chain" (top 76) ["_law_text"] := df_of X G cd 56 88 rfl rfl bn76
  have d77 : Df K mg "_law_pairs" (top 77) ["_law_stream_here"] := df_of X G cd 57 89 rfl rfl bn77
  have d78 : Df K mg "_law_cases" (top 78) ["_law_stream_here"] := df_of X G cd 58 90 rfl rfl bn78
  obtain ⟨fd79, ⟨c79, F79, e79⟩, G79⟩ := fun_of cd 59 (x := "_law_case_right") (st := top 79) rfl
  obtain ⟨fd80, ⟨c80, F80, e80⟩, G80⟩ := fun_of cd 60 (x := "law") (st := top 80) rfl
  have g80 : mg "law" = some (.ref (He.ga K "law")) := He.glo_ok X G (cd.fact 92 (f := .glo "law") rfl)
  have g79 : mg "_law_case_right" = some (.ref (He.ga K "_law_case_right")) := He.glo_ok X G (cd.fact 91 (f := .glo "_law_case_right") rfl)
  have ef : fa0 = He.ga K "law" := by rw [hfa] at g80; cases g80; rfl
  subst ef
  refine ⟨L, fd80, rfl, bind1_of F80 bn80, fun base inB nsB tb => ?_⟩
  have tm79 : Tm base mg "_law_case_right" c79 (He.cT K ("_law_case_right", none)).2 := ⟨by have := tb _ (List.mem_map.mpr ⟨("_law_case_right", none), by decide, rfl⟩); rw [← e79]; exact this, List.mem_cons_self, fun p hp e => by
    rcases List.mem_cons.mp hp with rfl | hp
    · rfl
    · rw [List.mem_singleton.mp hp] at e; exact absurd e.symm ne⟩
  have tm80 : Tm base mg "law" c80 (He.cT K ("law", none)).2 := ⟨by have := tb _ (List.mem_map.mpr ⟨("law", none), by decide, rfl⟩); rw [← e80]; exact this, List.mem_cons_of_mem _ List.mem_cons_self, fun p hp e => by
    rcases List.mem_cons.mp hp with rfl | hp
    · exact absurd e ne
    · rw [List.mem_singleton.mp hp]⟩
  have q7 := k7 (P := P) (w := w) (base := base) M d7
  have q8 := k8 (P := P) (w := w) (base := base) M d8 q7
  have q9 := k9 (P := P) (w := w) (base := base) M d9
  have q13 := k13 (P := P) (w := w) (base := base) M d13 q8
  have q14 := k14 (P := P) (w := w) (base := base) M d14 q8 q13
  have q15 := k15 (P := P) (w := w) (base := base) M d15 q14
  have q25 := k25 (P := P) (w := w) (base := base) M d25
  have q26 := k26 (P := P) (w := w) (base := base) M d26
  have q27 := k27 (P := P) (w := w) (base := base) M d27
  have q28 := k28 (P := P) (w := w) (base := base) M d28 q27
  have q29 := k29 (P := P) (w := w) (base := base) M d29
  have q30 := k30 (P := P) (w := w) (base := base) M d30
  have q31 := k31 (P := P) (w := w) (base := base) M d31 q30 q26
  have q32 := k32 (P := P) (w := w) (base := base) M d32 q25 q31 q29 q15 q28
  have q33 := k33 (P := P) (w := w) (base := base) M d33 q15 q7
  have q34 := k34 (P := P) (w := w) (base := base) M d34 q32 q33
  have q35 := k35 (P := P) (w := w) (base := base) M d35 q9 q8 q7
  have q36 := k36 (P := P) (w := w) (base := base) M d36
  have q37 := k37 (P := P) (w := w) (base := base) M d37 q26 q35 q36
  have q38 := k38 (P := P) (w := w) (base := base) M d38 q33 q35
  have q39 := k39 (P := P) (w := w) (base := base) M d39 q28 q36
  have q40 := k40 (P := P) (w := w) (base := base) M d40 q8
  have q41 := k41 (P := P) (w := w) (base := base) M d41
  have q42 := k42 (P := P) (w := w) (base := base) M d42 q26
  have q43 := k43 (P := P) (w := w) (base := base) M d43 q25 q42 q40
  have q44 := k44 (P := P) (w := w) (base := base) M d44 q40 q15
  have q45 := k45 (P := P) (w := w) (base := base) M d45 q33
  have q46 := k46 (P := P) (w := w) (base := base) M d46
  have q47 := k47 (P := P) (w := w) (base := base) M d47 q46 q38 q39
  have q48 := k48 (P := P) (w := w) (base := base) M d48 q25 q34 q37
  have q49 := k49 (P := P) (w := w) (base := base) M d49 q46 q40 q41
  have q50 := k50 (P := P) (w := w) (base := base) M d50 q43
  have q51 := k51 (P := P) (w := w) (base := base) M d51 q46 q44 q41 q28
  have q52 := k52 (P := P) (w := w) (base := base) M d52 q25 q43 q32
  have q53 := k53 (P := P) (w := w) (base := base) M d53 q46 q45 q28
  have q54 := k54 (P := P) (w := w) (base := base) M d54 q25 q34 q45
  have q56 := k56 (P := P) (w := w) (base := base) M d56
  have q57 := k57 (P := P) (w := w) (base := base) M d57
  have q58 := k58 (P := P) (w := w) (base := base) M d58 q57
  have q59 := k59 (P := P) (w := w) (base := base) M d59
  have q60 := k60 (P := P) (w := w) (base := base) M d60
  have q61 := k61 (P := P) (w := w) (base := base) M d61
  have q62 := k62 (P := P) (w := w) (base := base) M d62
  have q63 := k63 (P := P) (w := w) (base := base) M d63 q62 q59
  have q64 := k64 (P := P) (w := w) (base := base) M d64 q57 q58
  have q66 := k66 (P := P) (w := w) (base := base) M d66 q57
  have q67 := k67 (P := P) (w := w) (base := base) M d67 q57 q58 q66
  have q68 := k68 (P := P) (w := w) (base := base) M d68 q57 q58
  have q69 := k69 (P := P) (w := w) (base := base) M d69
  have q70 := k70 (P := P) (w := w) (base := base) M d70 q59 q60
  have q71 := k71 (P := P) (w := w) (base := base) M d71 q63
  have q72 := k72 (P := P) (w := w) (base := base) M d72 q71 q70
  have q73 := k73 (P := P) (w := w) (base := base) M d73
  have q74 := k74 (P := P) (w := w) (base := base) M d74 q59
  have q75 := k75 (P := P) (w := w) (base := base) M d75 q74 q63
  have q76 := k76 (P := P) (w := w) (base := base) M d76 q71
  have q77 := k77 (P := P) (w := w) (base := base) M d77 q57 q58
  let GM0 : Fs := ⟨He.ga K "format_difference", He.ga K "parse_difference", He.ga K "_law_read_difference", He.ga K "format_relation", He.ga K "parse_relation", He.ga K "_law_read_relation", He.ga K "format_paper", He.ga K "parse_paper", He.ga K "_law_read_paper", He.ga K "format_chain", He.ga K "parse_chain", He.ga K "_law_read_chain"⟩
  have GM : FsM mg GM0 := ⟨He.glo_ok X G (cd.fact 60 (f := .glo "format_difference") rfl), He.glo_ok X G (cd.fact 61 (f := .glo "parse_difference") rfl), He.glo_ok X G (cd.fact 84 (f := .glo "_law_read_difference") rfl), He.glo_ok X G (cd.fact 62 (f := .glo "format_relation") rfl), He.glo_ok X G (cd.fact 63 (f := .glo "parse_relation") rfl), He.glo_ok X G (cd.fact 86 (f := .glo "_law_read_relation") rfl), He.glo_ok X G (cd.fact 64 (f := .glo "format_paper") rfl), He.glo_ok X G (cd.fact 65 (f := .glo "parse_paper") rfl), He.glo_ok X G (cd.fact 87 (f := .glo "_law_read_paper") rfl), He.glo_ok X G (cd.fact 66 (f := .glo "format_chain") rfl), He.glo_ok X G (cd.fact 67 (f := .glo "parse_chain") rfl), He.glo_ok X G (cd.fact 88 (f := .glo "_law_read_chain") rfl)⟩
  obtain ⟨f78, h78, q78⟩ := k78v (P := P) (w := w) (base := base) (st := stepsF) (lk := lookD) (pr := pairsF) (ad := addrD) (dr := drawF) (pk := fun u xs => pickT (.alike []) u xs) M fnR_ok GM d78 q66 q68 q61 q69 q77 q67 q73 (k58T (Paper.alike []) encP q58) q57
  have KF := kfn_of GM q47 q49 q51 q53 q48 q50 q52 q54 q72 q74 q75 q76
  have R := rd65 M d65
  have q79 := k79 M KF hx R F79 g79 (G79.binds bn79) tm79 q64 q58
  exact k80 M (f56 := streamF) (f78 := f78) (f79 := caseF) hx R F80 tm80 q56 h78 q78 q79 q48 q54 q53 q52
end
end Kd
set_option Elab.async false
set_option linter.all false
set_option maxRecDepth 100000
set_option maxHeartbeats 20000000
/-! the end: the law's row -/
namespace Kd
open PySem PySem.Spec PyProof.Rows L2
theorem walkA {q : Program} {loose : List Str} {XP : (Str → Option Value) → Heap → Prop} : PySem.W.WalkO q loose XP hkA.says rowA.toRowW (HandSHeadRun.topDef rowA.prog 80) [] (fun f vs => PySem.call f vs) := by
  refine Att.attach_callB (n := 63) rfl (by kernel_rfl) fun w s₀ s₁ mg mb fa o pm cd doc a vs ns G Y ho hd hcd hmg hobj hints hlen hbits hg => ?_
  obtain ⟨K, KX, c⟩ := Y
  have e : (HandSHeadRun.topDef rowA.prog 80).name = ("law" : PySem.Str) := by kernel_rfl
  have hmg : mg ("law" : PySem.Str) = some (.ref fa) := by
    rw [← e]
    exact hmg
  obtain ⟨L, fd, hT, hb, hF⟩ := law_of (P := PySem.Challenge.rw_sharedlets_k87_texts_of_papers_and_chain.prog) (w := w) KX G.T.g hmg c
  have mem : ∀ p ∈ tfA.map (He.cT K), ∃ t ∈ tfA, p = He.cT K t := fun p hp => by
    obtain ⟨t, h1, h2⟩ := List.mem_map.mp hp
    exact ⟨t, h1, h2.symm⟩
  exact @lawG_call L _ w K mg mb 12 0 fa a (tfA.map (He.cT K)) fd "_law_script" s₁ vs ns KX G.T.g G.T.b G.T.builtins G.T.nolimit hg
    (fun p hp => by obtain ⟨t, h1, rfl⟩ := mem p hp; exact c.empty t h1) (fun p hp => by obtain ⟨t, h1, rfl⟩ := mem p hp; exact c.out t h1) (fun p hp => by obtain ⟨t, h1, rfl⟩ := mem p hp; exact PySem.W.codeHd_of_K KX (c.hd t h1))
    G.T.bmain hobj hints hlen ⟨rfl, by decide, by decide⟩ (by rw [hT]; rfl) hF hb
end Kd
open PySem PySem.W PySem.Calls PyProof.Rows
theorem PySem.Challenge.cw_sharedlets_k87_texts_of_papers_and_chain_holds : PySem.Challenge.rw_sharedlets_k87_texts_of_papers_and_chain.Holds := by
  w_on; o_law
  refine HandSHeadRun.head_any (r := OpenLaw.row PySem.Challenge.rw_sharedlets_k87_texts_of_papers_and_chain) (q := view (OpenLaw.row PySem.Challenge.rw_sharedlets_k87_texts_of_papers_and_chain).prog [80]) (H := Kd.hkA) (ob := Kd.obA) (M := 4000) (loose := Kd.nmA) (d := HandSHeadRun.topDef (OpenLaw.row PySem.Challenge.rw_sharedlets_k87_texts_of_papers_and_chain).prog 80) (kwd := []) Kd.obA_eq
    (by kernel_rfl) (fun s => by kernel_rfl) Kd.runA (by kernel_rfl) (by kernel_rfl) (by kernel_rfl) (by rfl) (by first | assumption | decide +kernel) (by decide +kernel) ⟨rfl, rfl, rfl, rfl, rfl, by decide +kernel⟩ ?hw ?hc
  case hw => w_witness2
  case hc => exact Kd.walkA
