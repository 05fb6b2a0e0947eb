import PyProof.Rows.All
import Wide.All
import OpenK.AllK
import Wide.FinOn
import HandS.Exc
import HandS.Comp
import HandS.ReplaceLit
import HandS.TupMul
import HandS.Sort
import HandS.List
import HandS.SetFor
import HandS.StrSplit
import HandS.Deep
import HandS.NoneIn
import HandS.FStrTup
import PyProof.ReprRoads
import PyProof.Rows.StrSplitMax
import HandS.WordsExc
import HandS.ExcInit
import HandS.ExcValue
import HandS.ExcField
import HandS.IsInst
import HandS.TupAny
import HandS.RaiseMore
import HandS.ExcOwn
import HandS.ExcIs
import HandS.TryOnly
import HandS.ForMost
import HandS.Walk
import HandS.Conv
import HandS.Zip
import HandS.WideBits
import HandS.Flow
import HandS.Set
import HandS.SortInts
import HandS.Iter
import KE.GoesZip
import KE.GoesMore
import HandS.Replace
import HandS.More
import HandS.Text
import PySem.Challenge.RW_rowpipes_k18_refusals
set_option Elab.async false
set_option linter.all false
set_option maxRecDepth 100000
set_option maxHeartbeats 4000000
/-! An exception that leaves a comprehension. -/
namespace DL
open PySem PySem.Spec PyProof.Rows L2
section
variable {M : Model} {A : Around} {E : Value → Shared → Prop} {s : Shared} {env : Env}
/-- what a block is to reach: its own environment named -/
def BPost (M : Model) (A : Around) (E : Value → Shared → Prop) (use : Option (Value → Sem Unit)) (Q : Value → Shared → Prop) (acc : Value) (cenv : Env) (r : Result) (s' : Shared) : Prop :=
  match r with
  | .ok f => compPost M A E use Q acc cenv.locals (.ok f) s'
  | .error x => ∃ m, s'.heap.Ns cenv.locals m ∧ ∀ h', Heap.SameBut cenv.locals s'.heap h' → wpAny M A (PySem.passOn "comprehension.variables-let-go" x cenv : Sem Value) (fun _ _ => False) E { s' with heap := h' }
theorem comp_x {e : Expr} {scope : Scope} {pos : Pos} {newAcc first : Sem Value} {g : Comprehension} {gs : List Comprehension} {cl : List (Str × Addr)} {use : Option (Value → Sem Unit)} {Q : Value → Shared → Prop}
    (hcl : clausesOf e = g :: gs) (hs : ∀ x, foldedSetIterable g.iter env x = pure x) (hclos : closureFor scope env = pure cl)
    (hkind : scope.kind = .function) (hnames : ∀ x ∈ scope.names, x.2 = .local → scope.names.lookup x.1 = some .local)
    (h : wpAny M A first (fun x s1 => wpAny M A (pyIter x) (fun it s2 => wpAny M A newAcc (fun acc s3 =>
      wpAny M A (newFunctionEnv scope env.globals cl [] env.qual none .none (some env)) (fun cenv s4 =>
        codeAny M A (.compStart e 0 it acc { cenv with scope := relabel scope env }) (BPost M A E use Q acc { cenv with scope := relabel scope env }) s4) E s3) E s2) E s1) E s) :
    wpAny M A (comprehension e scope env pos newAcc false first use) Q E s := by
  unfold comprehension
  rw [hclos, hcl]
  refine wpAny_bind (wpAny_mono h (fun x s1 h1 => wpAny_bind (wpAny_standAt (wpAny_bind (wpAny_of_eq (hs x) (wpAny_bind (wpAny_holding (wpAny_mono h1 (fun it s2 h2 =>
    wpAny_standIf (wpAny_bind (wpAny_mono h2 (fun acc s3 h3 => wpAny_bind (wpAny_pure (wpAny_bind (wpAny_mono h3 (fun cenv s4 h4 => ?_) fun _ _ y => y)))) fun _ _ y => y)))
      fun _ _ y => y))))))) fun _ _ y => y)
  dsimp only
  have own : ∀ x ∈ (scope.names.filter fun x => (x.2 == .local || x.2 == .cell) && x.1 != (".0" : Str)).reverse, x.2 = .local → Env.kindOf { cenv with scope := relabel scope env } x.1 = some .local :=
    fun x hx hl => lookup_relabel_local (hnames x (List.mem_filter.mp (List.mem_reverse.mp hx)).1 hl)
  have own' : ∀ x ∈ (scope.names.filter fun x => (x.2 == .local || x.2 == .cell) && x.1 != (".0" : Str)).reverse.drop 1 ++ (scope.names.filter fun x => (x.2 == .local || x.2 == .cell) && x.1 != (".0" : Str)).reverse.take 1,
      x.2 = .local → Env.kindOf { cenv with scope := relabel scope env } x.1 = some .local := fun x hx hl => by
    rcases List.mem_append.mp hx with z | z
    · exact own x (List.mem_of_mem_drop z) hl
    · exact own x (List.mem_of_mem_take z) hl
  refine wpAny_holding (wpAny_bind (wpAny_attempt (wpAny_holding (wpAny_run (codeAny_mono h4 fun r s' hr => ?_)))))
  cases r with
  | ok f =>
    cases use with
    | none =>
      obtain ⟨m, hn, hr⟩ := hr
      exact wpAny_bind (wpAny_holding (wpAny_comp_letGo (cenv := { cenv with scope := relabel scope env }) hkind _ s' m own hn fun h' m' _ hs' => wpAny_pure (hr h' hs')))
    | some u =>
      refine wpAny_bind (wpAny_rule (wpAny_bind (wpAny_holding (wpAny_mono hr (fun _ s'' hr' => ?_) fun _ _ y => y))))
      obtain ⟨m, hn, hr'⟩ := hr'
      exact wpAny_bind (wpAny_comp_letGo (cenv := { cenv with scope := relabel scope env }) hkind _ s'' m own' hn fun h' m' _ hs' => wpAny_pure (hr' h' hs'))
  | error x =>
    obtain ⟨m, hn, hr⟩ := hr
    cases use <;> exact wpAny_bind (wpAny_holding (wpAny_comp_letGo (cenv := { cenv with scope := relabel scope env }) hkind _ s' m own hn fun h' m' _ hs' => wpAny_mono (hr h' hs') (fun _ _ f => f.elim) fun _ _ y => y))
end
/-! ### the exception, noted by the block's frame, on its way out -/
section
variable {M : Model} {A : Around} {E : Value → Shared → Prop} {s : Shared}
/-- one in flight by another's hand -/
theorem looks_other {base : Heap} {Z : Obj → Prop} {env : Env} {outer : List Env} {L L' e : Addr} {Q : Unit → Shared → Prop} (hZ : HandSPX.Steady Z) (hfr : A.frames = some (env :: outer)) (hf : env.frame = some L) (hne : L' ≠ L)
    (hfl : HandSPX.HeldZ base (env :: outer) e Z L' s.heap) (hQ : ∀ h', HandSPX.HeldZ base (env :: outer) e Z L h' → s.heap.UpToSlots h' → Q () { s with heap := h' }) : wpAny M A (noteFrame (.ref e) env) Q E s := by
  obtain ⟨hkb, hen, hl, oe, vs, T, oT, ts, he, hz, hd, h1, hnT, hTe, hT, hdT, h3⟩ := hfl
  unfold noteFrame
  simp only [hf]
  refine wpAny_bind (wpAny_field he hd h1 ?_)
  rw [if_pos (show (Value.ref T != Value.none) = true from by simp)]
  refine wpAny_bind (wpAny_field hT hdT h3 ?_)
  rw [if_neg (show ¬ ((rawInt L' == rawInt L) = true) from fun z => hne (Int.ofNat_inj.mp (by simpa [rawInt] using z)))]
  refine wpAny_bind (wpAny_setField hT hdT (Array.getElem?_eq_some_iff.mp h3).1 ?_)
  have other : ∀ b, b ≠ T → (s.heap.update T (Obj.mapFields (·.setIfInBounds 3 Value.none))).get? b = s.heap.get? b := fun b hb => Heap.get?_update_other _ _ (Ne.symm hb)
  have noRecord : ∀ b o, s.heap.get? b = some o → (∀ vs, o.data ≠ .fields vs) → b ≠ T := fun b o hb hnf q => by
    rw [q, hT] at hb; injection hb with hb; subst hb; exact hnf ts hdT
  refine HandSPX.wpAny_entryZ hZ hfr (hl.of_keeps fun b o hb hnf => ⟨o, (other b (noRecord b o hb hnf)).trans hb, rfl⟩) hf ((other e (Ne.symm hTe)).trans he)
    (fun b o hbo => (other b fun q => by rw [q, hnT] at hbo; cases hbo).trans (hkb b o hbo)) hen hd (Array.getElem?_eq_some_iff.mp h1).1 hz fun h' hN => ?_
  obtain ⟨x1, x2, x3, x4⟩ := hN
  exact hQ h' ⟨x1, hen, x2, x3⟩ fun b o hb hnf => x4 b o ((other b (noRecord b o hb hnf)).trans hb) hnf
/-- noted: held by the frame -/
theorem sky_note {B : Heap} {env : Env} {outer : List Env} {L L' a : Addr} {Z : Obj → Prop} {Q : Unit → Shared → Prop} (hZ : HandSPX.Steady Z) (hfr : A.frames = some (env :: outer)) (hf : env.frame = some L) (hne : L' ≠ L)
    (x : Sky B (env :: outer) a Z L' s.heap) (hQ : ∀ h', HandSPX.HeldZ B (env :: outer) a Z L h' → s.heap.UpToSlots h' → Q () { s with heap := h' }) : wpAny M A (noteFrame (.ref a) env) Q E s := by
  rcases x with ⟨hB, hn, hl, oe, vs, he, hz, hd, h1⟩ | fl | hh
  · exact HandSPX.look_newZ hZ hfr hl hf he hB hn hd h1 hz hQ
  · exact HandSPX.looks_onZ hZ hfr hf fl hQ
  · exact looks_other hZ hfr hf hne hh hQ
theorem note_frame {u : Value} {env env' : Env} (h : env.frame = env'.frame) : noteFrame u env = noteFrame u env' := by
  unfold noteFrame PySem.frameOf
  rw [h]
/-- handed on -/
theorem pass_on {B : Heap} {l : List Env} {L a : Addr} {Z : Obj → Prop} {what : String} {cenv : Env} {α : Type} {Q : α → Shared → Prop} (hf : cenv.frame = some L) (hh : HandSPX.HeldZ B l a Z L s.heap)
    (hE : ∀ h', HandSPX.HeldZ B l a Z L h' → s.heap.UpToSlots h' → E (.ref a) { s with heap := h' }) : wpAny M A (PySem.passOn what (.ref a) cenv : Sem α) Q E s := by
  obtain ⟨x1, x2, x3, oe, vs, T, oT, ts, he, hz, hd, h1, hnT, hTe, hT, hdT, h3⟩ := hh
  unfold PySem.passOn
  refine wpAny_bind (wpAny_field he hd h1 ?_)
  rw [if_neg (show ¬ ((Value.ref T == Value.none) = true) from by simp)]
  refine wpAny_bind ?_
  rw [hf]
  exact HandSPX.setFlight_onZ ⟨x1, x2, x3, oe, vs, T, oT, ts, he, hz, hd, h1, hnT, hTe, hT, hdT, h3⟩ fun h' k1 k2 => wpAny_throw (hE h' k1 k2)
end
/-! ### what a block lets out, its def's air takes -/
/-- held by the context's own hand or by its frame's -/
def XEF (X : Cx) (W : WX) (u : Value) (s' : Shared) : Prop :=
  ∃ (a : Addr) (B : Heap) (sI : Shared) (pins : List (Addr × Obj)) (σ : L2.St) (H : Hp) (cls : Value) (d : Option Addr) (L : Addr),
    u = .ref a ∧ Inv X pins σ H sI ∧ (∀ b o, sI.heap.get? b = some o → b ∉ frs X.stack → B.get? b = some o) ∧ sI.heap.UpToSlots s'.heap ∧
      (Sky B X.stack a (Zc cls d) L s'.heap ∧ (L = X.env.locals ∨ X.env.frame = some L)) ∧ H a = none ∧ s'.os = sI.os ∧ AllBare s'.gens ∧ W cls d σ H
def TakesF (X : Cx) (W : WX) : Prop := ∀ u s', XEF X W u s' → X.xe u s'
theorem TakesF.takes {X : Cx} {W : WX} (t : TakesF X W) : Takes X W := fun u s' ⟨a, B, sI, pins, σ, H, cls, d, e, I, nb, up, sky, na, os, ag, w⟩ =>
  t u s' ⟨a, B, sI, pins, σ, H, cls, d, X.env.locals, e, I, nb, up, ⟨sky, .inl rfl⟩, na, os, ag, w⟩
theorem Takes.toF {X : Cx} {W : WX} (hf : X.env.frame = some X.env.locals) (t : Takes X W) : TakesF X W := fun u s' ⟨a, B, sI, pins, σ, H, cls, d, L, e, I, nb, up, ⟨sky, hL⟩, na, os, ag, w⟩ => by
  have : L = X.env.locals := by
    rcases hL with z | z
    · exact z
    · rw [hf] at z; exact (Option.some.inj z).symm
  subst this
  exact t u s' ⟨a, B, sI, pins, σ, H, cls, d, e, I, nb, up, sky, na, os, ag, w⟩
theorem TakesF.imp {X : Cx} {W W' : WX} (t : TakesF X W) (h : ∀ c d σ H, W' c d σ H → W c d σ H) : TakesF X W' := fun u s' ⟨a, B, sI, pins, σ, H, cls, d, L, e, I, nb, up, sky, na, os, ag, w⟩ =>
  t u s' ⟨a, B, sI, pins, σ, H, cls, d, L, e, I, nb, up, sky, na, os, ag, h _ _ _ _ w⟩
theorem funFrames_but {B h h' : Heap} {C : Addr} (hB : ∀ b, B.get? b = none → (PySem.W.hideAll B [C]).get? b = none) (sb : ∀ b, b ≠ C → h'.get? b = h.get? b) : ∀ {l : List Env}, (∀ L ∈ frs l, L ≠ C) → h.FunFrames B l → h'.FunFrames (PySem.W.hideAll B [C]) l
  | [], _, _ => trivial
  | env :: l, hn, h => by
    obtain ⟨hk, ⟨L, o, hf, hL, ho, hd⟩, hr⟩ := h
    have hLC := hn L (List.mem_filterMap.mpr ⟨env, List.mem_cons_self, hf⟩)
    exact ⟨hk, ⟨L, o, hf, hB L hL, (sb L hLC).trans ho, hd⟩, funFrames_but hB sb (fun b hb => by
      obtain ⟨e, he, q⟩ := List.mem_filterMap.mp hb
      exact hn b (List.mem_filterMap.mpr ⟨e, List.mem_cons_of_mem _ he, q⟩)) hr⟩
theorem sky_note2 {M : Model} {A : Around} {E : Value → Shared → Prop} {s : Shared} {B : Heap} {env : Env} {outer : List Env} {L L' a : Addr} {Z : Obj → Prop} {Q : Unit → Shared → Prop} (hZ : HandSPX.Steady Z) (hfr : A.frames = some (env :: outer)) (hf : env.frame = some L)
    (x : Sky B (env :: outer) a Z L' s.heap) (hQ : ∀ h', HandSPX.HeldZ B (env :: outer) a Z L h' → s.heap.UpToSlots h' → Q () { s with heap := h' }) : wpAny M A (noteFrame (.ref a) env) Q E s := by
  by_cases hne : L' = L
  · subst hne
    rcases x with ⟨hB, hn, hl, oe, vs, he, hz, hd, h1⟩ | fl | hh
    · exact HandSPX.look_newZ hZ hfr hl hf he hB hn hd h1 hz hQ
    · exact HandSPX.looks_onZ hZ hfr hf fl hQ
    · exact HandSPX.againZ hf hh.2.2.2 (hQ s.heap hh (Heap.UpToSlots.of_keeps fun b o e => e))
  · exact sky_note hZ hfr hf hne x hQ
section
variable {X : Cx} {pins : List (Addr × Obj)} {σ : L2.St} {H : Hp} {s : Shared}
theorem blk_takes {W : WX} {scope : Scope} {ce e0 : Env} {o0 : List Env} {L : Addr} {fp : List Addr} {use : Option (Value → Sem Unit)} {Qf : Value → Shared → Prop} {acc : Value} (hW : ∀ c d σ' H', W c d σ' H' → W c d σ H') (tk : TakesF X W) (I3 : Inv X pins σ H s)
    (f3 : ∀ b ∈ fp, FpOk X pins H b) (hst : X.stack = e0 :: o0) (hf0 : e0.frame = some L) (hf : X.env.frame = some L) (cL : ce.locals = s.heap.objs.size) (cf : ce.frame = X.env.frame) :
    TakesF ((X.blk s H scope ce fp).tr [] (notedBy (model X.prog X.w) X.A ce fun x s' => BPost (model X.prog X.w) X.A X.xe use Qf acc ce (.error x) s')) W := by
  rintro u s' ⟨a, B, sI, pins', σ', H', cls, d, L', rfl, I, nb, up, ⟨sky, hL'⟩, na, os, ag, w⟩
  have hfr : X.A.frames = some (e0 :: o0) := by rw [I3.ok.frames, hst]
  show wpAny (model X.prog X.w) X.A (noteFrame (.ref a) ce) _ _ s'
  rw [note_frame (env' := e0) (cf.trans (hf.trans hf0.symm))]
  have sky : Sky B (e0 :: o0) a (Zc cls d) L' s'.heap := by
    have z : Sky B X.stack a (Zc cls d) L' s'.heap := sky
    rw [hst] at z
    exact z
  refine sky_note2 Zc.steady hfr hf0 sky fun h1 hh up1 => ?_
  -- the block's variables
  have nC : H' s.heap.objs.size = none := by
    have z : H' ce.locals = none := I.free
    rw [cL] at z
    exact z
  have fo := I3.fpOk (Nat.le_refl _) nC
  obtain ⟨m, hm, _⟩ := I.loc
  obtain ⟨o, es, ep, ho, hd, rest⟩ : sI.heap.Ns ce.locals m := hm
  rw [cL] at ho
  have hCst : s.heap.objs.size ∉ frs X.stack := fun z => by
    have z : s.heap.objs.size ∈ frs X.stack := z
    rcases List.mem_cons.mp (I3.stkSub _ z) with z | z
    · exact fo.2.1 z
    · exact fo.2.2.1 z
  have inG : ∀ b u, sI.heap.get? b = some u → b ∉ frs X.stack → h1.get? b = some u := fun b u e hb => hh.1 b u (nb b u e hb)
  have hC1 := inG _ _ ho hCst
  obtain ⟨x1, x2, x3, oe, vs, T, oT, ts, he, hz, hde, hv1, hnT, hTe, hT, hdT, h3⟩ := hh
  have aC : a ≠ s.heap.objs.size := fun z => by
    rw [z, hC1] at he
    cases he
    rw [hd] at hde
    cases hde
  have TC : T ≠ s.heap.objs.size := fun z => by
    rw [z, hC1] at hT
    cases hT
    rw [hd] at hdT
    cases hdT
  refine ⟨m, ⟨o, es, ep, by rw [cL]; exact hC1, hd, rest⟩, fun h2 sb => ?_⟩
  rw [cL] at sb
  have same : ∀ b, b ≠ s.heap.objs.size → h2.get? b = h1.get? b := fun b hb => sb.2 b hb
  have hideN : ∀ b, B.get? b = none → (PySem.W.hideAll B [s.heap.objs.size]).get? b = none := fun b hb => by
    cases q : (PySem.W.hideAll B [s.heap.objs.size]).get? b with
    | none => rfl
    | some u =>
      have z := PySem.W.of_hideAll _ q
      rw [hb] at z; cases z
  have hideC : ∀ (h : Heap) b u, (PySem.W.hideAll h [s.heap.objs.size]).get? b = some u → b ≠ s.heap.objs.size ∧ h.get? b = some u := fun h b u e => by
    refine ⟨fun z => ?_, PySem.W.of_hideAll _ e⟩
    rw [PySem.W.hideAll_none [s.heap.objs.size] (by rw [z]; exact List.mem_cons_self)] at e
    cases e
  have hideI : ∀ (h : Heap) b u, b ≠ s.heap.objs.size → h.get? b = some u → (PySem.W.hideAll h [s.heap.objs.size]).get? b = some u := fun h b u hb e => PySem.W.hideAll_get _ e (by simpa using hb)
  refine pass_on (B := PySem.W.hideAll B [s.heap.objs.size]) (l := e0 :: o0) (L := L) (Z := Zc cls d) (cf.trans hf) ⟨fun b u e => ?_, hideN a x2, funFrames_but hideN same (fun b hb z => hCst (by rw [hst, ← z]; exact hb)) x3,
    oe, vs, T, oT, ts, (same a aC).trans he, hz, hde, hv1, hideN T hnT, hTe, (same T TC).trans hT, hdT, h3⟩ fun h3' hh3 up3 => ?_
  · obtain ⟨hb, e⟩ := hideC B b u e
    exact (same b hb).trans (x1 b u e)
  have J : Inv X pins σ H' sI := I3.call' (ch := fp) I.os I.base I.hok I.bare fun b hb => ⟨(f3 b hb).2.2.2.1, (f3 b hb).2.1, (f3 b hb).2.2.2.2.1, (f3 b hb).2.2.2.2.2⟩
  obtain ⟨f0, f1, f2, f4, f5, f6⟩ := fo
  have J2 : Inv X pins σ H' { sI with heap := PySem.W.hideAll sI.heap [s.heap.objs.size], toks := sI.toks } := J.turned (fun b u hb e => hideI _ b u hb e) f0 f1 f4 f5 f6
  refine tk _ _ ⟨a, PySem.W.hideAll B [s.heap.objs.size], _, pins, σ, H', cls, d, L, rfl, J2, fun b u e hb => ?_, fun b u e hnf => ?_, ⟨by rw [hst]; exact .inr (.inr hh3), .inr hf⟩, na, os, ag, hW _ _ _ _ w⟩
  · obtain ⟨hbC, e⟩ := hideC _ b u e
    exact hideI _ b u hbC (nb b u e hb)
  · obtain ⟨hbC, e⟩ := hideC _ b u e
    obtain ⟨sl, e1⟩ := up.trans up1 b u e hnf
    obtain ⟨sl2, e2⟩ := up3 b _ ((same b hbC).trans e1) hnf
    exact ⟨sl2, e2⟩
end
/-! ### a comprehension whose parts may raise -/
/-- the context of a block whose exceptions leave by xe -/
abbrev blkX (X : Cx) (s : Shared) (H : Hp) (scope : Scope) (ce : Env) (fp : List Addr) (xe : Value → Shared → Prop) : Cx := (X.blk s H scope ce fp).tr [] xe
section
variable {X : Cx}
theorem lc_coreX {pins : List (Addr × Obj)} {s : Shared} {σ : L2.St} {H : Hp} {Q : VK} {elt tg iter : Expr} {ifs : List Expr} {scope : Scope} {own : List (Str × Nat)} {pos pos' : Pos} {wi : TI} {g : TG} {tt : TT} {te : TE} {use : Option (Value → Sem Unit)} {Qf : Value → Shared → Prop}
    {W : WX} {e0 : Env} {o0 : List Env} {L : Addr} (hW : ∀ c d σ' H', W c d σ' H' → W c d σ H') (tk : TakesF X W) (hst : X.stack = e0 :: o0) (hf0 : e0.frame = some L) (hf : X.env.frame = some L)
    (hc : X.calm = true) (hN : X.N.Nodup) (I : Inv X pins σ H s) (hi : PI X tg iter wi) (ok : BlkOk X.N X.env.scope scope own)
    (hg : ∀ (s : Shared) (H : Hp) (C : Addr) (cl : List (Str × Addr)) (fp : List Addr) xe, TakesF (blkX X s H scope (compEnvC scope cl C X.env) fp xe) W → PG (blkX X s H scope (compEnvC scope cl C X.env) fp xe) tg g)
    (ht : ∀ (s : Shared) (H : Hp) (C : Addr) (cl : List (Str × Addr)) (fp : List Addr) xe, TakesF (blkX X s H scope (compEnvC scope cl C X.env) fp xe) W → PTs (blkX X s H scope (compEnvC scope cl C X.env) fp xe) ifs tt)
    (he : ∀ (s : Shared) (H : Hp) (C : Addr) (cl : List (Str × Addr)) (fp : List Addr) xe, TakesF (blkX X s H scope (compEnvC scope cl C X.env) fp xe) W → PE (blkX X s H scope (compEnvC scope cl C X.env) fp xe) elt te)
    (hs : ∀ x, foldedSetIterable iter X.env x = pure x) (h : tLc wi g tt te (own.map (·.2)) σ H Q)
    (hRR : ∀ D C s' m H', Inv X pins σ H' s' → Q (.ref D) H' → s'.heap.Ns C m → FpOk X pins H' C → compPost (model X.prog X.w) X.A X.xe use Qf (.ref D) C (.ok .next) s') :
    wpAny (model X.prog X.w) X.A (comprehension (.ListComp elt [⟨tg, iter, ifs, 0⟩] scope pos) scope X.env pos' (newList []) false (eval iter X.env) use) Qf X.xe s := by
  have hfree : ∀ y ∈ scope.names, y.2 = .free → ∃ c, X.env.cells.lookup y.1 = some c := fun y hy e => by
    rcases ok.free y hy e with k | k
    · exact I.ok.has _ (.inl k)
    · exact I.ok.has _ (.inr k)
  refine comp_x (use := use) rfl hs (closure_ok hfree) ok.kind (fun y hy e => by rw [ok.uniq y hy, e]) (thn (hi.run pins s σ H _ I h) fun xv s1 hx => thn hx fun itv s2 h2 => ?_)
  obtain ⟨it, fp, tn, J, H2, e, I2, T, st2, f2, q⟩ := h2
  subst e
  refine wpAny_newObj_type (newEnv_comp ?_) (by show 0 ≤ sizeLine; decide)
  generalize hD : s2.heap.objs.size = D
  have hDn : H2 D = none := I2.hok.fresh (Nat.le_of_eq hD)
  obtain ⟨V, ⟨m0, w0⟩, turn⟩ := q D hDn
  generalize hs3 : ({ s2 with heap := s2.heap.push { cls := .type "list", data := .seq ([] : List Value).toArray } } : Shared) = s3
  have I3 : Inv X pins σ (upd H2 D (.lst [])) s3 := by
    rw [← hs3]
    refine I2.laid (t' := s2.toks) (fun b o e => Heap.get?_push_of_some _ e) (Nat.le_of_eq hD) ⟨Nat.zero_le _, [], 0, .nil, ?_⟩
    rw [← hD]
    exact Heap.get?_push_size _ rfl
  have h3 : s3.heap = s2.heap.push { cls := .type "list", data := .seq ([] : List Value).toArray } := by rw [← hs3]
  have sz : ∀ b ∈ fp, b < s2.heap.objs.size := fun b hb => by
    obtain ⟨o, e, _⟩ := T.obj _ _ st2 b hb
    exact Heap.lt_size e
  have f3 : ∀ b ∈ fp, FpOk X pins (upd H2 D (.lst [])) b ∧ b < s3.heap.objs.size := fun b hb => by
    have hlt := sz b hb
    refine ⟨⟨?_, (f2 b hb).2⟩, by rw [h3, Heap.size_push]; exact Nat.lt_succ_of_lt hlt⟩
    rw [upd_ne (by rw [← hD]; exact Nat.ne_of_lt hlt)]
    exact (f2 b hb).1
  have st3 : tn 0 s3.heap := T.keep _ _ _ st2 fun b _ o e => by rw [h3]; exact Heap.get?_push_of_some _ e
  have I4 := block_start I3 ok hN f3
  show codeAny _ _ (.compStart (.ListComp elt [⟨tg, iter, ifs, 0⟩] scope pos) 0 (.ref it) (.ref D) (compEnvC scope (cellsFrom (s3.heap.objs.size + 1) scope.names (cloFrom X.env.cells scope.names [])) s3.heap.objs.size X.env))
    (BPost (model X.prog X.w) X.A X.xe use Qf (.ref D) (compEnvC scope (cellsFrom (s3.heap.objs.size + 1) scope.names (cloFrom X.env.cells scope.names [])) s3.heap.objs.size X.env)) { s3 with heap := pushCells (s3.heap.push { cls := .type "dict", data := .dict #[] }) scope.names }
  have nfp : ∀ b ∈ fp, (upd H2 D (.lst [])) b = none := fun b hb => (f3 b hb).1.1
  have pg := hg s3 (upd H2 D (.lst [])) s3.heap.objs.size (cellsFrom (s3.heap.objs.size + 1) scope.names (cloFrom X.env.cells scope.names [])) fp
  have pt := ht s3 (upd H2 D (.lst [])) s3.heap.objs.size (cellsFrom (s3.heap.objs.size + 1) scope.names (cloFrom X.env.cells scope.names [])) fp
  have pe := he s3 (upd H2 D (.lst [])) s3.heap.objs.size (cellsFrom (s3.heap.objs.size + 1) scope.names (cloFrom X.env.cells scope.names [])) fp
  generalize hce : compEnvC scope (cellsFrom (s3.heap.objs.size + 1) scope.names (cloFrom X.env.cells scope.names [])) s3.heap.objs.size X.env = ce at I4 pg pt pe ⊢
  have cL : ce.locals = s3.heap.objs.size := by subst hce; rfl
  have cf : ce.frame = X.env.frame := by subst hce; rfl
  generalize hxe : (notedBy (model X.prog X.w) X.A ce fun x s' => BPost (model X.prog X.w) X.A X.xe use Qf (.ref D) ce (.error x) s') = xe at *
  generalize hH3 : upd H2 D (.lst []) = H3 at I3 I4 pg pt pe w0 nfp f3
  have tkB : TakesF (blkX X s3 H3 scope ce fp xe) W := by
    rw [← hxe]
    exact blk_takes hW tk I3 (fun b hb => (f3 b hb).1) hst hf0 hf cL cf
  have pg := pg xe tkB
  have pt := pt xe tkB
  have pe := pe xe tkB
  generalize hs4 : ({ s3 with heap := pushCells (s3.heap.push { cls := .type "dict", data := .dict #[] }) scope.names } : Shared) = s4 at I4 ⊢
  have I4 : Inv (blkX X s3 H3 scope ce fp xe) [] (wipe σ (own.map (·.2))) H3 s4 := I4.toTry xe
  have st4 : tn 0 s4.heap := T.keep _ _ _ st3 fun b _ o e => by rw [← hs4]; exact pushCells_keeps _ _ _ _ (Heap.get?_push_of_some _ e)
  have stat : ∀ {σ' : L2.St} {H' : Hp} {s' : Shared}, Inv (blkX X s3 H3 scope ce fp xe) [] σ' H' s' → (∀ b ∈ fp, H' b = none) → ∀ b ∈ fp, FpOk (blkX X s3 H3 scope ce fp xe) [] H' b := fun {σ' H' s'} I' hn b hb =>
    ⟨hn b hb, (I'.ok.exf b hb).1, I'.ok.exfs b hb, .inl hb, fun x c e => (I'.ok.exf b hb).2 x c e, fun p hp => absurd (show p ∈ ([] : List (Addr × Obj)) ++ [] from hp) (by simp)⟩
  have loop : codeAny (model X.prog X.w) X.A (.compLoop (.ListComp elt [⟨tg, iter, ifs, 0⟩] scope pos) 0 (.ref it) (.ref D) ce) (BPost (model X.prog X.w) X.A X.xe use Qf (.ref D) ce) s4 := by
    refine compLoop_any (fun n s' => ∃ i H', Inv (blkX X s3 H3 scope ce fp xe) [] (wipe σ (own.map (·.2))) H' s' ∧ tn i s'.heap ∧ (∀ b ∈ fp, H' b = none) ∧ V i n H') ?_ m0 ⟨0, H3, I4, st4, nfp, w0⟩
    rintro n s5 ⟨i, H5, I5, st5, n5, w5⟩
    rw [hxe]
    rcases turn i n H5 w5 with ⟨stop, qq⟩ | ⟨go, Nx, hNx, step⟩
    · have td := T.done (blkX X s3 H3 scope ce fp xe) rfl rfl rfl hc i [] s5 _ H5 (fun _ _ => False) I5 (stat I5 n5) st5 stop
      refine thnF td fun r s6 ⟨hr, I6⟩ => ?_
      subst hr
      have I7 : Inv X pins σ H5 s6 := I3.call' (ch := fp) I6.os I6.base I6.hok I6.bare fun b hb => ⟨(f3 b hb).1.2.2.2.1, (f3 b hb).1.2.1, (f3 b hb).1.2.2.2.2.1, (f3 b hb).1.2.2.2.2.2⟩
      have nC : H5 s3.heap.objs.size = none := by
        have z : H5 ce.locals = none := I6.free
        rw [cL] at z
        exact z
      obtain ⟨m, hn, _⟩ := I6.loc
      have hn : s6.heap.Ns ce.locals m := hn
      have z := hRR D s3.heap.objs.size s6 m H5 I7 qq (by rw [← cL]; exact hn) (I3.fpOk (Nat.le_refl _) nC)
      rw [← cL] at z
      exact z
    · have ti := T.item (blkX X s3 H3 scope ce fp xe) rfl rfl rfl hc i [] s5 _ H5 (fun _ _ => False) I5 (stat I5 n5) st5 go
      refine thnF ti fun r s6 ⟨u, hr, h6⟩ => ?_
      subst hr
      refine thnF h6 fun _ s7 ⟨x, H7, I7, r7, y7, st7, n7⟩ => ?_
      have I7' := I7.pinned (stat I7 n7) (T.obj _ _ st7)
      refine thn (pg.run _ s7 _ H7 x u _ I7' r7 (step x H7 y7)) fun _ s8 ⟨σ8, H8, I8, hw8, q8⟩ => ?_
      refine thn (pt.run _ s8 σ8 H8 _ I8 q8) fun b s9 ⟨H9, I9, q9⟩ => ?_
      have fin : ∀ {s' : Shared} {H' : Hp}, Inv (blkX X s3 H3 scope ce fp xe) ([] ++ pinsAt fp s7.heap) σ8 H' s' → Nx H' → ∃ m, m < n ∧ ∃ i H', Inv (blkX X s3 H3 scope ce fp xe) [] (wipe σ (own.map (·.2))) H' s' ∧ tn i s'.heap ∧ (∀ b ∈ fp, H' b = none) ∧ V i m H' := fun {s' H'} I' nx => by
        obtain ⟨m', hm, w'⟩ := hNx H' nx
        have pin' : ∀ b ∈ fp, ∀ o, s7.heap.get? b = some o → s'.heap.get? b = some o ∧ H' b = none := fun b hb o e =>
          let z := I'.pin (b, o) (List.mem_append_right _ (List.mem_append_right _ (mem_pinsAt hb e)))
          ⟨z.1, z.2.1⟩
        have hl : (wipe σ (own.map (·.2))).length = σ8.length := by rw [← hw8, wipe_length]
        refine ⟨m', hm, i + 1, H', (I'.unpinned (pins := [])).weak hl (fun j v e => ?_), T.keep _ _ _ st7 fun b hb o e => (pin' b hb o e).1, fun b hb => ?_, w'⟩
        · rw [← hw8] at e
          exact (wipe_some e).1
        · obtain ⟨o, e, _⟩ := T.obj _ _ st7 b hb
          exact (pin' b hb o e).2
      cases b with
      | false =>
        simp only [Bool.false_eq_true, if_false] at q9 ⊢
        exact fin I9 q9
      | true =>
        simp only [if_true] at q9 ⊢
        refine thn (pe.run _ s9 σ8 H9 _ I9 q9) fun z s10 ⟨yv, H10, I10, r10, acc, hD10, hz10, nx⟩ => ?_
        exact app_ok (X := blkX X s3 H3 scope ce fp xe) I10 hD10 hz10 r10 fun s11 I11 => fin I11 nx
  exact codeAny_compStart_list loop (T.self X.A 0 _ _ _ st4 loop)
/-- as a value -/
theorem pe_lcX {elt tg iter : Expr} {ifs : List Expr} {scope : Scope} {own : List (Str × Nat)} {pos : Pos} {wi : TI} {g : TG} {tt : TT} {te : TE} {W : WX} {e0 : Env} {o0 : List Env} {L : Addr} (hW : ∀ c d σ σ' H', W c d σ' H' → W c d σ H') (tk : TakesF X W) (hst : X.stack = e0 :: o0) (hf0 : e0.frame = some L) (hf : X.env.frame = some L)
    (hc : X.calm = true) (hN : X.N.Nodup) (hi : PI X tg iter wi) (ok : BlkOk X.N X.env.scope scope own)
    (hg : ∀ (s : Shared) (H : Hp) (C : Addr) (cl : List (Str × Addr)) (fp : List Addr) xe, TakesF (blkX X s H scope (compEnvC scope cl C X.env) fp xe) W → PG (blkX X s H scope (compEnvC scope cl C X.env) fp xe) tg g)
    (ht : ∀ (s : Shared) (H : Hp) (C : Addr) (cl : List (Str × Addr)) (fp : List Addr) xe, TakesF (blkX X s H scope (compEnvC scope cl C X.env) fp xe) W → PTs (blkX X s H scope (compEnvC scope cl C X.env) fp xe) ifs tt)
    (he : ∀ (s : Shared) (H : Hp) (C : Addr) (cl : List (Str × Addr)) (fp : List Addr) xe, TakesF (blkX X s H scope (compEnvC scope cl C X.env) fp xe) W → PE (blkX X s H scope (compEnvC scope cl C X.env) fp xe) elt te) (hs : ∀ x, foldedSetIterable iter X.env x = pure x) :
    PE X (.ListComp elt [⟨tg, iter, ifs, 0⟩] scope pos) (tLc wi g tt te (own.map (·.2))) := by
  refine ⟨fun pins s σ H Q I h => ?_⟩
  rw [eval_ListComp]
  refine lc_coreX (fun c d σ' H' w => hW c d σ σ' H' w) tk hst hf0 hf hc hN I hi ok hg ht he hs h fun D C s' m H' I' q hn f => ⟨m, hn, fun h'' sb => ?_⟩
  obtain ⟨f0, f1, f2, f3, f4, f5⟩ := f
  exact ⟨.ref D, H', I'.turned (t' := s'.toks) (fun b o hb e => (sb.2 b hb).trans e) f0 f1 f3 f4 f5, rfl, q⟩
/-- name = [..] on one line, the name a local -/
theorem ps_setLcX {i : Nat} {y : Str} {py : Pos} {elt tg iter : Expr} {ifs : List Expr} {scope : Scope} {own : List (Str × Nat)} {pos spos : Pos} {wi : TI} {g : TG} {tt : TT} {te : TE} {W : WX} {e0 : Env} {o0 : List Env} {L : Addr} (hW : ∀ c d σ σ' H', W c d σ' H' → W c d σ H') (tk : TakesF X W) (hst : X.stack = e0 :: o0) (hf0 : e0.frame = some L) (hf : X.env.frame = some L)
    (hc : X.calm = true) (hN : X.N.Nodup) (hy : X.N[i]? = some y) (hyl : X.env.scope.names.lookup y = some .local)
    (hsw : swapsWith (.ListComp elt [⟨tg, iter, ifs, 0⟩] scope pos) (some (.Name y py)) spos.line X.env = pure true) (hi : PI X tg iter wi) (ok : BlkOk X.N X.env.scope scope own)
    (hg : ∀ (s : Shared) (H : Hp) (C : Addr) (cl : List (Str × Addr)) (fp : List Addr) xe, TakesF (blkX X s H scope (compEnvC scope cl C X.env) fp xe) W → PG (blkX X s H scope (compEnvC scope cl C X.env) fp xe) tg g)
    (ht : ∀ (s : Shared) (H : Hp) (C : Addr) (cl : List (Str × Addr)) (fp : List Addr) xe, TakesF (blkX X s H scope (compEnvC scope cl C X.env) fp xe) W → PTs (blkX X s H scope (compEnvC scope cl C X.env) fp xe) ifs tt)
    (he : ∀ (s : Shared) (H : Hp) (C : Addr) (cl : List (Str × Addr)) (fp : List Addr) xe, TakesF (blkX X s H scope (compEnvC scope cl C X.env) fp xe) W → PE (blkX X s H scope (compEnvC scope cl C X.env) fp xe) elt te) (hs : ∀ x, foldedSetIterable iter X.env x = pure x) :
    PS X (.Assign [.Name y py] (.ListComp elt [⟨tg, iter, ifs, 0⟩] scope pos) spos) (tAsg (tLc wi g tt te (own.map (·.2))) (gName i)) := by
  refine ⟨fun pins s σ H D I h => ?_⟩
  rw [exec_Assign_Name_used _ _ _ _ hsw]
  refine wpAny_bind (wpAny_standAt (wpAny_bind ?_))
  show wpAny _ X.A (do let _ ← comprehension (.ListComp elt [⟨tg, iter, ifs, 0⟩] scope pos) scope X.env (firstIterPos [⟨tg, iter, ifs, 0⟩] pos) (newList []) false (eval iter X.env) (some (assign (.Name y py) X.env))) _ _ s
  have h : tLc wi g tt te (own.map (·.2)) σ H (fun x H1 => gName i x σ H1 D.nx) := h
  refine wpAny_bind (thn (lc_coreX (Qf := fun _ s' => SP X pins D .next s') (fun c d σ' H' w => hW c d σ σ' H' w) tk hst hf0 hf hc hN I hi ok hg ht he hs h fun L C s' m H' I' q hn f => ?_) fun _ s' hq => wpAny_pure (wpAny_pure hq))
  show wpAny _ _ (assign (.Name y py) X.env (.ref L)) _ _ _
  refine wpAny_assign_Name (store_ok2 (v := V.ref L) I' hN hy (.inl hyl) rfl (fun s2 I2 ⟨a, sb, ha⟩ => ?_) (.inr hyl))
  obtain ⟨f0, f1, f2, f3, f4, f5⟩ := f
  have haC : C ≠ a := by
    rcases ha with z | z
    · rw [z]; exact f1
    · exact fun e => f4 y a z e.symm
  refine ⟨m, hn.sameBut sb haC, fun h3 sb3 => ?_⟩
  exact ⟨_, H', I2.turned (t' := s2.toks) (fun b o hb e => (sb3.2 b hb).trans e) f0 f1 f3 f4 f5, q⟩
end
end DL
/-! list * int; the last two of some items: text + literal, text.replace(literal, literal). -/
namespace DL
open PySem PySem.Spec PyProof.Rows L2
section
variable {X : Cx}
theorem times_list (l : Addr) (items : Array Value) (n : Nat) (d : Option Addr) (sl : Array (Option Value)) (x : Int) (u : Tok) (c0 : ¬(!Builtin.List.listFitsIndex x) = true)
    (c1 : ¬items.size * x.toNat > (2 ^ 63 - 1) / 8) (c2 : ¬Builtin.List.listTooLong (items.size * x.toNat) = true) :
    Meets (Builtin.«list.__mul__» ⟨[.ref l, .int x u], []⟩) (fun _ R s => s.heap.get? l = some { cls := .type "list", dict := d, data := .seq items n, slots := sl } ∧ R (.ok (.ret (Value.ref s.heap.objs.size))) { s with heap := s.heap.push { cls := Value.type "list", data := Data.seq (List.foldl (fun x1 x2 => x1 ++ x2) #[] (List.replicate (if items.isEmpty = true then 0 else x.toNat) items)) }, toks := s.toks }) :=
  .of_wp fun prog w A R s h => by
    obtain ⟨hp, g, d, tk, os⟩ := s; obtain ⟨hl, h⟩ := h
    have hsz := AutoListH.joined_fits c2
    have f1 := AutoSeq1.idx_int
    wp_walk using wpAny_loadPart' hl
    refine wpAny_ite_false (decide_eq_false (Nat.not_lt.mpr hsz)) ?_
    wp_walk using wpAny_loadPart' hl
    exact ⟨_, rfl, h⟩
theorem int_times_list (a : Int) (t : Tok) (l : Addr) (items : Array Value) (n : Nat) (dd : Option Addr) (sl : Array (Option Value)) :
    Meets (Builtin.«int.__rmul__» ⟨[.int a t, .ref l], []⟩) (fun _ R s => s.heap.get? l = some { cls := .type "list", dict := dd, data := .seq items n, slots := sl } ∧ R (.ok (.ret Value.notImplemented)) s) :=
  .of_wp fun prog w A R s h => by obtain ⟨hp, g, d, tk, os⟩ := s; obtain ⟨hl, h⟩ := h; wp_walk using wpAny_loadPart' hl; exact ⟨_, rfl, h⟩
def rRepL (K : PySem.W.Frag) : R2 := fun x y H Q => ∃ l k xs, x = .ref l ∧ y = .int k ∧ SqL K H l xs ∧ xs ≠ [] ∧ 2 ≤ k ∧ k ≤ 1000 ∧ xs.length ≤ 1000 ∧ ∀ p, H p = none → Q (.ref p) (upd H p (.lst (List.replicate k.toNat xs).flatten))
theorem op_repL : OpR X (binaryOp .Mult) (rRepL X.K) := by
  intro pins s σ H x y v u Q I rx ry h
  obtain ⟨a, k, xs, rfl, rfl, hs, hne, h1, h2, hz, q⟩ := h
  obtain rfl : v = Value.ref a := rx
  obtain ⟨t, rfl⟩ := ry
  obtain ⟨its, rv, ⟨⟨cls, dd, data, sl⟩, n, ho, hc, hdn, hd⟩, hlen⟩ := I.list hs
  have hc1 : cls = Value.type "list" := hc
  have hd1 : data = Data.seq its.toArray n := hd
  subst hc1 hd1
  have hle : its.length = xs.length := rv.length.symm
  have hi : its.toArray.isEmpty = false := by
    cases its with
    | nil => exact absurd (List.eq_nil_of_length_eq_zero hle.symm) hne
    | cons a b => rfl
  have hsl := sizeLine_eq
  have a1 : k.toNat * xs.length ≤ 1000 * 1000 := Nat.mul_le_mul (by omega) hz
  have a2 : its.toArray.size * k.toNat ≤ 1000000 := by
    rw [List.size_toArray, hle, Nat.mul_comm]
    omega
  refine wpAny_binaryOp_repeat_ref (T := "list") (U := "int") (by decide) ⟨_, ho, rfl⟩ (fun s' => typeIs_int s' k t) noFill_list_mul F.fills_int_mul F.slot_int_rmul repeat_list F.slot_int_index.lookup
    (call_meets F.slot_int_rmul (typeIs_int s k t) F.entry_int_rmul (F.args_int_rmul_2 _ _) (int_times_list k t a its.toArray n dd sl)
      ⟨ho, rfl, ⟨_, ho, rfl⟩, call_meets F.slot_list_mul ⟨_, ho, rfl⟩ F.entry_list_mul (F.args_list_mul_2 _ _)
        (times_list a its.toArray n dd sl k t (by simp [Builtin.List.listFitsIndex]; omega) (by omega) (by simp only [Builtin.List.listTooLong, decide_eq_true_eq]; omega))
        ⟨ho, ?_⟩⟩)
  rw [hi, if_neg Bool.false_ne_true, size_rep]
  refine ⟨.ref s.heap.objs.size, _, I.laid (t' := s.toks) (o := .lst (List.replicate k.toNat xs).flatten) (fun b o e => Heap.get?_push_of_some _ e) (Nat.le_refl _) ⟨?_, _, 0, rv.rep k.toNat, Heap.get?_push_size _ rfl⟩, rfl, q _ (I.hok.fresh (Nat.le_refl _))⟩
  rw [PyProof.Rows.lm_len_rep_flat]
  omega
/-- the last two -/
def tRep2 (ta to : TE) (l y z : Str) : TA := fun σ H Q => ta σ H fun v H1 => ∃ x, v = .str x ∧ x.length + l.length ≤ 16777216 ∧ to σ H1 fun u H2 => ∃ t, u = .str t ∧ t.length + (t.length + 1) * z.length ≤ 16777216 ∧ Q [.str (x ++ l), .str (Txt.replace t y z)] H2
theorem pa_rep2 {a o : Expr} {ta to : TE} {l y z : Str} {j k i : Nat} {c0 c1 c2 apos pos ppos : Pos} (ha : PE X a ta) (ho : PE X o to) (hyz : (y == z) = false)
    (hst : starEach [.Constant (.str y) j c0, .Constant (.str z) k c1] X.env = [(false, eval (.Constant (.str y) j c0) X.env), (false, eval (.Constant (.str z) k c1) X.env)] := by rfl)
    (hbase : attributeBase o "replace" X.env (eval o X.env) = eval o X.env) (hline : (apos.endLine == pos.line) = true) :
    PA X [.BinOp a .Add (.Constant (.str l) i c2) ppos, .Call (.Attribute o "replace" apos) [.Constant (.str y) j c0, .Constant (.str z) k c1] [] pos] (tRep2 ta to l y z) := by
  refine ⟨fun ps pins s σ H Q I h => ?_⟩
  show wpAny _ _ (spliced ((false, eval (.BinOp a .Add (.Constant (.str l) i c2) ppos) X.env) :: (false, eval (.Call (.Attribute o "replace" apos) [.Constant (.str y) j c0, .Constant (.str z) k c1] [] pos) X.env) :: backTo ps (starEach [] X.env))) _ _ s
  refine Calls.spliced_cons (wpAny_BinOp (thn (ha.run pins s σ H _ I h) fun v s1 ⟨xv, H1, I1, r1, x, ex, hz, q⟩ => Calls.Constant_str ?_))
  subst ex
  have hz2 : x.length + l.length ≤ sizeLine := by rw [sizeLine_eq]; exact hz
  have I1' : Inv X pins σ H1 { s1 with toks := s1.toks + 1 } := I1.tok _
  refine wpAny_mono (PySem.wpAny_toks (op_add_str pins { s1 with toks := s1.toks + 1 } σ H1 (.str x) (.str l) v (.str l s1.toks) (fun w H' => w = .str (x ++ l) ∧ H' = H1) I1' r1 ⟨_, rfl⟩ ⟨x, l, rfl, rfl, hz2, rfl, rfl⟩)) (fun w s2 hw => ?_) fun _ _ z => z.2
  obtain ⟨hk, wv, H2, I2, r2, ew, eH⟩ := hw
  subst ew eH
  have h0 : 0 < s2.toks := Nat.lt_of_lt_of_le (Nat.succ_pos _) hk
  exact Calls.spliced_cons (thn (CwR.pet_replC ho hyz hst hbase hline pins s2 σ H2 (fun w H' => Q [.str (x ++ l), w] H') h0 I2 q) fun w s3 ⟨wv, H3, I3, r3, q⟩ => Calls.spliced_nil ⟨[.str (x ++ l), wv], H3, I3, .cons r2 (.cons r3 .nil), q⟩)
end
end DL
/-! list.count of flat things. -/
namespace DL
open PySem PySem.Spec PyProof.Rows L2
section
variable {X : Cx}
def rCntU (K : PySem.W.Frag) : V → List V → Hp → VK → Prop := fun x xs H Q => ∃ (p : Addr) (ys : List V) (y : V), x = .ref p ∧ xs = [y] ∧ SqL K H p ys ∧ flatV y = true ∧ ys.all flatV = true ∧ Q (.int ((ys.countP fun z => eqV z y : Nat) : Int)) H
theorem countP_eqU {x : V} : ∀ {xs : List V} {us : List Value}, Vals xs us → xs.all flatV = true → us.countP (eqU x) = xs.countP fun z => eqV z x
  | _, _, .nil, _ => rfl
  | y :: xs, u :: us, .cons r t, f => by
    rw [List.all_cons, Bool.and_eq_true] at f
    rw [List.countP_cons, List.countP_cons, eqU_of r f.1, countP_eqU t f.2]
theorem mt_lcountU : MtR X "list.count" (rCntU X.K) := by
  intro pins s σ H x xs v us Q I rx rxs h
  obtain ⟨p, ys, y, rfl, rfl, hs, fy, fs, q⟩ := h
  cases rx
  obtain ⟨u, rfl, ru⟩ := rxs.one
  obtain ⟨its, rv, ⟨⟨cls, dd, data, sl⟩, n, ho, hc, hdn, hd⟩, hlen⟩ := I.list hs
  simp only at hc hd
  subst hc hd
  refine call_meets PySem.F.slot_list_count ⟨_, ho, rfl⟩ PySem.F.entry_list_count (PySem.F.args_list_count_2 _ _)
    (SeqAt.list_countAt p its.toArray n dd sl u (eqU y)) ⟨ho, fun w hw => mem_eqAt ru fy rv fs w (by simpa using hw), ?_⟩
  refine ⟨.int _, H, I.tok _, ⟨s.toks, ?_⟩, q⟩
  show Value.int ((its.toArray.toList.countP (eqU y) : Nat) : Int) s.toks = _
  rw [show its.toArray.toList = its from by simp, countP_eqU rv fs]
def rCntD (K : PySem.W.Frag) : V → List V → Hp → VK → Prop := fun x xs H Q => ∃ (a : Addr) (y : V) (d : PyData) (ds : List PyData), x = V.ref a ∧ xs = [y] ∧ Dp K H (V.ref a) (.list ds) ∧ Dp K H y d ∧
  SeqAt.shaped (.list ds) = true ∧ SeqAt.shaped d = true ∧ Q (.int ((ds.countP fun z => PyData.eqv z d : Nat) : Int)) H
theorem mt_lcountD (hu : X.A.units + 65 < cLine) : MtR X "list.count" (rCntD X.K) := by
  intro pins s σ H x xs v us Q I rx rxs h
  obtain ⟨a, y, d, ds, rfl, rfl, hl, hy, sl, sd, q⟩ := h
  cases rx
  obtain ⟨uy, rfl, ry⟩ := rxs.one
  obtain ⟨bs, r1⟩ := Dp.reads I d y uy hy ry
  have cl : PyData.canLayAll0 ds = true := SeqAt.canLay_of_shaped sl
  have room : X.A.units + 1 + min (PyData.depthAll ds) d.depth < cLine := room_in_shaped sd hu
  cases hl with
  | lst hs ha =>
    obtain ⟨its, rv, ⟨⟨cls, dd, data, sls⟩, n, ho, hc, hdn, hdt⟩, hlen⟩ := I.list hs
    simp only at hc hdt
    subst hc hdt
    obtain ⟨as, h4⟩ := Dp.readsAll I ds _ its ha rv
    have em : its.map (SeqAt.readOf s.heap) = ds := SeqAt.readsAll_map ds its as cl h4
    refine call_meets PySem.F.slot_list_count ⟨_, ho, rfl⟩ PySem.F.entry_list_count (PySem.F.args_list_count_2 _ _)
      (SeqAt.list_countAt a its.toArray n dd sls uy fun u => PyData.eqv (SeqAt.readOf s.heap u) d) ⟨ho, SeqAt.items_eqAt (vs := its.toArray) (show ReadsAll s.heap its.toArray.toList ds as from h4) r1 cl (SeqAt.canLay_of_shaped sd) room, ?_⟩
    refine ⟨.int _, H, I.tok _, ⟨s.toks, ?_⟩, q⟩
    show Value.int ((its.toArray.toList.countP (fun u => PyData.eqv (SeqAt.readOf s.heap u) d) : Nat) : Int) s.toks = _
    rw [show its.toArray.toList = its from by simp, ← em, List.countP_map]
    rfl
/-- repr of nested data, where no other is under way -/
def rReprD (K : PySem.W.Frag) : List V → Hp → VK → Prop := fun xs H Q => ∃ (x : V) (d : PyData), xs = [x] ∧ Dp K H x d ∧ SeqAt.shaped d = true ∧ d.showable = true ∧ d.hasDict = false ∧ d.shown.length ≤ 16777216 ∧ (∃ a, x = .ref a) ∧ Q (.str d.shown) H
theorem call_reprD (hg : X.A.guards = some []) (hu : X.A.units + 65 < cLine) : CallR X (.builtin "repr") (rReprD X.K) := by
  intro pins s σ H xs us Q I r h
  obtain ⟨x, d, rfl, hd, sd, hs, hn, hz, ⟨a, rfl⟩, q⟩ := h
  obtain ⟨u, rfl, ru⟩ := r.one
  obtain ⟨as, r1⟩ := Dp.reads I d _ u hd ru
  cases ru
  have dp := SeqAt.depth_of_shaped sd
  exact repr_of_reads' r1 hs (PyData.noDict_hsm hn) hg (by omega) (fun b o e => e) (fun h' u tk hk => ⟨.str d.shown, H, I.kept (t' := tk) hk, ⟨u, rfl⟩, q⟩) (by rw [sizeLine_eq]; exact hz)
/-- a text times 0 or 1 -/
def rMulS : R2 := fun x y H Q => ∃ s k, x = .str s ∧ y = .int k ∧ 0 ≤ k ∧ k ≤ 1 ∧ Q (.str (if k = 1 then s else ⟨#[]⟩)) H
theorem op_mulS : OpR X (binaryOp .Mult) rMulS := by
  intro pins s σ H x y v u Q I rx ry h
  obtain ⟨z, k, rfl, rfl, h0, h1, q⟩ := h
  obtain ⟨t, rfl⟩ := rx
  obtain ⟨t2, rfl⟩ := ry
  by_cases hk : k = 1
  · subst hk
    rw [if_pos rfl] at q
    refine PySem.P.mul_str (by decide) (fun _ e => absurd e (by simp)) (fun _ e => absurd e (by simp)) ?_
    rw [if_neg (by decide), if_pos (by simp)]
    exact ⟨.str z, H, I, ⟨t, rfl⟩, q⟩
  · have e : k = 0 := by omega
    subst e
    rw [if_neg (by decide)] at q
    exact PySem.P.mul_str_none (by decide) (by decide) ⟨.str _, H, I.tok _, ⟨_, rfl⟩, q⟩
end
end DL
/-! Exceptions with an own __init__ that calls the __init__ of the own class above: made, held, asked. -/
namespace L2
open PySem PySem.Spec PyProof.Rows
/-- what the class above must have for B.__init__ to be read -/
structure InitB (K : PySem.W.Frag) (B : Addr) : Prop where
  sp : PySem.W.specialIn K (.ref B) "__getattribute__" = some (some (.builtin "type.__getattribute__"))
  rd : PySem.W.readsIn K B (.type "type") = true
  fc : PySem.W.findCls K (.ref B) (.type "type") "__init__" = some (.val (.builtin "ValueError.__init__"))
section
variable {X : Cx} {o e : Expr} {es : List Expr} {to te : TE} {ta : TA} {f : Str} {p p' p1 p2 pos : Pos}
theorem pe_peinit {x : Str} {B : Addr} (T0 : InitB X.K B) (hg : Gl X x) (hm : X.mg x = some (.ref B)) (ha : PA X (e :: es) ta) (hdb : (x == ("__debug__" : Str)) = false)
    (hbase : attributeBase (.Name x p1) "__init__" X.env (eval (.Name x p1) X.env) = eval (.Name x p1) X.env)
    (hfew : ((backTo pos (starEach (e :: es) X.env)).all (fun x => !x.1) && (backToKw pos (keywordEach [] X.env)).all (fun x => x.1.isSome)
      && decide ((e :: es).length + ([] : List Keyword).length + (if ([] : List Keyword).isEmpty then 0 else 1) < 30)) = true)
    (hline : (p2.endLine == pos.line) = true)
    (he : starEach (e :: es) X.env = (false, eval e X.env) :: starEach es X.env) (hpl : (backTo pos (starEach es X.env)).any (·.1) = false) :
    PE X (.Call (.Attribute (.Name x p1) "__init__" p2) (e :: es) [] pos) (tVeI X.K ta) := by
  refine ⟨fun pins s σ H Q I h => ?_⟩
  rw [PySem.arm_eval_Call, hbase]
  refine wpAny_bind (ld_glob I hg hm ?_ hdb)
  refine wpAny_bind (wpAny_standAt ?_)
  have hform : methodCallForm ((e :: es).length + ([] : List Keyword).length) (backTo pos (starEach (e :: es) X.env)) (backToKw pos (keywordEach [] X.env)) = true := hfew
  have hpos : methodCallPos true (.Name x p1) X.env p2 pos = pure pos := by unfold methodCallPos; simp [hline]
  unfold methodCall
  rw [hform]
  refine wpAny_bind (wpAny_holding (PySem.W.method_cls I.kIn T0.sp (PySem.W.cls_value I.kIn T0.rd T0.fc (by decide +kernel) ?_)))
  refine wpAny_bind (wpAny_of_eq hpos ?_)
  show wpAny _ _ (callWith pos (Value.builtin "ValueError.__init__") [] (backTo pos (starEach (e :: es) X.env)) []) _ _ _
  refine PyProof.Rows.callWith_method1 (thn (ha.run pos pins _ σ H _ (I.tok _) h) fun us s1 ⟨vs, H1, I1, r1, a, C, ws, ev, hl, T, ea, q⟩ => ?_) he hpl
  subst ev
  cases r1 with
  | @cons _ u0 _ ur ra rw' =>
    obtain rfl : u0 = Value.ref a := ra
    have hlen : ur.length ≤ sizeLine := by
      rw [← Paired.length rw', sizeLine_eq]
      omega
    exact oinit_ok T I1 ea hlen fun s' J => ⟨.non, H1, J, rfl, q⟩
end
/-! ### the own __init__, walked -/
/-- what it says to the class above: a text, or a text and the second field's -/
inductive IArg where
  | lit (s : Str) | cat (s : Str)
def IArg.ok : IArg → V → Prop
  | .lit _, _ => True
  | .cat s, y => ∃ t, y = .str t ∧ s.length + t.length ≤ sizeLine
def IArg.is (n2 : Str) : IArg → Expr → Prop
  | .lit s, e => ∃ j q, e = .Constant (.str s) j q
  | .cat s, e => ∃ j q q1 q2, e = .BinOp (.Constant (.str s) j q) .Add (.Name n2 q1) q2
/-- an __init__ of two fields -/
structure IForm (st : Stmt) (n1 n2 f1 f2 : Str) (g : IArg) : Prop where
  body : ∃ (p1 p2 p3 p4 p5 p6 p7 p8 p9 p10 p11 p12 p13 : Pos) (e : Expr), g.is n2 e ∧ (p2.endLine == p4.line) = true ∧
    defBody st = [.Expr (.Call (.Attribute (.Name "PipeError" p1) "__init__" p2) [.Name "self" p3, e] [] p4) p5, .Assign [.Attribute (.Name "self" p6) f1 p7] (.Name n1 p8) p9, .Assign [.Attribute (.Name "self" p10) f2 p11] (.Name n2 p12) p13]
  sc : FnScope ["self", n1, n2] ["self", n1, n2] (defScope st)
  gl : (defScope st).names.lookup ("PipeError" : Str) = some .globalImplicit
  nd : ∀ x ∈ [n1, n2], (x == ("__debug__" : Str)) = false ∧ (x == ("__classdict__" : Str)) = false
/-- what the __init__ keeps -/
def spI (K : PySem.W.Frag) (C : Addr) (f1 f2 : Str) (g : IArg) : Sp := fun vs H Q _ => ∃ (a : Addr) (y1 y2 : V), vs = [.ref a, y1, y2] ∧ H a = some (exo a C none) ∧ g.ok y2 ∧
  ∀ dx, H dx = none → dx ≠ a → Q .non (upd (upd H dx (exd dx [(f2, y2), (f1, y1)])) a (exo a C (some dx)))
set_option maxHeartbeats 400000 in
theorem init_fn {P : Program} {w : World} {K : PySem.W.Frag} {mg : Str → Option Value} {base : Heap} {k : Nat} {qual : Str} {st : Stmt} {f : Addr} {fd : FuncData} {n1 n2 f1 f2 : Str} {B0 C : Addr} {g : IArg} (F : Fun K "__init__" qual st f fd) (S : IForm st n1 n2 f1 f2 g)
    (T0 : InitB K B0) (hm : mg "PipeError" = some (.ref B0)) (T : OexC K C) (h1 : PySem.W.findIn K (.ref C) f1 = some none) (h2 : PySem.W.findIn K (.ref C) f2 = some none) : FnOk P w K mg base (L2.CX P w) (k + 1) f fd ["self", n1, n2] (spI K C f1 f2 g) := by
  obtain ⟨p1, p2, p3, p4, p5, p6, p7, p8, p9, p10, p11, p12, p13, e, he, hline, hb⟩ := S.body
  refine F.okX S.sc (fun vs H Q E h => ?_) (fun cdv A outer s H vs Q E hr h => ?_)
  · obtain ⟨a, y1, y2, rfl, _⟩ := h
    rfl
  · obtain ⟨a, y1, y2, rfl, ha, hy, q⟩ := h
    have vis : ∀ x ∈ (["self", n1, n2] : List Str), Vis (cxOf (L2.CX P w) P w K mg base ["self", n1, n2] qual (defScope st) f cdv A outer s H E).env.scope x := fun x hx => (S.sc.par x hx).elim (fun z => .inl z) fun z => .inr (.inl z)
    have v0 := vis "self" (by simp)
    have v1 := vis n1 (by simp)
    have v2 := vis n2 (by simp)
    have d1 := S.nd n1 (by simp)
    have d2 := S.nd n2 (by simp)
    have s0 : PE (cxOf (L2.CX P w) P w K mg base ["self", n1, n2] qual (defScope st) f cdv A outer s H E) (.Name "self" p3) (tVar 0) := pe_var rfl v0
    have arg : ∃ te : TE, PE (cxOf (L2.CX P w) P w K mg base ["self", n1, n2] qual (defScope st) f cdv A outer s H E) e te ∧ (∀ Q2 : VK, (∀ t, Q2 (.str t) H) → te (start ["self", n1, n2] [.ref a, y1, y2]) H Q2) ∧ starEach [e] (cxOf (L2.CX P w) P w K mg base ["self", n1, n2] qual (defScope st) f cdv A outer s H E).env = (false, eval e (cxOf (L2.CX P w) P w K mg base ["self", n1, n2] qual (defScope st) f cdv A outer s H E).env) :: starEach [] (cxOf (L2.CX P w) P w K mg base ["self", n1, n2] qual (defScope st) f cdv A outer s H E).env ∧ (backTo p4 (starEach [e] (cxOf (L2.CX P w) P w K mg base ["self", n1, n2] qual (defScope st) f cdv A outer s H E).env)).any (·.1) = false ∧ ((backTo p4 (starEach [.Name "self" p3, e] (cxOf (L2.CX P w) P w K mg base ["self", n1, n2] qual (defScope st) f cdv A outer s H E).env)).all (fun x => !x.1) && (backToKw p4 (keywordEach [] (cxOf (L2.CX P w) P w K mg base ["self", n1, n2] qual (defScope st) f cdv A outer s H E).env)).all (fun x => x.1.isSome) && decide (([.Name "self" p3, e] : List Expr).length + ([] : List Keyword).length + (if ([] : List Keyword).isEmpty then 0 else 1) < 30)) = true := by
      cases g with
      | lit t =>
        obtain ⟨j, q0, rfl⟩ := he
        exact ⟨_, pe_str, fun Q2 z => z t, rfl, rfl, rfl⟩
      | cat t =>
        obtain ⟨j, q0, q1, q2, rfl⟩ := he
        obtain ⟨u, rfl, hl⟩ := hy
        refine ⟨_, pe_op op_add_str pe_str (pe_var (i := 2) rfl v2 d2.1 d2.2), fun Q2 z => ?_, rfl, rfl, rfl⟩
        exact ⟨_, rfl, t, u, rfl, rfl, hl, z _⟩
    obtain ⟨te, pe, rd, hs, hpl, hfew⟩ := arg
    rw [hb]
    refine ⟨_, pss_cons (ps_expr (pe_peinit T0 (show Gl _ "PipeError" from S.gl) hm (pa_cons s0 (pa_cons pe pa_nil hs)) (by decide) rfl hfew hline rfl hpl)) (pss_cons (ps_ost (pe_var (i := 0) rfl v0) (pe_var (i := 1) rfl v1 d1.1 d1.2)) (pss_one (ps_ost (pe_var (i := 0) rfl v0) (pe_var (i := 2) rfl v2 d2.1 d2.2)))), ?_⟩
    refine ⟨_, rfl, rd _ fun t => ⟨a, C, [.str t], rfl, (by show 1 ≤ 1000; omega), T, ha, ?_⟩⟩
    refine ⟨_, rfl, _, rfl, a, C, rfl, T, h1, .inl ⟨ha, fun dx n ne => ?_⟩⟩
    refine ⟨_, rfl, _, rfl, a, C, rfl, T, h2, .inr ⟨dx, [(f1, y1)], upd_same, by rw [upd_ne ne, upd_same], (by show 1 ≤ 900; omega), ?_⟩⟩
    have e1 : upd (upd (upd H dx (exd dx [(f1, y1)])) a (exo a C (some dx))) dx (exd dx [(f2, y2), (f1, y1)]) = upd (upd H dx (exd dx [(f2, y2), (f1, y1)])) a (exo a C (some dx)) := by
      funext b
      by_cases hb1 : b = dx
      · subst hb1
        rw [upd_same, upd_ne ne, upd_same]
      · rw [upd_ne hb1]
        by_cases hb2 : b = a
        · subst hb2
          rw [upd_same, upd_same]
        · rw [upd_ne hb2, upd_ne hb2, upd_ne hb1, upd_ne hb1]
    show Q .non _
    rw [e1]
    exact q dx n ne
end L2
namespace DL
open PySem PySem.Spec PyProof.Rows L2
/-! ### isinstance of a caught error, with a dict or without -/
section
open PySem.W PySem.Calls
variable {prog : Program} {w : World} {A : Around} {E : Value → Shared → Prop} {s : Shared} {K : Frag} {x D : Addr} {ox : Obj} {od : Option Obj}
theorem find_dataN {C : Addr} {name : Str} {a g : Value} (hc : (clsIn K C).isSome = true) (ha : findIn K (.ref C) name = some (some a)) (hg : specialIn K a "__get__" = some (some g)) (ht : takesIn K a = some true) : findObj K C od name = some (.bind g a) := by
  obtain ⟨cd, hc⟩ := Option.isSome_iff_exists.mp hc
  unfold findObj
  rw [hc, Option.bind_some, ha, Option.bind_some]
  simp [hg, ht]
theorem kin_classX {Q : Option Value → Shared → Prop} (C : ExcC K D) (X : K.In s.heap) (I : InstAt s.heap x ox D od) (h : Q (some (.ref D)) { s with toks := s.toks + 1 }) : wpAny (model prog w) A (getAttr? (.ref x) "__class__") Q E s := by
  obtain ⟨hga, hgt, hsub, hdct, ha, hn, htk, hm⟩ := C
  have hf : findObj K D od "__class__" = some (.bind (.builtin "getset_descriptor.__get__") (.builtin "object.__class__")) := find_dataN (by obtain ⟨cd, hc, _⟩ := any_some hdct; rw [hc]; rfl) ha hn htk
  obtain ⟨hp, g, d, t, os⟩ := s
  have L0 := I.type (M := model prog w)
  have L1 := looks_findIn (M := model prog w) X hga
  have L2 := looks_findIn (M := model prog w) X hgt
  have L3 := looks_find (M := model prog w) X I hf
  have sub : Looks (model prog w) hp (isInstance (.ref x) (.type "BaseException")) true := L0.andThen (looks_subIn X hsub)
  have hx0 : (false && onTheHeap (Value.builtin "BaseException.__getattribute__")) = false := rfl
  have hx2 : (Value.builtin "BaseException.__getattribute__" == Value.builtin "object.__getattribute__") = false := by decide +kernel
  have hx1 : (onTheHeap (Value.ref D) && Value.builtin "BaseException.__getattribute__" == Value.builtin "object.__getattribute__") = false := by rw [hx2]; rfl
  unfold getAttr? getAttrBy? getAttrBy
  refine wpAny_bind (wpAny_mkText (wpAny_bind (wpAny_attempt (wpAny_holding (wpAny_bind (L0.at (wpAny_bind (L1.at ?_))))))))
  show wpAny _ _ (if (onTheHeap (Value.ref D) && Value.builtin "BaseException.__getattribute__" == Value.builtin "object.__getattribute__") = true then _ else _) _ _ _
  rw [hx1, if_neg Bool.false_ne_true]
  unfold getAttrByItsOwn hookBefore
  refine wpAny_bind ?_
  rw [if_pos (show onTheHeap (Value.ref D) = true from rfl)]
  refine L2.at ?_
  refine wpAny_bind (wpAny_attempt (wpAny_holding ?_))
  unfold callGetattribute
  rw [hx0, if_neg Bool.false_ne_true]
  unfold boundAndCalled
  rw [PySem.F.excAttr_ValueError.ga.bind (.ref x)]
  refine wpAny_bind (wpAny_pure ?_)
  show wpAny _ _ (call (.builtin "BaseException.__getattribute__") [.ref x, .str "__class__" t]) _ _ _
  refine wpAny_call (codeAny_call_builtin PySem.F.excAttr_ValueError.ga.plain PySem.F.entry_bexc_ga ?_)
  refine @check_slot (model prog w) _ _ ⟨hp, g, d, t + 1, os⟩ "BaseException.__getattribute__" "BaseException" "__getattribute__" (.ref x) [.str "__class__" t] [] _ (by decide +kernel) (by decide +kernel) sub (PySem.F.args_bexc_ga (.ref x) (.str "__class__" t)) ?_
  unfold Builtin.«object.__getattribute__»
  refine wpAny_bind (wpAny_of_eq (a := ((Value.ref x : Value), [Value.str "__class__" t])) (by first | rfl | (simp only [slotArgs]; rfl)) ?_)
  refine wpAny_bind (wpAny_pure (wpAny_bind (L0.at (wpAny_bind (L3.at ?_)))))
  show wpAny _ _ (holding [Value.builtin "object.__class__"] (call (.builtin "getset_descriptor.__get__") [.builtin "object.__class__", .ref x, .ref D]) >>= ret) _ _ _
  refine wpAny_bind (wpAny_holding (wpAny_call (class_get (s := ⟨hp, g, d, t + 1, os⟩) (ox := ox) (od := od) X I hm ?_)))
  refine wpAny_pure ?_
  show wpAny _ _ (handedOut (.ref D)) _ _ _
  rw [handedOut_of (v := .ref D) rfl]
  first
    | exact wpAny_pure (wpAny_pure h)
    | exact wpAny_pure h
    | exact wpAny_pure (wpAny_bind (wpAny_pure (wpAny_pure h)))
theorem kitx_excX (C : ExcC K D) : KitX K (.ref x) (.ref D) (fun h => InstAt h x ox D od) where
  ty := fun _ _ _ I => I.type
  it := fun _ _ X _ => by
    obtain ⟨cdD, hcD, _⟩ := any_some C.hd
    unfold clsIn at hcD
    split at hcD
    · rename_i c' d' cd' sl' ho
      intro A' Q' E' s' k q
      unfold isType loadHead
      exact wpAny_bind (wpAny_loadPart (k _ _ (X _ _ ho)) (wpAny_pure q))
    · cases hcD
  ne := fun h tp dd its n sl X htp => by
    obtain ⟨cdD, hcD, _⟩ := any_some C.hd
    refine Bool.eq_false_iff.mpr fun q => ?_
    have e : D = tp := Value.ref.inj (beq_iff_eq.mp q)
    subst e
    unfold clsIn at hcD
    split at hcD
    · rename_i c' d' cd' sl' ho
      have z := (X _ _ ho).symm.trans htp
      cases z
    · cases hcD
  ca := fun X I k => kin_classX C X I k
end
end DL
/-! Exceptions as values: made by an own __init__, asked for their class, their fields read. -/
namespace L2
open PySem PySem.Spec PyProof.Rows
/-- an exception's own dict, seen -/
def XAt (K : PySem.W.Frag) (H : Hp) (a C : Addr) (fs : List (Str × V)) : Prop := (H a = some (ExO (.ref C) a) ∧ fs = []) ∨ ∃ p, H a = some (exo a C (some p)) ∧ H p = some (exd p fs)
theorem xat_inst {X : Cx} {pins : List (Addr × Obj)} {σ : St} {H : Hp} {s : Shared} {a C : Addr} {fs : List (Str × V)} (I : Inv X pins σ H s) (h : XAt X.K H a C fs) :
    ∃ ox od, PySem.W.InstAt s.heap a ox C od ∧ (fs = [] ∨ ∃ p mA o, ox.dict = some p ∧ od = some o ∧ s.heap.Ns1 p mA ∧ s.heap.get? p = some o ∧ ∀ f, RelO (fs.lookup f) (mA f)) := by
  rcases h with ⟨h, rfl⟩ | ⟨p, h, hd⟩
  · obtain ⟨⟨oe, vs, ho, hz, hdt, _⟩, _, _⟩ := (show ObjOk X.prog X.w H s.heap a (ExO (.ref C) a) from I.hok a _ h)
    obtain ⟨oc, od, oda, osl⟩ := oe
    obtain ⟨h1, h2⟩ := hz
    dsimp only at h1 h2 hdt
    subst h1 h2 hdt
    exact ⟨_, none, ⟨ho, rfl, rfl, trivial⟩, .inl rfl⟩
  · obtain ⟨t1, ho⟩ := exo_at I.hok h
    obtain ⟨mA, hns, rel⟩ := exd_at I.hok hd
    obtain ⟨od, hod, _⟩ := lookIn_ns hns
    exact ⟨_, some od, ⟨ho, rfl, rfl, hod⟩, .inr ⟨p, mA, od, rfl, rfl, hns, hod, rel⟩⟩
/-- isinstance of an exception -/
def rIsV (K : PySem.W.Frag) : List V → Hp → VK → Prop := fun xs H Q => ∃ (a C : Addr) (fs : List (Str × V)) (c : V) (cv : Value) (b : Bool), xs = [.ref a, c] ∧ XAt K H a C fs ∧ ExcC K C ∧ (∀ u, RelV c u → u = cv) ∧ PySem.W.kitOne K (.ref C) cv = some b ∧ Q (.bl b) H
theorem call_isV {X : Cx} : CallR X (.builtin "isinstance") (rIsV X.K) := by
  intro pins s σ H xs us Q I r h
  obtain ⟨a, C, fs, c, cv, b, rfl, hx, ec, hcv, e, q⟩ := h
  cases r with
  | cons rx rr =>
    cases rr with
    | cons rt rr =>
      cases rr
      cases rx
      have ecv := hcv _ rt
      subst ecv
      obtain ⟨ox, od, J, _⟩ := xat_inst I hx
      exact PySem.W.kia_one (DL.kitx_excX ec) I.kIn J e (fun z => nomatch z) fun tk => ⟨.bl b, H, I.kept (t' := tk) fun _ _ z => z, rfl, q⟩
/-- e.f -/
def tAtV (K : PySem.W.Frag) (f : Str) (te : TE) : TE := fun σ H Q => te σ H fun x H1 => ∃ (a C : Addr) (fs : List (Str × V)) (v : V), x = .ref a ∧ XAt K H1 a C fs ∧ XfC K C ∧ PySem.W.findIn K (.ref C) f = some none ∧ fs.lookup f = some v ∧ Q v H1
theorem pe_atV {X : Cx} {e : Expr} {te : TE} {pos : Pos} {n : Str} (he : PE X e te) (hb : attributeBase e n X.env (eval e X.env) = eval e X.env) : PE X (.Attribute e n pos) (tAtV X.K n te) := by
  refine ⟨fun pins s σ H Q I h => ?_⟩
  refine attr_of hb (thn (he.run pins s σ H _ I h) fun u s1 hh => ?_)
  obtain ⟨x, H1, I1, rx, a, C, fs, v, ex, hx, T, hno, l, q⟩ := hh
  subst ex
  obtain rfl : u = Value.ref a := rx
  obtain ⟨ox, od, J, hd⟩ := xat_inst I1 hx
  rcases hd with rfl | ⟨p, mA, o, h1, h2, hns, hod, hr⟩
  · cases l
  · obtain ⟨u, hu, ru⟩ := RelO.some_of (v := v) (o := mA n) (by rw [← l]; exact hr n)
    obtain ⟨od2, ho2, hl⟩ := lookIn_ns hns
    rw [hod] at ho2
    cases ho2
    subst h2
    exact HandSPX.exc_get I1.kIn J T.ga T.gg T.exC (PySem.W.findObj_own T.hdC hno rfl (by rw [hl, hu])) (handed_of ru) ⟨v, H1, I1.tok _, ru, q⟩
/-- C(e, ..), C's own __init__ keeping sp, as a value -/
def tMkV (C : Addr) (sp : Sp) (ta : TA) : TE := fun σ H Q => ta σ H fun vs H1 => vs.length ≤ 1000 ∧ ∀ a, H1 a = none → sp (.ref a :: vs) (upd H1 a (exo a C none))
  (fun v H2 => v = .non ∧ Q (.ref a) H2) (fun _ _ _ => False)
section
variable {X : Cx} {e : Expr} {es : List Expr} {ta : TA} {p pos : Pos}
theorem pe_oexv {CX : CXT} {x : Str} {C fI : Addr} {k : Nat} {fd : FuncData} {ps : List Str} {sp : Sp} (T : OexC X.K C) (iC : PySem.W.findIn X.K (.ref C) "__init__" = some (some (.ref fI))) (tI : PySem.W.typeIn X.K (.ref fI) = some (.type "function"))
    (F1 : FnOk X.prog X.w X.K X.mg X.base CX k fI fd ps sp) (hr : Room (k + 1) X.A) (hb : Binds X.K fd ps []) (hx : Passes CX X (fun _ _ _ => False)) (hg : Gl X x) (hm : X.mg x = some (.ref C)) (ha : PA X (e :: es) ta)
    (hdb : (x == ("__debug__" : Str)) = false := by decide) (he : starEach (e :: es) X.env = (false, eval e X.env) :: starEach es X.env := by rfl) (hpl : (backTo pos (starEach es X.env)).any (·.1) = false := by rfl) :
    PE X (.Call (.Name x p) (e :: es) [] pos) (tMkV C sp ta) := by
  refine ⟨fun pins s σ H Q I h => ?_⟩
  obtain ⟨nm, q, N, bs, bm, sn, sub, ab, col, dd, k0, k1, k2, k3, k5, hC, hbm⟩ := T.cls
  refine wpAny_Call_Name_kw (ld_glob I hg hm ?_ hdb)
  refine PySem.W.callWith_K (h₀ := X.base) I.ok.mod.kin T.kC (thn (ha.run pos pins s σ H _ I h) fun us s1 ⟨vs, H1, I1, r1, hz, q1⟩ => ⟨I1.kIn, ?_⟩) he hpl
  show wpAny _ _ (call (.ref C) us) _ _ _
  obtain ⟨hp, g, dr, tk, os⟩ := s1
  have hsz : hp.objs.size ≤ hp.objs.size + 1 := Nat.le_succ _
  have hn : H1 (hp.objs.size + 1) = none := I1.hok.fresh hsz
  have hq := q1 (hp.objs.size + 1) hn
  have kk : ∀ b o, hp.get? b = some o → ((hp.push (PySem.W.kdv_tup us)).push (PySem.HandSPX.excO C hp.objs.size)).get? b = some o := fun b o e => Heap.get?_push_of_some _ (Heap.get?_push_of_some _ e)
  have hget : ((hp.push (PySem.W.kdv_tup us)).push (PySem.HandSPX.excO C hp.objs.size)).get? (hp.objs.size + 1) = some (PySem.HandSPX.excO C hp.objs.size) := by heap_get
  have I2 : Inv X pins σ (upd H1 (hp.objs.size + 1) (exo (hp.objs.size + 1) C none)) ⟨(hp.push (PySem.W.kdv_tup us)).push (PySem.HandSPX.excO C hp.objs.size), g, dr, tk, os⟩ :=
    I1.laid (t' := tk) (a := hp.objs.size + 1) (o := exo (hp.objs.size + 1) C none) (h' := (hp.push (PySem.W.kdv_tup us)).push (PySem.HandSPX.excO C hp.objs.size)) kk hsz (exo_ok hget)
  have r2 : Vals (V.ref (hp.objs.size + 1) :: vs) (Value.ref (hp.objs.size + 1) :: us) := .cons rfl r1
  have hl : (Value.ref (hp.objs.size + 1) :: us).length = ps.length := by
    have e := r2.length
    rw [F1.len _ _ _ _ hq] at e
    exact e.symm
  have hus : us.length ≤ sizeLine := by
    rw [← Paired.length r1, sizeLine_eq]
    omega
  have hb2 := hb _ (Value.ref (hp.objs.size + 1) :: us) I2.kIn (by rw [List.append_nil]; exact hl)
  rw [List.append_nil] at hb2
  refine wpAny_call (PySem.HandSPX.call_own F.excBase_ValueError (fun Y => PySem.HandSPX.refsVE_contains Y bm hbm) (I1.kIn _ _ hC) (PySem.W.looks_findIn I1.kIn iC) (fun self => PySem.W.bind_fn I1.kIn self tI) hus
    (codeAny_mono (F1.run _ X.stack _ _ ⟨Value.ref (hp.objs.size + 1) :: us, []⟩ (Value.ref (hp.objs.size + 1) :: us) _ _ (fun _ _ _ => False) (hr.make C us []) (I2.env0.make C us []) hb2 r2 hq) fun r s' hq' => ?_))
  cases r with
  | error er => exact hx pins σ _ _ er s' I2 hq'
  | ok fl =>
    cases fl with
    | ret u =>
      obtain ⟨v, H2, os2, bare2, un2, hok2, rv, ev, q2⟩ := hq'
      subst ev
      obtain ⟨h2, g2, d2, t2, os'⟩ := s'
      exact ⟨rv, .ref (hp.objs.size + 1), H2, I2.call' (ch := []) os2 un2 hok2 bare2 (fun b z => absurd z (by simp)), rfl, q2⟩
    | next => exact False.elim hq'
    | brk => exact False.elim hq'
    | cont => exact False.elim hq'
end
end L2
/-! A data level over the hand layer: values as data D, a memory Mem of the objects that may change, expressions by what they make of data. -/
namespace DL
open PySem PySem.Spec PyProof.Rows L2

abbrev St := L2.St
/-! ### data, memory -/
inductive D where
  | non | bl (b : Bool) | int (i : Int) | str (s : Str) | tup (l : List D) | lst (l : List D) | lk (l : List D) | ref (a : Addr) | emp | exc (c : Str) (ns : List Str) (l : List D)
inductive MO where
  | lst (l : List D) | pot (l : List D)
abbrev Mem := Addr → Option MO
def mset (μ : Mem) (a : Addr) (o : MO) : Mem := fun b => if b = a then some o else μ b
def mdel (μ : Mem) (a : Addr) : Mem := fun b => if b = a then none else μ b
@[simp] theorem mset_same {μ : Mem} {a : Addr} {o : MO} : mset μ a o a = some o := by unfold mset; rw [if_pos rfl]
theorem mset_ne {μ : Mem} {a b : Addr} {o : MO} (h : b ≠ a) : mset μ a o b = μ b := by unfold mset; rw [if_neg h]
theorem mdel_same {μ : Mem} {a : Addr} : mdel μ a a = none := by unfold mdel; rw [if_pos rfl]
theorem mdel_ne {μ : Mem} {a b : Addr} (h : b ≠ a) : mdel μ a b = μ b := by unfold mdel; rw [if_neg h]
@[simp] theorem mset_mset {μ : Mem} {a : Addr} {o u : MO} : mset (mset μ a o) a u = mset μ a u := by
  funext b; unfold mset; split <;> rfl
theorem mdel_mset {μ : Mem} {a : Addr} {o : MO} (h : μ a = none) : mdel (mset μ a o) a = μ := by
  funext b; unfold mdel mset
  by_cases e : b = a
  · rw [if_pos e, e, h]
  · rw [if_neg e, if_neg e]

section
variable (K : PySem.W.Frag) (H : Hp) (F : Addr → Prop)
/-- a list of the written part, or a locked one (the script) -/
def KL (K : PySem.W.Frag) (H : Hp) (a : Addr) (xs : List V) : Prop :=
  (∃ ob, H a = some (.frz ob (.lst xs))) ∨ ∃ (o : Obj) (its : Array Value) (n : Nat), K.lookup a = some o ∧ o.cls = .type "list" ∧ o.dict = none ∧ o.data = .seq its n ∧ its.size ≤ sizeLine ∧ Vals xs its.toList
/-- an exception that stays as it is -/
def XF (H : Hp) (F : Addr → Prop) (a C : Addr) (fs : List (Str × V)) : Prop := (F a ∧ H a = some (ExO (.ref C) a) ∧ fs = []) ∨ ∃ p, F a ∧ F p ∧ H a = some (exo a C (some p)) ∧ H p = some (exd p fs)
theorem XF.at {K : PySem.W.Frag} {H : Hp} {F : Addr → Prop} {a C : Addr} {fs : List (Str × V)} (h : XF H F a C fs) : XAt K H a C fs := by
  rcases h with ⟨_, h, e⟩ | ⟨p, _, _, h1, h2⟩
  · exact .inl ⟨h, e⟩
  · exact .inr ⟨p, h1, h2⟩
mutual
inductive RD : V → D → Prop
  | non : RD .non .non
  | bl (b : Bool) : RD (.bl b) (.bl b)
  | int (i : Int) : RD (.int i) (.int i)
  | str (x : Str) : RD (.str x) (.str x)
  | tup {a : Addr} {vs : List V} {ds : List D} : SqT K H a vs → RDs vs ds → RD (.ref a) (.tup ds)
  | lst {a : Addr} {vs : List V} {ds : List D} : F a → H a = some (.lst vs) → RDs vs ds → RD (.ref a) (.lst ds)
  | lk {a : Addr} {vs : List V} {ds : List D} : KL K H a vs → RDs vs ds → RD (.ref a) (.lk ds)
  | ref (a : Addr) : RD (.ref a) (.ref a)
  | emp {a : Addr} : F a → H a = some (.dK []) → RD (.ref a) .emp
  | exc {a C : Addr} {c : Str} {ns : List Str} {vs : List V} {ds : List D} : PySem.W.nsIn K mainGlobals c = some (some (.ref C)) → XF H F a C (ns.zip vs) → ns.length = vs.length → RDs vs ds → RD (.ref a) (.exc c ns ds)
inductive RDs : List V → List D → Prop
  | nil : RDs [] []
  | cons {v : V} {vs : List V} {d : D} {ds : List D} : RD v d → RDs vs ds → RDs (v :: vs) (d :: ds)
end
def RO : MO → HO → Prop
  | .lst ds, u => ∃ vs, u = .lst vs ∧ RDs K H F vs ds
  | .pot ds, u => ∃ (p q : Int) (vs : List V), u = .lst (.int p :: .int q :: vs) ∧ RDs K H F vs ds ∧ 0 ≤ p ∧ 0 ≤ q ∧ q < 2147483648
structure MS (μ : Mem) : Prop where
  at_ : ∀ a o, μ a = some o → ¬ F a ∧ ∃ u, H a = some u ∧ RO K H F o u
  fin : ∀ a, F a → ∃ u, H a = some u
end
structure Grow (H : Hp) (F : Addr → Prop) (μ : Mem) (H' : Hp) (F' : Addr → Prop) (μ' : Mem) : Prop where
  keep : ∀ a u, H a = some u → μ a = none → H' a = some u
  fr : ∀ a, F a → F' a
  new : ∀ a, F' a → F a ∨ H a = none ∨ (μ a).isSome = true
  dom : ∀ a, (μ' a).isSome = true → (μ a).isSome = true ∨ H a = none
theorem Grow.refl {H F μ} : Grow H F μ H F μ := ⟨fun _ _ e _ => e, fun _ e => e, fun _ e => .inl e, fun _ e => .inl e⟩
theorem Grow.trans {H F μ H1 F1 μ1 H2 F2 μ2} (g : Grow H F μ H1 F1 μ1) (k : Grow H1 F1 μ1 H2 F2 μ2) : Grow H F μ H2 F2 μ2 := by
  have none1 : ∀ a u, H a = some u → μ a = none → μ1 a = none := fun a u e n => by
    cases q : μ1 a with
    | none => rfl
    | some o =>
      rcases g.dom a (by rw [q]; rfl) with z | z
      · rw [n] at z; cases z
      · rw [e] at z; cases z
  have back : ∀ a, H1 a = none → H a = none ∨ (μ a).isSome = true := fun a e => by
    cases q : H a with
    | none => exact .inl rfl
    | some u =>
      cases r : μ a with
      | some o => exact .inr rfl
      | none => rw [g.keep a u q r] at e; cases e
  refine ⟨fun a u e n => k.keep a u (g.keep a u e n) (none1 a u e n), fun a e => k.fr a (g.fr a e), fun a e => ?_, fun a e => ?_⟩
  · rcases k.new a e with z | z | z
    · exact g.new a z
    · exact .inr (back a z)
    · rcases g.dom a z with y | y
      · exact .inr (.inr y)
      · exact .inr (.inl y)
  · rcases k.dom a e with z | z
    · exact g.dom a z
    · exact (back a z).symm
/-- what data leans on -/
structure Stay (K : PySem.W.Frag) (H : Hp) (F : Addr → Prop) (H' : Hp) (F' : Addr → Prop) : Prop where
  tup : ∀ a vs, SqT K H a vs → SqT K H' a vs
  lst : ∀ a u, F a → H a = some u → F' a ∧ H' a = some u
  lk : ∀ a o vs, H a = some (.frz o (.lst vs)) → H' a = some (.frz o (.lst vs))
theorem XF.stay {K H F H' F' a C fs} (st : Stay K H F H' F') (h : XF H F a C fs) : XF H' F' a C fs := by
  rcases h with ⟨f, h, e⟩ | ⟨p, f1, f2, h1, h2⟩
  · exact .inl ⟨(st.lst _ _ f h).1, (st.lst _ _ f h).2, e⟩
  · exact .inr ⟨p, (st.lst _ _ f1 h1).1, (st.lst _ _ f2 h2).1, (st.lst _ _ f1 h1).2, (st.lst _ _ f2 h2).2⟩
mutual
theorem RD.stay {K H F H' F'} (st : Stay K H F H' F') : ∀ {v d}, RD K H F v d → RD K H' F' v d
  | _, _, .non => .non
  | _, _, .bl b => .bl b
  | _, _, .int i => .int i
  | _, _, .str x => .str x
  | _, _, .tup h r => .tup (st.tup _ _ h) (RDs.stay st r)
  | _, _, .lst f h r => .lst (st.lst _ _ f h).1 (st.lst _ _ f h).2 (RDs.stay st r)
  | _, _, .lk h r => .lk (h.elim (fun ⟨o, q⟩ => .inl ⟨o, st.lk _ _ _ q⟩) .inr) (RDs.stay st r)
  | _, _, .ref a => .ref a
  | _, _, .emp f h => .emp (st.lst _ _ f h).1 (st.lst _ _ f h).2
  | _, _, .exc n x l r => .exc n (x.stay st) l (RDs.stay st r)
theorem RDs.stay {K H F H' F'} (st : Stay K H F H' F') : ∀ {vs ds}, RDs K H F vs ds → RDs K H' F' vs ds
  | _, _, .nil => .nil
  | _, _, .cons h r => .cons (RD.stay st h) (RDs.stay st r)
end
theorem RDs.length {K H F} : ∀ {vs ds}, RDs K H F vs ds → vs.length = ds.length
  | _, _, .nil => rfl
  | _, _, .cons _ r => by rw [List.length_cons, List.length_cons, RDs.length r]
theorem RDs.get {K H F} : ∀ {vs ds} {i : Nat} {d : D}, RDs K H F vs ds → ds[i]? = some d → ∃ v, vs[i]? = some v ∧ RD K H F v d
  | _, _, _, _, .nil, e => by simp at e
  | _, _, 0, _, .cons h _, e => by simp at e; subst e; exact ⟨_, rfl, h⟩
  | _, _, i + 1, d, .cons _ r, e => by
    obtain ⟨v, h1, h2⟩ := RDs.get (i := i) (d := d) r (by simpa using e)
    exact ⟨v, by simpa using h1, h2⟩
theorem RDs.get' {K H F} : ∀ {vs ds} {i : Nat} {v : V}, RDs K H F vs ds → vs[i]? = some v → ∃ d, ds[i]? = some d ∧ RD K H F v d
  | _, _, _, _, .nil, e => by simp at e
  | _, _, 0, _, .cons h _, e => by simp at e; subst e; exact ⟨_, rfl, h⟩
  | _, _, i + 1, d, .cons _ r, e => by
    obtain ⟨v, h1, h2⟩ := RDs.get' (i := i) (v := d) r (by simpa using e)
    exact ⟨v, by simpa using h1, h2⟩
theorem RDs.append {K H F} : ∀ {vs ds ws es}, RDs K H F vs ds → RDs K H F ws es → RDs K H F (vs ++ ws) (ds ++ es)
  | _, _, _, _, .nil, s => s
  | _, _, _, _, .cons h r, s => .cons h (RDs.append r s)
theorem RDs.set {K H F} {v : V} {d : D} (h : RD K H F v d) : ∀ {vs ds} (i : Nat), RDs K H F vs ds → RDs K H F (vs.set i v) (ds.set i d)
  | _, _, _, .nil => .nil
  | _, _, 0, .cons _ r => .cons h r
  | _, _, i + 1, .cons q r => .cons q (RDs.set h i r)
theorem RDs.take {K H F} : ∀ {vs ds} (n : Nat), RDs K H F vs ds → RDs K H F (vs.take n) (ds.take n)
  | _, _, 0, _ => .nil
  | _, _, _ + 1, .nil => .nil
  | _, _, n + 1, .cons h r => .cons h (RDs.take n r)
theorem RDs.drop {K H F} : ∀ {vs ds} (n : Nat), RDs K H F vs ds → RDs K H F (vs.drop n) (ds.drop n)
  | _, _, 0, h => h
  | _, _, _ + 1, .nil => .nil
  | _, _, n + 1, .cons _ r => RDs.drop n r
theorem RDs.reverse {K H F} {vs ds} (h : RDs K H F vs ds) : RDs K H F vs.reverse ds.reverse := by
  induction h using RDs.rec (motive_1 := fun _ _ _ => True) with
  | nil => exact .nil
  | cons h r _ ih => rw [List.reverse_cons, List.reverse_cons]; exact ih.append (.cons h .nil)
  | _ => trivial
theorem RDs.ints {K H F} : ∀ {vs : List V} {ns : List Int}, RDs K H F vs (ns.map D.int) → vs = ns.map V.int
  | _, [], .nil => rfl
  | _, n :: ns, .cons h r => by cases h; rw [RDs.ints r]; rfl
theorem RDs.strs {K H F} : ∀ {vs : List V} {ns : List Str}, RDs K H F vs (ns.map D.str) → vs = ns.map V.str
  | _, [], .nil => rfl
  | _, n :: ns, .cons h r => by cases h; rw [RDs.strs r]; rfl
theorem RDs.bls {K H F} : ∀ {vs : List V} {ns : List Bool}, RDs K H F vs (ns.map D.bl) → vs = ns.map V.bl
  | _, [], .nil => rfl
  | _, n :: ns, .cons h r => by cases h; rw [RDs.bls r]; rfl
theorem RDs.of_ints {K H F} : ∀ {ns : List Int}, RDs K H F (ns.map V.int) (ns.map D.int)
  | [] => .nil
  | n :: ns => .cons (.int n) RDs.of_ints
theorem RDs.of_strs {K H F} : ∀ {ns : List Str}, RDs K H F (ns.map V.str) (ns.map D.str)
  | [] => .nil
  | n :: ns => .cons (.str n) RDs.of_strs
theorem MS.no {K H F μ} (m : MS K H F μ) {a : Addr} {vs : List V} (h : Rd H a (.tup vs)) : μ a = none := by
  cases e : μ a with
  | none => rfl
  | some o =>
    obtain ⟨_, u, hu, r⟩ := m.at_ a o e
    rcases h with h | ⟨ob, h⟩ <;> (rw [hu] at h; cases h; cases o with
      | lst l => obtain ⟨_, q, _⟩ := r; cases q
      | pot l => obtain ⟨_, _, _, q, _⟩ := r; cases q)
theorem MS.noZ {K H F μ} (m : MS K H F μ) {a : Addr} {ob : Obj} {vs : List V} (h : H a = some (.frz ob (.lst vs))) : μ a = none := by
  cases e : μ a with
  | none => rfl
  | some o =>
    obtain ⟨_, u, hu, r⟩ := m.at_ a o e
    rw [hu] at h; cases h; cases o with
      | lst l => obtain ⟨_, q, _⟩ := r; cases q
      | pot l => obtain ⟨_, _, _, q, _⟩ := r; cases q
theorem MS.noF {K H F μ} (m : MS K H F μ) {a : Addr} (h : F a) : μ a = none := by
  cases e : μ a with
  | none => rfl
  | some o => exact absurd h (m.at_ a o e).1
theorem Grow.stay {K H F μ H' F' μ'} (g : Grow H F μ H' F' μ') (m : MS K H F μ) : Stay K H F H' F' := by
  refine ⟨fun a vs h => ?_, fun a vs f h => ⟨g.fr a f, g.keep a _ h (m.noF f)⟩, fun a o vs h => g.keep a _ h (m.noZ h)⟩
  · rcases h with h | h
    · have n := m.no h
      rcases h with h | ⟨o, h⟩
      · exact .inl (.inl (g.keep a _ h n))
      · exact .inl (.inr ⟨o, g.keep a _ h n⟩)
    · exact .inr h
theorem RO.stay {K H F H' F' o u} (st : Stay K H F H' F') (h : RO K H F o u) : RO K H' F' o u := by
  cases o with
  | lst l => obtain ⟨vs, e, r⟩ := h; exact ⟨vs, e, r.stay st⟩
  | pot l => obtain ⟨p, q, vs, e, r, b⟩ := h; exact ⟨p, q, vs, e, r.stay st, b⟩

/-! ### steps of the memory -/
section
variable {K : PySem.W.Frag} {H : Hp} {F : Addr → Prop} {μ : Mem} {p : Addr}
/-- a new tuple -/
theorem new_tup {vs : List V} {ds : List D} (m : MS K H F μ) (hp : H p = none) (r : RDs K H F vs ds) :
    Grow H F μ (upd H p (.tup vs)) F μ ∧ MS K (upd H p (.tup vs)) F μ ∧ RD K (upd H p (.tup vs)) F (.ref p) (.tup ds) := by
  have g : Grow H F μ (upd H p (.tup vs)) F μ := ⟨fun a u e _ => by rw [upd_ne (ne_of_none e hp)]; exact e, fun _ e => e, fun _ e => .inl e, fun _ e => .inl e⟩
  have st := g.stay m
  refine ⟨g, ⟨fun a o e => ?_, fun a f => ?_⟩, .tup (.inl (.inl upd_same)) (r.stay st)⟩
  · obtain ⟨n, u, hu, q⟩ := m.at_ a o e
    exact ⟨n, u, by rw [upd_ne (ne_of_none hu hp)]; exact hu, q.stay st⟩
  · obtain ⟨vs, h⟩ := m.fin a f
    exact ⟨vs, (st.lst a vs f h).2⟩
/-- a new list, that may change -/
theorem new_ref {vs : List V} {ds : List D} (m : MS K H F μ) (hp : H p = none) (r : RDs K H F vs ds) :
    Grow H F μ (upd H p (.lst vs)) F (mset μ p (.lst ds)) ∧ MS K (upd H p (.lst vs)) F (mset μ p (.lst ds)) ∧ μ p = none := by
  have nF : ¬ F p := fun f => by
    obtain ⟨vs, h⟩ := m.fin p f
    rw [hp] at h; cases h
  have st : Stay K H F (upd H p (.lst vs)) F := ⟨fun a ws h => by
      rcases h with (h | ⟨o, h⟩) | h
      · exact .inl (.inl (by rw [upd_ne (ne_of_none h hp)]; exact h))
      · exact .inl (.inr ⟨o, by rw [upd_ne (ne_of_none h hp)]; exact h⟩)
      · exact .inr h, fun a ws f h => ⟨f, by rw [upd_ne (ne_of_none h hp)]; exact h⟩, fun a o ws h => by rw [upd_ne (ne_of_none h hp)]; exact h⟩
  have np : μ p = none := by
    cases e : μ p with
    | none => rfl
    | some o => obtain ⟨_, u, hu, _⟩ := m.at_ p o e; rw [hp] at hu; cases hu
  refine ⟨⟨fun a u e _ => by rw [upd_ne (ne_of_none e hp)]; exact e, fun _ e => e, fun _ e => .inl e, fun a e => ?_⟩, ⟨fun a o e => ?_, fun a f => ?_⟩, np⟩
  · by_cases h : a = p
    · subst h; exact .inr hp
    · rw [mset_ne h] at e; exact .inl e
  · by_cases h : a = p
    · subst h
      rw [mset_same] at e; cases e
      exact ⟨nF, _, upd_same, vs, rfl, r.stay st⟩
    · rw [mset_ne h] at e
      obtain ⟨n, u, hu, q⟩ := m.at_ a o e
      exact ⟨n, u, by rw [upd_ne h]; exact hu, q.stay st⟩
  · obtain ⟨vs, h⟩ := m.fin a f
    exact ⟨vs, (st.lst a vs f h).2⟩
/-- an object frozen -/
theorem freeze {ds : List D} (m : MS K H F μ) (hp : μ p = some (.lst ds)) :
    ∃ F', Grow H F μ H F' (mdel μ p) ∧ MS K H F' (mdel μ p) ∧ RD K H F' (.ref p) (.lst ds) := by
  obtain ⟨n, u, hu, vs, e, r⟩ := m.at_ p _ hp
  subst e
  have st : Stay K H F H (fun a => F a ∨ a = p) := ⟨fun _ _ h => h, fun _ _ f h => ⟨.inl f, h⟩, fun _ _ _ h => h⟩
  refine ⟨fun a => F a ∨ a = p, ⟨fun _ _ e _ => e, fun _ f => .inl f, fun a f => ?_, fun a e => ?_⟩, ⟨fun a o e => ?_, fun a f => ?_⟩, .lst (.inr rfl) hu (r.stay st)⟩
  · rcases f with f | f
    · exact .inl f
    · subst f; exact .inr (.inr (by rw [hp]; rfl))
  · by_cases h : a = p
    · subst h; rw [mdel_same] at e; cases e
    · rw [mdel_ne h] at e; exact .inl e
  · by_cases h : a = p
    · subst h; rw [mdel_same] at e; cases e
    · rw [mdel_ne h] at e
      obtain ⟨n', u', hu', q⟩ := m.at_ a o e
      exact ⟨fun z => z.elim n' h, u', hu', q.stay st⟩
  · rcases f with f | f
    · exact m.fin a f
    · subst f; exact ⟨_, hu⟩
/-- a new list, frozen at once -/
theorem new_lst {vs : List V} {ds : List D} (m : MS K H F μ) (hp : H p = none) (r : RDs K H F vs ds) :
    ∃ F', Grow H F μ (upd H p (.lst vs)) F' μ ∧ MS K (upd H p (.lst vs)) F' μ ∧ RD K (upd H p (.lst vs)) F' (.ref p) (.lst ds) := by
  obtain ⟨g, m1, np⟩ := new_ref m hp r
  obtain ⟨F', g2, m2, r2⟩ := freeze m1 (mset_same)
  rw [mdel_mset np] at g2 m2
  exact ⟨F', g.trans g2, m2, r2⟩
/-- a new object, frozen at once -/
theorem new_fz {u : HO} (m : MS K H F μ) (hp : H p = none) : ∃ F', Grow H F μ (upd H p u) F' μ ∧ MS K (upd H p u) F' μ ∧ F' p := by
  have st : Stay K H F (upd H p u) (fun a => F a ∨ a = p) := ⟨fun a ws h => by
      rcases h with (h | ⟨o, h⟩) | h
      · exact .inl (.inl (by rw [upd_ne (ne_of_none h hp)]; exact h))
      · exact .inl (.inr ⟨o, by rw [upd_ne (ne_of_none h hp)]; exact h⟩)
      · exact .inr h, fun a ws f h => ⟨.inl f, by rw [upd_ne (ne_of_none h hp)]; exact h⟩, fun a o ws h => by rw [upd_ne (ne_of_none h hp)]; exact h⟩
  refine ⟨fun a => F a ∨ a = p, ⟨fun a v e _ => by rw [upd_ne (ne_of_none e hp)]; exact e, fun _ f => .inl f, fun a f => ?_, fun a e => .inl e⟩, ⟨fun a o e => ?_, fun a f => ?_⟩, .inr rfl⟩
  · rcases f with f | f
    · exact .inl f
    · subst f; exact .inr (.inl hp)
  · obtain ⟨n, v, hv, q⟩ := m.at_ a o e
    refine ⟨fun z => z.elim n fun z => ?_, v, by rw [upd_ne (ne_of_none hv hp)]; exact hv, q.stay st⟩
    subst z
    rw [hp] at hv
    cases hv
  · rcases f with f | f
    · obtain ⟨v, hv⟩ := m.fin a f
      exact ⟨v, (st.lst a v f hv).2⟩
    · subst f; exact ⟨u, upd_same⟩
/-- a list written -/
theorem write_ref {vs : List V} {ds es : List D} (m : MS K H F μ) (hp : μ p = some (.lst ds)) (r : RDs K H F vs es) :
    Grow H F μ (upd H p (.lst vs)) F (mset μ p (.lst es)) ∧ MS K (upd H p (.lst vs)) F (mset μ p (.lst es)) := by
  obtain ⟨n, u, hu, ws, e, _⟩ := m.at_ p _ hp
  subst e
  have st : Stay K H F (upd H p (.lst vs)) F := ⟨fun a ws' h => by
      rcases h with (h | ⟨o, h⟩) | h
      · exact .inl (.inl (by rw [upd_ne (ne_of h hu (by intro z; cases z))]; exact h))
      · exact .inl (.inr ⟨o, by rw [upd_ne (ne_of h hu (by intro z; cases z))]; exact h⟩)
      · exact .inr h, fun a ws' f h => ⟨f, by
      have hne : a ≠ p := fun z => n (z ▸ f)
      rw [upd_ne hne]; exact h⟩, fun a o ws' h => by rw [upd_ne (ne_of h hu (by intro z; cases z))]; exact h⟩
  refine ⟨⟨fun a u e hn => ?_, fun _ e => e, fun _ e => .inl e, fun a e => ?_⟩, ⟨fun a o e => ?_, fun a f => ?_⟩⟩
  · by_cases h : a = p
    · subst h; rw [hp] at hn; cases hn
    · rw [upd_ne h]; exact e
  · by_cases h : a = p
    · subst h; exact .inl (by rw [hp]; rfl)
    · rw [mset_ne h] at e; exact .inl e
  · by_cases h : a = p
    · subst h
      rw [mset_same] at e; cases e
      exact ⟨n, _, upd_same, vs, rfl, r.stay st⟩
    · rw [mset_ne h] at e
      obtain ⟨n', u, hu, q⟩ := m.at_ a o e
      exact ⟨n', u, by rw [upd_ne h]; exact hu, q.stay st⟩
  · obtain ⟨vs, h⟩ := m.fin a f
    exact ⟨vs, (st.lst a vs f h).2⟩
end

/-- what is forgotten -/
theorem forget_mem {K : PySem.W.Frag} {H : Hp} {F : Addr → Prop} {μ : Mem} (a : Addr) (m : MS K H F μ) : Grow H F μ H F (mdel μ a) ∧ MS K H F (mdel μ a) := by
  have sub : ∀ b o, mdel μ a b = some o → μ b = some o := fun b o e => by
    by_cases hb : b = a
    · subst hb; rw [mdel_same] at e; cases e
    · rw [mdel_ne hb] at e; exact e
  refine ⟨⟨fun _ _ e _ => e, fun _ e => e, fun _ e => .inl e, fun b e => ?_⟩, ⟨fun b o e => m.at_ b o (sub b o e), m.fin⟩⟩
  cases q : mdel μ a b with
  | none => rw [q] at e; cases e
  | some o => exact .inl (by rw [sub b o q]; rfl)
/-- a pot opened: its two numbers seen -/
theorem open_pot {K : PySem.W.Frag} {H : Hp} {F : Addr → Prop} {μ : Mem} {a : Addr} {l : List D} (m : MS K H F μ) (h : μ a = some (.pot l)) :
    ∃ p q : Int, (0 ≤ p ∧ 0 ≤ q ∧ q < 2147483648) ∧ Grow H F μ H F (mset μ a (.lst (.int p :: .int q :: l))) ∧ MS K H F (mset μ a (.lst (.int p :: .int q :: l))) := by
  obtain ⟨n, u, hu, p, q, vs, e, r, b⟩ := m.at_ a _ h
  subst e
  refine ⟨p, q, b, ⟨fun _ _ e _ => e, fun _ e => e, fun _ e => .inl e, fun c e => ?_⟩, ⟨fun c o e => ?_, m.fin⟩⟩
  · by_cases hc : c = a
    · subst hc; exact .inl (by rw [h]; rfl)
    · rw [mset_ne hc] at e; exact .inl e
  · by_cases hc : c = a
    · subst hc
      rw [mset_same] at e
      cases e
      exact ⟨n, _, hu, _, rfl, .cons (.int p) (.cons (.int q) r)⟩
    · rw [mset_ne hc] at e
      exact m.at_ c o e
/-- .. and closed -/
theorem shut_pot {K : PySem.W.Frag} {H : Hp} {F : Addr → Prop} {μ : Mem} {a : Addr} {l : List D} {p q : Int} (m : MS K H F μ) (h : μ a = some (.lst (.int p :: .int q :: l))) (b : 0 ≤ p ∧ 0 ≤ q ∧ q < 2147483648) :
    Grow H F μ H F (mset μ a (.pot l)) ∧ MS K H F (mset μ a (.pot l)) := by
  obtain ⟨n, u, hu, vs, e, r⟩ := m.at_ a _ h
  subst e
  refine ⟨⟨fun _ _ e _ => e, fun _ e => e, fun _ e => .inl e, fun c e => ?_⟩, ⟨fun c o e => ?_, m.fin⟩⟩
  · by_cases hc : c = a
    · subst hc; exact .inl (by rw [h]; rfl)
    · rw [mset_ne hc] at e; exact .inl e
  · by_cases hc : c = a
    · subst hc
      rw [mset_same] at e
      cases e
      cases r with
      | cons r1 r =>
        cases r with
        | cons r2 r =>
          cases r1
          cases r2
          exact ⟨n, _, hu, p, q, _, rfl, r, b⟩
    · rw [mset_ne hc] at e
      exact m.at_ c o e

/-! ### the frame's slots -/
abbrev Rho := List (Option D)
structure REnv (K : PySem.W.Frag) (H : Hp) (F : Addr → Prop) (σ : St) (ρ : Rho) : Prop where
  len : σ.length = ρ.length
  at_ : ∀ (i : Nat) (d : D), ρ[i]? = some (some d) → ∃ v, σ[i]? = some (some v) ∧ RD K H F v d
theorem REnv.stay {K H F H' F' σ ρ} (e : REnv K H F σ ρ) (st : Stay K H F H' F') : REnv K H' F' σ ρ :=
  ⟨e.len, fun i d h => let ⟨v, h1, h2⟩ := e.at_ i d h; ⟨v, h1, h2.stay st⟩⟩
theorem REnv.set {K H F σ ρ v d} (e : REnv K H F σ ρ) (i : Nat) (h : RD K H F v d) : REnv K H F (σ.set i (some v)) (ρ.set i (some d)) := by
  refine ⟨by rw [List.length_set, List.length_set]; exact e.len, fun j c q => ?_⟩
  by_cases hj : i = j
  · subst hj
    by_cases hl : i < ρ.length
    · rw [List.getElem?_set_self hl] at q
      cases q
      exact ⟨v, List.getElem?_set_self (by rw [e.len]; exact hl), h⟩
    · rw [List.getElem?_eq_none (by rw [List.length_set]; omega)] at q
      cases q
  · rw [List.getElem?_set_ne hj] at q
    obtain ⟨v', h1, h2⟩ := e.at_ j c q
    exact ⟨v', by rw [List.getElem?_set_ne hj]; exact h1, h2⟩

/-! ### judgements -/
def WE (X : Cx) (e : Expr) : TE := fun σ H Q => ∀ (pins : List (Addr × Obj)) (s : Shared), Inv X pins σ H s → wpAny (model X.prog X.w) X.A (eval e X.env) (EP X pins σ Q) X.xe s
theorem pe_we {X : Cx} {e : Expr} : PE X e (WE X e) := ⟨fun pins s σ H Q I h => h pins s I⟩
theorem we_of {X : Cx} {e : Expr} {t : TE} {σ H Q} (h : PE X e t) (q : t σ H Q) : WE X e σ H Q := fun pins s I => h.run pins s σ H Q I q
theorem WE.mono {X : Cx} {e : Expr} {σ H} {Q Q' : VK} (h : WE X e σ H Q) (m : ∀ v H', Q v H' → Q' v H') : WE X e σ H Q' :=
  fun pins s I => thn (h pins s I) fun u s' ⟨v, H', I', r, q⟩ => ⟨v, H', I', r, m v H' q⟩
def WA (X : Cx) (es : List Expr) : TA := fun σ H Q => ∀ (pos : Pos) (pins : List (Addr × Obj)) (s : Shared), Inv X pins σ H s → wpAny (model X.prog X.w) X.A (spliced (backTo pos (starEach es X.env))) (AP X pins σ Q) X.xe s
theorem pa_wa {X : Cx} {es : List Expr} : PA X es (WA X es) := ⟨fun pos pins s σ H Q I h => h pos pins s I⟩
theorem wa_of {X : Cx} {es : List Expr} {t : TA} {σ H Q} (h : PA X es t) (q : t σ H Q) : WA X es σ H Q := fun pos pins s I => h.run pos pins s σ H Q I q
theorem WA.mono {X : Cx} {es : List Expr} {σ H} {Q Q' : List V → Hp → Prop} (h : WA X es σ H Q) (m : ∀ v H', Q v H' → Q' v H') : WA X es σ H Q' :=
  fun pos pins s I => thn (h pos pins s I) fun u s' ⟨v, H', I', r, q⟩ => ⟨v, H', I', r, m v H' q⟩
def WT (X : Cx) (e : Expr) : TT := fun σ H Q => ∀ (pins : List (Addr × Obj)) (s : Shared), Inv X pins σ H s → wpAny (model X.prog X.w) X.A (isTrue e X.env (eval e X.env)) (TP X pins σ Q) X.xe s
theorem pt_wt {X : Cx} {e : Expr} : PT X e (WT X e) := ⟨fun pins s σ H Q I h => h pins s I⟩
theorem wt_of {X : Cx} {e : Expr} {t : TT} {σ H Q} (h : PT X e t) (q : t σ H Q) : WT X e σ H Q := fun pins s I => h.run pins s σ H Q I q
theorem WT.mono {X : Cx} {e : Expr} {σ H} {Q Q' : Bool → Hp → Prop} (h : WT X e σ H Q) (m : ∀ v H', Q v H' → Q' v H') : WT X e σ H Q' :=
  fun pins s I => thn (h pins s I) fun u s' ⟨H', I', q⟩ => ⟨H', I', m u H' q⟩

/-! ### exceptions -/
abbrev EK := Str → List (Str × D) → Mem → Prop
abbrev E0k : EK := fun _ _ _ => False
/-- what an exception's dict says -/
def Att (K : PySem.W.Frag) (H : Hp) (F : Addr → Prop) (d : Option Addr) (ds : List (Str × D)) : Prop :=
  (d = none ∧ ds = []) ∨ ∃ (p : Addr) (fs : List (Str × V)), d = some p ∧ H p = some (.xd fs) ∧ fs.map (·.1) = ds.map (·.1) ∧ RDs K H F (fs.map (·.2)) (ds.map (·.2))
def Wish (K : PySem.W.Frag) (mg : Str → Option Value) (H : Hp) (F : Addr → Prop) (μ : Mem) (EX : EK) : XK := fun cls d H' =>
  ∃ c ds F' μ', mg c = some cls ∧ Grow H F μ H' F' μ' ∧ MS K H' F' μ' ∧ Att K H' F' d ds ∧ EX c ds μ'
theorem Wish.pre {K mg H F μ H1 F1 μ1 EX cls d H'} (g : Grow H F μ H1 F1 μ1) (h : Wish K mg H1 F1 μ1 EX cls d H') : Wish K mg H F μ EX cls d H' :=
  let ⟨c, ds, F', μ', h1, g2, h3⟩ := h
  ⟨c, ds, F', μ', h1, g.trans g2, h3⟩
/-- the frame's slots, and what may be let out -/
structure RE (X : Cx) (EX : EK) (H : Hp) (F : Addr → Prop) (μ : Mem) (σ : St) (ρ : Rho) : Prop extends REnv X.K H F σ ρ where
  tk : TakesF X (fun cls d _ H' => Wish X.K X.mg H F μ EX cls d H')
theorem RE.on {X EX H F μ σ ρ H1 F1 μ1} (e : RE X EX H F μ σ ρ) (g : Grow H F μ H1 F1 μ1) (m : MS X.K H F μ) : RE X EX H1 F1 μ1 σ ρ :=
  ⟨e.toREnv.stay (g.stay m), e.tk.imp fun _ _ _ _ h => h.pre g⟩
theorem RE.to {X EX H F μ σ ρ H1 F1 μ1 σ1 ρ1} (e : RE X EX H F μ σ ρ) (g : Grow H F μ H1 F1 μ1) (e1 : REnv X.K H1 F1 σ1 ρ1) : RE X EX H1 F1 μ1 σ1 ρ1 := ⟨e1, e.tk.imp fun _ _ _ _ h => h.pre g⟩
theorem RE.set {X EX H F μ σ ρ v d} (e : RE X EX H F μ σ ρ) (i : Nat) (h : RD X.K H F v d) : RE X EX H F μ (σ.set i (some v)) (ρ.set i (some d)) := ⟨e.toREnv.set i h, e.tk⟩
theorem RE.no {X : Cx} {H F μ σ ρ} (e : REnv X.K H F σ ρ) : RE X E0k H F μ σ ρ := ⟨e, fun _ _ ⟨_, _, _, _, _, _, _, _, _, _, _, _, _, _, _, _, _, w⟩ => let ⟨_, _, _, _, _, _, _, _, z⟩ := w; z.elim⟩
abbrev DK := D → Mem → Prop
def Post (K : PySem.W.Frag) (H : Hp) (F : Addr → Prop) (μ : Mem) (Q : DK) : VK := fun v H' => ∃ d F' μ', Grow H F μ H' F' μ' ∧ MS K H' F' μ' ∧ RD K H' F' v d ∧ Q d μ'
theorem Post.pre {K H F μ H1 F1 μ1 Q v H'} (g : Grow H F μ H1 F1 μ1) (h : Post K H1 F1 μ1 Q v H') : Post K H F μ Q v H' :=
  let ⟨d, F', μ', g2, m, r, q⟩ := h
  ⟨d, F', μ', g.trans g2, m, r, q⟩
theorem Post.now {K H F μ} {Q : DK} {v d} (m : MS K H F μ) (r : RD K H F v d) (q : Q d μ) : Post K H F μ Q v H := ⟨d, F, μ, .refl, m, r, q⟩
def PostA (K : PySem.W.Frag) (H : Hp) (F : Addr → Prop) (μ : Mem) (Q : List D → Mem → Prop) : List V → Hp → Prop := fun vs H' => ∃ ds F' μ', Grow H F μ H' F' μ' ∧ MS K H' F' μ' ∧ RDs K H' F' vs ds ∧ Q ds μ'
def PostT (K : PySem.W.Frag) (H : Hp) (F : Addr → Prop) (μ : Mem) (Q : Bool → Mem → Prop) : Bool → Hp → Prop := fun b H' => ∃ F' μ', Grow H F μ H' F' μ' ∧ MS K H' F' μ' ∧ Q b μ'
def DE (X : Cx) (EX : EK) (e : Expr) (ρ : Rho) (μ : Mem) (Q : DK) : Prop := ∀ σ H F, RE X EX H F μ σ ρ → MS X.K H F μ → WE X e σ H (Post X.K H F μ Q)
def DA (X : Cx) (EX : EK) (es : List Expr) (ρ : Rho) (μ : Mem) (Q : List D → Mem → Prop) : Prop := ∀ σ H F, RE X EX H F μ σ ρ → MS X.K H F μ → WA X es σ H (PostA X.K H F μ Q)
def DT (X : Cx) (EX : EK) (e : Expr) (ρ : Rho) (μ : Mem) (Q : Bool → Mem → Prop) : Prop := ∀ σ H F, RE X EX H F μ σ ρ → MS X.K H F μ → WT X e σ H (PostT X.K H F μ Q)
section
variable {X : Cx} {EX : EK} {ρ : Rho} {μ : Mem}
theorem DA.nil {Q : List D → Mem → Prop} (h : Q [] μ) : DA X EX [] ρ μ Q := fun σ H F e m => wa_of pa_nil ⟨[], F, μ, .refl, m, .nil, h⟩
theorem DA.cons {a : Expr} {es : List Expr} {Q : List D → Mem → Prop} (hs : starEach (a :: es) X.env = (false, eval a X.env) :: starEach es X.env)
    (h : DE X EX a ρ μ fun d μ1 => DA X EX es ρ μ1 fun ds μ2 => Q (d :: ds) μ2) : DA X EX (a :: es) ρ μ Q := fun σ H F e m => by
  refine wa_of (pa_cons pe_we pa_wa hs) ?_
  refine (h σ H F e m).mono fun v H1 ⟨d, F1, μ1, g1, m1, r1, q1⟩ => ?_
  refine (q1 σ H1 F1 (e.on g1 m) m1).mono fun vs H2 ⟨ds, F2, μ2, g2, m2, r2, q2⟩ => ?_
  exact ⟨d :: ds, F2, μ2, g1.trans g2, m2, .cons (r1.stay (g2.stay m1)) r2, q2⟩
/-- a binary operator by its reading -/
def DOp (K : PySem.W.Frag) (r : R2) (R : D → D → Mem → DK → Prop) : Prop := ∀ H F μ v u x y Q, MS K H F μ → RD K H F v x → RD K H F u y → R x y μ Q → r v u H (Post K H F μ Q)
theorem seq2 {a b : Expr} {r : R2} {R : D → D → Mem → DK → Prop} {Q : DK} (hd : DOp X.K r R) (h : DE X EX a ρ μ fun x μ1 => DE X EX b ρ μ1 fun y μ2 => R x y μ2 Q) {σ H F} (e : REnv X.K H F σ ρ) (m : MS X.K H F μ) :
    tOp r (WE X a) (WE X b) σ H (Post X.K H F μ Q) → tOp r (WE X a) (WE X b) σ H (Post X.K H F μ Q) := id
end
end DL
/-! The programs of the data level: expressions E, statements S, what they want (wp), and how they lie over the syntax (chk). -/
namespace DL
open PySem PySem.Spec PyProof.Rows L2

/-! ### data as plain data; equality -/
mutual
def D.py : D → PyData
  | .non => .none
  | .bl b => .bool b
  | .int i => .int i
  | .str s => .str s
  | .tup l => .tuple (D.pys l)
  | .lst l => .list (D.pys l)
  | .lk l => .list (D.pys l)
  | .ref _ => .none
  | .emp => .none
  | .exc _ _ _ => .none
def D.pys : List D → List PyData
  | [] => []
  | d :: ds => d.py :: D.pys ds
end
mutual
/-- no object that may change; texts of code points -/
def D.ok : D → Bool
  | .non => true
  | .bl _ => true
  | .int _ => true
  | .str s => s.cps.all (· < 0x110000)
  | .tup l => D.oks l
  | .lst l => D.oks l
  | .lk l => D.oks l
  | .ref _ => false
  | .emp => false
  | .exc _ _ _ => false
def D.oks : List D → Bool
  | [] => true
  | d :: ds => d.ok && D.oks ds
end
mutual
def D.dep : D → Nat
  | .non => 0
  | .bl _ => 0
  | .int _ => 0
  | .str _ => 0
  | .tup l => D.deps l + 1
  | .lst l => D.deps l + 1
  | .lk l => D.deps l + 1
  | .ref _ => 0
  | .emp => 0
  | .exc _ _ _ => 0
def D.deps : List D → Nat
  | [] => 0
  | d :: ds => max d.dep (D.deps ds)
end
def D.eqv (x y : D) : Bool := PyData.eqv x.py y.py
/-- a list that may change as it stands -/
def res (μ : Mem) : D → D
  | .ref a => (match μ a with | some (.lst l) => .lst l | _ => .ref a)
  | d => d
def seqL (μ : Mem) : D → Option (List D)
  | .lst l => some l
  | .lk l => some l
  | .ref a => (match μ a with | some (.lst l) => some l | _ => none)
  | _ => none
/-- a list that is not locked -/
def seqP (μ : Mem) : D → Option (List D)
  | .lst l => some l
  | .ref a => (match μ a with | some (.lst l) => some l | _ => none)
  | _ => none
def seqA (μ : Mem) : D → Option (List D)
  | .tup l => some l
  | d => seqL μ d
/-- there is one, and it is so -/
def optD {α : Type} (o : Option α) (P : α → Prop) : Prop := match o with
  | some a => P a
  | none => False
theorem optD_ok {α : Type} {o : Option α} {P : α → Prop} (h : optD o P) : ∃ a, o = some a ∧ P a := by
  cases o with
  | none => exact False.elim h
  | some a => exact ⟨a, rfl, h⟩
@[simp] theorem optD_some {α : Type} {a : α} {P : α → Prop} : optD (some a) P = P a := rfl
@[simp] theorem optD_none {α : Type} {P : α → Prop} : optD none P = False := rfl
def D.isNon : D → Bool
  | .non => true
  | _ => false
def D.flat : D → Bool
  | .non => true
  | .bl _ => true
  | .int _ => true
  | .str _ => true
  | _ => false

/-! ### operators by data -/
inductive Op2 where | add | sub | mul | fdiv | mod | pow
  deriving DecidableEq
def Op2.op : Op2 → Operator
  | .add => .Add | .sub => .Sub | .mul => .Mult | .fdiv => .FloorDiv | .mod => .Mod | .pow => .Pow
inductive Cm where | eq | ne | lt | le | gt | ge | is | isnot | inn | notin
  deriving DecidableEq
def Cm.op : Cm → CmpOp
  | .eq => .Eq | .ne => .NotEq | .lt => .Lt | .le => .LtE | .gt => .Gt | .ge => .GtE | .is => .Is | .isnot => .IsNot | .inn => .In | .notin => .NotIn
def newL (z : Bool) (ds : List D) (μ : Mem) (Q : DK) : Prop := match z with
  | true => Q (.lst ds) μ
  | false => ∀ p, μ p = none → Q (.ref p) (mset μ p (.lst ds))
def addD (z : Bool) (x y : D) (μ : Mem) (Q : DK) : Prop := match x with
  | .int i => (match y with
    | .int j => Q (.int (i + j)) μ
    | .bl b => Q (.int (i + b2i b)) μ
    | _ => False)
  | .str a => (match y with
    | .str b => a.length + b.length ≤ 16777216 ∧ Q (.str (a ++ b)) μ
    | _ => False)
  | .tup a => (match y with
    | .tup b => a.length + b.length ≤ 16777216 ∧ Q (.tup (a ++ b)) μ
    | _ => False)
  | .lst a => optD (seqP μ y) fun b => a.length + b.length ≤ 16777216 ∧ newL z (a ++ b) μ Q
  | .ref p => optD (seqP μ (.ref p)) fun a => optD (seqP μ y) fun b => a.length + b.length ≤ 16777216 ∧ newL z (a ++ b) μ Q
  | _ => False
def mulD (x y : D) (μ : Mem) (Q : DK) : Prop := match x with
  | .int i => (match y with
    | .int j => CMul i j ∧ Q (.int (i * j)) μ
    | _ => False)
  | .tup a => (match y with
    | .int k => a ≠ [] ∧ 2 ≤ k ∧ k ≤ 1000 ∧ a.length ≤ 1000 ∧ Q (.tup (List.replicate k.toNat a).flatten) μ
    | _ => False)
  | .lst a => (match y with
    | .int k => a ≠ [] ∧ 2 ≤ k ∧ k ≤ 1000 ∧ a.length ≤ 1000 ∧ Q (.lst (List.replicate k.toNat a).flatten) μ
    | _ => False)
  | .str s => (match y with
    | .int k => (0 ≤ k ∧ k ≤ 1) ∧ Q (.str (if k = 1 then s else ⟨#[]⟩)) μ
    | _ => False)
  | _ => False
def int2 (C : Int → Int → Prop) (g : Int → Int → Int) (x y : D) (μ : Mem) (Q : DK) : Prop := match x with
  | .int i => (match y with
    | .int j => C i j ∧ Q (.int (g i j)) μ
    | _ => False)
  | _ => False
def binD (z : Bool) (o : Op2) (x y : D) (μ : Mem) (Q : DK) : Prop := match o with
  | .add => addD z x y μ Q
  | .sub => int2 (fun _ _ => True) (fun i j => i - j) x y μ Q
  | .mul => mulD x y μ Q
  | .fdiv => int2 CDiv (fun i j => i / j) x y μ Q
  | .mod => int2 (fun _ j => 0 < j) (fun i j => i % j) x y μ Q
  | .pow => int2 CPow (fun i j => i ^ j.toNat) x y μ Q
def eqD (x y : D) (μ : Mem) (q : Bool → Prop) : Prop := match x, y with
  | .int i, .int j => q (decide (i = j))
  | .str a, .str b => q (decide (a = b))
  | x, y => (res μ x).ok = true ∧ (res μ y).ok = true ∧ (res μ x).dep ≤ 64 ∧ (res μ y).dep ≤ 64 ∧ q ((res μ x).eqv (res μ y))
def ltD (p : Int → Int → Bool) (ps : Str → Str → Bool) (x y : D) (q : Bool → Prop) : Prop := match x with
  | .int i => (match y with
    | .int j => q (p i j)
    | _ => False)
  | .str i => (match y with
    | .str j => q (ps i j)
    | _ => False)
  | _ => False
def isD (y : D) (q : Prop) : Prop := match y with
  | .non => q
  | _ => False
def inD (x y : D) (μ : Mem) (q : Bool → Prop) : Prop := match y with
  | .str z => (match x with
    | .str c => (match c.cps.toList with
      | [n] => q (decide (n ∈ z.cps.toList))
      | _ => False)
    | _ => False)
  | .tup l => x.flat = true ∧ l.all D.flat = true ∧ q (l.any fun e => e.eqv x)
  | y => optD (seqL μ y) fun l => x.ok = true ∧ D.oks l = true ∧ x.dep ≤ 64 ∧ D.deps l < 64 ∧ q (l.any fun e => e.eqv x)
def cmpD (o : Cm) (x y : D) (μ : Mem) (q : Bool → Prop) : Prop := match o with
  | .eq => eqD x y μ q
  | .ne => eqD x y μ fun b => q (!b)
  | .lt => ltD (fun i j => decide (i < j)) (fun i j => decide (i.cps.toList < j.cps.toList)) x y q
  | .le => ltD (fun i j => decide (i ≤ j)) (fun i j => !decide (j.cps.toList < i.cps.toList)) x y q
  | .gt => ltD (fun i j => decide (j < i)) (fun i j => decide (j.cps.toList < i.cps.toList)) x y q
  | .ge => ltD (fun i j => decide (j ≤ i)) (fun i j => !decide (i.cps.toList < j.cps.toList)) x y q
  | .is => isD y (q x.isNon)
  | .isnot => isD y (q (!x.isNon))
  | .inn => inD x y μ q
  | .notin => inD x y μ fun b => q (!b)
def truD (x : D) (μ : Mem) (q : Bool → Prop) : Prop := match x with
  | .non => q false
  | .bl b => q b
  | .int i => q (i != 0)
  | .str s => s.length ≤ 16777216 ∧ q ((s.length : Int) != 0)
  | .tup l => q (!l.isEmpty)
  | .lst l => q (!l.isEmpty)
  | .lk l => q (!l.isEmpty)
  | .ref a => optD (seqL μ (.ref a)) fun l => q (!l.isEmpty)
  | .emp => False
  | .exc _ _ _ => False
def ixS (x : D) (k : Int) (μ : Mem) (Q : DK) : Prop := match x with
  | .str s => s.length ≤ 16777216 ∧ optD (atI s.cps.toList k) fun c => Q (.str ⟨#[c]⟩) μ
  | x => optD (seqA μ x) fun l => optD (atI l k) fun d => Q d μ
def ixD (x i : D) (μ : Mem) (Q : DK) : Prop := match i with
  | .int k => ixS x k μ Q
  | _ => False
/-- a part of a slice -/
def parD (x : D) (q : Option Int → Prop) : Prop := match x with
  | .int i => q (some i)
  | _ => False
def cutD (xs : List D) (lo hi : Option Int) : List D := (xs.drop (HT.sIx xs.length 0 lo)).take (HT.sIx xs.length xs.length hi - HT.sIx xs.length 0 lo)
def slD (z : Bool) (x : D) (lo hi : Option Int) (μ : Mem) (Q : DK) : Prop := match x with
  | .str s => s.length ≤ 16777216 ∧ Q (.str (cutS s lo hi)) μ
  | .tup l => Q (.tup (cutD l lo hi)) μ
  | x => optD (seqL μ x) fun l => newL z (cutD l lo hi) μ Q
def fzD (x : D) (μ : Mem) (Q : DK) : Prop := match x with
  | .ref a => optD (seqL μ (.ref a)) fun l => Q (.lst l) (mdel μ a)
  | x => Q x μ

/-! ### calls of built-ins by data -/
inductive Bi where | len | int | str | tuple | list | abs | max | min | divmod | sum | any | all
  deriving DecidableEq
def Bi.nm : Bi → Str
  | .len => "len" | .int => "int" | .str => "str" | .tuple => "tuple" | .list => "list" | .abs => "abs" | .max => "max" | .min => "min"
  | .divmod => "divmod" | .sum => "sum" | .any => "any" | .all => "all"
def asInts : List D → Option (List Int)
  | [] => some []
  | .int i :: r => (asInts r).map (i :: ·)
  | _ :: _ => none
def asBls : List D → Option (List Bool)
  | [] => some []
  | .bl i :: r => (asBls r).map (i :: ·)
  | _ :: _ => none
def asStrs : List D → Option (List Str)
  | [] => some []
  | .str i :: r => (asStrs r).map (i :: ·)
  | _ :: _ => none
def lenD (x : D) (μ : Mem) (Q : DK) : Prop := match x with
  | .str s => s.length ≤ 16777216 ∧ Q (.int s.length) μ
  | x => optD (seqA μ x) fun l => Q (.int l.length) μ
def intD (x : D) (μ : Mem) (Q : DK) : Prop := match x with
  | .int i => Q (.int i) μ
  | .bl b => Q (.int (if b then 1 else 0)) μ
  | .str s => s.length ≤ 640 ∧ optD (PySem.intText? s) fun n => Q (.int n) μ
  | _ => False
def strD (x : D) (μ : Mem) (Q : DK) : Prop := match x with
  | .int i => i.natAbs.log2 < 1920 ∧ Q (.str (toString i)) μ
  | .str s => Q (.str s) μ
  | .non => Q (.str "None") μ
  | _ => False
def tupleD (x : D) (μ : Mem) (Q : DK) : Prop := optD (seqA μ x) fun l => Q (.tup l) μ
/-- a text's signs -/
def chars (s : Str) : List D := s.cps.toList.map fun c => .str ⟨#[c]⟩
def listD (z : Bool) (x : D) (μ : Mem) (Q : DK) : Prop := match x with
  | .str s => s.length ≤ 16777216 ∧ newL z (chars s) μ Q
  | x => optD (seqA μ x) fun l => newL z l μ Q
def best1 (g : Int → Int → Prop) (x : D) (μ : Mem) (Q : DK) : Prop := optD (seqL μ x) fun l => optD (asInts l) fun ns => 0 < ns.length ∧ ∀ m, m ∈ ns → (∀ y, y ∈ ns → g y m) → Q (.int m) μ
def best2 (p : Int → Int → Bool) (x y : D) (μ : Mem) (Q : DK) : Prop := match x with
  | .int i => (match y with
    | .int j => Q (.int (if p j i then j else i)) μ
    | _ => False)
  | _ => False
def bestD (p : Int → Int → Bool) (g : Int → Int → Prop) (ds : List D) (μ : Mem) (Q : DK) : Prop := match ds with
  | [x] => best1 g x μ Q
  | [x, y] => best2 p x y μ Q
  | _ => False
def oneD (ds : List D) (p : D → Prop) : Prop := match ds with
  | [x] => p x
  | _ => False
def dmD (x y : D) (μ : Mem) (Q : DK) : Prop := match x with
  | .int i => (match y with
    | .int j => (0 < j ∧ j ≤ 2 ^ 256) ∧ Q (.tup [.int (i / j), .int (i % j)]) μ
    | _ => False)
  | _ => False
def absD (x : D) (μ : Mem) (Q : DK) : Prop := match x with
  | .int i => Q (.int (if i < 0 then -i else i)) μ
  | _ => False
def biD (z : Bool) (f : Bi) (ds : List D) (μ : Mem) (Q : DK) : Prop := match f with
  | .max => bestD (fun j i => decide (j > i)) (fun y m => y ≤ m) ds μ Q
  | .min => bestD (fun j i => decide (j < i)) (fun y m => m ≤ y) ds μ Q
  | .divmod => (match ds with
    | [x, y] => dmD x y μ Q
    | _ => False)
  | .len => oneD ds fun x => lenD x μ Q
  | .int => oneD ds fun x => intD x μ Q
  | .str => oneD ds fun x => strD x μ Q
  | .tuple => oneD ds fun x => tupleD x μ Q
  | .list => oneD ds fun x => listD z x μ Q
  | .abs => oneD ds fun x => absD x μ Q
  | .sum => oneD ds fun x => optD (seqL μ x) fun l => optD (asInts l) fun ns => Q (.int ns.sum) μ
  | .any => oneD ds fun x => optD (seqL μ x) fun l => optD (asBls l) fun bs => Q (.bl (bs.any id)) μ
  | .all => oneD ds fun x => optD (seqL μ x) fun l => optD (asBls l) fun bs => Q (.bl (bs.all id)) μ
/-- methods of texts that make a value -/
inductive Mt where | join | split
  deriving DecidableEq
def Mt.nm : Mt → Str
  | .join => "join" | .split => "split"
def strIs (x : D) : Prop := match x with
  | .str _ => True
  | _ => False
def joinD (a : Str) (y : D) (μ : Mem) (Q : DK) : Prop := optD (seqA μ y) fun l => optD (asStrs l) fun ys => (ys.map fun x => x.length).sum + ys.length * a.length ≤ 16777216 ∧ Q (.str (Txt.join a ys)) μ
def splitD (z : Bool) (a : Str) (y : D) (μ : Mem) (Q : DK) : Prop := match y with
  | .str b => (b.length == 0) = false ∧ a.length + 2 ≤ 16777216 ∧ newL z ((Txt.split a b).map D.str) μ Q
  | _ => False
def mtD (z : Bool) (m : Mt) (x : D) (ds : List D) (μ : Mem) (Q : DK) : Prop := match x with
  | .str a => (match m with
    | .join => oneD ds fun y => joinD a y μ Q
    | .split => oneD ds fun y => splitD z a y μ Q)
  | _ => False
/-- what texts are asked by a text -/
inductive Sq where | index | find | count
  deriving DecidableEq
def Sq.nm : Sq → Str
  | .index => "index" | .find => "find" | .count => "count"
def sqD (m : Sq) (x y : D) (μ : Mem) (Q : DK) : Prop := match x with
  | .str a => (match y with
    | .str b => (match m with
      | .index => optD (Builtin.Str.occurrences a b 0 a.length 1).head? fun i => Q (.int (i : Nat)) μ
      | .find => Q (.int (Txt.find a b)) μ
      | .count => Q (.int (Txt.count a b)) μ)
    | _ => False)
  | _ => False
/-- list.count, by data -/
def cntD (x d : D) (μ : Mem) (Q : DK) : Prop := optD (seqL μ x) fun l => d.ok = true ∧ D.oks l = true ∧ d.dep ≤ 64 ∧ D.deps l < 64 ∧ Q (.int ((l.countP fun e => e.eqv d : Nat) : Int)) μ
/-- str.split with a limit -/
def spmD (z : Bool) (x d k : D) (μ : Mem) (Q : DK) : Prop := match x with
  | .str a => (match d with
    | .str b => (match k with
      | .int k => (b.length == 0) = false ∧ (-(2 ^ 63) ≤ k ∧ k < 2 ^ 63) ∧ a.length + 2 ≤ 16777216 ∧ newL z ((Txt.splitMax a b k).map D.str) μ Q
      | _ => False)
    | _ => False)
  | _ => False
/-- repr of a tuple -/
def rprD (x : D) (μ : Mem) (Q : DK) : Prop := match x with
  | .tup l => (D.tup l).ok = true ∧ (D.tup l).dep ≤ 64 ∧ (D.tup l).py.showable = true ∧ (D.tup l).py.shown.length ≤ 16777216 ∧ Q (.str (D.tup l).py.shown) μ
  | _ => False
/-- the last two of some items: text + literal, text.replace(literal, literal) -/
def addOk (x : D) (l : Str) : Prop := match x with
  | .str s => s.length + l.length ≤ 16777216
  | _ => False
def rep2D (x : D) (l : Str) (v : D) (y z : Str) (q : List D → Prop) : Prop := match x with
  | .str s => (match v with
    | .str t => t.length + (t.length + 1) * z.length ≤ 16777216 ∧ q [.str (s ++ l), .str (Txt.replace t y z)]
    | _ => False)
  | _ => False
/-- types for isinstance -/
inductive Ty where | int | bool | str | tuple | list
  deriving DecidableEq
def Ty.nm : Ty → Str
  | .int => "int" | .bool => "bool" | .str => "str" | .tuple => "tuple" | .list => "list"
def Ty.nmS : Ty → String
  | .int => "int" | .bool => "bool" | .str => "str" | .tuple => "tuple" | .list => "list"
/-- its type is known -/
def isiOk (x : D) (μ : Mem) : Prop := match x with
  | .exc _ _ _ => False
  | .ref a => optD (seqL μ (.ref a)) fun _ => True
  | _ => True
def isiD (x : D) (t : Ty) : Bool := match x, t with
  | .int _, .int => true
  | .bl _, .int => true
  | .bl _, .bool => true
  | .str _, .str => true
  | .tup _, .tuple => true
  | .lst _, .list => true
  | .lk _, .list => true
  | .ref _, .list => true
  | _, _ => false

/-! ### programs -/
mutual
inductive E
  | v (i : Nat) | g (x : Str) | non | bl (b : Bool) | int (i : Int) | str (s : Str)
  | bin (z : Bool) (o : Op2) (a b : E) | neg (a : E)
  | cmp (o : Cm) (a b : E) | chain (o o' : Cm) (a b c : E)
  | and (a b : E) | or (a b : E) | not (a : E)
  | ite (t : Te) (a b : E)
  | tup (es : Es) | lst (z : Bool) (es : Es)
  | ix (a i : E) | sl (z : Bool) (a : E) (lo hi : Eo)
  | lc (z : Bool) (tg : T) (it : It) (cs : Tes) (elt : E)
  | call (f : Str) (es : Es)
  | bi (z : Bool) (f : Bi) (es : Es)
  | isi (a : E) (t : Ty)
  | mt (z : Bool) (m : Mt) (o e : E)
  | fz (a : E)
  | sset (z : Bool) (a : E) | nset (a : E)
  | pt (a : E) | shut (i : Nat) (a : E) | drop (is : List Nat) (a : E)
  | emp
  | sq (m : Sq) (o e : E) | popE (o : E) | popI (o i : E)
  | cnt (o e : E) | spm (z : Bool) (o a b : E) | rpr (a : E)
  | lax (is : List Nat) (a : E)
  | mkx1 (c : Str) (a : E) | mkx (c : Str) (es : Es) | isx (a : E) (c : Str) | atx (a : E) (f : Str)
inductive Es
  | nil | cons (e : E) (es : Es) | rep2 (a : E) (l : Str) (o : E) (y z : Str)
inductive Eo
  | no | one (e : E)
/-- tests -/
inductive Te
  | val (e : E) | cm (o : Cm) (a b : E) | and (a b : Te) | or (a b : Te) | not (a : Te)
inductive Tes
  | nil | one (t : Te)
/-- what a loop walks -/
inductive It
  | seq (e : E) | range1 (a : E) | range2 (a b : E) | enum (a : E) | zip (a b : E) | rev (a : E)
/-- targets -/
inductive T
  | v (i : Nat) | tup (ts : Ts)
inductive Ts
  | nil | cons (t : T) (ts : Ts)
end
/-! except suites -/
mutual
inductive HX
  | non | bl (b : Bool) | str (s : Str) | at (f : Str) | tup (es : HXs) | ite (t : HT) (a b : HX)
inductive HXs
  | nil | cons (e : HX) (es : HXs)
inductive HT
  | isi (c : Str) | not (a : HT) | and (a b : HT) | or (a b : HT)
end
mutual
inductive HS
  | ret (e : HX) | retN | set (i : Nat) (e : HX) | ite (t : HT) (a b : HSs)
inductive HSs
  | nil | cons (s : HS) (ss : HSs)
end
mutual
inductive S
  | set (i : Nat) (e : E)
  | asg (t : T) (e : E)
  | par (i j : Nat) (a b : E)
  | setIx (o i e : E)
  | setIx2 (o i : E) (j : Nat) (e : E)
  | aug (i : Nat) (o : Op2) (e : E)
  | expr (e : E)
  | app (o e : E)
  | pop (o : E) | ins (o i e : E)
  | ext (o e : E)
  | clear (o : E)
  | ret (e : E) | retN
  | ite (t : Te) (a b : Ss)
  | for_ (ws : List Nat) (t : T) (it : It) (b : Ss)
  | while_ (ws : List Nat) (t : Te) (b : Ss)
  | pass | brk | cont
  | never
  | opn (i : Nat)
  | drp (is : List Nat)
  | raise (c s : Str) | raiseI (c : Str) (es : Es)
  | tryAs (b : Ss) (c : Str) (i : Nat) (h : HSs) | try_ (b : Ss) (c : Str) (h : HSs)
inductive Ss
  | nil | cons (s : S) (ss : Ss)
end
mutual
def T.slots : T → List Nat
  | .v i => [i]
  | .tup ts => Ts.slots ts
def Ts.slots : Ts → List Nat
  | .nil => []
  | .cons t ts => T.slots t ++ Ts.slots ts
end

/-! ### what a program wants -/
def getV : Rho → Nat → (D → Prop) → Prop
  | [], _, _ => False
  | o :: _, 0, k => (match o with
    | some d => k d
    | none => False)
  | _ :: r, i + 1, k => getV r i k
/-- an exception: its class's name, what it holds -/
abbrev FSpec := List D → Mem → DK → EK → Prop
/-- what is known of the classes of exceptions: those made with a text; those with an own __init__: what they hold by what they are made of; whether one's instance is one of another class; what an instance's fields may be called -/
structure ExI where
  exs : Str → Bool
  exi : Str → Option (List D → Option (List (Str × D)))
  sub : Str → Str → Option Bool
  fld : Str → Str → Bool
  /-- those that may stand as values: with a text; or with two fields, by an own __init__ (that puts a text of so many signs ahead of the second one, or doesn't) -/
  exv : Str → Option (Option (Str × Str × Option Nat)) := fun _ => none
def ExI.none : ExI := { exs := fun _ => false, exi := fun _ => Option.none, sub := fun _ _ => Option.none, fld := fun _ _ => false }
structure Gc where
  has : Str → Bool
  fn : Str → FSpec
  cst : Str → Option D
  ex : ExI
  /-- nothing is being told (repr) around -/
  grd : Bool := false
structure DEnds where
  nx : Rho → Mem → Prop
  rt : DK
  bk : Rho → Mem → Prop := fun _ _ => False
  ct : Rho → Mem → Prop := fun _ _ => False
def wipeR (ρ : Rho) : List Nat → Rho
  | [] => ρ
  | v :: vs => (wipeR ρ vs).set v none
def wipeK (ws : List Nat) (K : DEnds) : DEnds := { nx := fun ρ μ => K.nx (wipeR ρ ws) μ, rt := K.rt, bk := fun ρ μ => K.bk (wipeR ρ ws) μ, ct := fun ρ μ => K.ct (wipeR ρ ws) μ }
def gOk (g : Option Nat) (d : D) : Prop := match g with
  | none => True
  | some n => match d with
    | .str t => n + t.length ≤ sizeLine
    | _ => False
def mkxD (c : Str) (x : Option (Str × Str × Option Nat)) (ds : List D) (μ : Mem) (Q : DK) : Prop := match x with
  | none => False
  | some (f1, f2, g) => (match ds with
    | [d1, d2] => gOk g d2 ∧ Q (.exc c [f2, f1] [d2, d1]) μ
    | _ => False)
def isxD (ex : ExI) (x : D) (t : Str) (q : Bool → Prop) : Prop := match x with
  | .exc c _ _ => (ex.exv c).isSome = true ∧ optD (ex.sub c t) q
  | _ => False
def atxD (ex : ExI) (x : D) (f : Str) (q : D → Prop) : Prop := match x with
  | .exc c ns ds => (ex.exv c).isSome = true ∧ ex.fld c f = true ∧ optD ((ns.zip ds).lookup f) q
  | _ => False
/-- a comprehension over items: ok says that the source stands still -/
def LC (items : List D) (μ : Mem) (ok : Mem → Prop) (step : D → Mem → (Option D → Mem → Prop) → Prop) (Q : List D → Mem → Prop) : Prop :=
  ∃ I : List D → List D → Mem → Prop, I items [] μ ∧
    (∀ x xs acc μ, I (x :: xs) acc μ → ok μ ∧ step x μ fun o μ' => match o with
      | some d => acc.length < 16777216 ∧ I xs (acc ++ [d]) μ'
      | none => I xs acc μ') ∧
    ∀ acc μ, I [] acc μ → ok μ ∧ Q acc μ
/-- a loop over items -/
def LP (items : List D) (ρ : Rho) (μ : Mem) (ok : Mem → Prop) (step : D → Rho → Mem → DEnds → Prop) (D₀ : DEnds) : Prop :=
  ∃ I : List D → Rho → Mem → Prop, I items ρ μ ∧
    (∀ x xs ρ μ, I (x :: xs) ρ μ → ok μ ∧ step x ρ μ { nx := I xs, ct := I xs, bk := D₀.nx, rt := D₀.rt }) ∧
    ∀ ρ μ, I [] ρ μ → ok μ ∧ D₀.nx ρ μ
/-- a while -/
def LW (ρ : Rho) (μ : Mem) (test : Rho → Mem → (Bool → Mem → Prop) → Prop) (body : Rho → Mem → DEnds → Prop) (D₀ : DEnds) : Prop :=
  ∃ I : Nat → Rho → Mem → Prop, (∃ m, I m ρ μ) ∧
    ∀ m ρ μ, I m ρ μ → test ρ μ fun b μ' => if b = true then body ρ μ' { nx := fun ρ μ => ∃ m', m' < m ∧ I m' ρ μ, ct := fun ρ μ => ∃ m', m' < m ∧ I m' ρ μ, bk := D₀.nx, rt := D₀.rt } else D₀.nx ρ μ'
def intsR (lo : Int) (n : Nat) : List D := (List.range n).map fun i => .int (lo + (i : Nat))
def seqIt (x : D) (μ : Mem) (R : List D → (Mem → Prop) → Mem → Prop) : Prop := match x with
  | .str s => R (chars s) (fun _ => True) μ
  | .ref a => optD (seqL μ (.ref a)) fun l => R l (fun μ' => seqL μ' (.ref a) = some l) μ
  | .lst l => R l (fun _ => True) μ
  | .lk l => R l (fun _ => True) μ
  | .tup l => R l (fun _ => True) μ
  | _ => False
def rng1 (x : D) (μ : Mem) (R : List D → (Mem → Prop) → Mem → Prop) : Prop := match x with
  | .int j => -(2 ^ 62) ≤ j ∧ j < 2 ^ 62 ∧ R (intsR 0 j.toNat) (fun _ => True) μ
  | _ => False
def rng2 (x y : D) (μ : Mem) (R : List D → (Mem → Prop) → Mem → Prop) : Prop := match x with
  | .int i => (match y with
    | .int j => (-(2 ^ 62) ≤ i ∧ i < 2 ^ 62 ∧ -(2 ^ 62) ≤ j ∧ j < 2 ^ 62) ∧ R (intsR i (j - i).toNat) (fun _ => True) μ
    | _ => False)
  | _ => False

/-- the object that a slot holds -/
def refAt : Rho → Nat → Option Addr
  | [], _ => none
  | some (.ref a) :: _, 0 => some a
  | _ :: _, 0 => none
  | _ :: r, i + 1 => refAt r i
def mdelO (μ : Mem) (o : Option Addr) : Mem := match o with
  | some a => mdel μ a
  | none => μ
def dropM (ρ : Rho) : List Nat → Mem → Mem
  | [], μ => μ
  | i :: is, μ => dropM ρ is (mdelO μ (refAt ρ i))
/-- a pot is closed: its two numbers are not told any more -/
def shutD (y : D) (μ : Mem) (k : Mem → Prop) : Prop := match y with
  | .ref a => optD (seqL μ (.ref a)) fun l => (match l with
    | .int p :: .int q :: r => (0 ≤ p ∧ 0 ≤ q ∧ q < 2147483648) ∧ k (mset μ a (.pot r))
    | _ => False)
  | _ => False
def potOf (μ : Mem) (a : Addr) : Option (List D) := match μ a with
  | some (.pot l) => some l
  | _ => none
def openD (y : D) (μ : Mem) (k : Mem → Prop) : Prop := match y with
  | .ref a => optD (potOf μ a) fun r => ∀ p q : Int, 0 ≤ p → 0 ≤ q → q < 2147483648 → k (mset μ a (.lst (.int p :: .int q :: r)))
  | _ => False
/-- a sequence that stands still while it is walked -/
def stillIt (x : D) (μ : Mem) (g : List D → (Mem → Prop) → Prop) : Prop := match x with
  | .ref a => optD (seqL μ (.ref a)) fun l => g l (fun μ' => seqL μ' (.ref a) = some l)
  | .lst l => g l (fun _ => True)
  | .lk l => g l (fun _ => True)
  | .tup l => g l (fun _ => True)
  | _ => False
def numb (l : List D) : List D := (List.range l.length).zipWith (fun i d => .tup [.int (i : Nat), d]) l
def pairs (l m : List D) : List D := l.zipWith (fun a b => .tup [a, b]) m
def enumIt (x : D) (μ : Mem) (R : List D → (Mem → Prop) → Mem → Prop) : Prop := match x with
  | .str s => R (numb (chars s)) (fun _ => True) μ
  | x => stillIt x μ fun l ok => R (numb l) ok μ
def zipIt (x y : D) (μ : Mem) (R : List D → (Mem → Prop) → Mem → Prop) : Prop := stillIt x μ fun l ok => stillIt y μ fun m ok2 => R (pairs l m) (fun μ' => ok μ' ∧ ok2 μ') μ
def revIt (x : D) (μ : Mem) (R : List D → (Mem → Prop) → Mem → Prop) : Prop := stillIt x μ fun l ok => R l.reverse ok μ
/-- sorted(set(x)): of whole numbers, of texts -/
def ltS (a b : Str) : Prop := a.cps.toList < b.cps.toList
def ssetD (z : Bool) (x : D) (μ : Mem) (Q : DK) : Prop := optD (seqA μ x) fun l => l.length ≤ 1000 ∧
  ((∃ ns, asInts l = some ns ∧ ∀ ms : List Int, ms.Pairwise (· < ·) → (∀ k, k ∈ ms ↔ k ∈ ns) → newL z (ms.map D.int) μ Q) ∨
   (∃ ns, asStrs l = some ns ∧ ∀ ms : List Str, ms.Pairwise ltS → (∀ k, k ∈ ms ↔ k ∈ ns) → newL z (ms.map D.str) μ Q))
/-- len(set(x)) -/
def nsetD (x : D) (μ : Mem) (Q : DK) : Prop := optD (seqA μ x) fun l => l.length ≤ 1000 ∧
  ((∃ ns, asInts l = some ns ∧ ∀ ms : List Int, ms.Nodup → (∀ k, k ∈ ms ↔ k ∈ ns) → Q (.int ms.length) μ) ∨
   (∃ ns, asStrs l = some ns ∧ ∀ ms : List Str, ms.Nodup → (∀ k, k ∈ ms ↔ k ∈ ns) → Q (.int ms.length) μ))

def intK (d : D) (k : Int → Prop) : Prop := match d with
  | .int i => k i
  | _ => False
/-- o[i] = e, by data -/
def chg (o : D) (μ : Mem) (f : Addr → List D → Prop) : Prop := match o with
  | .ref a => optD (seqL μ (.ref a)) fun l => f a l
  | _ => False
mutual
def wpTg : T → D → Rho → Mem → (Rho → Mem → Prop) → Prop
  | .v i, d, ρ, μ, Q => Q (ρ.set i (some d)) μ
  | .tup ts, d, ρ, μ, Q => (match d with
    | .tup ds => wpTgs ts ds ρ μ Q
    | .lst ds => wpTgs ts ds ρ μ Q
    | _ => False)
def wpTgs : Ts → List D → Rho → Mem → (Rho → Mem → Prop) → Prop
  | .nil, ds, ρ, μ, Q => ds = [] ∧ Q ρ μ
  | .cons t ts, ds, ρ, μ, Q => (match ds with
    | d :: r => wpTg t d ρ μ fun ρ' μ' => wpTgs ts r ρ' μ' Q
    | [] => False)
end
mutual
def wp (G : Gc) : E → Rho → Mem → DK → EK → Prop
  | .v i, ρ, μ, Q, _ => getV ρ i fun d => Q d μ
  | .g x, _, μ, Q, _ => optD (G.cst x) fun d => Q d μ
  | .non, _, μ, Q, _ => Q .non μ
  | .bl b, _, μ, Q, _ => Q (.bl b) μ
  | .int i, _, μ, Q, _ => Q (.int i) μ
  | .str s, _, μ, Q, _ => Q (.str s) μ
  | .bin z o a b, ρ, μ, Q, X => wp G a ρ μ (fun x μ1 => wp G b ρ μ1 (fun y μ2 => binD z o x y μ2 Q) X) X
  | .neg a, ρ, μ, Q, X => wp G a ρ μ (fun x μ1 => match x with | .int i => Q (.int (-i)) μ1 | _ => False) X
  | .cmp o a b, ρ, μ, Q, X => wp G a ρ μ (fun x μ1 => wp G b ρ μ1 (fun y μ2 => cmpD o x y μ2 fun c => Q (.bl c) μ2) X) X
  | .chain o o' a b c, ρ, μ, Q, X => wp G a ρ μ (fun x μ1 => wp G b ρ μ1 (fun y μ2 => cmpD o x y μ2 fun k =>
      if k = true then wp G c ρ μ2 (fun z μ3 => cmpD o' y z μ3 fun k' => Q (.bl k') μ3) X else Q (.bl false) μ2) X) X
  | .and a b, ρ, μ, Q, X => wp G a ρ μ (fun x μ1 => truD x μ1 fun c => if c = true then wp G b ρ μ1 Q X else Q x μ1) X
  | .or a b, ρ, μ, Q, X => wp G a ρ μ (fun x μ1 => truD x μ1 fun c => if c = true then Q x μ1 else wp G b ρ μ1 Q X) X
  | .not a, ρ, μ, Q, X => wp G a ρ μ (fun x μ1 => truD x μ1 fun c => Q (.bl (!c)) μ1) X
  | .ite t a b, ρ, μ, Q, X => wpT G t ρ μ (fun c μ1 => if c = true then wp G a ρ μ1 Q X else wp G b ρ μ1 Q X) X
  | .tup es, ρ, μ, Q, X => wps G es ρ μ (fun ds μ1 => ds.length ≤ 16777216 ∧ Q (.tup ds) μ1) X
  | .lst z es, ρ, μ, Q, X => wps G es ρ μ (fun ds μ1 => ds.length ≤ 16777216 ∧ newL z ds μ1 Q) X
  | .ix a i, ρ, μ, Q, X => wp G a ρ μ (fun x μ1 => wp G i ρ μ1 (fun y μ2 => ixD x y μ2 Q) X) X
  | .sl z a lo hi, ρ, μ, Q, X => wp G a ρ μ (fun x μ1 => wpO G lo ρ μ1 (fun l μ2 => wpO G hi ρ μ2 (fun h μ3 => slD z x l h μ3 Q) X) X) X
  | .lc z tg it cs elt, ρ, μ, Q, X => wpI G it ρ μ (fun items ok μ1 => LC items μ1 ok (fun x μ2 R =>
      wpTg tg x (wipeR ρ tg.slots) μ2 fun ρ' μ3 => wpTs G cs ρ' μ3 (fun b μ4 => if b = true then wp G elt ρ' μ4 (fun d μ5 => R (some d) μ5) X else R none μ4) X)
      fun acc μ2 => newL z acc μ2 Q) X
  | .call f es, ρ, μ, Q, X => wps G es ρ μ (fun ds μ1 => G.fn f ds μ1 Q X) X
  | .bi z f es, ρ, μ, Q, X => wps G es ρ μ (fun ds μ1 => biD z f ds μ1 Q) X
  | .isi a t, ρ, μ, Q, X => wp G a ρ μ (fun x μ1 => isiOk x μ1 ∧ Q (.bl (isiD x t)) μ1) X
  | .mt z m o e, ρ, μ, Q, X => wp G o ρ μ (fun x μ1 => strIs x ∧ wp G e ρ μ1 (fun d μ2 => mtD z m x [d] μ2 Q) X) X
  | .fz a, ρ, μ, Q, X => wp G a ρ μ (fun x μ1 => fzD x μ1 Q) X
  | .sset z a, ρ, μ, Q, X => wp G a ρ μ (fun x μ1 => ssetD z x μ1 Q) X
  | .nset a, ρ, μ, Q, X => wp G a ρ μ (fun x μ1 => nsetD x μ1 Q) X
  | .pt a, ρ, μ, Q, X => wp G a ρ μ (fun x μ1 => shutD x μ1 fun μ2 => Q x μ2) X
  | .lax is a, ρ, μ, Q, X => wp G a ρ μ Q (fun c ds μ' => X c ds (dropM ρ is μ'))
  | .drop is a, ρ, μ, Q, X => wp G a ρ μ (fun x μ1 => Q x (dropM ρ is μ1)) X
  | .emp, _, μ, Q, _ => Q .emp μ
  | .sq m o e, ρ, μ, Q, X => wp G o ρ μ (fun x μ1 => strIs x ∧ wp G e ρ μ1 (fun d μ2 => sqD m x d μ2 Q) X) X
  | .popE o, ρ, μ, Q, X => wp G o ρ μ (fun x μ1 => chg x μ1 fun a l => optD l.getLast? fun d => Q d (mset μ1 a (.lst l.dropLast))) X
  | .popI o i, ρ, μ, Q, X => wp G o ρ μ (fun x μ1 => (∃ l, seqL μ1 x = some l) ∧ wp G i ρ μ1 (fun k μ2 => intK k fun k => chg x μ2 fun a l => (-9223372036854775808 ≤ k ∧ k < 9223372036854775808) ∧ optD (seqIndex? k l.length) fun j => optD l[j]? fun d => Q d (mset μ2 a (.lst (l.eraseIdx j)))) X) X
  | .cnt o e, ρ, μ, Q, X => wp G o ρ μ (fun x μ1 => (∃ l, seqL μ1 x = some l) ∧ wp G e ρ μ1 (fun d μ2 => cntD x d μ2 Q) X) X
  | .spm z o a b, ρ, μ, Q, X => wp G o ρ μ (fun x μ1 => strIs x ∧ wp G a ρ μ1 (fun d μ2 => wp G b ρ μ2 (fun k μ3 => spmD z x d k μ3 Q) X) X) X
  | .rpr a, ρ, μ, Q, X => G.grd = true ∧ wp G a ρ μ (fun x μ1 => rprD x μ1 Q) X
  | .mkx1 c a, ρ, μ, Q, X => G.ex.exv c = some none ∧ wp G a ρ μ (fun _ μ1 => Q (.exc c [] []) μ1) X
  | .mkx c es, ρ, μ, Q, X => optD (G.ex.exv c) fun x => optD x fun y => wps G es ρ μ (fun ds μ1 => mkxD c (some y) ds μ1 Q) X
  | .isx a t, ρ, μ, Q, X => wp G a ρ μ (fun x μ1 => isxD G.ex x t fun b => Q (.bl b) μ1) X
  | .atx a f, ρ, μ, Q, X => wp G a ρ μ (fun x μ1 => atxD G.ex x f fun d => Q d μ1) X
  | .shut i a, ρ, μ, Q, X => wp G a ρ μ (fun x μ1 => getV ρ i fun y => shutD y μ1 fun μ2 => Q x μ2) X
def wps (G : Gc) : Es → Rho → Mem → (List D → Mem → Prop) → EK → Prop
  | .nil, _, μ, Q, _ => Q [] μ
  | .cons e es, ρ, μ, Q, X => wp G e ρ μ (fun d μ1 => wps G es ρ μ1 (fun ds μ2 => Q (d :: ds) μ2) X) X
  | .rep2 a l o y z, ρ, μ, Q, X => wp G a ρ μ (fun x μ1 => addOk x l ∧ wp G o ρ μ1 (fun v μ2 => rep2D x l v y z fun ds => Q ds μ2) X) X
def wpO (G : Gc) : Eo → Rho → Mem → (Option Int → Mem → Prop) → EK → Prop
  | .no, _, μ, Q, _ => Q none μ
  | .one e, ρ, μ, Q, X => wp G e ρ μ (fun d μ1 => parD d fun i => Q i μ1) X
def wpT (G : Gc) : Te → Rho → Mem → (Bool → Mem → Prop) → EK → Prop
  | .val e, ρ, μ, Q, X => wp G e ρ μ (fun x μ1 => truD x μ1 fun c => Q c μ1) X
  | .cm o a b, ρ, μ, Q, X => wp G a ρ μ (fun x μ1 => wp G b ρ μ1 (fun y μ2 => cmpD o x y μ2 fun c => Q c μ2) X) X
  | .and a b, ρ, μ, Q, X => wpT G a ρ μ (fun c μ1 => if c = true then wpT G b ρ μ1 Q X else Q false μ1) X
  | .or a b, ρ, μ, Q, X => wpT G a ρ μ (fun c μ1 => if c = true then Q true μ1 else wpT G b ρ μ1 Q X) X
  | .not a, ρ, μ, Q, X => wpT G a ρ μ (fun c μ1 => Q (!c) μ1) X
def wpTs (G : Gc) : Tes → Rho → Mem → (Bool → Mem → Prop) → EK → Prop
  | .nil, _, μ, Q, _ => Q true μ
  | .one t, ρ, μ, Q, X => wpT G t ρ μ Q X
def wpI (G : Gc) : It → Rho → Mem → (List D → (Mem → Prop) → Mem → Prop) → EK → Prop
  | .seq e, ρ, μ, R, X => wp G e ρ μ (fun x μ1 => seqIt x μ1 R) X
  | .range1 a, ρ, μ, R, X => wp G a ρ μ (fun x μ1 => rng1 x μ1 R) X
  | .range2 a b, ρ, μ, R, X => wp G a ρ μ (fun x μ1 => wp G b ρ μ1 (fun y μ2 => rng2 x y μ2 R) X) X
  | .enum a, ρ, μ, R, X => wp G a ρ μ (fun x μ1 => enumIt x μ1 R) X
  | .zip a b, ρ, μ, R, X => wp G a ρ μ (fun x μ1 => wp G b ρ μ1 (fun y μ2 => zipIt x y μ2 R) X) X
  | .rev a, ρ, μ, R, X => wp G a ρ μ (fun x μ1 => revIt x μ1 R) X
end
def setD (o i e : D) (μ : Mem) (Q : Mem → Prop) : Prop := chg o μ fun a l => match i with
  | .int k => optD (ixN l.length k) fun j => Q (mset μ a (.lst (l.set j e)))
  | _ => False
/-- what is caught -/
structure Cau where
  sub : Str → Option Bool
  fld : Str → Bool
  fs : List (Str × D)
mutual
def hX (c : Cau) : HX → Option D
  | .non => some .non
  | .bl b => some (.bl b)
  | .str s => some (.str s)
  | .at f => if c.fld f = true then c.fs.lookup f else none
  | .tup es => (hXs c es).map .tup
  | .ite t a b => match hT c t with
    | some true => hX c a
    | some false => hX c b
    | none => none
def hXs (c : Cau) : HXs → Option (List D)
  | .nil => some []
  | .cons e es => match hX c e with
    | some d => (hXs c es).map (d :: ·)
    | none => none
def hT (c : Cau) : HT → Option Bool
  | .isi x => c.sub x
  | .not a => (hT c a).map (!·)
  | .and a b => match hT c a with
    | some true => hT c b
    | o => o
  | .or a b => match hT c a with
    | some false => hT c b
    | o => o
end
mutual
def wpH (c : Cau) : HS → Rho → Mem → DEnds → Prop
  | .ret e, _, μ, K => optD (hX c e) fun d => K.rt d μ
  | .retN, _, μ, K => K.rt .non μ
  | .set i e, ρ, μ, K => optD (hX c e) fun d => K.nx (ρ.set i (some d)) μ
  | .ite t a b, ρ, μ, K => optD (hT c t) fun v => if v = true then wpHs c a ρ μ K else wpHs c b ρ μ K
def wpHs (c : Cau) : HSs → Rho → Mem → DEnds → Prop
  | .nil, ρ, μ, K => K.nx ρ μ
  | .cons s ss, ρ, μ, K => wpH c s ρ μ { K with nx := fun ρ' μ' => wpHs c ss ρ' μ' K }
end
def blankR (ρ : Rho) : Rho := List.replicate ρ.length none
mutual
def wpS (G : Gc) : S → Rho → Mem → DEnds → EK → Prop
  | .set i e, ρ, μ, K, X => wp G e ρ μ (fun d μ1 => K.nx (ρ.set i (some d)) μ1) X
  | .asg t e, ρ, μ, K, X => wp G e ρ μ (fun d μ1 => wpTg t d ρ μ1 K.nx) X
  | .par i j a b, ρ, μ, K, X => wp G a ρ μ (fun x μ1 => wp G b ρ μ1 (fun y μ2 => K.nx ((ρ.set i (some x)).set j (some y)) μ2) X) X
  | .setIx o i e, ρ, μ, K, X => wp G e ρ μ (fun d μ1 => wp G o ρ μ1 (fun x μ2 => wp G i ρ μ2 (fun k μ3 => setD x k d μ3 fun μ4 => K.nx ρ μ4) X) X) X
  | .setIx2 o i j e, ρ, μ, K, X => wp G e ρ μ (fun d μ1 => match d with
    | .tup [d1, d2] => wp G o ρ μ1 (fun x μ2 => wp G i ρ μ2 (fun k μ3 => setD x k d1 μ3 fun μ4 => K.nx (ρ.set j (some d2)) μ4) X) X
    | _ => False) X
  | .aug i o e, ρ, μ, K, X => getV ρ i fun x => intK x fun a => wp G e ρ μ (fun y μ1 => intK y fun b => K.nx (ρ.set i (some (.int (a + b)))) μ1) X
  | .expr e, ρ, μ, K, X => wp G e ρ μ (fun _ μ1 => K.nx ρ μ1) X
  | .app o e, ρ, μ, K, X => wp G o ρ μ (fun x μ1 => (∃ l, seqL μ1 x = some l) ∧ wp G e ρ μ1 (fun d μ2 => chg x μ2 fun a l => l.length < 16777216 ∧ K.nx ρ (mset μ2 a (.lst (l ++ [d])))) X) X
  | .pop o, ρ, μ, K, X => wp G o ρ μ (fun x μ1 => chg x μ1 fun a l => l ≠ [] ∧ K.nx ρ (mset μ1 a (.lst l.dropLast))) X
  | .ins o i e, ρ, μ, K, X => wp G o ρ μ (fun x μ1 => (∃ l, seqL μ1 x = some l) ∧ wp G i ρ μ1 (fun k μ2 => intK k fun k => wp G e ρ μ2 (fun d μ3 => chg x μ3 fun a l => l.length < 16777216 ∧ (0 ≤ k ∧ k < 9223372036854775808) ∧ K.nx ρ (mset μ3 a (.lst (l.take k.toNat ++ [d] ++ l.drop k.toNat)))) X) X) X
  | .ext o e, ρ, μ, K, X => wp G o ρ μ (fun x μ1 => (∃ l, seqL μ1 x = some l) ∧ wp G e ρ μ1 (fun d μ2 => chg x μ2 fun a l => optD (seqP μ2 d) fun r => l.length + r.length ≤ 16777216 ∧ K.nx ρ (mset μ2 a (.lst (l ++ r)))) X) X
  | .clear o, ρ, μ, K, X => wp G o ρ μ (fun x μ1 => chg x μ1 fun a _ => K.nx ρ (mset μ1 a (.lst []))) X
  | .ret e, ρ, μ, K, X => wp G e ρ μ K.rt X
  | .retN, _, μ, K, _ => K.rt .non μ
  | .ite t a b, ρ, μ, K, X => wpT G t ρ μ (fun c μ1 => if c = true then wpSs G a ρ μ1 K X else wpSs G b ρ μ1 K X) X
  | .for_ ws t it b, ρ, μ, K, X => wpI G it ρ μ (fun items ok μ1 => LP items (wipeR ρ ws) μ1 ok (fun x ρ' μ' K' => wpTg t x ρ' μ' fun ρ2 μ2 => wpSs G b ρ2 μ2 (wipeK ws K') X) K) X
  | .while_ ws t b, ρ, μ, K, X => LW (wipeR ρ ws) μ (fun ρ' μ' q => wpT G t ρ' μ' q X) (fun ρ' μ' K' => wpSs G b ρ' μ' (wipeK ws K') X) K
  | .pass, ρ, μ, K, _ => K.nx ρ μ
  | .brk, ρ, μ, K, _ => K.bk ρ μ
  | .cont, ρ, μ, K, _ => K.ct ρ μ
  | .never, _, _, _, _ => False
  | .drp is, ρ, μ, K, X => K.nx ρ (dropM ρ is μ)
  | .opn i, ρ, μ, K, X => getV ρ i fun y => openD y μ fun μ2 => K.nx ρ μ2
  | .raise c _, _, μ, _, X => G.ex.exs c = true ∧ X c [] μ
  | .raiseI c es, ρ, μ, _, X => optD (G.ex.exi c) fun f => wps G es ρ μ (fun ds μ1 => optD (f ds) fun fs => X c fs μ1) X
  | .tryAs b c _ h, ρ, μ, K, X => (G.ex.sub c c).isSome = true ∧ wpSs G b ρ μ K fun c' fs μ' => optD (G.ex.sub c' c) fun v => if v = true then wpHs ⟨G.ex.sub c', G.ex.fld c', fs⟩ h (blankR ρ) μ' K else X c' fs μ'
  | .try_ b c h, ρ, μ, K, X => (G.ex.sub c c).isSome = true ∧ wpSs G b ρ μ K fun c' fs μ' => optD (G.ex.sub c' c) fun v => if v = true then wpHs ⟨G.ex.sub c', G.ex.fld c', fs⟩ h (blankR ρ) μ' K else X c' fs μ'
def wpSs (G : Gc) : Ss → Rho → Mem → DEnds → EK → Prop
  | .nil, ρ, μ, K, _ => K.nx ρ μ
  | .cons s .nil, ρ, μ, K, X => wpS G s ρ μ K X
  | .cons s ss, ρ, μ, K, X => wpS G s ρ μ { K with nx := fun ρ' μ' => wpSs G ss ρ' μ' K X } X
end
end DL
/-! How programs lie over the syntax, and that what they want is enough. -/
namespace DL
open PySem PySem.Spec PyProof.Rows L2

/-! ### looks at the syntax -/
def visB (sc : Scope) (x : Str) : Bool := match sc.names.lookup x with
  | some .local => true
  | some .cell => true
  | some .free => true
  | _ => false
def locB (sc : Scope) (x : Str) : Bool := match sc.names.lookup x with
  | some .local => true
  | some .cell => true
  | _ => false
def gloB (sc : Scope) (x : Str) : Bool := match sc.names.lookup x with
  | some .globalImplicit => true
  | _ => false
def nmB (x : Str) : Bool := !(x == ("__debug__" : Str)) && !(x == ("__classdict__" : Str)) && !(x == ("__name__" : Str))
def noStar : Expr → Bool
  | .Starred _ _ => false
  | _ => true
def noSuper : Expr → Bool
  | .Call (.Name id _) [] [] _ => id != "super"
  | _ => true
def isLC : Expr → Bool
  | .ListComp _ _ _ _ => true
  | .SetComp _ _ _ _ => true
  | .DictComp _ _ _ _ _ => true
  | _ => false
def isSlice : Expr → Bool
  | .Slice _ _ _ _ => true
  | _ => false
def isTupE : Expr → Bool
  | .Tuple _ _ _ => true
  | _ => false
def isSetE : Expr → Bool
  | .Set _ _ _ => true
  | _ => false
theorem star_cons {e : Expr} {es : List Expr} {env : Env} (h : noStar e = true) : starEach (e :: es) env = (false, eval e env) :: starEach es env := by
  cases e <;> first | rfl | exact nomatch h
theorem star_any {env : Env} {pos : Pos} : ∀ {es : List Expr}, es.all noStar = true → (backTo pos (starEach es env)).any (·.1) = false
  | [], _ => rfl
  | e :: es, h => by
    rw [List.all_cons, Bool.and_eq_true] at h
    rw [star_cons h.1]
    have ih := star_any (env := env) (pos := pos) h.2
    unfold backTo at ih ⊢
    rw [List.map_cons, List.any_cons]
    rw [ih]
    rfl
theorem base_of {o : Expr} {attr : Str} {env : Env} {w : Sem Value} (h : noSuper o = true) : attributeBase o attr env w = w := by
  unfold attributeBase
  cases o with
  | Call f a k p =>
    cases f with
    | Name id q =>
      cases a with
      | nil =>
        cases k with
        | nil =>
          have e : (id != ("super" : Str)) = true := h
          simp only [e, Bool.true_or, if_true]
        | cons _ _ => rfl
      | cons _ _ => rfl
    | _ => rfl
  | _ => rfl
theorem swap_no {v : Expr} {t : Option Expr} {l : Nat} {env : Env} (h : isLC v = false) : swapsWith v t l env = pure false := by
  cases v <;> first | rfl | exact nomatch h
theorem folded_no {v : Expr} {env : Env} (h : isSetE v = false) : ∀ x, foldedSetIterable v env x = pure x := by
  cases v <;> first | (intro _; rfl) | exact nomatch h
theorem plain_ix {b : Expr} (h : isSlice b = false) : PlainIx b := by
  intro o i
  cases b <;> first | rfl | exact nomatch h
theorem mark_no {b : Expr} {op : CmpOp} (h : isSetE b = false) : behindInMarks op b = false := by
  cases b <;> first | rfl | exact nomatch h

/-! ### what is known of a body's context -/
def bltNames : List Str := ["len", "int", "bool", "str", "tuple", "list", "abs", "max", "min", "divmod", "sum", "any", "all", "range", "isinstance", "enumerate", "zip", "reversed", "sorted", "set", "dict", "repr"]
def spOf (K : PySem.W.Frag) (mg : Str → Option Value) (S : FSpec) : Sp := fun vs H Q E => ∃ F μ ds Qd EXd, MS K H F μ ∧ RDs K H F vs ds ∧ S ds μ Qd EXd ∧ (∀ v H', Post K H F μ Qd v H' → Q v H') ∧ ∀ cls d H', Wish K mg H F μ EXd cls d H' → E cls d H'
def FnR (P : Program) (w : World) (K : PySem.W.Frag) (mg : Str → Option Value) (base : Heap) (A : Around) (f : Str) (S : FSpec) : Prop :=
  ∃ k fa fd ps, FnOk P w K mg base (L2.CX P w) k fa fd ps (spOf K mg S) ∧ Room k A ∧ mg f = some (.ref fa) ∧ PySem.W.keepIn K (.ref fa) = true ∧ Binds K fd ps []
abbrev veBM : List Value := [.type "ValueError", .type "Exception", .type "BaseException", .type "object"]
/-- what the written part says of the classes of exceptions -/
structure ExOk (ex : ExI) (K : PySem.W.Frag) (mg : Str → Option Value) : Prop where
  exs : ∀ c, ex.exs c = true → ∃ C, mg c = some (.ref C) ∧ PySem.W.excIn K C veBM "ValueError.__new__" = true ∧ PySem.W.keepIn K (.ref C) = true ∧ PySem.W.subIn K (.ref C) (.type "BaseException") = some true ∧ PySem.W.typeIn K (.ref C) = some (.type "type")
  sub : ∀ c x b, ex.sub c x = some b → ∃ C cv v, mg c = some (.ref C) ∧ (mg x = some cv ∨ (mg x = none ∧ bootBuiltins x = some cv ∧ x ≠ "__name__")) ∧ PySem.W.exmOne K (.ref C) cv = some b ∧ PySem.W.kitOne K (.ref C) cv = some b ∧ RelV v cv ∧ (∀ u, RelV v u → u = cv) ∧ ExcC K C
  fld : ∀ c f, ex.fld c f = true → ∃ C, mg c = some (.ref C) ∧ XfC K C ∧ PySem.W.findIn K (.ref C) f = some none
  exv : ∀ c x, ex.exv c = some x → ∃ C, PySem.W.nsIn K mainGlobals c = some (some (.ref C)) ∧ mg c = some (.ref C) ∧ PySem.W.keepIn K (.ref C) = true ∧ match x with
    | none => PySem.W.excIn K C veBM "ValueError.__new__" = true
    | some (f1, f2, g) => OexC K C ∧ ∃ fI fd ps a, PySem.W.findIn K (.ref C) "__init__" = some (some (.ref fI)) ∧ PySem.W.typeIn K (.ref fI) = some (.type "function") ∧ Binds K fd ps [] ∧ (match g with | none => (∃ t, a = IArg.lit t) | some n => ∃ t, t.length = n ∧ a = IArg.cat t) ∧
      ∀ (P : Program) (w : World) (base : Heap), FnOk P w K mg base (L2.CX P w) 1 fI fd ps (spI K C f1 f2 a)
theorem ExOk.no {K : PySem.W.Frag} {mg : Str → Option Value} : ExOk .none K mg := ⟨fun _ h => (nomatch h), fun _ _ _ h => (nomatch h), fun _ _ h => (nomatch h), fun _ _ h => (nomatch h)⟩
structure SX (G : Gc) (X : Cx) (N : List Str) (sc : Scope) : Prop where
  hN : X.N = N
  nd : N.Nodup
  esc : X.env.scope = sc
  kind : sc.kind = .function
  calm : X.calm = true
  un : X.A.units + 65 < cLine
  gd : G.grd = true → X.A.guards = some []
  rm2 : L2.Room 2 X.A
  own : X.stack = X.env :: X.outer → PassesOwn (model X.prog X.w) X.A X.env X.xe
  fr : ∃ e0 o0 L, X.stack = e0 :: o0 ∧ e0.frame = some L ∧ X.env.frame = some L
  blt : ∀ x, x ∈ bltNames → X.mg x = none
  ex : ExOk G.ex X.K X.mg
  cst : ∀ x d, G.cst x = some d → ∃ v u, X.mg x = some u ∧ RelV v u ∧ ∀ H F, RD X.K H F v d
  fn : ∀ f, G.has f = true → FnR X.prog X.w X.K X.mg X.base X.A f (G.fn f)
section
variable {G : Gc} {X : Cx} {N : List Str} {sc : Scope} {ρ : Rho} {μ : Mem}
theorem SX.vis (h : SX G X N sc) {x : Str} (v : visB sc x = true) : Vis X.env.scope x := by
  rw [h.esc]
  unfold visB at v
  split at v
  · rename_i e; exact .inl e
  · rename_i e; exact .inr (.inl e)
  · rename_i e; exact .inr (.inr e)
  · cases v
theorem SX.loc (h : SX G X N sc) {x : Str} (v : locB sc x = true) : Loc X.env.scope x := by
  rw [h.esc]
  unfold locB at v
  split at v
  · rename_i e; exact .inl e
  · rename_i e; exact .inr e
  · cases v
theorem SX.glo (h : SX G X N sc) {x : Str} (v : gloB sc x = true) : Gl X x := by
  show X.env.scope.names.lookup x = some .globalImplicit
  rw [h.esc]
  unfold gloB at v
  split at v
  · rename_i e; exact e
  · cases v
theorem nm3 {x : Str} (h : nmB x = true) : (x == ("__debug__" : Str)) = false ∧ (x == ("__classdict__" : Str)) = false ∧ x ≠ "__name__" := by
  unfold nmB at h
  simp only [Bool.and_eq_true, Bool.not_eq_true', beq_eq_false_iff_ne] at h
  exact ⟨by simpa using h.1.1, by simpa using h.1.2, h.2⟩
theorem DE.v (h : SX G X N sc) {i : Nat} {x : Str} {pos : Pos} {Q : DK} (hi : N[i]? = some x) (hv : visB sc x = true) (hn : nmB x = true) {d : D} (hd : ρ[i]? = some (some d)) (q : Q d μ) : DE X EX (.Name x pos) ρ μ Q := fun σ H F e m => by
  obtain ⟨n1, n2, _⟩ := nm3 hn
  obtain ⟨v, h1, h2⟩ := e.at_ i d hd
  exact we_of (pe_var (by rw [h.hN]; exact hi) (h.vis hv) n1 n2) ⟨v, h1, .now m h2 q⟩
theorem DE.g (h : SX G X N sc) {x : Str} {pos : Pos} {Q : DK} (hg : gloB sc x = true) (hn : nmB x = true) {d : D} (hd : G.cst x = some d) (q : Q d μ) : DE X EX (.Name x pos) ρ μ Q := fun σ H F e m => by
  obtain ⟨v, u, h1, h2, h3⟩ := h.cst x d hd
  exact we_of (pe_glob (h.glo hg) h1 h2 (nm3 hn).1) (.now m (h3 H F) q)
theorem DE.c {ex : Expr} {v : V} {d : D} {Q : DK} (hp : PE X ex (tC v)) (hr : ∀ H F, RD X.K H F v d) (q : Q d μ) : DE X EX ex ρ μ Q := fun σ H F e m => we_of hp (.now m (hr H F) q)
theorem getV_ok : ∀ {ρ : Rho} {i : Nat} {k : D → Prop}, getV ρ i k → ∃ d, ρ[i]? = some (some d) ∧ k d
  | some d :: _, 0, k, h => ⟨d, rfl, h⟩
  | none :: _, 0, k, h => h.elim
  | o :: r, i + 1, k, h => by
    obtain ⟨d, h1, h2⟩ := getV_ok (ρ := r) (i := i) (k := k) h
    exact ⟨d, by rw [List.getElem?_cons_succ]; exact h1, h2⟩
/-- two operands, then an operator's reading -/
theorem DE.op2 {ex a b : Expr} {r : R2} {Q : DK} {R : D → D → Mem → Prop} (hp : ∀ ta tb, PE X a ta → PE X b tb → PE X ex (tOp r ta tb)) (h : DE X EX a ρ μ fun x μ1 => DE X EX b ρ μ1 fun y μ2 => R x y μ2)
    (hop : ∀ H F μ' v u x y (Qv : VK), MS X.K H F μ' → RD X.K H F v x → RD X.K H F u y → R x y μ' → (∀ v H', Post X.K H F μ' Q v H' → Qv v H') → r v u H Qv) : DE X EX ex ρ μ Q := fun σ H F e m => by
  refine we_of (hp _ _ pe_we pe_we) ?_
  refine (h σ H F e m).mono fun v H1 ⟨x, F1, μ1, g1, m1, r1, q1⟩ => ?_
  refine (q1 σ H1 F1 (e.on g1 m) m1).mono fun u H2 ⟨y, F2, μ2, g2, m2, r2, q2⟩ => ?_
  exact hop H2 F2 μ2 v u x y _ m2 (r1.stay (g2.stay m1)) r2 q2 fun v' H' p => p.pre (g1.trans g2)
theorem line_eq : (sizeLine : Nat) = 16777216 := sizeLine_eq
theorem seqL_ref {a : Addr} {l : List D} (h : seqL μ (.ref a) = some l) : μ a = some (.lst l) := by
  have h : (match μ a with | some (.lst l) => some l | _ => none) = some l := h
  cases e : μ a with
  | none => rw [e] at h; cases h
  | some o =>
    rw [e] at h
    cases o with
    | lst l' => cases h; rfl
    | pot l => cases h
theorem seqP_L {x : D} {l : List D} (h : seqP μ x = some l) : seqL μ x = some l := by
  cases x <;> first | exact h | cases h
/-- a list by data is a list -/
theorem seqL_rd {K H F} {v : V} {x : D} {l : List D} (m : MS K H F μ) (r : RD K H F v x) (h : seqL μ x = some l) : ∃ a vs, v = .ref a ∧ SqL K H a vs ∧ RDs K H F vs l := by
  cases r with
  | lst f hd rs => cases h; exact ⟨_, _, rfl, .inl (.inl hd), rs⟩
  | lk hk rs =>
    cases h
    rcases hk with ⟨o, hk⟩ | hk
    · exact ⟨_, _, rfl, .inl (.inr ⟨o, hk⟩), rs⟩
    · exact ⟨_, _, rfl, .inr hk, rs⟩
  | ref a =>
    obtain ⟨_, u, hu, vs, e, rs⟩ := m.at_ a _ (seqL_ref h)
    subst e
    exact ⟨a, vs, rfl, .inl (.inl hu), rs⟩
  | _ => cases h
theorem seqP_rd {K H F} {v : V} {x : D} {l : List D} (m : MS K H F μ) (r : RD K H F v x) (h : seqP μ x = some l) : ∃ a vs, v = .ref a ∧ H a = some (.lst vs) ∧ RDs K H F vs l := by
  cases r with
  | lst f hd rs => cases h; exact ⟨_, _, rfl, hd, rs⟩
  | ref a =>
    obtain ⟨_, u, hu, vs, e, rs⟩ := m.at_ a _ (seqL_ref h)
    subst e
    exact ⟨a, vs, rfl, hu, rs⟩
  | _ => cases h
theorem seqA_rd {K H F} {v : V} {x : D} {l : List D} (m : MS K H F μ) (r : RD K H F v x) (h : seqA μ x = some l) : ∃ a vs, v = .ref a ∧ ((SqL K H a vs ∧ seqL μ x = some l) ∨ (SqT K H a vs ∧ x = .tup l)) ∧ RDs K H F vs l := by
  have g : seqL μ x = some l → ∃ a vs, v = .ref a ∧ ((SqL K H a vs ∧ seqL μ x = some l) ∨ (SqT K H a vs ∧ x = .tup l)) ∧ RDs K H F vs l := fun h => by
    obtain ⟨a, vs, h1, h2, h3⟩ := seqL_rd m r h
    exact ⟨a, vs, h1, .inl ⟨h2, h⟩, h3⟩
  cases r with
  | tup ht rs => cases h; exact ⟨_, _, rfl, .inr ⟨ht, rfl⟩, rs⟩
  | _ => exact g h
/-- a new list's end -/
theorem newL_ok {K H F} {z : Bool} {vs : List V} {ds : List D} {Q : DK} {Qv : VK} (m : MS K H F μ) (r : RDs K H F vs ds) (q : newL z ds μ Q) (k : ∀ v H', Post K H F μ Q v H' → Qv v H') : ∀ p, H p = none → Qv (.ref p) (upd H p (.lst vs)) := fun p hp => by
  cases z with
  | true =>
    obtain ⟨F', g, m', r'⟩ := new_lst m hp r
    exact k _ _ ⟨_, F', μ, g, m', r', q⟩
  | false =>
    obtain ⟨g, m', np⟩ := new_ref m hp r
    exact k _ _ ⟨_, F, _, g, m', .ref p, q p np⟩
theorem newT_ok {K H F} {vs : List V} {ds : List D} {Q : DK} {Qv : VK} (m : MS K H F μ) (r : RDs K H F vs ds) (q : Q (.tup ds) μ) (k : ∀ v H', Post K H F μ Q v H' → Qv v H') : ∀ p, H p = none → Qv (.ref p) (upd H p (.tup vs)) := fun p hp => by
  obtain ⟨g, m', r'⟩ := new_tup m hp r
  exact k _ _ ⟨_, F, μ, g, m', r', q⟩

/-! ### operators -/
def rAddA (K : PySem.W.Frag) : R2 := fun x y H Q => rI0 (fun i j => .int (i + j)) x y H Q ∨ (∃ i k, x = .int i ∧ y = .bl k ∧ Q (.int (i + b2i k)) H) ∨
  (∃ i j, x = .str i ∧ y = .str j ∧ i.length + j.length ≤ sizeLine ∧ Q (.str (i ++ j)) H) ∨ rCatA K x y H Q ∨ rCat x y H Q
theorem op_addA : OpR X (binaryOp .Add) (rAddA X.K) := op_add.or (op_add_ib.or (op_add_str.or (op_catA.or op_cat)))
theorem nil_of {K H F} {vs : List V} {ds : List D} (r : RDs K H F vs ds) : vs = [] ↔ ds = [] := by
  cases r with
  | nil => exact ⟨fun _ => rfl, fun _ => rfl⟩
  | cons _ _ => exact ⟨fun h => (nomatch h), fun h => (nomatch h)⟩
theorem add_ok {K H F} {z : Bool} {v u : V} {x y : D} {Q : DK} {Qv : VK} (m : MS K H F μ) (r1 : RD K H F v x) (r2 : RD K H F u y) (q : addD z x y μ Q) (k : ∀ v H', Post K H F μ Q v H' → Qv v H') : rAddA K v u H Qv := by
  have cat : ∀ a b, seqP μ x = some a → seqP μ y = some b → (a.length + b.length ≤ 16777216 ∧ newL z (a ++ b) μ Q) → rAddA K v u H Qv := fun a b ha hb ⟨hl, q⟩ => by
    obtain ⟨p, vs, e1, h1, s1⟩ := seqP_rd m r1 ha
    obtain ⟨p2, ws, e2, h2, s2⟩ := seqP_rd m r2 hb
    refine .inr (.inr (.inr (.inr ⟨p, p2, vs, ws, e1, e2, h1, h2, ?_, newL_ok m (s1.append s2) q k⟩)))
    rw [s1.length, s2.length, line_eq]; exact hl
  cases x with
  | int i =>
    cases r1
    cases y with
    | int j => cases r2; exact .inl ⟨i, j, rfl, rfl, k _ _ (.now m (.int _) q)⟩
    | bl b => cases r2; exact .inr (.inl ⟨i, b, rfl, rfl, k _ _ (.now m (.int _) q)⟩)
    | _ => exact q.elim
  | str a =>
    cases r1
    cases y with
    | str b => cases r2; exact .inr (.inr (.inl ⟨a, b, rfl, rfl, by rw [line_eq]; exact q.1, k _ _ (.now m (.str _) q.2)⟩))
    | _ => exact q.elim
  | tup a =>
    cases y with
    | tup b =>
      cases r1 with
      | tup t1 s1 =>
      cases r2 with
      | tup t2 s2 =>
      refine .inr (.inr (.inr (.inl ⟨_, _, _, _, rfl, rfl, t1, t2, ?_, fun e => ?_, fun _ e => ?_, fun _ _ => newT_ok m (s1.append s2) q.2 k⟩)))
      · rw [s1.length, s2.length, line_eq]; exact q.1
      · have e := (nil_of s1).mp e
        subst e
        exact k _ _ (.now m (.tup t2 s2) q.2)
      · have e := (nil_of s2).mp e
        subst e
        have q2 := q.2
        rw [List.append_nil] at q2
        exact k _ _ (.now m (.tup t1 s1) q2)
    | _ => exact q.elim
  | lst a =>
    obtain ⟨b, e, q⟩ := optD_ok (show optD (seqP μ y) _ from q)
    exact cat a b rfl e q
  | ref p =>
    obtain ⟨a, e, q⟩ := optD_ok (show optD (seqP μ (.ref p)) _ from q)
    obtain ⟨b, e2, q⟩ := optD_ok q
    exact cat a b e e2 q
  | _ => exact q.elim
def rMulA (K : PySem.W.Frag) : R2 := fun x y H Q => rI CMul (fun i j => .int (i * j)) x y H Q ∨ (rRepT K x y H Q ∨ (rRepL K x y H Q ∨ rMulS x y H Q))
theorem op_mulA : OpR X (binaryOp .Mult) (rMulA X.K) := op_mul.or (op_repT.or (op_repL.or op_mulS))
theorem RDs.rep {K H F} {vs : List V} {ds : List D} (r : RDs K H F vs ds) : ∀ n, RDs K H F (List.replicate n vs).flatten (List.replicate n ds).flatten
  | 0 => .nil
  | n + 1 => by
    rw [List.replicate_succ, List.replicate_succ, List.flatten_cons, List.flatten_cons]
    exact r.append (RDs.rep r n)
theorem mul_ok {K H F} {v u : V} {x y : D} {Q : DK} {Qv : VK} (m : MS K H F μ) (r1 : RD K H F v x) (r2 : RD K H F u y) (q : mulD x y μ Q) (k : ∀ v H', Post K H F μ Q v H' → Qv v H') : rMulA K v u H Qv := by
  cases x with
  | int i =>
    cases r1
    cases y with
    | int j => cases r2; exact .inl ⟨i, j, rfl, rfl, q.1, k _ _ (.now m (.int _) q.2)⟩
    | _ => exact q.elim
  | tup a =>
    cases y with
    | int j =>
      cases r2
      cases r1 with
      | tup t1 s1 =>
      obtain ⟨h1, h2, h3, h4, q⟩ := q
      exact .inr (.inl ⟨_, j, _, rfl, rfl, t1, fun e => h1 ((nil_of s1).mp e), h2, h3, by rw [s1.length]; exact h4, newT_ok m (s1.rep _) q k⟩)
    | _ => exact q.elim
  | lst a =>
    cases y with
    | int j =>
      cases r2
      obtain ⟨p, vs, ev, t1, s1⟩ := seqL_rd m r1 (l := a) rfl
      obtain ⟨h1, h2, h3, h4, q⟩ := q
      exact .inr (.inr (.inl ⟨p, j, vs, ev, rfl, t1, fun e => h1 ((nil_of s1).mp e), h2, h3, by rw [s1.length]; exact h4, newL_ok (z := true) m (s1.rep _) q k⟩))
    | _ => exact q.elim
  | str s =>
    cases y with
    | int j =>
      cases r1
      cases r2
      obtain ⟨⟨h1, h2⟩, q⟩ := q
      exact .inr (.inr (.inr ⟨s, j, rfl, rfl, h1, h2, k _ _ (.now m (.str _) q)⟩))
    | _ => exact q.elim
  | _ => exact q.elim
theorem int2_ok {K H F} {C : Int → Int → Prop} {g : Int → Int → Int} {v u : V} {x y : D} {Q : DK} {Qv : VK} (m : MS K H F μ) (r1 : RD K H F v x) (r2 : RD K H F u y) (q : int2 C g x y μ Q) (k : ∀ v H', Post K H F μ Q v H' → Qv v H') : rI C (fun i j => .int (g i j)) v u H Qv := by
  cases x with
  | int i =>
    cases r1
    cases y with
    | int j => cases r2; exact ⟨i, j, rfl, rfl, q.1, k _ _ (.now m (.int _) q.2)⟩
    | _ => exact q.elim
  | _ => exact q.elim
def rSub : R2 := rI (fun _ _ => True) fun i j => .int (i - j)
theorem op_subA : OpR X (binaryOp .Sub) rSub := fun pins s σ H x y v u Q I rx ry ⟨i, j, e1, e2, _, q⟩ => op_sub pins s σ H x y v u Q I rx ry ⟨i, j, e1, e2, q⟩
theorem DE.bin {z : Bool} {o : Op2} {a b : Expr} {pos : Pos} {Q : DK} (h : DE X EX a ρ μ fun x μ1 => DE X EX b ρ μ1 fun y μ2 => binD z o x y μ2 Q) : DE X EX (.BinOp a o.op b pos) ρ μ Q := by
  cases o with
  | add => exact DE.op2 (fun ta tb ha hb => pe_op op_addA ha hb) h fun H F μ' v u x y Qv m r1 r2 q k => add_ok m r1 r2 q k
  | sub => exact DE.op2 (fun ta tb ha hb => pe_op op_subA ha hb) h fun H F μ' v u x y Qv m r1 r2 q k => int2_ok m r1 r2 q k
  | mul => exact DE.op2 (fun ta tb ha hb => pe_op op_mulA ha hb) h fun H F μ' v u x y Qv m r1 r2 q k => mul_ok m r1 r2 q k
  | fdiv => exact DE.op2 (fun ta tb ha hb => pe_op op_fdiv ha hb) h fun H F μ' v u x y Qv m r1 r2 q k => int2_ok m r1 r2 q k
  | mod => exact DE.op2 (fun ta tb ha hb => pe_op op_mod ha hb) h fun H F μ' v u x y Qv m r1 r2 q k => int2_ok m r1 r2 q k
  | pow => exact DE.op2 (fun ta tb ha hb => pe_op op_pow ha hb) h fun H F μ' v u x y Qv m r1 r2 q k => int2_ok m r1 r2 q k

/-! ### comparisons -/
mutual
theorem py_of {K H F} : ∀ {v : V} {d : D}, RD K H F v d → d.ok = true → Dp K H v d.py
  | _, _, .non, _ => .non
  | _, _, .bl b, _ => .bl b
  | _, _, .int i, _ => .int i
  | _, _, .str s, _ => .str s
  | _, _, .tup h r, o => .tup h (pys_of r o)
  | _, _, .lst f h r, o => .lst (.inl (.inl h)) (pys_of r o)
  | _, _, .lk h r, o => .lst (h.elim (fun ⟨ob, q⟩ => .inl (.inr ⟨ob, q⟩)) .inr) (pys_of r o)
  | _, _, .ref a, o => nomatch o
theorem pys_of {K H F} : ∀ {vs : List V} {ds : List D}, RDs K H F vs ds → D.oks ds = true → DpAll K H vs (D.pys ds)
  | _, _, .nil, _ => .nil
  | _, _, .cons h r, o => by
    have o := (Bool.and_eq_true_iff.mp o)
    exact .cons (py_of h o.1) (pys_of r o.2)
end
mutual
theorem py_can : ∀ d : D, d.ok = true → d.py.canLay0 = true
  | .non, _ => rfl
  | .bl _, _ => rfl
  | .int _, _ => rfl
  | .str _, o => o
  | .tup l, o => pys_can l o
  | .lst l, o => pys_can l o
  | .lk l, o => pys_can l o
  | .ref _, o => nomatch o
  | .emp, o => nomatch o
  | .exc _ _ _, o => nomatch o
theorem pys_can : ∀ ds : List D, D.oks ds = true → PyData.canLayAll0 (D.pys ds) = true
  | [], _ => rfl
  | d :: ds, o => by
    have o := (Bool.and_eq_true_iff.mp o)
    exact Bool.and_eq_true_iff.mpr ⟨py_can d o.1, pys_can ds o.2⟩
end
mutual
theorem py_dep : ∀ d : D, d.py.depth = d.dep
  | .non => rfl
  | .bl _ => rfl
  | .int _ => rfl
  | .str _ => rfl
  | .tup l => congrArg (· + 1) (pys_dep l)
  | .lst l => congrArg (· + 1) (pys_dep l)
  | .lk l => congrArg (· + 1) (pys_dep l)
  | .ref _ => rfl
  | .emp => rfl
  | .exc _ _ _ => rfl
theorem pys_dep : ∀ ds : List D, PyData.depthAll (D.pys ds) = D.deps ds
  | [] => rfl
  | d :: ds => by
    show max _ _ = max _ _
    rw [py_dep d, pys_dep ds]
end
theorem shaped_of {d : D} (o : d.ok = true) (h : d.dep ≤ 64) : SeqAt.shaped d.py = true := by
  unfold SeqAt.shaped
  rw [py_can d o, py_dep d, decide_eq_true h]
  rfl
theorem res_ok {K H F} {v : V} {x : D} (m : MS K H F μ) (r : RD K H F v x) (o : (res μ x).ok = true) : Dp K H v (res μ x).py := by
  cases x with
  | ref a =>
    cases e : μ a with
    | none =>
      have e2 : res μ (.ref a) = .ref a := by unfold res; simp only [e]
      rw [e2] at o; cases o
    | some ob =>
      cases ob with
      | pot l =>
        have e2 : res μ (.ref a) = .ref a := by unfold res; simp only [e]
        rw [e2] at o; cases o
      | lst l =>
        have e2 : res μ (.ref a) = .lst l := by unfold res; simp only [e]
        rw [e2] at o ⊢
        cases r
        obtain ⟨_, u, hu, vs, eu, rs⟩ := m.at_ a _ e
        subst eu
        exact .lst (.inl (.inl hu)) (pys_of rs o)
  | _ => exact py_of r o
def rEqA (K : PySem.W.Frag) : R2 := fun x y H Q => rEq x y H Q ∨ rEqD K x y H Q
def rNeA (K : PySem.W.Frag) : R2 := fun x y H Q => rNe x y H Q ∨ rNeD K x y H Q
theorem eq_ok {K H F} {v u : V} {x y : D} {q : Bool → Prop} {Qv : VK} (m : MS K H F μ) (r1 : RD K H F v x) (r2 : RD K H F u y) (h : eqD x y μ q) (k : ∀ b, q b → Qv (.bl b) H) : rEqA K v u H Qv := by
  have gen : ((res μ x).ok = true ∧ (res μ y).ok = true ∧ (res μ x).dep ≤ 64 ∧ (res μ y).dep ≤ 64 ∧ q ((res μ x).eqv (res μ y))) → rEqA K v u H Qv := fun ⟨o1, o2, d1, d2, h⟩ =>
    .inr ⟨_, _, res_ok m r1 o1, res_ok m r2 o2, shaped_of o1 d1, shaped_of o2 d2, k _ h⟩
  cases x with
  | int i =>
    cases y with
    | int j =>
      cases r1; cases r2
      refine .inl ⟨rfl, ?_⟩
      have e : decide (V.int i = V.int j) = decide (i = j) := by simp
      rw [e]
      exact k _ h
    | _ => exact gen h
  | str i =>
    cases y with
    | str j =>
      cases r1; cases r2
      refine .inl ⟨rfl, ?_⟩
      have e : decide (V.str i = V.str j) = decide (i = j) := by simp
      rw [e]
      exact k _ h
    | _ => exact gen h
  | _ => exact gen h
theorem ne_ok {K H F} {v u : V} {x y : D} {q : Bool → Prop} {Qv : VK} (m : MS K H F μ) (r1 : RD K H F v x) (r2 : RD K H F u y) (h : eqD x y μ fun b => q (!b)) (k : ∀ b, q b → Qv (.bl b) H) : rNeA K v u H Qv := by
  have gen : ((res μ x).ok = true ∧ (res μ y).ok = true ∧ (res μ x).dep ≤ 64 ∧ (res μ y).dep ≤ 64 ∧ q (!(res μ x).eqv (res μ y))) → rNeA K v u H Qv := fun ⟨o1, o2, d1, d2, h⟩ =>
    .inr ⟨_, _, res_ok m r1 o1, res_ok m r2 o2, shaped_of o1 d1, shaped_of o2 d2, k _ h⟩
  cases x with
  | int i =>
    cases y with
    | int j =>
      cases r1; cases r2
      refine .inl ⟨rfl, ?_⟩
      have e : decide (V.int i = V.int j) = decide (i = j) := by simp
      rw [e]
      exact k _ h
    | _ => exact gen h
  | str i =>
    cases y with
    | str j =>
      cases r1; cases r2
      refine .inl ⟨rfl, ?_⟩
      have e : decide (V.str i = V.str j) = decide (i = j) := by simp
      rw [e]
      exact k _ h
    | _ => exact gen h
  | _ => exact gen h
/-- two numbers, or two texts -/
def rIS (p : Int → Int → Bool) (ps : Str → Str → Bool) : R2 := fun x y H Q => rI0 (fun i j => .bl (p i j)) x y H Q ∨ ∃ i j, x = .str i ∧ y = .str j ∧ Q (.bl (ps i j)) H
theorem op_ltS : OpR X (compareOp .Lt) (rIS (fun i j => decide (i < j)) fun i j => decide (i.cps.toList < j.cps.toList)) := op_lt.or op_lt_str
theorem op_leS : OpR X (compareOp .LtE) (rIS (fun i j => decide (i ≤ j)) fun i j => !decide (j.cps.toList < i.cps.toList)) := op_le.or op_le_str
theorem op_gtS : OpR X (compareOp .Gt) (rIS (fun i j => decide (j < i)) fun i j => decide (j.cps.toList < i.cps.toList)) := op_gt.or op_gt_str
theorem op_geS : OpR X (compareOp .GtE) (rIS (fun i j => decide (j ≤ i)) fun i j => !decide (i.cps.toList < j.cps.toList)) := op_ge.or op_ge_str
theorem lt_ok {K H F} {p : Int → Int → Bool} {ps : Str → Str → Bool} {v u : V} {x y : D} {q : Bool → Prop} {Qv : VK} (r1 : RD K H F v x) (r2 : RD K H F u y) (h : ltD p ps x y q) (k : ∀ b, q b → Qv (.bl b) H) : rIS p ps v u H Qv := by
  cases x with
  | int i =>
    cases y with
    | int j =>
      cases r1; cases r2
      exact .inl ⟨i, j, rfl, rfl, k _ h⟩
    | _ => exact False.elim h
  | str i =>
    cases y with
    | str j =>
      cases r1; cases r2
      exact .inr ⟨i, j, rfl, rfl, k _ h⟩
    | _ => exact False.elim h
  | _ => exact False.elim h
theorem isNon_V {K H F} {v : V} {x : D} (r : RD K H F v x) : decide (v = V.non) = x.isNon := by
  cases r <;> rfl
theorem isD_non {y : D} {q : Prop} (h : isD y q) : y = .non ∧ q := by
  cases y <;> first | exact ⟨rfl, h⟩ | exact h.elim
theorem flat_V {K H F} {v : V} {x : D} (r : RD K H F v x) (f : x.flat = true) : flatV v = true := by
  cases r <;> first | rfl | (cases f; done)
theorem flats_V {K H F} : ∀ {vs : List V} {ds : List D}, RDs K H F vs ds → ds.all D.flat = true → vs.all flatV = true
  | _, _, .nil, _ => rfl
  | _, _, .cons h r, f => by
    rw [List.all_cons, Bool.and_eq_true] at f ⊢
    exact ⟨flat_V h f.1, flats_V r f.2⟩
theorem eqV_D {K H F} {v u : V} {x y : D} (r1 : RD K H F v x) (r2 : RD K H F u y) (f1 : x.flat = true) (f2 : y.flat = true) : eqV v u = x.eqv y := by
  cases r1 <;> first | (cases f1; done) | (cases r2 <;> first | (cases f2; done) | rfl)
theorem inV_D {K H F} {v : V} {x : D} (r1 : RD K H F v x) (f1 : x.flat = true) : ∀ {vs : List V} {ds : List D}, RDs K H F vs ds → ds.all D.flat = true → inV v vs = ds.any fun e => e.eqv x
  | _, _, .nil, _ => rfl
  | _, _, .cons h r, f => by
    rw [List.all_cons, Bool.and_eq_true] at f
    have ih := inV_D r1 f1 r f.2
    unfold inV at ih ⊢
    rw [List.any_cons, List.any_cons, ih, eqV_D h r1 f.1 f1]
theorem any_pys (x : D) : ∀ ds : List D, ((D.pys ds).any fun z => PyData.eqv z x.py) = ds.any fun e => e.eqv x
  | [] => rfl
  | d :: ds => by
    show (_ || _) = (_ || _)
    rw [any_pys x ds]
    rfl
def rInA (K : PySem.W.Frag) (neg : Bool) : R2 := fun x y H Q => (∃ (c : Nat) (z : Str), x = .str ⟨#[c]⟩ ∧ y = .str z ∧ Q (.bl (if neg then !decide (c ∈ z.cps.toList) else decide (c ∈ z.cps.toList))) H) ∨ rIn K neg x y H Q ∨
  ∃ d ds, Dp K H x d ∧ Dp K H y (.list ds) ∧ SeqAt.shaped d = true ∧ SeqAt.shaped (.list ds) = true ∧ Q (.bl (if neg then !(ds.any fun z => PyData.eqv z d) else ds.any fun z => PyData.eqv z d)) H
theorem op_inA (hu : X.A.units + 65 < cLine) : OpR X (compareOp .In) (rInA X.K false) := op_in_sign.or (op_in_seq.or (op_inD hu))
theorem op_notinA (hu : X.A.units + 65 < cLine) : OpR X (compareOp .NotIn) (rInA X.K true) := op_notIn_sign.or (op_notIn_seq.or (op_notInD hu))
theorem in_ok {K H F} {neg : Bool} {v u : V} {x y : D} {q : Bool → Prop} {Qv : VK} (m : MS K H F μ) (r1 : RD K H F v x) (r2 : RD K H F u y) (h : inD x y μ q) (k : ∀ b, q b → Qv (.bl (if neg then !b else b)) H) : rInA K neg v u H Qv := by
  have gen : ∀ l, seqL μ y = some l → (x.ok = true ∧ D.oks l = true ∧ x.dep ≤ 64 ∧ D.deps l < 64 ∧ q (l.any fun e => e.eqv x)) → rInA K neg v u H Qv := fun l hl ⟨o1, o2, d1, d2, h⟩ => by
    obtain ⟨a, vs, e, hs, rs⟩ := seqL_rd m r2 hl
    subst e
    refine .inr (.inr ⟨_, D.pys l, py_of r1 o1, .lst hs (pys_of rs o2), shaped_of o1 d1, shaped_of (d := .lst l) o2 d2, ?_⟩)
    rw [any_pys]
    exact k _ h
  cases y with
  | str z =>
    cases r2
    cases x with
    | str c =>
      cases r1
      have h : (match c.cps.toList with
        | [n] => q (decide (n ∈ z.cps.toList))
        | _ => False) := h
      split at h
      · rename_i n e
        have ec : c = ⟨#[n]⟩ := by
          obtain ⟨a⟩ := c
          have : a = #[n] := by
            apply Array.toList_inj.mp
            simpa using e
          rw [this]
        subst ec
        exact .inl ⟨n, z, rfl, rfl, k _ h⟩
      · exact h.elim
    | _ => exact h.elim
  | tup l =>
    obtain ⟨f1, f2, h⟩ := h
    cases r2 with
    | tup ht rs =>
    refine .inr (.inl ⟨_, _, rfl, .inr ht, flat_V r1 f1, flats_V rs f2, ?_⟩)
    rw [inV_D r1 f1 rs f2]
    exact k _ h
  | non => exact h.elim
  | emp => exact h.elim
  | exc _ _ _ => exact h.elim
  | bl _ => exact h.elim
  | int _ => exact h.elim
  | lst l => exact gen l rfl h
  | lk l => exact gen l rfl h
  | ref a =>
    obtain ⟨l, e, h⟩ := optD_ok (show optD (seqL μ (.ref a)) _ from h)
    exact gen l e h
def rIsA : R2 := fun x y H Q => y = .non ∧ Q (.bl (decide (x = .non))) H
/-- a comparison as a PE from its operator's reading -/
theorem cmp_pe {op : CmpOp} {r : R2} {a b : Expr} {pos : Pos} (ho : OpR X (compareOp op) r) (hm : behindInMarks op b = false) (ta tb : TE) (ha : PE X a ta) (hb : PE X b tb) : PE X (.Compare a [op] [b] pos) (tOp r ta tb) := pe_cmpR ho ha hb hm
theorem DE.cmp (sx : SX G X N sc) {o : Cm} {a b : Expr} {pos : Pos} {Q : DK} (hb : isSetE b = false) (h : DE X EX a ρ μ fun x μ1 => DE X EX b ρ μ1 fun y μ2 => cmpD o x y μ2 fun c => Q (.bl c) μ2) : DE X EX (.Compare a [o.op] [b] pos) ρ μ Q := by
  have un := sx.un
  have hm : ∀ op, behindInMarks op b = false := fun op => mark_no hb
  cases o with
  | eq => exact DE.op2 (cmp_pe (op_eq.or (op_eqD (by omega))) (hm _)) h fun H F μ' v u x y Qv m r1 r2 q k => eq_ok (q := fun c => Q (.bl c) μ') m r1 r2 q fun b hb => k _ _ (.now m (.bl b) hb)
  | ne => exact DE.op2 (cmp_pe (op_ne.or (op_neD (by omega))) (hm _)) h fun H F μ' v u x y Qv m r1 r2 q k => ne_ok (q := fun c => Q (.bl c) μ') m r1 r2 q fun b hb => k _ _ (.now m (.bl b) hb)
  | lt => exact DE.op2 (cmp_pe op_ltS (hm _)) h fun H F μ' v u x y Qv m r1 r2 q k => lt_ok (q := fun c => Q (.bl c) μ') r1 r2 q fun b hb => k _ _ (.now m (.bl b) hb)
  | le => exact DE.op2 (cmp_pe op_leS (hm _)) h fun H F μ' v u x y Qv m r1 r2 q k => lt_ok (q := fun c => Q (.bl c) μ') r1 r2 q fun b hb => k _ _ (.now m (.bl b) hb)
  | gt => exact DE.op2 (cmp_pe op_gtS (hm _)) h fun H F μ' v u x y Qv m r1 r2 q k => lt_ok (q := fun c => Q (.bl c) μ') r1 r2 q fun b hb => k _ _ (.now m (.bl b) hb)
  | ge => exact DE.op2 (cmp_pe op_geS (hm _)) h fun H F μ' v u x y Qv m r1 r2 q k => lt_ok (q := fun c => Q (.bl c) μ') r1 r2 q fun b hb => k _ _ (.now m (.bl b) hb)
  | is =>
    refine DE.op2 (cmp_pe op_isN (hm _)) h fun H F μ' v u x y Qv m r1 r2 q k => ?_
    obtain ⟨e, q⟩ := isD_non (show isD y (Q (.bl (x.isNon)) μ') from q)
    subst e
    cases r2
    exact ⟨rfl, by rw [isNon_V r1]; exact k _ _ (.now m (.bl _) q)⟩
  | isnot =>
    refine DE.op2 (cmp_pe op_notN (hm _)) h fun H F μ' v u x y Qv m r1 r2 q k => ?_
    obtain ⟨e, q⟩ := isD_non (show isD y (Q (.bl (!x.isNon)) μ') from q)
    subst e
    cases r2
    exact ⟨rfl, by rw [isNon_V r1]; exact k _ _ (.now m (.bl _) q)⟩
  | inn => exact DE.op2 (cmp_pe (op_inA un) (hm _)) h fun H F μ' v u x y Qv m r1 r2 q k => in_ok (q := fun c => Q (.bl c) μ') m r1 r2 q fun b hb => k _ _ (.now m (.bl b) hb)
  | notin => exact DE.op2 (cmp_pe (op_notinA un) (hm _)) h fun H F μ' v u x y Qv m r1 r2 q k => in_ok (q := fun c => Q (.bl (!c)) μ') m r1 r2 q fun b hb => k _ _ (.now m (.bl _) hb)
end
end DL
/-! The rules, further: tests, displays, subscripts, calls, comprehensions. -/
namespace DL
open PySem PySem.Spec PyProof.Rows L2
section
variable {G : Gc} {X : Cx} {N : List Str} {sc : Scope} {ρ : Rho} {μ : Mem}

/-! ### truth, tests -/
theorem tru_ok' {K H F} {v : V} {x : D} {q : Bool → Prop} (m : MS K H F μ) (r : RD K H F v x) (h : truD x μ q) : ∃ k, TruV K v H k ∧ q k := by
  have ie : ∀ {vs : List V} {ds : List D}, RDs K H F vs ds → (!vs.isEmpty) = !ds.isEmpty := fun r => by cases r <;> rfl
  cases r with
  | non => exact ⟨_, rfl, h⟩
  | bl b => exact ⟨_, rfl, h⟩
  | int i => exact ⟨_, rfl, h⟩
  | str s => exact ⟨_, ⟨by rw [line_eq]; exact h.1, rfl⟩, h.2⟩
  | tup t rs => exact ⟨_, .inr (.inl ⟨_, t, rfl⟩), by rw [ie rs]; exact h⟩
  | lst f hd rs => exact ⟨_, .inl ⟨_, .inl (.inl hd), rfl⟩, by rw [ie rs]; exact h⟩
  | lk hk rs => exact ⟨_, .inl ⟨_, hk.elim (fun ⟨o, q⟩ => .inl (.inr ⟨o, q⟩)) .inr, rfl⟩, by rw [ie rs]; exact h⟩
  | emp _ _ => exact False.elim h
  | exc _ _ _ _ => exact False.elim h
  | ref a =>
    obtain ⟨l, e, h⟩ := optD_ok (show optD (seqL μ (.ref a)) _ from h)
    obtain ⟨_, u, hu, vs, eu, rs⟩ := m.at_ a _ (seqL_ref e)
    subst eu
    exact ⟨_, .inl ⟨_, .inl (.inl hu), rfl⟩, by rw [ie rs]; exact h⟩
theorem DE.and {a b : Expr} {rest : List Expr} {pos : Pos} {Q : DK} (h : DE X EX a ρ μ fun x μ1 => truD x μ1 fun c => if c = true then DE X EX (.BoolOp .And (b :: rest) pos) ρ μ1 Q else Q x μ1) : DE X EX (.BoolOp .And (a :: b :: rest) pos) ρ μ Q := fun σ H F e m => by
  refine we_of (pe_andT pe_we pe_we) ?_
  refine (h σ H F e m).mono fun v H1 ⟨x, F1, μ1, g1, m1, r1, q1⟩ => ?_
  obtain ⟨k, tk, q⟩ := tru_ok' m1 r1 q1
  refine ⟨k, tk, ?_⟩
  cases k with
  | true =>
    rw [if_pos rfl] at q ⊢
    exact (q σ H1 F1 (e.on g1 m) m1).mono fun u H2 p => p.pre g1
  | false =>
    rw [if_neg Bool.false_ne_true] at q ⊢
    exact ⟨x, F1, μ1, g1, m1, r1, q⟩
theorem DE.or {a b : Expr} {rest : List Expr} {pos : Pos} {Q : DK} (h : DE X EX a ρ μ fun x μ1 => truD x μ1 fun c => if c = true then Q x μ1 else DE X EX (.BoolOp .Or (b :: rest) pos) ρ μ1 Q) : DE X EX (.BoolOp .Or (a :: b :: rest) pos) ρ μ Q := fun σ H F e m => by
  refine we_of (pe_orT pe_we pe_we) ?_
  refine (h σ H F e m).mono fun v H1 ⟨x, F1, μ1, g1, m1, r1, q1⟩ => ?_
  obtain ⟨k, tk, q⟩ := tru_ok' m1 r1 q1
  refine ⟨k, tk, ?_⟩
  cases k with
  | false =>
    rw [if_neg Bool.false_ne_true] at q ⊢
    exact (q σ H1 F1 (e.on g1 m) m1).mono fun u H2 p => p.pre g1
  | true =>
    rw [if_pos rfl] at q ⊢
    exact ⟨x, F1, μ1, g1, m1, r1, q⟩
theorem DE.one {op : BoolOp} {a : Expr} {pos : Pos} {Q : DK} (h : DE X EX a ρ μ Q) : DE X EX (.BoolOp op [a] pos) ρ μ Q := fun σ H F e m => we_of (pe_one pe_we) (h σ H F e m)
theorem DE.not {a : Expr} {pos : Pos} {Q : DK} (h : DE X EX a ρ μ fun x μ1 => truD x μ1 fun c => Q (.bl (!c)) μ1) : DE X EX (.UnaryOp .Not a pos) ρ μ Q := fun σ H F e m => by
  refine we_of (pe_notT pe_we) ?_
  refine (h σ H F e m).mono fun v H1 ⟨x, F1, μ1, g1, m1, r1, q1⟩ => ?_
  obtain ⟨k, tk, q⟩ := tru_ok' m1 r1 q1
  exact ⟨k, tk, ⟨_, F1, μ1, g1, m1, .bl _, q⟩⟩
theorem DE.neg {a : Expr} {pos : Pos} {Q : DK} (h : DE X EX a ρ μ fun x μ1 => match x with | .int i => Q (.int (-i)) μ1 | _ => False) : DE X EX (.UnaryOp .USub a pos) ρ μ Q := fun σ H F e m => by
  refine we_of (pe_un un_neg pe_we) ?_
  refine (h σ H F e m).mono fun v H1 ⟨x, F1, μ1, g1, m1, r1, q1⟩ => ?_
  cases r1 with
  | int i => exact ⟨i, rfl, ⟨_, F1, μ1, g1, m1, .int _, q1⟩⟩
  | _ => exact q1.elim
theorem DT.ite {t a b : Expr} {pos : Pos} {Q : DK} (h : DT X EX t ρ μ fun c μ1 => if c = true then DE X EX a ρ μ1 Q else DE X EX b ρ μ1 Q) : DE X EX (.IfExp t a b pos) ρ μ Q := fun σ H F e m => by
  refine we_of (pe_ifExp pt_wt pe_we pe_we) ?_
  refine (h σ H F e m).mono fun c H1 ⟨F1, μ1, g1, m1, q1⟩ => ?_
  cases c with
  | true =>
    rw [if_pos rfl] at q1 ⊢
    exact (q1 σ H1 F1 (e.on g1 m) m1).mono fun u H2 p => p.pre g1
  | false =>
    rw [if_neg Bool.false_ne_true] at q1 ⊢
    exact (q1 σ H1 F1 (e.on g1 m) m1).mono fun u H2 p => p.pre g1
/-- an expression of any kind as a test -/
def plainT : Expr → Bool
  | .BoolOp _ _ _ => false
  | .UnaryOp .Not _ _ => false
  | .Compare _ _ _ _ => false
  | .IfExp _ _ _ _ => false
  | _ => true
theorem plainT_ok {a : Expr} {env : Env} (h : plainT a = true) : ∀ whole, isTrue a env whole = (do let v ← whole; standAt a.pos; holding [v] (truthy v)) := by
  intro whole
  cases a with
  | UnaryOp op x p => cases op <;> first | rfl | (cases h; done)
  | _ => first | rfl | (cases h; done)
theorem DT.val {a : Expr} {Q : Bool → Mem → Prop} (hp : plainT a = true) (h : DE X EX a ρ μ fun x μ1 => truD x μ1 fun c => Q c μ1) : DT X EX a ρ μ Q := fun σ H F e m => by
  refine wt_of (pt_truth pe_we (plainT_ok hp)) ?_
  refine (h σ H F e m).mono fun v H1 ⟨x, F1, μ1, g1, m1, r1, q1⟩ => ?_
  obtain ⟨k, tk, q⟩ := tru_ok' m1 r1 q1
  exact ⟨k, tk, F1, μ1, g1, m1, q⟩
theorem DT.and1 {op : BoolOp} {a : Expr} {pos : Pos} {Q : Bool → Mem → Prop} (h : DT X EX a ρ μ Q) : DT X EX (.BoolOp op [a] pos) ρ μ Q := fun σ H F e m => by
  cases op with
  | And => exact wt_of (pw_and1 pt_wt).pt (h σ H F e m)
  | Or => exact wt_of (pw_or1 pt_wt).pt (h σ H F e m)
/-- as a test whatever its whole is -/
def WW (X : Cx) (e : Expr) : TT := fun σ H Q => ∀ (whole : Sem Value) (pins : List (Addr × Obj)) (s : Shared), Inv X pins σ H s → wpAny (model X.prog X.w) X.A (isTrue e X.env whole) (TP X pins σ Q) X.xe s
theorem pw_ww {e : Expr} : PW X e (WW X e) := ⟨fun wh pins s σ H Q I h => h wh pins s I⟩
theorem ww_of {e : Expr} {t : TT} {σ H Q} (h : PW X e t) (q : t σ H Q) : WW X e σ H Q := fun wh pins s I => h.run wh pins s σ H Q I q
theorem WW.wt {e : Expr} {σ H Q} (h : WW X e σ H Q) : WT X e σ H Q := fun pins s I => h _ pins s I
theorem WW.mono {e : Expr} {σ H} {Q Q' : Bool → Hp → Prop} (h : WW X e σ H Q) (m : ∀ v H', Q v H' → Q' v H') : WW X e σ H Q' :=
  fun wh pins s I => thn (h wh pins s I) fun u s' ⟨H', I', q⟩ => ⟨H', I', m u H' q⟩
def DW (X : Cx) (EX : EK) (e : Expr) (ρ : Rho) (μ : Mem) (Q : Bool → Mem → Prop) : Prop := ∀ σ H F, RE X EX H F μ σ ρ → MS X.K H F μ → WW X e σ H (PostT X.K H F μ Q)
theorem PostT.pre {K H F μ H1 F1 μ1 Q v H'} (g : Grow H F μ H1 F1 μ1) (h : PostT K H1 F1 μ1 Q v H') : PostT K H F μ Q v H' :=
  let ⟨F', μ', g2, m, q⟩ := h
  ⟨F', μ', g.trans g2, m, q⟩
theorem DW.dt {e : Expr} {Q : Bool → Mem → Prop} (h : DW X EX e ρ μ Q) : DT X EX e ρ μ Q := fun σ H F en m => (h σ H F en m).wt
theorem DW.one {op : BoolOp} {a : Expr} {pos : Pos} {Q : Bool → Mem → Prop} (h : DT X EX a ρ μ Q) : DW X EX (.BoolOp op [a] pos) ρ μ Q := fun σ H F e m => by
  cases op with
  | And => exact ww_of (pw_and1 pt_wt) (h σ H F e m)
  | Or => exact ww_of (pw_or1 pt_wt) (h σ H F e m)
theorem DW.and {a b : Expr} {rest : List Expr} {pos : Pos} {Q : Bool → Mem → Prop} (h : DT X EX a ρ μ fun c μ1 => if c = true then DW X EX (.BoolOp .And (b :: rest) pos) ρ μ1 Q else Q false μ1) : DW X EX (.BoolOp .And (a :: b :: rest) pos) ρ μ Q := fun σ H F e m => by
  refine ww_of (pw_and pt_wt pw_ww) ?_
  refine (h σ H F e m).mono fun c H1 ⟨F1, μ1, g1, m1, q1⟩ => ?_
  cases c with
  | true =>
    rw [if_pos rfl] at q1 ⊢
    exact (q1 σ H1 F1 (e.on g1 m) m1).mono fun u H2 p => p.pre g1
  | false =>
    rw [if_neg Bool.false_ne_true] at q1 ⊢
    exact ⟨F1, μ1, g1, m1, q1⟩
theorem DW.or {a b : Expr} {rest : List Expr} {pos : Pos} {Q : Bool → Mem → Prop} (h : DT X EX a ρ μ fun c μ1 => if c = true then Q true μ1 else DW X EX (.BoolOp .Or (b :: rest) pos) ρ μ1 Q) : DW X EX (.BoolOp .Or (a :: b :: rest) pos) ρ μ Q := fun σ H F e m => by
  refine ww_of (pw_or pt_wt pw_ww) ?_
  refine (h σ H F e m).mono fun c H1 ⟨F1, μ1, g1, m1, q1⟩ => ?_
  cases c with
  | false =>
    rw [if_neg Bool.false_ne_true] at q1 ⊢
    exact (q1 σ H1 F1 (e.on g1 m) m1).mono fun u H2 p => p.pre g1
  | true =>
    rw [if_pos rfl] at q1 ⊢
    exact ⟨F1, μ1, g1, m1, q1⟩
theorem DT.not {a : Expr} {pos : Pos} {Q : Bool → Mem → Prop} (h : DT X EX a ρ μ fun c μ1 => Q (!c) μ1) : DT X EX (.UnaryOp .Not a pos) ρ μ Q := fun σ H F e m => by
  refine wt_of (pt_not pt_wt) ?_
  exact (h σ H F e m).mono fun c H1 ⟨F1, μ1, g1, m1, q1⟩ => ⟨F1, μ1, g1, m1, q1⟩
theorem DT.op2 {ex a b : Expr} {r : R2} {Q : Bool → Mem → Prop} {R : D → D → Mem → Prop} (hp : ∀ ta tb, PE X a ta → PE X b tb → PT X ex (tTest (tOp r ta tb))) (h : DE X EX a ρ μ fun x μ1 => DE X EX b ρ μ1 fun y μ2 => R x y μ2)
    (hop : ∀ H F μ' v u x y (Qv : VK), MS X.K H F μ' → RD X.K H F v x → RD X.K H F u y → R x y μ' → (∀ b, Q b μ' → Qv (.bl b) H) → r v u H Qv) : DT X EX ex ρ μ Q := fun σ H F e m => by
  refine wt_of (hp _ _ pe_we pe_we) ?_
  refine (h σ H F e m).mono fun v H1 ⟨x, F1, μ1, g1, m1, r1, q1⟩ => ?_
  refine (q1 σ H1 F1 (e.on g1 m) m1).mono fun u H2 ⟨y, F2, μ2, g2, m2, r2, q2⟩ => ?_
  exact hop H2 F2 μ2 v u x y _ m2 (r1.stay (g2.stay m1)) r2 q2 fun b q => ⟨b, rfl, F2, μ2, g1.trans g2, m2, q⟩
theorem cmp_pt {op : CmpOp} {r : R2} {a b : Expr} {pos : Pos} (ho : OpR X (compareOp op) r) (hm : behindInMarks op b = false) (ta tb : TE) (ha : PE X a ta) (hb : PE X b tb) : PT X (.Compare a [op] [b] pos) (tTest (tOp r ta tb)) := pt_cmpR ho ha hb hm
/-- each comparison's reading -/
def rCm (K : PySem.W.Frag) : Cm → R2
  | .eq => fun x y H Q => rEq x y H Q ∨ rEqD K x y H Q
  | .ne => fun x y H Q => rNe x y H Q ∨ rNeD K x y H Q
  | .lt => rIS (fun i j => decide (i < j)) fun i j => decide (i.cps.toList < j.cps.toList)
  | .le => rIS (fun i j => decide (i ≤ j)) fun i j => !decide (j.cps.toList < i.cps.toList)
  | .gt => rIS (fun i j => decide (j < i)) fun i j => decide (j.cps.toList < i.cps.toList)
  | .ge => rIS (fun i j => decide (j ≤ i)) fun i j => !decide (i.cps.toList < j.cps.toList)
  | .is => fun x y H Q => y = .non ∧ Q (.bl (decide (x = .non))) H
  | .isnot => fun x y H Q => y = .non ∧ Q (.bl (!decide (x = .non))) H
  | .inn => rInA K false
  | .notin => rInA K true
theorem op_cm (un : X.A.units + 65 < cLine) : ∀ o : Cm, OpR X (compareOp o.op) (rCm X.K o)
  | .eq => op_eq.or (op_eqD (by omega))
  | .ne => op_ne.or (op_neD (by omega))
  | .lt => op_ltS
  | .le => op_leS
  | .gt => op_gtS
  | .ge => op_geS
  | .is => op_isN
  | .isnot => op_notN
  | .inn => op_inA un
  | .notin => op_notinA un
theorem cm_ok {K H F} {o : Cm} {v u : V} {x y : D} {q : Bool → Prop} {Qv : VK} (m : MS K H F μ) (r1 : RD K H F v x) (r2 : RD K H F u y) (h : cmpD o x y μ q) (k : ∀ b, q b → Qv (.bl b) H) : rCm K o v u H Qv := by
  cases o with
  | eq => exact eq_ok m r1 r2 h k
  | ne => exact ne_ok m r1 r2 h k
  | lt => exact lt_ok (q := q) r1 r2 h k
  | le => exact lt_ok (q := q) r1 r2 h k
  | gt => exact lt_ok (q := q) r1 r2 h k
  | ge => exact lt_ok (q := q) r1 r2 h k
  | is =>
    obtain ⟨e, h⟩ := isD_non (show isD y (q x.isNon) from h)
    subst e
    cases r2
    exact ⟨rfl, by rw [isNon_V r1]; exact k _ h⟩
  | isnot =>
    obtain ⟨e, h⟩ := isD_non (show isD y (q (!x.isNon)) from h)
    subst e
    cases r2
    exact ⟨rfl, by rw [isNon_V r1]; exact k _ h⟩
  | inn => exact in_ok (q := q) m r1 r2 h fun b hb => k _ hb
  | notin => exact in_ok (q := fun b => q (!b)) m r1 r2 h fun b hb => k _ hb
theorem DT.cmp (sx : SX G X N sc) {o : Cm} {a b : Expr} {pos : Pos} {Q : Bool → Mem → Prop} (hb : isSetE b = false) (h : DE X EX a ρ μ fun x μ1 => DE X EX b ρ μ1 fun y μ2 => cmpD o x y μ2 fun c => Q c μ2) : DT X EX (.Compare a [o.op] [b] pos) ρ μ Q :=
  DT.op2 (cmp_pt (op_cm sx.un o) (mark_no hb)) h fun H F μ' v u x y Qv m r1 r2 q k => cm_ok (q := fun c => Q c μ') m r1 r2 q k
theorem DE.chain (sx : SX G X N sc) {o o' : Cm} {a b c : Expr} {pos : Pos} {Q : DK} (h : DE X EX a ρ μ fun x μ1 => DE X EX b ρ μ1 fun y μ2 => cmpD o x y μ2 fun k => if k = true then DE X EX c ρ μ2 fun z μ3 => cmpD o' y z μ3 fun k' => Q (.bl k') μ3 else Q (.bl false) μ2)
    (hc : ∀ ta tb tc, PE X a ta → PE X b tb → PE X c tc → PE X (.Compare a [o.op, o'.op] [b, c] pos) (tChain (rCm X.K o) (rCm X.K o') ta tb tc)) : DE X EX (.Compare a [o.op, o'.op] [b, c] pos) ρ μ Q := fun σ H F e m => by
  refine we_of (hc _ _ _ pe_we pe_we pe_we) ?_
  refine (h σ H F e m).mono fun v H1 ⟨x, F1, μ1, g1, m1, r1, q1⟩ => ?_
  refine (q1 σ H1 F1 (e.on g1 m) m1).mono fun u H2 ⟨y, F2, μ2, g2, m2, r2, q2⟩ => ?_
  refine cm_ok m2 (r1.stay (g2.stay m1)) r2 q2 fun k q => ⟨k, rfl, ?_⟩
  have g12 := g1.trans g2
  cases k with
  | false => exact ⟨_, F2, μ2, g12, m2, .bl _, q⟩
  | true =>
    rw [if_pos rfl] at q
    refine (q σ H2 F2 (e.on g12 m) m2).mono fun z H3 ⟨w, F3, μ3, g3, m3, r3, q3⟩ => ?_
    exact cm_ok m3 (r2.stay (g3.stay m2)) r3 q3 fun k' q' => ⟨_, F3, μ3, g12.trans g3, m3, .bl _, q'⟩
end
end DL
namespace DL
open PySem PySem.Spec PyProof.Rows L2
section
variable {G : Gc} {X : Cx} {N : List Str} {sc : Scope} {ρ : Rho} {μ : Mem}

/-! ### displays, subscripts -/
theorem DE.tup {es : List Expr} {k : Nat} {pos : Pos} {Q : DK} (h : DA X EX es ρ μ fun ds μ1 => ds.length ≤ 16777216 ∧ Q (.tup ds) μ1) : DE X EX (.Tuple es k pos) ρ μ Q := fun σ H F e m => by
  refine we_of (pe_tup pa_wa) ?_
  refine (h σ H F e m).mono fun vs H1 ⟨ds, F1, μ1, g1, m1, r1, hl, q⟩ => ⟨by rw [r1.length, line_eq]; exact hl, newT_ok m1 r1 q fun v H' p => p.pre g1⟩
theorem DE.lst {z : Bool} {es : List Expr} {pos : Pos} {Q : DK} (h : DA X EX es ρ μ fun ds μ1 => ds.length ≤ 16777216 ∧ newL z ds μ1 Q) : DE X EX (.List es pos) ρ μ Q := fun σ H F e m => by
  refine we_of (pe_lst pa_wa) ?_
  refine (h σ H F e m).mono fun vs H1 ⟨ds, F1, μ1, g1, m1, r1, hl, q⟩ => ⟨by rw [r1.length, line_eq]; exact hl, newL_ok m1 r1 q fun v H' p => p.pre g1⟩
theorem atI_rd {K H F} {vs : List V} {ds : List D} {k : Int} {d : D} (r : RDs K H F vs ds) (h : atI ds k = some d) : ∃ v, atI vs k = some v ∧ RD K H F v d := by
  unfold atI at h ⊢
  rw [r.length]
  cases e : ixN ds.length k with
  | none => rw [e] at h; cases h
  | some j =>
    rw [e] at h
    exact r.get h
theorem ix_ok {K H F} {v u : V} {x y : D} {Q : DK} {Qv : VK} (m : MS K H F μ) (r1 : RD K H F v x) (r2 : RD K H F u y) (h : ixD x y μ Q) (k : ∀ v H', Post K H F μ Q v H' → Qv v H') : rIx K v u H Qv := by
  cases y with
  | int i =>
    cases r2
    have gen2 : (optD (seqA μ x) fun l => optD (atI l i) fun d => Q d μ) → rIx K v (.int i) H Qv := fun h => by
      obtain ⟨l, hl, h⟩ := optD_ok h
      obtain ⟨d, e, h⟩ := optD_ok h
      obtain ⟨a, vs, ev, hs, rs⟩ := seqA_rd m r1 hl
      subst ev
      obtain ⟨w, hw, rw'⟩ := atI_rd rs e
      rcases hs with ⟨hs, _⟩ | ⟨hs, _⟩
      · exact .inl ⟨a, vs, i, w, rfl, rfl, hs, hw, k _ _ (.now m rw' h)⟩
      · exact .inr (.inl ⟨a, vs, i, w, rfl, rfl, hs, hw, k _ _ (.now m rw' h)⟩)
    cases x with
    | str s =>
      cases r1
      obtain ⟨hl, h⟩ := (show s.length ≤ 16777216 ∧ (optD (atI s.cps.toList i) fun c => Q (.str ⟨#[c]⟩) μ) from h)
      obtain ⟨c, e, h⟩ := optD_ok h
      exact .inr (.inr ⟨s, i, c, rfl, rfl, by rw [line_eq]; exact hl, e, k _ _ (.now m (.str _) h)⟩)
    | _ => exact gen2 h
  | _ => exact h.elim
theorem DE.ix {a b : Expr} {pos : Pos} {Q : DK} (hb : isSlice b = false) (h : DE X EX a ρ μ fun x μ1 => DE X EX b ρ μ1 fun y μ2 => ixD x y μ2 Q) : DE X EX (.Subscript a b pos) ρ μ Q :=
  DE.op2 (fun ta tb ha hb' => pe_ix ix_seq ha hb' (plain_ix hb)) h fun H F μ' v u x y Qv m r1 r2 q k => ix_ok m r1 r2 q k
/-- a part of a slice -/
def WO (X : Cx) (e : Option Expr) : TO := fun σ H Q => ∀ (pins : List (Addr × Obj)) (s : Shared), Inv X pins σ H s →
  wpAny (model X.prog X.w) X.A (evalPart e X.env) (fun u s' => ∃ o H', Inv X pins σ H' s' ∧ IsPart u o ∧ Q o H') X.xe s
theorem po_wo {e : Option Expr} : PO X e (WO X e) := ⟨fun pins s σ H Q I h => h pins s I⟩
theorem wo_of {e : Option Expr} {t : TO} {σ H Q} (h : PO X e t) (q : t σ H Q) : WO X e σ H Q := fun pins s I => h.run pins s σ H Q I q
theorem WO.mono {e : Option Expr} {σ H} {Q Q' : Option Int → Hp → Prop} (h : WO X e σ H Q) (m : ∀ v H', Q v H' → Q' v H') : WO X e σ H Q' :=
  fun pins s I => thn (h pins s I) fun u s' ⟨o, H', I', r, q⟩ => ⟨o, H', I', r, m o H' q⟩
def PostO (K : PySem.W.Frag) (H : Hp) (F : Addr → Prop) (μ : Mem) (Q : Option Int → Mem → Prop) : Option Int → Hp → Prop := fun b H' => ∃ F' μ', Grow H F μ H' F' μ' ∧ MS K H' F' μ' ∧ Q b μ'
def DO (X : Cx) (EX : EK) (e : Option Expr) (ρ : Rho) (μ : Mem) (Q : Option Int → Mem → Prop) : Prop := ∀ σ H F, RE X EX H F μ σ ρ → MS X.K H F μ → WO X e σ H (PostO X.K H F μ Q)
theorem DO.no {Q : Option Int → Mem → Prop} (q : Q none μ) : DO X EX none ρ μ Q := fun σ H F e m => wo_of po_none ⟨F, μ, .refl, m, q⟩
theorem DO.one {a : Expr} {Q : Option Int → Mem → Prop} (h : DE X EX a ρ μ fun d μ1 => parD d fun i => Q i μ1) : DO X EX (some a) ρ μ Q := fun σ H F e m => by
  refine wo_of (po_some pe_we) ?_
  refine (h σ H F e m).mono fun v H1 ⟨x, F1, μ1, g1, m1, r1, q1⟩ => ?_
  cases r1 with
  | int i => exact ⟨i, rfl, F1, μ1, g1, m1, q1⟩
  | _ => exact q1.elim
def rSlAll (K : PySem.W.Frag) : V → Option Int → Option Int → Hp → VK → Prop := fun x lo hi H Q => rSlS x lo hi H Q ∨ rSlA K x lo hi H Q ∨ rSlL K x lo hi H Q
theorem sl_all : SlR X (rSlAll X.K) := sl_str.or (sl_tupA.or sl_list)
theorem cut_rd {K H F} {vs : List V} {ds : List D} {lo hi : Option Int} (r : RDs K H F vs ds) : RDs K H F (cutV vs lo hi) (cutD ds lo hi) := by
  unfold cutV cutD
  rw [r.length]
  exact (r.drop _).take _
theorem cut_all {ds : List D} {lo hi : Option Int} (h : HT.sIx ds.length 0 lo = 0 ∧ HT.sIx ds.length ds.length hi = ds.length) : cutD ds lo hi = ds := by
  unfold cutD
  rw [h.1, h.2]
  simp
theorem sl_ok {K H F} {z : Bool} {v : V} {x : D} {lo hi : Option Int} {Q : DK} {Qv : VK} (m : MS K H F μ) (r1 : RD K H F v x) (h : slD z x lo hi μ Q) (k : ∀ v H', Post K H F μ Q v H' → Qv v H') : rSlAll K v lo hi H Qv := by
  have gen : (optD (seqL μ x) fun l => newL z (cutD l lo hi) μ Q) → rSlAll K v lo hi H Qv := fun h => by
    obtain ⟨l, e, h⟩ := optD_ok h
    obtain ⟨a, vs, ev, hs, rs⟩ := seqL_rd m r1 e
    exact .inr (.inr ⟨a, vs, ev, hs, newL_ok m (cut_rd rs) h k⟩)
  cases x with
  | str s => cases r1; exact .inl ⟨s, rfl, by rw [line_eq]; exact h.1, k _ _ (.now m (.str _) h.2)⟩
  | tup l =>
    have h : Q (.tup (cutD l lo hi)) μ := h
    cases r1 with
    | tup t rs =>
    refine .inr (.inl ⟨_, _, rfl, t, fun e => ?_, fun _ => newT_ok m (cut_rd rs) h k⟩)
    rw [rs.length] at e
    rw [cut_all e] at h
    exact k _ _ (.now m (.tup t rs) h)
  | _ => exact gen h
theorem DE.sl {z : Bool} {a : Expr} {lo hi : Option Expr} {pos p2 : Pos} {Q : DK} (h : DE X EX a ρ μ fun x μ1 => DO X EX lo ρ μ1 fun l μ2 => DO X EX hi ρ μ2 fun u μ3 => slD z x l u μ3 Q) : DE X EX (.Subscript a (.Slice lo hi none p2) pos) ρ μ Q := fun σ H F e m => by
  refine we_of (pe_slice sl_all pe_we po_wo po_wo) ?_
  refine (h σ H F e m).mono fun v H1 ⟨x, F1, μ1, g1, m1, r1, q1⟩ => ?_
  refine (q1 σ H1 F1 (e.on g1 m) m1).mono fun l H2 ⟨F2, μ2, g2, m2, q2⟩ => ?_
  have g12 := g1.trans g2
  refine (q2 σ H2 F2 (e.on g12 m) m2).mono fun u H3 ⟨F3, μ3, g3, m3, q3⟩ => ?_
  exact sl_ok m3 (r1.stay ((g2.trans g3).stay m1)) q3 fun v' H' p => p.pre (g12.trans g3)
theorem DE.fz {a : Expr} {Q : DK} (h : DE X EX a ρ μ fun x μ1 => fzD x μ1 Q) : DE X EX a ρ μ Q := fun σ H F e m => by
  refine (h σ H F e m).mono fun v H1 ⟨x, F1, μ1, g1, m1, r1, q1⟩ => ?_
  cases x with
  | ref a =>
    obtain ⟨l, e2, q1⟩ := optD_ok (show optD (seqL μ1 (.ref a)) _ from q1)
    cases r1
    obtain ⟨F2, g2, m2, r2⟩ := freeze m1 (seqL_ref e2)
    exact ⟨_, F2, _, g1.trans g2, m2, r2, q1⟩
  | _ => exact ⟨_, F1, μ1, g1, m1, r1, q1⟩

theorem shutD_ok {y : D} {k : Mem → Prop} (h : shutD y μ k) : ∃ a p q r, y = .ref a ∧ μ a = some (.lst (.int p :: .int q :: r)) ∧ (0 ≤ p ∧ 0 ≤ q ∧ q < 2147483648) ∧ k (mset μ a (.pot r)) := by
  cases y with
  | ref a =>
    obtain ⟨l, e, h⟩ := optD_ok (show optD (seqL μ (.ref a)) _ from h)
    match l, e, h with
    | .int p :: .int q :: r, e, h => exact ⟨a, p, q, r, rfl, seqL_ref e, h.1, h.2⟩
  | _ => exact h.elim
theorem openD_ok {y : D} {k : Mem → Prop} (h : openD y μ k) : ∃ a r, y = .ref a ∧ μ a = some (.pot r) ∧ ∀ p q : Int, 0 ≤ p → 0 ≤ q → q < 2147483648 → k (mset μ a (.lst (.int p :: .int q :: r))) := by
  cases y with
  | ref a =>
    obtain ⟨l, e, h⟩ := optD_ok (show optD (potOf μ a) _ from h)
    refine ⟨a, l, rfl, ?_, h⟩
    unfold potOf at e
    split at e
    · cases e; assumption
    · cases e
  | _ => exact h.elim
theorem drop_ok {K H F} {ρ : Rho} : ∀ (is : List Nat) {μ : Mem}, MS K H F μ → Grow H F μ H F (dropM ρ is μ) ∧ MS K H F (dropM ρ is μ)
  | [], μ, m => ⟨.refl, m⟩
  | i :: is, μ, m => by
    have h1 : Grow H F μ H F (mdelO μ (refAt ρ i)) ∧ MS K H F (mdelO μ (refAt ρ i)) := by
      cases refAt ρ i with
      | none => exact ⟨.refl, m⟩
      | some a => exact forget_mem a m
    obtain ⟨g2, m2⟩ := drop_ok (ρ := ρ) is h1.2
    exact ⟨h1.1.trans g2, m2⟩
theorem DE.drop {is : List Nat} {a : Expr} {Q : DK} (h : DE X EX a ρ μ fun x μ1 => Q x (dropM ρ is μ1)) : DE X EX a ρ μ Q := fun σ H F e m => by
  refine (h σ H F e m).mono fun v H1 ⟨x, F1, μ1, g1, m1, r1, q1⟩ => ?_
  obtain ⟨g2, m2⟩ := drop_ok (ρ := ρ) is m1
  exact ⟨x, F1, _, g1.trans g2, m2, r1, q1⟩
/-- what leaves forgets some objects -/
theorem DE.lax {is : List Nat} {a : Expr} {Q : DK} (h : DE X (fun c ds μ' => EX c ds (dropM ρ is μ')) a ρ μ Q) : DE X EX a ρ μ Q := fun σ H F e m =>
  h σ H F ⟨e.toREnv, e.tk.imp fun c d _ H' ⟨c', ds, F', μ', hm, g, ms, at_, q⟩ => let ⟨g2, m2⟩ := drop_ok (ρ := ρ) is ms; ⟨c', ds, F', _, hm, g.trans g2, m2, at_, q⟩⟩ m
theorem DE.pt {a : Expr} {Q : DK} (h : DE X EX a ρ μ fun x μ1 => shutD x μ1 fun μ2 => Q x μ2) : DE X EX a ρ μ Q := fun σ H F e m => by
  refine (h σ H F e m).mono fun v H1 ⟨x, F1, μ1, g1, m1, r1, q1⟩ => ?_
  obtain ⟨b, p, q, r, ey, em, bd, k⟩ := shutD_ok q1
  obtain ⟨g2, m2⟩ := shut_pot m1 em bd
  exact ⟨x, F1, _, g1.trans g2, m2, r1, k⟩
theorem DE.shut {i : Nat} {a : Expr} {Q : DK} (h : DE X EX a ρ μ fun x μ1 => getV ρ i fun y => shutD y μ1 fun μ2 => Q x μ2) : DE X EX a ρ μ Q := fun σ H F e m => by
  refine (h σ H F e m).mono fun v H1 ⟨x, F1, μ1, g1, m1, r1, q1⟩ => ?_
  obtain ⟨y, _, q1⟩ := getV_ok q1
  obtain ⟨b, p, q, r, ey, em, bd, k⟩ := shutD_ok q1
  obtain ⟨g2, m2⟩ := shut_pot m1 em bd
  exact ⟨x, F1, _, g1.trans g2, m2, r1, k⟩

/-! ### calls -/
theorem DE.callB {id : String} {r : List V → Hp → VK → Prop} {x : Str} {e : Expr} {es : List Expr} {p pos : Pos} {R : List D → Mem → Prop} {Q : DK} (hc : CallR X (.builtin id) r) (hg : Gl X x) (hm : X.mg x = none) (hv : bootBuiltins x = some (.builtin id)) (hn : nmB x = true) (hs : (e :: es).all noStar = true)
    (h : DA X EX (e :: es) ρ μ R) (hop : ∀ H F μ' vs ds (Qv : VK), MS X.K H F μ' → RDs X.K H F vs ds → R ds μ' → (∀ v H', Post X.K H F μ' Q v H' → Qv v H') → r vs H Qv) : DE X EX (.Call (.Name x p) (e :: es) [] pos) ρ μ Q := fun σ H F en m => by
  have hs2 := hs
  rw [List.all_cons, Bool.and_eq_true] at hs2
  refine we_of (pe_callB hc hg hm hv pa_wa (nm3 hn).2.2 (nm3 hn).1 (star_cons hs2.1) (star_any hs2.2)) ?_
  exact (h σ H F en m).mono fun vs H1 ⟨ds, F1, μ1, g1, m1, r1, q1⟩ => hop H1 F1 μ1 vs ds _ m1 r1 q1 fun v' H' p => p.pre g1
theorem DE.callTy {id : String} {r : List V → Hp → VK → Prop} {x : Str} {e : Expr} {es : List Expr} {p pos : Pos} {R : List D → Mem → Prop} {Q : DK} (hc : CallR X (.type id) r) (hg : Gl X x) (hm : X.mg x = none) (hv : bootBuiltins x = some (.type id)) (hn : nmB x = true) (hs : (e :: es).all noStar = true)
    (h : DA X EX (e :: es) ρ μ R) (hop : ∀ H F μ' vs ds (Qv : VK), MS X.K H F μ' → RDs X.K H F vs ds → R ds μ' → (∀ v H', Post X.K H F μ' Q v H' → Qv v H') → r vs H Qv) : DE X EX (.Call (.Name x p) (e :: es) [] pos) ρ μ Q := fun σ H F en m => by
  have hs2 := hs
  rw [List.all_cons, Bool.and_eq_true] at hs2
  refine we_of (pe_callTy hc hg hm hv pa_wa (nm3 hn).2.2 (nm3 hn).1 (star_cons hs2.1) (star_any hs2.2)) ?_
  exact (h σ H F en m).mono fun vs H1 ⟨ds, F1, μ1, g1, m1, r1, q1⟩ => hop H1 F1 μ1 vs ds _ m1 r1 q1 fun v' H' p => p.pre g1
theorem DE.call (sx : SX G X N sc) {f : Str} {e : Expr} {es : List Expr} {p pos : Pos} {Q : DK} (hh : G.has f = true) (hg : gloB sc f = true) (hn : nmB f = true) (hs : (e :: es).all noStar = true)
    (h : DA X EX (e :: es) ρ μ fun ds μ1 => G.fn f ds μ1 Q EX) : DE X EX (.Call (.Name f p) (e :: es) [] pos) ρ μ Q := fun σ H F en m => by
  obtain ⟨k, fa, fd, ps, ok, room, hm, hk, hb⟩ := sx.fn f hh
  have hs2 := hs
  rw [List.all_cons, Bool.and_eq_true] at hs2
  refine we_of (pe_call (E := fun cls d H' => Wish X.K X.mg H F μ EX cls d H') ok room (sx.glo hg) hm hk hb .nil (passes_call en.tk.takes fun _ _ _ _ h => h) pa_wa (nm3 hn).1 (star_cons hs2.1) (star_any hs2.2)) ?_
  refine (h σ H F en m).mono fun vs H1 ⟨ds, F1, μ1, g1, m1, r1, q1⟩ => ?_
  rw [List.append_nil]
  exact ⟨F1, μ1, ds, Q, EX, m1, r1, q1, fun v H' p => p.pre g1, fun _ _ _ w => w.pre g1⟩
theorem DE.call0 (sx : SX G X N sc) {f : Str} {p pos : Pos} {Q : DK} (hh : G.has f = true) (hg : gloB sc f = true) (hn : nmB f = true)
    (h : G.fn f [] μ Q EX) : DE X EX (.Call (.Name f p) [] [] pos) ρ μ Q := fun σ H F en m => by
  obtain ⟨k, fa, fd, ps, ok, room, hm, hk, hb⟩ := sx.fn f hh
  exact we_of (pe_call0 (E := fun cls d H' => Wish X.K X.mg H F μ EX cls d H') ok room (sx.glo hg) hm hk hb .nil (passes_call en.tk.takes fun _ _ _ _ h => h) (nm3 hn).1) ⟨F, μ, [], Q, EX, m, .nil, h, fun v H' p => p, fun _ _ _ w => w⟩

theorem asInts_eq : ∀ {ds : List D} {ns : List Int}, asInts ds = some ns → ds = ns.map D.int
  | [], ns, h => by cases h; rfl
  | .int i :: r, ns, h => by
    have h : (asInts r).map (i :: ·) = some ns := h
    cases e : asInts r with
    | none => rw [e] at h; cases h
    | some ms => rw [e] at h; cases h; rw [asInts_eq e]; rfl
  | .non :: _, _, h => nomatch h
  | .bl _ :: _, _, h => nomatch h
  | .str _ :: _, _, h => nomatch h
  | .tup _ :: _, _, h => nomatch h
  | .lst _ :: _, _, h => nomatch h
  | .lk _ :: _, _, h => nomatch h
  | .ref _ :: _, _, h => nomatch h
theorem asBls_eq : ∀ {ds : List D} {ns : List Bool}, asBls ds = some ns → ds = ns.map D.bl
  | [], ns, h => by cases h; rfl
  | .bl i :: r, ns, h => by
    have h : (asBls r).map (i :: ·) = some ns := h
    cases e : asBls r with
    | none => rw [e] at h; cases h
    | some ms => rw [e] at h; cases h; rw [asBls_eq e]; rfl
  | .non :: _, _, h => nomatch h
  | .int _ :: _, _, h => nomatch h
  | .str _ :: _, _, h => nomatch h
  | .tup _ :: _, _, h => nomatch h
  | .lst _ :: _, _, h => nomatch h
  | .lk _ :: _, _, h => nomatch h
  | .ref _ :: _, _, h => nomatch h
theorem asStrs_eq : ∀ {ds : List D} {ns : List Str}, asStrs ds = some ns → ds = ns.map D.str
  | [], ns, h => by cases h; rfl
  | .str i :: r, ns, h => by
    have h : (asStrs r).map (i :: ·) = some ns := h
    cases e : asStrs r with
    | none => rw [e] at h; cases h
    | some ms => rw [e] at h; cases h; rw [asStrs_eq e]; rfl
  | .non :: _, _, h => nomatch h
  | .int _ :: _, _, h => nomatch h
  | .bl _ :: _, _, h => nomatch h
  | .tup _ :: _, _, h => nomatch h
  | .lst _ :: _, _, h => nomatch h
  | .lk _ :: _, _, h => nomatch h
  | .ref _ :: _, _, h => nomatch h
theorem one_of {K H F} {vs : List V} {x : D} (r : RDs K H F vs [x]) : ∃ v, vs = [v] ∧ RD K H F v x := by
  cases r with
  | cons h r => cases r; exact ⟨_, rfl, h⟩
theorem two_of {K H F} {vs : List V} {x y : D} (r : RDs K H F vs [x, y]) : ∃ v u, vs = [v, u] ∧ RD K H F v x ∧ RD K H F u y := by
  cases r with
  | cons h r =>
    obtain ⟨u, e, h2⟩ := one_of r
    subst e
    exact ⟨_, u, rfl, h, h2⟩
/-- what a list of ints, of truths is -/
theorem ints_rd {K H F} {v : V} {x : D} {l : List D} {ns : List Int} (m : MS K H F μ) (r : RD K H F v x) (h : seqL μ x = some l) (hi : asInts l = some ns) : ∃ a, v = .ref a ∧ SqL K H a (ns.map V.int) := by
  obtain ⟨a, vs, e, hs, rs⟩ := seqL_rd m r h
  rw [asInts_eq hi] at rs
  rw [rs.ints] at hs
  exact ⟨a, e, hs⟩
theorem bls_rd {K H F} {v : V} {x : D} {l : List D} {ns : List Bool} (m : MS K H F μ) (r : RD K H F v x) (h : seqL μ x = some l) (hi : asBls l = some ns) : ∃ a, v = .ref a ∧ SqL K H a (ns.map V.bl) := by
  obtain ⟨a, vs, e, hs, rs⟩ := seqL_rd m r h
  rw [asBls_eq hi] at rs
  rw [rs.bls] at hs
  exact ⟨a, e, hs⟩
/-- ds is one thing -/
theorem sing {α : Type} {P : α → Prop} {ds : List α} (h : match ds with | [x] => P x | _ => False) : ∃ x, ds = [x] ∧ P x := by
  cases ds with
  | nil => exact h.elim
  | cons x r =>
    cases r with
    | nil => exact ⟨x, rfl, h⟩
    | cons _ _ => exact h.elim
theorem seqA_or {K H F} {v : V} {x : D} {l : List D} (m : MS K H F μ) (r : RD K H F v x) (h : seqA μ x = some l) : ∃ p vs, v = .ref p ∧ (SqL K H p vs ∨ SqT K H p vs) ∧ RDs K H F vs l := by
  obtain ⟨a, vs, e, hs, rs⟩ := seqA_rd m r h
  exact ⟨a, vs, e, hs.elim (fun z => .inl z.1) (fun z => .inr z.1), rs⟩
theorem len_ok {K H F} {vs : List V} {x : D} {Q : DK} {Qv : VK} (m : MS K H F μ) (r : RDs K H F vs [x]) (h : lenD x μ Q) (k : ∀ v H', Post K H F μ Q v H' → Qv v H') : ∃ x n, vs = [x] ∧ LenV K x H n ∧ Qv (.int n) H := by
  obtain ⟨v, e, r1⟩ := one_of r
  subst e
  have gen : (optD (seqA μ x) fun l => Q (.int l.length) μ) → ∃ x n, [v] = [x] ∧ LenV K x H n ∧ Qv (.int n) H := fun h => by
    obtain ⟨l, e, h⟩ := optD_ok h
    obtain ⟨p, vs, ev, hs, rs⟩ := seqA_or m r1 e
    subst ev
    refine ⟨_, vs.length, rfl, hs.elim (fun z => .inl ⟨vs, z, rfl⟩) (fun z => .inr ⟨vs, z, rfl⟩), ?_⟩
    rw [rs.length]
    exact k _ _ (.now m (.int _) h)
  cases x with
  | str s => cases r1; exact ⟨_, s.length, rfl, ⟨by rw [line_eq]; exact h.1, rfl⟩, k _ _ (.now m (.int _) h.2)⟩
  | _ => exact gen h
def rIntA : List V → Hp → VK → Prop := fun xs H Q => ((∃ i, xs = [.int i] ∧ Q (.int i) H) ∨ ∃ k, xs = [.bl k] ∧ Q (.int (if k then 1 else 0)) H) ∨ ∃ a n, xs = [.str a] ∧ PySem.intText? a = some n ∧ a.length ≤ 640 ∧ Q (.int n) H
theorem CallR.or {f : Value} {r r' : List V → Hp → VK → Prop} (h : CallR X f r) (h' : CallR X f r') : CallR X f (fun xs H Q => r xs H Q ∨ r' xs H Q) := by
  intro pins s σ H xs us Q I r q
  rcases q with q | q
  · exact h pins s σ H xs us Q I r q
  · exact h' pins s σ H xs us Q I r q
theorem call_intA : CallR X (.type "int") rIntA := CallR.or call_int1 call_int_str
theorem int_ok {K H F} {vs : List V} {x : D} {Q : DK} {Qv : VK} (m : MS K H F μ) (r : RDs K H F vs [x]) (h : intD x μ Q) (k : ∀ v H', Post K H F μ Q v H' → Qv v H') : rIntA vs H Qv := by
  obtain ⟨v, e, r1⟩ := one_of r
  subst e
  cases x with
  | int i => cases r1; exact .inl (.inl ⟨i, rfl, k _ _ (.now m (.int _) h)⟩)
  | bl b => cases r1; exact .inl (.inr ⟨b, rfl, k _ _ (.now m (.int _) h)⟩)
  | str s =>
    cases r1
    obtain ⟨hl, h⟩ := (show s.length ≤ 640 ∧ (optD (PySem.intText? s) fun n => Q (.int n) μ) from h)
    obtain ⟨n, e, h⟩ := optD_ok h
    exact .inr ⟨s, n, rfl, e, hl, k _ _ (.now m (.int _) h)⟩
  | _ => exact h.elim
def rStrA : List V → Hp → VK → Prop := fun xs H Q => (∃ i, xs = [.int i] ∧ i.natAbs.log2 < 1920 ∧ Q (.str (toString i)) H) ∨ ((∃ a, xs = [.str a] ∧ Q (.str a) H) ∨ (xs = [.non] ∧ Q (.str "None") H))
theorem call_str_none : CallR X (.type "str") (fun xs H Q => xs = [.non] ∧ Q (.str "None") H) := by
  intro pins s σ H xs us Q I r h
  obtain ⟨rfl, q⟩ := h
  obtain ⟨u, rfl, r1⟩ := vals1 r
  cases r1
  exact PySem.P.str_of_none ⟨.str _, H, I.tok _, ⟨_, rfl⟩, q⟩
theorem call_strA : CallR X (.type "str") rStrA := CallR.or call_str_int (CallR.or SkE.call_str_str call_str_none)
theorem str_ok {K H F} {vs : List V} {x : D} {Q : DK} {Qv : VK} (m : MS K H F μ) (r : RDs K H F vs [x]) (h : strD x μ Q) (k : ∀ v H', Post K H F μ Q v H' → Qv v H') : rStrA vs H Qv := by
  obtain ⟨v, e, r1⟩ := one_of r
  subst e
  cases x with
  | int i => cases r1; exact .inl ⟨i, rfl, h.1, k _ _ (.now m (.str _) h.2)⟩
  | str s => cases r1; exact .inr (.inl ⟨s, rfl, k _ _ (.now m (.str _) h)⟩)
  | non => cases r1; exact .inr (.inr ⟨rfl, k _ _ (.now m (.str _) h)⟩)
  | _ => exact h.elim
theorem tuple_ok {K H F} {vs : List V} {x : D} {Q : DK} {Qv : VK} (m : MS K H F μ) (r : RDs K H F vs [x]) (h : tupleD x μ Q) (k : ∀ v H', Post K H F μ Q v H' → Qv v H') :
    ∃ p ys, vs = [.ref p] ∧ ((SqL K H p ys ∧ ∀ l, H l = none → Qv (.ref l) (upd H l (.tup ys))) ∨ (SqT K H p ys ∧ Qv (.ref p) H)) := by
  obtain ⟨v, e, r1⟩ := one_of r
  subst e
  unfold tupleD at h
  obtain ⟨l, e, h⟩ := optD_ok h
  obtain ⟨p, ws, ev, hs, rs⟩ := seqA_rd m r1 e
  subst ev
  rcases hs with ⟨hs, _⟩ | ⟨hs, ex⟩
  · exact ⟨p, ws, rfl, .inl ⟨hs, newT_ok m rs h k⟩⟩
  · exact ⟨p, ws, rfl, .inr ⟨hs, k _ _ (.now m (.tup hs rs) h)⟩⟩
/-- list(x), x a list, a tuple, a text -/
def rListS : List V → Hp → VK → Prop := fun xs H Q => ∃ s : Str, xs = [.str s] ∧ s.length ≤ sizeLine ∧ ∀ p, H p = none → Q (.ref p) (upd H p (.lst (s.cps.toList.map fun c => V.str ⟨#[c]⟩)))
theorem call_listS {X : Cx} (hc : X.calm = true) : CallR X (.type "list") rListS := by
  intro pins s σ H xs us Q I r h
  obtain ⟨x, rfl, hl, q⟩ := h
  obtain ⟨u, rfl, t, rfl⟩ := vals1 r
  have hl2 : x.cps.size ≤ sizeLine := hl
  refine call_list_str (I.ok.hd hc) x t (fun h' tk acc c k1 k2 k3 => ?_) hl2
  have vv : Vals (x.cps.toList.map fun c => V.str ⟨#[c]⟩) acc.toList := vals_of_at (by simp [k3.1]) fun j y u hy hu => by
    obtain ⟨c, t2, e1, e2⟩ := k3.2 j u (by rw [← Array.getElem?_toList]; exact hu)
    rw [List.getElem?_map, Array.getElem?_toList, e1] at hy
    cases hy
    exact ⟨t2, e2⟩
  exact ⟨.ref _, _, I.laid (t' := tk) k1 (Nat.le_refl _) (show ObjOk X.prog X.w _ h' _ (.lst _) from ⟨by rw [List.length_map, Array.length_toList]; exact hl2, acc.toList, c, vv, by simpa using k2⟩), rfl, q _ (I.hok.fresh (Nat.le_refl _))⟩
def rListA (K : PySem.W.Frag) : List V → Hp → VK → Prop := fun xs H Q => (∃ p ys, xs = [.ref p] ∧ (SqL K H p ys ∨ SqT K H p ys) ∧ ∀ l, H l = none → Q (.ref l) (upd H l (.lst ys))) ∨ rListS xs H Q
theorem call_listA {X : Cx} (hc : X.calm = true) : CallR X (.type "list") (rListA X.K) := CallR.or call_list_of (call_listS hc)
theorem RDs.of_chars {K H F} : ∀ {l : List Nat}, RDs K H F (l.map fun c => V.str ⟨#[c]⟩) (l.map fun c => D.str ⟨#[c]⟩)
  | [] => .nil
  | c :: l => .cons (.str _) RDs.of_chars
theorem list_ok {K H F} {z : Bool} {vs : List V} {x : D} {Q : DK} {Qv : VK} (m : MS K H F μ) (r : RDs K H F vs [x]) (h : listD z x μ Q) (k : ∀ v H', Post K H F μ Q v H' → Qv v H') : rListA K vs H Qv := by
  obtain ⟨v, e, r1⟩ := one_of r
  subst e
  have gen : ∀ {l : List D}, seqA μ x = some l → newL z l μ Q → rListA K [v] H Qv := fun {l} e h => by
    obtain ⟨p, ws, ev, hs, rs⟩ := seqA_or m r1 e
    subst ev
    exact .inl ⟨p, ws, rfl, hs, newL_ok m rs h k⟩
  unfold listD at h
  cases x with
  | str s =>
    cases r1
    exact .inr ⟨s, rfl, by rw [line_eq]; exact h.1, newL_ok m .of_chars h.2 k⟩
  | _ =>
    obtain ⟨l, e, h⟩ := optD_ok h
    exact gen e h
theorem best1_ok {K H F} {g : Int → Int → Prop} {vs : List V} {x : D} {Q : DK} {Qv : VK} (m : MS K H F μ) (r : RDs K H F vs [x]) (h : best1 g x μ Q) (k : ∀ v H', Post K H F μ Q v H' → Qv v H') :
    ∃ (a : Addr) (ns : List Int), vs = [V.ref a] ∧ SqL K H a (ns.map V.int) ∧ 0 < ns.length ∧ ∀ m, m ∈ ns → (∀ y, y ∈ ns → g y m) → Qv (.int m) H := by
  obtain ⟨v, e, r1⟩ := one_of r
  subst e
  unfold best1 at h
  obtain ⟨l, e, h⟩ := optD_ok h
  obtain ⟨ns, e2, h⟩ := optD_ok h
  obtain ⟨a, ev, hs⟩ := ints_rd m r1 e e2
  subst ev
  exact ⟨a, ns, rfl, hs, h.1, fun i h1 h2 => k _ _ (.now m (.int _) (h.2 i h1 h2))⟩
theorem best2_ok {K H F} {p : Int → Int → Bool} {vs : List V} {x y : D} {Q : DK} {Qv : VK} (m : MS K H F μ) (r : RDs K H F vs [x, y]) (h : best2 p x y μ Q) (k : ∀ v H', Post K H F μ Q v H' → Qv v H') :
    ∃ i j, vs = [.int i, .int j] ∧ Qv (.int (if p j i then j else i)) H := by
  obtain ⟨v, u, e, r1, r2⟩ := two_of r
  subst e
  cases x with
  | int i =>
    cases y with
    | int j => cases r1; cases r2; exact ⟨i, j, rfl, k _ _ (.now m (.int _) h)⟩
    | _ => exact h.elim
  | _ => exact h.elim
def rBest (K : PySem.W.Frag) (p : Int → Int → Bool) (g : Int → Int → Prop) : List V → Hp → VK → Prop := fun vs H Q => (∃ i j, vs = [.int i, .int j] ∧ Q (.int (if p j i then j else i)) H) ∨ ∃ (a : Addr) (ns : List Int), vs = [V.ref a] ∧ SqL K H a (ns.map V.int) ∧ 0 < ns.length ∧ ∀ m, m ∈ ns → (∀ y, y ∈ ns → g y m) → Q (.int m) H
theorem best_ok {K H F} {p : Int → Int → Bool} {g : Int → Int → Prop} {vs : List V} {ds : List D} {Q : DK} {Qv : VK} (m : MS K H F μ) (r : RDs K H F vs ds) (h : bestD p g ds μ Q) (k : ∀ v H', Post K H F μ Q v H' → Qv v H') : rBest K p g vs H Qv := by
  match ds, r, h with
  | [x], r, h => exact .inr (best1_ok m r h k)
  | [x, y], r, h => exact .inl (best2_ok m r h k)
theorem call_maxA (hc : X.calm = true) : CallR X (.builtin "max") (rBest X.K (fun j i => decide (j > i)) (fun y m => y ≤ m)) := by
  refine CallR.or ?_ (cr_max hc)
  intro pins s σ H xs us Q I r ⟨i, j, e, q⟩
  exact call_max2 hc pins s σ H xs us Q I r ⟨i, j, e, by simpa using q⟩
theorem call_minA (hc : X.calm = true) : CallR X (.builtin "min") (rBest X.K (fun j i => decide (j < i)) (fun y m => m ≤ y)) := by
  refine CallR.or ?_ (cr_min hc)
  intro pins s σ H xs us Q I r ⟨i, j, e, q⟩
  exact call_min2 hc pins s σ H xs us Q I r ⟨i, j, e, by simpa using q⟩
theorem one_ds {ds : List D} {p : D → Prop} (h : oneD ds p) : ∃ x, ds = [x] ∧ p x := by
  match ds, h with
  | [x], h => exact ⟨x, rfl, h⟩
theorem divp_of {i j : Int} (h : 0 < j ∧ j ≤ 2 ^ 256) : CDivP i j := by
  refine ⟨h.1, PyProof.noPylong_of_log2 ?_⟩
  have hb : j.natAbs < 2 ^ 257 := by omega
  exact Nat.lt_of_lt_of_le (PySem.Flt.log2_lt_of (by decide) hb) (by decide)
theorem DE.bi (sx : SX G X N sc) {z : Bool} {f : Bi} {e : Expr} {es : List Expr} {p pos : Pos} {Q : DK} (hg : gloB sc f.nm = true) (hs : (e :: es).all noStar = true)
    (h : DA X EX (e :: es) ρ μ fun ds μ1 => biD z f ds μ1 Q) : DE X EX (.Call (.Name f.nm p) (e :: es) [] pos) ρ μ Q := by
  have gl := sx.glo hg
  have calm := sx.calm
  have bm : X.mg f.nm = none := sx.blt _ (by cases f <;> decide +kernel)
  have nm : nmB f.nm = true := by cases f <;> decide +kernel
  cases f with
  | len =>
    refine DE.callB call_len gl bm boot_len nm hs h fun H F μ' vs ds Qv m r q k => ?_
    obtain ⟨x, e, q⟩ := one_ds q; subst e; exact len_ok m r q k
  | int =>
    refine DE.callTy call_intA gl bm boot_int nm hs h fun H F μ' vs ds Qv m r q k => ?_
    obtain ⟨x, e, q⟩ := one_ds q; subst e; exact int_ok m r q k
  | str =>
    refine DE.callTy call_strA gl bm boot_str nm hs h fun H F μ' vs ds Qv m r q k => ?_
    obtain ⟨x, e, q⟩ := one_ds q; subst e; exact str_ok m r q k
  | tuple =>
    refine DE.callTy call_tuple_of gl bm boot_tuple nm hs h fun H F μ' vs ds Qv m r q k => ?_
    obtain ⟨x, e, q⟩ := one_ds q; subst e; exact tuple_ok m r q k
  | list =>
    refine DE.callTy (call_listA sx.calm) gl bm boot_list nm hs h fun H F μ' vs ds Qv m r q k => ?_
    obtain ⟨x, e, q⟩ := one_ds q; subst e; exact list_ok m r q k
  | abs =>
    refine DE.callB call_abs gl bm boot_abs nm hs h fun H F μ' vs ds Qv m r q k => ?_
    obtain ⟨x, e, q⟩ := one_ds q; subst e
    obtain ⟨v, e, r1⟩ := one_of r
    subst e
    cases x with
    | int i => cases r1; exact ⟨i, rfl, k _ _ (.now m (.int _) q)⟩
    | _ => exact q.elim
  | max => exact DE.callB (call_maxA calm) gl bm boot_max nm hs h fun H F μ' vs ds Qv m r q k => best_ok m r q k
  | min => exact DE.callB (call_minA calm) gl bm boot_min nm hs h fun H F μ' vs ds Qv m r q k => best_ok m r q k
  | divmod =>
    refine DE.callB call_divmodW gl bm boot_divmod nm hs h fun H F μ' vs ds Qv m r q k => ?_
    match ds, r, q with
    | [x, y], r, q =>
      obtain ⟨v, u, e, r1, r2⟩ := two_of r
      subst e
      cases x with
      | int i =>
        cases y with
        | int j => cases r1; cases r2; exact ⟨i, j, rfl, divp_of q.1, newT_ok m (.cons (.int _) (.cons (.int _) .nil)) q.2 k⟩
        | _ => exact q.elim
      | _ => exact q.elim
  | sum =>
    refine DE.callB (cr_sum calm) gl bm boot_sum nm hs h fun H F μ' vs ds Qv m r q k => ?_
    obtain ⟨x, e, q⟩ := one_ds q; subst e
    obtain ⟨l, h1, q⟩ := optD_ok q
    obtain ⟨ns, h2, q⟩ := optD_ok q
    obtain ⟨v, e, r1⟩ := one_of r
    subst e
    obtain ⟨a, ev, hs⟩ := ints_rd m r1 h1 h2
    subst ev
    exact ⟨a, ns, rfl, hs, k _ _ (.now m (.int _) q)⟩
  | any =>
    refine DE.callB (cr_any calm) gl bm boot_any nm hs h fun H F μ' vs ds Qv m r q k => ?_
    obtain ⟨x, e, q⟩ := one_ds q; subst e
    obtain ⟨l, h1, q⟩ := optD_ok q
    obtain ⟨ns, h2, q⟩ := optD_ok q
    obtain ⟨v, e, r1⟩ := one_of r
    subst e
    obtain ⟨a, ev, hs⟩ := bls_rd m r1 h1 h2
    subst ev
    exact ⟨a, ns, rfl, hs, k _ _ (.now m (.bl _) q)⟩
  | all =>
    refine DE.callB (cr_all calm) gl bm boot_all nm hs h fun H F μ' vs ds Qv m r q k => ?_
    obtain ⟨x, e, q⟩ := one_ds q; subst e
    obtain ⟨l, h1, q⟩ := optD_ok q
    obtain ⟨ns, h2, q⟩ := optD_ok q
    obtain ⟨v, e, r1⟩ := one_of r
    subst e
    obtain ⟨a, ev, hs⟩ := bls_rd m r1 h1 h2
    subst ev
    exact ⟨a, ns, rfl, hs, k _ _ (.now m (.bl _) q)⟩
/-- isinstance -/
def tyN (x : D) : String := match x with
  | .non => "NoneType" | .bl _ => "bool" | .int _ => "int" | .str _ => "str" | .tup _ => "tuple" | .lst _ => "list" | .lk _ => "list" | .ref _ => "list" | .emp => "dict" | .exc _ _ _ => "dict"
theorem kit_all (t : Ty) : ∀ x : D, kitB (tyN x) t.nmS = some (isiD x t) := by
  intro x
  cases t <;> cases x <;> (simp only [tyN, Ty.nmS, isiD]; decide +kernel)
theorem ty_of {K H F} {v : V} {x : D} (m : MS K H F μ) (r : RD K H F v x) (hr : ∀ a, x = .ref a → ∃ l, μ a = some (.lst l)) (hx : ∀ c ns l, x ≠ .exc c ns l) : TyX K H v (.type (tyN x)) := by
  cases r with
  | non => exact .base .non
  | bl b => exact .base (.bl b)
  | int i => exact .base (.int i)
  | str s => exact .base (.str s)
  | tup t rs =>
    rcases t with (h | ⟨o, h⟩) | ⟨o, its, n, h1, h2, _⟩
    · exact .base (.tup h)
    · exact .fTuple h
    · exact .kTuple h1 h2
  | lst f h rs => exact .base (.lst h)
  | lk h rs =>
    rcases h with ⟨o, h⟩ | ⟨o, its, n, h1, h2, _⟩
    · exact .base (.frz h)
    · exact .kList h1 h2
  | emp f h => exact .base (.dK h)
  | exc _ _ _ _ => exact absurd rfl (hx _ _ _)
  | ref a =>
    obtain ⟨l, e⟩ := hr a rfl
    obtain ⟨_, u, hu, vs, eu, _⟩ := m.at_ a _ e
    subst eu
    exact .base (.lst hu)
theorem boot_ty : ∀ t : Ty, bootBuiltins t.nm = some (.type t.nmS) := by
  intro t
  cases t <;> decide +kernel
theorem DE.isi (sx : SX G X N sc) {a : Expr} {t : Ty} {p p2 pos : Pos} {Q : DK} (hg : gloB sc "isinstance" = true) (hg2 : gloB sc t.nm = true) (hs : noStar a = true)
    (h : DE X EX a ρ μ fun x μ1 => isiOk x μ1 ∧ Q (.bl (isiD x t)) μ1) : DE X EX (.Call (.Name "isinstance" p) [a, .Name t.nm p2] [] pos) ρ μ Q := fun σ H F en m => by
  have hm2 : X.mg t.nm = none := sx.blt _ (by cases t <;> decide +kernel)
  have nm : nmB t.nm = true := by cases t <;> decide +kernel
  refine we_of (pe_callB call_isi (sx.glo hg) (sx.blt _ (by decide +kernel)) boot_isinstance (pa_cons pe_we (pa_cons (pe_bltn (v := .ty t.nmS) (sx.glo hg2) hm2 (boot_ty t) rfl (nm3 nm).2.2 (nm3 nm).1) pa_nil) (star_cons hs)) (by decide +kernel) (by decide +kernel) (star_cons hs) (star_any rfl)) ?_
  refine (h σ H F en m).mono fun v H1 ⟨x, F1, μ1, g1, m1, r1, ok, q⟩ => ?_
  refine ⟨v, .ty t.nmS, _, _, isiD x t, rfl, .ty _, ty_of m1 r1 ?_ (fun c ns l e => by subst e; exact ok.elim), kit_ty (kit_all t x), ⟨_, F1, μ1, g1, m1, .bl _, q⟩⟩
  intro a e
  subst e
  obtain ⟨l, e, _⟩ := optD_ok (show optD (seqL μ1 (.ref a)) _ from ok)
  exact ⟨l, seqL_ref e⟩
/-- join, split -/
theorem mt_ok {K H F} {z : Bool} {f : Mt} {v : V} {vs : List V} {x : D} {ds : List D} {Q : DK} {Qv : VK} (m : MS K H F μ) (r1 : RD K H F v x) (rs : RDs K H F vs ds) (h : mtD z f x ds μ Q) (k : ∀ v H', Post K H F μ Q v H' → Qv v H') :
    (∃ a, v = .str a) ∧ ((f = .join ∧ ∃ a p, ∃ ys : List Str, v = .str a ∧ vs = [.ref p] ∧ (SqL K H p (ys.map V.str) ∨ SqT K H p (ys.map V.str)) ∧ (ys.map fun x => x.length).sum + ys.length * a.length ≤ 16777216 ∧ Qv (.str (Txt.join a ys)) H) ∨
      (f = .split ∧ ∃ a b, v = .str a ∧ vs = [.str b] ∧ (b.length == 0) = false ∧ a.length + 2 ≤ sizeLine ∧ rNewStrs (Txt.split a b) H Qv)) := by
  cases x with
  | str a =>
    cases r1
    refine ⟨⟨a, rfl⟩, ?_⟩
    cases f with
    | join =>
      obtain ⟨y, e, q⟩ := one_ds (show oneD ds fun y => joinD a y μ Q from h)
      subst e
      obtain ⟨w, e, r⟩ := one_of rs
      subst e
      unfold joinD at q
      obtain ⟨l, h1, q⟩ := optD_ok q
      obtain ⟨ys, h2, hl, q⟩ := optD_ok q
      obtain ⟨p, ws, ew, hs, rw'⟩ := seqA_or m r h1
      subst ew
      rw [asStrs_eq h2] at rw'
      have e := rw'.strs
      subst e
      exact .inl ⟨rfl, a, p, ys, rfl, rfl, hs, hl, k _ _ (.now m (.str _) q)⟩
    | split =>
      obtain ⟨y, e, q⟩ := one_ds (show oneD ds fun y => splitD z a y μ Q from h)
      subst e
      obtain ⟨w, e, r⟩ := one_of rs
      subst e
      cases y with
      | str b =>
        cases r
        obtain ⟨h1, h2, q⟩ := q
        exact .inr ⟨rfl, a, b, rfl, rfl, h1, by rw [line_eq]; exact h2, newL_ok m .of_strs q k⟩
      | _ => exact q.elim
  | _ => exact h.elim
theorem DA.rep2 {a o : Expr} {l y z : Str} {j k i : Nat} {c0 c1 c2 apos pos ppos : Pos} {Q : List D → Mem → Prop} (hyz : (y == z) = false) (hb : noSuper o = true) (hl : (apos.endLine == pos.line) = true)
    (h : DE X EX a ρ μ fun x μ1 => addOk x l ∧ DE X EX o ρ μ1 fun v μ2 => rep2D x l v y z fun ds => Q ds μ2) :
    DA X EX [.BinOp a .Add (.Constant (.str l) i c2) ppos, .Call (.Attribute o "replace" apos) [.Constant (.str y) j c0, .Constant (.str z) k c1] [] pos] ρ μ Q := fun σ H F e m => by
  refine wa_of (pa_rep2 pe_we pe_we hyz rfl (base_of hb) hl) ?_
  refine (h σ H F e m).mono fun v H1 ⟨x, F1, μ1, g1, m1, r1, hx, q1⟩ => ?_
  cases x with
  | str s =>
    cases r1
    refine ⟨s, rfl, hx, (q1 σ H1 F1 (e.on g1 m) m1).mono fun u H2 ⟨w, F2, μ2, g2, m2, r2, q2⟩ => ?_⟩
    cases w with
    | str t =>
      cases r2
      obtain ⟨q3, q4⟩ := q2
      exact ⟨t, rfl, q3, ⟨_, F2, μ2, g1.trans g2, m2, .cons (.str _) (.cons (.str _) .nil), q4⟩⟩
    | _ => exact q2.elim
  | _ => exact hx.elim
theorem DE.mt {z : Bool} {f : Mt} {o e : Expr} {apos pos : Pos} {Q : DK} (hb : noSuper o = true) (hl : (apos.endLine == pos.line) = true) (hs : noStar e = true)
    (h : DE X EX o ρ μ fun x μ1 => strIs x ∧ DE X EX e ρ μ1 fun d μ2 => mtD z f x [d] μ2 Q) : DE X EX (.Call (.Attribute o f.nm apos) [e] [] pos) ρ μ Q := fun σ H F en m => by
  have ss : starEach [e] X.env = [(false, eval e X.env)] := by rw [star_cons hs]; rfl
  have str : ∀ {x : D} {v : V} {H1 : Hp} {F1 : Addr → Prop}, RD X.K H1 F1 v x → strIs x → ∃ a, v = .str a := fun {x v H1 F1} r hx => by
    cases r <;> first | exact ⟨_, rfl⟩ | exact hx.elim
  cases f with
  | join =>
    refine we_of (pe_m1 PySem.F.slot_str_join PySem.F.type_str_join mt_join pe_we pe_we ss (base_of hb) hl) ?_
    refine (h σ H F en m).mono fun v H1 ⟨x, F1, μ1, g1, m1, r1, hx, q1⟩ => ⟨str r1 hx, ?_⟩
    refine (q1 σ H1 F1 (en.on g1 m) m1).mono fun u H2 ⟨y, F2, μ2, g2, m2, r2, q2⟩ => ?_
    obtain ⟨_, q | q⟩ := mt_ok (Qv := Post X.K H F μ Q) m2 (r1.stay (g2.stay m1)) (.cons r2 .nil) q2 fun v' H' p => p.pre (g1.trans g2)
    · exact q.2
    · cases q.1
  | split =>
    refine we_of (pe_m1 PySem.F.slot_str_split PySem.F.type_str_split mt_split pe_we pe_we ss (base_of hb) hl) ?_
    refine (h σ H F en m).mono fun v H1 ⟨x, F1, μ1, g1, m1, r1, hx, q1⟩ => ⟨str r1 hx, ?_⟩
    refine (q1 σ H1 F1 (en.on g1 m) m1).mono fun u H2 ⟨y, F2, μ2, g2, m2, r2, q2⟩ => ?_
    obtain ⟨_, q | q⟩ := mt_ok (Qv := Post X.K H F μ Q) m2 (r1.stay (g2.stay m1)) (.cons r2 .nil) q2 fun v' H' p => p.pre (g1.trans g2)
    · cases q.1
    · exact q.2
end
end DL
/-! Targets, loops, comprehensions, statements. -/
namespace DL
open PySem PySem.Spec PyProof.Rows L2
section
variable {G : Gc} {X : Cx} {N : List Str} {sc : Scope} {ρ : Rho} {μ : Mem}

/-! ### targets -/
def WG (X : Cx) (tg : Expr) : TG := fun v σ H Q => ∀ (pins : List (Addr × Obj)) (s : Shared) (u : Value), Inv X pins σ H s → RelV v u →
  wpAny (model X.prog X.w) X.A (assign tg X.env u) (fun _ s' => ∃ σ' H', Inv X pins σ' H' s' ∧ Q σ' H') X.xe s
theorem pg_wg {tg : Expr} : PG X tg (WG X tg) := ⟨fun pins s σ H v u Q I r h => h pins s u I r⟩
theorem wg_of {tg : Expr} {g : TG} {v : V} {σ : St} {H : Hp} {Q : St → Hp → Prop} (h : PG X tg g) (q : g v σ H Q) : WG X tg v σ H Q := fun pins s u I r => h.run pins s σ H v u Q I r q
theorem WG.mono {tg : Expr} {v : V} {σ : St} {H : Hp} {Q Q' : St → Hp → Prop} (h : WG X tg v σ H Q) (m : ∀ σ' H', Q σ' H' → Q' σ' H') : WG X tg v σ H Q' :=
  fun pins s u I r => thn (h pins s u I r) fun _ s' ⟨σ', H', I', q⟩ => ⟨σ', H', I', m σ' H' q⟩
/-- the slots off vs are as they were -/
def Off (vs : List Nat) (σ σ' : St) : Prop := σ'.length = σ.length ∧ ∀ j, j ∉ vs → σ'[j]? = σ[j]?
theorem Off.refl {vs σ} : Off vs σ σ := ⟨rfl, fun _ _ => rfl⟩
theorem Off.trans {vs σ σ1 σ2} (a : Off vs σ σ1) (b : Off vs σ1 σ2) : Off vs σ σ2 := ⟨b.1.trans a.1, fun j h => (b.2 j h).trans (a.2 j h)⟩
theorem Off.mono {vs ws σ σ'} (a : Off vs σ σ') (h : ∀ j, j ∈ vs → j ∈ ws) : Off ws σ σ' := ⟨a.1, fun j n => a.2 j fun z => n (h j z)⟩
def PostG (K : PySem.W.Frag) (H : Hp) (F : Addr → Prop) (μ : Mem) (vs : List Nat) (σ : St) (Q : Rho → Mem → Prop) : St → Hp → Prop := fun σ' H' => Off vs σ σ' ∧ ∃ ρ' F' μ', Grow H F μ H' F' μ' ∧ MS K H' F' μ' ∧ REnv K H' F' σ' ρ' ∧ Q ρ' μ'
/-- a name of the text may be stored -/
def stoB (sc : Scope) (X : Cx) (x : Str) : Prop := Loc X.env.scope x ∧ (X.fn x = true ∨ X.env.scope.names.lookup x = some .local)
mutual
/-- the names of a target may be stored: where they stand -/
def tgB (N : List Str) (lo : Str → Bool) : T → Expr → Bool
  | .v i, .Name x _ => decide (N[i]? = some x) && lo x
  | .tup ts, .Tuple es _ _ => tgsB N lo ts es
  | _, _ => false
def tgsB (N : List Str) (lo : Str → Bool) : Ts → List Expr → Bool
  | .nil, [] => true
  | .cons t ts, e :: es => tgB N lo t e && tgsB N lo ts es
  | _, _ => false
end
theorem tg_nostar {lo : Str → Bool} {t : T} {e : Expr} (h : tgB N lo t e = true) : noStar e = true := by
  cases t <;> cases e <;> first | rfl | (cases h; done)
theorem each_cons {e : Expr} {es : List Expr} {env : Env} (h : noStar e = true) : assignEach (e :: es) env = (false, assign e env) :: assignEach es env := by
  cases e <;> first | rfl | (cases h; done)
theorem tgs_len {lo : Str → Bool} : ∀ {ts : Ts} {es : List Expr} {env : Env}, tgsB N lo ts es = true → (assignEach es env).length = es.length ∧ (assignEach es env).findIdx? (·.1) = none
  | .nil, [], env, _ => ⟨rfl, rfl⟩
  | .cons t ts, e :: es, env, h => by
    obtain ⟨h1, h2⟩ := Bool.and_eq_true_iff.mp (show (tgB N lo t e && tgsB N lo ts es) = true from h)
    obtain ⟨i1, i2⟩ := tgs_len (env := env) h2
    rw [each_cons (tg_nostar h1)]
    refine ⟨by rw [List.length_cons, List.length_cons, i1], ?_⟩
    rw [List.findIdx?_cons, i2]
    rfl
  | .nil, _ :: _, _, h => nomatch h
  | .cons _ _, [], _, h => nomatch h
def WGs (X : Cx) (ts : List Expr) : TGs := fun vs σ H Q => ∀ (pins : List (Addr × Obj)) (s : Shared) (us : List Value), Inv X pins σ H s → Vals vs us →
  wpAny (model X.prog X.w) X.A (assignInOrder ((assignEach ts X.env).map (·.2)) us) (fun _ s' => ∃ σ' H', Inv X pins σ' H' s' ∧ Q σ' H') X.xe s
theorem pgs_wgs {ts : List Expr} : PGs X ts (WGs X ts) := ⟨fun pins s σ H vs us Q I r h => h pins s us I r⟩
theorem wgs_of {ts : List Expr} {g : TGs} {vs : List V} {σ : St} {H : Hp} {Q : St → Hp → Prop} (h : PGs X ts g) (q : g vs σ H Q) : WGs X ts vs σ H Q := fun pins s us I r => h.run pins s σ H vs us Q I r q
theorem WGs.mono {ts : List Expr} {v : List V} {σ : St} {H : Hp} {Q Q' : St → Hp → Prop} (h : WGs X ts v σ H Q) (m : ∀ σ' H', Q σ' H' → Q' σ' H') : WGs X ts v σ H Q' :=
  fun pins s u I r => thn (h pins s u I r) fun _ s' ⟨σ', H', I', q⟩ => ⟨σ', H', I', m σ' H' q⟩
theorem set_off {σ : St} {i : Nat} {x : Option V} : Off [i] σ (σ.set i x) := ⟨List.length_set, fun j h => List.getElem?_set_ne (fun e => h (by simp [e]))⟩
theorem tgB_v {lo : Str → Bool} {i : Nat} {e : Expr} (h : tgB N lo (.v i) e = true) : ∃ x p, e = .Name x p ∧ N[i]? = some x ∧ lo x = true := by
  cases e with
  | Name x p =>
    obtain ⟨h1, h2⟩ := Bool.and_eq_true_iff.mp (show (decide (N[i]? = some x) && lo x) = true from h)
    exact ⟨x, p, rfl, of_decide_eq_true h1, h2⟩
  | _ => cases h
theorem tgB_t {lo : Str → Bool} {ts : Ts} {e : Expr} (h : tgB N lo (.tup ts) e = true) : ∃ es k p, e = .Tuple es k p ∧ tgsB N lo ts es = true := by
  cases e with
  | Tuple es k p => exact ⟨es, k, p, rfl, h⟩
  | _ => cases h
mutual
theorem wpTg_ex : ∀ (t : T) (d : D) (ρ : Rho) (μ : Mem) (Q : Rho → Mem → Prop), wpTg t d ρ μ Q → ∃ ρ' μ', Q ρ' μ'
  | .v i, d, ρ, μ, Q, q => ⟨_, _, q⟩
  | .tup ts, d, ρ, μ, Q, q => by
    cases d with
    | tup ds => exact wpTgs_ex ts ds ρ μ Q q
    | lst ds => exact wpTgs_ex ts ds ρ μ Q q
    | _ => exact False.elim q
theorem wpTgs_ex : ∀ (ts : Ts) (ds : List D) (ρ : Rho) (μ : Mem) (Q : Rho → Mem → Prop), wpTgs ts ds ρ μ Q → ∃ ρ' μ', Q ρ' μ'
  | .nil, ds, ρ, μ, Q, q => ⟨_, _, q.2⟩
  | .cons t ts, ds, ρ, μ, Q, q => by
    cases ds with
    | nil => exact False.elim q
    | cons d r =>
      obtain ⟨ρ1, μ1, q1⟩ := wpTg_ex t d ρ μ _ q
      exact wpTgs_ex ts r ρ1 μ1 Q q1
end
theorem tgs_len2 {lo : Str → Bool} : ∀ (ts : Ts) (es : List Expr) (ds : List D), tgsB N lo ts es = true → ∀ {ρ : Rho} {μ : Mem} {Q : Rho → Mem → Prop}, wpTgs ts ds ρ μ Q → ds.length = es.length
  | .nil, [], ds, _, ρ, μ, Q, q => by obtain ⟨e, _⟩ := q; subst e; rfl
  | .cons t ts, e :: es, ds, h, ρ, μ, Q, q => by
    obtain ⟨h1, h2⟩ := Bool.and_eq_true_iff.mp (show (tgB N lo t e && tgsB N lo ts es) = true from h)
    cases ds with
    | nil => exact False.elim q
    | cons d ds =>
      obtain ⟨ρ1, μ1, q1⟩ := wpTg_ex t d ρ μ _ q
      rw [List.length_cons, List.length_cons, tgs_len2 ts es ds h2 q1]
  | .nil, _ :: _, _, h, _, _, _, _ => nomatch h
  | .cons _ _, [], _, h, _, _, _, _ => nomatch h
section
variable {lo : Str → Bool} (hlo : ∀ x, lo x = true → Loc X.env.scope x ∧ (X.fn x = true ∨ X.env.scope.names.lookup x = some .local)) (hN : X.N = N) (nd : N.Nodup) (calm : X.calm = true)
include hlo hN nd calm
mutual
theorem tg_ok : ∀ (t : T) (e : Expr), tgB N lo t e = true → ∀ (v : V) (d : D) (σ : St) (H : Hp) (F : Addr → Prop) (ρ : Rho) (μ : Mem) (Q : Rho → Mem → Prop), REnv X.K H F σ ρ → MS X.K H F μ → RD X.K H F v d → wpTg t d ρ μ Q → WG X e v σ H (PostG X.K H F μ t.slots σ Q)
  | .v i, e, h, v, d, σ, H, F, ρ, μ, Q, en, m, r, q => by
    obtain ⟨x, p, ee, h1, h2⟩ := tgB_v h
    subst ee
    obtain ⟨l1, l2⟩ := hlo x h2
    exact wg_of (pg_name (by rw [hN]; exact nd) (by rw [hN]; exact h1) l1 l2) ⟨set_off, _, F, μ, .refl, m, en.set i r, q⟩
  | .tup ts, e, h, v, d, σ, H, F, ρ, μ, Q, en, m, r, q => by
    obtain ⟨es, k, p, ee, h'⟩ := tgB_t h
    subst ee
    obtain ⟨l1, l2⟩ := tgs_len (env := X.env) h'
    cases d with
    | tup ds =>
      cases r with
      | tup t rs =>
        refine wg_of (pg_tup calm pgs_wgs l1 l2) ⟨_, _, rfl, t, ?_, tgs_ok ts es h' _ ds σ H F ρ μ Q en m rs q⟩
        rw [rs.length]
        exact tgs_len2 ts es ds h' q
    | lst ds =>
      cases r with
      | lst f hd rs =>
        refine wg_of (pg_unl calm pgs_wgs l1 l2) ⟨_, _, rfl, .inl (.inl hd), ?_, tgs_ok ts es h' _ ds σ H F ρ μ Q en m rs q⟩
        rw [rs.length]
        exact tgs_len2 ts es ds h' q
    | _ => exact False.elim q
theorem tgs_ok : ∀ (ts : Ts) (es : List Expr), tgsB N lo ts es = true → ∀ (vs : List V) (ds : List D) (σ : St) (H : Hp) (F : Addr → Prop) (ρ : Rho) (μ : Mem) (Q : Rho → Mem → Prop), REnv X.K H F σ ρ → MS X.K H F μ → RDs X.K H F vs ds → wpTgs ts ds ρ μ Q → WGs X es vs σ H (PostG X.K H F μ ts.slots σ Q)
  | .nil, [], h, vs, ds, σ, H, F, ρ, μ, Q, en, m, r, q => by
    obtain ⟨e, q⟩ := q
    subst e
    cases r
    exact wgs_of pgs_nil ⟨rfl, .refl, ρ, F, μ, .refl, m, en, q⟩
  | .cons t ts, e :: es, h, vs, ds, σ, H, F, ρ, μ, Q, en, m, r, q => by
    obtain ⟨h1, h2⟩ := Bool.and_eq_true_iff.mp (show (tgB N lo t e && tgsB N lo ts es) = true from h)
    have hs : (assignEach (e :: es) X.env).map (·.2) = assign e X.env :: (assignEach es X.env).map (·.2) := by rw [each_cons (tg_nostar h1)]; rfl
    cases r with
    | nil => exact False.elim q
    | cons r1 rs =>
      refine wgs_of (pgs_cons pg_wg pgs_wgs hs) ⟨_, _, rfl, ?_⟩
      refine (tg_ok t e h1 _ _ σ H F ρ μ _ en m r1 q).mono fun σ1 H1 ⟨o1, ρ1, F1, μ1, g1, m1, en1, q1⟩ => ?_
      refine (tgs_ok ts es h2 _ _ σ1 H1 F1 ρ1 μ1 Q en1 m1 (rs.stay (g1.stay m)) q1).mono fun σ2 H2 ⟨o2, ρ2, F2, μ2, g2, m2, en2, q2⟩ => ?_
      refine ⟨(o1.mono ?_).trans (o2.mono ?_), ρ2, F2, μ2, g1.trans g2, m2, en2, q2⟩
      · intro j hj; exact List.mem_append_left _ hj
      · intro j hj; exact List.mem_append_right _ hj
  | .nil, _ :: _, h, _, _, _, _, _, _, _, _, _, _, _, _ => nomatch h
  | .cons _ _, [], h, _, _, _, _, _, _, _, _, _, _, _, _ => nomatch h
end
end

/-! ### what is walked -/
def WI (X : Cx) (tg iter : Expr) : TI := fun σ H R => ∀ (pins : List (Addr × Obj)) (s : Shared), Inv X pins σ H s →
  wpAny (model X.prog X.w) X.A (eval iter X.env) (fun v s1 => wpAny (model X.prog X.w) X.A (pyIter v) (PIE X pins σ tg R) X.xe s1) X.xe s
theorem pi_wi {tg iter : Expr} : PI X tg iter (WI X tg iter) := ⟨fun pins s σ H R I h => h pins s I⟩
theorem wi_of {tg iter : Expr} {t : TI} {σ : St} {H : Hp} {R : L2.It → Hp → Prop} (h : PI X tg iter t) (q : t σ H R) : WI X tg iter σ H R := fun pins s I => h.run pins s σ H R I q
theorem WI.mono {tg iter : Expr} {σ : St} {H : Hp} {R R' : L2.It → Hp → Prop} (h : WI X tg iter σ H R) (m : ∀ J H', R J H' → R' J H') : WI X tg iter σ H R' :=
  fun pins s I => thn (h pins s I) fun v s1 h1 => thn h1 fun itv s2 ⟨it, fp, tn, J, H', e, I', T, st, f, q⟩ => ⟨it, fp, tn, J, H', e, I', T, st, f, m J H' q⟩
/-- an iterator that walks these items from this state on -/
structure Walks (K : PySem.W.Frag) (J : L2.It) (items : List D) (ok : Mem → Prop) (H1 : Hp) (F1 : Addr → Prop) (μ1 : Mem) : Prop where
  go : ∀ i H F μ, i < items.length → Grow H1 F1 μ1 H F μ → MS K H F μ → ok μ → J.go i H
  stop : ∀ H F μ, Grow H1 F1 μ1 H F μ → MS K H F μ → ok μ → J.stop items.length H
  yld : ∀ (i : Nat) H F μ x H', i < items.length → Grow H1 F1 μ1 H F μ → MS K H F μ → ok μ → J.yld i H x H' → ∃ d, items[i]? = some d ∧ Grow H F μ H' F μ ∧ MS K H' F μ ∧ RD K H' F x d
abbrev IK := List D → (Mem → Prop) → Mem → Prop
def PostI (K : PySem.W.Frag) (H : Hp) (F : Addr → Prop) (μ : Mem) (R : IK) : L2.It → Hp → Prop := fun J H' => ∃ items ok F' μ', Grow H F μ H' F' μ' ∧ MS K H' F' μ' ∧ Walks K J items ok H' F' μ' ∧ R items ok μ'
def DI (X : Cx) (EX : EK) (tg iter : Expr) (ρ : Rho) (μ : Mem) (R : IK) : Prop := ∀ σ H F, RE X EX H F μ σ ρ → MS X.K H F μ → WI X tg iter σ H (PostI X.K H F μ R)
/-- over a walk that yields the i-th of vs, while G holds -/
theorem walks_at {K : PySem.W.Frag} {J : L2.It} {vs : List V} {items : List D} {ok : Mem → Prop} {Gh : Hp → Prop} {H1 F1 μ1} (w : Walk J vs.length Gh (YAt vs)) (rs : RDs K H1 F1 vs items) (m1 : MS K H1 F1 μ1)
    (hG : ∀ H F μ, Grow H1 F1 μ1 H F μ → MS K H F μ → ok μ → Gh H) : Walks K J items ok H1 F1 μ1 where
  go := fun i H F μ hi g m o => w.goes i H (by rw [rs.length]; exact hi) (hG H F μ g m o)
  stop := fun H F μ g m o => by rw [← rs.length]; exact w.stops H (hG H F μ g m o)
  yld := fun i H F μ x H' hi g m o y => by
    obtain ⟨e, hx⟩ := w.yields i H x H' (by rw [rs.length]; exact hi) (hG H F μ g m o) y
    subst e
    obtain ⟨d, h1, h2⟩ := rs.get' hx
    exact ⟨d, h1, .refl, m, h2.stay (g.stay m1)⟩
theorem walks_fn {K : PySem.W.Frag} {J : L2.It} {n : Nat} {f : Nat → V} {items : List D} {H1 F1 μ1} (w : Walk J n (fun _ => True) (YFn f)) (hn : items.length = n) (hf : ∀ (i : Nat) H F, i < n → ∃ d, items[i]? = some d ∧ RD K H F (f i) d) : Walks K J items (fun _ => True) H1 F1 μ1 where
  go := fun i H F μ hi g m o => w.goes i H (by rw [← hn]; exact hi) trivial
  stop := fun H F μ g m o => by rw [hn]; exact w.stops H trivial
  yld := fun i H F μ x H' hi g m o y => by
    obtain ⟨e, hx⟩ := w.yields i H x H' (by rw [← hn]; exact hi) trivial y
    subst e hx
    obtain ⟨d, h1, h2⟩ := hf i H' F (by rw [← hn]; exact hi)
    exact ⟨d, h1, .refl, m, h2⟩
theorem sql_keep {K : PySem.W.Frag} {a : Addr} {vs : List V} {H1 F1 μ1 H F} {μ' : Mem} (m1 : MS K H1 F1 μ1) (g : Grow H1 F1 μ1 H F μ') (f : F1 a) (h : H1 a = some (.lst vs)) : SqL K H a vs := .inl (.inl ((g.stay m1).lst a _ f h).2)
theorem it_list {tg : Expr} {pins : List (Addr × Obj)} {σ : St} {H : Hp} {s : Shared} {R : L2.It → Hp → Prop} {a : Addr} {xs : List V} (I : Inv X pins σ H s) (hq : SqL X.K H a xs) (q : R (Itl X.K a) H) : wpAny (model X.prog X.w) X.A (pyIter (.ref a)) (PIE X pins σ tg R) X.xe s := by
  obtain ⟨its, rv, p, hz⟩ := I.list hq
  refine wpAny_pyIter_list p.isList ?_
  refine ⟨s.heap.objs.size, [s.heap.objs.size], _, _, H, rfl, I.kept (t' := s.toks) fun b o e => Heap.get?_push_of_some _ e, turn_list a _, ⟨_, Heap.get?_push_size _ rfl, rfl, rfl⟩, fun b hb => ?_, q⟩
  have e : b = s.heap.objs.size := by simpa using hb
  subst e
  exact I.fpOk (Nat.le_refl _) (I.hok.fresh (Nat.le_refl _))
theorem it_tup {tg : Expr} {pins : List (Addr × Obj)} {σ : St} {H : Hp} {s : Shared} {R : L2.It → Hp → Prop} {a : Addr} {xs : List V} (I : Inv X pins σ H s) (hq : SqT X.K H a xs) (q : R (Itt X.K a) H) : wpAny (model X.prog X.w) X.A (pyIter (.ref a)) (PIE X pins σ tg R) X.xe s := by
  obtain ⟨its, rv, p, hz⟩ := I.tuple hq
  refine wpAny_pyIter_tuple (show s.heap.IsTuple a its.toArray from p) ?_
  refine ⟨s.heap.objs.size, [s.heap.objs.size], _, _, H, rfl, I.kept (t' := s.toks) fun b o e => Heap.get?_push_of_some _ e, turn_tuple a _, ⟨_, Heap.get?_push_size _ rfl, rfl, rfl⟩, fun b hb => ?_, q⟩
  have e : b = s.heap.objs.size := by simpa using hb
  subst e
  exact I.fpOk (Nat.le_refl _) (I.hok.fresh (Nat.le_refl _))
theorem it_str {tg : Expr} {pins : List (Addr × Obj)} {σ : St} {H : Hp} {s : Shared} {R : L2.It → Hp → Prop} {x : Str} {t : Tok} (I : Inv X pins σ H s) (q : R (Its x) H) : wpAny (model X.prog X.w) X.A (pyIter (.str x t)) (PIE X pins σ tg R) X.xe s := by
  cases ha : x.cps.all (· < 128)
  · exact wpAny_pyIter_wide ha (pi_one (tk := s.toks) I _ (turn_str _ x t "str_iterator" (.inr rfl)) ⟨_, Heap.get?_push_size _ rfl, rfl, rfl⟩ q)
  · exact wpAny_pyIter_ascii ha (pi_one (tk := s.toks) I _ (turn_str _ x t "str_ascii_iterator" (.inl rfl)) ⟨_, Heap.get?_push_size _ rfl, rfl, rfl⟩ q)
theorem walks_str {K : PySem.W.Frag} {z : Str} {H1 F1 μ1} : Walks K (Its z) (chars z) (fun _ => True) H1 F1 μ1 where
  go := fun i H F μ hi g m o => by
    have hi : i < (chars z).length := hi
    unfold chars at hi
    rw [List.length_map, Array.length_toList] at hi
    exact hi
  stop := fun H F μ g m o => by
    show z.cps.size ≤ (chars z).length
    unfold chars
    rw [List.length_map, Array.length_toList]
    exact Nat.le_refl _
  yld := fun i H F μ x H' hi g m o y => by
    obtain ⟨e, c, hc, hx⟩ := y
    subst e hx
    refine ⟨.str ⟨#[c]⟩, ?_, .refl, m, .str _⟩
    unfold chars
    rw [List.getElem?_map, Array.getElem?_toList, hc]
    rfl
theorem DI.seq {tg e : Expr} {R : IK} (h : DE X EX e ρ μ fun x μ1 => seqIt x μ1 R) : DI X EX tg e ρ μ R := fun σ H F en m pins s I => by
  refine thn (h σ H F en m pins s I) fun v s1 ⟨x, H1, I1, r1, d, F1, μ1, g1, m1, rd, q⟩ => ?_
  cases rd with
  | str z =>
    obtain ⟨t, e⟩ := r1
    subst e
    exact it_str I1 ⟨_, _, F1, μ1, g1, m1, walks_str, q⟩
  | tup t rs =>
    cases r1
    exact it_tup I1 t ⟨_, _, F1, μ1, g1, m1, walks_at walk_tup rs m1 (fun H F μ g m o => (g.stay m1).tup _ _ t), q⟩
  | lst f hd rs =>
    cases r1
    exact it_list I1 (.inl (.inl hd)) ⟨_, _, F1, μ1, g1, m1, walks_at walk_list rs m1 (fun H F μ g m o => sql_keep m1 g f hd), q⟩
  | lk hk rs =>
    cases r1
    have hq : ∀ H F μ, Grow H1 F1 μ1 H F μ → SqL X.K H _ _ := fun H F μ g => hk.elim (fun ⟨o, z⟩ => .inl (.inr ⟨o, (g.stay m1).lk _ _ _ z⟩)) .inr
    exact it_list I1 (hq _ _ _ .refl) ⟨_, _, F1, μ1, g1, m1, walks_at walk_list rs m1 (fun H F μ g m o => hq H F μ g), q⟩
  | ref a =>
    cases r1
    obtain ⟨l, e2, q⟩ := optD_ok (show optD (seqL μ1 (.ref a)) _ from q)
    obtain ⟨_, u, hu, vs, eu, rs⟩ := m1.at_ a _ (seqL_ref e2)
    subst eu
    refine it_list I1 (.inl (.inl hu)) ⟨_, _, F1, μ1, g1, m1, ⟨fun i H F μ hi g m o => ?_, fun H F μ g m o => ?_, fun i H F μ x H' hi g m o y => ?_⟩, q⟩
    · obtain ⟨_, u, hu, vs, eu, rs⟩ := m.at_ a _ (seqL_ref o)
      subst eu
      exact ⟨vs, vs[i]'(by rw [rs.length]; exact hi), .inl (.inl hu), by simp [show i < vs.length by rw [rs.length]; exact hi]⟩
    · obtain ⟨_, u, hu, vs, eu, rs⟩ := m.at_ a _ (seqL_ref o)
      subst eu
      exact ⟨vs, .inl (.inl hu), by rw [rs.length]; exact Nat.le_refl _⟩
    · obtain ⟨_, u, hu, vs, eu, rs⟩ := m.at_ a _ (seqL_ref o)
      subst eu
      obtain ⟨e, y⟩ := y
      subst e
      obtain ⟨d, h1, h2⟩ := rs.get' (y vs (.inl (.inl hu)))
      exact ⟨d, h1, .refl, m, h2⟩
  | _ => exact False.elim q
theorem walks_range {K : PySem.W.Frag} {lo : Int} {n : Nat} {H1 F1 μ1} : Walks K (Itr lo n) (intsR lo n) (fun _ => True) H1 F1 μ1 :=
  walks_fn walk_range (by unfold intsR; rw [List.length_map, List.length_range]) fun i H F hi => ⟨.int (lo + i), by unfold intsR; rw [List.getElem?_map, List.getElem?_range hi]; rfl, .int _⟩
theorem DI.range1 (sx : SX G X N sc) {tg a : Expr} {p pos : Pos} {R : IK} (hg : gloB sc "range" = true) (hs : noStar a = true) (h : DE X EX a ρ μ fun x μ1 => rng1 x μ1 R) : DI X EX tg (.Call (.Name "range" p) [a] [] pos) ρ μ R := fun σ H F en m => by
  refine wi_of (pi_range1 (sx.glo hg) (sx.blt _ (by decide +kernel)) (pa_cons pe_we pa_nil (star_cons hs)) (by rw [star_cons hs]; rfl)) ?_
  refine (h σ H F en m).mono fun v H1 ⟨x, F1, μ1, g1, m1, r1, q⟩ => ?_
  cases r1 with
  | int j => exact ⟨j, rfl, q.1, q.2.1, _, _, F1, μ1, g1, m1, walks_range, q.2.2⟩
  | _ => exact False.elim q
theorem DI.range2 (sx : SX G X N sc) {tg a b : Expr} {p pos : Pos} {R : IK} (hg : gloB sc "range" = true) (hs : noStar a = true) (hs2 : noStar b = true) (h : DE X EX a ρ μ fun x μ1 => DE X EX b ρ μ1 fun y μ2 => rng2 x y μ2 R) : DI X EX tg (.Call (.Name "range" p) [a, b] [] pos) ρ μ R := fun σ H F en m => by
  refine wi_of (pi_range2 (sx.glo hg) (sx.blt _ (by decide +kernel)) (pa_cons pe_we (pa_cons pe_we pa_nil (star_cons hs2)) (star_cons hs)) (by rw [star_cons hs, star_cons hs2]; rfl) (by rw [star_cons hs2]; rfl)) ?_
  refine (h σ H F en m).mono fun v H1 ⟨x, F1, μ1, g1, m1, r1, q1⟩ => ?_
  refine (q1 σ H1 F1 (en.on g1 m) m1).mono fun u H2 ⟨y, F2, μ2, g2, m2, r2, q⟩ => ?_
  cases r1 with
  | int i =>
    cases r2 with
    | int j => exact ⟨i, j, rfl, q.1, _, _, F2, μ2, g1.trans g2, m2, walks_range, q.2⟩
    | _ => exact False.elim q
  | _ => exact False.elim q

/-! ### comprehensions -/
theorem wipe_get {σ : St} : ∀ {vs : List Nat} {j : Nat}, (wipe σ vs)[j]? = if j ∈ vs ∧ j < σ.length then some none else σ[j]?
  | [], j => by simp [wipe]
  | v :: vs, j => by
    unfold wipe
    have hl := wipe_length σ vs
    by_cases hj : v = j
    · subst hj
      by_cases hlt : v < σ.length
      · rw [List.getElem?_set_self (by rw [hl]; exact hlt), if_pos ⟨by simp, hlt⟩]
      · rw [List.getElem?_eq_none (by rw [List.length_set, hl]; omega), if_neg (fun z => hlt z.2), List.getElem?_eq_none (by omega)]
    · rw [List.getElem?_set_ne hj, wipe_get]
      by_cases h : j ∈ vs ∧ j < σ.length
      · rw [if_pos h, if_pos ⟨List.mem_cons_of_mem _ h.1, h.2⟩]
      · rw [if_neg h, if_neg (fun z => h ⟨(List.mem_cons.mp z.1).resolve_left (fun e => hj e.symm), z.2⟩)]
theorem wipe_off {vs : List Nat} {σ σ' : St} (o : Off vs σ σ') : wipe σ' vs = wipe σ vs := by
  apply List.ext_getElem?
  intro j
  rw [wipe_get, wipe_get, o.1]
  by_cases h : j ∈ vs
  · by_cases hl : j < σ.length
    · rw [if_pos ⟨h, hl⟩, if_pos ⟨h, hl⟩]
    · rw [if_neg (fun z => hl z.2), if_neg (fun z => hl z.2), List.getElem?_eq_none (by rw [o.1]; omega), List.getElem?_eq_none (by omega)]
  · rw [if_neg (fun z => h z.1), if_neg (fun z => h z.1), o.2 j h]
theorem wipe_wipe {vs : List Nat} {σ : St} : wipe (wipe σ vs) vs = wipe σ vs := by
  apply List.ext_getElem?
  intro j
  rw [wipe_get, wipe_get, wipe_length]
  by_cases h : j ∈ vs ∧ j < σ.length
  · rw [if_pos h, if_pos h]
  · rw [if_neg h]
theorem REnv.wipe {K H F σ ρ} (e : REnv K H F σ ρ) : ∀ vs : List Nat, REnv K H F (L2.wipe σ vs) (wipeR ρ vs)
  | [] => e
  | v :: vs => by
    have ih := REnv.wipe e vs
    unfold L2.wipe wipeR
    refine ⟨by rw [List.length_set, List.length_set]; exact ih.len, fun i d h => ?_⟩
    by_cases hi : v = i
    · subst hi
      by_cases hl : v < (wipeR ρ vs).length
      · rw [List.getElem?_set_self hl] at h; cases h
      · rw [List.getElem?_eq_none (by rw [List.length_set]; omega)] at h; cases h
    · rw [List.getElem?_set_ne hi] at h ⊢
      exact ih.at_ i d h
def WTs (X : Cx) (ifs : List Expr) : TT := fun σ H Q => ∀ (pins : List (Addr × Obj)) (s : Shared), Inv X pins σ H s →
    wpAny (model X.prog X.w) X.A (forIn ifs true fun c r => if r = true then do let ok ← isTrue c X.env (eval c X.env); pure (ForInStep.yield ok) else pure (ForInStep.yield r)) (TP X pins σ Q) X.xe s
theorem pts_wts {ifs : List Expr} : PTs X ifs (WTs X ifs) := ⟨fun pins s σ H Q I h => h pins s I⟩
def DTs (X : Cx) (EX : EK) (ifs : List Expr) (ρ : Rho) (μ : Mem) (Q : Bool → Mem → Prop) : Prop := ∀ σ H F, RE X EX H F μ σ ρ → MS X.K H F μ → WTs X ifs σ H (PostT X.K H F μ Q)
theorem DTs.nil {Q : Bool → Mem → Prop} (q : Q true μ) : DTs X EX [] ρ μ Q := fun σ H F e m pins s I => pts_nil.run pins s σ H _ I ⟨F, μ, .refl, m, q⟩
theorem DTs.one {c : Expr} {Q : Bool → Mem → Prop} (h : DT X EX c ρ μ Q) : DTs X EX [c] ρ μ Q := fun σ H F e m pins s I => (pts_one pt_wt).run pins s σ H _ I (h σ H F e m)
theorem WTs.mono {ifs : List Expr} {σ H} {Q Q' : Bool → Hp → Prop} (h : WTs X ifs σ H Q) (m : ∀ v H', Q v H' → Q' v H') : WTs X ifs σ H Q' :=
  fun pins s I => thn (h pins s I) fun u s' ⟨H', I', q⟩ => ⟨H', I', m u H' q⟩

/-! ### a list that is being made beside the memory -/
section
variable {K : PySem.W.Frag} {H : Hp} {F : Addr → Prop} {p : Addr} {vs : List V} {ds : List D}
structure Bes (K : PySem.W.Frag) (H : Hp) (F : Addr → Prop) (μ : Mem) (p : Addr) (vs : List V) (ds : List D) : Prop where
  at_ : H p = some (.lst vs)
  nF : ¬ F p
  nm : μ p = none
  rd : RDs K H F vs ds
theorem Bes.grow {H' F' μ'} (b : Bes K H F μ p vs ds) (m : MS K H F μ) (g : Grow H F μ H' F' μ') : Bes K H' F' μ' p vs ds := by
  refine ⟨g.keep p _ b.at_ b.nm, fun f => ?_, ?_, b.rd.stay (g.stay m)⟩
  · rcases g.new p f with z | z | z
    · exact b.nF z
    · rw [b.at_] at z; cases z
    · rw [b.nm] at z; cases z
  · cases e : μ' p with
    | none => rfl
    | some o =>
      rcases g.dom p (by rw [e]; rfl) with z | z
      · rw [b.nm] at z; cases z
      · rw [b.at_] at z; cases z
theorem bes_stay (b : Bes K H F μ p vs ds) (ws : List V) : Stay K H F (upd H p (.lst ws)) F := by
  refine ⟨fun a xs h => ?_, fun a xs f h => ⟨f, ?_⟩, fun a o xs h => ?_⟩
  · rcases h with (h | ⟨o, h⟩) | h
    · exact .inl (.inl (by rw [upd_ne (ne_of h b.at_ (by intro z; cases z))]; exact h))
    · exact .inl (.inr ⟨o, by rw [upd_ne (ne_of h b.at_ (by intro z; cases z))]; exact h⟩)
    · exact .inr h
  · have hne : a ≠ p := fun z => by rw [z] at f; exact b.nF f
    rw [upd_ne hne]; exact h
  · rw [upd_ne (ne_of h b.at_ (by intro z; cases z))]; exact h
theorem Bes.put (b : Bes K H F μ p vs ds) (m : MS K H F μ) {ws : List V} {es : List D} (r : RDs K H F ws es) : Bes K (upd H p (.lst ws)) F μ p ws es ∧ MS K (upd H p (.lst ws)) F μ := by
  have st := bes_stay b ws
  refine ⟨⟨upd_same, b.nF, b.nm, r.stay st⟩, ⟨fun a o e => ?_, fun a f => ?_⟩⟩
  · have hne : a ≠ p := fun z => by rw [z, b.nm] at e; cases e
    obtain ⟨n, u, hu, q⟩ := m.at_ a o e
    exact ⟨n, u, by rw [upd_ne hne]; exact hu, q.stay st⟩
  · obtain ⟨xs, h⟩ := m.fin a f
    exact ⟨xs, (st.lst a xs f h).2⟩
theorem Bes.start (m : MS K H F μ) (hp : H p = none) : Bes K (upd H p (.lst [])) F μ p [] [] ∧ MS K (upd H p (.lst [])) F μ ∧ Grow H F μ (upd H p (.lst [])) F μ := by
  have nF : ¬ F p := fun f => by obtain ⟨xs, h⟩ := m.fin p f; rw [hp] at h; cases h
  have nm : μ p = none := by
    cases e : μ p with
    | none => rfl
    | some o => obtain ⟨_, u, hu, _⟩ := m.at_ p o e; rw [hp] at hu; cases hu
  have g : Grow H F μ (upd H p (.lst [])) F μ := ⟨fun a u e _ => by rw [upd_ne (ne_of_none e hp)]; exact e, fun _ f => f, fun _ f => .inl f, fun _ e => .inl e⟩
  have st := g.stay m
  refine ⟨⟨upd_same, nF, nm, .nil⟩, ⟨fun a o e => ?_, fun a f => ?_⟩, g⟩
  · obtain ⟨n, u, hu, q⟩ := m.at_ a o e
    exact ⟨n, u, by rw [upd_ne (ne_of_none hu hp)]; exact hu, q.stay st⟩
  · obtain ⟨xs, h⟩ := m.fin a f
    exact ⟨xs, (st.lst a xs f h).2⟩
/-- the list joins the memory, or is frozen -/
theorem Bes.join {z : Bool} {Q : DK} {H1 F1 μ1} (b : Bes K H F μ p vs ds) (m : MS K H F μ) (hp : H1 p = none) (g : Grow H1 F1 μ1 H F μ) (q : newL z ds μ Q) : Post K H1 F1 μ1 Q (.ref p) H := by
  cases z with
  | true =>
    have st : Stay K H F H (fun a => F a ∨ a = p) := ⟨fun _ _ h => h, fun _ _ f h => ⟨.inl f, h⟩, fun _ _ _ h => h⟩
    refine ⟨.lst ds, fun a => F a ∨ a = p, μ, ⟨g.keep, fun a f => .inl (g.fr a f), fun a f => ?_, g.dom⟩, ⟨fun a o e => ?_, fun a f => ?_⟩, .lst (.inr rfl) b.at_ (b.rd.stay st), q⟩
    · rcases f with f | f
      · exact g.new a f
      · subst f; exact .inr (.inl hp)
    · obtain ⟨n, u, hu, qq⟩ := m.at_ a o e
      exact ⟨fun z => z.elim n (fun e2 => by rw [e2, b.nm] at e; cases e), u, hu, qq.stay st⟩
    · rcases f with f | f
      · exact m.fin a f
      · subst f; exact ⟨_, b.at_⟩
  | false =>
    refine ⟨.ref p, F, mset μ p (.lst ds), ⟨g.keep, g.fr, g.new, fun a e => ?_⟩, ⟨fun a o e => ?_, m.fin⟩, .ref p, q p b.nm⟩
    · by_cases h : a = p
      · subst h; exact .inr hp
      · rw [mset_ne h] at e; exact g.dom a e
    · by_cases h : a = p
      · subst h
        rw [mset_same] at e; cases e
        exact ⟨b.nF, _, b.at_, vs, rfl, b.rd⟩
      · rw [mset_ne h] at e
        exact m.at_ a o e
end
/-- a name of a comprehension's own -/
def ownB (scope : Scope) (x : Str) : Bool := match scope.names.lookup x with
  | some .local => true
  | some .cell => true
  | _ => false
theorem relS_own {scope sc : Scope} {x : Str} : ∀ {l : List (Str × NameKind)}, (l.lookup x = some .local ∨ l.lookup x = some .cell) → (l.map fun (n, k) => if (k == .free && sc.kind == .function && sc.names.lookup n == some .cell) then (n, NameKind.cell) else (n, k)).lookup x = l.lookup x
  | [], h => by simp at h
  | (n, k) :: r, h => by
    rw [List.map_cons]
    by_cases e : x = n
    · subst e
      have hk : k = .local ∨ k = .cell := by simpa [List.lookup_cons] using h
      have hf : (k == NameKind.free) = false := by rcases hk with rfl | rfl <;> rfl
      simp [hf, List.lookup_cons]
    · have hb : (x == n) = false := by simpa using e
      rw [List.lookup_cons, hb] at h
      have ih := relS_own (scope := scope) (sc := sc) (l := r) h
      by_cases hf : (k == .free && sc.kind == .function && sc.names.lookup n == some .cell) = true
      · simp only [hf, if_true]
        rw [List.lookup_cons, hb, List.lookup_cons, hb]; exact ih
      · simp only [hf, Bool.false_eq_true, if_false]
        rw [List.lookup_cons, hb, List.lookup_cons, hb]; exact ih
theorem SX.blk (sx : SX G X N sc) (s : Shared) (H : Hp) (C : Addr) (cl : List (Str × Addr)) (fp : List Addr) (xe : Value → Shared → Prop) {scope : Scope} {own : List (Str × Nat)} (b : BlkOk N sc scope own) : SX G (blkX X s H scope (compEnvC scope cl C X.env) fp xe) N (relS scope sc) where
  hN := sx.hN
  nd := sx.nd
  esc := by
    show relS scope X.env.scope = relS scope sc
    rw [sx.esc]
  kind := b.kind
  calm := sx.calm
  un := sx.un
  gd := sx.gd
  rm2 := sx.rm2
  own := fun h => by
    have h : X.stack = compEnvC scope cl C X.env :: X.stack := h
    have := congrArg List.length h
    simp at this
  fr := sx.fr
  blt := sx.blt
  ex := sx.ex
  cst := sx.cst
  fn := sx.fn
theorem blk_own (sx : SX G X N sc) (s : Shared) (H : Hp) (C : Addr) (cl : List (Str × Addr)) (fp : List Addr) (xe : Value → Shared → Prop) {scope : Scope} (x : Str) (h : ownB scope x = true) :
    Loc (blkX X s H scope (compEnvC scope cl C X.env) fp xe).env.scope x ∧ ((blkX X s H scope (compEnvC scope cl C X.env) fp xe).fn x = true ∨ (blkX X s H scope (compEnvC scope cl C X.env) fp xe).env.scope.names.lookup x = some .local) := by
  have h2 : scope.names.lookup x = some .local ∨ scope.names.lookup x = some .cell := by
    unfold ownB at h
    split at h
    · rename_i e; exact .inl e
    · rename_i e; exact .inr e
    · cases h
  have e : (relS scope X.env.scope).names.lookup x = scope.names.lookup x := relS_own (scope := scope) (sc := X.env.scope) h2
  refine ⟨?_, ?_⟩
  · show (relS scope X.env.scope).names.lookup x = _ ∨ (relS scope X.env.scope).names.lookup x = _
    rw [e]; exact h2
  · rcases h2 with h2 | h2
    · right
      show (relS scope X.env.scope).names.lookup x = _
      rw [e]; exact h2
    · left
      show (scope.names.lookup x == some .cell) = true
      rw [h2]; rfl
/-- what a comprehension's parts want, in any block -/
structure LcOk (G : Gc) (X : Cx) (EX : EK) (N : List Str) (sc : Scope) (tg : Expr) (ifs : List Expr) (elt : Expr) (scope : Scope) (own : List (Str × Nat)) (t : T)
    (P : Rho → Mem → (Bool → Mem → Prop) → Prop) (Pe : Rho → Mem → DK → Prop) : Prop where
  blk : BlkOk N sc scope own
  slots : own.map (·.2) = t.slots
  tg : tgB N (ownB scope) t tg = true
  ifs : ∀ X', SX G X' N (relS scope sc) → ∀ ρ μ q, P ρ μ q → DTs X' EX ifs ρ μ q
  elt : ∀ X', SX G X' N (relS scope sc) → ∀ ρ μ q, Pe ρ μ q → DE X' EX elt ρ μ q
theorem drop_cons {items : List D} {i : Nat} {d : D} (h : items[i]? = some d) : items.drop i = d :: items.drop (i + 1) := by
  obtain ⟨hi, e⟩ := List.getElem?_eq_some_iff.mp h
  rw [List.drop_eq_getElem_cons hi, e]
theorem lc_read (sx : SX G X N sc) {z : Bool} {elt tg iter : Expr} {ifs : List Expr} {scope : Scope} {own : List (Str × Nat)} {t : T} {P : Rho → Mem → (Bool → Mem → Prop) → Prop} {Pe : Rho → Mem → DK → Prop} {Q : DK} (L : LcOk G X EX N sc tg ifs elt scope own t P Pe)
    (h : DI X EX tg iter ρ μ fun items ok μ1 => LC items μ1 ok (fun x μ2 R => wpTg t x (wipeR ρ t.slots) μ2 fun ρ' μ3 => P ρ' μ3 fun b μ4 => if b = true then Pe ρ' μ4 fun d μ5 => R (some d) μ5 else R none μ4) fun acc μ2 => newL z acc μ2 Q)
    {σ : St} {H_ : Hp} {F : Addr → Prop} (en : RE X EX H_ F μ σ ρ) (m : MS X.K H_ F μ) :
    tLc (WI X tg iter) (fun v σ H Q => ∀ (s0 : Shared) (H0 : Hp) (C : Addr) (cl : List (Str × Addr)) (fp : List Addr) xe, TakesF (blkX X s0 H0 scope (compEnvC scope cl C X.env) fp xe) (fun cls d _ H' => Wish X.K X.mg H_ F μ EX cls d H') → WG (blkX X s0 H0 scope (compEnvC scope cl C X.env) fp xe) tg v σ H Q)
      (fun σ H Q => ∀ (s0 : Shared) (H0 : Hp) (C : Addr) (cl : List (Str × Addr)) (fp : List Addr) xe, TakesF (blkX X s0 H0 scope (compEnvC scope cl C X.env) fp xe) (fun cls d _ H' => Wish X.K X.mg H_ F μ EX cls d H') → WTs (blkX X s0 H0 scope (compEnvC scope cl C X.env) fp xe) ifs σ H Q)
      (fun σ H Q => ∀ (s0 : Shared) (H0 : Hp) (C : Addr) (cl : List (Str × Addr)) (fp : List Addr) xe, TakesF (blkX X s0 H0 scope (compEnvC scope cl C X.env) fp xe) (fun cls d _ H' => Wish X.K X.mg H_ F μ EX cls d H') → WE (blkX X s0 H0 scope (compEnvC scope cl C X.env) fp xe) elt σ H Q)
      (own.map (·.2)) σ H_ (Post X.K H_ F μ Q) := by
  rw [L.slots]
  refine (h σ H_ F en m).mono fun J H1 ⟨items, ok, F1, μ1, g1, m1, w, I, hI0, hIs, hId⟩ => fun p hp => ?_
  obtain ⟨b0, m0, g0⟩ := Bes.start m1 hp
  refine ⟨fun i k H' => k = items.length - i ∧ i ≤ items.length ∧ ∃ F' μ' vs ds, Grow H1 F1 μ1 H' F' μ' ∧ MS X.K H' F' μ' ∧ Bes X.K H' F' μ' p vs ds ∧ I (items.drop i) ds μ',
    ⟨items.length, by simp, Nat.zero_le _, F1, μ1, [], [], g0, m0, b0, hI0⟩, ?_⟩
  rintro i k H2 ⟨rfl, hi, F2, μ2, vs, ds, g2, m2, b2, hI⟩
  by_cases hlt : i < items.length
  · right
    have hd : items.drop i = items[i] :: items.drop (i + 1) := List.drop_eq_getElem_cons hlt
    rw [hd] at hI
    obtain ⟨hok, hstep⟩ := hIs _ _ _ _ hI
    refine ⟨w.go i H2 F2 μ2 hlt g2 m2 hok, fun H' => i + 1 ≤ items.length ∧ ∃ F' μ' vs ds, Grow H1 F1 μ1 H' F' μ' ∧ MS X.K H' F' μ' ∧ Bes X.K H' F' μ' p vs ds ∧ I (items.drop (i + 1)) ds μ', fun H' ⟨h1, h2⟩ => ⟨items.length - (i + 1), by omega, rfl, h1, h2⟩, fun x H3 y => ?_⟩
    obtain ⟨d, hd2, g3, m3, r3⟩ := w.yld i H2 F2 μ2 x H3 hlt g2 m2 hok y
    have ed : items[i] = d := by rw [List.getElem?_eq_getElem hlt] at hd2; exact Option.some.inj hd2
    rw [ed] at hstep
    intro s0 H0 C cl fp xe _
    have sb := sx.blk s0 H0 C cl fp xe L.blk
    have g13 := g2.trans g3
    refine (tg_ok (X := blkX X s0 H0 scope (compEnvC scope cl C X.env) fp xe) (blk_own sx s0 H0 C cl fp xe) sb.hN sb.nd sb.calm t tg L.tg x d (L2.wipe σ t.slots) H3 F2 (wipeR ρ t.slots) μ2 _ ((en.on (g1.trans g13) m).wipe _) m3 r3 hstep).mono fun σ4 H4 ⟨o4, ρ4, F4, μ4, g4, m4, en4, q4⟩ => ?_
    refine ⟨(wipe_off o4).trans wipe_wipe, fun s1 H01 C1 cl1 fp1 xe1 tk1 => ?_⟩
    have g14 := g13.trans g4
    have b4 := (b2.grow m2 g3).grow m3 g4
    refine (L.ifs _ (sx.blk s1 H01 C1 cl1 fp1 xe1 L.blk) ρ4 μ4 _ q4 σ4 H4 F4 ⟨en4, tk1.imp fun _ _ _ _ w => Wish.pre (g1.trans g14) w⟩ m4).mono fun c H5 ⟨F5, μ5, g5, m5, q5⟩ => ?_
    have b5 := b4.grow m4 g5
    cases c with
    | false =>
      rw [if_neg Bool.false_ne_true] at q5 ⊢
      exact ⟨hlt, F5, μ5, vs, ds, g14.trans g5, m5, b5, q5⟩
    | true =>
      rw [if_pos rfl] at q5 ⊢
      intro s2 H02 C2 cl2 fp2 xe2 tk2
      refine (L.elt _ (sx.blk s2 H02 C2 cl2 fp2 xe2 L.blk) ρ4 μ5 _ q5 σ4 H5 F5 ⟨en4.stay (g5.stay m4), tk2.imp fun _ _ _ _ w => Wish.pre (g1.trans (g14.trans g5)) w⟩ m5).mono fun y H6 ⟨e, F6, μ6, g6, m6, r6, hz, q6⟩ => ?_
      have b6 := b5.grow m5 g6
      obtain ⟨b7, m7⟩ := b6.put m6 (b6.rd.append (.cons r6 .nil))
      refine ⟨vs, b6.at_, by rw [b6.rd.length, line_eq]; exact hz, hlt, F6, μ6, vs ++ [y], ds ++ [e], ?_, m7, b7, q6⟩
      have g16 := (g14.trans g5).trans g6
      exact ⟨fun a u ea n => by rw [upd_ne (ne_of_none ea hp)]; exact g16.keep a u ea n, g16.fr, g16.new, g16.dom⟩
  · left
    have hi2 : i = items.length := by omega
    subst hi2
    rw [List.drop_length] at hI
    obtain ⟨hok, hq⟩ := hId _ _ hI
    exact ⟨w.stop H2 F2 μ2 g2 m2 hok, (b2.join m2 hp g2 hq).pre g1⟩
theorem DE.lc (sx : SX G X N sc) {z : Bool} {elt tg iter : Expr} {ifs : List Expr} {scope : Scope} {pos : Pos} {own : List (Str × Nat)} {t : T} {P : Rho → Mem → (Bool → Mem → Prop) → Prop} {Pe : Rho → Mem → DK → Prop} {Q : DK} (hset : isSetE iter = false) (L : LcOk G X EX N sc tg ifs elt scope own t P Pe)
    (h : DI X EX tg iter ρ μ fun items ok μ1 => LC items μ1 ok (fun x μ2 R => wpTg t x (wipeR ρ t.slots) μ2 fun ρ' μ3 => P ρ' μ3 fun b μ4 => if b = true then Pe ρ' μ4 fun d μ5 => R (some d) μ5 else R none μ4) fun acc μ2 => newL z acc μ2 Q) :
    DE X EX (.ListComp elt [⟨tg, iter, ifs, 0⟩] scope pos) ρ μ Q := fun σ H F en m => by
  have blk : BlkOk X.N X.env.scope scope own := by rw [sx.hN, sx.esc]; exact L.blk
  obtain ⟨e0, o0, L0, hst, hf0, hf⟩ := sx.fr
  exact we_of (pe_lcX (fun _ _ _ _ _ w => w) en.tk hst hf0 hf sx.calm (by rw [sx.hN]; exact sx.nd) pi_wi blk (fun s0 H0 C cl fp xe tk => ⟨fun pins s σ H v u Q I r q => q s0 H0 C cl fp xe tk pins s u I r⟩) (fun s0 H0 C cl fp xe tk => ⟨fun pins s σ H Q I q => q s0 H0 C cl fp xe tk pins s I⟩) (fun s0 H0 C cl fp xe tk => ⟨fun pins s σ H Q I q => q s0 H0 C cl fp xe tk pins s I⟩) (folded_no hset)) (lc_read sx L h en m)
end
end DL
/-! Statements. -/
namespace DL
open PySem PySem.Spec PyProof.Rows L2
section
variable {G : Gc} {X : Cx} {EX : EK} {N : List Str} {sc : Scope} {ρ : Rho} {μ : Mem}
def WS (X : Cx) (st : Stmt) : TS := fun D σ H => ∀ (pins : List (Addr × Obj)) (s : Shared), Inv X pins σ H s → wpAny (model X.prog X.w) X.A (exec st X.env) (SP X pins D) X.xe s
theorem ps_ws {st : Stmt} : PS X st (WS X st) := ⟨fun pins s σ H D I h => h pins s I⟩
theorem ws_of {st : Stmt} {t : TS} {K : Ends} {σ : St} {H : Hp} (h : PS X st t) (q : t K σ H) : WS X st K σ H := fun pins s I => h.run pins s σ H K I q
def WSs (X : Cx) (st : List Stmt) : TS := fun D σ H => ∀ (pins : List (Addr × Obj)) (s : Shared), Inv X pins σ H s → wpAny (model X.prog X.w) X.A (execs st X.env) (SP X pins D) X.xe s
theorem pss_wss {st : List Stmt} : PSs X st (WSs X st) := ⟨fun pins s σ H D I h => h pins s I⟩
theorem wss_of {st : List Stmt} {t : TS} {K : Ends} {σ : St} {H : Hp} (h : PSs X st t) (q : t K σ H) : WSs X st K σ H := fun pins s I => h.run pins s σ H K I q
/-- the ends weaker -/
structure Ends.le (K K' : Ends) : Prop where
  nx : ∀ σ H, K.nx σ H → K'.nx σ H
  rt : ∀ v H, K.rt v H → K'.rt v H
  bk : ∀ σ H, K.bk σ H → K'.bk σ H
  ct : ∀ σ H, K.ct σ H → K'.ct σ H
theorem sp_mono {pins : List (Addr × Obj)} {K K' : Ends} {f : Flow} {s' : Shared} (le : Ends.le K K') (h : SP X pins K f s') : SP X pins K' f s' := by
  cases f with
  | next => obtain ⟨σ', H', I, q⟩ := h; exact ⟨σ', H', I, le.nx _ _ q⟩
  | brk => obtain ⟨σ', H', I, q⟩ := h; exact ⟨σ', H', I, le.bk _ _ q⟩
  | cont => obtain ⟨σ', H', I, q⟩ := h; exact ⟨σ', H', I, le.ct _ _ q⟩
  | ret u => obtain ⟨v, σ', H', I, r, q⟩ := h; exact ⟨v, σ', H', I, r, le.rt _ _ q⟩
theorem WS.mono {st : Stmt} {K K' : Ends} {σ : St} {H : Hp} (h : WS X st K σ H) (le : Ends.le K K') : WS X st K' σ H := fun pins s I => thn (h pins s I) fun _ _ q => sp_mono le q
theorem WSs.mono {st : List Stmt} {K K' : Ends} {σ : St} {H : Hp} (h : WSs X st K σ H) (le : Ends.le K K') : WSs X st K' σ H := fun pins s I => thn (h pins s I) fun _ _ q => sp_mono le q
def PR (K : PySem.W.Frag) (H : Hp) (F : Addr → Prop) (μ : Mem) (Q : Rho → Mem → Prop) : St → Hp → Prop := fun σ' H' => ∃ ρ' F' μ', Grow H F μ H' F' μ' ∧ MS K H' F' μ' ∧ REnv K H' F' σ' ρ' ∧ Q ρ' μ'
theorem PR.pre {K H F μ H1 F1 μ1 Q σ' H'} (g : Grow H F μ H1 F1 μ1) (h : PR K H1 F1 μ1 Q σ' H') : PR K H F μ Q σ' H' :=
  let ⟨ρ', F', μ', g2, m, e, q⟩ := h
  ⟨ρ', F', μ', g.trans g2, m, e, q⟩
def endsOf (K : PySem.W.Frag) (H : Hp) (F : Addr → Prop) (μ : Mem) (D₀ : DEnds) : Ends := ⟨PR K H F μ D₀.nx, Post K H F μ D₀.rt, PR K H F μ D₀.bk, PR K H F μ D₀.ct⟩
theorem endsOf_le {K H F μ H1 F1 μ1} {D₀ : DEnds} (g : Grow H F μ H1 F1 μ1) : Ends.le (endsOf K H1 F1 μ1 D₀) (endsOf K H F μ D₀) := ⟨fun _ _ q => q.pre g, fun _ _ q => q.pre g, fun _ _ q => q.pre g, fun _ _ q => q.pre g⟩
def DS (X : Cx) (EX : EK) (st : Stmt) (ρ : Rho) (μ : Mem) (D₀ : DEnds) : Prop := ∀ σ H F, RE X EX H F μ σ ρ → MS X.K H F μ → WS X st (endsOf X.K H F μ D₀) σ H
def DSs (X : Cx) (EX : EK) (st : List Stmt) (ρ : Rho) (μ : Mem) (D₀ : DEnds) : Prop := ∀ σ H F, RE X EX H F μ σ ρ → MS X.K H F μ → WSs X st (endsOf X.K H F μ D₀) σ H
variable {K₀ : DEnds}
theorem DSs.nil (q : K₀.nx ρ μ) : DSs X EX [] ρ μ K₀ := fun σ H F e m => wss_of pss_nil ⟨ρ, F, μ, .refl, m, e.toREnv, q⟩
theorem DSs.one {st : Stmt} (h : DS X EX st ρ μ K₀) : DSs X EX [st] ρ μ K₀ := fun σ H F e m => wss_of (pss_one ps_ws) (h σ H F e m)
theorem DSs.cons {st : Stmt} {rest : List Stmt} (h : DS X EX st ρ μ { K₀ with nx := fun ρ' μ' => DSs X EX rest ρ' μ' K₀ }) : DSs X EX (st :: rest) ρ μ K₀ := fun σ H F e m => by
  refine wss_of (pss_cons ps_ws pss_wss) ?_
  refine (h σ H F e m).mono ⟨fun σ' H' ⟨ρ', F', μ', g, m', e', q⟩ => ?_, fun _ _ q => q, fun _ _ q => q, fun _ _ q => q⟩
  exact (q σ' H' F' (e.to g e') m').mono (endsOf_le g)
/-- an expression, then a step -/
theorem DS.ofE {st : Stmt} {ex : Expr} {R : D → Mem → Prop} (h : DE X EX ex ρ μ R) (hp : ∀ te, PE X ex te → ∃ k : V → St → Hp → Ends → Prop, PS X st (fun K σ H => te σ H fun v H1 => k v σ H1 K) ∧
    ∀ σ H1 F1 μ1 v d, RE X EX H1 F1 μ1 σ ρ → MS X.K H1 F1 μ1 → RD X.K H1 F1 v d → R d μ1 → ∀ K : Ends, Ends.le (endsOf X.K H1 F1 μ1 K₀) K → k v σ H1 K) : DS X EX st ρ μ K₀ := fun σ H F e m => by
  obtain ⟨k, hk, hr⟩ := hp _ pe_we
  refine ws_of hk ?_
  exact (h σ H F e m).mono fun v H1 ⟨d, F1, μ1, g1, m1, r1, q⟩ => hr σ H1 F1 μ1 v d (e.on g1 m) m1 r1 q _ (endsOf_le g1)
theorem DS.expr {ex : Expr} {pos : Pos} (hl : isLC ex = false) (h : DE X EX ex ρ μ fun _ μ1 => K₀.nx ρ μ1) : DS X EX (.Expr ex pos) ρ μ K₀ :=
  DS.ofE h fun te ht => ⟨fun _ σ H1 K => K.nx σ H1, ps_expr ht (swap_no hl), fun σ H1 F1 μ1 v d e m r q K le => le.nx _ _ ⟨ρ, F1, μ1, .refl, m, e.toREnv, q⟩⟩
theorem DS.ret {ex : Expr} {pos : Pos} (h : DE X EX ex ρ μ K₀.rt) : DS X EX (.Return (some ex) pos) ρ μ K₀ :=
  DS.ofE h fun te ht => ⟨fun v σ H1 K => K.rt v H1, ps_ret ht, fun σ H1 F1 μ1 v d e m r q K le => le.rt _ _ (.now m r q)⟩
theorem DS.retN {pos : Pos} (q : K₀.rt .non μ) : DS X EX (.Return none pos) ρ μ K₀ := fun σ H F e m => ws_of ps_retN (.now m .non q)
theorem DS.pass {pos : Pos} (q : K₀.nx ρ μ) : DS X EX (.Pass pos) ρ μ K₀ := fun σ H F e m => ws_of ps_pass ⟨ρ, F, μ, .refl, m, e.toREnv, q⟩
theorem DS.brk {pos : Pos} (q : K₀.bk ρ μ) : DS X EX (.Break pos) ρ μ K₀ := fun σ H F e m => ws_of ps_break ⟨ρ, F, μ, .refl, m, e.toREnv, q⟩
theorem DS.cont {pos : Pos} (q : K₀.ct ρ μ) : DS X EX (.Continue pos) ρ μ K₀ := fun σ H F e m => ws_of ps_continue ⟨ρ, F, μ, .refl, m, e.toREnv, q⟩
theorem DS.ite {t : Expr} {a b : List Stmt} {pos : Pos} (h : DT X EX t ρ μ fun c μ1 => if c = true then DSs X EX a ρ μ1 K₀ else DSs X EX b ρ μ1 K₀) : DS X EX (.If t a b pos) ρ μ K₀ := fun σ H F e m => by
  refine ws_of (ps_if pt_wt pss_wss pss_wss) ?_
  refine (h σ H F e m).mono fun c H1 ⟨F1, μ1, g1, m1, q⟩ => ?_
  cases c with
  | true =>
    rw [if_pos rfl] at q ⊢
    exact (q σ H1 F1 (e.on g1 m) m1).mono (endsOf_le g1)
  | false =>
    rw [if_neg Bool.false_ne_true] at q ⊢
    exact (q σ H1 F1 (e.on g1 m) m1).mono (endsOf_le g1)
theorem intK_ok {d : D} {k : Int → Prop} (h : intK d k) : ∃ i, d = .int i ∧ k i := by
  cases d <;> first | exact ⟨_, rfl, h⟩ | exact h.elim
theorem tLc_mono {X : Cx} {tg iter : Expr} {g : TG} {tt : TT} {te : TE} {vs : List Nat} {σ : St} {H : Hp} {Q Q' : VK} (h : tLc (WI X tg iter) g tt te vs σ H Q) (m : ∀ v H', Q v H' → Q' v H') : tLc (WI X tg iter) g tt te vs σ H Q' := by
  refine WI.mono h fun J H1 hD D hd => ?_
  obtain ⟨W, h0, hs⟩ := hD D hd
  refine ⟨W, h0, fun i k H' w => ?_⟩
  rcases hs i k H' w with ⟨a, b⟩ | c
  · exact .inl ⟨a, m _ _ b⟩
  · exact .inr c
/-- two names are stored from the right -/
def swap2B (px py : Pos) (a b : Expr) : Bool := (py.line == px.line) && (!([a, b].all (foldedForSure 8)) && !([a, b].all (constantsAlone 8)))
theorem swapped2 {X : Cx} {x y : Str} {a b : Expr} {px py pt pt2 : Pos} {kt k2 : Nat} (hk : X.env.scope.kind = .function) (hx : X.env.scope.names.lookup x = some .local) (hy : X.env.scope.names.lookup y = some .local) (hxy : x ≠ y) (sa : noStar a = true) (sb : noStar b = true) (h : swap2B px py a b = true) :
    swappedStores [.Tuple [.Name x px, .Name y py] kt pt] (.Tuple [a, b] k2 pt2) X.env = pure (some [x, y]) := by
  have kx : X.env.kindOf x = some .local := hx
  have ky : X.env.kindOf y = some .local := hy
  have hb : X.env.blockKind = .function := by unfold Env.blockKind; rw [hk]; rfl
  unfold swap2B at h
  simp only [Bool.and_eq_true, Bool.not_eq_true'] at h
  obtain ⟨h1, h2, h3⟩ := h
  have st : ([a, b].any fun | .Starred .. => true | _ => false) = false := by
    cases a <;> cases b <;> first | rfl | (cases sa; done) | (cases sb; done)
  have nd : ([x, y].eraseDups).length = 2 := by
    have e : (y == x) = false := beq_eq_false_iff_ne.mpr (fun z => hxy z.symm)
    simp [List.eraseDups_cons, e]
  have hpx : (px.line == px.line) = true := beq_self_eq_true _
  have e1 : (some NameKind.local == some NameKind.local) = true := rfl
  unfold swappedStores
  simp only [List.length_cons, List.length_nil, hb, List.filterMap_cons, List.filterMap_nil, List.head?_cons, Option.map_some, Option.getD_some, Expr.pos, kx, ky, h1, h2, h3, hpx, e1, Bool.true_and, if_true]
  refine (if_neg (by decide)).trans ((if_neg ?_).trans ((if_neg ?_).trans ((if_neg (by decide)).trans (if_neg (by decide)))))
  · intro hc
    rw [List.any_cons, List.any_cons, List.any_nil, Bool.or_false, Bool.or_eq_true] at hc
    rcases hc with hc | hc
    · cases a <;> first | (cases hc; done) | (cases sa; done)
    · cases b <;> first | (cases hc; done) | (cases sb; done)
  · rw [nd]
    decide
def two (ds : List D) (p : D → D → Prop) : Prop := match ds with
  | [x, y] => p x y
  | _ => False
/-- the names of a def that may be stored -/
theorem def_own (sx : SX G X N sc) (hf : ∀ x, X.fn x = true) (x : Str) (h : locB sc x = true) : Loc X.env.scope x ∧ (X.fn x = true ∨ X.env.scope.names.lookup x = some .local) := ⟨sx.loc h, .inl (hf x)⟩
theorem asg_k (sx : SX G X N sc) (hf : ∀ x, X.fn x = true) {tg : Expr} {t : T} (ht : tgB N (locB sc) t tg = true) {σ : St} {H : Hp} {F : Addr → Prop} {v : V} {d : D} {Q : Rho → Mem → Prop} (e : REnv X.K H F σ ρ) (m : MS X.K H F μ) (r : RD X.K H F v d) (q : wpTg t d ρ μ Q) {Z : St → Hp → Prop} (le : ∀ σ' H', PR X.K H F μ Q σ' H' → Z σ' H') : WG X tg v σ H Z :=
  (tg_ok (def_own sx hf) sx.hN sx.nd sx.calm t tg ht v d σ H F ρ μ Q e m r q).mono fun σ' H' ⟨_, ρ', F', μ', g, m', e', q'⟩ => le σ' H' ⟨ρ', F', μ', g, m', e', q'⟩
theorem DS.set (sx : SX G X N sc) (hf : ∀ x, X.fn x = true) {i : Nat} {x : Str} {ex : Expr} {p pos : Pos} (hi : N[i]? = some x) (hx : locB sc x = true) (hs : swapsWith ex (some (.Name x p)) pos.line X.env = pure false) (h : DE X EX ex ρ μ fun d μ1 => K₀.nx (ρ.set i (some d)) μ1) : DS X EX (.Assign [.Name x p] ex pos) ρ μ K₀ :=
  DS.ofE h fun te ht => ⟨fun v σ H1 K => gName i v σ H1 K.nx, ps_set (by rw [sx.hN]; exact sx.nd) (by rw [sx.hN]; exact hi) (sx.loc hx) ht hs (.inl (hf x)), fun σ H1 F1 μ1 v d e m r q K le => le.nx _ _ ⟨_, F1, μ1, .refl, m, (e.set i r).toREnv, q⟩⟩
theorem swaps_none {tg v : Expr} {env : Env} (h : isTupE v = false) : swappedStores [tg] v env = pure none := by
  cases tg <;> cases v <;> first | rfl | (cases h; done)
/-- not a tuple, or one of folded constants -/
def tupFree : Expr → Bool
  | .Tuple vs _ _ => vs.all (foldedForSure 8)
  | _ => true
theorem swaps_free {tg v : Expr} {env : Env} (h : tupFree v = true) : swappedStores [tg] v env = pure none := by
  by_cases hv : isTupE v = false
  · exact swaps_none hv
  · cases v with
    | Tuple vs k p =>
      have h : vs.all (foldedForSure 8) = true := h
      cases tg <;> first | rfl | skip
      all_goals
        unfold swappedStores
        simp only [h, if_true]
        repeat (first | rfl | split)
    | _ => exact absurd rfl hv
theorem swaps_sub {o i : Expr} {p : Pos} {v : Expr} {env : Env} : swappedStores [.Subscript o i p] v env = pure none := by
  cases v <;> rfl
theorem swaps_sole {ts : List Expr} {k : Nat} {p : Pos} {v : Expr} {l : Nat} {env : Env} : swapsWithSole [.Tuple ts k p] v l env = pure false := by
  cases v <;> rfl
theorem DS.asg (sx : SX G X N sc) (hf : ∀ x, X.fn x = true) {t : T} {ts : List Expr} {k : Nat} {p pos : Pos} {ex : Expr} (ht : tgB N (locB sc) t (.Tuple ts k p) = true) (hv : tupFree ex = true) (h : DE X EX ex ρ μ fun d μ1 => wpTg t d ρ μ1 K₀.nx) : DS X EX (.Assign [.Tuple ts k p] ex pos) ρ μ K₀ :=
  DS.ofE h fun te hte => ⟨fun v σ H1 K => WG X (.Tuple ts k p) v σ H1 K.nx, ps_asg hte pg_wg swaps_sole (swaps_free hv) rfl, fun σ H1 F1 μ1 v d e m r q K le => asg_k sx hf ht e.toREnv m r q le.nx⟩
theorem DS.aug (sx : SX G X N sc) (hf : ∀ x, X.fn x = true) {i : Nat} {x : Str} {ex : Expr} {p pos : Pos} (hi : N[i]? = some x) (hx : locB sc x = true)
    (ha : getV ρ i fun d0 => intK d0 fun a => DE X EX ex ρ μ fun d μ1 => intK d fun b => K₀.nx (ρ.set i (some (.int (a + b)))) μ1) : DS X EX (.AugAssign (.Name x p) .Add ex pos) ρ μ K₀ := fun σ H F e m => by
  obtain ⟨d0, h0, ha⟩ := getV_ok ha
  obtain ⟨a, ea, h⟩ := intK_ok ha
  subst ea
  refine ws_of (ps_aug (by rw [sx.hN]; exact sx.nd) (by rw [sx.hN]; exact hi) (sx.loc hx) pe_we ip_add (.inl (hf x))) ?_
  obtain ⟨v, hv, rv⟩ := e.at_ i _ h0
  cases rv
  refine ⟨_, hv, ?_⟩
  refine (h σ H F e m).mono fun u H1 ⟨d, F1, μ1, g1, m1, r1, q⟩ => ?_
  obtain ⟨b, eb, q⟩ := intK_ok q
  subst eb
  cases r1
  exact ⟨a, b, rfl, rfl, ⟨_, F1, μ1, g1, m1, ((e.on g1 m).set i (.int _)).toREnv, q⟩⟩
/-- name = [..] -/
theorem DS.setLc (sx : SX G X N sc) {i : Nat} {y : Str} {py : Pos} {z : Bool} {elt tg iter : Expr} {ifs : List Expr} {scope : Scope} {pos spos : Pos} {own : List (Str × Nat)} {t : T} {P : Rho → Mem → (Bool → Mem → Prop) → Prop} {Pe : Rho → Mem → DK → Prop}
    (hi : N[i]? = some y) (hy : sc.names.lookup y = some .local) (hl : (py.line == pos.line) = true) (ha : (scope.names.any fun (n, k) => n == y && (k == .local || k == .cell)) = false) (hset : isSetE iter = false) (L : LcOk G X EX N sc tg ifs elt scope own t P Pe)
    (h : DI X EX tg iter ρ μ fun items ok μ1 => LC items μ1 ok (fun x μ2 R => wpTg t x (wipeR ρ t.slots) μ2 fun ρ' μ3 => P ρ' μ3 fun b μ4 => if b = true then Pe ρ' μ4 fun d μ5 => R (some d) μ5 else R none μ4) fun acc μ2 => newL z acc μ2 fun d μ3 => K₀.nx (ρ.set i (some d)) μ3) :
    DS X EX (.Assign [.Name y py] (.ListComp elt [⟨tg, iter, ifs, 0⟩] scope pos) spos) ρ μ K₀ := fun σ H_ F en m => by
  have blk : BlkOk X.N X.env.scope scope own := by rw [sx.hN, sx.esc]; exact L.blk
  have hy2 : X.env.scope.names.lookup y = some .local := by rw [sx.esc]; exact hy
  have hk : X.env.scope.kind = .function := by rw [sx.esc]; exact sx.kind
  obtain ⟨e0, o0, L0, hst, hf0, hf⟩ := sx.fr
  refine ws_of (ps_setLcX (i := i) (fun _ _ _ _ _ w => w) en.tk hst hf0 hf sx.calm (by rw [sx.hN]; exact sx.nd) (by rw [sx.hN]; exact hi) hy2 (sw_true hk hy2 hl ha) pi_wi blk
    (g := fun v σ H Q => ∀ (s0 : Shared) (H0 : Hp) (C : Addr) (cl : List (Str × Addr)) (fp : List Addr) xe, TakesF (blkX X s0 H0 scope (compEnvC scope cl C X.env) fp xe) (fun cls d _ H' => Wish X.K X.mg H_ F μ EX cls d H') → WG (blkX X s0 H0 scope (compEnvC scope cl C X.env) fp xe) tg v σ H Q)
    (tt := fun σ H Q => ∀ (s0 : Shared) (H0 : Hp) (C : Addr) (cl : List (Str × Addr)) (fp : List Addr) xe, TakesF (blkX X s0 H0 scope (compEnvC scope cl C X.env) fp xe) (fun cls d _ H' => Wish X.K X.mg H_ F μ EX cls d H') → WTs (blkX X s0 H0 scope (compEnvC scope cl C X.env) fp xe) ifs σ H Q)
    (te := fun σ H Q => ∀ (s0 : Shared) (H0 : Hp) (C : Addr) (cl : List (Str × Addr)) (fp : List Addr) xe, TakesF (blkX X s0 H0 scope (compEnvC scope cl C X.env) fp xe) (fun cls d _ H' => Wish X.K X.mg H_ F μ EX cls d H') → WE (blkX X s0 H0 scope (compEnvC scope cl C X.env) fp xe) elt σ H Q)
    (fun s0 H0 C cl fp xe tk => ⟨fun pins s σ H v u Q I r q => q s0 H0 C cl fp xe tk pins s u I r⟩) (fun s0 H0 C cl fp xe tk => ⟨fun pins s σ H Q I q => q s0 H0 C cl fp xe tk pins s I⟩) (fun s0 H0 C cl fp xe tk => ⟨fun pins s σ H Q I q => q s0 H0 C cl fp xe tk pins s I⟩) (folded_no hset)) ?_
  have hr := lc_read (Q := fun d μ3 => K₀.nx (ρ.set i (some d)) μ3) sx L h en m
  refine tLc_mono hr fun v H' ⟨d, F', μ', g, m', r, q⟩ => ?_
  exact ⟨_, F', μ', g, m', ((en.on g m).set i r).toREnv, q⟩
/-- a, b = e, e' -/
theorem DS.par (sx : SX G X N sc) {i j : Nat} {x y : Str} {a b : Expr} {px py pt pt2 pos : Pos} {kt k2 : Nat} (hi : N[i]? = some x) (hj : N[j]? = some y) (hij : i ≠ j)
    (hx : sc.names.lookup x = some .local) (hy : sc.names.lookup y = some .local) (hxy : x ≠ y) (sa : noStar a = true) (sb : noStar b = true) (hsw : swap2B px py a b = true)
    (h : DA X EX [a, b] ρ μ fun ds μ1 => two ds fun d e => K₀.nx ((ρ.set i (some d)).set j (some e)) μ1) : DS X EX (.Assign [.Tuple [.Name x px, .Name y py] kt pt] (.Tuple [a, b] k2 pt2) pos) ρ μ K₀ := fun σ H F en m => by
  have hx2 : X.env.scope.names.lookup x = some .local := by rw [sx.esc]; exact hx
  have hy2 : X.env.scope.names.lookup y = some .local := by rw [sx.esc]; exact hy
  have hk : X.env.scope.kind = .function := by rw [sx.esc]; exact sx.kind
  refine ws_of (ps_par (i := i) (j := j) sx.calm (by rw [sx.hN]; exact sx.nd) (by rw [sx.hN]; exact hi) (by rw [sx.hN]; exact hj) hij hx2 hy2 pa_wa (swapped2 hk hx2 hy2 hxy sa sb hsw)) ?_
  refine (h σ H F en m).mono fun vs H1 ⟨ds, F1, μ1, g1, m1, r1, q⟩ => ?_
  match ds, r1, q with
  | [d, e], r1, q =>
    obtain ⟨v, u, ev, rv, ru⟩ := two_of r1
    exact ⟨v, u, ev, _, F1, μ1, g1, m1, (((en.on g1 m).set i rv).set j ru).toREnv, q⟩

/-! ### lists that change -/
theorem chg_ok {K H F} {v : V} {x : D} {f : Addr → List D → Prop} (m : MS K H F μ) (r : RD K H F v x) (h : chg x μ f) : ∃ a vs ds, v = .ref a ∧ x = .ref a ∧ H a = some (.lst vs) ∧ RDs K H F vs ds ∧ μ a = some (.lst ds) ∧ f a ds := by
  cases x with
  | ref a =>
    cases r
    obtain ⟨l, e, h⟩ := optD_ok (show optD (seqL μ (.ref a)) _ from h)
    obtain ⟨_, u, hu, vs, eu, rs⟩ := m.at_ a _ (seqL_ref e)
    subst eu
    exact ⟨a, vs, l, rfl, rfl, hu, rs, seqL_ref e, h⟩
  | _ => exact False.elim h
theorem tyV_list {K H F} {v : V} {x : D} {l : List D} (m : MS K H F μ) (r : RD K H F v x) (h : seqL μ x = some l) : tyV K "list" v H := by
  obtain ⟨a, vs, e, hs, _⟩ := seqL_rd m r h
  subst e
  exact .inl ⟨rfl, vs, hs⟩
theorem few_ok {es : List Expr} {cpos : Pos} {env : Env} (h : es.all noStar = true) (hl : es.length < 30) : ((backTo cpos (starEach es env)).all (fun x => !x.1) && (backToKw cpos (keywordEach [] env)).all (fun x => x.1.isSome)
      && decide (es.length + ([] : List Keyword).length + (if ([] : List Keyword).isEmpty then 0 else 1) < 30)) = true := by
  have a := star_any (env := env) (pos := cpos) h
  have b : (backTo cpos (starEach es env)).all (fun x => !x.1) = true := by
    rw [List.all_eq_true]
    intro x hx
    rw [List.any_eq_false] at a
    simpa using a x hx
  rw [b]
  simp only [Bool.true_and, List.length_nil, Nat.add_zero, List.isEmpty_nil, if_true]
  rw [decide_eq_true hl]
  rfl
theorem DS.app {o ex : Expr} {apos cpos pos : Pos} (hb : noSuper o = true) (hl : (apos.endLine == cpos.line) = true) (hs : noStar ex = true)
    (h : DE X EX o ρ μ fun x μ1 => (∃ l, seqL μ1 x = some l) ∧ DE X EX ex ρ μ1 fun d μ2 => chg x μ2 fun a l => l.length < 16777216 ∧ K₀.nx ρ (mset μ2 a (.lst (l ++ [d])))) : DS X EX (.Expr (.Call (.Attribute o "append" apos) [ex] [] cpos) pos) ρ μ K₀ := fun σ H F e m => by
  have hs1 : [ex].all noStar = true := by simp [hs]
  refine ws_of (ps_expr (pe_bm PySem.F.plainAttrs_list PySem.F.slot_list_append PySem.F.type_list_append mt_append pe_we (pa_cons pe_we pa_nil (star_cons hs)) (base_of hb) (few_ok hs1 (by simp)) hl (star_cons hs) (star_any rfl)) (swap_no rfl)) ?_
  refine (h σ H F e m).mono fun v H1 ⟨x, F1, μ1, g1, m1, r1, ⟨l, hl1⟩, q1⟩ => ⟨tyV_list m1 r1 hl1, ?_⟩
  refine (q1 σ H1 F1 (e.on g1 m) m1).mono fun u H2 ⟨d, F2, μ2, g2, m2, r2, q2⟩ => ?_
  obtain ⟨a, vs, ds, ev, _, ha, rs, hm, hz, q⟩ := chg_ok m2 (r1.stay (g2.stay m1)) q2
  subst ev
  obtain ⟨g3, m3⟩ := write_ref (vs := vs ++ [u]) m2 hm (rs.append (.cons r2 .nil))
  have g := (g1.trans g2).trans g3
  exact ⟨a, vs, u, rfl, rfl, ha, by rw [rs.length, line_eq]; exact hz, ρ, F2, _, g, m3, (e.on g m).toREnv, q⟩
theorem DS.ext {o ex : Expr} {apos cpos pos : Pos} (hb : noSuper o = true) (hl : (apos.endLine == cpos.line) = true) (hs : noStar ex = true)
    (h : DE X EX o ρ μ fun x μ1 => (∃ l, seqL μ1 x = some l) ∧ DE X EX ex ρ μ1 fun d μ2 => chg x μ2 fun a l => optD (seqP μ2 d) fun r => l.length + r.length ≤ 16777216 ∧ K₀.nx ρ (mset μ2 a (.lst (l ++ r)))) : DS X EX (.Expr (.Call (.Attribute o "extend" apos) [ex] [] cpos) pos) ρ μ K₀ := fun σ H F e m => by
  have hs1 : [ex].all noStar = true := by simp [hs]
  refine ws_of (ps_expr (pe_bm PySem.F.plainAttrs_list PySem.F.slot_list_extend PySem.F.type_list_extend mt_extend pe_we (pa_cons pe_we pa_nil (star_cons hs)) (base_of hb) (few_ok hs1 (by simp)) hl (star_cons hs) (star_any rfl)) (swap_no rfl)) ?_
  refine (h σ H F e m).mono fun v H1 ⟨x, F1, μ1, g1, m1, r1, ⟨l, hl1⟩, q1⟩ => ⟨tyV_list m1 r1 hl1, ?_⟩
  refine (q1 σ H1 F1 (e.on g1 m) m1).mono fun u H2 ⟨d, F2, μ2, g2, m2, r2, q2⟩ => ?_
  obtain ⟨a, vs, ds, ev, _, ha, rs, hm, q⟩ := chg_ok m2 (r1.stay (g2.stay m1)) q2
  subst ev
  obtain ⟨r, er, hz, q⟩ := optD_ok q
  obtain ⟨b, ws, eb, hb2, rs2⟩ := seqP_rd m2 r2 er
  subst eb
  obtain ⟨g3, m3⟩ := write_ref (vs := vs ++ ws) m2 hm (rs.append rs2)
  have g := (g1.trans g2).trans g3
  exact ⟨a, b, vs, ws, rfl, rfl, ha, hb2, by rw [rs.length, rs2.length, line_eq]; exact hz, ρ, F2, _, g, m3, (e.on g m).toREnv, q⟩
theorem RDs.dropLast {K H F} {vs : List V} {ds : List D} (r : RDs K H F vs ds) : RDs K H F vs.dropLast ds.dropLast := by
  rw [List.dropLast_eq_take, List.dropLast_eq_take, r.length]
  exact r.take _
theorem DS.pop {o : Expr} {apos cpos pos : Pos} (hb : noSuper o = true) (hl : (apos.endLine == cpos.line) = true)
    (h : DE X EX o ρ μ fun x μ1 => chg x μ1 fun a l => l ≠ [] ∧ K₀.nx ρ (mset μ1 a (.lst l.dropLast))) : DS X EX (.Expr (.Call (.Attribute o "pop" apos) [] [] cpos) pos) ρ μ K₀ := fun σ H F e m => by
  refine ws_of (ps_expr (pe_bm0 PySem.F.plainAttrs_list PySem.F.slot_list_pop PySem.F.type_list_pop mt_pop pe_we (base_of hb) hl) (swap_no rfl)) ?_
  refine (h σ H F e m).mono fun v H1 ⟨x, F1, μ1, g1, m1, r1, q1⟩ => ?_
  obtain ⟨a, vs, ds, ev, ex, ha, rs, hm, hne, q⟩ := chg_ok m1 r1 q1
  subst ev
  have hv : vs ≠ [] := fun z => hne ((nil_of rs).mp z)
  obtain ⟨g3, m3⟩ := write_ref (vs := vs.dropLast) m1 hm rs.dropLast
  have g := g1.trans g3
  have hl2 : vs.length - 1 < vs.length := by
    have := List.length_pos_iff.mpr hv
    omega
  exact ⟨.inl ⟨rfl, vs, .inl (.inl ha)⟩, a, vs, vs[vs.length - 1], rfl, rfl, ha, List.getElem?_eq_getElem hl2, ρ, F1, _, g, m3, (e.on g m).toREnv, q⟩
theorem DS.clear {o : Expr} {apos cpos pos : Pos} (hb : noSuper o = true) (hl : (apos.endLine == cpos.line) = true)
    (h : DE X EX o ρ μ fun x μ1 => chg x μ1 fun a _ => K₀.nx ρ (mset μ1 a (.lst []))) : DS X EX (.Expr (.Call (.Attribute o "clear" apos) [] [] cpos) pos) ρ μ K₀ := fun σ H F e m => by
  refine ws_of (ps_expr (pe_bm0 PySem.F.plainAttrs_list PySem.F.slot_list_clear PySem.F.type_list_clear mt_clear pe_we (base_of hb) hl) (swap_no rfl)) ?_
  refine (h σ H F e m).mono fun v H1 ⟨x, F1, μ1, g1, m1, r1, q1⟩ => ?_
  obtain ⟨a, vs, ds, ev, ex, ha, rs, hm, q⟩ := chg_ok m1 r1 q1
  subst ev
  obtain ⟨g3, m3⟩ := write_ref (vs := []) m1 hm .nil
  have g := g1.trans g3
  exact ⟨.inl ⟨rfl, vs, .inl (.inl ha)⟩, a, vs, rfl, rfl, ha, ρ, F1, _, g, m3, (e.on g m).toREnv, q⟩
/-- o[i] as a target -/
theorem sub_asg {o i : Expr} {p : Pos} {v : Value} {env : Env} (h : isSlice i = false) : assign (.Subscript o i p) env v = (do
      let ov ← holding [v] (eval o env)
      let iv ← holding [v, ov] (eval i env)
      standAt p
      holding [v, ov, iv] (setItem ov iv v)
      release [v, ov, iv] []) := by
  cases i <;> first | rfl | (cases h; done)
theorem set_k {σ : St} {H : Hp} {F : Addr → Prop} {o i : Expr} {v : V} {d : D} {Q : Mem → Prop} (e : RE X EX H F μ σ ρ) (m : MS X.K H F μ) (r : RD X.K H F v d)
    (h : DE X EX o ρ μ fun x μ2 => DE X EX i ρ μ2 fun k μ3 => setD x k d μ3 Q) {Z : Hp → Prop} (le : ∀ H' F' μ', Grow H F μ H' F' μ' → MS X.K H' F' μ' → Q μ' → Z H') :
    gSub (WE X o) (WE X i) rSetL v σ H fun _ H' => Z H' := by
  refine (h σ H F e m).mono fun ov H1 ⟨x, F1, μ1, g1, m1, r1, q1⟩ => ?_
  refine (q1 σ H1 F1 (e.on g1 m) m1).mono fun iv H2 ⟨k, F2, μ2, g2, m2, r2, q2⟩ => ?_
  have g12 := g1.trans g2
  obtain ⟨a, vs, ds, ev, _, ha, rs, hm, q⟩ := chg_ok m2 (r1.stay (g2.stay m1)) q2
  subst ev
  cases k with
  | int k =>
    cases r2
    obtain ⟨j, hj, q⟩ := optD_ok (show optD (ixN ds.length k) _ from q)
    obtain ⟨g3, m3⟩ := write_ref (vs := vs.set j v) m2 hm (rs.set (r.stay (g12.stay m)) j)
    exact ⟨a, vs, k, j, rfl, rfl, ha, by rw [rs.length]; exact hj, le _ F2 _ (g12.trans g3) m3 q⟩
  | _ => exact False.elim q
theorem gSub_st {to ti : TE} {v : V} {σ : St} {H : Hp} {Z : St → Hp → Prop} (h : gSub to ti rSetL v σ H fun _ H' => Z σ H') : gSub to ti rSetL v σ H Z := h
theorem DS.setIx {o i ex : Expr} {p pos : Pos} (hi : isSlice i = false) (hl : isLC ex = false)
    (h : DE X EX ex ρ μ fun d μ1 => DE X EX o ρ μ1 fun x μ2 => DE X EX i ρ μ2 fun k μ3 => setD x k d μ3 fun μ4 => K₀.nx ρ μ4) : DS X EX (.Assign [.Subscript o i p] ex pos) ρ μ K₀ :=
  DS.ofE h fun te hte => ⟨fun v σ H1 K => gSub (WE X o) (WE X i) rSetL v σ H1 K.nx, ps_asg hte (pg_sub pe_we pe_we set_list fun v => sub_asg hi) (show swapsWith ex (some (.Subscript o i p)) pos.line X.env = pure false from swap_no hl) swaps_sub rfl, fun σ H1 F1 μ1 v d e m r q K le =>
    gSub_st (set_k (Z := fun H' => K.nx σ H') e m r q fun H' F' μ' g m' q' => le.nx _ _ ⟨ρ, F', μ', g, m', (e.on g m).toREnv, q'⟩)⟩
/-- o[i], x = a pair -/
theorem DS.setIx2 (sx : SX G X N sc) (hf : ∀ x, X.fn x = true) {o i ex : Expr} {j : Nat} {y : Str} {p p2 p3 pos : Pos} {k : Nat} (hi : isSlice i = false) (hv : isTupE ex = false) (hj : N[j]? = some y) (hy : locB sc y = true)
    (h : DE X EX ex ρ μ fun d μ1 => ∃ d1 d2, d = .tup [d1, d2] ∧ DE X EX o ρ μ1 fun x μ2 => DE X EX i ρ μ2 fun k μ3 => setD x k d1 μ3 fun μ4 => K₀.nx (ρ.set j (some d2)) μ4) : DS X EX (.Assign [.Tuple [.Subscript o i p, .Name y p2] k p3] ex pos) ρ μ K₀ := by
  refine DS.ofE h fun te hte => ⟨fun v σ H1 K => gTup X.K 2 (gCons (gSub (WE X o) (WE X i) rSetL) (gCons (gName j) gNil)) v σ H1 K.nx,
    ps_asg hte (pg_tup sx.calm (pgs_cons (pg_sub pe_we pe_we set_list fun v => sub_asg hi) (pgs_cons (pg_name (by rw [sx.hN]; exact sx.nd) (by rw [sx.hN]; exact hj) (sx.loc hy) (.inl (hf y))) pgs_nil rfl) rfl) rfl rfl) swaps_sole (swaps_none hv) rfl, fun σ H1 F1 μ1 v d e m r q K le => ?_⟩
  obtain ⟨d1, d2, ed, q⟩ := q
  subst ed
  cases r with
  | tup t rs =>
    obtain ⟨v1, v2, ev, r1, r2⟩ := two_of rs
    subst ev
    refine ⟨_, _, rfl, t, rfl, v1, [v2], rfl, ?_⟩
    refine gSub_st (set_k (Z := fun H' => gCons (gName j) gNil [v2] σ H' K.nx) e m r1 q fun H' F' μ' g m' q' => ?_)
    exact ⟨v2, [], rfl, rfl, le.nx _ _ ⟨_, F', μ', g, m', ((e.on g m).set j (r2.stay (g.stay m))).toREnv, q'⟩⟩

/-! ### slots forgotten -/
theorem REnv.forget {K H F σ ρ} (e : REnv K H F σ ρ) : ∀ vs : List Nat, REnv K H F σ (wipeR ρ vs)
  | [] => e
  | v :: vs => by
    have ih := REnv.forget e vs
    unfold wipeR
    refine ⟨by rw [List.length_set]; exact ih.len, fun i d h => ?_⟩
    by_cases hi : v = i
    · subst hi
      by_cases hl : v < (wipeR ρ vs).length
      · rw [List.getElem?_set_self hl] at h; cases h
      · rw [List.getElem?_eq_none (by rw [List.length_set]; omega)] at h; cases h
    · rw [List.getElem?_set_ne hi] at h
      exact ih.at_ i d h
theorem DS.forget {st : Stmt} {vs : List Nat} (h : DS X EX st (wipeR ρ vs) μ K₀) : DS X EX st ρ μ K₀ := fun σ H F e m => h σ H F (e.to .refl (e.toREnv.forget vs)) m
theorem PR.forget {K H F μ} {vs : List Nat} {Q : Rho → Mem → Prop} {σ H'} (h : PR K H F μ (fun ρ μ => Q (wipeR ρ vs) μ) σ H') : PR K H F μ Q σ H' :=
  let ⟨ρ', F', μ', g, m, e, q⟩ := h
  ⟨_, F', μ', g, m, e.forget vs, q⟩
theorem DSs.wiped {b : List Stmt} {vs : List Nat} (h : DSs X EX b ρ μ (wipeK vs K₀)) : DSs X EX b ρ μ K₀ := fun σ H F e m =>
  (h σ H F e m).mono ⟨fun _ _ q => q.forget, fun _ _ q => q, fun _ _ q => q.forget, fun _ _ q => q.forget⟩

/-! ### loops -/
theorem DS.forW (sx : SX G X N sc) (hs : X.stack = X.env :: X.outer) (hf : ∀ x, X.fn x = true) {t : T} {tg iter : Expr} {body : List Stmt} {pos : Pos} {P : Rho → Mem → DEnds → Prop} (ht : tgB N (locB sc) t tg = true) (hset : isSetE iter = false) (hb : ∀ ρ μ K, P ρ μ K → DSs X EX body ρ μ K) (ws : List Nat)
    (h : DI X EX tg iter ρ μ fun items ok μ1 => LP items (wipeR ρ ws) μ1 ok (fun x ρ' μ' K' => wpTg t x ρ' μ' fun ρ2 μ2 => P ρ2 μ2 K') K₀) : DS X EX (.For tg iter body [] pos) ρ μ K₀ := fun σ H F e m => by
  refine ws_of (ps_for (sx.own hs) sx.calm pi_wi pg_wg pss_wss (folded_no hset)) ?_
  refine (h σ H F e m).mono fun J H1 ⟨items, ok, F1, μ1, g1, m1, w, I, hI0, hIs, hId⟩ => ?_
  refine ⟨fun i k σ' H' => k = items.length - i ∧ i ≤ items.length ∧ ∃ F' ρ' μ', Grow H1 F1 μ1 H' F' μ' ∧ MS X.K H' F' μ' ∧ REnv X.K H' F' σ' ρ' ∧ I (items.drop i) ρ' μ', ⟨items.length, by simp, Nat.zero_le _, F1, wipeR ρ ws, μ1, .refl, m1, (e.on g1 m).toREnv.forget ws, hI0⟩, ?_⟩
  rintro i k σ2 H2 ⟨rfl, hi, F2, ρ2, μ2, g2, m2, e2, hI⟩
  by_cases hlt : i < items.length
  · right
    rw [List.drop_eq_getElem_cons hlt] at hI
    obtain ⟨hok, hstep⟩ := hIs _ _ _ _ hI
    refine ⟨w.go i H2 F2 μ2 hlt g2 m2 hok, fun σ' H' => i + 1 ≤ items.length ∧ ∃ F' ρ' μ', Grow H1 F1 μ1 H' F' μ' ∧ MS X.K H' F' μ' ∧ REnv X.K H' F' σ' ρ' ∧ I (items.drop (i + 1)) ρ' μ', fun σ' H' ⟨h1, h2⟩ => ⟨items.length - (i + 1), by omega, rfl, h1, h2⟩, fun x H3 y => ?_⟩
    obtain ⟨d, hd2, g3, m3, r3⟩ := w.yld i H2 F2 μ2 x H3 hlt g2 m2 hok y
    have ed : items[i] = d := by rw [List.getElem?_eq_getElem hlt] at hd2; exact Option.some.inj hd2
    rw [ed] at hstep
    have g13 := g2.trans g3
    refine asg_k sx hf ht (e2.stay (g3.stay m2)) m3 r3 hstep fun σ4 H4 ⟨ρ4, F4, μ4, g4, m4, e4, q4⟩ => ?_
    have g14 := g13.trans g4
    refine (hb _ _ _ q4 σ4 H4 F4 (e.to (g1.trans g14) e4) m4).mono ⟨fun σ5 H5 ⟨ρ5, F5, μ5, g5, m5, e5, q5⟩ => ⟨hlt, F5, ρ5, μ5, g14.trans g5, m5, e5, q5⟩, fun v H5 q => ?_, fun σ5 H5 q => ?_, fun σ5 H5 ⟨ρ5, F5, μ5, g5, m5, e5, q5⟩ => ⟨hlt, F5, ρ5, μ5, g14.trans g5, m5, e5, q5⟩⟩
    · exact Post.pre (g1.trans g14) q
    · exact PR.pre (g1.trans g14) q
  · left
    have hi2 : i = items.length := by omega
    subst hi2
    rw [List.drop_length] at hI
    obtain ⟨hok, hq⟩ := hId _ _ hI
    exact ⟨w.stop H2 F2 μ2 g2 m2 hok, ρ2, F2, μ2, g1.trans g2, m2, e2, hq⟩
theorem DS.while_ (sx : SX G X N sc) (hs : X.stack = X.env :: X.outer) {t : Expr} {body : List Stmt} {pos : Pos} {Pt : Rho → Mem → (Bool → Mem → Prop) → Prop} {P : Rho → Mem → DEnds → Prop} (ht : ∀ ρ μ q, Pt ρ μ q → DT X EX t ρ μ q) (hb : ∀ ρ μ K, P ρ μ K → DSs X EX body ρ μ K)
    (h : LW ρ μ Pt P K₀) : DS X EX (.While t body [] pos) ρ μ K₀ := fun σ H F e m => by
  obtain ⟨I, ⟨k0, hI0⟩, hs2⟩ := h
  refine ws_of (ps_while (sx.own hs) pt_wt pss_wss) ?_
  refine ⟨fun k σ' H' => ∃ F' ρ' μ', Grow H F μ H' F' μ' ∧ MS X.K H' F' μ' ∧ REnv X.K H' F' σ' ρ' ∧ I k ρ' μ', ⟨k0, F, ρ, μ, .refl, m, e.toREnv, hI0⟩, ?_⟩
  rintro k σ2 H2 ⟨F2, ρ2, μ2, g2, m2, e2, hI⟩
  refine (ht _ _ _ (hs2 k ρ2 μ2 hI) σ2 H2 F2 (e.to g2 e2) m2).mono fun c H3 ⟨F3, μ3, g3, m3, q3⟩ => ?_
  have g13 := g2.trans g3
  cases c with
  | false =>
    rw [if_neg Bool.false_ne_true] at q3 ⊢
    exact ⟨ρ2, F3, μ3, g13, m3, e2.stay (g3.stay m2), q3⟩
  | true =>
    rw [if_pos rfl] at q3 ⊢
    have nx : ∀ σ5 H5, PR X.K H3 F3 μ3 (fun ρ μ => ∃ m', m' < k ∧ I m' ρ μ) σ5 H5 → ∃ m', m' < k ∧ ∃ F' ρ' μ', Grow H F μ H5 F' μ' ∧ MS X.K H5 F' μ' ∧ REnv X.K H5 F' σ5 ρ' ∧ I m' ρ' μ' := fun σ5 H5 ⟨ρ5, F5, μ5, g5, m5, e5, k', hk, q5⟩ => ⟨k', hk, F5, ρ5, μ5, g13.trans g5, m5, e5, q5⟩
    refine ⟨fun σ' H' => ∃ m', m' < k ∧ ∃ F' ρ' μ', Grow H F μ H' F' μ' ∧ MS X.K H' F' μ' ∧ REnv X.K H' F' σ' ρ' ∧ I m' ρ' μ', fun σ' H' z => z, ?_⟩
    refine (hb _ _ _ q3 σ2 H3 F3 (e.to g13 (e2.stay (g3.stay m2))) m3).mono ⟨nx, fun v H5 q => ?_, fun σ5 H5 q => ?_, nx⟩
    · exact Post.pre g13 q
    · exact PR.pre g13 q
end
end DL
/-! Sets of whole numbers and of texts: how many, and sorted. -/
namespace DL
open PySem PySem.Spec PyProof.Rows L2
section
variable {P : Program} {w : World} {K : Type} [DecidableEq K] (κ : KeyKind P w K)
/-- entries no two of which have a key in common -/
def Apart (l : List Value) : Prop := l.Pairwise fun u v => ∀ k, κ.is k u = true → κ.is k v = false
theorem apart_symm {u v : Value} (h : ∀ k, κ.is k u = true → κ.is k v = false) : ∀ k, κ.is k v = true → κ.is k u = false := fun k hk => by
  cases e : κ.is k u with
  | false => rfl
  | true => rw [h k e] at hk; cases hk
theorem Apart.perm {l m : List Value} (h : Apart κ l) (p : m.Perm l) : Apart κ m := p.symm.pairwise h fun q => apart_symm κ q
def vals (es : Array (Int × Value)) : List Value := es.toList.map (·.2)
/-- what a set's inside is, that holds S -/
structure Ent (es : Array (Int × Value)) (t : SetTable) (S : K → Bool) : Prop where
  el : ElemsOf κ es.toList
  ap : Apart κ (vals es)
  mem : ∀ k, S k = true ↔ ∃ e ∈ es.toList, κ.is k e.2 = true
  few : es.size < scanBound
  fit : t.fits es.size = true
  ris : Ris t.place.toList
  led : w.params.followText "set-order" = true ∨ t.led = true
def SetX (h : Heap) (a : Addr) (S : K → Bool) (n : Nat) : Prop := ∃ o es ep t, h.get? a = some o ∧ o.ExactSet ∧ o.data = .set es ep t ∧ Ent κ es t S ∧ es.size = n
variable {κ}
theorem SetX.keep {h h' : Heap} {a : Addr} {S : K → Bool} {n : Nat} (R : SetX κ h a S n) (k : ∀ o, h.get? a = some o → h'.get? a = some o) : SetX κ h' a S n := by
  obtain ⟨o, es, ep, t, ho, r⟩ := R
  exact ⟨o, es, ep, t, k o ho, r⟩
theorem Ent.turn {es fs : Array (Int × Value)} {t u : SetTable} {S : K → Bool} (n : Ent κ es t S) (p : fs.toList.Perm es.toList) (hf : u.fits fs.size = true) (hr : Ris u.place.toList) (hl : u.led = t.led) : Ent κ fs u S where
  el := n.el.perm p
  ap := n.ap.perm κ (p.map _)
  mem := fun k => (n.mem k).trans ⟨fun ⟨e, he, q⟩ => ⟨e, p.mem_iff.mpr he, q⟩, fun ⟨e, he, q⟩ => ⟨e, p.mem_iff.mp he, q⟩⟩
  few := by rw [← Array.length_toList, p.length_eq, Array.length_toList]; exact n.few
  fit := hf
  ris := hr
  led := by rw [hl]; exact n.led
variable {A : Around} {E : Value → Shared → Prop} {s : Shared} {a : Addr} {S : K → Bool} {n : Nat}
theorem x_laid {es : Array (Int × Value)} {t : SetTable} {o : Obj} {fs : Array (Int × Value)} {ep : Nat} {u : SetTable} (ho : s.heap.get? a = some o) (hx : o.ExactSet) (hd : o.data = .set fs ep u) (en : Ent κ es t S) :
    SetX κ (s.heap.update a (Obj.putSet es t)) a S es.size := ⟨{ o with data := .set es (ep + 1) t }, es, ep + 1, t, store_at ho hd, hx, rfl, en, rfl⟩
theorem x_tail {g : Bool → Sem Unit} (hg : ∀ (b : Bool) (s1 : Shared) (Q1 : Unit → Shared → Prop), Q1 () s1 → wpAny (model P w) A (g b) Q1 E s1)
    {o : Obj} {fs : Array (Int × Value)} {ep : Nat} {u : SetTable} (ho : s.heap.get? a = some o) (hx : o.ExactSet) (hd : o.data = .set fs ep u)
    {es : Array (Int × Value)} {t : SetTable} (en : Ent κ es t S) {wd : Bool} {R : Option Bool → Shared → Prop}
    (hR : ∀ h', Heap.SameBut a s.heap h' → SetX κ h' a S es.size → R (some true) { s with heap := h' }) :
    wpAny (model P w) A (do
        storeSet a es t
        if (!wd && t.tooFull) = true then do
          g (relayAll t es (SetTable.grown es.size)).2.2
          storeSet a (relayAll t es (SetTable.grown es.size)).1 (relayAll t es (SetTable.grown es.size)).2.1
          pure (some true)
        else pure (some true)) R E s := by
  have sb := Heap.SameBut.update s.heap a (Obj.putSet es t)
  refine wpAny_bind (wpAny_storeSet_of ho hd ?_ (fits_of_scanBound en.few))
  have ho2 := store_at (es' := es) (t' := t) ho hd
  split
  · have p := relayAll_perm t es (SetTable.grown es.size)
    have f := relayAll_fits t es (SetTable.grown es.size)
    have r := relayAll_ris t es (SetTable.grown es.size)
    have l := relayAll_led t es (SetTable.grown es.size)
    generalize relayAll t es (SetTable.grown es.size) = Z at p f r l ⊢
    obtain ⟨es2, t2, b2⟩ := Z
    dsimp only at p f r l ⊢
    have en2 : Ent κ es2 t2 S := en.turn p f r l
    have z : es2.size = es.size := by rw [← Array.length_toList, p.length_eq, Array.length_toList]
    refine wpAny_bind (hg _ _ _ (wpAny_bind (wpAny_storeSet_of ho2 rfl ?_ (fits_of_scanBound en2.few))))
    have q := x_laid (κ := κ) (s := { s with heap := s.heap.update a (Obj.putSet es t) }) ho2 hx rfl en2
    rw [z] at q
    exact wpAny_pure (hR _ (sb.trans (Heap.SameBut.update _ a _)) q)
  · exact wpAny_pure (hR _ sb (x_laid ho hx hd en))
theorem x_add {k : K} {x : Value} {Q : Bool → Shared → Prop} (hk : κ.is k x = true) (hsc : x.scannable = true) (R : SetX κ s.heap a S n) (room : n + 1 < scanBound)
    (hQ : ∀ h' m, Heap.SameBut a s.heap h' → SetX κ h' a (fun j => S j || decide (j = k)) m → m ≤ n + 1 → ∀ b, Q b { s with heap := h' }) :
    wpAny (model P w) A (setAddHashed a x (κ.hash k)) Q E s := by
  obtain ⟨o, es, ep, t, ho, hx, hd, en, hn⟩ := R
  unfold setAddHashed setAddHashedIn
  refine wpAny_holding (wpAny_bind (wpAny_setState_of ho hd en.fit ?_))
  dsimp only
  rw [byScan_of hsc en.few en.el]
  simp only [↓reduceIte]
  unfold setAddByScan
  refine wpAny_bind (wpAny_bind (wpAny_rule (wpAny_bind (wpAny_setScan_of hk ho hd en.fit en.el ?_))))
  cases hf : List.findIdx? (fun e => κ.is k e.2) es.toList with
  | some j =>
    dsimp only
    obtain ⟨hj, pj, _⟩ := List.findIdx?_eq_some_iff_getElem.mp hf
    have hs : S k = true := (en.mem k).mpr ⟨_, List.getElem_mem hj, pj⟩
    refine wpAny_pure (wpAny_pure (hQ s.heap n (Heap.SameBut.refl a s.heap) ⟨o, es, ep, t, ho, hx, hd, ⟨en.el, en.ap, fun i => ?_, en.few, en.fit, en.ris, en.led⟩, hn⟩ (Nat.le_succ n) _))
    rw [← en.mem i, Bool.or_eq_true, decide_eq_true_eq]
    exact ⟨fun q => q.elim id fun e => by rw [e]; exact hs, .inl⟩
  | none =>
    dsimp only
    have no : ∀ e ∈ es.toList, κ.is k e.2 = false := fun e he => by
      have c := List.findIdx?_eq_none_iff.mp hf e he
      cases q : κ.is k e.2 with
      | false => rfl
      | true => rw [q] at c; cases c
    have gv : ∀ (b : Bool) {s1 : Shared} {Q1 : Unit → Shared → Prop}, Q1 () s1 → wpAny (model P w) A (match b with | true => rule "set.scan.the-table-gave-way" | false => pure ()) Q1 E s1 := fun b s1 Q1 q => by
      cases b
      · exact wpAny_pure q
      · exact wpAny_rule q
    have pm := layNew_perm t es (κ.hash k) x
    have fm := layNew_fits t es (κ.hash k) x
    have rm := layNew_ris t es (κ.hash k) x en.ris
    have lm := layNew_led t es (κ.hash k) x
    generalize layNew t es (κ.hash k) x = Z at pm fm rm lm ⊢
    obtain ⟨fs, u, wd, gave⟩ := Z
    dsimp only at pm fm rm lm ⊢
    rw [Array.toList_push] at pm
    have z : fs.size = n + 1 := by
      rw [← Array.length_toList, pm.length_eq, List.length_append, Array.length_toList, hn]
      rfl
    have en1 : ∀ v : SetTable, v.fits fs.size = true → Ris v.place.toList → v.led = u.led → Ent κ fs v (fun j => S j || decide (j = k)) := fun v v1 v2 v3 => {
      el := (en.el.push hk hsc).perm pm
      ap := by
        have p2 := pm.map (fun e : Int × Value => e.2)
        refine Apart.perm κ ?_ p2
        rw [List.map_append]
        refine List.pairwise_append.mpr ⟨en.ap, List.pairwise_singleton _ _, fun y hy y2 hy2 i hi => ?_⟩
        obtain ⟨e, he, rfl⟩ := List.mem_map.mp hy
        rw [List.map_cons, List.map_nil, List.mem_singleton] at hy2
        subst hy2
        cases q : κ.is i y2 with
        | false => rfl
        | true =>
          have e3 := κ.inj y2 i k q hk
          subst e3
          rw [no e he] at hi
          cases hi
      mem := mem_push_iff hk en.mem pm
      few := by rw [z]; exact room
      fit := v1
      ris := v2
      led := by rw [v3, lm]; exact en.led }
    have fin : ∀ h', Heap.SameBut a s.heap h' → SetX κ h' a (fun j => S j || decide (j = k)) fs.size → Q true { s with heap := h' } := fun h' sb r => hQ h' _ sb r (by rw [z]; exact Nat.le_refl _) true
    refine wpAny_bind (gv _ ?_)
    split
    · refine wpAny_bind ?_
      rw [hashByValue_scannable 8 hsc]
      refine wpAny_pure (x_tail (fun b s1 Q1 q => ?_) ho hx hd (en1 _ ?_ ?_ ?_) fun h' sb r => ?_)
      · cases b
        · exact wpAny_pure q
        · exact wpAny_rule q
      · split
        · exact fm
        · exact SetTable.fits_plain_off fm
      · split <;> exact rm
      · split <;> rfl
      · dsimp only
        exact wpAny_pure (fin h' sb r)
    · refine wpAny_bind (wpAny_pure ?_)
      simp only [↓reduceIte]
      refine x_tail (fun b s1 Q1 q => ?_) ho hx hd (en1 _ fm rm rfl) fun h' sb r => ?_
      · cases b
        · exact wpAny_pure q
        · exact wpAny_rule q
      · dsimp only
        exact wpAny_pure (fin h' sb r)
/-- the loop that fills a set -/
theorem x_fill {I : Addr} {fp wr : List Addr} {Gn : Array GenState → Array GenState → Prop} {m : Nat} {Pv : Nat → Value → Prop} {St : Nat → Shared → Prop} {R : Result → Shared → Prop}
    (W : WalksS P w A.in1 I fp wr Gn m Pv St) (D : Addr) (hD : D ∉ fp) (ks : List K) (hm : m = ks.length) (hb : ks.length + 1 < scanBound) (hv : ∀ i v, Pv i v → ∃ k, ks[i]? = some k ∧ κ.is k v = true ∧ v.scannable = true) :
    ∀ (r i : Nat) (s : Shared), m - i = r → i ≤ m → St i s → (∃ c, c ≤ i ∧ SetX κ s.heap D (fun j => decide (j ∈ ks.take i)) c) →
      (∀ s' c, Moved (D :: wr) Gn s s' → SetX κ s'.heap D (fun j => decide (j ∈ ks)) c → R (.ok (.ret .none)) s') →
      codeAny (model P w) A (.builtin "set.update.loop" ⟨[.ref D, .ref I], []⟩) R s := by
  have nw : D ∉ wr := fun h => hD (W.sub _ h)
  have up : ∀ b ∈ wr, b ∈ D :: wr := fun b hb => List.mem_cons_of_mem _ hb
  intro r
  induction r with
  | zero =>
    intro i s hr hi st ⟨c, _, hS⟩ hR
    have e0 : i = m := by omega
    subst e0
    refine codeAny_builtin F.entry_set_update_loop ?_
    rw [Around.under_plainId F.plain_set_update_loop _]
    refine wpAny_bind (m := pyNext (.ref I)) (W.done s _ _ st fun s' mv => ?_)
    have e : ks.take i = ks := List.take_of_length_le (by omega)
    rw [e] at hS
    exact wpAny_pure (hR s' c (mv.mono up) (hS.keep fun o q => mv.heap D o nw q))
  | succ r ih =>
    intro i s hr hi st ⟨c, hc, hS⟩ hR
    have lt : i < m := by omega
    refine codeAny_builtin F.entry_set_update_loop ?_
    rw [Around.under_plainId F.plain_set_update_loop _]
    refine wpAny_bind (m := pyNext (.ref I)) (W.item i s _ _ lt st fun v s' pv st' mv => ?_)
    obtain ⟨k, hk, k1, k2⟩ := hv i v pv
    have hS' : SetX κ s'.heap D (fun j => decide (j ∈ ks.take i)) c := hS.keep fun o q => mv.heap D o nw q
    refine wpAny_bind (m := holding [v] (setAdd D v)) (wpAny_holding ?_)
    unfold setAdd
    refine wpAny_holding (wpAny_bind (κ.pyHash (k := k) k1 ?_))
    refine x_add (s := { s' with toks := s'.toks + 1 }) k1 k2 hS' (by omega) fun h' c2 sb hS2 hc2 b => ?_
    have e : (fun j => decide (j ∈ ks.take i) || decide (j = k)) = fun j => decide (j ∈ ks.take (i + 1)) := by
      funext j
      rw [List.take_add_one, hk]
      simp [List.mem_append]
    rw [e] at hS2
    refine wpAny_pure ⟨plainId_quiet F.plain_set_update_loop _, ih (i + 1) _ (by omega) lt (W.frame _ s' _ _ st' (Nat.le_succ _) fun b hb o q => ?_) ⟨c2, by omega, hS2⟩ fun s2 c3 mv2 hS3 => ?_⟩
    · rw [sb.2 b fun h : b = D => hD (by rw [← h]; exact hb)]
      exact q
    · refine hR s2 c3 (Moved.trans W.gtrans ((mv.mono up).then_heap (Nat.le_succ _) fun b o hb q => ?_) mv2) hS3
      rw [sb.2 b fun h : b = D => hb (by rw [h]; exact List.mem_cons_self)]
      exact q
theorem x_new {h : Heap} {D : Addr} {ks : List K} (ho : h.get? D = some { cls := .type "set", dict := none, data := .set #[] 0 (.fresh 0 0 (!w.params.followText "set-order")) }) : SetX κ h D (fun j => decide (j ∈ ks.take 0)) 0 :=
  ⟨_, #[], 0, _, ho, ⟨rfl, rfl, rfl⟩, rfl, ⟨fun e he => (by simp at he), List.Pairwise.nil, fun k => (by simp), by decide, by rfl, List.Pairwise.nil, by
    show _ ∨ (!w.params.followText "set-order") = true
    cases w.params.followText "set-order"
    · exact .inr rfl
    · exact .inl rfl⟩, rfl⟩
/-- set(x), x told by how it is walked -/
theorem x_call {l : Addr} {T : String} {m : Nat} {Pv : Nat → Value → Prop} {St : Nat → Heap → Prop} {oi : Obj} {ks : List K} {Q : Value → Shared → Prop}
    (hT : ∃ o, s.heap.get? l = some o ∧ o.cls = .type T) (sub1 : isSubtype (.type T) (.type "set") = pure false) (sub2 : isSubtype (.type T) (.type "frozenset") = pure false) (nd : (Value.type T == Value.type "dict") = false)
    (hi : ∀ (A2 : Around) (s2 : Shared) (Q2 : Value → Shared → Prop), (∀ b o, s.heap.get? b = some o → s2.heap.get? b = some o) → Q2 (.ref s2.heap.objs.size) { s2 with heap := s2.heap.push oi } → wpAny (model P w) A2 (pyIter (.ref l)) Q2 E s2)
    (hw : ∀ (A2 : Around), A2.handled = none → PySem.Walks P w A2 (s.heap.objs.size + 1) [s.heap.objs.size + 1, l] [s.heap.objs.size + 1] m Pv St)
    (h0 : ∀ h' : Heap, (∀ b o, s.heap.get? b = some o → h'.get? b = some o) → h'.get? (s.heap.objs.size + 1) = some oi → St 0 h') (hf : oi.isFreed = false)
    (hh : A.handled = none) (hm : m = ks.length) (hb : ks.length + 1 < scanBound) (hv : ∀ i v, Pv i v → ∃ k, ks[i]? = some k ∧ κ.is k v = true ∧ v.scannable = true)
    (h : ∀ (h' : Heap) (tk c : Nat), SetX κ h' s.heap.objs.size (fun j => decide (j ∈ ks)) c → (∀ b o, s.heap.get? b = some o → h'.get? b = some o) → Q (.ref s.heap.objs.size) { s with heap := h', toks := tk }) :
    wpAny (model P w) A (call (.type "set") [.ref l]) Q E s := by
  have fc := F.called_set
  obtain ⟨c, tl, hmro⟩ := fc.mro
  have hmade := fc.made
  have hsub := fc.sub
  refine wpAny_call (codeAny_of_tree (show wpAny _ _ (callAny (.type "set") _) _ _ _ from wpAny_pure ⟨Code.quiet_builtin _ (by decide +kernel), codeAny_builtin F.entry_type_call ?_⟩))
  rw [Around.under_plain (weight_type_call_type "set" [.ref l] []) rfl]
  have n1 := fc.notType
  have n2 := fc.canCreate
  have n3 := F.typeCall_set_1 (.ref l)
  repeat (any_goals (first | assumption | wp_step))
  have nw := code_set_led1 (P := P) (w := w) (A := A.in1) (s := s) (.ref l) (E := E) (Q₁ := fun o s1 => o = .ref s.heap.objs.size ∧ s1 = { s with heap := s.heap.push { cls := .type "set", dict := none, data := .set #[] 0 (.fresh 0 0 (!w.params.followText "set-order")) } }) ⟨rfl, rfl⟩
  refine codeAny_mono nw fun r s1 hr => ?_
  match r, hr with
  | .error e, hr => exact hr
  | .ok (.ret o), hr =>
    obtain ⟨rfl, rfl⟩ := hr
    generalize hob : ({ cls := .type "set", dict := none, data := .set #[] 0 (.fresh 0 0 (!w.params.followText "set-order")) } : Obj) = ob
    have hof : ob.isFreed = false := by subst hob; rfl
    have hoc : ob.cls = .type "set" := by subst hob; rfl
    have gS : (s.heap.push ob).get? s.heap.objs.size = some ob := Heap.get?_push_size _ hof
    have tS : Shared.TypeIs { s with heap := s.heap.push ob } (.ref s.heap.objs.size) "set" := ⟨_, gS, hoc⟩
    have l1 := fc.init.lookup
    have l2 := fc.init.bind (.ref s.heap.objs.size)
    repeat (any_goals (first | assumption | wp_step))
    refine codeAny_mono (codeAny_call_builtin (R := wants (fun v s2 => v = .none ∧ ∃ h' tk c, s2 = { s with heap := h', toks := tk } ∧ SetX κ h' s.heap.objs.size (fun j => decide (j ∈ ks)) c ∧ (∀ b o, s.heap.get? b = some o → h'.get? b = some o)) E)
      fc.init.plain F.entry_set_init (check_set_init_1 tS ?_)) fun r2 s2 hr2 => ?_
    · obtain ⟨ol, hol, hcl⟩ := hT
      have lS : l < s.heap.objs.size := Heap.lt_size hol
      have tl : Shared.TypeIs { s with heap := s.heap.push ob } (.ref l) T := ⟨ol, Heap.get?_push_of_some _ hol, hcl⟩
      have z1 : (s.heap.push ob).objs.size = s.heap.objs.size + 1 := Heap.size_push ..
      have k1 : ∀ b o, s.heap.get? b = some o → (s.heap.push ob).get? b = some o := fun b o e => Heap.get?_push_of_some _ e
      have hh3 : A.in1.in1.in1.handled = none := by simp [hh]
      subst hob
      unfold Builtin.«set.__init__» noKeywords Builtin.Frozenset.updateFrom
      generalize hPI : pyIter = PI
      wp_walk
      subst hPI
      refine hi _ _ _ k1 (wpAny_bind (wpAny_runValue ?_))
      have W := hw _ hh3
      rw [← z1] at W h0
      have kk : ∀ b o, s.heap.get? b = some o → ((s.heap.push { cls := .type "set", dict := none, data := .set #[] 0 (.fresh 0 0 (!w.params.followText "set-order")) }).push oi).get? b = some o := fun b o e => Heap.get?_push_of_some _ (k1 b o e)
      refine x_fill W.toS s.heap.objs.size ?_ ks hm hb hv (m - 0) 0 _ (by omega) (Nat.zero_le _) (h0 _ kk (Heap.get?_push_size _ hf)) ⟨0, Nat.le_refl 0, x_new (Heap.get?_push_of_some _ gS)⟩ ?_
      · rw [z1]
        simp only [List.mem_cons, List.mem_singleton, List.not_mem_nil, or_false, not_or]
        exact ⟨Nat.ne_of_lt (Nat.lt_succ_self _), Nat.ne_of_gt lS⟩
      · intro s2 c2 mv hS
        obtain ⟨h2, g2, d2, t2, o2⟩ := s2
        have q1 : g2 = s.gens := mv.gens
        have q2 : d2 = s.drawn := mv.drawn
        have q3 : o2 = s.os := mv.os
        subst q1 q2 q3
        refine wpAny_pure (show wpAny _ _ (ret Value.none) _ _ _ from wpAny_pure ⟨rfl, h2, t2, c2, rfl, hS, fun b o e => ?_⟩)
        have hlt : b < s.heap.objs.size := Heap.lt_size e
        refine mv.heap b o ?_ (kk b o e)
        rw [z1]
        simp only [List.mem_cons, List.mem_singleton, List.not_mem_nil, or_false, not_or]
        exact ⟨Nat.ne_of_lt hlt, Nat.ne_of_lt (Nat.lt_succ_of_lt hlt)⟩
    · match r2, hr2 with
      | .error e, hr2 => exact hr2
      | .ok (.ret v), hr2 =>
        obtain ⟨rfl, h', tk, c2, rfl, hS, hk⟩ := hr2
        repeat (any_goals (first | assumption | wp_step))
        exact h _ _ _ hS hk
/-- .. of a tuple, of a list -/
theorem x_of_tuple {l : Addr} {items : Array Value} {ks : List K} {Q : Value → Shared → Prop} (hl : s.heap.IsTuple l items) (hh : A.handled = none) (hb : ks.length + 1 < scanBound) (hn : items.size = ks.length)
    (hv : ∀ (i : Nat) (v : Value), items[i]? = some v → ∃ k, ks[i]? = some k ∧ κ.is k v = true ∧ v.scannable = true)
    (h : ∀ (h' : Heap) (tk c : Nat), SetX κ h' s.heap.objs.size (fun j => decide (j ∈ ks)) c → (∀ b o, s.heap.get? b = some o → h'.get? b = some o) → Q (.ref s.heap.objs.size) { s with heap := h', toks := tk }) :
    wpAny (model P w) A (call (.type "set") [.ref l]) Q E s := by
  obtain ⟨o, ho, hc, hd⟩ := id hl
  have lS : l < s.heap.objs.size := Heap.lt_size ho
  have ne : l ≠ s.heap.objs.size + 1 := Nat.ne_of_lt (Nat.lt_succ_of_lt lS)
  refine x_call (T := "tuple") (oi := { cls := .type "tuple_iterator", data := .fields #[.ref l, .int 0 0] }) ⟨o, ho, hc⟩ F.sub_tuple_set F.sub_tuple_frozenset (by decide)
    (fun A2 s2 Q2 kp q => wpAny_pyIter_tuple (items := items) ⟨o, kp l o ho, hc, hd⟩ q) (fun A2 h2 => Walks.tuple h2 _ l ne items) (fun h' kp e => ⟨⟨_, e, rfl, rfl⟩, ⟨o, kp l o ho, hc, hd⟩⟩) rfl hh hn hb hv h
theorem x_of_list {l : Addr} {items : Array Value} {ks : List K} {Q : Value → Shared → Prop} (hl : s.heap.IsList l items) (hh : A.handled = none) (hb : ks.length + 1 < scanBound) (hn : items.size = ks.length)
    (hv : ∀ (i : Nat) (v : Value), items[i]? = some v → ∃ k, ks[i]? = some k ∧ κ.is k v = true ∧ v.scannable = true)
    (h : ∀ (h' : Heap) (tk c : Nat), SetX κ h' s.heap.objs.size (fun j => decide (j ∈ ks)) c → (∀ b o, s.heap.get? b = some o → h'.get? b = some o) → Q (.ref s.heap.objs.size) { s with heap := h', toks := tk }) :
    wpAny (model P w) A (call (.type "set") [.ref l]) Q E s := by
  obtain ⟨o, ho, hc, hd⟩ := id hl
  have lS : l < s.heap.objs.size := Heap.lt_size ho
  have ne : l ≠ s.heap.objs.size + 1 := Nat.ne_of_lt (Nat.lt_succ_of_lt lS)
  refine x_call (T := "list") (oi := { cls := .type "list_iterator", data := .fields #[.ref l, .int 0 0] }) ⟨o, ho, hc⟩ F.sub_list_set F.sub_list_frozenset (by decide)
    (fun A2 s2 Q2 kp q => wpAny_pyIter_list (items := items) ⟨o, kp l o ho, hc, hd⟩ q) (fun A2 h2 => Walks.list h2 _ l ne items) (fun h' kp e => ⟨⟨_, e, rfl, rfl⟩, ⟨o, kp l o ho, hc, hd⟩⟩) rfl hh hn hb hv h
/-- sorted(a set) -/
theorem x_sorted {lt : Value → Value → Bool} {Q : Value → Shared → Prop} (O : SrtO.Swo lt) (R : SetX κ s.heap a S n) (hh : A.handled = none)
    (hS : ∀ (vs : List Value) (A2 : Around) (s2 : Shared) (b : Addr), 2 ≤ vs.length → (∀ v ∈ vs, ∃ k, κ.is k v = true) → SrtO.SortableO P w A2 s2 b vs lt)
    (hQ : ∀ s' p (out : List Value) (c : Nat), (∀ b o, s.heap.get? b = some o → s'.heap.get? b = some o) → s'.gens = s.gens → s'.os = s.os → s.heap.objs.size ≤ p → s'.heap.get? p = some (seqObj "list" out.toArray c) →
      out.length ≤ sizeLine → SrtO.Srtd lt out → (∀ v ∈ out, ∃ k, κ.is k v = true) → Apart κ out → (∀ k, S k = true ↔ ∃ v ∈ out, κ.is k v = true) → Q (.ref p) s') :
    wpAny (model P w) A (call (.builtin "sorted") [.ref a]) Q E s := by
  obtain ⟨o, es, ep, t, ho, hx, hd, en, hn⟩ := R
  refine Calls.call_function_entry kind_sorted plain_sorted entry_sorted (args_sorted1 _) ?_
  unfold Builtin.«sorted»
  refine wpAny_bind (m := checkCount "sorted" 1 1 _) (wpAny_pure (wpAny_bind ?_))
  refine collect_set (A := A.in1) hh ⟨o, ho, hx.1, hd⟩ en.fit en.few en.ris en.led fun s1 vs k1 z1 g1 o1 pm => ?_
  have few : vs.length ≤ sizeLine := by
    rw [pm.length_eq, List.length_map, Array.length_toList]
    exact fits_of_scanBound en.few
  have keyd : ∀ v ∈ vs, ∃ k, κ.is k v = true := fun v hv => by
    obtain ⟨e, he, rfl⟩ := List.mem_map.mp (pm.mem_iff.mp hv)
    obtain ⟨⟨k, hk, _⟩, _⟩ := en.el e he
    exact ⟨k, hk⟩
  refine wpAny_bind (wpAny_newList ?_ few)
  have hL : (s1.heap.push (seqObj "list" vs.toArray 0)).get? s1.heap.objs.size = some (seqObj "list" vs.toArray 0) := Heap.get?_push_size _ rfl
  refine wpAny_bind (wpAny_holding (wpAny_call_entry slot_list_sort ⟨_, hL, rfl⟩ entry_list_sort
    (SrtO.list_sort_ord (s := { s1 with heap := s1.heap.push (seqObj "list" vs.toArray 0) }) O hL few (fun h2 => hS vs _ _ _ h2 keyd) fun out h1 h2 => ⟨_, rfl, ?_⟩) (args_list_sort _)))
  obtain ⟨c, hc⟩ := sortedHeap_at (vs := vs) (out := out.toArray) hL
  have pv : out.Perm (vals es) := h2.perm.trans pm
  refine wpAny_pure ⟨_, rfl, hQ _ s1.heap.objs.size out c (fun b u e => ?_) g1 o1 z1 hc (by rw [h2.perm.length_eq]; exact few) h1 (fun v hv => keyd v (h2.perm.mem_iff.mp hv)) (en.ap.perm κ pv) fun k => ?_⟩
  · have q := k1 b u e
    have hb := Heap.lt_size q
    show (sortedHeap (s1.heap.push _) s1.heap.objs.size vs out.toArray).get? b = some u
    rw [sortedHeap_old (Nat.ne_of_lt hb) (by rw [size_push']; exact Nat.lt_succ_of_lt hb)]
    exact Heap.get?_push_of_some _ q
  · rw [en.mem k]
    constructor
    · rintro ⟨e, he, q⟩
      exact ⟨e.2, pv.mem_iff.mpr (List.mem_map.mpr ⟨e, he, rfl⟩), q⟩
    · rintro ⟨v, hv, q⟩
      obtain ⟨e, he, rfl⟩ := List.mem_map.mp (pv.mem_iff.mp hv)
      exact ⟨e, he, q⟩
end
end DL
/-! sorted(set(x)), len(set(x)): the rules. -/
namespace DL
open PySem PySem.Spec PyProof.Rows L2
/-- keys as values of the layer -/
structure KV {P : Program} {w : World} {K : Type} [DecidableEq K] (κ : KeyKind P w K) (enc : K → V) (kf : Value → K) (ltb : K → K → Bool) : Prop where
  rel : ∀ k u, RelV (enc k) u → κ.is k u = true ∧ u.scannable = true
  back : ∀ k u, κ.is k u = true → RelV (enc k) u ∧ kf u = k
  ord : SrtO.Swo fun u v => ltb (kf u) (kf v)
  sort : ∀ (vs : List Value) (A : Around) (s : Shared) (b : Addr), 2 ≤ vs.length → (∀ v ∈ vs, ∃ k, κ.is k v = true) → SrtO.SortableO P w A s b vs fun u v => ltb (kf u) (kf v)
section
variable {X : Cx} {K : Type} [DecidableEq K] {κ : KeyKind X.prog X.w K} {enc : K → V} {kf : Value → K} {ltb : K → K → Bool}
def SetO (κ : KeyKind X.prog X.w K) (a : Addr) (S : K → Bool) (n : Nat) : HO := .ext fun h => SetX κ h a S n
theorem SetO.ok {H : Hp} {h : Heap} {a : Addr} {S : K → Bool} {n : Nat} (R : SetX κ h a S n) : ObjOk X.prog X.w H h a (SetO κ a S n) := by
  have ⟨o, _, _, _, ho, _⟩ := R
  exact ⟨R, ⟨o, ho⟩, fun h1 h2 p k => SetX.keep p k⟩
theorem keys_vals (kv : KV κ enc kf ltb) : ∀ {vs : List Value}, (∀ v ∈ vs, ∃ k, κ.is k v = true) → Vals ((vs.map kf).map enc) vs
  | [], _ => .nil
  | v :: vs, h => by
    obtain ⟨k, hk⟩ := h v List.mem_cons_self
    obtain ⟨r, e⟩ := kv.back k v hk
    refine .cons ?_ (keys_vals kv fun u hu => h u (List.mem_cons_of_mem _ hu))
    rw [e]
    exact r
theorem keys_mem (kv : KV κ enc kf ltb) {vs : List Value} (h : ∀ v ∈ vs, ∃ k, κ.is k v = true) (k : K) : k ∈ vs.map kf ↔ ∃ v ∈ vs, κ.is k v = true := by
  rw [List.mem_map]
  constructor
  · rintro ⟨v, hv, e⟩
    obtain ⟨j, hj⟩ := h v hv
    have e2 := (kv.back j v hj).2
    rw [← e, e2]
    exact ⟨v, hv, hj⟩
  · rintro ⟨v, hv, hk⟩
    exact ⟨v, hv, (kv.back k v hk).2⟩
theorem keys_apart (kv : KV κ enc kf ltb) : ∀ {vs : List Value}, (∀ v ∈ vs, ∃ k, κ.is k v = true) → Apart κ vs → (vs.map kf).Nodup
  | [], _, _ => List.Pairwise.nil
  | v :: vs, h, d => by
    obtain ⟨d1, d2⟩ := List.pairwise_cons.mp d
    refine List.pairwise_cons.mpr ⟨fun k hk e => ?_, keys_apart kv (fun u hu => h u (List.mem_cons_of_mem _ hu)) d2⟩
    obtain ⟨u, hu, q⟩ := (keys_mem kv (fun u hu => h u (List.mem_cons_of_mem _ hu)) k).mp hk
    obtain ⟨j, hj⟩ := h v List.mem_cons_self
    have e2 := (kv.back j v hj).2
    have e3 : j = k := e2.symm.trans e
    rw [e3] at hj
    rw [d1 u hu k hj] at q
    cases q
/-- set(x) -/
def rSetX (κ : KeyKind X.prog X.w K) (enc : K → V) : List V → Hp → VK → Prop := fun xs H Q => ∃ (p : Addr) (ks : List K), xs = [.ref p] ∧ (SqL X.K H p (ks.map enc) ∨ SqT X.K H p (ks.map enc)) ∧ ks.length ≤ 1000 ∧
  ∀ q n, H q = none → Q (.ref q) (upd H q (SetO κ q (fun j => decide (j ∈ ks)) n))
theorem cr_setX (kv : KV κ enc kf ltb) (hc : X.calm = true) : CallR X (.type "set") (rSetX κ enc) := by
  intro pins s σ H xs us Q I r h
  obtain ⟨p, ks, rfl, hs, hl, q⟩ := h
  rw [Vals.ref1 r]
  have fin : ∀ (h' : Heap) (tk c : Nat), SetX κ h' s.heap.objs.size (fun j => decide (j ∈ ks)) c → (∀ b o, s.heap.get? b = some o → h'.get? b = some o) → EP X pins σ Q (.ref s.heap.objs.size) { s with heap := h', toks := tk } := fun h' tk c R k =>
    ⟨.ref _, _, I.laid k (Nat.le_refl _) (SetO.ok R), rfl, q _ c (I.hok.fresh (Nat.le_refl _))⟩
  have vv : ∀ {its : List Value}, Vals (ks.map enc) its → its.toArray.size = ks.length ∧ ∀ (i : Nat) (v : Value), its.toArray[i]? = some v → ∃ k, ks[i]? = some k ∧ κ.is k v = true ∧ v.scannable = true := fun {its} rv => by
    have e := rv.length
    rw [List.length_map] at e
    refine ⟨by rw [List.size_toArray, e], fun i v hv => ?_⟩
    have hv2 : its[i]? = some v := by simpa using hv
    have hi : i < ks.length := by rw [e]; exact (List.getElem?_eq_some_iff.mp hv2).1
    obtain ⟨u, hu, ru⟩ := rv.get (i := i) (x := enc ks[i]) (by simp [hi])
    rw [hv2] at hu
    cases hu
    obtain ⟨a, b⟩ := kv.rel _ _ ru
    exact ⟨_, List.getElem?_eq_getElem hi, a, b⟩
  have bd : ks.length + 1 < scanBound := by unfold scanBound; omega
  rcases hs with hs | hs
  · obtain ⟨its, rv, hl2, hz⟩ := I.list hs
    exact x_of_list hl2.isList (I.ok.hd hc) bd (vv rv).1 (vv rv).2 fin
  · obtain ⟨its, rv, pt, hz⟩ := I.tuple hs
    exact x_of_tuple (show s.heap.IsTuple p its.toArray from pt) (I.ok.hd hc) bd (vv rv).1 (vv rv).2 fin
/-- sorted(a set) -/
def rSortX (κ : KeyKind X.prog X.w K) (enc : K → V) (ltb : K → K → Bool) : List V → Hp → VK → Prop := fun xs H Q => ∃ (a : Addr) (S : K → Bool) (n : Nat), xs = [.ref a] ∧ H a = some (SetO κ a S n) ∧
  ∀ (ms : List K) q, ms.Pairwise (fun x y => ltb y x = false ∧ x ≠ y) → (∀ k, k ∈ ms ↔ S k = true) → H q = none → Q (.ref q) (upd H q (.lst (ms.map enc)))
theorem cr_sortX (kv : KV κ enc kf ltb) (hc : X.calm = true) : CallR X (.builtin "sorted") (rSortX κ enc ltb) := by
  intro pins s σ H xs us Q I r h
  obtain ⟨a, S, n, rfl, ha, q⟩ := h
  rw [Vals.ref1 r]
  have R : SetX κ s.heap a S n := (I.hok a _ ha).1
  refine x_sorted kv.ord R (I.ok.hd hc) (fun vs A2 s2 b h2 hk => kv.sort vs A2 s2 b h2 hk) fun s' p out c k1 g1 o1 hp hat hz h1 hk ap hm => ?_
  have I1 : Inv X pins σ (upd H p (.lst ((out.map kf).map enc))) { s with heap := s'.heap, toks := s'.toks } := I.laid k1 hp ⟨by simpa using hz, out, c, keys_vals kv hk, hat⟩
  refine ⟨.ref p, _, I1.call' (ch := []) (s' := s') (by rw [o1]) Un.refl I1.hok (by rw [g1]; exact I1.bare) (fun _ z => nomatch z), rfl, q (out.map kf) p ?_ (fun k => (keys_mem kv hk k).trans (hm k).symm) (I.hok.fresh hp)⟩
  have nd := keys_apart kv hk ap
  refine List.Pairwise.and (List.pairwise_map.mpr (h1.imp fun {x y} z => z)) nd
/-- len(a set) -/
def rLenX (κ : KeyKind X.prog X.w K) : List V → Hp → VK → Prop := fun xs H Q => ∃ (a : Addr) (S : K → Bool) (n : Nat), xs = [.ref a] ∧ H a = some (SetO κ a S n) ∧
  ∀ ms : List K, ms.Nodup → (∀ k, k ∈ ms ↔ S k = true) → Q (.int ms.length) H
theorem cr_lenX (kv : KV κ enc kf ltb) : CallR X (.builtin "len") (rLenX κ) := by
  intro pins s σ H xs us Q I r h
  obtain ⟨a, S, n, rfl, ha, q⟩ := h
  rw [Vals.ref1 r]
  obtain ⟨o, es, ep, t, ho, hx, hd, en, hn⟩ := (show SetX κ s.heap a S n from (I.hok a _ ha).1)
  have keyd : ∀ v ∈ vals es, ∃ k, κ.is k v = true := fun v hv => by
    obtain ⟨e, he, rfl⟩ := List.mem_map.mp hv
    obtain ⟨⟨k, hk, _⟩, _⟩ := en.el e he
    exact ⟨k, hk⟩
  have sz : ((vals es).map kf).length = es.size := by unfold vals; simp
  have few := en.few
  unfold scanBound at few
  refine call_len_set ho hx hd en.fit (by omega) ⟨.int (((vals es).map kf).length : Nat), H, I.tok _, ⟨_, by rw [sz]⟩, q _ (keys_apart kv keyd en.ap) fun k => ?_⟩
  rw [keys_mem kv keyd k, en.mem k]
  constructor
  · rintro ⟨v, hv, z⟩
    obtain ⟨e, he, rfl⟩ := List.mem_map.mp hv
    exact ⟨e, he, z⟩
  · rintro ⟨e, he, z⟩
    exact ⟨e.2, List.mem_map.mpr ⟨e, he, rfl⟩, z⟩
end
/-! ### whole numbers, texts -/
theorem kv_int (P : Program) (w : World) : KV (intKind P w) V.int SrtO.iv (fun i j => decide (i < j)) where
  rel := fun k u r => by
    obtain ⟨t, rfl⟩ := r
    exact ⟨intKind_is P w k t, rfl⟩
  back := fun k u h => by
    obtain ⟨t, rfl⟩ := Value.isInt_shape h
    exact ⟨⟨t, rfl⟩, rfl⟩
  ord := SrtO.swo_int
  sort := fun vs A s b h2 hk => by
    have hI : IntsAre vs (vs.map SrtO.iv) := SrtO.ints_iv fun v hv => by
      obtain ⟨k, h⟩ := hk v hv
      obtain ⟨t, rfl⟩ := Value.isInt_shape h
      exact ⟨k, t, rfl⟩
    exact SrtO.ints_sortable hI h2
def sv : Value → Str
  | .str x _ => x
  | _ => ⟨#[]⟩
theorem strs_sv : ∀ {vs : List Value}, (∀ v ∈ vs, ∃ x t, v = Value.str x t) → StrsAre vs (vs.map sv)
  | [], _ => .nil
  | v :: vs, h => by
    obtain ⟨x, t, e⟩ := h v List.mem_cons_self
    subst e
    exact .cons x t (strs_sv fun u hu => h u (List.mem_cons_of_mem _ hu))
def ltC (x y : Str) : Bool := decide (x.cps.toList < y.cps.toList)
theorem kv_str (P : Program) (w : World) : KV (strKind P w) V.str sv ltC where
  rel := fun k u r => by
    obtain ⟨t, rfl⟩ := r
    exact ⟨by show Value.isStrOf k (.str k t) = true; simp [Value.isStrOf], rfl⟩
  back := fun k u h => by
    obtain ⟨t, rfl⟩ := Value.isStrOf_shape h
    exact ⟨⟨t, rfl⟩, rfl⟩
  ord := by
    refine ⟨fun x y h => decide_eq_false fun z => List.lt_asymm (of_decide_eq_true h) z, fun x y z h1 h2 => decide_eq_false fun h => ?_⟩
    have a := of_decide_eq_false h1
    have b := of_decide_eq_false h2
    exact List.not_lt.mpr (List.le_trans (List.not_lt.mp a) (List.not_lt.mp b)) h
  sort := fun vs A s b h2 hk => by
    have hS : ∀ v ∈ vs, ∃ x t, v = Value.str x t := fun v hv => by
      obtain ⟨k, h⟩ := hk v hv
      obtain ⟨t, rfl⟩ := Value.isStrOf_shape h
      exact ⟨k, t, rfl⟩
    intro h' _
    refine ⟨oneType', fun Q E hq => ?_, fun p q hp hq => ?_⟩
    · match vs, hS, h2 with
      | v1 :: v2 :: r, hS, _ =>
        rw [keyKind_strs (strs_sv hS)]
        exact wpAny_pure hq
      | [], _, z => exact absurd z (by decide)
      | [v], _, z => exact absurd z (by simp)
    · obtain ⟨x, t, e⟩ := hS _ hp
      obtain ⟨y, u, f⟩ := hS _ hq
      show wpAny (model P w) A (keyLt' oneType' p.1 q.1) (fun r s' => s' = _ ∧ r = ltC (sv p.1) (sv q.1)) _ _
      rw [e, f, keyLt'_oneType]
      exact oneLt_str ⟨rfl, rfl⟩
/-! ### on data -/
section
variable {G : Gc} {X : Cx} {N : List Str} {sc : Scope} {ρ : Rho} {μ : Mem}
theorem new_obj {K : PySem.W.Frag} {H : Hp} {F : Addr → Prop} {p : Addr} {o : HO} (m : MS K H F μ) (hp : H p = none) : Grow H F μ (upd H p o) F μ ∧ MS K (upd H p o) F μ := by
  have g : Grow H F μ (upd H p o) F μ := ⟨fun a u e _ => (by rw [upd_ne (ne_of_none e hp)]; exact e), fun _ e => e, fun _ e => .inl e, fun _ e => .inl e⟩
  have st := g.stay m
  refine ⟨g, fun a o2 e => ?_, fun a f => ?_⟩
  · obtain ⟨n, u, hu, q⟩ := m.at_ a o2 e
    exact ⟨n, u, (by rw [upd_ne (ne_of_none hu hp)]; exact hu), q.stay st⟩
  · obtain ⟨vs, h⟩ := m.fin a f
    exact ⟨vs, (st.lst a vs f h).2⟩
/-- a source of keys -/
theorem src_rd {K : PySem.W.Frag} {H : Hp} {F : Addr → Prop} {vs : List V} {x : D} {l : List D} (m : MS K H F μ) (r : RDs K H F vs [x]) (e : seqA μ x = some l) : ∃ p ws, vs = [.ref p] ∧ (SqL K H p ws ∨ SqT K H p ws) ∧ RDs K H F ws l := by
  obtain ⟨v, ev, r1⟩ := one_of r
  subst ev
  obtain ⟨p, ws, e2, hs, rs⟩ := seqA_or m r1 e
  exact ⟨p, ws, by rw [e2], hs, rs⟩
def rSetA (X : Cx) : List V → Hp → VK → Prop := fun xs H Q => rSetX (X := X) (intKind X.prog X.w) V.int xs H Q ∨ rSetX (X := X) (strKind X.prog X.w) V.str xs H Q
def rSortA (X : Cx) : List V → Hp → VK → Prop := fun xs H Q => rSortX (X := X) (intKind X.prog X.w) V.int (fun i j => decide (i < j)) xs H Q ∨ rSortX (X := X) (strKind X.prog X.w) V.str ltC xs H Q
def rLenA (X : Cx) : List V → Hp → VK → Prop := fun xs H Q => rLenX (X := X) (intKind X.prog X.w) xs H Q ∨ rLenX (X := X) (strKind X.prog X.w) xs H Q
theorem cr_setA (hc : X.calm = true) : CallR X (.type "set") (rSetA X) := CallR.or (cr_setX (kv_int _ _) hc) (cr_setX (kv_str _ _) hc)
theorem cr_sortA (hc : X.calm = true) : CallR X (.builtin "sorted") (rSortA X) := CallR.or (cr_sortX (kv_int _ _) hc) (cr_sortX (kv_str _ _) hc)
theorem cr_lenA : CallR X (.builtin "len") (rLenA X) := CallR.or (cr_lenX (kv_int _ _)) (cr_lenX (kv_str _ _))
theorem boot_sorted : bootBuiltins "sorted" = some (.builtin "sorted") := by first | rfl | decide +kernel
theorem blt_in (x : Str) (h : (bltNames.any fun y => decide (y = x)) = true) : x ∈ bltNames := by
  obtain ⟨y, hy, e⟩ := List.any_eq_true.mp h
  rw [← of_decide_eq_true e]
  exact hy
theorem DE.sset (sx : SX G X N sc) {z : Bool} {a : Expr} {p p2 p3 p4 : Pos} {Q : DK} (hg : gloB sc "sorted" = true) (hg2 : gloB sc "set" = true) (hs : noStar a = true)
    (h : DE X EX a ρ μ fun x μ1 => ssetD z x μ1 Q) : DE X EX (.Call (.Name "sorted" p) [.Call (.Name "set" p2) [a] [] p3] [] p4) ρ μ Q := fun σ H F en m => by
  have hd : DA X EX [a] ρ μ fun ds μ1 => oneD ds fun x => ssetD z x μ1 Q := .cons (star_cons hs) (by
    intro σ H F en m
    refine (h σ H F en m).mono fun v H1 ⟨d, F1, μ1, g1, m1, r1, q1⟩ => ⟨d, F1, μ1, g1, m1, r1, .nil q1⟩)
  refine we_of (pe_callB (cr_sortA sx.calm) (sx.glo hg) (sx.blt _ (blt_in _ (by decide +kernel))) boot_sorted
    (pa_cons (pe_callTy (cr_setA sx.calm) (sx.glo hg2) (sx.blt _ (blt_in _ (by decide +kernel))) boot_set pa_wa (by decide) (by decide) (star_cons hs) (by rfl)) pa_nil (by rfl)) (by decide) (by decide) (by rfl) (by rfl)) ?_
  refine (hd σ H F en m).mono fun vs H1 ⟨ds, F1, μ1, g1, m1, r1, q1⟩ => ?_
  obtain ⟨x, rfl, q1⟩ := one_ds q1
  unfold ssetD at q1
  obtain ⟨l, e, hl, q1⟩ := optD_ok q1
  obtain ⟨pa, ws, rfl, hs2, rs⟩ := src_rd m1 r1 e
  rcases q1 with ⟨ns, e2, q1⟩ | ⟨ns, e2, q1⟩
  · have e3 := asInts_eq e2
    subst e3
    rw [rs.ints] at hs2
    rw [List.length_map] at hl
    refine .inl ⟨pa, ns, rfl, hs2, hl, fun b n hb => .inl ⟨b, _, n, rfl, upd_same, fun ms c h1 h2 hc => ?_⟩⟩
    obtain ⟨g2, m2⟩ := new_obj (o := SetO (X := X) (intKind X.prog X.w) b (fun j => decide (j ∈ ns)) n) m1 hb
    refine newL_ok m2 .of_ints (q1 ms (h1.imp fun {i j} q => ?_) fun k => (h2 k).trans decide_eq_true_iff) (fun v H2 pq => (pq.pre g2).pre g1) c hc
    have := of_decide_eq_false q.1
    have := q.2
    omega
  · have e3 := asStrs_eq e2
    subst e3
    rw [rs.strs] at hs2
    rw [List.length_map] at hl
    refine .inr ⟨pa, ns, rfl, hs2, hl, fun b n hb => .inr ⟨b, _, n, rfl, upd_same, fun ms c h1 h2 hc => ?_⟩⟩
    obtain ⟨g2, m2⟩ := new_obj (o := SetO (X := X) (strKind X.prog X.w) b (fun j => decide (j ∈ ns)) n) m1 hb
    refine newL_ok m2 .of_strs (q1 ms (h1.imp fun {i j} q => ?_) fun k => (h2 k).trans decide_eq_true_iff) (fun v H2 pq => (pq.pre g2).pre g1) c hc
    have a := List.not_lt.mp (of_decide_eq_false q.1)
    show i.cps.toList < j.cps.toList
    rcases Classical.em (i.cps.toList < j.cps.toList) with b | b
    · exact b
    · have e : i.cps.toList = j.cps.toList := List.le_antisymm a (List.not_lt.mp b)
      exact absurd (by cases i; cases j; congr 1; exact Array.toList_inj.mp e) q.2
theorem DE.nset (sx : SX G X N sc) {a : Expr} {p p2 p3 p4 : Pos} {Q : DK} (hg : gloB sc "len" = true) (hg2 : gloB sc "set" = true) (hs : noStar a = true)
    (h : DE X EX a ρ μ fun x μ1 => nsetD x μ1 Q) : DE X EX (.Call (.Name "len" p) [.Call (.Name "set" p2) [a] [] p3] [] p4) ρ μ Q := fun σ H F en m => by
  have hd : DA X EX [a] ρ μ fun ds μ1 => oneD ds fun x => nsetD x μ1 Q := .cons (star_cons hs) (by
    intro σ H F en m
    refine (h σ H F en m).mono fun v H1 ⟨d, F1, μ1, g1, m1, r1, q1⟩ => ⟨d, F1, μ1, g1, m1, r1, .nil q1⟩)
  refine we_of (pe_callB cr_lenA (sx.glo hg) (sx.blt _ (blt_in _ (by decide +kernel))) boot_len
    (pa_cons (pe_callTy (cr_setA sx.calm) (sx.glo hg2) (sx.blt _ (blt_in _ (by decide +kernel))) boot_set pa_wa (by decide) (by decide) (star_cons hs) (by rfl)) pa_nil (by rfl)) (by decide) (by decide) (by rfl) (by rfl)) ?_
  refine (hd σ H F en m).mono fun vs H1 ⟨ds, F1, μ1, g1, m1, r1, q1⟩ => ?_
  obtain ⟨x, rfl, q1⟩ := one_ds q1
  unfold nsetD at q1
  obtain ⟨l, e, hl, q1⟩ := optD_ok q1
  obtain ⟨pa, ws, rfl, hs2, rs⟩ := src_rd m1 r1 e
  rcases q1 with ⟨ns, e2, q1⟩ | ⟨ns, e2, q1⟩
  · have e3 := asInts_eq e2
    subst e3
    rw [rs.ints] at hs2
    rw [List.length_map] at hl
    refine .inl ⟨pa, ns, rfl, hs2, hl, fun b n hb => .inl ⟨b, _, n, rfl, upd_same, fun ms h1 h2 => ?_⟩⟩
    obtain ⟨g2, m2⟩ := new_obj (o := SetO (X := X) (intKind X.prog X.w) b (fun j => decide (j ∈ ns)) n) m1 hb
    exact Post.pre g1 (Post.pre g2 (.now m2 (.int _) (q1 ms h1 fun k => (h2 k).trans decide_eq_true_iff)))
  · have e3 := asStrs_eq e2
    subst e3
    rw [rs.strs] at hs2
    rw [List.length_map] at hl
    refine .inr ⟨pa, ns, rfl, hs2, hl, fun b n hb => .inr ⟨b, _, n, rfl, upd_same, fun ms h1 h2 => ?_⟩⟩
    obtain ⟨g2, m2⟩ := new_obj (o := SetO (X := X) (strKind X.prog X.w) b (fun j => decide (j ∈ ns)) n) m1 hb
    exact Post.pre g1 (Post.pre g2 (.now m2 (.int _) (q1 ms h1 fun k => (h2 k).trans decide_eq_true_iff)))
end
end DL
/-! enumerate(a tuple). -/
namespace DL
open PySem PySem.Spec PyProof.Rows L2
open AutoSeq1 (wpAny_loadPart')
theorem new_enumT (l : Addr) (items : Array Value) (n : Nat) (dct : Option Addr) (sl : Array (Option Value)) :
    Meets (Builtin.«enumerate.__new__» ⟨[.type "enumerate", .ref l], []⟩) (fun _ R s => s.heap.get? l = some { cls := .type "tuple", dict := dct, data := .seq items n, slots := sl } ∧
      R (.ok (.ret (.ref (s.heap.push { cls := .type "tuple_iterator", data := .fields #[.ref l, .int 0 0] }).objs.size)))
        { s with heap := (s.heap.push { cls := .type "tuple_iterator", data := .fields #[.ref l, .int 0 0] }).push { cls := .type "enumerate", data := .fields #[.none, .bool false, .ref s.heap.objs.size, rawInt 0, .none, .none] } }) :=
  .of_wp fun prog w A R s h => by
    obtain ⟨hp, g, d, tk, os⟩ := s
    obtain ⟨e, h⟩ := h
    have hsub := sub_enumerate
    have tp : Heap.IsTuple (Shared.heap ⟨hp, g, d, tk, os⟩) l items := ⟨_, e, rfl, n, rfl⟩
    wp_walk using wpAny_loadPart' e
    refine wpAny_stack_any fun st => wpAny_pure ?_
    split
    · rename_i c _ _ _ _ _
      cases (c == Value.type "enumerate")
      · wp_walk using wpAny_loadPart' e, wpAny_pyIter_tuple tp
        exact ⟨_, rfl, h⟩
      · wp_walk using wpAny_loadPart' e, wpAny_pyIter_tuple tp
        exact ⟨_, rfl, h⟩
    · wp_walk using wpAny_loadPart' e, wpAny_pyIter_tuple tp
      exact ⟨_, rfl, h⟩
section
variable {prog : Program} {w : World} {A : Around} {E : Value → Shared → Prop} {s : Shared}
theorem enumT_item {it t : Addr} {i : Nat} {items : Array Value} {x : Value} {Q : Value → Shared → Prop} (hit : s.heap.IsTupleIter it t i) (ht : s.heap.IsTuple t items) (hx : items[i]? = some x)
    (hQ : ∀ h', h'.IsTupleIter it t (i + 1) → Heap.SameBut it s.heap h' → Q x { s with heap := h' }) : wpAny (model prog w) A (Builtin.SmallTypes.nextOf (.ref it)) Q E s := by
  obtain ⟨o, ho, hc, hd⟩ := id hit
  obtain ⟨ol, hol, _, nl, hdl⟩ := ht
  unfold Builtin.SmallTypes.nextOf
  have ar := F.args_tuple_iterator_next_1 (.ref it)
  refine wpAny_bind (wpAny_callSpecial?_slot (name := Str.ofString "__next__") hit.typeIs F.slot_tuple_iterator_next (wpAny_call_entry F.slot_tuple_iterator_next hit.typeIs F.entry_tuple_iterator_next ?_ ar))
  refine wpAny_bind (m := field (.ref it) 0) (wpAny_field ho hd (x := .ref t) rfl ?_)
  show wpAny _ _ (if (Value.ref t == Value.none) = true then _ else _) _ _ _
  rw [if_neg (by exact Bool.false_ne_true)]
  refine wpAny_bind (m := field (.ref it) 1) (wpAny_field ho hd (x := .int i 0) rfl ?_)
  refine wpAny_bind (m := seqItems? (.ref t)) (wpAny_seqItems hol hdl ?_)
  simp only [Int.toNat_natCast, hx]
  refine wpAny_bind (wpAny_setField ho hd (by simp) (wpAny_pure ⟨x, rfl, wpAny_pure (hQ _ ⟨_, Heap.get?_update_self _ ho (Obj.isFreed_of_fields (Obj.data_mapFields hd _)), (Obj.cls_mapFields ..).trans hc, ?_⟩ (Heap.SameBut.update ..))⟩))
  rw [Obj.data_mapFields hd]
  simp [rawInt]
theorem enumT_end {it t : Addr} {i : Nat} {items : Array Value} {Q : Value → Shared → Prop} (hh : A.handled = none) (hit : s.heap.IsTupleIter it t i) (ht : s.heap.IsTuple t items) (hx : items[i]? = none)
    (hE : ∀ h' e, Heap.ExtBut it s.heap h' → (∃ o, h'.get? e = some o ∧ o.cls = .type "StopIteration") → E (.ref e) { s with heap := h' }) : wpAny (model prog w) A (Builtin.SmallTypes.nextOf (.ref it)) Q E s := by
  obtain ⟨o, ho, hc, hd⟩ := id hit
  obtain ⟨ol, hol, _, nl, hdl⟩ := ht
  unfold Builtin.SmallTypes.nextOf
  have ar := F.args_tuple_iterator_next_1 (.ref it)
  refine wpAny_bind (wpAny_callSpecial?_slot (name := Str.ofString "__next__") hit.typeIs F.slot_tuple_iterator_next (wpAny_call_entry F.slot_tuple_iterator_next hit.typeIs F.entry_tuple_iterator_next ?_ ar))
  refine wpAny_bind (m := field (.ref it) 0) (wpAny_field ho hd (x := .ref t) rfl ?_)
  show wpAny _ _ (if (Value.ref t == Value.none) = true then _ else _) _ _ _
  rw [if_neg (by exact Bool.false_ne_true)]
  refine wpAny_bind (m := field (.ref it) 1) (wpAny_field ho hd (x := .int i 0) rfl ?_)
  refine wpAny_bind (m := seqItems? (.ref t)) (wpAny_seqItems hol hdl ?_)
  simp only [Int.toNat_natCast, hx]
  refine wpAny_bind (wpAny_rule (wpAny_bind (wpAny_setField ho hd (by simp) ?_)))
  refine wpAny_bind (m := newExc (.type "StopIteration") []) ?_
  simp only [newExc, newTuple]
  refine wpAny_bind (wpAny_newObj_type (wpAny_bind (m := firstArgMember _ _) (wpAny_of_eq (a := Value.none) (by first | rfl | (simp only [firstArgMember]; rfl)) (wpAny_newObj_type ?_ (by size_fits)))) (by size_fits))
  simp only [raiseNew]
  refine wpAny_bind (wpAny_handled ?_)
  first | rw [show A.in1.handled = none from hh] | rw [hh]
  exact wpAny_bind (wpAny_pure (wpAny_throw (hE _ _ (((Heap.SameBut.update ..).extBut.push _).push _) ⟨_, Heap.get?_push_size _ rfl, rfl⟩)))
theorem drawsT (hh : A.handled = none) (it l : Addr) (hne : l ≠ it) (items : Array Value) : Draws prog w A it [it, l] items.size (fun i v => items[i]? = some v) (fun i h => h.IsTupleIter it l i ∧ h.IsTuple l items) where
  live := fun _ _ st => let ⟨o, ho, _⟩ := st.1; ⟨o, ho⟩
  frame := fun _ _ _ st hk => ⟨st.1.at fun o e => hk it (by simp) o e, st.2.at fun o e => hk l (by simp) o e⟩
  item := fun i s Q E hi st hQ => enumT_item st.1 st.2 (x := items[i]) (by simp [hi]) fun h' a b => hQ _ h' s.toks (by simp [hi]) ⟨a, st.2.extBut b.extBut hne⟩ b
  done := fun s Q E st hE => enumT_end hh st.1 st.2 (by simp) hE
theorem call_enumT {l : Addr} {items : Array Value} {Q : Value → Shared → Prop} (ht : s.heap.IsTuple l items)
    (h : ∀ h', IsEnum h' (s.heap.objs.size + 1) s.heap.objs.size 0 .none → h'.IsTupleIter s.heap.objs.size l 0 → (∀ b o, s.heap.get? b = some o → h'.get? b = some o) → Q (.ref (s.heap.objs.size + 1)) { s with heap := h' }) :
    wpAny (model prog w) A (call (.type "enumerate") [.ref l]) Q E s := by
  obtain ⟨⟨c, dct, dt, sl⟩, hl, hc, n, hd⟩ := ht
  replace hc : c = .type "tuple" := hc
  replace hd : dt = .seq items n := hd
  subst hc hd
  refine callType_new F.called_enumerate (by decide) (F.typeCall_enumerate_1 _) (F.newCall_enumerate_1 _) (fun obj => F.args_object_init_2 obj _) F.entry_enumerate_new (new_enumT l items n dct sl) ⟨hl, ?_⟩
  have z : (s.heap.push { cls := .type "tuple_iterator", data := .fields #[.ref l, .int 0 0] }).objs.size = s.heap.objs.size + 1 := Heap.size_push ..
  show _ ∧ _
  rw [z]
  have q := Heap.get?_push_size (s.heap.push { cls := .type "tuple_iterator", data := .fields #[.ref l, .int 0 0] }) (o := { cls := .type "enumerate", data := .fields #[.none, .bool false, .ref s.heap.objs.size, rawInt 0, .none, .none] }) rfl
  rw [z] at q
  exact ⟨⟨_, q, rfl⟩, h _ q ⟨_, Heap.get?_push_of_some _ (Heap.get?_push_size _ rfl), rfl, rfl⟩ fun b o x => Heap.get?_push_of_some _ (Heap.get?_push_of_some _ x)⟩
end
/-- its turns: the tuple's items, numbered -/
def IteT (K : PySem.W.Frag) (a : Addr) : L2.It :=
  ⟨fun i H => ∃ (xs : List V) (x : V), SqT K H a xs ∧ xs[i]? = some x, fun i H v H' => ∃ T x, v = .ref T ∧ H T = none ∧ H' = upd H T (.tup [.int (i : Nat), x]) ∧ ∀ xs, SqT K H a xs → xs[i]? = some x, fun i H => ∃ xs : List V, SqT K H a xs ∧ xs.length = i⟩
theorem turn_enumT {P : Program} {w : World} {K : PySem.W.Frag} {elts : List Expr} {kk : Nat} {tpos : Pos} (a e it : Addr) (hai : a ≠ it) :
    Turn P w K (.Tuple elts kk tpos) (IteT K a) [e, it] e (fun i h => (∃ old, IsEnum h e it ((i : Nat) : Int) old) ∧ h.IsTupleIter it a i ∧ e ≠ it) where
  mem := by simp
  obj := fun i h st b hb => by
    obtain ⟨⟨old, he⟩, ⟨o, ho, hc, hd⟩, _⟩ := st
    rcases (show b = e ∨ b = it by simpa using hb) with z | z
    · rw [z]; exact ⟨_, he, fun v q => nomatch q⟩
    · rw [z]; exact ⟨o, ho, fun v q => by rw [hd] at q; cases q⟩
  keep := fun i h h' st k => let ⟨⟨old, he⟩, hi, hne⟩ := st; ⟨⟨old, k e (by simp) _ he⟩, hi.at fun o q => k it (by simp) o q, hne⟩
  item := by
    intro X hP hw hK hc i pins s σ H E I hf st hg
    subst hP hw hK
    obtain ⟨⟨old, he⟩, hit, hne⟩ := st
    obtain ⟨xs, x, hq, hx⟩ := hg
    obtain ⟨its, rv, p, hz⟩ := I.tuple hq
    obtain ⟨u, hu, ru⟩ := rv.get hx
    have hu2 : its.toArray[i]? = some u := by simpa using hu
    have hi : i < its.toArray.size := (Array.getElem?_eq_some_iff.mp hu2).1
    have hel : e < s.heap.objs.size := Heap.lt_size he
    have hil : it < s.heap.objs.size := by obtain ⟨_, q, _⟩ := hit; exact Heap.lt_size q
    have hae : e ∉ [it, a] := fun z => by
      rcases (show e = it ∨ e = a by simpa using z) with z | z
      · exact hne z
      · obtain ⟨o, ho, hc, _⟩ := p
        rw [z] at he
        have he : s.heap.get? a = some _ := he
        rw [ho] at he
        rw [Option.some.inj he] at hc
        exact absurd (Value.type.inj hc) (by decide)
    refine wpAny_pyNext_enum_itemD (drawsT (A := X.A.in1) (I.ok.hd hc) it a hai its.toArray) he ⟨hit, p⟩ hi hne hae fun y h' tk hy ho hst hT hsz hk => ?_
    have ey : y = u := by rw [hu2] at hy; exact (Option.some.inj hy).symm
    subst ey
    refine ⟨_, rfl, wpAny_letOwnedTupleGo_enum (s := { s with heap := h', toks := tk + 1 }) ho fun h'' he' sb => ?_⟩
    have hT2 : h''.get? s.heap.objs.size = some { cls := .type "tuple", data := .seq #[.int i tk, y] } := (sb.2 _ (Nat.ne_of_gt hel)).trans hT
    have new : ObjOk X.prog X.w (upd H s.heap.objs.size (.tup [.int (i : Nat), x])) h'' s.heap.objs.size (.tup [.int (i : Nat), x]) :=
      ⟨by show 2 ≤ sizeLine; decide, [.int i tk, y], .cons ⟨_, rfl⟩ (.cons ru .nil), ⟨_, hT2, rfl, _, rfl⟩⟩
    have I1 : Inv X pins σ (upd H s.heap.objs.size (.tup [.int (i : Nat), x])) { s with heap := h'', toks := tk + 1 } :=
      I.turnedNew (ch := [e, it]) (fun b ob hb q => (sb.2 b (fun z => hb (by simp [z]))).trans (hk b ob (fun z => hb (by simp [z])) (fun z => hb (by simp [z])) q)) hf (Nat.le_refl _) new
    refine ⟨.ref s.heap.objs.size, _, I1, rfl, ⟨_, x, rfl, I.hok.fresh (Nat.le_refl _), rfl, fun ys hy => by rw [I.tuple_inj hy hq]; exact hx⟩, ⟨⟨y, ?_⟩, hst.1.at fun o q => (sb.2 it (Ne.symm hne)).trans q, hne⟩, fun b hb => ?_⟩
    · rw [show ((i + 1 : Nat) : Int) = (i : Int) + 1 by omega]
      exact he'
    · have hb' : b < s.heap.objs.size := by
        rcases (show b = e ∨ b = it by simpa using hb) with z | z
        · rw [z]; exact hel
        · rw [z]; exact hil
      rw [upd_ne (Nat.ne_of_lt hb')]
      exact (hf b hb).1
  done := by
    intro X hP hw hK hc i pins s σ H E I hf st hg
    subst hP hw hK
    obtain ⟨⟨old, he⟩, hit, hne⟩ := st
    obtain ⟨xs, hq, hx⟩ := hg
    obtain ⟨its, rv, p, hz⟩ := I.tuple hq
    obtain ⟨f0, f1, f2, f3, f4, f5⟩ := hf it (by simp)
    have hl := rv.length
    have hlt : i = its.toArray.size := by rw [List.size_toArray, ← hl, hx]
    subst hlt
    exact wpAny_pyNext_enum_endD (drawsT (A := X.A.in1) (I.ok.hd hc) it a hai its.toArray) he ⟨hit, p⟩ fun h' eb => ⟨rfl, I.turned (t' := s.toks) (fun b o hb q => eb b o hb q) f0 f1 f3 f4 f5⟩
  self := fun A i s Q E st h => let ⟨⟨_, he⟩, _⟩ := st; wpAny_pyIter_enum he h
theorem numb_len (l : List D) : (numb l).length = l.length := by unfold numb; simp
theorem numb_get {l : List D} {i : Nat} (h : i < l.length) : (numb l)[i]? = some (.tup [.int (i : Nat), l[i]]) := by
  unfold numb
  simp [h]
/-- its turns: a text's signs, numbered -/
def IteS (x : Str) : L2.It :=
  ⟨fun i _ => i < x.cps.size, fun i H v H' => ∃ T c, v = .ref T ∧ H T = none ∧ H' = upd H T (.tup [.int (i : Nat), .str ⟨#[c]⟩]) ∧ x.cps[i]? = some c, fun i _ => x.cps.size = i⟩
theorem drawsS {prog : Program} {w : World} {A : Around} (hh : A.handled = none) (it : Addr) (x : Str) (t : Tok) :
    Draws prog w A it [it] x.cps.size (fun i v => ∃ c u, x.cps[i]? = some c ∧ v = .str ⟨#[c]⟩ u) (fun i h => h.IsStrIter it (strIterType x) x t i) := by
  unfold strIterType
  cases x.cps.all (· < 128) with
  | true => exact Draws.strAscii hh it x t
  | false => exact Draws.strWide hh it x t
theorem turn_enumS {P : Program} {w : World} {K : PySem.W.Frag} {elts : List Expr} {kk : Nat} {tpos : Pos} (x : Str) (t : Tok) (e it : Addr) :
    Turn P w K (.Tuple elts kk tpos) (IteS x) [e, it] e (fun i h => (∃ old, IsEnum h e it ((i : Nat) : Int) old) ∧ h.IsStrIter it (strIterType x) x t i ∧ e ≠ it) where
  mem := by simp
  obj := fun i h st b hb => by
    obtain ⟨⟨old, he⟩, ⟨o, ho, hc, hd⟩, _⟩ := st
    rcases (show b = e ∨ b = it by simpa using hb) with z | z
    · rw [z]; exact ⟨_, he, fun v q => nomatch q⟩
    · rw [z]; exact ⟨o, ho, fun v q => by rw [hd] at q; cases q⟩
  keep := fun i h h' st k => let ⟨⟨old, he⟩, ⟨o, ho, r⟩, hne⟩ := st; ⟨⟨old, k e (by simp) _ he⟩, ⟨o, k it (by simp) o ho, r⟩, hne⟩
  item := by
    intro X hP hw hK hc i pins s σ H E I hf st hg
    subst hP hw hK
    obtain ⟨⟨old, he⟩, hit, hne⟩ := st
    have hg : i < x.cps.size := hg
    have hel : e < s.heap.objs.size := Heap.lt_size he
    have hil : it < s.heap.objs.size := by obtain ⟨_, q, _⟩ := hit; exact Heap.lt_size q
    have hae : e ∉ [it] := fun z => hne (by simpa using z)
    refine wpAny_pyNext_enum_itemD (drawsS (A := X.A.in1) (I.ok.hd hc) it x t) he hit hg hne hae fun y h' tk hy ho hst hT hsz hk => ?_
    obtain ⟨c, u, hcx, rfl⟩ := hy
    refine ⟨_, rfl, wpAny_letOwnedTupleGo_enum (s := { s with heap := h', toks := tk + 1 }) ho fun h'' he' sb => ?_⟩
    have hT2 : h''.get? s.heap.objs.size = some { cls := .type "tuple", data := .seq #[.int i tk, .str ⟨#[c]⟩ u] } := (sb.2 _ (Nat.ne_of_gt hel)).trans hT
    have new : ObjOk X.prog X.w (upd H s.heap.objs.size (.tup [.int (i : Nat), .str ⟨#[c]⟩])) h'' s.heap.objs.size (.tup [.int (i : Nat), .str ⟨#[c]⟩]) :=
      ⟨by show 2 ≤ sizeLine; decide, [.int i tk, .str ⟨#[c]⟩ u], .cons ⟨_, rfl⟩ (.cons ⟨u, rfl⟩ .nil), ⟨_, hT2, rfl, _, rfl⟩⟩
    have I1 : Inv X pins σ (upd H s.heap.objs.size (.tup [.int (i : Nat), .str ⟨#[c]⟩])) { s with heap := h'', toks := tk + 1 } :=
      I.turnedNew (ch := [e, it]) (fun b ob hb q => (sb.2 b (fun z => hb (by simp [z]))).trans (hk b ob (fun z => hb (by simp [z])) (fun z => hb (by simp [z])) q)) hf (Nat.le_refl _) new
    refine ⟨.ref s.heap.objs.size, _, I1, rfl, ⟨_, c, rfl, I.hok.fresh (Nat.le_refl _), rfl, hcx⟩, ⟨⟨.str ⟨#[c]⟩ u, ?_⟩, ?_, hne⟩, fun b hb => ?_⟩
    · rw [show ((i + 1 : Nat) : Int) = (i : Int) + 1 by omega]
      exact he'
    · obtain ⟨o, q, r⟩ := hst
      exact ⟨o, (sb.2 it (Ne.symm hne)).trans q, r⟩
    · have hb' : b < s.heap.objs.size := by
        rcases (show b = e ∨ b = it by simpa using hb) with z | z
        · rw [z]; exact hel
        · rw [z]; exact hil
      rw [upd_ne (Nat.ne_of_lt hb')]
      exact (hf b hb).1
  done := by
    intro X hP hw hK hc i pins s σ H E I hf st hg
    subst hP hw hK
    obtain ⟨⟨old, he⟩, hit, hne⟩ := st
    obtain ⟨f0, f1, f2, f3, f4, f5⟩ := hf it (by simp)
    have hg : x.cps.size = i := hg
    subst hg
    exact wpAny_pyNext_enum_endD (drawsS (A := X.A.in1) (I.ok.hd hc) it x t) he hit fun h' eb => ⟨rfl, I.turned (t' := s.toks) (fun b o hb q => eb b o hb q) f0 f1 f3 f4 f5⟩
  self := fun A i s Q E st h => let ⟨⟨_, he⟩, _⟩ := st; wpAny_pyIter_enum he h
section
variable {G : Gc} {X : Cx} {N : List Str} {sc : Scope} {ρ : Rho} {μ : Mem}
/-- enumerate(e), of a list or a tuple -/
def iEnumA (K : PySem.W.Frag) (ta : TA) : TI := fun σ H R => ta σ H fun vs H1 => (∃ a xs, vs = [.ref a] ∧ ((SqL K H1 a xs ∧ R (Ite K a) H1) ∨ (SqT K H1 a xs ∧ R (IteT K a) H1))) ∨ ∃ x, vs = [.str x] ∧ R (IteS x) H1
theorem pi_enumA {e : Expr} {ta : TA} {p pos tpos : Pos} {elts : List Expr} {kk : Nat} (hg : Gl X "enumerate") (hm : X.mg "enumerate" = none) (ha : PA X [e] ta) (hs : starEach [e] X.env = [(false, eval e X.env)] := by rfl) :
    PI X (.Tuple elts kk tpos) (.Call (.Name "enumerate" p) [e] [] pos) (iEnumA X.K ta) := by
  refine ⟨fun pins s σ H R I h => ?_⟩
  refine Call_ (ld_blt I hg hm boot_enumerate (PyProof.Rows.callWith_type1 (thn (ha.run pos pins s σ H _ I h) fun us s1 ⟨vs, H1, I1, r1, q1⟩ => ?_) hs rfl))
  have apart0 : ∀ b ∈ [s1.heap.objs.size + 1, s1.heap.objs.size], s1.heap.objs.size ≤ b := fun b hb => by
    rcases (show b = s1.heap.objs.size + 1 ∨ b = s1.heap.objs.size by simpa using hb) with z | z
    · rw [z]; exact Nat.le_add_right _ _
    · rw [z]; exact Nat.le_refl _
  rcases q1 with q1 | ⟨x, rfl, q⟩
  rotate_left
  · obtain ⟨u, rfl, t, rfl⟩ := vals1 r1
    refine call_enumerate_str fun h' he hit hsz hk => wpAny_pyIter_enum he ?_
    exact ⟨s1.heap.objs.size + 1, [s1.heap.objs.size + 1, s1.heap.objs.size], _, _, H1, rfl, I1.kept (t' := s1.toks) hk, turn_enumS x t (s1.heap.objs.size + 1) s1.heap.objs.size, ⟨⟨.none, he⟩, hit, Nat.succ_ne_self _⟩, fun b hb => I1.fpOk (apart0 b hb) (I1.hok.fresh (apart0 b hb)), q⟩
  obtain ⟨a, xs, rfl, q⟩ := q1
  rw [Vals.ref1 r1]
  have apart : ∀ b ∈ [s1.heap.objs.size + 1, s1.heap.objs.size], s1.heap.objs.size ≤ b := fun b hb => by
    rcases (show b = s1.heap.objs.size + 1 ∨ b = s1.heap.objs.size by simpa using hb) with z | z
    · rw [z]; exact Nat.le_add_right _ _
    · rw [z]; exact Nat.le_refl _
  rcases q with ⟨hq, q⟩ | ⟨hq, q⟩
  · obtain ⟨its, rv, p', hz⟩ := I1.list hq
    refine call_enumerate_list p'.isList fun h' he hit hsz hk => wpAny_pyIter_enum he ?_
    exact ⟨s1.heap.objs.size + 1, [s1.heap.objs.size + 1, s1.heap.objs.size], _, _, H1, rfl, I1.kept (t' := s1.toks) hk, turn_enum a (s1.heap.objs.size + 1) s1.heap.objs.size, ⟨⟨.none, he⟩, hit, Nat.succ_ne_self _⟩, fun b hb => I1.fpOk (apart b hb) (I1.hok.fresh (apart b hb)), q⟩
  · obtain ⟨its, rv, pt, hz⟩ := I1.tuple hq
    have hlt : a < s1.heap.objs.size := by
      obtain ⟨o, ho, _⟩ := pt
      exact Heap.lt_size ho
    refine call_enumT (show s1.heap.IsTuple a its.toArray from pt) fun h' he hit hk => wpAny_pyIter_enum he ?_
    exact ⟨s1.heap.objs.size + 1, [s1.heap.objs.size + 1, s1.heap.objs.size], _, _, H1, rfl, I1.kept (t' := s1.toks) hk, turn_enumT a (s1.heap.objs.size + 1) s1.heap.objs.size (Nat.ne_of_lt hlt), ⟨⟨.none, he⟩, hit, Nat.succ_ne_self _⟩, fun b hb => I1.fpOk (apart b hb) (I1.hok.fresh (apart b hb)), q⟩
theorem pair_new {K : PySem.W.Frag} {H : Hp} {F : Addr → Prop} {μ : Mem} {T : Addr} {i : Nat} {v : V} {d : D} (m : MS K H F μ) (hT : H T = none) (r : RD K H F v d) :
    Grow H F μ (upd H T (.tup [.int (i : Nat), v])) F μ ∧ MS K (upd H T (.tup [.int (i : Nat), v])) F μ ∧ RD K (upd H T (.tup [.int (i : Nat), v])) F (.ref T) (.tup [.int (i : Nat), d]) :=
  new_tup m hT (.cons (.int _) (.cons r .nil))
theorem walks_numL {K : PySem.W.Frag} {a : Addr} {l : List D} {ok : Mem → Prop} {H1 : Hp} {F1 : Addr → Prop} {μ1 : Mem}
    (hL : ∀ H F μ, Grow H1 F1 μ1 H F μ → MS K H F μ → ok μ → ∃ vs, SqL K H a vs ∧ RDs K H F vs l) : Walks K (Ite K a) (numb l) ok H1 F1 μ1 where
  go := fun i H F μ hi g m o => by
    obtain ⟨vs, h, r⟩ := hL H F μ g m o
    rw [numb_len] at hi
    have hv : i < vs.length := by rw [r.length]; exact hi
    exact ⟨vs, vs[i], h, List.getElem?_eq_getElem hv⟩
  stop := fun H F μ g m o => by
    obtain ⟨vs, h, r⟩ := hL H F μ g m o
    exact ⟨vs, h, by rw [numb_len, r.length]; exact Nat.le_refl _⟩
  yld := fun i H F μ x H' hi g m o y => by
    obtain ⟨vs, h, r⟩ := hL H F μ g m o
    obtain ⟨T, v, rfl, hT, rfl, hv⟩ := y
    rw [numb_len] at hi
    obtain ⟨d, h1, h2⟩ := r.get' (hv vs h)
    obtain ⟨g2, m2, r2⟩ := pair_new (i := i) m hT h2
    refine ⟨_, numb_get hi, g2, m2, ?_⟩
    rw [List.getElem?_eq_getElem hi] at h1
    rw [Option.some.inj h1]
    exact r2
theorem walks_numT {K : PySem.W.Frag} {a : Addr} {l : List D} {ok : Mem → Prop} {H1 : Hp} {F1 : Addr → Prop} {μ1 : Mem}
    (hL : ∀ H F μ, Grow H1 F1 μ1 H F μ → MS K H F μ → ok μ → ∃ vs, SqT K H a vs ∧ RDs K H F vs l) : Walks K (IteT K a) (numb l) ok H1 F1 μ1 where
  go := fun i H F μ hi g m o => by
    obtain ⟨vs, h, r⟩ := hL H F μ g m o
    rw [numb_len] at hi
    have hv : i < vs.length := by rw [r.length]; exact hi
    exact ⟨vs, vs[i], h, List.getElem?_eq_getElem hv⟩
  stop := fun H F μ g m o => by
    obtain ⟨vs, h, r⟩ := hL H F μ g m o
    exact ⟨vs, h, by rw [numb_len, r.length]⟩
  yld := fun i H F μ x H' hi g m o y => by
    obtain ⟨vs, h, r⟩ := hL H F μ g m o
    obtain ⟨T, v, rfl, hT, rfl, hv⟩ := y
    rw [numb_len] at hi
    obtain ⟨d, h1, h2⟩ := r.get' (hv vs h)
    obtain ⟨g2, m2, r2⟩ := pair_new (i := i) m hT h2
    refine ⟨_, numb_get hi, g2, m2, ?_⟩
    rw [List.getElem?_eq_getElem hi] at h1
    rw [Option.some.inj h1]
    exact r2
theorem chars_get {x : Str} {i : Nat} {c : Nat} (h : x.cps[i]? = some c) : (chars x)[i]? = some (.str ⟨#[c]⟩) := by
  unfold chars
  rw [List.getElem?_map, Array.getElem?_toList, h]
  rfl
theorem chars_len {x : Str} : (chars x).length = x.cps.size := by unfold chars; simp
theorem walks_numS {K : PySem.W.Frag} {x : Str} {H1 : Hp} {F1 : Addr → Prop} {μ1 : Mem} : Walks K (IteS x) (numb (chars x)) (fun _ => True) H1 F1 μ1 where
  go := fun i H F μ hi g m o => by
    rw [numb_len, chars_len] at hi
    exact hi
  stop := fun H F μ g m o => by
    show x.cps.size = (numb (chars x)).length
    rw [numb_len, chars_len]
  yld := fun i H F μ v H' hi g m o y => by
    obtain ⟨T, c, rfl, hT, rfl, hv⟩ := y
    rw [numb_len] at hi
    have h1 := chars_get hv
    rw [List.getElem?_eq_getElem hi] at h1
    obtain ⟨g2, m2, r2⟩ := pair_new (i := i) m hT (.str ⟨#[c]⟩)
    refine ⟨_, numb_get hi, g2, m2, ?_⟩
    rw [Option.some.inj h1]
    exact r2
theorem DI.enum (sx : SX G X N sc) {elts : List Expr} {kk : Nat} {tpos : Pos} {a : Expr} {p pos : Pos} {R : IK} (hg : gloB sc "enumerate" = true) (hs : noStar a = true) (h : DE X EX a ρ μ fun x μ1 => enumIt x μ1 R) :
    DI X EX (.Tuple elts kk tpos) (.Call (.Name "enumerate" p) [a] [] pos) ρ μ R := fun σ H F en m => by
  refine wi_of (pi_enumA (sx.glo hg) (sx.blt _ (by decide +kernel)) (pa_cons pe_we pa_nil (star_cons hs)) (by rw [star_cons hs]; rfl)) ?_
  refine (h σ H F en m).mono fun v H1 ⟨x, F1, μ1, g1, m1, r1, q⟩ => ?_
  unfold enumIt at q
  cases r1 with
  | str s => exact .inr ⟨s, rfl, _, _, F1, μ1, g1, m1, walks_numS, q⟩
  | tup t rs =>
    exact .inl ⟨_, _, rfl, .inr ⟨t, _, _, F1, μ1, g1, m1, walks_numT (fun H F μ g m o => ⟨_, (g.stay m1).tup _ _ t, rs.stay (g.stay m1)⟩), q⟩⟩
  | lst f hd rs =>
    exact .inl ⟨_, _, rfl, .inl ⟨.inl (.inl hd), _, _, F1, μ1, g1, m1, walks_numL (fun H F μ g m o => ⟨_, sql_keep m1 g f hd, rs.stay (g.stay m1)⟩), q⟩⟩
  | lk hk rs =>
    have hq : ∀ H F μ, Grow H1 F1 μ1 H F μ → SqL X.K H _ _ := fun H F μ g => hk.elim (fun ⟨o, z⟩ => .inl (.inr ⟨o, (g.stay m1).lk _ _ _ z⟩)) .inr
    exact .inl ⟨_, _, rfl, .inl ⟨hq _ _ _ .refl, _, _, F1, μ1, g1, m1, walks_numL (fun H F μ g m o => ⟨_, hq H F μ g, rs.stay (g.stay m1)⟩), q⟩⟩
  | ref a =>
    obtain ⟨l, e2, q⟩ := optD_ok (show optD (seqL μ1 (.ref a)) _ from q)
    obtain ⟨_, u, hu, vs, eu, rs⟩ := m1.at_ a _ (seqL_ref e2)
    subst eu
    refine .inl ⟨_, _, rfl, .inl ⟨.inl (.inl hu), _, _, F1, μ1, g1, m1, walks_numL (fun H F μ g m o => ?_), q⟩⟩
    obtain ⟨_, u, hu, vs, eu, rs⟩ := m.at_ a _ (seqL_ref o)
    subst eu
    exact ⟨vs, .inl (.inl hu), rs⟩
  | _ => exact False.elim q
end
end DL
/-! zip of lists and tuples, mixed too. -/
namespace DL
open PySem PySem.Spec PyProof.Rows L2
def SqK (k : Bool) (K : PySem.W.Frag) (H : Hp) (a : Addr) (vs : List V) : Prop := match k with
  | true => SqT K H a vs
  | false => SqL K H a vs
def hIter (k : Bool) (h : Heap) (it l : Addr) (i : Nat) : Prop := match k with
  | true => h.IsTupleIter it l i
  | false => h.IsListIter it l i
def hSeq (k : Bool) (h : Heap) (l : Addr) (its : Array Value) : Prop := match k with
  | true => h.IsTuple l its
  | false => h.IsList l its
theorem hIter.has {k : Bool} {h : Heap} {it l : Addr} {i : Nat} (x : hIter k h it l i) : ∃ o, h.get? it = some o ∧ ∀ v, o.data ≠ .cell v := by
  cases k with
  | true => obtain ⟨o, e, _, d⟩ := x; exact ⟨o, e, fun v q => by rw [d] at q; cases q⟩
  | false => obtain ⟨o, e, _, d⟩ := x; exact ⟨o, e, fun v q => by rw [d] at q; cases q⟩
theorem hIter.keep {k : Bool} {h h' : Heap} {it l : Addr} {i : Nat} (x : hIter k h it l i) (q : ∀ o, h.get? it = some o → h'.get? it = some o) : hIter k h' it l i := by
  cases k with
  | true => exact Heap.IsTupleIter.at (show h.IsTupleIter it l i from x) fun o e => q o e
  | false => exact Heap.IsListIter.at (show h.IsListIter it l i from x) fun o e => q o e
theorem hSeq.has {k : Bool} {h : Heap} {l : Addr} {its : Array Value} (x : hSeq k h l its) : ∃ o, h.get? l = some o := by
  cases k with
  | true => obtain ⟨o, e, _⟩ := x; exact ⟨o, e⟩
  | false => obtain ⟨o, e, _⟩ := x; exact ⟨o, e⟩
theorem SqK.at_ {k : Bool} {X : Cx} {pins : List (Addr × Obj)} {σ : St} {H : Hp} {s : Shared} {a : Addr} {vs : List V} (I : Inv X pins σ H s) (h : SqK k X.K H a vs) : ∃ its : List Value, Vals vs its ∧ hSeq k s.heap a its.toArray := by
  cases k with
  | true => obtain ⟨its, rv, p, _⟩ := I.tuple h; exact ⟨its, rv, p⟩
  | false => obtain ⟨its, rv, p, _⟩ := I.list h; exact ⟨its, rv, p.isList⟩
theorem SqK.inj {k : Bool} {X : Cx} {pins : List (Addr × Obj)} {σ : St} {H : Hp} {s : Shared} {a : Addr} {vs ws : List V} (I : Inv X pins σ H s) (h : SqK k X.K H a vs) (g : SqK k X.K H a ws) : vs = ws := by
  cases k with
  | true => exact I.tuple_inj h g
  | false => exact I.list_inj h g
theorem drawsK (k : Bool) {prog : Program} {w : World} {A : Around} (hh : A.handled = none) (it l : Addr) (hne : l ≠ it) (items : Array Value) : Draws prog w A it [it, l] items.size (fun i v => items[i]? = some v) (fun i h => hIter k h it l i ∧ hSeq k h l items) := by
  cases k with
  | true => exact drawsT hh it l hne items
  | false => exact Draws.list hh it l hne items

theorem sepK {z TI TO i1 i2 l1 l2 : Addr} (D : ZipApart z TI TO i1 i2 l1 l2) : ZipSep2 z TI TO i1 i2 [i1, l1] [i2, l2] where
  TIz := D.TIz
  TOz := D.TOz
  TITO := D.TITO
  TIi1 := D.TIi1
  mem1 := by simp
  zf1 := fun h => by rcases (show z = i1 ∨ z = l1 by simpa using h) with e | e; exact D.i1z e.symm; exact D.l1z e.symm
  Tf1 := fun h => by rcases (show TO = i1 ∨ TO = l1 by simpa using h) with e | e; exact D.TOi1 e; exact D.l1TO e.symm
  TIi2 := D.TIi2
  mem2 := by simp
  zf2 := fun h => by rcases (show z = i2 ∨ z = l2 by simpa using h) with e | e; exact D.i2z e.symm; exact D.l2z e.symm
  Tf2 := fun h => by rcases (show TO = i2 ∨ TO = l2 by simpa using h) with e | e; exact D.TOi2 e; exact D.l2TO e.symm
  sep1_2 := fun h => by rcases (show i1 = i2 ∨ i1 = l2 by simpa using h) with e | e; exact D.i12 e; exact D.l2i1 e.symm
  sep2_1 := fun h => by rcases (show i2 = i1 ∨ i2 = l1 by simpa using h) with e | e; exact D.i12 e.symm; exact D.l1i2 e.symm
/-- the sequences at a and b as they stand at each turn, the items in new pairs -/
def ItzK (k1 k2 : Bool) (K : PySem.W.Frag) (a b : Addr) : L2.It :=
  ⟨fun i H => ∃ (xs ys : List V) (x y : V), SqK k1 K H a xs ∧ SqK k2 K H b ys ∧ xs[i]? = some x ∧ ys[i]? = some y,
    fun i H v H' => ∃ T x y, v = .ref T ∧ H T = none ∧ H' = upd H T (.tup [x, y]) ∧ (∀ xs, SqK k1 K H a xs → xs[i]? = some x) ∧ ∀ ys, SqK k2 K H b ys → ys[i]? = some y,
    fun i H => ∃ xs ys : List V, SqK k1 K H a xs ∧ SqK k2 K H b ys ∧ i = min xs.length ys.length⟩
theorem turn_zipK (k1 k2 : Bool) {P : Program} {w : World} {K : PySem.W.Frag} {elts : List Expr} {kk : Nat} {tpos : Pos} {a b z TI TO i1 i2 : Addr} (D : ZipApart z TI TO i1 i2 a b) :
    Turn P w K (.Tuple elts kk tpos) (ItzK k1 k2 K a b) [z, TI, TO, i1, i2] z (fun i h => IsZip h z TI TO .none ∧ IsPair h TI (.ref i1) (.ref i2) ∧ (∃ x y, IsPair h TO x y) ∧ hIter k1 h i1 a i ∧ hIter k2 h i2 b i) where
  mem := by simp
  obj := fun i h st c hc => by
    obtain ⟨hz, hTI, ⟨x, y, hTO⟩, x1, x2⟩ := st
    obtain ⟨o1, e1, d1⟩ := x1.has
    obtain ⟨o2, e2, d2⟩ := x2.has
    have e' : c = z ∨ c = TI ∨ c = TO ∨ c = i1 ∨ c = i2 := by simpa using hc
    rcases e' with q | q | q | q | q
    · rw [q]; exact ⟨_, hz, fun v q => nomatch q⟩
    · rw [q]; exact ⟨_, hTI, fun v q => nomatch q⟩
    · rw [q]; exact ⟨_, hTO, fun v q => nomatch q⟩
    · rw [q]; exact ⟨o1, e1, d1⟩
    · rw [q]; exact ⟨o2, e2, d2⟩
  keep := fun i h h' st k => by
    obtain ⟨hz, hTI, ⟨x, y, hTO⟩, h1, h2⟩ := st
    exact ⟨k z (by simp) _ hz, k TI (by simp) _ hTI, ⟨x, y, k TO (by simp) _ hTO⟩, h1.keep fun o q => k i1 (by simp) o q, h2.keep fun o q => k i2 (by simp) o q⟩
  item := by
    intro X hP hw hK hc i pins s σ H E I hf st hg
    subst hP hw hK
    obtain ⟨hz, hTI, ⟨x0, y0, hTO⟩, h1, h2⟩ := st
    obtain ⟨xs, ys, x, y, hqx, hqy, hx, hy⟩ := hg
    obtain ⟨its, rv, p⟩ := hqx.at_ I
    obtain ⟨its2, rv2, p2⟩ := hqy.at_ I
    obtain ⟨u, hu, ru⟩ := rv.get hx
    obtain ⟨u2, hu2, ru2⟩ := rv2.get hy
    have gu : its.toArray[i]? = some u := by simpa using hu
    have gu2 : its2.toArray[i]? = some u2 := by simpa using hu2
    have lt1 := (Array.getElem?_eq_some_iff.mp gu).1
    have lt2 := (Array.getElem?_eq_some_iff.mp gu2).1
    have hzl : z < s.heap.objs.size := Heap.lt_size hz
    refine wpAny_pyNext_zipD2_item (sepK D) (drawsK k1 (A := X.A.in1) (I.ok.hd hc) i1 a D.l1i1 its.toArray) (drawsK k2 (A := X.A.in1) (I.ok.hd hc) i2 b D.l2i2 its2.toArray) hz hTI hTO ⟨h1, p⟩ ⟨h2, p2⟩ lt1 lt2 fun y1 y2 h' tk q1 q2 z' TO' s1' s2' hT hsz hk => ?_
    have ey1 : y1 = u := by rw [gu] at q1; exact (Option.some.inj q1).symm
    have ey2 : y2 = u2 := by rw [gu2] at q2; exact (Option.some.inj q2).symm
    subst ey1 ey2
    refine ⟨_, rfl, wpAny_letOwnedTupleGo_zip (s := { s with heap := h', toks := tk }) z' fun h'' z'' sb => ?_⟩
    have hT2 : h''.get? s.heap.objs.size = some { cls := .type "tuple", data := .seq #[y1, y2] } := (sb.2 _ (Nat.ne_of_gt hzl)).trans hT
    have new : ObjOk X.prog X.w (upd H s.heap.objs.size (.tup [x, y])) h'' s.heap.objs.size (.tup [x, y]) :=
      ⟨by show 2 ≤ sizeLine; decide, [y1, y2], .cons ru (.cons ru2 .nil), ⟨_, hT2, rfl, _, rfl⟩⟩
    have I1 : Inv X pins σ (upd H s.heap.objs.size (.tup [x, y])) { s with heap := h'', toks := tk } :=
      I.turnedNew (t' := tk) (ch := [z, TI, TO, i1, i2]) (fun c o hb q => (sb.2 c (fun q' => hb (by simp [q']))).trans (hk c o (fun q' => hb (by simp [q'])) (fun q' => hb (by simp [q'])) (fun q' => hb (by simp [q'])) (fun q' => hb (by simp [q'])) q)) hf (Nat.le_refl _) new
    refine ⟨.ref s.heap.objs.size, _, I1, rfl, ⟨_, x, y, rfl, I.hok.fresh (Nat.le_refl _), rfl, fun l hl => by rw [hl.inj I hqx]; exact hx, fun l hl => by rw [hl.inj I hqy]; exact hy⟩, ⟨z'', ?_, ⟨y1, y2, ?_⟩, ?_, ?_⟩, fun c hcm => ?_⟩
    · exact (sb.2 _ D.TIz).trans (hk _ _ D.TIz D.TITO D.TIi1 D.TIi2 hTI)
    · exact (sb.2 _ D.TOz).trans TO'
    · exact s1'.1.keep fun o q => (sb.2 _ D.i1z).trans q
    · exact s2'.1.keep fun o q => (sb.2 _ D.i2z).trans q
    · have hlt : c < s.heap.objs.size := by
        have e' : c = z ∨ c = TI ∨ c = TO ∨ c = i1 ∨ c = i2 := by simpa using hcm
        rcases e' with q | q | q | q | q
        · rw [q]; exact hzl
        · rw [q]; exact Heap.lt_size hTI
        · rw [q]; exact Heap.lt_size hTO
        · rw [q]; obtain ⟨_, e1, _⟩ := h1.has; exact Heap.lt_size e1
        · rw [q]; obtain ⟨_, e2, _⟩ := h2.has; exact Heap.lt_size e2
      rw [upd_ne (Nat.ne_of_lt hlt)]
      exact (hf c hcm).1
  done := by
    intro X hP hw hK hc i pins s σ H E I hf st hg
    subst hP hw hK
    obtain ⟨hz, hTI, ⟨x0, y0, hTO⟩, h1, h2⟩ := st
    obtain ⟨xs, ys, hqx, hqy, hend⟩ := hg
    obtain ⟨its, rv, p⟩ := hqx.at_ I
    obtain ⟨its2, rv2, p2⟩ := hqy.at_ I
    have l1 := rv.length
    have l2 := rv2.length
    exact wpAny_pyNext_zipD2_end (sepK D) (drawsK k1 (A := X.A.in1) (I.ok.hd hc) i1 a D.l1i1 its.toArray) (drawsK k2 (A := X.A.in1) (I.ok.hd hc) i2 b D.l2i2 its2.toArray) hz hTI hTO ⟨h1, p⟩ ⟨h2, p2⟩ (by simp; omega) (by simp; omega) (by simp; omega) fun h' tk hk => ⟨rfl, I.turnedL (t' := tk) (ch := [z, TI, TO, i1, i2]) (fun c o hb q =>
      hk c o (fun q' => hb (by simp [q'])) (fun q' => hb (by simp [q'])) (fun q' => hb (by simp [q'])) (fun q' => hb (by simp [q'])) q) hf⟩
  self := fun A i s Q E st h => wpAny_pyIter_zip st.1 h
/-! ### zip(list, tuple) made -/
abbrev itO (k : Bool) (l : Addr) : Obj := { cls := .type (match k with | true => "tuple_iterator" | false => "list_iterator"), data := .fields #[.ref l, .int 0 0] }
abbrev zK1 (k1 : Bool) (h : Heap) (l1 : Addr) : Heap := h.push (itO k1 l1)
abbrev zK2 (k1 k2 : Bool) (h : Heap) (l1 l2 : Addr) : Heap := (zK1 k1 h l1).push (itO k2 l2)
abbrev zK3 (k1 k2 : Bool) (h : Heap) (l1 l2 : Addr) : Heap := (zK2 k1 k2 h l1 l2).push { cls := .type "tuple", data := .seq #[.ref h.objs.size, .ref (zK1 k1 h l1).objs.size] }
abbrev zK4 (k1 k2 : Bool) (h : Heap) (l1 l2 : Addr) : Heap := (zK3 k1 k2 h l1 l2).push { cls := .type "tuple", data := .seq #[.none, .none] }
abbrev zK5 (k1 k2 : Bool) (h : Heap) (l1 l2 : Addr) : Heap := (zK4 k1 k2 h l1 l2).push { cls := .type "zip", data := .fields #[.none, .bool false, .bool false, .ref (zK2 k1 k2 h l1 l2).objs.size, .ref (zK3 k1 k2 h l1 l2).objs.size] }
theorem meets_zipLT (l1 l2 : Addr) (xs ys : Array Value) :
    Meets (Builtin.«zip.__new__» ⟨[.type "zip", .ref l1, .ref l2], []⟩) (fun _ R s => s.heap.IsList l1 xs ∧ s.heap.IsTuple l2 ys ∧
      R (.ok (.ret (.ref (zK4 false true s.heap l1 l2).objs.size))) { s with heap := zK5 false true s.heap l1 l2 }) :=
  .of_wp fun prog w A R s h => by
    obtain ⟨hp, g, d, tk, os⟩ := s; obtain ⟨hl1, hl2, h⟩ := h
    have hsub := sub_zip
    have hL1 : Heap.IsList (Shared.heap ⟨hp, g, d, tk, os⟩) l1 xs := hl1
    have hL2 : Heap.IsTuple (Shared.heap ⟨hp.push { cls := .type "list_iterator", data := .fields #[.ref l1, .int 0 0] }, g, d, tk, os⟩) l2 ys := Heap.IsTuple.push hl2 _
    wp_walk using wpAny_pyIter_list hL1, wpAny_pyIter_tuple hL2
    exact ⟨_, rfl, h⟩
theorem meets_zipTL (l1 l2 : Addr) (xs ys : Array Value) :
    Meets (Builtin.«zip.__new__» ⟨[.type "zip", .ref l1, .ref l2], []⟩) (fun _ R s => s.heap.IsTuple l1 xs ∧ s.heap.IsList l2 ys ∧
      R (.ok (.ret (.ref (zK4 true false s.heap l1 l2).objs.size))) { s with heap := zK5 true false s.heap l1 l2 }) :=
  .of_wp fun prog w A R s h => by
    obtain ⟨hp, g, d, tk, os⟩ := s; obtain ⟨hl1, hl2, h⟩ := h
    have hsub := sub_zip
    have hL1 : Heap.IsTuple (Shared.heap ⟨hp, g, d, tk, os⟩) l1 xs := hl1
    have hL2 : Heap.IsList (Shared.heap ⟨hp.push { cls := .type "tuple_iterator", data := .fields #[.ref l1, .int 0 0] }, g, d, tk, os⟩) l2 ys := Heap.IsList.push hl2 _
    wp_walk using wpAny_pyIter_tuple hL1, wpAny_pyIter_list hL2
    exact ⟨_, rfl, h⟩

theorem meets_zipK (k1 k2 : Bool) (l1 l2 : Addr) (xs ys : Array Value) :
    Meets (Builtin.«zip.__new__» ⟨[.type "zip", .ref l1, .ref l2], []⟩) (fun _ R s => hSeq k1 s.heap l1 xs ∧ hSeq k2 s.heap l2 ys ∧
      R (.ok (.ret (.ref (zK4 k1 k2 s.heap l1 l2).objs.size))) { s with heap := zK5 k1 k2 s.heap l1 l2 }) := by
  cases k1 with
  | true =>
    cases k2 with
    | true => exact RZ.meets_zipT_new l1 l2 xs ys
    | false => exact meets_zipTL l1 l2 xs ys
  | false =>
    cases k2 with
    | true => exact meets_zipLT l1 l2 xs ys
    | false =>
      refine .of_wp fun prog w A R s h => ?_
      obtain ⟨hp, g, d, tk, os⟩ := s; obtain ⟨hl1, hl2, h⟩ := h
      have hsub := sub_zip
      have hL1 : Heap.IsList (Shared.heap ⟨hp, g, d, tk, os⟩) l1 xs := hl1
      have hL2 : Heap.IsList (Shared.heap ⟨hp.push { cls := .type "list_iterator", data := .fields #[.ref l1, .int 0 0] }, g, d, tk, os⟩) l2 ys := Heap.IsList.push hl2 _
      wp_walk using wpAny_pyIter_list hL1, wpAny_pyIter_list hL2
      exact ⟨_, rfl, h⟩
section
variable {prog : Program} {w : World} {A : Around} {E : Value → Shared → Prop} {s : Shared}
theorem call_zipK (k1 k2 : Bool) {l1 l2 : Addr} {xs ys : Array Value} {Q : Value → Shared → Prop} (hl1 : hSeq k1 s.heap l1 xs) (hl2 : hSeq k2 s.heap l2 ys)
    (h : ∀ h', IsZip h' (s.heap.objs.size + 4) (s.heap.objs.size + 2) (s.heap.objs.size + 3) .none → IsPair h' (s.heap.objs.size + 2) (.ref s.heap.objs.size) (.ref (s.heap.objs.size + 1)) →
      IsPair h' (s.heap.objs.size + 3) .none .none → hIter k1 h' s.heap.objs.size l1 0 → hIter k2 h' (s.heap.objs.size + 1) l2 0 →
      (∀ c o, s.heap.get? c = some o → h'.get? c = some o) → Q (.ref (s.heap.objs.size + 4)) { s with heap := h' }) :
    wpAny (model prog w) A (call (.type "zip") [.ref l1, .ref l2]) Q E s := by
  refine callType_new F.called_zip (by decide) (F.typeCall_zip_2 _ _) (F.newCall_zip_2 _ _) (fun obj => F.args_object_init_3 obj _ _) F.entry_zip_new
    (meets_zipK k1 k2 l1 l2 xs ys) ⟨hl1, hl2, ?_⟩
  have z1 : (zK1 k1 s.heap l1).objs.size = s.heap.objs.size + 1 := Heap.size_push ..
  have z2 : (zK2 k1 k2 s.heap l1 l2).objs.size = s.heap.objs.size + 2 := by rw [Heap.size_push, z1]
  have z3 : (zK3 k1 k2 s.heap l1 l2).objs.size = s.heap.objs.size + 3 := by rw [Heap.size_push, z2]
  have z4 : (zK4 k1 k2 s.heap l1 l2).objs.size = s.heap.objs.size + 4 := by rw [Heap.size_push, z3]
  have g5 : (zK5 k1 k2 s.heap l1 l2).get? (zK4 k1 k2 s.heap l1 l2).objs.size = some _ := Heap.get?_push_size _ rfl
  have g4 : (zK5 k1 k2 s.heap l1 l2).get? (zK3 k1 k2 s.heap l1 l2).objs.size = some _ := Heap.get?_push_of_some _ (Heap.get?_push_size _ rfl)
  have g3 : (zK5 k1 k2 s.heap l1 l2).get? (zK2 k1 k2 s.heap l1 l2).objs.size = some _ := Heap.get?_push_of_some _ (Heap.get?_push_of_some _ (Heap.get?_push_size _ rfl))
  have g2 : (zK5 k1 k2 s.heap l1 l2).get? (zK1 k1 s.heap l1).objs.size = some (itO k2 l2) := Heap.get?_push_of_some _ (Heap.get?_push_of_some _ (Heap.get?_push_of_some _ (Heap.get?_push_size _ rfl)))
  have g1 : (zK5 k1 k2 s.heap l1 l2).get? s.heap.objs.size = some (itO k1 l1) := Heap.get?_push_of_some _ (Heap.get?_push_of_some _ (Heap.get?_push_of_some _ (Heap.get?_push_of_some _ (Heap.get?_push_size _ rfl))))
  show _ ∧ _
  rw [z2, z3, z4] at g5
  rw [z1, z2] at g3
  rw [z3] at g4
  rw [z1] at g2
  rw [z4]
  refine ⟨⟨_, g5, rfl⟩, h _ g5 g3 g4 ?_ ?_ fun c o x =>
    Heap.get?_push_of_some _ (Heap.get?_push_of_some _ (Heap.get?_push_of_some _ (Heap.get?_push_of_some _ (Heap.get?_push_of_some _ x))))⟩
  · cases k1 with
    | true => exact ⟨_, g1, rfl, rfl⟩
    | false => exact ⟨_, g1, rfl, rfl⟩
  · cases k2 with
    | true => exact ⟨_, g2, rfl, rfl⟩
    | false => exact ⟨_, g2, rfl, rfl⟩
end
theorem hSeq.lt {k : Bool} {h : Heap} {l : Addr} {its : Array Value} (x : hSeq k h l its) : l < h.objs.size := by
  obtain ⟨o, e⟩ := x.has
  exact Heap.lt_size e
def iZipK (K : PySem.W.Frag) (ta : TA) : TI := fun σ H R => ta σ H fun vs H1 => ∃ k1 k2 a b xs ys, vs = [.ref a, .ref b] ∧ SqK k1 K H1 a xs ∧ SqK k2 K H1 b ys ∧ R (ItzK k1 k2 K a b) H1
theorem pi_zipK {X : Cx} {e e2 : Expr} {ta : TA} {p pos tpos : Pos} {elts : List Expr} {kk : Nat} (hg : Gl X "zip") (hm : X.mg "zip" = none) (ha : PA X [e, e2] ta)
    (hs : starEach [e, e2] X.env = (false, eval e X.env) :: starEach [e2] X.env := by rfl) (hpl : (backTo pos (starEach [e2] X.env)).any (·.1) = false := by rfl) :
    PI X (.Tuple elts kk tpos) (.Call (.Name "zip" p) [e, e2] [] pos) (iZipK X.K ta) := by
  refine ⟨fun pins s σ H R I h => ?_⟩
  refine Call_ (ld_blt I hg hm PyProof.Rows.boot_zip (PyProof.Rows.callWith_type1 (thn (ha.run pos pins s σ H _ I h) fun us s1 ⟨vs, H1, I1, r1, q1⟩ => ?_) hs hpl))
  obtain ⟨k1, k2, a, b, xs, ys, ex, hqx, hqy, q⟩ := q1
  subst ex
  cases r1 with
  | cons r rr =>
    cases rr with
    | cons r' rr =>
      cases rr
      cases r
      cases r'
      have fresh5 : ∀ c, c ∈ [s1.heap.objs.size + 4, s1.heap.objs.size + 2, s1.heap.objs.size + 3, s1.heap.objs.size, s1.heap.objs.size + 1] → FpOk X pins H1 c := fun c hcm => by
        have e' : c = s1.heap.objs.size + 4 ∨ c = s1.heap.objs.size + 2 ∨ c = s1.heap.objs.size + 3 ∨ c = s1.heap.objs.size ∨ c = s1.heap.objs.size + 1 := by simpa using hcm
        have hle : s1.heap.objs.size ≤ c := by omega
        exact I1.fpOk hle (I1.hok.fresh hle)
      obtain ⟨its, rv, p1⟩ := hqx.at_ I1
      obtain ⟨its2, rv2, p2⟩ := hqy.at_ I1
      refine call_zipK k1 k2 p1 p2 fun h' hz hTI hTO h1 h2 hk => wpAny_pyIter_zip hz ?_
      have I2 : Inv X pins σ H1 { s1 with heap := h' } := I1.kept (t' := s1.toks) hk
      exact ⟨s1.heap.objs.size + 4, [s1.heap.objs.size + 4, s1.heap.objs.size + 2, s1.heap.objs.size + 3, s1.heap.objs.size, s1.heap.objs.size + 1], _, _, H1, rfl, I2, turn_zipK k1 k2 (PySem.W.ktu_apart s1.heap.objs.size a b p1.lt p2.lt), ⟨hz, hTI, ⟨_, _, hTO⟩, h1, h2⟩, fresh5, q⟩
theorem pairs_len (l m : List D) : (pairs l m).length = min l.length m.length := by unfold pairs; rw [List.length_zipWith]
theorem pairs_get {l m : List D} {i : Nat} {x y : D} (h1 : l[i]? = some x) (h2 : m[i]? = some y) : (pairs l m)[i]? = some (.tup [x, y]) := by
  unfold pairs
  rw [List.getElem?_zipWith, h1, h2]
theorem walks_zipK {k1 k2 : Bool} {K : PySem.W.Frag} {a b : Addr} {l m : List D} {ok ok2 : Mem → Prop} {H1 : Hp} {F1 : Addr → Prop} {μ1 : Mem}
    (hL : ∀ H F μ, Grow H1 F1 μ1 H F μ → MS K H F μ → ok μ → ∃ vs, SqK k1 K H a vs ∧ RDs K H F vs l) (hM : ∀ H F μ, Grow H1 F1 μ1 H F μ → MS K H F μ → ok2 μ → ∃ vs, SqK k2 K H b vs ∧ RDs K H F vs m) : Walks K (ItzK k1 k2 K a b) (pairs l m) (fun μ => ok μ ∧ ok2 μ) H1 F1 μ1 where
  go := fun i H F μ hi g ms o => by
    obtain ⟨vs, h, r⟩ := hL H F μ g ms o.1
    obtain ⟨ws, h2, r2⟩ := hM H F μ g ms o.2
    rw [pairs_len] at hi
    have hv : i < vs.length := by rw [r.length]; omega
    have hw : i < ws.length := by rw [r2.length]; omega
    exact ⟨vs, ws, vs[i], ws[i], h, h2, List.getElem?_eq_getElem hv, List.getElem?_eq_getElem hw⟩
  stop := fun H F μ g ms o => by
    obtain ⟨vs, h, r⟩ := hL H F μ g ms o.1
    obtain ⟨ws, h2, r2⟩ := hM H F μ g ms o.2
    exact ⟨vs, ws, h, h2, by rw [pairs_len, r.length, r2.length]⟩
  yld := fun i H F μ x H' hi g ms o y => by
    obtain ⟨vs, h, r⟩ := hL H F μ g ms o.1
    obtain ⟨ws, h2, r2⟩ := hM H F μ g ms o.2
    obtain ⟨T, v, w, rfl, hT, rfl, hv, hw⟩ := y
    obtain ⟨d, d1, d2⟩ := r.get' (hv vs h)
    obtain ⟨e, e1, e2⟩ := r2.get' (hw ws h2)
    obtain ⟨g2, m2, r3⟩ := new_tup ms hT (.cons d2 (.cons e2 .nil))
    exact ⟨_, pairs_get d1 e1, g2, m2, r3⟩
section
variable {G : Gc} {X : Cx} {EX : EK} {N : List Str} {sc : Scope} {ρ : Rho} {μ : Mem}
/-- a sequence that stands still, at the heap's level -/
theorem still_rd {H1 : Hp} {F1 : Addr → Prop} {μ1 : Mem} {v : V} {x : D} {g : List D → (Mem → Prop) → Prop} (m1 : MS X.K H1 F1 μ1) (r : RD X.K H1 F1 v x) (h : stillIt x μ1 g) :
    ∃ k a l ok, v = .ref a ∧ (∃ vs, SqK k X.K H1 a vs) ∧ g l ok ∧ ∀ H F μ, Grow H1 F1 μ1 H F μ → MS X.K H F μ → ok μ → ∃ vs, SqK k X.K H a vs ∧ RDs X.K H F vs l := by
  unfold stillIt at h
  cases r with
  | tup t rs => exact ⟨true, _, _, _, rfl, ⟨_, t⟩, h, fun H F μ g m o => ⟨_, (g.stay m1).tup _ _ t, rs.stay (g.stay m1)⟩⟩
  | lst f hd rs => exact ⟨false, _, _, _, rfl, ⟨_, .inl (.inl hd)⟩, h, fun H F μ g m o => ⟨_, sql_keep m1 g f hd, rs.stay (g.stay m1)⟩⟩
  | lk hk rs =>
    have hq : ∀ H F μ, Grow H1 F1 μ1 H F μ → SqL X.K H _ _ := fun H F μ g => hk.elim (fun ⟨o, z⟩ => .inl (.inr ⟨o, (g.stay m1).lk _ _ _ z⟩)) .inr
    exact ⟨false, _, _, _, rfl, ⟨_, hq _ _ _ .refl⟩, h, fun H F μ g m o => ⟨_, hq H F μ g, rs.stay (g.stay m1)⟩⟩
  | ref a =>
    obtain ⟨l, e2, q⟩ := optD_ok (show optD (seqL μ1 (.ref a)) _ from h)
    obtain ⟨_, u, hu, vs, eu, rs⟩ := m1.at_ a _ (seqL_ref e2)
    subst eu
    refine ⟨false, _, _, _, rfl, ⟨_, .inl (.inl hu)⟩, q, fun H F μ g m o => ?_⟩
    obtain ⟨_, u, hu, vs, eu, rs⟩ := m.at_ a _ (seqL_ref o)
    subst eu
    exact ⟨vs, .inl (.inl hu), rs⟩
  | _ => exact False.elim h
theorem DI.zip (sx : SX G X N sc) {elts : List Expr} {kk : Nat} {tpos : Pos} {a b : Expr} {p pos : Pos} {R : IK} (hg : gloB sc "zip" = true) (hs : noStar a = true) (hs2 : noStar b = true) (h : DE X EX a ρ μ fun x μ1 => DE X EX b ρ μ1 fun y μ2 => zipIt x y μ2 R) :
    DI X EX (.Tuple elts kk tpos) (.Call (.Name "zip" p) [a, b] [] pos) ρ μ R := fun σ H F en m => by
  refine wi_of (pi_zipK (sx.glo hg) (sx.blt _ (by decide +kernel)) (pa_cons pe_we (pa_cons pe_we pa_nil (star_cons hs2)) (star_cons hs)) (star_cons hs) (by rw [star_cons hs2]; rfl)) ?_
  refine (h σ H F en m).mono fun v H1 ⟨x, F1, μ1, g1, m1, r1, q1⟩ => ?_
  refine (q1 σ H1 F1 (en.on g1 m) m1).mono fun u H2 ⟨y, F2, μ2, g2, m2, r2, q2⟩ => ?_
  obtain ⟨k1, a, l, ok, e1, ⟨vs, s1⟩, q3, w1⟩ := still_rd m2 (r1.stay (g2.stay m1)) q2
  obtain ⟨k2, b, l2, ok2, e2, ⟨ws, s2⟩, q4, w2⟩ := still_rd m2 r2 q3
  subst e1 e2
  exact ⟨k1, k2, a, b, vs, ws, rfl, s1, s2, _, _, F2, μ2, g1.trans g2, m2, walks_zipK w1 w2, q4⟩
end
end DL
/-! Exceptions: raise, try, except suites. -/
namespace DL
open PySem PySem.Spec PyProof.Rows L2
theorem b2' {a b : Bool} (h : (a && b) = true) : a = true ∧ b = true := Bool.and_eq_true_iff.mp h
def isBO' : Expr → Bool
  | .BoolOp _ _ _ => true
  | _ => false
/-! ### within a suite -/
def eName (N : List Str) (io : Option Nat) (sc : Scope) (n : Str) : Bool := (match io with
  | some i => decide (N[i]? = some n)
  | none => false) && (visB sc n && nmB n)
mutual
def chkHX (N : List Str) (io : Option Nat) (sc : Scope) : HX → Expr → Bool
  | .non, x => (match x with
    | .Constant .none _ _ => true
    | _ => false)
  | .bl b, x => (match x with
    | .Constant (.bool c) _ _ => decide (c = b)
    | _ => false)
  | .str s, x => (match x with
    | .Constant (.str t) _ _ => decide (t = s)
    | _ => false)
  | .at f, x => (match x with
    | .Attribute (.Name n _) g _ => decide (g = f) && (eName N io sc n)
    | _ => false)
  | .tup es, x => (match x with
    | .Tuple xs _ _ => decide (xs.length ≤ 100) && chkHXs N io sc es xs
    | _ => false)
  | .ite t a b, x => (match x with
    | .IfExp c l r _ => chkHT N io sc t c && (chkHX N io sc a l && chkHX N io sc b r)
    | _ => false)
def chkHXs (N : List Str) (io : Option Nat) (sc : Scope) : HXs → List Expr → Bool
  | .nil, xs => (match xs with
    | [] => true
    | _ => false)
  | .cons e es, xs => (match xs with
    | x :: r => noStar x && (chkHX N io sc e x && chkHXs N io sc es r)
    | [] => false)
def chkHT (N : List Str) (io : Option Nat) (sc : Scope) : HT → Expr → Bool
  | .isi c, x => (match x with
    | .Call (.Name g _) [.Name n _, .Name ty _] [] _ => decide (g = "isinstance") && (decide (ty = c) && (gloB sc "isinstance" && (gloB sc c && (nmB c && eName N io sc n))))
    | _ => false)
  | .not a, x => (match x with
    | .UnaryOp .Not l _ => chkHT N io sc a l
    | _ => false)
  | .and a b, x => (match x with
    | .BoolOp .And (l :: r :: rest) p => chkHT N io sc a l && (match rest with
      | [] => chkHT N io sc b r
      | t :: ts => chkHT N io sc b (.BoolOp .And (r :: t :: ts) p))
    | _ => false)
  | .or a b, x => (match x with
    | .BoolOp .Or (l :: r :: rest) p => chkHT N io sc a l && (match rest with
      | [] => chkHT N io sc b r
      | t :: ts => chkHT N io sc b (.BoolOp .Or (r :: t :: ts) p))
    | _ => false)
end
mutual
def chkH (N : List Str) (io : Option Nat) (sc : Scope) : HS → Stmt → Bool
  | .ret e, s => (match s with
    | .Return (some x) _ => chkHX N io sc e x
    | _ => false)
  | .retN, s => (match s with
    | .Return none _ => true
    | _ => false)
  | .set j e, s => (match s with
    | .Assign [.Name y _] x _ => decide (N[j]? = some y) && (locB sc y && (decide (io ≠ some j) && (!isLC x && chkHX N io sc e x)))
    | _ => false)
  | .ite t a b, s => (match s with
    | .If c l r _ => chkHT N io sc t c && (chkHs N io sc a l && chkHs N io sc b r)
    | _ => false)
def chkHs (N : List Str) (io : Option Nat) (sc : Scope) : HSs → List Stmt → Bool
  | .nil, ss => (match ss with
    | [] => true
    | _ => false)
  | .cons s ss, xs => (match xs with
    | x :: r => chkH N io sc s x && chkHs N io sc ss r
    | [] => false)
end
theorem att_get {K : PySem.W.Frag} {H : Hp} {F : Addr → Prop} : ∀ {fs : List (Str × V)} {ds : List (Str × D)} {f : Str} {d : D}, fs.map (·.1) = ds.map (·.1) → RDs K H F (fs.map (·.2)) (ds.map (·.2)) → ds.lookup f = some d → ∃ v, fs.lookup f = some v ∧ RD K H F v d
  | [], [], _, _, _, _, h => nomatch h
  | (g, v) :: fs, (g', d') :: ds, f, d, e, r, h => by
    simp only [List.map_cons, List.cons.injEq] at e
    obtain ⟨e1, e2⟩ := e
    subst e1
    rw [List.map_cons, List.map_cons] at r
    cases r with
    | cons r1 r2 =>
      rw [List.lookup_cons] at h ⊢
      split at h
      · rename_i hf
        cases h
        exact ⟨v, rfl, r1⟩
      · rename_i hf
        exact att_get e2 r2 h
  | [], _ :: _, _, _, e, _, _ => nomatch e
  | _ :: _, [], _, _, e, _, _ => nomatch e
section
variable {G : Gc} {X : Cx} {N : List Str} {sc : Scope} {a : Addr} {oe : Obj} {cls : Value} {d : Option Addr} {pn : List (Addr × Obj)} {c : Str} {io : Option Nat} {fs : List (Str × D)}
/-- isinstance of what the suite holds -/
def rIsX (K : PySem.W.Frag) (D a : Addr) (d : Option Addr) : List V → Hp → VK → Prop := fun xs H Q => ∃ (c : V) (cv : Value) (b : Bool), xs = [.ref a, c] ∧ (∀ u, RelV c u → u = cv) ∧ PySem.W.kitOne K (.ref D) cv = some b ∧ (d = none ∨ ∃ p fs, d = some p ∧ H p = some (.xd fs)) ∧ Q (.bl b) H
theorem call_isX {D : Addr} (C : ExcC X.K D) (hz : Zc (.ref D) d oe) (hf : ∃ vs, oe.data = .fields vs) : CallR (X.suite a ((a, oe) :: pn)) (.builtin "isinstance") (rIsX X.K D a d) := by
  intro pins s σ H xs us Q I r h
  obtain ⟨c, cv, b, rfl, hcv, e, hd, q⟩ := h
  cases r with
  | cons rx rr =>
    cases rr with
    | cons rt rr =>
      cases rr
      cases rx
      have ec := hcv _ rt
      subst ec
      obtain ⟨hget, _⟩ := I.pin (a, oe) (List.mem_append.mpr (.inl List.mem_cons_self))
      obtain ⟨vs, hv⟩ := hf
      have J : ∃ od, PySem.W.InstAt s.heap a oe D od := by
        obtain ⟨oc, od, oda, osl⟩ := oe
        obtain ⟨h1, h2⟩ := hz
        dsimp only at h1 h2 hv
        subst h1 h2 hv
        rcases hd with rfl | ⟨p, fs, rfl, hp⟩
        · exact ⟨none, hget, rfl, rfl, trivial⟩
        · obtain ⟨mA, hns, _⟩ := (show ObjOk X.prog X.w H s.heap p (.xd fs) from I.hok p _ hp)
          obtain ⟨od, ho, _⟩ := lookIn_ns hns
          exact ⟨some od, hget, rfl, rfl, ho⟩
      obtain ⟨od, J⟩ := J
      exact PySem.W.kia_one (kitx_excX C) I.kIn J e (fun z => nomatch z) fun tk => ⟨.bl b, H, I.kept (t' := tk) fun _ _ z => z, rfl, q⟩
/-- what holds in a suite -/
structure Su (K : PySem.W.Frag) (io : Option Nat) (a : Addr) (d : Option Addr) (fs : List (Str × D)) (σ : St) (H : Hp) (F : Addr → Prop) (ρ : Rho) (μ : Mem) : Prop where
  en : REnv K H F σ ρ
  ms : MS K H F μ
  sl : ∀ i, io = some i → σ[i]? = some (some (.ref a)) ∧ ∀ x, ρ[i]? ≠ some (some x)
  at_ : Att K H F d fs
theorem Att.on {K H F H' F' μ μ'} (h : Att K H F d fs) (g : Grow H F μ H' F' μ') (m : MS K H F μ) : Att K H' F' d fs := by
  rcases h with h | ⟨p, gs, h1, h2, h3, h4⟩
  · exact .inl h
  · refine .inr ⟨p, gs, h1, g.keep p _ h2 ?_, h3, h4.stay (g.stay m)⟩
    cases e : μ p with
    | none => rfl
    | some o =>
      obtain ⟨_, u, hu, r⟩ := m.at_ p o e
      rw [h2] at hu
      cases hu
      cases o with
      | lst l => obtain ⟨_, q, _⟩ := r; cases q
      | pot l => obtain ⟨_, _, _, q, _⟩ := r; cases q
theorem Su.on {K H F H' F' μ σ ρ} (s : Su K io a d fs σ H F ρ μ) (g : Grow H F μ H' F' μ) (m : MS K H' F' μ) : Su K io a d fs σ H' F' ρ μ := ⟨s.en.stay (g.stay s.ms), m, s.sl, s.at_.on g s.ms⟩
def PH (K : PySem.W.Frag) (H : Hp) (F : Addr → Prop) (μ : Mem) (x : D) : VK := fun v H' => ∃ F', Grow H F μ H' F' μ ∧ MS K H' F' μ ∧ RD K H' F' v x
def PHs (K : PySem.W.Frag) (H : Hp) (F : Addr → Prop) (μ : Mem) (xs : List D) : List V → Hp → Prop := fun vs H' => ∃ F', Grow H F μ H' F' μ ∧ MS K H' F' μ ∧ RDs K H' F' vs xs
theorem hXs_len : ∀ {es : HXs} {xs : List Expr} {cau : Cau} {ds : List D}, chkHXs N io sc es xs = true → hXs cau es = some ds → ds.length = xs.length
  | .nil, [], _, ds, _, h => by
    have h : some [] = some ds := h
    cases h
    rfl
  | .nil, _ :: _, _, _, h, _ => nomatch h
  | .cons _ _, [], _, _, h, _ => nomatch h
  | .cons e es, x :: xs, cau, ds, h, q => by
    obtain ⟨_, h⟩ := b2' h
    obtain ⟨_, h⟩ := b2' h
    unfold hXs at q
    split at q
    · cases e2 : hXs cau es with
      | none => rw [e2] at q; cases q
      | some l =>
        rw [e2] at q
        cases q
        rw [List.length_cons, List.length_cons, hXs_len h e2]
    · cases q

variable (sx : SX G X N sc) (hm : X.mg c = some cls) (hz : Zc cls d oe) (hf : ∃ vs, oe.data = .fields vs)
include sx hm hz hf
theorem eName_pe {n : Str} {p : Pos} (h : eName N io sc n = true) : ∃ i, io = some i ∧ PE (X.suite a ((a, oe) :: pn)) (.Name n p) (tVar i) := by
  obtain ⟨h1, h2⟩ := b2' h
  obtain ⟨h2, h3⟩ := b2' h2
  cases io with
  | none => cases h1
  | some i =>
    obtain ⟨n1, n2, _⟩ := nm3 h3
    exact ⟨i, rfl, pe_var (by show X.N[i]? = some n; rw [sx.hN]; exact of_decide_eq_true h1) (sx.vis h2) n1 n2⟩
theorem isi_we {g n ty : Str} {p p2 p3 pos : Pos} {b : Bool} {σ H F ρ μ} (h1 : gloB sc "isinstance" = true) (h2 : gloB sc ty = true) (h3 : nmB ty = true) (h4 : eName N io sc n = true) (hb : G.ex.sub c ty = some b) (su : Su X.K io a d fs σ H F ρ μ) :
    WE (X.suite a ((a, oe) :: pn)) (.Call (.Name "isinstance" p) [.Name n p2, .Name ty p3] [] pos) σ H (PH X.K H F μ (.bl b)) := by
  obtain ⟨C, cv, v, e1, e2, e3, e4, r1, r2, ec⟩ := sx.ex.sub c ty b hb
  rw [hm] at e1
  cases e1
  obtain ⟨i, ei, pn1⟩ := eName_pe (oe := oe) (a := a) (pn := pn) (p := p2) sx hm hz hf h4
  obtain ⟨n1, n2, n3⟩ := nm3 h3
  have pc : PE (X.suite a ((a, oe) :: pn)) (.Name ty p3) (tC v) := by
    rcases e2 with e2 | ⟨e2, e5, e6⟩
    · exact pe_glob (sx.glo h2) e2 r1 n1
    · exact pe_bltn (sx.glo h2) e2 e5 r1 e6 n1
  refine we_of (pe_callB (call_isX ec hz hf) (sx.glo h1) (sx.blt _ (by decide +kernel)) boot_isinstance (pa_cons pn1 (pa_cons pc pa_nil))) ?_
  refine ⟨.ref a, (su.sl i ei).1, v, cv, b, rfl, r2, e4, ?_, F, .refl, su.ms, .bl _⟩
  rcases su.at_ with ⟨h, _⟩ | ⟨p, gs, h1, h2, _⟩
  · exact .inl h
  · exact .inr ⟨p, gs, h1, h2⟩
mutual
theorem sndHX : ∀ (e : HX) (x : Expr), chkHX N io sc e x = true → ∀ dd, hX ⟨G.ex.sub c, G.ex.fld c, fs⟩ e = some dd → ∀ σ H F ρ μ, Su X.K io a d fs σ H F ρ μ → WE (X.suite a ((a, oe) :: pn)) x σ H (PH X.K H F μ dd)
  | .non, x, h, dd, q, σ, H, F, ρ, μ, su => by
    cases q
    cases x with
    | Constant k j p =>
      cases k with
      | none => exact we_of pe_non ⟨F, .refl, su.ms, .non⟩
      | _ => cases h
    | _ => cases h
  | .bl b, x, h, dd, q, σ, H, F, ρ, μ, su => by
    cases q
    cases x with
    | Constant k j p =>
      cases k with
      | bool k =>
        obtain rfl := of_decide_eq_true h
        exact we_of pe_bl ⟨F, .refl, su.ms, .bl _⟩
      | _ => cases h
    | _ => cases h
  | .str b, x, h, dd, q, σ, H, F, ρ, μ, su => by
    cases q
    cases x with
    | Constant k j p =>
      cases k with
      | str k =>
        obtain rfl := of_decide_eq_true h
        exact we_of pe_str ⟨F, .refl, su.ms, .str _⟩
      | _ => cases h
    | _ => cases h
  | .at f, x, h, dd, q, σ, H, F, ρ, μ, su => by
    have q : (if G.ex.fld c f = true then fs.lookup f else none) = some dd := q
    by_cases hff : G.ex.fld c f = true
    · rw [if_pos hff] at q
      cases x with
      | Attribute y g p =>
        cases y with
        | Name n p2 =>
          obtain ⟨h1, h2⟩ := b2' h
          obtain rfl := of_decide_eq_true h1
          obtain ⟨i, ei, pn1⟩ := eName_pe (oe := oe) (a := a) (pn := pn) (p := p2) sx hm hz hf h2
          obtain ⟨C, e1, T, hno⟩ := sx.ex.fld c g hff
          rw [hm] at e1
          cases e1
          refine we_of (pe_xf T hno hz hf pn1) ?_
          refine ⟨.ref a, (su.sl i ei).1, rfl, rfl, ?_⟩
          rcases su.at_ with ⟨_, h⟩ | ⟨p, gs, h1, h2, h3, h4⟩
          · rw [h] at q; cases q
          · obtain ⟨v, hv, rv⟩ := att_get h3 h4 q
            exact ⟨p, gs, v, h1, h2, hv, F, .refl, su.ms, rv⟩
        | _ => cases h
      | _ => cases h
    · rw [if_neg hff] at q; cases q
  | .tup es, x, h, dd, q, σ, H, F, ρ, μ, su => by
    cases x with
    | Tuple xs k p =>
      obtain ⟨h1, h2⟩ := b2' h
      have q : (hXs ⟨G.ex.sub c, G.ex.fld c, fs⟩ es).map D.tup = some dd := q
      cases e : hXs ⟨G.ex.sub c, G.ex.fld c, fs⟩ es with
      | none => rw [e] at q; cases q
      | some ds =>
        rw [e] at q
        cases q
        refine we_of (pe_tup pa_wa) ?_
        refine (sndHXs es xs h2 ds e σ H F ρ μ su).mono fun vs H1 ⟨F1, g1, m1, r1⟩ => ⟨?_, fun p hp => ?_⟩
        · rw [r1.length, hXs_len h2 e, line_eq]
          have := of_decide_eq_true h1
          omega
        · obtain ⟨g2, m2, r2⟩ := new_tup m1 hp r1
          exact ⟨F1, g1.trans g2, m2, r2⟩
    | _ => cases h
  | .ite t u v, x, h, dd, q, σ, H, F, ρ, μ, su => by
    cases x with
    | IfExp k l r p =>
      obtain ⟨h1, h2⟩ := b2' h
      obtain ⟨h2, h3⟩ := b2' h2
      refine we_of (pe_ifExp pt_wt pe_we pe_we) ?_
      unfold hX at q
      split at q
      · rename_i e
        refine (sndHT t k h1 _ e σ H F ρ μ su).mono fun w H1 ⟨ew, F1, g1, m1⟩ => ?_
        subst ew
        rw [if_pos rfl]
        exact (sndHX u l h2 _ q σ H1 F1 ρ μ (su.on g1 m1)).mono fun v H2 ⟨F2, g2, m2, r2⟩ => ⟨F2, g1.trans g2, m2, r2⟩
      · rename_i e
        refine (sndHT t k h1 _ e σ H F ρ μ su).mono fun w H1 ⟨ew, F1, g1, m1⟩ => ?_
        subst ew
        rw [if_neg Bool.false_ne_true]
        exact (sndHX v r h3 _ q σ H1 F1 ρ μ (su.on g1 m1)).mono fun v H2 ⟨F2, g2, m2, r2⟩ => ⟨F2, g1.trans g2, m2, r2⟩
      · cases q
    | _ => cases h
theorem sndHXs : ∀ (es : HXs) (xs : List Expr), chkHXs N io sc es xs = true → ∀ ds, hXs ⟨G.ex.sub c, G.ex.fld c, fs⟩ es = some ds → ∀ σ H F ρ μ, Su X.K io a d fs σ H F ρ μ → WA (X.suite a ((a, oe) :: pn)) xs σ H (PHs X.K H F μ ds)
  | .nil, xs, h, ds, q, σ, H, F, ρ, μ, su => by
    cases xs with
    | nil =>
      have q : some [] = some ds := q
      cases q
      exact wa_of pa_nil ⟨F, .refl, su.ms, .nil⟩
    | cons _ _ => cases h
  | .cons e es, xs, h, ds, q, σ, H, F, ρ, μ, su => by
    cases xs with
    | nil => cases h
    | cons x xs =>
      obtain ⟨h1, h2⟩ := b2' h
      obtain ⟨h2, h3⟩ := b2' h2
      unfold hXs at q
      split at q
      · rename_i d1 e1
        cases e2 : hXs ⟨G.ex.sub c, G.ex.fld c, fs⟩ es with
        | none => rw [e2] at q; cases q
        | some l =>
          rw [e2] at q
          cases q
          refine wa_of (pa_cons pe_we pa_wa (star_cons h1)) ?_
          refine (sndHX e x h2 _ e1 σ H F ρ μ su).mono fun v H1 ⟨F1, g1, m1, r1⟩ => ?_
          refine (sndHXs es xs h3 _ e2 σ H1 F1 ρ μ (su.on g1 m1)).mono fun vs H2 ⟨F2, g2, m2, r2⟩ => ?_
          exact ⟨F2, g1.trans g2, m2, .cons (r1.stay (g2.stay m1)) r2⟩
      · cases q
theorem sndHT : ∀ (t : HT) (x : Expr), chkHT N io sc t x = true → ∀ b, hT ⟨G.ex.sub c, G.ex.fld c, fs⟩ t = some b → ∀ σ H F ρ μ, Su X.K io a d fs σ H F ρ μ → WT (X.suite a ((a, oe) :: pn)) x σ H (fun b' H' => b' = b ∧ ∃ F', Grow H F μ H' F' μ ∧ MS X.K H' F' μ)
  | .isi ty, x, h, b, q, σ, H, F, ρ, μ, su => by
    cases x with
    | Call fn xs ks p =>
      match fn, xs, ks, h with
      | .Name g p2, [.Name n p3, .Name t2 p4], [], h =>
        obtain ⟨h1, k1⟩ := b2' h
        obtain ⟨h2, k2⟩ := b2' k1
        obtain ⟨h3, k3⟩ := b2' k2
        obtain ⟨h4, k4⟩ := b2' k3
        obtain ⟨h5, h6⟩ := b2' k4
        obtain rfl := of_decide_eq_true h1
        obtain rfl := of_decide_eq_true h2
        refine wt_of (pt_truth pe_we (plainT_ok rfl)) ?_
        refine (isi_we (fs := fs) (g := "isinstance") sx hm hz hf h3 h4 h5 h6 q su).mono fun v H1 ⟨F1, g1, m1, r1⟩ => ?_
        cases r1
        exact ⟨b, rfl, rfl, F1, g1, m1⟩
    | _ => cases h
  | .not t, x, h, b, q, σ, H, F, ρ, μ, su => by
    cases x with
    | UnaryOp op l p =>
      cases op with
      | Not =>
        have q : (hT ⟨G.ex.sub c, G.ex.fld c, fs⟩ t).map (!·) = some b := q
        cases e : hT ⟨G.ex.sub c, G.ex.fld c, fs⟩ t with
        | none => rw [e] at q; cases q
        | some v =>
          rw [e] at q
          cases q
          exact wt_of (pt_not pt_wt) ((sndHT t l h v e σ H F ρ μ su).mono fun w H1 ⟨e, q⟩ => ⟨by rw [e], q⟩)
      | _ => cases h
    | _ => cases h
  | .and t u, x, h, b, q, σ, H, F, ρ, μ, su => (sndHW (.and t u) x h b q σ H F ρ μ su (by cases x <;> first | rfl | (cases h; done))).wt
  | .or t u, x, h, b, q, σ, H, F, ρ, μ, su => (sndHW (.or t u) x h b q σ H F ρ μ su (by cases x <;> first | rfl | (cases h; done))).wt
theorem sndHW : ∀ (t : HT) (x : Expr), chkHT N io sc t x = true → ∀ b, hT ⟨G.ex.sub c, G.ex.fld c, fs⟩ t = some b → ∀ σ H F ρ μ, Su X.K io a d fs σ H F ρ μ → isBO' x = true → WW (X.suite a ((a, oe) :: pn)) x σ H (fun b' H' => b' = b ∧ ∃ F', Grow H F μ H' F' μ ∧ MS X.K H' F' μ)
  | .isi ty, x, h, b, q, σ, H, F, ρ, μ, su, hb => by
    cases x <;> first | (cases hb; done) | (cases h; done)
  | .not t, x, h, b, q, σ, H, F, ρ, μ, su, hb => by
    cases x <;> first | (cases hb; done) | (cases h; done)
  | .and t u, x, h, b, q, σ, H, F, ρ, μ, su, hb => by
    cases x with
    | BoolOp op xs p =>
      have tst : ∀ l, chkHT N io sc t l = true → ∀ (r : Expr) (rest : List Expr), (∀ b σ H F, hT ⟨G.ex.sub c, G.ex.fld c, fs⟩ u = some b → Su X.K io a d fs σ H F ρ μ → WW (X.suite a ((a, oe) :: pn)) (.BoolOp .And (r :: rest) p) σ H (fun b' H' => b' = b ∧ ∃ F', Grow H F μ H' F' μ ∧ MS X.K H' F' μ)) →
          WW (X.suite a ((a, oe) :: pn)) (.BoolOp .And (l :: r :: rest) p) σ H (fun b' H' => b' = b ∧ ∃ F', Grow H F μ H' F' μ ∧ MS X.K H' F' μ) := fun l hl r rest k => by
        refine ww_of (pw_and pt_wt pw_ww) ?_
        unfold hT at q
        split at q
        · rename_i e
          refine (sndHT t l hl _ e σ H F ρ μ su).mono fun w H1 ⟨ew, F1, g1, m1⟩ => ?_
          subst ew
          rw [if_pos rfl]
          exact (k b σ H1 F1 q (su.on g1 m1)).mono fun w H2 ⟨e2, F2, g2, m2⟩ => ⟨e2, F2, g1.trans g2, m2⟩
        · rename_i ne
          refine (sndHT t l hl _ q σ H F ρ μ su).mono fun w H1 ⟨ew, F1, g1, m1⟩ => ?_
          cases b with
          | true => exact absurd q ne
          | false =>
            subst ew
            rw [if_neg Bool.false_ne_true]
            exact ⟨rfl, F1, g1, m1⟩
      match op, xs, h with
      | .And, [l, r], h =>
        obtain ⟨h1, h2⟩ := b2' h
        exact tst l h1 r [] fun b σ H F e su => ww_of (pw_and1 pt_wt) (sndHT u r h2 b e σ H F ρ μ su)
      | .And, l :: r :: t :: ts, h =>
        obtain ⟨h1, h2⟩ := b2' h
        exact tst l h1 r (t :: ts) fun b σ H F e su => sndHW u _ h2 b e σ H F ρ μ su rfl
    | _ => cases h
  | .or t u, x, h, b, q, σ, H, F, ρ, μ, su, hb => by
    cases x with
    | BoolOp op xs p =>
      have tst : ∀ l, chkHT N io sc t l = true → ∀ (r : Expr) (rest : List Expr), (∀ b σ H F, hT ⟨G.ex.sub c, G.ex.fld c, fs⟩ u = some b → Su X.K io a d fs σ H F ρ μ → WW (X.suite a ((a, oe) :: pn)) (.BoolOp .Or (r :: rest) p) σ H (fun b' H' => b' = b ∧ ∃ F', Grow H F μ H' F' μ ∧ MS X.K H' F' μ)) →
          WW (X.suite a ((a, oe) :: pn)) (.BoolOp .Or (l :: r :: rest) p) σ H (fun b' H' => b' = b ∧ ∃ F', Grow H F μ H' F' μ ∧ MS X.K H' F' μ) := fun l hl r rest k => by
        refine ww_of (pw_or pt_wt pw_ww) ?_
        unfold hT at q
        split at q
        · rename_i e
          refine (sndHT t l hl _ e σ H F ρ μ su).mono fun w H1 ⟨ew, F1, g1, m1⟩ => ?_
          subst ew
          rw [if_neg Bool.false_ne_true]
          exact (k b σ H1 F1 q (su.on g1 m1)).mono fun w H2 ⟨e2, F2, g2, m2⟩ => ⟨e2, F2, g1.trans g2, m2⟩
        · rename_i ne
          refine (sndHT t l hl _ q σ H F ρ μ su).mono fun w H1 ⟨ew, F1, g1, m1⟩ => ?_
          cases b with
          | false => exact absurd q ne
          | true =>
            subst ew
            rw [if_pos rfl]
            exact ⟨rfl, F1, g1, m1⟩
      match op, xs, h with
      | .Or, [l, r], h =>
        obtain ⟨h1, h2⟩ := b2' h
        exact tst l h1 r [] fun b σ H F e su => ww_of (pw_or1 pt_wt) (sndHT u r h2 b e σ H F ρ μ su)
      | .Or, l :: r :: t :: ts, h =>
        obtain ⟨h1, h2⟩ := b2' h
        exact tst l h1 r (t :: ts) fun b σ H F e su => sndHW u _ h2 b e σ H F ρ μ su rfl
    | _ => cases h
end

/-- the ends of a suite -/
structure EndsH (X : Cx) (io : Option Nat) (a : Addr) (d : Option Addr) (fs : List (Str × D)) (H : Hp) (F : Addr → Prop) (μ : Mem) (K₀ : DEnds) (D : Ends) : Prop where
  nx : ∀ ρ' σ' H' F', Grow H F μ H' F' μ → Su X.K io a d fs σ' H' F' ρ' μ → K₀.nx ρ' μ → D.nx σ' H'
  rt : ∀ v x H' F', Grow H F μ H' F' μ → MS X.K H' F' μ → RD X.K H' F' v x → K₀.rt x μ → D.rt v H'
omit sx hm hz hf in
theorem EndsH.on {H F H1 F1 μ} {K₀ : DEnds} {D : Ends} (e : EndsH X io a d fs H F μ K₀ D) (g : Grow H F μ H1 F1 μ) : EndsH X io a d fs H1 F1 μ K₀ D :=
  ⟨fun ρ' σ' H' F' g2 => e.nx ρ' σ' H' F' (g.trans g2), fun v x H' F' g2 => e.rt v x H' F' (g.trans g2)⟩
variable (hfn : ∀ x, X.fn x = true)
include hfn
mutual
theorem sndHS : ∀ (s : HS) (st : Stmt), chkH N io sc s st = true → ∀ σ H F ρ μ (K₀ : DEnds) (D : Ends), wpH ⟨G.ex.sub c, G.ex.fld c, fs⟩ s ρ μ K₀ → Su X.K io a d fs σ H F ρ μ → EndsH X io a d fs H F μ K₀ D → WS (X.suite a ((a, oe) :: pn)) st D σ H
  | .ret e, st, h, σ, H, F, ρ, μ, K₀, D, w, su, en => by
    cases st with
    | Return x p =>
      cases x with
      | some x =>
        obtain ⟨dd, e1, q⟩ := optD_ok w
        refine ws_of (ps_ret pe_we) ?_
        exact (sndHX sx hm hz hf e x h dd e1 σ H F ρ μ su).mono fun v H1 ⟨F1, g1, m1, r1⟩ => en.rt _ _ _ _ g1 m1 r1 q
      | none => cases h
    | _ => cases h
  | .retN, st, h, σ, H, F, ρ, μ, K₀, D, w, su, en => by
    cases st with
    | Return x p =>
      cases x with
      | none => exact ws_of ps_retN (en.rt _ _ _ _ .refl su.ms .non w)
      | some _ => cases h
    | _ => cases h
  | .set j e, st, h, σ, H, F, ρ, μ, K₀, D, w, su, en => by
    cases st with
    | Assign ts x p =>
      match ts, h with
      | [.Name y p2], h =>
        obtain ⟨h1, k1⟩ := b2' h
        obtain ⟨h2, k2⟩ := b2' k1
        obtain ⟨h3, k3⟩ := b2' k2
        obtain ⟨h4, h5⟩ := b2' k3
        obtain ⟨dd, e1, q⟩ := optD_ok w
        have h4 : isLC x = false := by simpa using h4
        refine ws_of (ps_set (i := j) (by show X.N.Nodup; rw [sx.hN]; exact sx.nd) (by show X.N[j]? = some y; rw [sx.hN]; exact of_decide_eq_true h1) (sx.loc h2) pe_we (swap_no h4) (.inl (hfn y))) ?_
        refine (sndHX sx hm hz hf e x h5 dd e1 σ H F ρ μ su).mono fun v H1 ⟨F1, g1, m1, r1⟩ => ?_
        have su1 := su.on g1 m1
        refine en.nx _ _ _ F1 g1 ⟨su1.en.set j r1, m1, fun i ei => ?_, su1.at_⟩ q
        have hj : j ≠ i := fun z => of_decide_eq_true h3 (by rw [ei, z])
        obtain ⟨s1, s2⟩ := su1.sl i ei
        exact ⟨by rw [List.getElem?_set_ne hj]; exact s1, fun x => by rw [List.getElem?_set_ne hj]; exact s2 x⟩
    | _ => cases h
  | .ite t u v, st, h, σ, H, F, ρ, μ, K₀, D, w, su, en => by
    cases st with
    | If k l r p =>
      obtain ⟨h1, k1⟩ := b2' h
      obtain ⟨h2, h3⟩ := b2' k1
      obtain ⟨b, e1, q⟩ := optD_ok w
      refine ws_of (ps_if pt_wt pss_wss pss_wss) ?_
      refine (sndHT sx hm hz hf t k h1 b e1 σ H F ρ μ su).mono fun w H1 ⟨ew, F1, g1, m1⟩ => ?_
      subst ew
      cases w with
      | true =>
        rw [if_pos rfl] at q ⊢
        exact sndHSs u l h2 σ H1 F1 ρ μ K₀ D q (su.on g1 m1) (en.on g1)
      | false =>
        rw [if_neg Bool.false_ne_true] at q ⊢
        exact sndHSs v r h3 σ H1 F1 ρ μ K₀ D q (su.on g1 m1) (en.on g1)
    | _ => cases h
theorem sndHSs : ∀ (s : HSs) (st : List Stmt), chkHs N io sc s st = true → ∀ σ H F ρ μ (K₀ : DEnds) (D : Ends), wpHs ⟨G.ex.sub c, G.ex.fld c, fs⟩ s ρ μ K₀ → Su X.K io a d fs σ H F ρ μ → EndsH X io a d fs H F μ K₀ D → WSs (X.suite a ((a, oe) :: pn)) st D σ H
  | .nil, st, h, σ, H, F, ρ, μ, K₀, D, w, su, en => by
    cases st with
    | nil => exact wss_of pss_nil (en.nx _ _ _ _ .refl su w)
    | cons _ _ => cases h
  | .cons s ss, st, h, σ, H, F, ρ, μ, K₀, D, w, su, en => by
    cases st with
    | nil => cases h
    | cons st rest =>
      obtain ⟨h1, h2⟩ := b2' h
      refine wss_of (pss_cons ps_ws pss_wss) ?_
      refine sndHS s st h1 σ H F ρ μ { K₀ with nx := fun ρ' μ' => wpHs ⟨G.ex.sub c, G.ex.fld c, fs⟩ ss ρ' μ' K₀ } { D with nx := WSs (X.suite a ((a, oe) :: pn)) rest D } w su ⟨fun ρ' σ' H' F' g su' q => ?_, fun v x H' F' g m r q => en.rt v x H' F' g m r q⟩
      exact sndHSs ss rest h2 σ' H' F' ρ' μ K₀ D q su' (en.on g)
end
end
section
variable {G : Gc} {X : Cx} {EX : EK} {N : List Str} {sc : Scope} {ρ : Rho} {μ : Mem} {K₀ : DEnds}
theorem DS.raise (sx : SX G X N sc) {c s : Str} {j : Nat} {p p2 p3 pos : Pos} (hg : gloB sc c = true) (hn : nmB c = true) (hc : G.ex.exs c = true) (q : EX c [] μ) : DS X EX (.Raise (some (.Call (.Name c p) [.Constant (.str s) j p2] [] p3)) none pos) ρ μ K₀ := fun σ H F e m => by
  obtain ⟨C, hm, q1, q2, q3, q4⟩ := sx.ex.exs c hc
  exact ws_of (ps_raise sx.calm e.tk.takes (pmk_own PySem.F.excBase_ValueError q1 hm q2 (raises_own q3 q4) (sx.glo hg) (nm3 hn).1)) ⟨c, [], F, μ, hm, .refl, m, .inl ⟨rfl, rfl⟩, q⟩
/-- what is wished of what a try's body raises -/
def exTry (G : Gc) (EX : EK) (c : Str) (h : HSs) (n : Nat) (K₀ : DEnds) : EK := fun c' fs μ' => optD (G.ex.sub c' c) fun v => if v = true then wpHs ⟨G.ex.sub c', G.ex.fld c', fs⟩ h (List.replicate n none) μ' K₀ else EX c' fs μ'
theorem SX.tr (sx : SX G X N sc) {pn : List (Addr × Obj)} {xe : Value → Shared → Prop} (h : PassesOwn (model X.prog X.w) X.A X.env xe) : SX G (X.tr pn xe) N sc := ⟨sx.hN, sx.nd, sx.esc, sx.kind, sx.calm, sx.un, sx.gd, sx.rm2, fun _ => h, sx.fr, sx.blt, sx.ex, sx.cst, sx.fn⟩
/-- the length of the slots is known -/
theorem takes_len {X : Cx} {W : WX} (t : L2.Takes X W) : L2.Takes X (fun c d σ H => σ.length = X.N.length → W c d σ H) := fun u s' ⟨a, B, sI, pins, σ, H, cls, d, e, I, nb, up, sky, na, os, ag, w⟩ =>
  t u s' ⟨a, B, sI, pins, σ, H, cls, d, e, I, nb, up, sky, na, os, ag, w I.len⟩
theorem blank_env {K : PySem.W.Frag} {H : Hp} {F : Addr → Prop} {σ : St} {n : Nat} (h : σ.length = n) : REnv K H F σ (List.replicate n none) := ⟨by rw [List.length_replicate]; exact h, fun i d e => by
  rw [List.getElem?_replicate] at e
  split at e <;> cases e⟩
theorem REnv.hide {K H F} {σ : St} {ρ : Rho} (e : REnv K H F σ ρ) {i : Nat} (h : ∀ x, ρ[i]? ≠ some (some x)) : REnv K H F (σ.set i none) ρ := by
  refine ⟨by rw [List.length_set]; exact e.len, fun j d q => ?_⟩
  by_cases hj : i = j
  · subst hj
    exact absurd q (h d)
  · rw [List.getElem?_set_ne hj]
    exact e.at_ j d q
def TB (X : Cx) (body : List Stmt) (W : WX) : TS := fun D σ H => ∀ pn xe, L2.Takes (X.tr pn xe) W → PassesOwn (model X.prog X.w) X.A X.env xe → WSs (X.tr pn xe) body D σ H
theorem pss_tb {X : Cx} {body : List Stmt} (W : WX) (pn : List (Addr × Obj)) (xe : Value → Shared → Prop) (tk : L2.Takes (X.tr pn xe) W) (own : PassesOwn (model X.prog X.w) X.A X.env xe) : PSs (X.tr pn xe) body (TB X body W) := ⟨fun pins s σ H D I h => h pn xe tk own pins s I⟩
def TH (X : Cx) (suite : List Stmt) (a : Addr) (cls : Value) (d : Option Addr) : TS := fun D σ H => ∀ (oe : Obj) (pn : List (Addr × Obj)), Zc cls d oe → (∃ vs, oe.data = .fields vs) → WSs (X.suite a ((a, oe) :: pn)) suite D σ H
theorem pss_th {X : Cx} {suite : List Stmt} (a : Addr) (oe : Obj) (cls : Value) (d : Option Addr) (pn : List (Addr × Obj)) (hz : Zc cls d oe) (hf : ∃ vs, oe.data = .fields vs) : PSs (X.suite a ((a, oe) :: pn)) suite (TH X suite a cls d) := ⟨fun pins s σ H D I h => h oe pn hz hf pins s I⟩
theorem pr_some {K : PySem.W.Frag} {H0 H H' : Hp} {F0 F F' : Addr → Prop} {μ0 μ : Mem} {Q : Rho → Mem → Prop} {σ : St} {ρ : Rho} (g0 : Grow H0 F0 μ0 H F μ) (g : Grow H F μ H' F' μ) (m : MS K H' F' μ) (e : REnv K H' F' σ ρ) (q : Q ρ μ) : PR K H0 F0 μ0 Q σ H' := ⟨ρ, F', μ, g0.trans g, m, e, q⟩
theorem names_of (sx : SX G X N sc) {c : Str} (hg : gloB sc c = true) (hn : nmB c = true) (hcc : (G.ex.sub c c).isSome = true) : ∃ cv, Names X c cv ∧ ∀ c' v, G.ex.sub c' c = some v → ∃ C, X.mg c' = some (.ref C) ∧ PySem.W.exmOne X.K (.ref C) cv = some v := by
  obtain ⟨b, hb⟩ := Option.isSome_iff_exists.mp hcc
  obtain ⟨C, cv, v, e1, _⟩ := sx.ex.sub c c b hb
  refine ⟨.ref C, ⟨sx.glo hg, (nm3 hn).1, .inl e1⟩, fun c' v hv => ?_⟩
  obtain ⟨C2, cv2, v2, k1, k2, k3, _⟩ := sx.ex.sub c' c v hv
  refine ⟨C2, k1, ?_⟩
  rcases k2 with k2 | ⟨k2, _⟩
  · rw [e1] at k2
    cases k2
    exact k3
  · rw [e1] at k2
    cases k2
theorem DS.tryAs (sx : SX G X N sc) (hfn : ∀ x, X.fn x = true) (hs : X.stack = X.env :: X.outer) (hf : X.env.frame = some X.env.locals) {i : Nat} {c n : Str} {body suite : List Stmt} {b₀ : Stmt} {h : HSs} {np pos pos' : Pos} (hi : N[i]? = some n) (hln : sc.names.lookup n = some .local) (hg : gloB sc c = true) (hn : nmB c = true) (ck : chkHs N (some i) sc h (b₀ :: suite) = true)
    (hb : ∀ Y, SX G Y N sc → (∀ x, Y.fn x = true) → Y.stack = Y.env :: Y.outer → Y.env.frame = some Y.env.locals → DSs Y (exTry G EX c h ρ.length K₀) body ρ μ K₀) (hcc : (G.ex.sub c c).isSome = true) :
    DS X EX (.Try body [.ExceptHandler (some (.Name c np)) (some n) (b₀ :: suite) pos'] [] [] pos) ρ μ K₀ := fun σ H F e m => by
  obtain ⟨cv, hnm, hsb⟩ := names_of sx hg hn hcc
  intro pins s I
  have hlen : ρ.length = X.N.length := by rw [← e.len]; exact I.len
  have hln2 : X.env.kindOf n = some .local := by
    show X.env.scope.names.lookup n = some .local
    rw [sx.esc]; exact hln
  refine (ws_of (ps_try_as (i := i) (ts := fun a cls d => TH X (b₀ :: suite) a cls d) hs hf (by rw [sx.hN]; exact sx.nd) (by rw [sx.hN]; exact hi) hln2 hnm e.tk.takes (fun W pn xe tk own => pss_tb W pn xe tk own) fun a oe cls d pn hz hf => pss_th a oe cls d pn hz hf) ?_) pins s I
  intro pn xe tk own
  refine hb (X.tr pn xe) (sx.tr own) hfn hs hf σ H F ⟨e.toREnv, Takes.toF hf ((takes_len tk).imp ?_)⟩ m
  rintro cls d σ' H' ⟨c', fs, F', μ', hm, g, m', at_, q⟩ hl
  obtain ⟨v, hv, q⟩ := optD_ok q
  obtain ⟨C, hC, hx⟩ := hsb c' v hv
  have hm : X.mg c' = some cls := hm
  rw [hm] at hC
  cases hC
  refine ⟨v, hx, fun ev a na => ?_, fun ev => ?_⟩
  · subst ev
    rw [if_pos rfl] at q
    intro oe pn2 hz hf2
    have hl2 : σ'.length = ρ.length := by rw [hlen]; exact hl
    have hil : i < σ'.length := by
      have := (List.getElem?_eq_some_iff.mp hi).1
      rw [hl]
      show i < X.N.length
      rw [sx.hN]
      exact this
    refine sndHSs (d := d) (oe := oe) (a := a) (pn := pn2) (io := some i) sx hm hz hf2 hfn h (b₀ :: suite) ck (σ'.set i (some (.ref a))) H' F' (List.replicate ρ.length none) μ' K₀ _ q ?_ ⟨fun ρ' σ2 H2 F2 g2 su q => ?_, fun v x H2 F2 g2 m2 r q => ?_⟩
    · have e0 : REnv X.K H' F' (σ'.set i (some (.ref a))) (List.replicate ρ.length none) := blank_env (by rw [List.length_set]; exact hl2)
      refine ⟨e0, m', fun j ej => ?_, at_⟩
      cases ej
      refine ⟨List.getElem?_set_self hil, fun x z => ?_⟩
      rw [List.getElem?_replicate] at z
      split at z <;> cases z
    · exact pr_some g g2 su.ms (su.en.hide (su.sl i rfl).2) q
    · exact ⟨x, F2, μ', g.trans g2, m2, r, q⟩
  · subst ev
    rw [if_neg Bool.false_ne_true] at q
    exact ⟨c', fs, F', μ', hm, g, m', at_, q⟩
theorem DS.try_ (sx : SX G X N sc) (hfn : ∀ x, X.fn x = true) (hs : X.stack = X.env :: X.outer) (hf : X.env.frame = some X.env.locals) {c : Str} {body suite : List Stmt} {b₀ : Stmt} {h : HSs} {np pos pos' : Pos} (hg : gloB sc c = true) (hn : nmB c = true) (ck : chkHs N none sc h (b₀ :: suite) = true)
    (hb : ∀ Y, SX G Y N sc → (∀ x, Y.fn x = true) → Y.stack = Y.env :: Y.outer → Y.env.frame = some Y.env.locals → DSs Y (exTry G EX c h ρ.length K₀) body ρ μ K₀) (hcc : (G.ex.sub c c).isSome = true) :
    DS X EX (.Try body [.ExceptHandler (some (.Name c np)) none (b₀ :: suite) pos'] [] [] pos) ρ μ K₀ := fun σ H F e m => by
  obtain ⟨cv, hnm, hsb⟩ := names_of sx hg hn hcc
  intro pins s I
  have hlen : ρ.length = X.N.length := by rw [← e.len]; exact I.len
  refine (ws_of (ps_try_only (ts := fun a cls d => TH X (b₀ :: suite) a cls d) hs hf hnm e.tk.takes (fun W pn xe tk own => pss_tb W pn xe tk own) fun a oe cls d pn hz hf => pss_th a oe cls d pn hz hf) ?_) pins s I
  intro pn xe tk own
  refine hb (X.tr pn xe) (sx.tr own) hfn hs hf σ H F ⟨e.toREnv, Takes.toF hf ((takes_len tk).imp ?_)⟩ m
  rintro cls d σ' H' ⟨c', fs, F', μ', hm, g, m', at_, q⟩ hl
  obtain ⟨v, hv, q⟩ := optD_ok q
  obtain ⟨C, hC, hx⟩ := hsb c' v hv
  have hm : X.mg c' = some cls := hm
  rw [hm] at hC
  cases hC
  refine ⟨v, hx, fun ev a na => ?_, fun ev => ?_⟩
  · subst ev
    rw [if_pos rfl] at q
    intro oe pn2 hz hf2
    have hl2 : σ'.length = ρ.length := by rw [hlen]; exact hl
    refine sndHSs (d := d) (oe := oe) (a := a) (pn := pn2) (io := none) sx hm hz hf2 hfn h (b₀ :: suite) ck σ' H' F' (List.replicate ρ.length none) μ' K₀ _ q ?_ ⟨fun ρ' σ2 H2 F2 g2 su q => ?_, fun v x H2 F2 g2 m2 r q => ?_⟩
    · exact ⟨blank_env hl2, m', fun j ej => (nomatch ej), at_⟩
    · exact pr_some g g2 su.ms su.en q
    · exact ⟨x, F2, μ', g.trans g2, m2, r, q⟩
  · subst ev
    rw [if_neg Bool.false_ne_true] at q
    exact ⟨c', fs, F', μ', hm, g, m', at_, q⟩

/-! ### further methods -/
theorem str_rd {K H F} {x : D} {v : V} (r : RD K H F v x) (hx : strIs x) : ∃ a, x = .str a ∧ v = .str a := by
  cases r <;> first | exact ⟨_, rfl, rfl⟩ | exact hx.elim
theorem sq_ok {m : Sq} {x y : D} {Q : DK} (h : sqD m x y μ Q) : ∃ a b, x = .str a ∧ y = .str b := by
  cases x with
  | str a => cases y with
    | str b => exact ⟨a, b, rfl, rfl⟩
    | _ => exact h.elim
  | _ => exact h.elim
theorem DE.sq {f : Sq} {o e : Expr} {apos pos : Pos} {Q : DK} (hb : noSuper o = true) (hl : (apos.endLine == pos.line) = true) (hs : noStar e = true)
    (h : DE X EX o ρ μ fun x μ1 => strIs x ∧ DE X EX e ρ μ1 fun d μ2 => sqD f x d μ2 Q) : DE X EX (.Call (.Attribute o f.nm apos) [e] [] pos) ρ μ Q := fun σ H F en m => by
  have ss : starEach [e] X.env = [(false, eval e X.env)] := by rw [star_cons hs]; rfl
  cases f with
  | index =>
    refine we_of (pe_m1 PySem.F.slot_str_index PySem.F.type_str_index mt_sindex pe_we pe_we ss (base_of hb) hl) ?_
    refine (h σ H F en m).mono fun v H1 ⟨x, F1, μ1, g1, m1, r1, hx, q1⟩ => ⟨(str_rd r1 hx).imp fun a h => h.2, ?_⟩
    refine (q1 σ H1 F1 (en.on g1 m) m1).mono fun u H2 ⟨y, F2, μ2, g2, m2, r2, q2⟩ => ?_
    obtain ⟨a, b, ex, ey⟩ := sq_ok q2
    subst ex ey
    cases r1
    cases r2
    obtain ⟨i, hi, q⟩ := optD_ok (show optD (Builtin.Str.occurrences a b 0 a.length 1).head? _ from q2)
    cases ho : Builtin.Str.occurrences a b 0 a.length 1 with
    | nil => rw [ho] at hi; cases hi
    | cons j rest =>
      rw [ho] at hi
      cases hi
      exact ⟨a, b, _, rest, rfl, rfl, ho, ⟨_, F2, μ2, g1.trans g2, m2, .int _, q⟩⟩
  | find =>
    refine we_of (pe_m1 PySem.F.slot_str_find PySem.F.type_str_find mt_find pe_we pe_we ss (base_of hb) hl) ?_
    refine (h σ H F en m).mono fun v H1 ⟨x, F1, μ1, g1, m1, r1, hx, q1⟩ => ⟨(str_rd r1 hx).imp fun a h => h.2, ?_⟩
    refine (q1 σ H1 F1 (en.on g1 m) m1).mono fun u H2 ⟨y, F2, μ2, g2, m2, r2, q2⟩ => ?_
    obtain ⟨a, b, ex, ey⟩ := sq_ok q2
    subst ex ey
    cases r1
    cases r2
    exact ⟨a, b, rfl, rfl, ⟨_, F2, μ2, g1.trans g2, m2, .int _, q2⟩⟩
  | count =>
    refine we_of (pe_m1 PySem.F.slot_str_count PySem.F.type_str_count mt_count pe_we pe_we ss (base_of hb) hl) ?_
    refine (h σ H F en m).mono fun v H1 ⟨x, F1, μ1, g1, m1, r1, hx, q1⟩ => ⟨(str_rd r1 hx).imp fun a h => h.2, ?_⟩
    refine (q1 σ H1 F1 (en.on g1 m) m1).mono fun u H2 ⟨y, F2, μ2, g2, m2, r2, q2⟩ => ?_
    obtain ⟨a, b, ex, ey⟩ := sq_ok q2
    subst ex ey
    cases r1
    cases r2
    exact ⟨a, b, rfl, rfl, ⟨_, F2, μ2, g1.trans g2, m2, .int _, q2⟩⟩
theorem countP_pys (x : D) : ∀ ds : List D, ((D.pys ds).countP fun z => PyData.eqv z x.py) = ds.countP fun e => e.eqv x
  | [] => rfl
  | d :: ds => by
    show ((d.py :: D.pys ds).countP _) = _
    rw [List.countP_cons, List.countP_cons, countP_pys x ds]
    rfl
theorem DE.cnt (sx : SX G X N sc) {o e : Expr} {apos cpos : Pos} {Q : DK} (hb : noSuper o = true) (hl : (apos.endLine == cpos.line) = true) (hs : noStar e = true)
    (h : DE X EX o ρ μ fun x μ1 => (∃ l, seqL μ1 x = some l) ∧ DE X EX e ρ μ1 fun d μ2 => cntD x d μ2 Q) : DE X EX (.Call (.Attribute o "count" apos) [e] [] cpos) ρ μ Q := fun σ H F en m => by
  have hs1 : [e].all noStar = true := by simp [hs]
  refine we_of (pe_bm PySem.F.plainAttrs_list PySem.F.slot_list_count PySem.F.type_list_count (mt_lcountD sx.un) pe_we (pa_cons pe_we pa_nil (star_cons hs)) (base_of hb) (few_ok hs1 (by simp)) hl (star_cons hs) (star_any rfl)) ?_
  refine (h σ H F en m).mono fun v H1 ⟨x, F1, μ1, g1, m1, r1, ⟨l, hl1⟩, q1⟩ => ⟨tyV_list m1 r1 hl1, ?_⟩
  refine (q1 σ H1 F1 (en.on g1 m) m1).mono fun u H2 ⟨d, F2, μ2, g2, m2, r2, q2⟩ => ?_
  obtain ⟨l2, hl2, o1, o2, d1, d2, q⟩ := optD_ok q2
  obtain ⟨a, vs, ev, hq, rs⟩ := seqL_rd m2 (r1.stay (g2.stay m1)) hl2
  subst ev
  refine ⟨a, u, d.py, D.pys l2, rfl, rfl, .lst hq (pys_of rs o2), py_of r2 o1, shaped_of (d := .lst l2) o2 d2, shaped_of o1 d1, ?_⟩
  rw [countP_pys]
  exact ⟨_, F2, μ2, g1.trans g2, m2, .int _, q⟩
theorem spm_ok {z : Bool} {x d k : D} {Q : DK} (h : spmD z x d k μ Q) : ∃ a b n, x = .str a ∧ d = .str b ∧ k = .int n := by
  cases x with
  | str a => cases d with
    | str b => cases k with
      | int n => exact ⟨a, b, n, rfl, rfl, rfl⟩
      | _ => exact h.elim
    | _ => exact h.elim
  | _ => exact h.elim
theorem DE.spm {z : Bool} {o a b : Expr} {apos cpos : Pos} {Q : DK} (hb : noSuper o = true) (hl : (apos.endLine == cpos.line) = true) (hs : noStar a = true) (hs2 : noStar b = true)
    (h : DE X EX o ρ μ fun x μ1 => strIs x ∧ DE X EX a ρ μ1 fun d μ2 => DE X EX b ρ μ2 fun k μ3 => spmD z x d k μ3 Q) : DE X EX (.Call (.Attribute o "split" apos) [a, b] [] cpos) ρ μ Q := fun σ H F en m => by
  have hs1 : [a, b].all noStar = true := by simp [hs, hs2]
  have hs3 : [b].all noStar = true := by simp [hs2]
  refine we_of (pe_bm (T := "str") PySem.F.plainAttrs_str PySem.F.slot_str_split PySem.F.type_str_split mt_splitMax pe_we (pa_cons pe_we (pa_cons pe_we pa_nil (star_cons hs2)) (star_cons hs)) (base_of hb) (few_ok hs1 (by simp)) hl (star_cons hs) (star_any hs3)) ?_
  refine (h σ H F en m).mono fun v H1 ⟨x, F1, μ1, g1, m1, r1, hx, q1⟩ => ?_
  obtain ⟨s, es, ev⟩ := str_rd r1 hx
  subst es ev
  refine ⟨rfl, ?_⟩
  refine (q1 σ H1 F1 (en.on g1 m) m1).mono fun u H2 ⟨d, F2, μ2, g2, m2, r2, q2⟩ => ?_
  refine (q2 σ H2 F2 (en.on (g1.trans g2) m) m2).mono fun w H3 ⟨k, F3, μ3, g3, m3, r3, q3⟩ => ?_
  obtain ⟨a, b, n, ex, ey, ez⟩ := spm_ok q3
  cases ex
  subst ey ez
  cases r2
  cases r3
  obtain ⟨q4, ⟨q5, q6⟩, q7, q8⟩ := q3
  exact ⟨s, b, n, rfl, rfl, q4, q5, q6, q7, newL_ok (Qv := Post X.K H F μ Q) m3 .of_strs q8 fun v' H' p => p.pre ((g1.trans g2).trans g3)⟩
mutual
theorem py_noDict : ∀ d : D, d.py.hasDict = false
  | .non => rfl
  | .bl _ => rfl
  | .int _ => rfl
  | .str _ => rfl
  | .tup l => pys_noDict l
  | .lst l => pys_noDict l
  | .lk l => pys_noDict l
  | .ref _ => rfl
  | .emp => rfl
  | .exc _ _ _ => rfl
theorem pys_noDict : ∀ l : List D, PyData.hasDictAll (D.pys l) = false
  | [] => rfl
  | d :: l => by
    show (d.py.hasDict || PyData.hasDictAll (D.pys l)) = false
    rw [py_noDict d, pys_noDict l]
    rfl
end
theorem DE.rpr (sx : SX G X N sc) {a : Expr} {p pos : Pos} {Q : DK} (hgd : G.grd = true) (hg : gloB sc "repr" = true) (hs : noStar a = true) (h : DE X EX a ρ μ fun x μ1 => rprD x μ1 Q) :
    DE X EX (.Call (.Name "repr" p) [a] [] pos) ρ μ Q := by
  refine DE.callB (R := fun ds μ1 => ∃ x, ds = [x] ∧ rprD x μ1 Q) (call_reprD (sx.gd hgd) sx.un) (sx.glo hg) (sx.blt _ (by decide +kernel)) (id := "repr") rfl (by decide +kernel) (by simp [hs]) (DA.cons (star_cons hs) fun σ H F en ms => (h σ H F en ms).mono fun v H' ⟨d, F', μ', g, m', r, q⟩ => ⟨d, F', μ', g, m', r, DA.nil ⟨d, rfl, q⟩⟩) fun H F μ' vs ds Qv m r q k => ?_
  obtain ⟨x, rfl, q⟩ := q
  obtain ⟨w, e, rx⟩ := one_of r
  subst e
  cases x with
  | tup l =>
    obtain ⟨q1, q2, q3, q4, q5⟩ := q
    have p1 := py_of rx q1
    cases rx with
    | tup t rs => exact ⟨_, _, rfl, p1, shaped_of q1 q2, q3, py_noDict _, q4, ⟨_, rfl⟩, k _ _ (.now m (.str _) q5)⟩
  | _ => exact q.elim
theorem last_rd {K H F} {vs : List V} {ds : List D} {d : D} (r : RDs K H F vs ds) (h : ds.getLast? = some d) : ∃ v, vs[vs.length - 1]? = some v ∧ RD K H F v d := by
  rw [List.getLast?_eq_getElem?] at h
  rw [r.length]
  exact r.get h
theorem DE.popE {o : Expr} {apos cpos : Pos} {Q : DK} (hb : noSuper o = true) (hl : (apos.endLine == cpos.line) = true)
    (h : DE X EX o ρ μ fun x μ1 => chg x μ1 fun a l => optD l.getLast? fun d => Q d (mset μ1 a (.lst l.dropLast))) : DE X EX (.Call (.Attribute o "pop" apos) [] [] cpos) ρ μ Q := fun σ H F e m => by
  refine we_of (pe_bm0 PySem.F.plainAttrs_list PySem.F.slot_list_pop PySem.F.type_list_pop mt_pop pe_we (base_of hb) hl) ?_
  refine (h σ H F e m).mono fun v H1 ⟨x, F1, μ1, g1, m1, r1, q1⟩ => ?_
  obtain ⟨a, vs, ds, ev, ex, ha, rs, hm, q⟩ := chg_ok m1 r1 q1
  subst ev
  obtain ⟨d, hd, q⟩ := optD_ok q
  obtain ⟨y, hy, ry⟩ := last_rd rs hd
  obtain ⟨g3, m3⟩ := write_ref (vs := vs.dropLast) m1 hm rs.dropLast
  have g := g1.trans g3
  exact ⟨.inl ⟨rfl, vs, .inl (.inl ha)⟩, a, vs, y, rfl, rfl, ha, hy, ⟨_, F1, _, g, m3, ry.stay (g3.stay m1), q⟩⟩
theorem RDs.eraseIdx {K H F} : ∀ {vs ds} (n : Nat), RDs K H F vs ds → RDs K H F (vs.eraseIdx n) (ds.eraseIdx n)
  | _, _, _, .nil => .nil
  | _, _, 0, .cons h r => r
  | _, _, n + 1, .cons h r => .cons h (RDs.eraseIdx n r)
theorem DE.popI {o i : Expr} {apos cpos : Pos} {Q : DK} (hb : noSuper o = true) (hl : (apos.endLine == cpos.line) = true) (hs : noStar i = true)
    (h : DE X EX o ρ μ fun x μ1 => (∃ l, seqL μ1 x = some l) ∧ DE X EX i ρ μ1 fun k μ2 => intK k fun k => chg x μ2 fun a l => (-9223372036854775808 ≤ k ∧ k < 9223372036854775808) ∧ optD (seqIndex? k l.length) fun j => optD l[j]? fun d => Q d (mset μ2 a (.lst (l.eraseIdx j)))) :
    DE X EX (.Call (.Attribute o "pop" apos) [i] [] cpos) ρ μ Q := fun σ H F e m => by
  have hs1 : [i].all noStar = true := by simp [hs]
  refine we_of (pe_bm PySem.F.plainAttrs_list PySem.F.slot_list_pop PySem.F.type_list_pop mt_popAt pe_we (pa_cons pe_we pa_nil (star_cons hs)) (base_of hb) (few_ok hs1 (by simp)) hl (star_cons hs) (star_any rfl)) ?_
  refine (h σ H F e m).mono fun v H1 ⟨x, F1, μ1, g1, m1, r1, ⟨l, hl1⟩, q1⟩ => ⟨tyV_list m1 r1 hl1, ?_⟩
  refine (q1 σ H1 F1 (e.on g1 m) m1).mono fun u H2 ⟨k, F2, μ2, g2, m2, r2, q2⟩ => ?_
  obtain ⟨k, ek, q2⟩ := intK_ok q2
  subst ek
  cases r2
  obtain ⟨a, vs, ds, ev, _, ha, rs, hm, ⟨b1, b2⟩, q⟩ := chg_ok m2 (r1.stay (g2.stay m1)) q2
  subst ev
  obtain ⟨j, hj, q⟩ := optD_ok q
  obtain ⟨d, hd, q⟩ := optD_ok q
  obtain ⟨y, hy, ry⟩ := rs.get hd
  obtain ⟨g3, m3⟩ := write_ref (vs := vs.eraseIdx j) m2 hm (rs.eraseIdx j)
  exact ⟨a, vs, k, j, y, rfl, rfl, ha, by omega, by omega, by rw [rs.length]; exact hj, hy, ⟨_, F2, _, (g1.trans g2).trans g3, m3, ry.stay (g3.stay m2), q⟩⟩
theorem DS.ins {o i ex : Expr} {apos cpos pos : Pos} (hb : noSuper o = true) (hl : (apos.endLine == cpos.line) = true) (hs : noStar i = true) (hs2 : noStar ex = true)
    (h : DE X EX o ρ μ fun x μ1 => (∃ l, seqL μ1 x = some l) ∧ DE X EX i ρ μ1 fun k μ2 => intK k fun k => DE X EX ex ρ μ2 fun d μ3 => chg x μ3 fun a l => l.length < 16777216 ∧ (0 ≤ k ∧ k < 9223372036854775808) ∧ K₀.nx ρ (mset μ3 a (.lst (l.take k.toNat ++ [d] ++ l.drop k.toNat)))) :
    DS X EX (.Expr (.Call (.Attribute o "insert" apos) [i, ex] [] cpos) pos) ρ μ K₀ := fun σ H F e m => by
  have hs1 : [i, ex].all noStar = true := by simp [hs, hs2]
  have hs3 : [ex].all noStar = true := by simp [hs2]
  refine ws_of (ps_expr (pe_bm PySem.F.plainAttrs_list PySem.F.slot_list_insert PySem.F.type_list_insert mt_insert pe_we (pa_cons pe_we (pa_cons pe_we pa_nil (star_cons hs2)) (star_cons hs)) (base_of hb) (few_ok hs1 (by simp)) hl (star_cons hs) (star_any hs3)) (swap_no rfl)) ?_
  refine (h σ H F e m).mono fun v H1 ⟨x, F1, μ1, g1, m1, r1, ⟨l, hl1⟩, q1⟩ => ⟨tyV_list m1 r1 hl1, ?_⟩
  refine (q1 σ H1 F1 (e.on g1 m) m1).mono fun u H2 ⟨k, F2, μ2, g2, m2, r2, q2⟩ => ?_
  obtain ⟨k, ek, q2⟩ := intK_ok q2
  subst ek
  cases r2
  refine (q2 σ H2 F2 (e.on (g1.trans g2) m) m2).mono fun w H3 ⟨d, F3, μ3, g3, m3, r3, q3⟩ => ?_
  obtain ⟨a, vs, ds, ev, _, ha, rs, hm, hz, ⟨b1, b2⟩, q⟩ := chg_ok m3 (r1.stay ((g2.trans g3).stay m1)) q3
  subst ev
  obtain ⟨g4, m4⟩ := write_ref (vs := vs.take k.toNat ++ [w] ++ vs.drop k.toNat) m3 hm (((rs.take _).append (.cons r3 .nil)).append (rs.drop _))
  have g := ((g1.trans g2).trans g3).trans g4
  exact ⟨a, vs, k, w, rfl, rfl, ha, by rw [rs.length, line_eq]; exact hz, b1, by omega, ρ, F3, _, g, m4, (e.on g m).toREnv, q⟩
end
end DL
/-! Exceptions as values: the rules. -/
namespace DL
open PySem PySem.Spec PyProof.Rows L2
section
variable {G : Gc} {X : Cx} {EX : EK} {N : List Str} {sc : Scope} {ρ : Rho} {μ : Mem}
theorem DE.mkx1 (sx : SX G X N sc) {c : Str} {e : Expr} {p pos : Pos} {Q : DK} (h0 : G.ex.exv c = some none) (hg : gloB sc c = true) (hn : nmB c = true) (hs : noStar e = true)
    (h : DE X EX e ρ μ fun _ μ1 => Q (.exc c [] []) μ1) : DE X EX (.Call (.Name c p) [e] [] pos) ρ μ Q := fun σ H F en m => by
  obtain ⟨C, hc, hm, hk, hx⟩ := sx.ex.exv c none h0
  refine we_of (pe_exc1 PySem.F.excBase_ValueError hx hm hk (sx.glo hg) pe_we (star_cons hs) (nm3 hn).1) ?_
  refine (h σ H F en m).mono fun v H1 ⟨d, F1, μ1, g1, m1, r1, q1⟩ => fun a ha => ?_
  obtain ⟨F2, g2, m2, fa⟩ := new_fz (u := ExO (.ref C) a) m1 ha
  exact ⟨.exc c [] [], F2, μ1, g1.trans g2, m2, .exc hc (.inl ⟨fa, upd_same, rfl⟩) rfl .nil, q1⟩
theorem DE.mkx (sx : SX G X N sc) {c : Str} {e : Expr} {es : List Expr} {p pos : Pos} {Q : DK} {x : Str × Str × Option Nat} (h0 : G.ex.exv c = some (some x)) (hg : gloB sc c = true) (hn : nmB c = true) (hs : (e :: es).all noStar = true)
    (h : DA X EX (e :: es) ρ μ fun ds μ1 => mkxD c (some x) ds μ1 Q) : DE X EX (.Call (.Name c p) (e :: es) [] pos) ρ μ Q := fun σ H F en m => by
  obtain ⟨f1, f2, g⟩ := x
  obtain ⟨C, hc, hm, hk, T, fI, fd, ps, a, iC, tI, hb, ha, F1⟩ := sx.ex.exv c _ h0
  have hs2 := hs
  rw [List.all_cons, Bool.and_eq_true] at hs2
  refine we_of (pe_oexv T iC tI (F1 X.prog X.w X.base) sx.rm2 hb (passes_call en.tk.takes fun _ _ _ _ h => h.elim) (sx.glo hg) hm pa_wa (nm3 hn).1 (star_cons hs2.1) (star_any hs2.2)) ?_
  refine (h σ H F en m).mono fun vs H1 ⟨ds, F1, μ1, g1, m1, r1, q1⟩ => ?_
  match ds, r1, q1 with
  | [d1, d2], .cons (v := y1) rv1 (.cons (v := y2) rv2 .nil), ⟨gk, q⟩ =>
    have gok : a.ok y2 := by
      cases g with
      | none =>
        obtain ⟨t, rfl⟩ := ha
        exact True.intro
      | some n =>
        obtain ⟨t, rfl, rfl⟩ := ha
        cases d2 with
        | str t2 =>
          cases rv2
          exact ⟨t2, rfl, gk⟩
        | _ => exact gk.elim
    refine ⟨(by show 2 ≤ 1000; omega), fun b nb => ⟨b, y1, y2, rfl, upd_same, gok, fun dx hdx ne => ⟨rfl, ?_⟩⟩⟩
    have hdx2 : H1 dx = none := by rw [← hdx, upd_ne ne]
    have e1 : upd (upd (upd H1 b (exo b C none)) dx (exd dx [(f2, y2), (f1, y1)])) b (exo b C (some dx)) = upd (upd H1 dx (exd dx [(f2, y2), (f1, y1)])) b (exo b C (some dx)) := by
      funext z
      by_cases hz : z = b
      · subst hz; rw [upd_same, upd_same]
      · rw [upd_ne hz, upd_ne hz]
        by_cases hd : z = dx
        · subst hd; rw [upd_same, upd_same]
        · rw [upd_ne hd, upd_ne hd, upd_ne hz]
    rw [e1]
    obtain ⟨F2, g2, m2, k2⟩ := new_fz (u := exd dx [(f2, y2), (f1, y1)]) m1 hdx2
    obtain ⟨F3, g3, m3, k3⟩ := new_fz (u := exo b C (some dx)) m2 (show upd H1 dx _ b = none by rw [upd_ne (Ne.symm ne)]; exact nb)
    have st := (g2.trans g3).stay m1
    exact ⟨.exc c [f2, f1] [d2, d1], F3, μ1, (g1.trans g2).trans g3, m3, .exc hc (vs := [y2, y1]) (.inr ⟨dx, k3, g3.fr _ k2, upd_same, by rw [upd_ne ne]; exact upd_same⟩) rfl (.cons (rv2.stay st) (.cons (rv1.stay st) .nil)), q⟩
theorem DE.isx (sx : SX G X N sc) {t : Str} {a : Expr} {p p2 pos : Pos} {Q : DK} (hg : gloB sc "isinstance" = true) (hg2 : gloB sc t = true) (hn : nmB t = true) (hs : noStar a = true)
    (h : DE X EX a ρ μ fun x μ1 => isxD G.ex x t fun b => Q (.bl b) μ1) : DE X EX (.Call (.Name "isinstance" p) [a, .Name t p2] [] pos) ρ μ Q := fun σ H F en m => by
  refine we_of (pe_callB call_isV (sx.glo hg) (sx.blt _ (by decide +kernel)) boot_isinstance (pa_cons pe_we (pa_cons pe_we pa_nil) (star_cons hs)) (by decide +kernel) (by decide +kernel) (star_cons hs) (star_any rfl)) ?_
  refine (h σ H F en m).mono fun v H1 ⟨x, F1, μ1, g1, m1, r1, q⟩ => ?_
  cases x with
  | exc c ns ds =>
    obtain ⟨q0, q⟩ := q
    obtain ⟨b, hb, q⟩ := optD_ok q
    obtain ⟨C, cv, v', e1, e2, e3, e4, rv, ru, ec⟩ := sx.ex.sub c t b hb
    obtain ⟨xx, hxx⟩ := Option.isSome_iff_exists.mp q0
    obtain ⟨C2, hc, hm, _⟩ := sx.ex.exv c xx hxx
    rw [hm] at e1
    cases e1
    cases r1 with
    | exc hc' xf hl rs =>
      rw [hc] at hc'
      cases hc'
      obtain ⟨n1, n2, n3⟩ := nm3 hn
      have pc : PE X (.Name t p2) (tC v') := by
        rcases e2 with e2 | ⟨e2, e5, e6⟩
        · exact pe_glob (sx.glo hg2) e2 rv n1
        · exact pe_bltn (sx.glo hg2) e2 e5 rv e6 n1
      refine we_of pc ?_
      exact ⟨_, _, _, v', cv, b, rfl, xf.at, ec, ru, e4, ⟨_, F1, μ1, g1, m1, .bl _, q⟩⟩
  | _ => exact q.elim
theorem DE.atx (sx : SX G X N sc) {f : Str} {a : Expr} {pos : Pos} {Q : DK} (hb : attributeBase a f X.env (eval a X.env) = eval a X.env)
    (h : DE X EX a ρ μ fun x μ1 => atxD G.ex x f fun d => Q d μ1) : DE X EX (.Attribute a f pos) ρ μ Q := fun σ H F en m => by
  refine we_of (pe_atV pe_we hb) ?_
  refine (h σ H F en m).mono fun v H1 ⟨x, F1, μ1, g1, m1, r1, q⟩ => ?_
  cases x with
  | exc c ns ds =>
    obtain ⟨q0, hf, q⟩ := q
    obtain ⟨d, hd, q⟩ := optD_ok q
    obtain ⟨C, e1, T, hno⟩ := sx.ex.fld c f hf
    obtain ⟨xx, hxx⟩ := Option.isSome_iff_exists.mp q0
    obtain ⟨C2, hc, hm, _⟩ := sx.ex.exv c xx hxx
    rw [hm] at e1
    cases e1
    cases r1 with
    | @exc _ _ _ _ vs _ hc' xf hl rs =>
      rw [hc] at hc'
      cases hc'
      have l1 : (ns.zip vs).map (·.1) = ns := List.map_fst_zip (Nat.le_of_eq hl)
      have l2 : (ns.zip vs).map (·.2) = vs := List.map_snd_zip (Nat.le_of_eq hl.symm)
      have l3 : (ns.zip ds).map (·.1) = ns := List.map_fst_zip (by rw [hl, rs.length]; exact Nat.le_refl _)
      have l4 : (ns.zip ds).map (·.2) = ds := List.map_snd_zip (by rw [hl, rs.length]; exact Nat.le_refl _)
      obtain ⟨v, hv, rv⟩ := att_get (fs := ns.zip vs) (ds := ns.zip ds) (by rw [l1, l3]) (by rw [l2, l4]; exact rs) hd
      exact ⟨_, _, _, v, rfl, xf.at, T, hno, hv, ⟨_, F1, μ1, g1, m1, rv, q⟩⟩
  | _ => exact q.elim
end
end DL
/-! How a program lies over the syntax; what it wants is enough. -/
namespace DL
open PySem PySem.Spec PyProof.Rows L2
def ownOf (N : List Str) (t : T) : List (Str × Nat) := t.slots.map fun i => (N.getD i Str.empty, i)
theorem ownOf_slots (N : List Str) (t : T) : (ownOf N t).map (·.2) = t.slots := by
  unfold ownOf
  rw [List.map_map]
  exact List.map_id' _
theorem DE.emp {X : Cx} {EX : EK} {ρ : Rho} {μ : Mem} {pos : Pos} {Q : DK} (q : Q .emp μ) : DE X EX (.Dict [] [] pos) ρ μ Q := fun σ H F e m => we_of pe_dnewK fun d hd => by
  obtain ⟨F', g, m', f⟩ := new_fz (u := .dK []) m hd
  exact ⟨.emp, F', μ, g, m', .emp f upd_same, q⟩
mutual
def chkE (has : Str → Bool) (N : List Str) : E → Scope → Expr → Bool
  | .v i, sc, x => (match x with
    | .Name n _ => decide (N[i]? = some n) && (visB sc n && nmB n)
    | _ => false)
  | .g g, sc, x => (match x with
    | .Name n _ => decide (n = g) && (gloB sc g && nmB g)
    | _ => false)
  | .non, _, x => (match x with
    | .Constant .none _ _ => true
    | _ => false)
  | .bl b, _, x => (match x with
    | .Constant (.bool c) _ _ => decide (c = b)
    | _ => false)
  | .int i, _, x => (match x with
    | .Constant (.int j) _ _ => decide (j = i)
    | _ => false)
  | .str s, _, x => (match x with
    | .Constant (.str t) _ _ => decide (t = s)
    | _ => false)
  | .bin _ o a b, sc, x => (match x with
    | .BinOp l op r _ => decide (op = o.op) && (chkE has N a sc l && chkE has N b sc r)
    | _ => false)
  | .neg a, sc, x => (match x with
    | .UnaryOp .USub l _ => chkE has N a sc l
    | _ => false)
  | .cmp o a b, sc, x => (match x with
    | .Compare l [op] [r] _ => decide (op = o.op) && (!isSetE r && (chkE has N a sc l && chkE has N b sc r))
    | _ => false)
  | .chain o o' a b c, sc, x => (match x with
    | .Compare l [op, op'] [r, t] _ => decide (op = o.op) && (decide (op' = o'.op) && (!isSetE t && (chkE has N a sc l && (chkE has N b sc r && chkE has N c sc t))))
    | _ => false)
  | .and a b, sc, x => (match x with
    | .BoolOp .And (l :: r :: rest) p => chkE has N a sc l && (match rest with
      | [] => chkE has N b sc r
      | t :: ts => chkE has N b sc (.BoolOp .And (r :: t :: ts) p))
    | _ => false)
  | .or a b, sc, x => (match x with
    | .BoolOp .Or (l :: r :: rest) p => chkE has N a sc l && (match rest with
      | [] => chkE has N b sc r
      | t :: ts => chkE has N b sc (.BoolOp .Or (r :: t :: ts) p))
    | _ => false)
  | .not a, sc, x => (match x with
    | .UnaryOp .Not l _ => chkE has N a sc l
    | _ => false)
  | .ite t a b, sc, x => (match x with
    | .IfExp c l r _ => chkT has N t sc c && (chkE has N a sc l && chkE has N b sc r)
    | _ => false)
  | .tup es, sc, x => (match x with
    | .Tuple xs _ _ => chkEs has N es sc xs
    | _ => false)
  | .lst _ es, sc, x => (match x with
    | .List xs _ => chkEs has N es sc xs
    | _ => false)
  | .ix a i, sc, x => (match x with
    | .Subscript l r _ => !isSlice r && (chkE has N a sc l && chkE has N i sc r)
    | _ => false)
  | .sl _ a lo hi, sc, x => (match x with
    | .Subscript l (.Slice u v none _) _ => chkE has N a sc l && (chkO has N lo sc u && chkO has N hi sc v)
    | _ => false)
  | .lc _ t it cs elt, sc, x => (match x with
    | .ListComp el [⟨tg, iter, ifs, k⟩] scope _ => decide (k = 0) && (!isSetE iter && (chkI has N it tg sc iter && (tgB N (ownB scope) t tg && (blkC N sc scope (ownOf N t) && (chkTs has N cs (relS scope sc) ifs && chkE has N elt (relS scope sc) el)))))
    | _ => false)
  | .call f es, sc, x => (match x with
    | .Call (.Name g _) xs [] _ => decide (g = f) && (has f && (gloB sc f && (nmB f && chkEs has N es sc xs)))
    | _ => false)
  | .bi _ f es, sc, x => (match x with
    | .Call (.Name g _) (y :: ys) [] _ => decide (g = f.nm) && (gloB sc f.nm && chkEs has N es sc (y :: ys))
    | _ => false)
  | .isi a t, sc, x => (match x with
    | .Call (.Name g _) [y, .Name ty _] [] _ => decide (g = "isinstance") && (decide (ty = t.nm) && (gloB sc "isinstance" && (gloB sc t.nm && (noStar y && chkE has N a sc y))))
    | _ => false)
  | .mkx1 c a, sc, x => (match x with
    | .Call (.Name g _) [y] [] _ => decide (g = c) && (gloB sc c && (nmB c && (noStar y && chkE has N a sc y)))
    | _ => false)
  | .mkx c es, sc, x => (match x with
    | .Call (.Name g _) (y :: ys) [] _ => decide (g = c) && (gloB sc c && (nmB c && chkEs has N es sc (y :: ys)))
    | _ => false)
  | .isx a c, sc, x => (match x with
    | .Call (.Name g _) [y, .Name ty _] [] _ => decide (g = "isinstance") && (decide (ty = c) && (gloB sc "isinstance" && (gloB sc c && (nmB c && (noStar y && chkE has N a sc y)))))
    | _ => false)
  | .atx a f, sc, x => (match x with
    | .Attribute (.Subscript l r p) g _ => decide (g = f) && chkE has N a sc (.Subscript l r p)
    | _ => false)
  | .mt _ m o e, sc, x => (match x with
    | .Call (.Attribute y nm apos) [w] [] cpos => decide (nm = m.nm) && (noSuper y && ((apos.endLine == cpos.line) && (noStar w && (chkE has N o sc y && chkE has N e sc w))))
    | _ => false)
  | .emp, _, x => (match x with
    | .Dict [] [] _ => true
    | _ => false)
  | .sq m o e, sc, x => (match x with
    | .Call (.Attribute y nm apos) [w] [] cpos => decide (nm = m.nm) && (noSuper y && ((apos.endLine == cpos.line) && (noStar w && (chkE has N o sc y && chkE has N e sc w))))
    | _ => false)
  | .popE o, sc, x => (match x with
    | .Call (.Attribute y nm apos) [] [] cpos => decide (nm = "pop") && (noSuper y && ((apos.endLine == cpos.line) && chkE has N o sc y))
    | _ => false)
  | .popI o i, sc, x => (match x with
    | .Call (.Attribute y nm apos) [w] [] cpos => decide (nm = "pop") && (noSuper y && ((apos.endLine == cpos.line) && (noStar w && (chkE has N o sc y && chkE has N i sc w))))
    | _ => false)
  | .cnt o e, sc, x => (match x with
    | .Call (.Attribute y nm apos) [w] [] cpos => decide (nm = "count") && (noSuper y && ((apos.endLine == cpos.line) && (noStar w && (chkE has N o sc y && chkE has N e sc w))))
    | _ => false)
  | .spm _ o a b, sc, x => (match x with
    | .Call (.Attribute y nm apos) [u, w] [] cpos => decide (nm = "split") && (noSuper y && ((apos.endLine == cpos.line) && (noStar u && (noStar w && (chkE has N o sc y && (chkE has N a sc u && chkE has N b sc w))))))
    | _ => false)
  | .rpr a, sc, x => (match x with
    | .Call (.Name g _) [y] [] _ => decide (g = "repr") && (gloB sc "repr" && (noStar y && chkE has N a sc y))
    | _ => false)
  | .fz a, sc, x => chkE has N a sc x
  | .pt a, sc, x => chkE has N a sc x
  | .drop _ a, sc, x => chkE has N a sc x
  | .lax _ a, sc, x => chkE has N a sc x
  | .shut _ a, sc, x => chkE has N a sc x
  | .sset _ a, sc, x => (match x with
    | .Call (.Name g _) [.Call (.Name g2 _) [y] [] _] [] _ => decide (g = "sorted") && (decide (g2 = "set") && (gloB sc "sorted" && (gloB sc "set" && (noStar y && chkE has N a sc y))))
    | _ => false)
  | .nset a, sc, x => (match x with
    | .Call (.Name g _) [.Call (.Name g2 _) [y] [] _] [] _ => decide (g = "len") && (decide (g2 = "set") && (gloB sc "len" && (gloB sc "set" && (noStar y && chkE has N a sc y))))
    | _ => false)
def chkEs (has : Str → Bool) (N : List Str) : Es → Scope → List Expr → Bool
  | .nil, _, xs => (match xs with
    | [] => true
    | _ => false)
  | .cons e es, sc, xs => (match xs with
    | x :: r => noStar x && (chkE has N e sc x && chkEs has N es sc r)
    | [] => false)
  | .rep2 a l o y z, sc, xs => (match xs with
    | [.BinOp b .Add (.Constant (.str l') _ _) _, .Call (.Attribute c nm apos) [.Constant (.str y') _ _, .Constant (.str z') _ _] [] cpos] =>
      decide (l' = l) && (decide (nm = "replace") && (decide (y' = y) && (decide (z' = z) && (!(y == z) && (noSuper c && ((apos.endLine == cpos.line) && (chkE has N a sc b && chkE has N o sc c)))))))
    | _ => false)
def chkO (has : Str → Bool) (N : List Str) : Eo → Scope → Option Expr → Bool
  | .no, _, x => x.isNone
  | .one e, sc, x => (match x with
    | some y => chkE has N e sc y
    | none => false)
def chkT (has : Str → Bool) (N : List Str) : Te → Scope → Expr → Bool
  | .val e, sc, x => plainT x && chkE has N e sc x
  | .cm o a b, sc, x => (match x with
    | .Compare l [op] [r] _ => decide (op = o.op) && (!isSetE r && (chkE has N a sc l && chkE has N b sc r))
    | _ => false)
  | .and a b, sc, x => (match x with
    | .BoolOp .And (l :: r :: rest) p => chkT has N a sc l && (match rest with
      | [] => chkT has N b sc r
      | t :: ts => chkT has N b sc (.BoolOp .And (r :: t :: ts) p))
    | _ => false)
  | .or a b, sc, x => (match x with
    | .BoolOp .Or (l :: r :: rest) p => chkT has N a sc l && (match rest with
      | [] => chkT has N b sc r
      | t :: ts => chkT has N b sc (.BoolOp .Or (r :: t :: ts) p))
    | _ => false)
  | .not a, sc, x => (match x with
    | .UnaryOp .Not l _ => chkT has N a sc l
    | _ => false)
def chkTs (has : Str → Bool) (N : List Str) : Tes → Scope → List Expr → Bool
  | .nil, _, xs => (match xs with
    | [] => true
    | _ => false)
  | .one t, sc, xs => (match xs with
    | [x] => chkT has N t sc x
    | _ => false)
def chkI (has : Str → Bool) (N : List Str) : It → Expr → Scope → Expr → Bool
  | .seq e, _, sc, x => chkE has N e sc x
  | .range1 a, _, sc, x => (match x with
    | .Call (.Name g _) [y] [] _ => decide (g = "range") && (gloB sc "range" && (noStar y && chkE has N a sc y))
    | _ => false)
  | .range2 a b, _, sc, x => (match x with
    | .Call (.Name g _) [y, w] [] _ => decide (g = "range") && (gloB sc "range" && (noStar y && (noStar w && (chkE has N a sc y && chkE has N b sc w))))
    | _ => false)
  | .enum a, tg, sc, x => isTupE tg && (match x with
    | .Call (.Name g _) [y] [] _ => decide (g = "enumerate") && (gloB sc "enumerate" && (noStar y && chkE has N a sc y))
    | _ => false)
  | .zip a b, tg, sc, x => isTupE tg && (match x with
    | .Call (.Name g _) [y, w] [] _ => decide (g = "zip") && (gloB sc "zip" && (noStar y && (noStar w && (chkE has N a sc y && chkE has N b sc w))))
    | _ => false)
  | .rev _, _, _, _ => false
end
theorem b2 {a b : Bool} (h : (a && b) = true) : a = true ∧ b = true := Bool.and_eq_true_iff.mp h
theorem bn {a : Bool} (h : (!a) = true) : a = false := by cases a <;> first | rfl | cases h
theorem chkEs_star {has : Str → Bool} {N : List Str} {sc : Scope} : ∀ {es : Es} {xs : List Expr}, chkEs has N es sc xs = true → xs.all noStar = true
  | .nil, [], _ => rfl
  | .nil, _ :: _, h => nomatch h
  | .cons e es, [], h => nomatch h
  | .cons e es, x :: xs, h => by
    obtain ⟨h1, h2⟩ := b2 (show (noStar x && (chkE has N e sc x && chkEs has N es sc xs)) = true from h)
    rw [List.all_cons, h1, chkEs_star (b2 h2).2]
    rfl
  | .rep2 a l o y z, xs, h => by
    simp only [chkEs] at h
    split at h
    · rfl
    · cases h
def isBO : Expr → Bool
  | .BoolOp _ _ _ => true
  | _ => false
theorem truD_mono {x : D} {μ : Mem} {q q' : Bool → Prop} (h : truD x μ q) (m : ∀ b, q b → q' b) : truD x μ q' := by
  cases x with
  | emp => exact False.elim h
  | exc _ _ _ => exact False.elim h
  | str s => exact ⟨h.1, m _ h.2⟩
  | ref a =>
    obtain ⟨l, e, h⟩ := optD_ok (show optD (seqL μ (.ref a)) _ from h)
    show optD (seqL μ (.ref a)) _
    rw [e]
    exact m _ h
  | _ => exact m _ h
theorem eqD_mono {x y : D} {μ : Mem} {q q' : Bool → Prop} (h : eqD x y μ q) (m : ∀ b, q b → q' b) : eqD x y μ q' := by
  unfold eqD at h ⊢
  split at h
  · exact m _ h
  · exact m _ h
  · exact ⟨h.1, h.2.1, h.2.2.1, h.2.2.2.1, m _ h.2.2.2.2⟩
theorem ltD_mono {p : Int → Int → Bool} {ps : Str → Str → Bool} {x y : D} {q q' : Bool → Prop} (h : ltD p ps x y q) (m : ∀ b, q b → q' b) : ltD p ps x y q' := by
  cases x with
  | str i =>
    cases y with
    | str j => exact m _ h
    | _ => exact False.elim h
  | int i =>
    cases y with
    | int j => exact m _ h
    | _ => exact False.elim h
  | _ => exact False.elim h
theorem isD_mono {y : D} {q q' : Prop} (h : isD y q) (m : q → q') : isD y q' := by
  cases y <;> first | exact m h | exact False.elim h
theorem inD_mono {x y : D} {μ : Mem} {q q' : Bool → Prop} (h : inD x y μ q) (m : ∀ b, q b → q' b) : inD x y μ q' := by
  have gen : (optD (seqL μ y) fun l => x.ok = true ∧ D.oks l = true ∧ x.dep ≤ 64 ∧ D.deps l < 64 ∧ q (l.any fun e => e.eqv x)) → (optD (seqL μ y) fun l => x.ok = true ∧ D.oks l = true ∧ x.dep ≤ 64 ∧ D.deps l < 64 ∧ q' (l.any fun e => e.eqv x)) := fun h => by
    obtain ⟨l, e, h1, h2, h3, h4, h5⟩ := optD_ok h
    rw [e]
    exact ⟨h1, h2, h3, h4, m _ h5⟩
  cases y with
  | str z =>
    cases x with
    | str c =>
      have h : (match c.cps.toList with
        | [n] => q (decide (n ∈ z.cps.toList))
        | _ => False) := h
      show (match c.cps.toList with
        | [n] => q' (decide (n ∈ z.cps.toList))
        | _ => False)
      split at h
      · exact m _ h
      · exact False.elim h
    | _ => exact False.elim h
  | tup l => exact ⟨h.1, h.2.1, m _ h.2.2⟩
  | _ => exact gen h
theorem cmpD_mono {o : Cm} {x y : D} {μ : Mem} {q q' : Bool → Prop} (h : cmpD o x y μ q) (m : ∀ b, q b → q' b) : cmpD o x y μ q' := by
  cases o with
  | eq => exact eqD_mono h m
  | ne => exact eqD_mono (q := fun b => q (!b)) h fun b => m (!b)
  | lt => exact ltD_mono (q := q) h m
  | le => exact ltD_mono (q := q) h m
  | gt => exact ltD_mono (q := q) h m
  | ge => exact ltD_mono (q := q) h m
  | is => exact isD_mono (q := q x.isNon) h (m _)
  | isnot => exact isD_mono (q := q (!x.isNon)) h (m _)
  | inn => exact inD_mono (q := q) h m
  | notin => exact inD_mono (q := fun b => q (!b)) h fun b => m (!b)
theorem DE.mono {X : Cx} {EX : EK} {e : Expr} {ρ : Rho} {μ : Mem} {Q Q' : DK} (h : DE X EX e ρ μ Q) (m : ∀ d μ', Q d μ' → Q' d μ') : DE X EX e ρ μ Q' := fun σ H F en ms => (h σ H F en ms).mono fun v H' ⟨d, F', μ', g, m', r, q⟩ => ⟨d, F', μ', g, m', r, m d μ' q⟩
theorem DA.mono {X : Cx} {EX : EK} {e : List Expr} {ρ : Rho} {μ : Mem} {Q Q' : List D → Mem → Prop} (h : DA X EX e ρ μ Q) (m : ∀ d μ', Q d μ' → Q' d μ') : DA X EX e ρ μ Q' := fun σ H F en ms => (h σ H F en ms).mono fun v H' ⟨d, F', μ', g, m', r, q⟩ => ⟨d, F', μ', g, m', r, m d μ' q⟩
theorem DT.mono {X : Cx} {EX : EK} {e : Expr} {ρ : Rho} {μ : Mem} {Q Q' : Bool → Mem → Prop} (h : DT X EX e ρ μ Q) (m : ∀ d μ', Q d μ' → Q' d μ') : DT X EX e ρ μ Q' := fun σ H F en ms => (h σ H F en ms).mono fun v H' ⟨F', μ', g, m', q⟩ => ⟨F', μ', g, m', m v μ' q⟩
theorem DO.mono {X : Cx} {EX : EK} {e : Option Expr} {ρ : Rho} {μ : Mem} {Q Q' : Option Int → Mem → Prop} (h : DO X EX e ρ μ Q) (m : ∀ d μ', Q d μ' → Q' d μ') : DO X EX e ρ μ Q' := fun σ H F en ms => (h σ H F en ms).mono fun v H' ⟨F', μ', g, m', q⟩ => ⟨F', μ', g, m', m v μ' q⟩
theorem DI.mono {X : Cx} {EX : EK} {tg e : Expr} {ρ : Rho} {μ : Mem} {R R' : IK} (h : DI X EX tg e ρ μ R) (m : ∀ i o μ', R i o μ' → R' i o μ') : DI X EX tg e ρ μ R' := fun σ H F en ms => (h σ H F en ms).mono fun J H' ⟨i, o, F', μ', g, m', w, q⟩ => ⟨i, o, F', μ', g, m', w, m i o μ' q⟩
section
variable {G : Gc}
mutual
theorem sndE : ∀ (e : E) (X : Cx) (N : List Str) (sc : Scope), SX G X N sc → ∀ x, chkE G.has N e sc x = true → ∀ ρ μ Q EX, wp G e ρ μ Q EX → DE X EX x ρ μ Q
  | .v i, X, N, sc, sx, x, h, ρ, μ, Q, EX, w => by
    cases x with
    | Name n p =>
      obtain ⟨h1, h2⟩ := b2 h
      obtain ⟨h2, h3⟩ := b2 h2
      obtain ⟨d, hd, w⟩ := getV_ok w
      exact DE.v sx (of_decide_eq_true h1) h2 h3 hd w
    | _ => cases h
  | .g g, X, N, sc, sx, x, h, ρ, μ, Q, EX, w => by
    cases x with
    | Name n p =>
      obtain ⟨h1, h2⟩ := b2 h
      obtain ⟨h2, h3⟩ := b2 h2
      obtain rfl := of_decide_eq_true h1
      obtain ⟨d, hd, w⟩ := optD_ok w
      exact DE.g sx h2 h3 hd w
    | _ => cases h
  | .non, X, N, sc, sx, x, h, ρ, μ, Q, EX, w => by
    cases x with
    | Constant c k p =>
      cases c with
      | none => exact DE.c pe_non (fun _ _ => .non) w
      | _ => cases h
    | _ => cases h
  | .bl b, X, N, sc, sx, x, h, ρ, μ, Q, EX, w => by
    cases x with
    | Constant c k p =>
      cases c with
      | bool c =>
        obtain rfl := of_decide_eq_true h
        exact DE.c pe_bl (fun _ _ => .bl _) w
      | _ => cases h
    | _ => cases h
  | .int i, X, N, sc, sx, x, h, ρ, μ, Q, EX, w => by
    cases x with
    | Constant c k p =>
      cases c with
      | int c =>
        obtain rfl := of_decide_eq_true h
        exact DE.c pe_int (fun _ _ => .int _) w
      | _ => cases h
    | _ => cases h
  | .str s, X, N, sc, sx, x, h, ρ, μ, Q, EX, w => by
    cases x with
    | Constant c k p =>
      cases c with
      | str c =>
        obtain rfl := of_decide_eq_true h
        exact DE.c pe_str (fun _ _ => .str _) w
      | _ => cases h
    | _ => cases h
  | .bin z o a b, X, N, sc, sx, x, h, ρ, μ, Q, EX, w => by
    cases x with
    | BinOp l op r p =>
      obtain ⟨h1, h2⟩ := b2 h
      obtain ⟨h2, h3⟩ := b2 h2
      obtain rfl := of_decide_eq_true h1
      exact DE.bin ((sndE a X N sc sx l h2 ρ μ _ _ w).mono fun d μ1 w => sndE b X N sc sx r h3 ρ μ1 _ _ w)
    | _ => cases h
  | .neg a, X, N, sc, sx, x, h, ρ, μ, Q, EX, w => by
    cases x with
    | UnaryOp op l p =>
      cases op with
      | USub => exact DE.neg (sndE a X N sc sx l h ρ μ _ _ w)
      | _ => cases h
    | _ => cases h
  | .cmp o a b, X, N, sc, sx, x, h, ρ, μ, Q, EX, w => by
    cases x with
    | Compare l ops rs p =>
      match ops, rs, h with
      | [op], [r], h =>
        obtain ⟨h1, h2⟩ := b2 h
        obtain ⟨h2, h3⟩ := b2 h2
        obtain ⟨h3, h4⟩ := b2 h3
        obtain rfl := of_decide_eq_true h1
        exact DE.cmp sx (bn h2) ((sndE a X N sc sx l h3 ρ μ _ _ w).mono fun d μ1 w => sndE b X N sc sx r h4 ρ μ1 _ _ w)
    | _ => cases h
  | .chain o o' a b c, X, N, sc, sx, x, h, ρ, μ, Q, EX, w => by
    cases x with
    | Compare l ops rs p =>
      match ops, rs, h with
      | [op, op'], [r, t], h =>
        obtain ⟨h1, h2⟩ := b2 h
        obtain ⟨h2, h3⟩ := b2 h2
        obtain ⟨h3, h4⟩ := b2 h3
        obtain ⟨h4, h5⟩ := b2 h4
        obtain ⟨h5, h6⟩ := b2 h5
        obtain rfl := of_decide_eq_true h1
        obtain rfl := of_decide_eq_true h2
        refine DE.chain sx ((sndE a X N sc sx l h4 ρ μ _ _ w).mono fun d μ1 w => (sndE b X N sc sx r h5 ρ μ1 _ _ w).mono fun e μ2 w => ?_) fun ta tb tc ha hb hc => pe_chain (op_cm sx.un o) (op_cm sx.un o') ha hb hc (mark_no (bn h3))
        refine cmpD_mono w fun k w => ?_
        cases k with
        | true =>
          rw [if_pos rfl] at w ⊢
          exact sndE c X N sc sx t h6 ρ μ2 _ _ w
        | false => exact w
    | _ => cases h
  | .and a b, X, N, sc, sx, x, h, ρ, μ, Q, EX, w => by
    cases x with
    | BoolOp op xs p =>
      match op, xs, h with
      | .And, [l, r], h =>
        obtain ⟨h1, h2⟩ := b2 h
        refine DE.and ((sndE a X N sc sx l h1 ρ μ _ _ w).mono fun d μ1 w => truD_mono w fun c w => ?_)
        cases c with
        | true =>
          rw [if_pos rfl] at w ⊢
          exact DE.one (sndE b X N sc sx r h2 ρ μ1 _ _ w)
        | false => exact w
      | .And, l :: r :: t :: ts, h =>
        obtain ⟨h1, h2⟩ := b2 h
        refine DE.and ((sndE a X N sc sx l h1 ρ μ _ _ w).mono fun d μ1 w => truD_mono w fun c w => ?_)
        cases c with
        | true =>
          rw [if_pos rfl] at w ⊢
          exact sndE b X N sc sx _ h2 ρ μ1 _ _ w
        | false => exact w
    | _ => cases h
  | .or a b, X, N, sc, sx, x, h, ρ, μ, Q, EX, w => by
    cases x with
    | BoolOp op xs p =>
      match op, xs, h with
      | .Or, [l, r], h =>
        obtain ⟨h1, h2⟩ := b2 h
        refine DE.or ((sndE a X N sc sx l h1 ρ μ _ _ w).mono fun d μ1 w => truD_mono w fun c w => ?_)
        cases c with
        | false =>
          rw [if_neg Bool.false_ne_true] at w ⊢
          exact DE.one (sndE b X N sc sx r h2 ρ μ1 _ _ w)
        | true => exact w
      | .Or, l :: r :: t :: ts, h =>
        obtain ⟨h1, h2⟩ := b2 h
        refine DE.or ((sndE a X N sc sx l h1 ρ μ _ _ w).mono fun d μ1 w => truD_mono w fun c w => ?_)
        cases c with
        | false =>
          rw [if_neg Bool.false_ne_true] at w ⊢
          exact sndE b X N sc sx _ h2 ρ μ1 _ _ w
        | true => exact w
    | _ => cases h
  | .not a, X, N, sc, sx, x, h, ρ, μ, Q, EX, w => by
    cases x with
    | UnaryOp op l p =>
      cases op with
      | Not => exact DE.not (sndE a X N sc sx l h ρ μ _ _ w)
      | _ => cases h
    | _ => cases h
  | .ite t a b, X, N, sc, sx, x, h, ρ, μ, Q, EX, w => by
    cases x with
    | IfExp c l r p =>
      obtain ⟨h1, h2⟩ := b2 h
      obtain ⟨h2, h3⟩ := b2 h2
      refine DT.ite ((sndT t X N sc sx c h1 ρ μ _ _ w).mono fun k μ1 w => ?_)
      cases k with
      | true =>
        rw [if_pos rfl] at w ⊢
        exact sndE a X N sc sx l h2 ρ μ1 _ _ w
      | false =>
        rw [if_neg Bool.false_ne_true] at w ⊢
        exact sndE b X N sc sx r h3 ρ μ1 _ _ w
    | _ => cases h
  | .tup es, X, N, sc, sx, x, h, ρ, μ, Q, EX, w => by
    cases x with
    | Tuple xs k p => exact DE.tup (sndEs es X N sc sx xs h ρ μ _ _ w)
    | _ => cases h
  | .lst z es, X, N, sc, sx, x, h, ρ, μ, Q, EX, w => by
    cases x with
    | List xs p => exact DE.lst (sndEs es X N sc sx xs h ρ μ _ _ w)
    | _ => cases h
  | .ix a i, X, N, sc, sx, x, h, ρ, μ, Q, EX, w => by
    cases x with
    | Subscript l r p =>
      obtain ⟨h1, h2⟩ := b2 h
      obtain ⟨h2, h3⟩ := b2 h2
      exact DE.ix (bn h1) ((sndE a X N sc sx l h2 ρ μ _ _ w).mono fun d μ1 w => sndE i X N sc sx r h3 ρ μ1 _ _ w)
    | _ => cases h
  | .sl z a lo hi, X, N, sc, sx, x, h, ρ, μ, Q, EX, w => by
    cases x with
    | Subscript l r p =>
      cases r with
      | Slice u v st p2 =>
        cases st with
        | none =>
          obtain ⟨h1, h2⟩ := b2 h
          obtain ⟨h2, h3⟩ := b2 h2
          exact DE.sl ((sndE a X N sc sx l h1 ρ μ _ _ w).mono fun d μ1 w => (sndO lo X N sc sx u h2 ρ μ1 _ _ w).mono fun i μ2 w => sndO hi X N sc sx v h3 ρ μ2 _ _ w)
        | some _ => cases h
      | _ => cases h
    | _ => cases h
  | .lc z t it cs elt, X, N, sc, sx, x, h, ρ, μ, Q, EX, w => by
    cases x with
    | ListComp el gs scope p =>
      match gs, h with
      | [⟨tg, iter, ifs, k⟩], h =>
        obtain ⟨h1, h2⟩ := b2 h
        obtain ⟨h2, h3⟩ := b2 h2
        obtain ⟨h3, h4⟩ := b2 h3
        obtain ⟨h4, h5⟩ := b2 h4
        obtain ⟨h5, h6⟩ := b2 h5
        obtain ⟨h6, h7⟩ := b2 h6
        obtain rfl := of_decide_eq_true h1
        refine DE.lc sx (bn h2) (own := ownOf N t) ⟨blkOk_by h5, ownOf_slots N t, h4, fun X' sx' ρ' μ' q w => sndTs cs X' N _ sx' ifs h6 ρ' μ' q _ w, fun X' sx' ρ' μ' q w => sndE elt X' N _ sx' el h7 ρ' μ' q _ w⟩ (sndI it X N sc sx tg iter h3 ρ μ _ _ w)
      | [], h => cases h
      | _ :: _ :: _, h => simp [chkE] at h
    | _ => cases h
  | .call f es, X, N, sc, sx, x, h, ρ, μ, Q, EX, w => by
    cases x with
    | Call fn xs ks p =>
      match fn, ks, h with
      | .Name g p2, [], h =>
        obtain ⟨h1, k2⟩ := b2 h
        obtain ⟨h2, k3⟩ := b2 k2
        obtain ⟨h3, k4⟩ := b2 k3
        obtain ⟨h4, h5⟩ := b2 k4
        obtain rfl := of_decide_eq_true h1
        have hs := chkEs_star h5
        have ih := sndEs es X N sc sx xs h5 ρ μ _ _ w
        cases xs with
        | nil =>
          cases es with
          | nil => exact DE.call0 sx h2 h3 h4 w
          | cons _ _ => cases h5
          | rep2 _ _ _ _ _ => cases h5
        | cons x xs => exact DE.call sx h2 h3 h4 hs ih
    | _ => cases h
  | .bi z f es, X, N, sc, sx, x, h, ρ, μ, Q, EX, w => by
    cases x with
    | Call fn xs ks p =>
      match fn, xs, ks, h with
      | .Name g p2, y :: ys, [], h =>
        obtain ⟨h1, h2⟩ := b2 h
        obtain ⟨h2, h3⟩ := b2 h2
        obtain rfl := of_decide_eq_true h1
        exact DE.bi sx h2 (chkEs_star h3) (sndEs es X N sc sx (y :: ys) h3 ρ μ _ _ w)
    | _ => cases h
  | .isi a t, X, N, sc, sx, x, h, ρ, μ, Q, EX, w => by
    cases x with
    | Call fn xs ks p =>
      match fn, xs, ks, h with
      | .Name g p2, [y, .Name ty p3], [], h =>
        obtain ⟨h1, h2⟩ := b2 h
        obtain ⟨h2, h3⟩ := b2 h2
        obtain ⟨h3, h4⟩ := b2 h3
        obtain ⟨h4, h5⟩ := b2 h4
        obtain ⟨h5, h6⟩ := b2 h5
        obtain rfl := of_decide_eq_true h1
        obtain rfl := of_decide_eq_true h2
        exact DE.isi sx h3 h4 h5 (sndE a X N sc sx y h6 ρ μ _ _ w)
    | _ => cases h
  | .mkx1 c a, X, N, sc, sx, x, h, ρ, μ, Q, EX, w => by
    cases x with
    | Call fn xs ks p =>
      match fn, xs, ks, h with
      | .Name g p2, [y], [], h =>
        obtain ⟨h1, h2⟩ := b2 h
        obtain ⟨h2, h3⟩ := b2 h2
        obtain ⟨h3, h4⟩ := b2 h3
        obtain ⟨h4, h5⟩ := b2 h4
        obtain rfl := of_decide_eq_true h1
        exact DE.mkx1 sx w.1 h2 h3 h4 (sndE a X N sc sx y h5 ρ μ _ _ w.2)
    | _ => cases h
  | .mkx c es, X, N, sc, sx, x, h, ρ, μ, Q, EX, w => by
    cases x with
    | Call fn xs ks p =>
      match fn, xs, ks, h with
      | .Name g p2, y :: ys, [], h =>
        obtain ⟨h1, h2⟩ := b2 h
        obtain ⟨h2, h3⟩ := b2 h2
        obtain ⟨h3, h4⟩ := b2 h3
        obtain rfl := of_decide_eq_true h1
        obtain ⟨xx, e1, w⟩ := optD_ok w
        obtain ⟨xy, e2, w⟩ := optD_ok w
        subst e2
        exact DE.mkx sx e1 h2 h3 (chkEs_star h4) (sndEs es X N sc sx (y :: ys) h4 ρ μ _ _ w)
    | _ => cases h
  | .isx a c, X, N, sc, sx, x, h, ρ, μ, Q, EX, w => by
    cases x with
    | Call fn xs ks p =>
      match fn, xs, ks, h with
      | .Name g p2, [y, .Name ty p3], [], h =>
        obtain ⟨h1, k2⟩ := b2 h
        obtain ⟨h2, k3⟩ := b2 k2
        obtain ⟨h3, k4⟩ := b2 k3
        obtain ⟨h4, k5⟩ := b2 k4
        obtain ⟨h5, k6⟩ := b2 k5
        obtain ⟨h6, h7⟩ := b2 k6
        have e1 := of_decide_eq_true h1
        have e2 := of_decide_eq_true h2
        subst e1
        subst e2
        exact DE.isx sx h3 h4 h5 h6 (sndE a X N sc sx y h7 ρ μ _ _ w)
    | _ => cases h
  | .atx a f, X, N, sc, sx, x, h, ρ, μ, Q, EX, w => by
    cases x with
    | Attribute y g p =>
      cases y with
      | Subscript l r p2 =>
        obtain ⟨h1, h2⟩ := b2 h
        obtain rfl := of_decide_eq_true h1
        exact DE.atx sx rfl (sndE a X N sc sx _ h2 ρ μ _ _ w)
      | _ => cases h
    | _ => cases h
  | .mt z m o e, X, N, sc, sx, x, h, ρ, μ, Q, EX, w => by
    cases x with
    | Call fn xs ks p =>
      match fn, xs, ks, h with
      | .Attribute y nm apos, [v], [], h =>
        obtain ⟨h1, h2⟩ := b2 h
        obtain ⟨h2, h3⟩ := b2 h2
        obtain ⟨h3, h4⟩ := b2 h3
        obtain ⟨h4, h5⟩ := b2 h4
        obtain ⟨h5, h6⟩ := b2 h5
        obtain rfl := of_decide_eq_true h1
        exact DE.mt h2 h3 h4 ((sndE o X N sc sx y h5 ρ μ _ _ w).mono fun d μ1 w => ⟨w.1, sndE e X N sc sx v h6 ρ μ1 _ _ w.2⟩)
    | _ => cases h
  | .emp, X, N, sc, sx, x, h, ρ, μ, Q, EX, w => by
    cases x with
    | Dict ks vs p =>
      match ks, vs, h with
      | [], [], _ => exact DE.emp w
    | _ => cases h
  | .sq m o e, X, N, sc, sx, x, h, ρ, μ, Q, EX, w => by
    cases x with
    | Call fn xs ks p =>
      match fn, xs, ks, h with
      | .Attribute y nm apos, [v], [], h =>
        obtain ⟨h1, h2⟩ := b2 h
        obtain ⟨h2, h3⟩ := b2 h2
        obtain ⟨h3, h4⟩ := b2 h3
        obtain ⟨h4, h5⟩ := b2 h4
        obtain ⟨h5, h6⟩ := b2 h5
        obtain rfl := of_decide_eq_true h1
        exact DE.sq h2 h3 h4 ((sndE o X N sc sx y h5 ρ μ _ _ w).mono fun d μ1 w => ⟨w.1, sndE e X N sc sx v h6 ρ μ1 _ _ w.2⟩)
    | _ => cases h
  | .popE o, X, N, sc, sx, x, h, ρ, μ, Q, EX, w => by
    cases x with
    | Call fn xs ks p =>
      match fn, xs, ks, h with
      | .Attribute y nm apos, [], [], h =>
        obtain ⟨h1, h2⟩ := b2 h
        obtain ⟨h2, h3⟩ := b2 h2
        obtain ⟨h3, h4⟩ := b2 h3
        obtain rfl := of_decide_eq_true h1
        exact DE.popE h2 h3 (sndE o X N sc sx y h4 ρ μ _ _ w)
    | _ => cases h
  | .popI o i, X, N, sc, sx, x, h, ρ, μ, Q, EX, w => by
    cases x with
    | Call fn xs ks p =>
      match fn, xs, ks, h with
      | .Attribute y nm apos, [v], [], h =>
        obtain ⟨h1, h2⟩ := b2 h
        obtain ⟨h2, h3⟩ := b2 h2
        obtain ⟨h3, h4⟩ := b2 h3
        obtain ⟨h4, h5⟩ := b2 h4
        obtain ⟨h5, h6⟩ := b2 h5
        obtain rfl := of_decide_eq_true h1
        refine DE.popI h2 h3 h4 ((sndE o X N sc sx y h5 ρ μ _ _ w).mono fun d μ1 w => ⟨w.1, (sndE i X N sc sx v h6 ρ μ1 _ _ w.2).mono fun k μ2 w => w⟩)
    | _ => cases h
  | .cnt o e, X, N, sc, sx, x, h, ρ, μ, Q, EX, w => by
    cases x with
    | Call fn xs ks p =>
      match fn, xs, ks, h with
      | .Attribute y nm apos, [v], [], h =>
        obtain ⟨h1, h2⟩ := b2 h
        obtain ⟨h2, h3⟩ := b2 h2
        obtain ⟨h3, h4⟩ := b2 h3
        obtain ⟨h4, h5⟩ := b2 h4
        obtain ⟨h5, h6⟩ := b2 h5
        obtain rfl := of_decide_eq_true h1
        exact DE.cnt sx h2 h3 h4 ((sndE o X N sc sx y h5 ρ μ _ _ w).mono fun d μ1 w => ⟨w.1, sndE e X N sc sx v h6 ρ μ1 _ _ w.2⟩)
    | _ => cases h
  | .spm z o a b, X, N, sc, sx, x, h, ρ, μ, Q, EX, w => by
    cases x with
    | Call fn xs ks p =>
      match fn, xs, ks, h with
      | .Attribute y nm apos, [u, v], [], h =>
        obtain ⟨h1, h2⟩ := b2 h
        obtain ⟨h2, h3⟩ := b2 h2
        obtain ⟨h3, h4⟩ := b2 h3
        obtain ⟨h4, h5⟩ := b2 h4
        obtain ⟨h5, h6⟩ := b2 h5
        obtain ⟨h6, h7⟩ := b2 h6
        obtain ⟨h7, h8⟩ := b2 h7
        obtain rfl := of_decide_eq_true h1
        exact DE.spm h2 h3 h4 h5 ((sndE o X N sc sx y h6 ρ μ _ _ w).mono fun d μ1 w => ⟨w.1, (sndE a X N sc sx u h7 ρ μ1 _ _ w.2).mono fun k μ2 w => sndE b X N sc sx v h8 ρ μ2 _ _ w⟩)
    | _ => cases h
  | .rpr a, X, N, sc, sx, x, h, ρ, μ, Q, EX, w => by
    cases x with
    | Call fn xs ks p =>
      match fn, xs, ks, h with
      | .Name g p2, [y], [], h =>
        obtain ⟨h1, h2⟩ := b2 h
        obtain ⟨h2, h3⟩ := b2 h2
        obtain ⟨h3, h4⟩ := b2 h3
        obtain rfl := of_decide_eq_true h1
        exact DE.rpr sx w.1 h2 h3 (sndE a X N sc sx y h4 ρ μ _ _ w.2)
    | _ => cases h
  | .fz a, X, N, sc, sx, x, h, ρ, μ, Q, EX, w => DE.fz (sndE a X N sc sx x h ρ μ _ _ w)
  | .drop is a, X, N, sc, sx, x, h, ρ, μ, Q, EX, w => DE.drop (sndE a X N sc sx x h ρ μ _ _ w)
  | .lax is a, X, N, sc, sx, x, h, ρ, μ, Q, EX, w => DE.lax (sndE a X N sc sx x h ρ μ _ _ w)
  | .pt a, X, N, sc, sx, x, h, ρ, μ, Q, EX, w => DE.pt (sndE a X N sc sx x h ρ μ _ _ w)
  | .shut i a, X, N, sc, sx, x, h, ρ, μ, Q, EX, w => DE.shut (i := i) (sndE a X N sc sx x h ρ μ _ _ w)
  | .sset z a, X, N, sc, sx, x, h, ρ, μ, Q, EX, w => by
    cases x with
    | Call fn xs ks p =>
      match fn, xs, ks, h with
      | .Name g p2, [.Call (.Name g2 p3) [y] [] p4], [], h =>
        obtain ⟨h1, h2⟩ := b2 h
        obtain ⟨h2, h3⟩ := b2 h2
        obtain ⟨h3, h4⟩ := b2 h3
        obtain ⟨h4, h5⟩ := b2 h4
        obtain ⟨h5, h6⟩ := b2 h5
        obtain rfl := of_decide_eq_true h1
        obtain rfl := of_decide_eq_true h2
        exact DE.sset sx h3 h4 h5 (sndE a X N sc sx y h6 ρ μ _ _ w)
    | _ => cases h
  | .nset a, X, N, sc, sx, x, h, ρ, μ, Q, EX, w => by
    cases x with
    | Call fn xs ks p =>
      match fn, xs, ks, h with
      | .Name g p2, [.Call (.Name g2 p3) [y] [] p4], [], h =>
        obtain ⟨h1, h2⟩ := b2 h
        obtain ⟨h2, h3⟩ := b2 h2
        obtain ⟨h3, h4⟩ := b2 h3
        obtain ⟨h4, h5⟩ := b2 h4
        obtain ⟨h5, h6⟩ := b2 h5
        obtain rfl := of_decide_eq_true h1
        obtain rfl := of_decide_eq_true h2
        exact DE.nset sx h3 h4 h5 (sndE a X N sc sx y h6 ρ μ _ _ w)
    | _ => cases h
theorem sndEs : ∀ (es : Es) (X : Cx) (N : List Str) (sc : Scope), SX G X N sc → ∀ xs, chkEs G.has N es sc xs = true → ∀ ρ μ Q EX, wps G es ρ μ Q EX → DA X EX xs ρ μ Q
  | .nil, X, N, sc, sx, xs, h, ρ, μ, Q, EX, w => by
    cases xs with
    | nil => exact DA.nil w
    | cons _ _ => cases h
  | .cons e es, X, N, sc, sx, xs, h, ρ, μ, Q, EX, w => by
    cases xs with
    | nil => cases h
    | cons x xs =>
      obtain ⟨h1, h2⟩ := b2 h
      obtain ⟨h2, h3⟩ := b2 h2
      exact DA.cons (star_cons h1) ((sndE e X N sc sx x h2 ρ μ _ _ w).mono fun d μ1 w => sndEs es X N sc sx xs h3 ρ μ1 _ _ w)
  | .rep2 a l o y z, X, N, sc, sx, xs, h, ρ, μ, Q, EX, w => by
    simp only [chkEs] at h
    split at h
    · obtain ⟨h1, h2⟩ := b2 h
      obtain ⟨h2, h3⟩ := b2 h2
      obtain ⟨h3, h4⟩ := b2 h3
      obtain ⟨h4, h5⟩ := b2 h4
      obtain ⟨h5, h6⟩ := b2 h5
      obtain ⟨h6, h7⟩ := b2 h6
      obtain ⟨h7, h8⟩ := b2 h7
      obtain ⟨h8, h9⟩ := b2 h8
      have e1 := of_decide_eq_true h1
      have e2 := of_decide_eq_true h2
      have e3 := of_decide_eq_true h3
      have e4 := of_decide_eq_true h4
      subst e1 e2 e3 e4
      exact DA.rep2 (by simpa using h5) h6 h7 ((sndE a X N sc sx _ h8 ρ μ _ _ w).mono fun x μ1 ⟨hx, w⟩ => ⟨hx, sndE o X N sc sx _ h9 ρ μ1 _ _ w⟩)
    · cases h
theorem sndO : ∀ (e : Eo) (X : Cx) (N : List Str) (sc : Scope), SX G X N sc → ∀ x, chkO G.has N e sc x = true → ∀ ρ μ Q EX, wpO G e ρ μ Q EX → DO X EX x ρ μ Q
  | .no, X, N, sc, sx, x, h, ρ, μ, Q, EX, w => by
    cases x with
    | none => exact DO.no w
    | some _ => cases h
  | .one e, X, N, sc, sx, x, h, ρ, μ, Q, EX, w => by
    cases x with
    | none => cases h
    | some y => exact DO.one (sndE e X N sc sx y h ρ μ _ _ w)
theorem sndT : ∀ (t : Te) (X : Cx) (N : List Str) (sc : Scope), SX G X N sc → ∀ x, chkT G.has N t sc x = true → ∀ ρ μ Q EX, wpT G t ρ μ Q EX → DT X EX x ρ μ Q
  | .val e, X, N, sc, sx, x, h, ρ, μ, Q, EX, w => by
    obtain ⟨h1, h2⟩ := b2 h
    exact DT.val h1 (sndE e X N sc sx x h2 ρ μ _ _ w)
  | .cm o a b, X, N, sc, sx, x, h, ρ, μ, Q, EX, w => by
    cases x with
    | Compare l ops rs p =>
      match ops, rs, h with
      | [op], [r], h =>
        obtain ⟨h1, h2⟩ := b2 h
        obtain ⟨h2, h3⟩ := b2 h2
        obtain ⟨h3, h4⟩ := b2 h3
        obtain rfl := of_decide_eq_true h1
        exact DT.cmp sx (bn h2) ((sndE a X N sc sx l h3 ρ μ _ _ w).mono fun d μ1 w => sndE b X N sc sx r h4 ρ μ1 _ _ w)
    | _ => cases h
  | .and a b, X, N, sc, sx, x, h, ρ, μ, Q, EX, w => (sndW (.and a b) X N sc sx x h ρ μ Q _ w (by cases x <;> first | rfl | (cases h; done))).dt
  | .or a b, X, N, sc, sx, x, h, ρ, μ, Q, EX, w => (sndW (.or a b) X N sc sx x h ρ μ Q _ w (by cases x <;> first | rfl | (cases h; done))).dt
  | .not a, X, N, sc, sx, x, h, ρ, μ, Q, EX, w => by
    cases x with
    | UnaryOp op l p =>
      cases op with
      | Not => exact DT.not (sndT a X N sc sx l h ρ μ _ _ w)
      | _ => cases h
    | _ => cases h
theorem sndTs : ∀ (t : Tes) (X : Cx) (N : List Str) (sc : Scope), SX G X N sc → ∀ xs, chkTs G.has N t sc xs = true → ∀ ρ μ Q EX, wpTs G t ρ μ Q EX → DTs X EX xs ρ μ Q
  | .nil, X, N, sc, sx, xs, h, ρ, μ, Q, EX, w => by
    cases xs with
    | nil => exact DTs.nil w
    | cons _ _ => cases h
  | .one t, X, N, sc, sx, xs, h, ρ, μ, Q, EX, w => by
    match xs, h with
    | [x], h => exact DTs.one (sndT t X N sc sx x h ρ μ _ _ w)
theorem sndI : ∀ (t : It) (X : Cx) (N : List Str) (sc : Scope), SX G X N sc → ∀ tg x, chkI G.has N t tg sc x = true → ∀ ρ μ R EX, wpI G t ρ μ R EX → DI X EX tg x ρ μ R
  | .seq e, X, N, sc, sx, tg, x, h, ρ, μ, R, EX, w => DI.seq (sndE e X N sc sx x h ρ μ _ _ w)
  | .range1 a, X, N, sc, sx, tg, x, h, ρ, μ, R, EX, w => by
    cases x with
    | Call fn xs ks p =>
      match fn, xs, ks, h with
      | .Name g p2, [y], [], h =>
        obtain ⟨h1, h2⟩ := b2 h
        obtain ⟨h2, h3⟩ := b2 h2
        obtain ⟨h3, h4⟩ := b2 h3
        obtain rfl := of_decide_eq_true h1
        exact DI.range1 sx h2 h3 (sndE a X N sc sx y h4 ρ μ _ _ w)
    | _ => cases h
  | .range2 a b, X, N, sc, sx, tg, x, h, ρ, μ, R, EX, w => by
    cases x with
    | Call fn xs ks p =>
      match fn, xs, ks, h with
      | .Name g p2, [y, v], [], h =>
        obtain ⟨h1, h2⟩ := b2 h
        obtain ⟨h2, h3⟩ := b2 h2
        obtain ⟨h3, h4⟩ := b2 h3
        obtain ⟨h4, h5⟩ := b2 h4
        obtain ⟨h5, h6⟩ := b2 h5
        obtain rfl := of_decide_eq_true h1
        exact DI.range2 sx h2 h3 h4 ((sndE a X N sc sx y h5 ρ μ _ _ w).mono fun d μ1 w => sndE b X N sc sx v h6 ρ μ1 _ _ w)
    | _ => cases h
  | .enum a, X, N, sc, sx, tg, x, h, ρ, μ, R, EX, w => by
    obtain ⟨h0, h⟩ := b2 h
    cases tg with
    | Tuple elts k tp =>
      cases x with
      | Call fn xs ks p =>
        match fn, xs, ks, h with
        | .Name g p2, [y], [], h =>
          obtain ⟨h1, h2⟩ := b2 h
          obtain ⟨h2, h3⟩ := b2 h2
          obtain ⟨h3, h4⟩ := b2 h3
          obtain rfl := of_decide_eq_true h1
          exact DI.enum sx h2 h3 (sndE a X N sc sx y h4 ρ μ _ _ w)
      | _ => cases h
    | _ => cases h0
  | .zip a b, X, N, sc, sx, tg, x, h, ρ, μ, R, EX, w => by
    obtain ⟨h0, h⟩ := b2 h
    cases tg with
    | Tuple elts k tp =>
      cases x with
      | Call fn xs ks p =>
        match fn, xs, ks, h with
        | .Name g p2, [y, v], [], h =>
          obtain ⟨h1, h2⟩ := b2 h
          obtain ⟨h2, h3⟩ := b2 h2
          obtain ⟨h3, h4⟩ := b2 h3
          obtain ⟨h4, h5⟩ := b2 h4
          obtain ⟨h5, h6⟩ := b2 h5
          obtain rfl := of_decide_eq_true h1
          exact DI.zip sx h2 h3 h4 ((sndE a X N sc sx y h5 ρ μ _ _ w).mono fun d μ1 w => sndE b X N sc sx v h6 ρ μ1 _ _ w)
      | _ => cases h
    | _ => cases h0
  | .rev a, X, N, sc, sx, tg, x, h, ρ, μ, R, EX, w => nomatch h

theorem sndW : ∀ (t : Te) (X : Cx) (N : List Str) (sc : Scope), SX G X N sc → ∀ x, chkT G.has N t sc x = true → ∀ ρ μ Q EX, wpT G t ρ μ Q EX → isBO x = true → DW X EX x ρ μ Q
  | .val e, X, N, sc, sx, x, h, ρ, μ, Q, EX, w, hb => by
    obtain ⟨h1, h2⟩ := b2 h
    cases x <;> first | (cases hb; done) | (cases h1; done)
  | .cm o a b, X, N, sc, sx, x, h, ρ, μ, Q, EX, w, hb => by
    cases x <;> first | (cases hb; done) | (cases h; done)
  | .not a, X, N, sc, sx, x, h, ρ, μ, Q, EX, w, hb => by
    cases x <;> first | (cases hb; done) | (cases h; done)
  | .and a b, X, N, sc, sx, x, h, ρ, μ, Q, EX, w, hb => by
    cases x with
    | BoolOp op xs p =>
      match op, xs, h with
      | .And, [l, r], h =>
        obtain ⟨h1, h2⟩ := b2 h
        refine DW.and ((sndT a X N sc sx l h1 ρ μ _ _ w).mono fun c μ1 w => ?_)
        cases c with
        | true =>
          rw [if_pos rfl] at w ⊢
          exact DW.one (sndT b X N sc sx r h2 ρ μ1 _ _ w)
        | false => exact w
      | .And, l :: r :: t :: ts, h =>
        obtain ⟨h1, h2⟩ := b2 h
        refine DW.and ((sndT a X N sc sx l h1 ρ μ _ _ w).mono fun c μ1 w => ?_)
        cases c with
        | true =>
          rw [if_pos rfl] at w ⊢
          exact sndW b X N sc sx _ h2 ρ μ1 _ _ w rfl
        | false => exact w
    | _ => cases h
  | .or a b, X, N, sc, sx, x, h, ρ, μ, Q, EX, w, hb => by
    cases x with
    | BoolOp op xs p =>
      match op, xs, h with
      | .Or, [l, r], h =>
        obtain ⟨h1, h2⟩ := b2 h
        refine DW.or ((sndT a X N sc sx l h1 ρ μ _ _ w).mono fun c μ1 w => ?_)
        cases c with
        | false =>
          rw [if_neg Bool.false_ne_true] at w ⊢
          exact DW.one (sndT b X N sc sx r h2 ρ μ1 _ _ w)
        | true => exact w
      | .Or, l :: r :: t :: ts, h =>
        obtain ⟨h1, h2⟩ := b2 h
        refine DW.or ((sndT a X N sc sx l h1 ρ μ _ _ w).mono fun c μ1 w => ?_)
        cases c with
        | false =>
          rw [if_neg Bool.false_ne_true] at w ⊢
          exact sndW b X N sc sx _ h2 ρ μ1 _ _ w rfl
        | true => exact w
    | _ => cases h
end
end
end DL
/-! Statements over the syntax. -/
namespace DL
open PySem PySem.Spec PyProof.Rows L2
def onV {A : Type} (o : Option A) (f : A → Bool) : Bool := match o with
  | some a => f a
  | none => false
theorem onV_ok {A : Type} {o : Option A} {f : A → Bool} (h : onV o f = true) : ∃ a, o = some a ∧ f a = true := by
  cases o with
  | none => exact nomatch h
  | some a => exact ⟨a, rfl, h⟩
structure vSet_t where
  y_ : Str
  py_ : Pos
  ex_ : Expr
  sp_ : Pos
def vSet : Stmt → Option vSet_t
  | .Assign [.Name y py] ex sp => some ⟨y, py, ex, sp⟩
  | _ => none
theorem vSet_ok {x0 : Stmt} {a : vSet_t} (h : vSet x0 = some a) : x0 = .Assign [.Name a.y_ a.py_] a.ex_ a.sp_ := by
  unfold vSet at h
  split at h
  · cases h; rfl
  · cases h
structure vAsg_t where
  ts_ : List Expr
  k_ : Nat
  p_ : Pos
  ex_ : Expr
  sp_ : Pos
def vAsg : Stmt → Option vAsg_t
  | .Assign [.Tuple ts k p] ex sp => some ⟨ts, k, p, ex, sp⟩
  | _ => none
theorem vAsg_ok {x0 : Stmt} {a : vAsg_t} (h : vAsg x0 = some a) : x0 = .Assign [.Tuple a.ts_ a.k_ a.p_] a.ex_ a.sp_ := by
  unfold vAsg at h
  split at h
  · cases h; rfl
  · cases h
structure vSub_t where
  x_ : Expr
  y_ : Expr
  p_ : Pos
  ex_ : Expr
  sp_ : Pos
def vSub : Stmt → Option vSub_t
  | .Assign [.Subscript x y p] ex sp => some ⟨x, y, p, ex, sp⟩
  | _ => none
theorem vSub_ok {x0 : Stmt} {a : vSub_t} (h : vSub x0 = some a) : x0 = .Assign [.Subscript a.x_ a.y_ a.p_] a.ex_ a.sp_ := by
  unfold vSub at h
  split at h
  · cases h; rfl
  · cases h
structure vAug_t where
  x_ : Str
  p_ : Pos
  ex_ : Expr
  sp_ : Pos
def vAug : Stmt → Option vAug_t
  | .AugAssign (.Name x p) .Add ex sp => some ⟨x, p, ex, sp⟩
  | _ => none
theorem vAug_ok {x0 : Stmt} {a : vAug_t} (h : vAug x0 = some a) : x0 = .AugAssign (.Name a.x_ a.p_) .Add a.ex_ a.sp_ := by
  unfold vAug at h
  split at h
  · cases h; rfl
  · cases h
structure vExp_t where
  ex_ : Expr
  sp_ : Pos
def vExp : Stmt → Option vExp_t
  | .Expr ex sp => some ⟨ex, sp⟩
  | _ => none
theorem vExp_ok {x0 : Stmt} {a : vExp_t} (h : vExp x0 = some a) : x0 = .Expr a.ex_ a.sp_ := by
  unfold vExp at h
  split at h
  · cases h; rfl
  · cases h
structure vRet_t where
  ex_ : Expr
  sp_ : Pos
def vRet : Stmt → Option vRet_t
  | .Return (some ex) sp => some ⟨ex, sp⟩
  | _ => none
theorem vRet_ok {x0 : Stmt} {a : vRet_t} (h : vRet x0 = some a) : x0 = .Return (some a.ex_) a.sp_ := by
  unfold vRet at h
  split at h
  · cases h; rfl
  · cases h
structure vRetN_t where
  sp_ : Pos
def vRetN : Stmt → Option vRetN_t
  | .Return none sp => some ⟨sp⟩
  | _ => none
theorem vRetN_ok {x0 : Stmt} {a : vRetN_t} (h : vRetN x0 = some a) : x0 = .Return none a.sp_ := by
  unfold vRetN at h
  split at h
  · cases h; rfl
  · cases h
structure vIf_t where
  ex_ : Expr
  u_ : List Stmt
  v_ : List Stmt
  sp_ : Pos
def vIf : Stmt → Option vIf_t
  | .If ex u v sp => some ⟨ex, u, v, sp⟩
  | _ => none
theorem vIf_ok {x0 : Stmt} {a : vIf_t} (h : vIf x0 = some a) : x0 = .If a.ex_ a.u_ a.v_ a.sp_ := by
  unfold vIf at h
  split at h
  · cases h; rfl
  · cases h
structure vFor_t where
  tg_ : Expr
  iter_ : Expr
  body_ : List Stmt
  sp_ : Pos
def vFor : Stmt → Option vFor_t
  | .For tg iter body [] sp => some ⟨tg, iter, body, sp⟩
  | _ => none
theorem vFor_ok {x0 : Stmt} {a : vFor_t} (h : vFor x0 = some a) : x0 = .For a.tg_ a.iter_ a.body_ [] a.sp_ := by
  unfold vFor at h
  split at h
  · cases h; rfl
  · cases h
structure vWh_t where
  ex_ : Expr
  body_ : List Stmt
  sp_ : Pos
def vWh : Stmt → Option vWh_t
  | .While ex body [] sp => some ⟨ex, body, sp⟩
  | _ => none
theorem vWh_ok {x0 : Stmt} {a : vWh_t} (h : vWh x0 = some a) : x0 = .While a.ex_ a.body_ [] a.sp_ := by
  unfold vWh at h
  split at h
  · cases h; rfl
  · cases h
structure vPass_t where
  sp_ : Pos
def vPass : Stmt → Option vPass_t
  | .Pass sp => some ⟨sp⟩
  | _ => none
theorem vPass_ok {x0 : Stmt} {a : vPass_t} (h : vPass x0 = some a) : x0 = .Pass a.sp_ := by
  unfold vPass at h
  split at h
  · cases h; rfl
  · cases h
structure vBrk_t where
  sp_ : Pos
def vBrk : Stmt → Option vBrk_t
  | .Break sp => some ⟨sp⟩
  | _ => none
theorem vBrk_ok {x0 : Stmt} {a : vBrk_t} (h : vBrk x0 = some a) : x0 = .Break a.sp_ := by
  unfold vBrk at h
  split at h
  · cases h; rfl
  · cases h
structure vCont_t where
  sp_ : Pos
def vCont : Stmt → Option vCont_t
  | .Continue sp => some ⟨sp⟩
  | _ => none
theorem vCont_ok {x0 : Stmt} {a : vCont_t} (h : vCont x0 = some a) : x0 = .Continue a.sp_ := by
  unfold vCont at h
  split at h
  · cases h; rfl
  · cases h
structure vNms_t where
  x_ : Str
  px_ : Pos
  y_ : Str
  py_ : Pos
def vNms : List Expr → Option vNms_t
  | [.Name x px, .Name y py] => some ⟨x, px, y, py⟩
  | _ => none
theorem vNms_ok {x0 : List Expr} {a : vNms_t} (h : vNms x0 = some a) : x0 = [.Name a.x_ a.px_, .Name a.y_ a.py_] := by
  unfold vNms at h
  split at h
  · cases h; rfl
  · cases h
structure vSubNm_t where
  x_ : Expr
  y_ : Expr
  p_ : Pos
  v_ : Str
  p2_ : Pos
def vSubNm : List Expr → Option vSubNm_t
  | [.Subscript x y p, .Name v p2] => some ⟨x, y, p, v, p2⟩
  | _ => none
theorem vSubNm_ok {x0 : List Expr} {a : vSubNm_t} (h : vSubNm x0 = some a) : x0 = [.Subscript a.x_ a.y_ a.p_, .Name a.v_ a.p2_] := by
  unfold vSubNm at h
  split at h
  · cases h; rfl
  · cases h
structure vTup2_t where
  u_ : Expr
  v_ : Expr
  k2_ : Nat
  p2_ : Pos
def vTup2 : Expr → Option vTup2_t
  | .Tuple [u, v] k2 p2 => some ⟨u, v, k2, p2⟩
  | _ => none
theorem vTup2_ok {x0 : Expr} {a : vTup2_t} (h : vTup2 x0 = some a) : x0 = .Tuple [a.u_, a.v_] a.k2_ a.p2_ := by
  unfold vTup2 at h
  split at h
  · cases h; rfl
  · cases h
structure vMeth_t where
  x_ : Expr
  nm_ : Str
  apos_ : Pos
  args_ : List Expr
  cpos_ : Pos
def vMeth : Expr → Option vMeth_t
  | .Call (.Attribute x nm apos) args [] cpos => some ⟨x, nm, apos, args, cpos⟩
  | _ => none
theorem vMeth_ok {x0 : Expr} {a : vMeth_t} (h : vMeth x0 = some a) : x0 = .Call (.Attribute a.x_ a.nm_ a.apos_) a.args_ [] a.cpos_ := by
  unfold vMeth at h
  split at h
  · cases h; rfl
  · cases h
structure vOne_t where
  x_ : Expr
def vOne : List Expr → Option vOne_t
  | [x] => some ⟨x⟩
  | _ => none
theorem vOne_ok {x0 : List Expr} {a : vOne_t} (h : vOne x0 = some a) : x0 = [a.x_] := by
  unfold vOne at h
  split at h
  · cases h; rfl
  · cases h
structure vTwo_t where
  x_ : Expr
  y_ : Expr
def vTwo : List Expr → Option vTwo_t
  | [x, y] => some ⟨x, y⟩
  | _ => none
theorem vTwo_ok {x0 : List Expr} {a : vTwo_t} (h : vTwo x0 = some a) : x0 = [a.x_, a.y_] := by
  unfold vTwo at h
  split at h
  · cases h; rfl
  · cases h
def vNil : List Expr → Option Unit
  | [] => some ()
  | _ => none
theorem vNil_ok {x0 : List Expr} {a : Unit} (h : vNil x0 = some a) : x0 = [] := by
  unfold vNil at h
  split at h
  · rfl
  · cases h
structure vLC_t where
  el_ : Expr
  tg_ : Expr
  iter_ : Expr
  ifs_ : List Expr
  k_ : Int
  scope_ : Scope
  pos_ : Pos
def vLC : Expr → Option vLC_t
  | .ListComp el [⟨tg, iter, ifs, k⟩] scope pos => some ⟨el, tg, iter, ifs, k, scope, pos⟩
  | _ => none
theorem vLC_ok {x0 : Expr} {a : vLC_t} (h : vLC x0 = some a) : x0 = .ListComp a.el_ [⟨a.tg_, a.iter_, a.ifs_, a.k_⟩] a.scope_ a.pos_ := by
  unfold vLC at h
  split at h
  · cases h; rfl
  · cases h
structure vRaise_t where
  c_ : Str
  p_ : Pos
  s_ : Str
  j_ : Nat
  p2_ : Pos
  p3_ : Pos
  sp_ : Pos
def vRaise : Stmt → Option vRaise_t
  | .Raise (some (.Call (.Name c p) [.Constant (.str s) j p2] [] p3)) none sp => some ⟨c, p, s, j, p2, p3, sp⟩
  | _ => none
theorem vRaise_ok {x0 : Stmt} {a : vRaise_t} (h : vRaise x0 = some a) : x0 = .Raise (some (.Call (.Name a.c_ a.p_) [.Constant (.str a.s_) a.j_ a.p2_] [] a.p3_)) none a.sp_ := by
  unfold vRaise at h
  split at h
  · cases h; rfl
  · cases h
structure vTry_t where
  body_ : List Stmt
  c_ : Str
  np_ : Pos
  n_ : Option Str
  b0_ : Stmt
  suite_ : List Stmt
  p2_ : Pos
  sp_ : Pos
def vTry : Stmt → Option vTry_t
  | .Try body [.ExceptHandler (some (.Name c np)) n (b₀ :: suite) p2] [] [] sp => some ⟨body, c, np, n, b₀, suite, p2, sp⟩
  | _ => none
theorem vTry_ok {x0 : Stmt} {a : vTry_t} (h : vTry x0 = some a) : x0 = .Try a.body_ [.ExceptHandler (some (.Name a.c_ a.np_)) a.n_ (a.b0_ :: a.suite_) a.p2_] [] [] a.sp_ := by
  unfold vTry at h
  split at h
  · cases h; rfl
  · cases h
def lcClean (y : Str) (scope : Scope) : Bool := !(scope.names.any fun (n, k) => n == y && (k == .local || k == .cell))
def isLocal (sc : Scope) (y : Str) : Bool := match sc.names.lookup y with
  | some .local => true
  | _ => false
theorem isLocal_ok {sc : Scope} {y : Str} (h : isLocal sc y = true) : sc.names.lookup y = some .local := by
  unfold isLocal at h
  split at h
  · assumption
  · cases h
def isCell (sc : Scope) (y : Str) : Bool := match sc.names.lookup y with
  | some .cell => true
  | _ => false
theorem isCell_ok {sc : Scope} {y : Str} (h : isCell sc y = true) : sc.names.lookup y = some .cell := by
  unfold isCell at h
  split at h
  · assumption
  · cases h
/-- the value may be stored in the plain way -/
def setB (sc : Scope) (y : Str) (e : Expr) : Bool := !isLC e || isCell sc y
def chkSet (has : Str → Bool) (N : List Str) (sc : Scope) (e : E) (y : Str) (py : Pos) (ex : Expr) : Bool :=
  if setB sc y ex = true then chkE has N e sc ex else (match e with
    | .lc z t it cs elt => onV (vLC ex) fun a => isLocal sc y && ((py.line == a.pos_.line) && (lcClean y a.scope_ && (decide (a.k_ = 0) && (!isSetE a.iter_ && (chkI has N it a.tg_ sc a.iter_ && (tgB N (ownB a.scope_) t a.tg_ && (blkC N sc a.scope_ (ownOf N t) && (chkTs has N cs (relS a.scope_ sc) a.ifs_ && chkE has N elt (relS a.scope_ sc) a.el_))))))))
    | _ => false)
def chkM (f : Str) (sc : Scope) (st : Stmt) (k : vMeth_t → Bool) : Bool := onV (vExp st) fun a => onV (vMeth a.ex_) fun b => decide (b.nm_ = f) && (noSuper b.x_ && ((b.apos_.endLine == b.cpos_.line) && k b))
def isGh : S → Bool
  | .opn _ => true
  | .drp _ => true
  | _ => false
def isNilS : Ss → Bool
  | .nil => true
  | _ => false
mutual
def chkS (has : Str → Bool) (N : List Str) : S → Scope → Stmt → Bool
  | .set i e, sc, st => onV (vSet st) fun a => decide (N[i]? = some a.y_) && (locB sc a.y_ && chkSet has N sc e a.y_ a.py_ a.ex_)
  | .asg t e, sc, st => onV (vAsg st) fun a => tgB N (locB sc) t (.Tuple a.ts_ a.k_ a.p_) && (tupFree a.ex_ && chkE has N e sc a.ex_)
  | .par i j a b, sc, st => onV (vAsg st) fun c => onV (vNms c.ts_) fun n => onV (vTup2 c.ex_) fun d =>
      decide (N[i]? = some n.x_) && (decide (N[j]? = some n.y_) && (decide (i ≠ j) && (isLocal sc n.x_ && (isLocal sc n.y_ && (decide (n.x_ ≠ n.y_) && (noStar d.u_ && (noStar d.v_ && (swap2B n.px_ n.py_ d.u_ d.v_ && (chkE has N a sc d.u_ && chkE has N b sc d.v_)))))))))
  | .setIx o i e, sc, st => onV (vSub st) fun a => !isSlice a.y_ && (!isLC a.ex_ && (chkE has N e sc a.ex_ && (chkE has N o sc a.x_ && chkE has N i sc a.y_)))
  | .setIx2 o i j e, sc, st => onV (vAsg st) fun c => onV (vSubNm c.ts_) fun a => !isSlice a.y_ && (!isTupE c.ex_ && (decide (N[j]? = some a.v_) && (locB sc a.v_ && (chkE has N e sc c.ex_ && (chkE has N o sc a.x_ && chkE has N i sc a.y_)))))
  | .aug i o e, sc, st => onV (vAug st) fun a => decide (o = .add) && (decide (N[i]? = some a.x_) && (locB sc a.x_ && chkE has N e sc a.ex_))
  | .expr e, sc, st => onV (vExp st) fun a => !isLC a.ex_ && chkE has N e sc a.ex_
  | .app o e, sc, st => chkM "append" sc st fun b => onV (vOne b.args_) fun c => noStar c.x_ && (chkE has N o sc b.x_ && chkE has N e sc c.x_)
  | .ext o e, sc, st => chkM "extend" sc st fun b => onV (vOne b.args_) fun c => noStar c.x_ && (chkE has N o sc b.x_ && chkE has N e sc c.x_)
  | .ins o i e, sc, st => chkM "insert" sc st fun b => onV (vTwo b.args_) fun c => noStar c.x_ && (noStar c.y_ && (chkE has N o sc b.x_ && (chkE has N i sc c.x_ && chkE has N e sc c.y_)))
  | .pop o, sc, st => chkM "pop" sc st fun b => onV (vNil b.args_) fun _ => chkE has N o sc b.x_
  | .clear o, sc, st => chkM "clear" sc st fun b => onV (vNil b.args_) fun _ => chkE has N o sc b.x_
  | .ret e, sc, st => onV (vRet st) fun a => chkE has N e sc a.ex_
  | .retN, _, st => onV (vRetN st) fun _ => true
  | .ite t a b, sc, st => onV (vIf st) fun c => chkT has N t sc c.ex_ && (chkSs has N a sc c.u_ && chkSs has N b sc c.v_)
  | .for_ _ t it b, sc, st => onV (vFor st) fun c => tgB N (locB sc) t c.tg_ && (!isSetE c.iter_ && (chkI has N it c.tg_ sc c.iter_ && chkSs has N b sc c.body_))
  | .while_ _ t b, sc, st => onV (vWh st) fun c => chkT has N t sc c.ex_ && chkSs has N b sc c.body_
  | .pass, _, st => onV (vPass st) fun _ => true
  | .brk, _, st => onV (vBrk st) fun _ => true
  | .cont, _, st => onV (vCont st) fun _ => true
  | .never, _, _ => true
  | .opn _, _, _ => false
  | .drp _, _, _ => false
  | .raise c _, sc, st => onV (vRaise st) fun a => decide (a.c_ = c) && (gloB sc c && nmB c)
  | .raiseI _ _, _, _ => false
  | .tryAs b c i h, sc, st => onV (vTry st) fun a => decide (a.c_ = c) && (gloB sc c && (nmB c && (onV a.n_ fun n => decide (N[i]? = some n) && (isLocal sc n && (chkHs N (some i) sc h (a.b0_ :: a.suite_) && chkSs has N b sc a.body_)))))
  | .try_ b c h, sc, st => onV (vTry st) fun a => decide (a.c_ = c) && (gloB sc c && (nmB c && (a.n_.isNone && (chkHs N none sc h (a.b0_ :: a.suite_) && chkSs has N b sc a.body_))))
def chkSs (has : Str → Bool) (N : List Str) : Ss → Scope → List Stmt → Bool
  | .nil, _, xs => xs.isEmpty
  | .cons s ss, sc, xs => if isGh s = true then chkSs has N ss sc xs else onV xs.head? fun x => chkS has N s sc x && chkSs has N ss sc xs.tail
end
end DL
/-! What statements want is enough. -/
namespace DL
open PySem PySem.Spec PyProof.Rows L2
section
variable {G : Gc}
theorem chg_mono {o : D} {μ : Mem} {f g : Addr → List D → Prop} (h : chg o μ f) (m : ∀ a l, f a l → g a l) : chg o μ g := by
  cases o with
  | ref a =>
    obtain ⟨l, e, h⟩ := optD_ok (show optD (seqL μ (.ref a)) _ from h)
    show optD (seqL μ (.ref a)) _
    rw [e]
    exact m a l h
  | _ => exact h
theorem swap_cell {v : Expr} {y : Str} {p : Pos} {l : Nat} {env : Env} (h : env.scope.names.lookup y = some .cell) : swapsWith v (some (.Name y p)) l env = pure false := by
  have k : env.kindOf y = some .cell := h
  have e : (some NameKind.cell == some NameKind.local) = false := rfl
  cases v <;> first | rfl | (unfold swapsWith; simp only [k, e, Bool.and_false, Bool.false_and]) | (unfold swapsWith; simp only [k, e, Bool.and_false, Bool.false_and]; rfl)
theorem setB_ok {X : Cx} {N : List Str} {sc : Scope} (sx : SX G X N sc) {y : Str} {p : Pos} {ex : Expr} {l : Nat} (h : setB sc y ex = true) : swapsWith ex (some (.Name y p)) l X.env = pure false := by
  unfold setB at h
  rw [Bool.or_eq_true] at h
  rcases h with h | h
  · exact swap_no (bn h)
  · exact swap_cell (by rw [sx.esc]; exact isCell_ok h)
theorem getV_of : ∀ {ρ : Rho} {i : Nat} {k : D → Prop} {d : D}, ρ[i]? = some (some d) → k d → getV ρ i k
  | some _ :: _, 0, k, d, h, q => by cases h; exact q
  | none :: _, 0, k, d, h, q => by cases h
  | o :: r, i + 1, k, d, h, q => getV_of (ρ := r) (i := i) (by rw [List.getElem?_cons_succ] at h; exact h) q
theorem DS.monoN {X : Cx} {EX : EK} {st : Stmt} {ρ : Rho} {μ : Mem} {K : DEnds} {P Q : Rho → Mem → Prop} (h : DS X EX st ρ μ { K with nx := P }) (m : ∀ ρ μ, P ρ μ → Q ρ μ) : DS X EX st ρ μ { K with nx := Q } := fun σ H F e ms =>
  (h σ H F e ms).mono ⟨fun _ _ ⟨ρ', F', μ', g, m', e', q⟩ => ⟨ρ', F', μ', g, m', e', m _ _ q⟩, fun _ _ q => q, fun _ _ q => q, fun _ _ q => q⟩
theorem chkM_ok {f : Str} {sc : Scope} {st : Stmt} {k : vMeth_t → Bool} (h : chkM f sc st k = true) : ∃ (a : vExp_t) (b : vMeth_t), st = .Expr (.Call (.Attribute b.x_ f b.apos_) b.args_ [] b.cpos_) a.sp_ ∧ True ∧ noSuper b.x_ = true ∧ (b.apos_.endLine == b.cpos_.line) = true ∧ k b = true := by
  obtain ⟨a, ha, h⟩ := onV_ok h
  obtain ⟨b, hb, h⟩ := onV_ok h
  obtain ⟨a1, h⟩ := b2 h
  obtain ⟨a2, h⟩ := b2 h
  obtain ⟨a3, h⟩ := b2 h
  have e0 := of_decide_eq_true a1
  have e := vExp_ok ha
  rw [vMeth_ok hb, e0] at e
  exact ⟨a, b, e, trivial, a2, a3, h⟩
theorem sndSet {X : Cx} {N : List Str} {sc : Scope} (sx : SX G X N sc) (hf : ∀ x, X.fn x = true) {i : Nat} {e : E} {y : Str} {py sp : Pos} {ex : Expr} {ρ : Rho} {μ : Mem} {K : DEnds} {EX : EK} (h1 : N[i]? = some y) (h2 : locB sc y = true) (h3 : chkSet G.has N sc e y py ex = true) (w : wpS G (.set i e) ρ μ K EX) :
    DS X EX (.Assign [.Name y py] ex sp) ρ μ K := by
  unfold chkSet at h3
  split at h3
  · rename_i hs
    exact DS.set sx hf h1 h2 (setB_ok sx hs) (sndE e X N sc sx ex h3 ρ μ _ _ w)
  · cases e with
    | lc z t it cs elt =>
      obtain ⟨a, ha, h3⟩ := onV_ok h3
      obtain rfl := vLC_ok ha
      obtain ⟨a1, h3⟩ := b2 h3
      obtain ⟨a2, h3⟩ := b2 h3
      obtain ⟨a3, h3⟩ := b2 h3
      obtain ⟨a4, h3⟩ := b2 h3
      obtain ⟨a5, h3⟩ := b2 h3
      obtain ⟨a6, h3⟩ := b2 h3
      obtain ⟨a7, h3⟩ := b2 h3
      obtain ⟨a8, h3⟩ := b2 h3
      obtain ⟨a9, h3⟩ := b2 h3
      rw [of_decide_eq_true a4]
      exact DS.setLc sx h1 (isLocal_ok a1) a2 (bn a3) (bn a5) (own := ownOf N t)
        ⟨blkOk_by a8, ownOf_slots N t, a7, fun X' sx' ρ' μ' q w => sndTs cs X' N _ sx' _ a9 ρ' μ' q _ w, fun X' sx' ρ' μ' q w => sndE elt X' N _ sx' _ h3 ρ' μ' q _ w⟩ (sndI it X N sc sx _ _ a6 ρ μ _ _ w)
    | _ => cases h3
theorem chkSs_no {has : Str → Bool} {N : List Str} {s : S} {ss : Ss} {sc : Scope} {xs : List Stmt} (gh : isGh s = false) (h : chkSs has N (.cons s ss) sc xs = true) : ∃ x r, xs = x :: r ∧ chkS has N s sc x = true ∧ chkSs has N ss sc r = true := by
  have h : (if isGh s = true then chkSs has N ss sc xs else onV xs.head? fun x => chkS has N s sc x && chkSs has N ss sc xs.tail) = true := h
  rw [if_neg (by rw [gh]; decide)] at h
  cases xs with
  | nil => cases h
  | cons x r => exact ⟨x, r, rfl, (b2 h).1, (b2 h).2⟩
theorem chkSs_gh {has : Str → Bool} {N : List Str} {s : S} {ss : Ss} {sc : Scope} {xs : List Stmt} (gh : isGh s = true) (h : chkSs has N (.cons s ss) sc xs = true) : chkSs has N ss sc xs = true := by
  have h : (if isGh s = true then chkSs has N ss sc xs else onV xs.head? fun x => chkS has N s sc x && chkSs has N ss sc xs.tail) = true := h
  rw [if_pos gh] at h
  exact h
theorem DSs.opn {X : Cx} {EX : EK} {st : List Stmt} {ρ : Rho} {μ : Mem} {K : DEnds} {i : Nat} {P : Mem → Prop} (h : getV ρ i fun y => openD y μ P) (k : ∀ μ', P μ' → DSs X EX st ρ μ' K) : DSs X EX st ρ μ K := fun σ H F e m => by
  obtain ⟨y, _, h⟩ := getV_ok h
  obtain ⟨a, r, ey, em, h⟩ := openD_ok h
  obtain ⟨p, q, ⟨b1, b2, b3⟩, g, m2⟩ := open_pot m em
  exact (k _ (h p q b1 b2 b3) σ H F (e.on g m) m2).mono (endsOf_le g)
theorem DSs.drp {X : Cx} {EX : EK} {st : List Stmt} {ρ : Rho} {μ : Mem} {K : DEnds} {is : List Nat} (h : DSs X EX st ρ (dropM ρ is μ) K) : DSs X EX st ρ μ K := fun σ H F e m => by
  obtain ⟨g, m2⟩ := drop_ok (ρ := ρ) is m
  exact (h σ H F (e.on g m) m2).mono (endsOf_le g)
mutual
theorem sndS (N : List Str) (sc : Scope) : ∀ (s : S) (X : Cx) (sx : SX G X N sc) (hf : ∀ x, X.fn x = true) (fr : X.stack = X.env :: X.outer ∧ X.env.frame = some X.env.locals) (st : Stmt), chkS G.has N s sc st = true → ∀ ρ μ K EX, wpS G s ρ μ K EX → DS X EX st ρ μ K
  | .set i e, X, sx, hf, fr, st, h, ρ, μ, K, EX, w => by
    obtain ⟨a, ha, h⟩ := onV_ok h
    obtain rfl := vSet_ok ha
    obtain ⟨h1, h2⟩ := b2 h
    obtain ⟨h2, h3⟩ := b2 h2
    exact sndSet sx hf (of_decide_eq_true h1) h2 h3 w
  | .asg t e, X, sx, hf, fr, st, h, ρ, μ, K, EX, w => by
    obtain ⟨a, ha, h⟩ := onV_ok h
    obtain rfl := vAsg_ok ha
    obtain ⟨h1, h2⟩ := b2 h
    obtain ⟨h2, h3⟩ := b2 h2
    exact DS.asg sx hf h1 h2 (sndE e X N sc sx _ h3 ρ μ _ _ w)
  | .par i j a b, X, sx, hf, fr, st, h, ρ, μ, K, EX, w => by
    obtain ⟨c, hc, h⟩ := onV_ok h
    obtain ⟨n, hn, h⟩ := onV_ok h
    obtain ⟨d, hd, h⟩ := onV_ok h
    rw [vAsg_ok hc, vNms_ok hn, vTup2_ok hd]
    obtain ⟨a1, h⟩ := b2 h
    obtain ⟨a2, h⟩ := b2 h
    obtain ⟨a3, h⟩ := b2 h
    obtain ⟨a4, h⟩ := b2 h
    obtain ⟨a5, h⟩ := b2 h
    obtain ⟨a6, h⟩ := b2 h
    obtain ⟨a7, h⟩ := b2 h
    obtain ⟨a8, h⟩ := b2 h
    obtain ⟨a9, h⟩ := b2 h
    obtain ⟨b1, b3⟩ := b2 h
    refine DS.par sx (of_decide_eq_true a1) (of_decide_eq_true a2) (of_decide_eq_true a3) (isLocal_ok a4) (isLocal_ok a5) (of_decide_eq_true a6) a7 a8 a9 ?_
    refine DA.cons (star_cons a7) ((sndE a X N sc sx _ b1 ρ μ _ _ w).mono fun d μ1 w => ?_)
    refine DA.cons (star_cons a8) ((sndE b X N sc sx _ b3 ρ μ1 _ _ w).mono fun d2 μ2 w => ?_)
    exact DA.nil w
  | .setIx o i e, X, sx, hf, fr, st, h, ρ, μ, K, EX, w => by
    obtain ⟨a, ha, h⟩ := onV_ok h
    obtain rfl := vSub_ok ha
    obtain ⟨a1, h⟩ := b2 h
    obtain ⟨a3, h⟩ := b2 h
    obtain ⟨a4, h⟩ := b2 h
    obtain ⟨a5, a6⟩ := b2 h
    exact DS.setIx (bn a1) (bn a3) ((sndE e X N sc sx _ a4 ρ μ _ _ w).mono fun d μ1 w => (sndE o X N sc sx _ a5 ρ μ1 _ _ w).mono fun d2 μ2 w => sndE i X N sc sx _ a6 ρ μ2 _ _ w)
  | .setIx2 o i j e, X, sx, hf, fr, st, h, ρ, μ, K, EX, w => by
    obtain ⟨c, hc, h⟩ := onV_ok h
    obtain ⟨a, ha, h⟩ := onV_ok h
    rw [vAsg_ok hc, vSubNm_ok ha]
    obtain ⟨a1, h⟩ := b2 h
    obtain ⟨a2, h⟩ := b2 h
    obtain ⟨a3, h⟩ := b2 h
    obtain ⟨a4, h⟩ := b2 h
    obtain ⟨a5, h⟩ := b2 h
    obtain ⟨a6, a7⟩ := b2 h
    refine DS.setIx2 sx hf (bn a1) (bn a2) (of_decide_eq_true a3) a4 ((sndE e X N sc sx _ a5 ρ μ _ _ w).mono fun d μ1 w => ?_)
    match d, w with
    | .tup [d1, d2], w => exact ⟨d1, d2, rfl, (sndE o X N sc sx _ a6 ρ μ1 _ _ w).mono fun d2 μ2 w => sndE i X N sc sx _ a7 ρ μ2 _ _ w⟩
  | .aug i o e, X, sx, hf, fr, st, h, ρ, μ, K, EX, w => by
    obtain ⟨a, ha, h⟩ := onV_ok h
    obtain rfl := vAug_ok ha
    obtain ⟨a1, h⟩ := b2 h
    obtain ⟨a2, h⟩ := b2 h
    obtain ⟨a3, a4⟩ := b2 h
    refine DS.aug sx hf (of_decide_eq_true a2) a3 ?_
    obtain ⟨d, hd, w⟩ := getV_ok w
    obtain ⟨i0, e0, w⟩ := intK_ok w
    refine getV_of hd ?_
    subst e0
    exact sndE e X N sc sx _ a4 ρ μ _ _ w
  | .expr e, X, sx, hf, fr, st, h, ρ, μ, K, EX, w => by
    obtain ⟨a, ha, h⟩ := onV_ok h
    obtain rfl := vExp_ok ha
    obtain ⟨a1, h⟩ := b2 h
    exact DS.expr (bn a1) (sndE e X N sc sx _ h ρ μ _ _ w)
  | .app o e, X, sx, hf, fr, st, h, ρ, μ, K, EX, w => by
    obtain ⟨a, b, e1, e2, a2, a3, h⟩ := chkM_ok (sc := sc) h
    obtain ⟨c, hc, h⟩ := onV_ok h
    rw [e1, vOne_ok hc]
    obtain ⟨a4, h⟩ := b2 h
    obtain ⟨a5, a6⟩ := b2 h
    exact DS.app a2 a3 a4 ((sndE o X N sc sx _ a5 ρ μ _ _ w).mono fun d μ1 w => ⟨w.1, sndE e X N sc sx _ a6 ρ μ1 _ _ w.2⟩)
  | .ext o e, X, sx, hf, fr, st, h, ρ, μ, K, EX, w => by
    obtain ⟨a, b, e1, e2, a2, a3, h⟩ := chkM_ok (sc := sc) h
    obtain ⟨c, hc, h⟩ := onV_ok h
    rw [e1, vOne_ok hc]
    obtain ⟨a4, h⟩ := b2 h
    obtain ⟨a5, a6⟩ := b2 h
    exact DS.ext a2 a3 a4 ((sndE o X N sc sx _ a5 ρ μ _ _ w).mono fun d μ1 w => ⟨w.1, sndE e X N sc sx _ a6 ρ μ1 _ _ w.2⟩)
  | .ins o i e, X, sx, hf, fr, st, h, ρ, μ, K, EX, w => by
    obtain ⟨a, b, e1, e2, a2, a3, h⟩ := chkM_ok (sc := sc) h
    obtain ⟨c, hc, h⟩ := onV_ok h
    rw [e1, vTwo_ok hc]
    obtain ⟨a4, h⟩ := b2 h
    obtain ⟨a5, h⟩ := b2 h
    obtain ⟨a6, h⟩ := b2 h
    obtain ⟨a7, a8⟩ := b2 h
    refine DS.ins a2 a3 a4 a5 ((sndE o X N sc sx _ a6 ρ μ _ _ w).mono fun d μ1 w => ⟨w.1, (sndE i X N sc sx _ a7 ρ μ1 _ _ w.2).mono fun k μ2 w => ?_⟩)
    obtain ⟨i0, e0, w⟩ := intK_ok w
    subst e0
    exact sndE e X N sc sx _ a8 ρ μ2 _ _ w
  | .pop o, X, sx, hf, fr, st, h, ρ, μ, K, EX, w => by
    obtain ⟨a, b, e1, e2, a2, a3, h⟩ := chkM_ok (sc := sc) h
    obtain ⟨c, hc, h⟩ := onV_ok h
    rw [e1, vNil_ok hc]
    exact DS.pop a2 a3 (sndE o X N sc sx _ h ρ μ _ _ w)
  | .clear o, X, sx, hf, fr, st, h, ρ, μ, K, EX, w => by
    obtain ⟨a, b, e1, e2, a2, a3, h⟩ := chkM_ok (sc := sc) h
    obtain ⟨c, hc, h⟩ := onV_ok h
    rw [e1, vNil_ok hc]
    exact DS.clear a2 a3 (sndE o X N sc sx _ h ρ μ _ _ w)
  | .ret e, X, sx, hf, fr, st, h, ρ, μ, K, EX, w => by
    obtain ⟨a, ha, h⟩ := onV_ok h
    obtain rfl := vRet_ok ha
    exact DS.ret (sndE e X N sc sx _ h ρ μ _ _ w)
  | .retN, X, sx, hf, fr, st, h, ρ, μ, K, EX, w => by
    obtain ⟨a, ha, h⟩ := onV_ok h
    obtain rfl := vRetN_ok ha
    exact DS.retN w
  | .ite t a b, X, sx, hf, fr, st, h, ρ, μ, K, EX, w => by
    obtain ⟨c, hc, h⟩ := onV_ok h
    obtain rfl := vIf_ok hc
    obtain ⟨a1, h⟩ := b2 h
    obtain ⟨a2, a3⟩ := b2 h
    refine DS.ite ((sndT t X N sc sx _ a1 ρ μ _ _ w).mono fun c μ1 w => ?_)
    cases c with
    | true =>
      rw [if_pos rfl] at w ⊢
      exact sndSs N sc a X sx hf fr _ a2 ρ μ1 K _ w
    | false =>
      rw [if_neg Bool.false_ne_true] at w ⊢
      exact sndSs N sc b X sx hf fr _ a3 ρ μ1 K _ w
  | .for_ ws t it b, X, sx, hf, fr, st, h, ρ, μ, K, EX, w => by
    obtain ⟨c, hc, h⟩ := onV_ok h
    obtain rfl := vFor_ok hc
    obtain ⟨a1, h⟩ := b2 h
    obtain ⟨a2, h⟩ := b2 h
    obtain ⟨a3, a4⟩ := b2 h
    exact DS.forW sx fr.1 hf (P := fun ρ μ K => wpSs G b ρ μ (wipeK ws K) EX) a1 (bn a2) (fun ρ μ K q => (sndSs N sc b X sx hf fr _ a4 ρ μ _ _ q).wiped) ws (sndI it X N sc sx _ _ a3 ρ μ _ _ w)
  | .while_ ws t b, X, sx, hf, fr, st, h, ρ, μ, K, EX, w => by
    obtain ⟨c, hc, h⟩ := onV_ok h
    obtain rfl := vWh_ok hc
    obtain ⟨a1, a2⟩ := b2 h
    exact DS.forget (vs := ws) (DS.while_ sx fr.1 (Pt := fun ρ μ q => wpT G t ρ μ q EX) (P := fun ρ μ K => wpSs G b ρ μ (wipeK ws K) EX) (fun ρ μ q w => sndT t X N sc sx _ a1 ρ μ _ _ w) (fun ρ μ K q => (sndSs N sc b X sx hf fr _ a2 ρ μ _ _ q).wiped) w)
  | .pass, X, sx, hf, fr, st, h, ρ, μ, K, EX, w => by
    obtain ⟨a, ha, h⟩ := onV_ok h
    obtain rfl := vPass_ok ha
    exact DS.pass w
  | .brk, X, sx, hf, fr, st, h, ρ, μ, K, EX, w => by
    obtain ⟨a, ha, h⟩ := onV_ok h
    obtain rfl := vBrk_ok ha
    exact DS.brk w
  | .cont, X, sx, hf, fr, st, h, ρ, μ, K, EX, w => by
    obtain ⟨a, ha, h⟩ := onV_ok h
    obtain rfl := vCont_ok ha
    exact DS.cont w
  | .never, X, sx, hf, fr, st, h, ρ, μ, K, EX, w => False.elim w
  | .opn i, X, sx, hf, fr, st, h, ρ, μ, K, EX, w => nomatch h
  | .drp i, X, sx, hf, fr, st, h, ρ, μ, K, EX, w => nomatch h
  | .raise c s, X, sx, hf, fr, st, h, ρ, μ, K, EX, w => by
    obtain ⟨a, ha, h⟩ := onV_ok h
    obtain rfl := vRaise_ok ha
    obtain ⟨a1, h⟩ := b2 h
    obtain ⟨a2, a3⟩ := b2 h
    obtain rfl := of_decide_eq_true a1
    exact DS.raise sx a2 a3 w.1 w.2
  | .raiseI _ _, X, sx, hf, fr, st, h, ρ, μ, K, EX, w => nomatch h
  | .tryAs b c i hs, X, sx, hf, fr, st, h, ρ, μ, K, EX, w => by
    obtain ⟨a, ha, h⟩ := onV_ok h
    obtain ⟨a1, h⟩ := b2 h
    obtain ⟨a2, h⟩ := b2 h
    obtain ⟨a3, h⟩ := b2 h
    obtain ⟨n, hn, h⟩ := onV_ok h
    obtain ⟨a4, h⟩ := b2 h
    obtain ⟨a5, h⟩ := b2 h
    obtain ⟨a6, a7⟩ := b2 h
    rw [vTry_ok ha, of_decide_eq_true a1, hn]
    exact DS.tryAs sx hf fr.1 fr.2 (of_decide_eq_true a4) (isLocal_ok a5) a2 a3 a6 (fun Y sy hy h1 h2 => sndSs N sc b Y sy hy ⟨h1, h2⟩ _ a7 ρ μ K _ w.2) w.1
  | .try_ b c hs, X, sx, hf, fr, st, h, ρ, μ, K, EX, w => by
    obtain ⟨a, ha, h⟩ := onV_ok h
    obtain ⟨a1, h⟩ := b2 h
    obtain ⟨a2, h⟩ := b2 h
    obtain ⟨a3, h⟩ := b2 h
    obtain ⟨a4, h⟩ := b2 h
    obtain ⟨a6, a7⟩ := b2 h
    have hn : a.n_ = none := by
      cases e : a.n_ with
      | none => rfl
      | some _ => rw [e] at a4; cases a4
    rw [vTry_ok ha, of_decide_eq_true a1, hn]
    exact DS.try_ sx hf fr.1 fr.2 a2 a3 a6 (fun Y sy hy h1 h2 => sndSs N sc b Y sy hy ⟨h1, h2⟩ _ a7 ρ μ K _ w.2) w.1
theorem sndSs (N : List Str) (sc : Scope) : ∀ (s : Ss) (X : Cx) (sx : SX G X N sc) (hf : ∀ x, X.fn x = true) (fr : X.stack = X.env :: X.outer ∧ X.env.frame = some X.env.locals) (st : List Stmt), chkSs G.has N s sc st = true → ∀ ρ μ K EX, wpSs G s ρ μ K EX → DSs X EX st ρ μ K
  | .nil, X, sx, hf, fr, st, h, ρ, μ, K, EX, w => by
    cases st with
    | nil => exact DSs.nil w
    | cons _ _ => cases h
  | .cons s .nil, X, sx, hf, fr, st, h, ρ, μ, K, EX, w => by
    cases gh : isGh s with
    | true =>
      have h := chkSs_gh gh h
      cases s with
      | opn i => exact DSs.opn (i := i) w fun μ' q => sndSs N sc .nil X sx hf fr st h ρ μ' K _ q
      | drp is => exact DSs.drp (is := is) (sndSs N sc .nil X sx hf fr st h ρ _ K _ w)
      | _ => cases gh
    | false =>
      obtain ⟨x, r, e, h1, h2⟩ := chkSs_no gh h
      rw [e]
      cases r with
      | nil => exact DSs.one (sndS N sc s X sx hf fr x h1 ρ μ K _ w)
      | cons _ _ => cases h2
  | .cons s (.cons t ss), X, sx, hf, fr, st, h, ρ, μ, K, EX, w => by
    cases gh : isGh s with
    | true =>
      have h := chkSs_gh gh h
      cases s with
      | opn i => exact DSs.opn (i := i) w fun μ' q => sndSs N sc (.cons t ss) X sx hf fr st h ρ μ' K _ q
      | drp is => exact DSs.drp (is := is) (sndSs N sc (.cons t ss) X sx hf fr st h ρ _ K _ w)
      | _ => cases gh
    | false =>
      obtain ⟨x, r, e, h1, h2⟩ := chkSs_no gh h
      rw [e]
      refine DSs.cons ?_
      exact (sndS N sc s X sx hf fr x h1 ρ μ _ _ w).monoN fun ρ' μ' q => sndSs N sc (.cons t ss) X sx hf fr r h2 ρ' μ' K _ q
end
end
end DL
/-! A program: its defs keep their promises, level by level. -/
namespace DL
open PySem PySem.Spec PyProof.Rows L2
structure DefD where
  name : Str
  st : Stmt
  N : List Str
  ps : List Str
  body : Ss
  spec : Nat → FSpec
def startR (N : List Str) (ds : List D) : Rho := ds.map some ++ List.replicate (N.length - ds.length) none
def specOf : List DefD → Nat → Str → FSpec
  | [], _, _ => fun _ _ _ _ => False
  | d :: r, n, f => if d.name = f then d.spec n else specOf r n f
def gcOf (defs : List DefD) (cst : Str → Option D) (ex : ExI) (n : Nat) : Gc where
  has := fun f => defs.any fun d => decide (d.name = f)
  fn := specOf defs n
  cst := cst
  ex := ex
/-- a def's scope, looked at -/
def scopeB (N P : List Str) (sc : Scope) : Bool := (match sc.kind with | .function => true | _ => false) && (!sc.isCoroutine && (!sc.isGenerator && (decide N.Nodup && (decide (N.take P.length = P) && (P.all (fun x => locB sc x) && sc.names.all fun y => match y.2 with | .free => false | _ => true)))))
theorem scopeB_ok {N P : List Str} {sc : Scope} (h : scopeB N P sc = true) : FnScope N P sc := by
  obtain ⟨h1, h⟩ := b2 h
  obtain ⟨h2, h⟩ := b2 h
  obtain ⟨h3, h⟩ := b2 h
  obtain ⟨h4, h⟩ := b2 h
  obtain ⟨h5, h⟩ := b2 h
  obtain ⟨h6, h7⟩ := b2 h
  refine ⟨?_, bn h2, bn h3, of_decide_eq_true h4, of_decide_eq_true h5, fun x hx => ?_, fun y hy e => ?_⟩
  · split at h1
    · assumption
    · cases h1
  · have q := List.all_eq_true.mp h6 x hx
    unfold locB at q
    split at q
    · exact .inl (by assumption)
    · exact .inr (by assumption)
    · cases q
  · have q := List.all_eq_true.mp h7 y hy
    rw [e] at q
    cases q
def chkD (has : Str → Bool) (d : DefD) : Bool := scopeB d.N d.ps (defScope d.st) && (decide (d.ps.length ≤ d.N.length) && chkSs has d.N d.body (defScope d.st) (defBody d.st))
theorem start_env {K : PySem.W.Frag} {H : Hp} {F : Addr → Prop} {N : List Str} {vs : List V} {ds : List D} (r : RDs K H F vs ds) : REnv K H F (L2.start N vs) (startR N ds) := by
  refine ⟨by unfold L2.start startR; simp [r.length], fun i d h => ?_⟩
  unfold startR at h
  by_cases hi : i < ds.length
  · rw [List.getElem?_append_left (by rw [List.length_map]; exact hi), List.getElem?_map] at h
    cases e : ds[i]? with
    | none => rw [e] at h; cases h
    | some d2 =>
      rw [e] at h
      cases h
      obtain ⟨v, h1, h2⟩ := r.get e
      refine ⟨v, ?_, h2⟩
      unfold L2.start
      rw [List.getElem?_append_left (by rw [List.length_map, r.length]; exact hi), List.getElem?_map, h1]
      rfl
  · rw [List.getElem?_append_right (by rw [List.length_map]; omega)] at h
    rw [List.getElem?_replicate] at h
    split at h
    · cases h
    · cases h
/-- what stands behind the top: the def's place -/
def At (K : PySem.W.Frag) (mg : Str → Option Value) (d : DefD) (f : Addr) (fd : FuncData) : Prop := Fun K d.name d.name d.st f fd ∧ mg d.name = some (.ref f) ∧ Binds K fd d.ps []
structure Top (P : Program) (w : World) (K : PySem.W.Frag) (mg : Str → Option Value) (defs : List DefD) (cst : Str → Option D) (ex : ExI) : Prop where
  at_ : ∀ d ∈ defs, ∃ f fd, At K mg d f fd
  blt : ∀ x, x ∈ bltNames → mg x = none
  cs : ∀ x d, cst x = some d → ∃ v u, mg x = some u ∧ RelV v u ∧ ∀ H F, RD K H F v d
  exo : ExOk ex K mg
  chk : ∀ n, defs.all (chkD (gcOf defs cst ex n).has) = true
/-- each body does what its promise says, if the calls do so at the level below -/
def Keeps (defs : List DefD) (cst : Str → Option D) (ex : ExI) : Prop := ∀ d ∈ defs, (∀ ds μ Q X, ¬ d.spec 0 ds μ Q X) ∧
  ∀ n ds μ Q X, d.spec (n + 1) ds μ Q X → ds.length = d.ps.length ∧ wpSs (gcOf defs cst ex n) d.body (startR d.N ds) μ { nx := fun _ μ' => Q .non μ', rt := Q } X
theorem specOf_mem : ∀ {defs : List DefD} {n : Nat} {f : Str}, (defs.any fun d => decide (d.name = f)) = true → ∃ d ∈ defs, d.name = f ∧ specOf defs n f = d.spec n
  | [], n, f, h => nomatch h
  | d :: r, n, f, h => by
    by_cases e : d.name = f
    · exact ⟨d, List.mem_cons_self, e, by unfold specOf; rw [if_pos e]⟩
    · rw [List.any_cons, decide_eq_false e, Bool.false_or] at h
      obtain ⟨d2, h1, h2, h3⟩ := specOf_mem (n := n) h
      exact ⟨d2, List.mem_cons_of_mem _ h1, h2, by unfold specOf; rw [if_neg e]; exact h3⟩
section
variable {P : Program} {w : World} {K : PySem.W.Frag} {mg : Str → Option Value} {base : Heap} {defs : List DefD} {cst : Str → Option D} {ex : ExI}
theorem defs_ok (T : Top P w K mg defs cst ex) (kp : Keeps defs cst ex) : ∀ n : Nat, ∀ d ∈ defs, ∀ f fd, At K mg d f fd → FnOk P w K mg base (L2.CX P w) (n + 2) f fd d.ps (spOf K mg (d.spec n))
  | 0, d, hd, f, fd, at_ => by
    have no : ∀ vs H Q E, ¬ spOf K mg (d.spec 0) vs H Q E := fun vs H Q E ⟨_, _, _, _, _, _, _, s, _⟩ => (kp d hd).1 _ _ _ _ s
    exact ⟨fun vs H Q E h => absurd h (no vs H Q E), fun A outer s H args us vs Q E _ _ _ _ h => absurd h (no vs H Q E)⟩
  | n + 1, d, hd, f, fd, at_ => by
    obtain ⟨F, hm, hb⟩ := at_
    obtain ⟨c1, c2⟩ := b2 (List.all_eq_true.mp (T.chk n) d hd)
    obtain ⟨c2, c3⟩ := b2 c2
    have sc := scopeB_ok c1
    refine F.okX sc (fun vs H Q E h => ?_) (fun cdv A outer s H vs Q E hr h => ?_)
    · obtain ⟨F1, μ, ds, Qd, EXd, m, r, sp, k, ke⟩ := h
      rw [r.length]
      exact ((kp d hd).2 n ds μ Qd EXd sp).1
    · obtain ⟨F1, μ, ds, Qd, EXd, m, r, sp, k, ke⟩ := h
      have hw := ((kp d hd).2 n ds μ Qd EXd sp).2
      let X := cxOf (L2.CX P w) P w K mg base d.N d.name (defScope d.st) f cdv A outer s H E
      have tk : L2.Takes X (fun cls d _ H => E cls d H) := takes_of rfl rfl rfl rfl
      have sx : SX (gcOf defs cst ex n) X d.N (defScope d.st) := {
        hN := rfl
        nd := sc.nd
        esc := rfl
        kind := sc.kind
        calm := rfl
        un := by have := hr.un; show (A.deeper _).units + 65 < cLine; omega
        gd := fun h => (nomatch (show false = true from h))
        rm2 := hr.mono (by omega)
        own := fun _ => passes_of rfl
        fr := ⟨_, _, _, rfl, rfl, rfl⟩
        blt := T.blt
        ex := T.exo
        cst := T.cs
        fn := fun g hg => by
          obtain ⟨d2, h1, h2, h3⟩ := specOf_mem (n := n) hg
          obtain ⟨f2, fd2, at2⟩ := T.at_ d2 h1
          refine ⟨n + 2, f2, fd2, d2.ps, ?_, hr, by rw [← h2]; exact at2.2.1, at2.1.kp, at2.2.2⟩
          have ih := defs_ok T kp n d2 h1 f2 fd2 at2
          show FnOk P w K mg base (L2.CX P w) (n + 2) f2 fd2 d2.ps (spOf K mg (specOf defs n g))
          rw [h3]
          exact ih }
      have sd := sndSs d.N (defScope d.st) d.body X sx (fun _ => rfl) ⟨rfl, rfl⟩ (defBody d.st) c3 (startR d.N ds) μ _ _ hw
      refine ⟨_, pss_wss, ?_⟩
      refine (sd (L2.start d.N vs) H F1 ⟨start_env r, (Takes.toF rfl tk).imp fun cls dd _ H' q => ke cls dd H' q⟩ m).mono ⟨fun σ' H' ⟨ρ', F', μ', g, m', e', q⟩ => k _ _ ⟨_, F', μ', g, m', .non, q⟩, fun v H' q => k _ _ q, fun σ' H' q => ?_, fun σ' H' q => ?_⟩
      · obtain ⟨_, _, _, _, _, _, q⟩ := q
        exact q.elim
      · obtain ⟨_, _, _, _, _, _, q⟩ := q
        exact q.elim
end
end DL
/-! What a program wants, reckoned; loops, comprehensions. -/
namespace DL
open PySem PySem.Spec PyProof.Rows L2
section
variable {G : Gc} {ρ r : Rho} {μ : Mem} {Q : DK} {X : EK} {K : DEnds} {q : Bool → Prop}
/-! ### expressions -/
theorem w_v {i : Nat} : wp G (.v i) ρ μ Q X = getV ρ i fun d => Q d μ := rfl
theorem g_z {d : D} {k : D → Prop} : getV (some d :: r) 0 k = k d := rfl
theorem g_s {o : Option D} {i : Nat} {k : D → Prop} : getV (o :: r) (i + 1) k = getV r i k := rfl
theorem w_g {x : Str} : wp G (.g x) ρ μ Q X = optD (G.cst x) fun d => Q d μ := rfl
theorem w_rep2 {a : E} {l : Str} {o : E} {y z : Str} {Q : List D → Mem → Prop} : wps G (.rep2 a l o y z) ρ μ Q X = wp G a ρ μ (fun x μ1 => addOk x l ∧ wp G o ρ μ1 (fun v μ2 => rep2D x l v y z fun ds => Q ds μ2) X) X := rfl
theorem ad_s {s l : Str} : addOk (.str s) l = (s.length + l.length ≤ 16777216) := rfl
theorem r2_s {s l t y z : Str} {q : List D → Prop} : rep2D (.str s) l (.str t) y z q = (t.length + (t.length + 1) * z.length ≤ 16777216 ∧ q [.str (s ++ l), .str (Txt.replace t y z)]) := rfl
theorem w_non : wp G .non ρ μ Q X = Q .non μ := rfl
theorem w_bl {b : Bool} : wp G (.bl b) ρ μ Q X = Q (.bl b) μ := rfl
theorem w_int {i : Int} : wp G (.int i) ρ μ Q X = Q (.int i) μ := rfl
theorem w_str {s : Str} : wp G (.str s) ρ μ Q X = Q (.str s) μ := rfl
theorem w_bin {z : Bool} {o : Op2} {a b : E} : wp G (.bin z o a b) ρ μ Q X = wp G a ρ μ (fun x μ1 => wp G b ρ μ1 (fun y μ2 => binD z o x y μ2 Q) X) X := rfl
theorem w_neg {a : E} : wp G (.neg a) ρ μ Q X = wp G a ρ μ (fun x μ1 => intK x fun i => Q (.int (-i)) μ1) X := rfl
theorem w_cmp {o : Cm} {a b : E} : wp G (.cmp o a b) ρ μ Q X = wp G a ρ μ (fun x μ1 => wp G b ρ μ1 (fun y μ2 => cmpD o x y μ2 fun c => Q (.bl c) μ2) X) X := rfl
theorem w_chain {o o' : Cm} {a b c : E} : wp G (.chain o o' a b c) ρ μ Q X = wp G a ρ μ (fun x μ1 => wp G b ρ μ1 (fun y μ2 => cmpD o x y μ2 fun k =>
      if k = true then wp G c ρ μ2 (fun z μ3 => cmpD o' y z μ3 fun k' => Q (.bl k') μ3) X else Q (.bl false) μ2) X) X := rfl
theorem w_and {a b : E} : wp G (.and a b) ρ μ Q X = wp G a ρ μ (fun x μ1 => truD x μ1 fun c => if c = true then wp G b ρ μ1 Q X else Q x μ1) X := rfl
theorem w_or {a b : E} : wp G (.or a b) ρ μ Q X = wp G a ρ μ (fun x μ1 => truD x μ1 fun c => if c = true then Q x μ1 else wp G b ρ μ1 Q X) X := rfl
theorem w_not {a : E} : wp G (.not a) ρ μ Q X = wp G a ρ μ (fun x μ1 => truD x μ1 fun c => Q (.bl (!c)) μ1) X := rfl
theorem w_ite {t : Te} {a b : E} : wp G (.ite t a b) ρ μ Q X = wpT G t ρ μ (fun c μ1 => if c = true then wp G a ρ μ1 Q X else wp G b ρ μ1 Q X) X := rfl
theorem w_tup {es : Es} : wp G (.tup es) ρ μ Q X = wps G es ρ μ (fun ds μ1 => ds.length ≤ 16777216 ∧ Q (.tup ds) μ1) X := rfl
theorem w_lst {z : Bool} {es : Es} : wp G (.lst z es) ρ μ Q X = wps G es ρ μ (fun ds μ1 => ds.length ≤ 16777216 ∧ newL z ds μ1 Q) X := rfl
theorem w_ix {a i : E} : wp G (.ix a i) ρ μ Q X = wp G a ρ μ (fun x μ1 => wp G i ρ μ1 (fun y μ2 => ixD x y μ2 Q) X) X := rfl
theorem w_sl {z : Bool} {a : E} {lo hi : Eo} : wp G (.sl z a lo hi) ρ μ Q X = wp G a ρ μ (fun x μ1 => wpO G lo ρ μ1 (fun l μ2 => wpO G hi ρ μ2 (fun h μ3 => slD z x l h μ3 Q) X) X) X := rfl
theorem w_lc {z : Bool} {tg : T} {it : It} {cs : Tes} {elt : E} : wp G (.lc z tg it cs elt) ρ μ Q X = wpI G it ρ μ (fun items ok μ1 => LC items μ1 ok (fun x μ2 R =>
      wpTg tg x (wipeR ρ tg.slots) μ2 fun ρ' μ3 => wpTs G cs ρ' μ3 (fun b μ4 => if b = true then wp G elt ρ' μ4 (fun d μ5 => R (some d) μ5) X else R none μ4) X)
      fun acc μ2 => newL z acc μ2 Q) X := rfl
theorem w_call {f : Str} {es : Es} : wp G (.call f es) ρ μ Q X = wps G es ρ μ (fun ds μ1 => G.fn f ds μ1 Q X) X := rfl
theorem w_bi {z : Bool} {f : Bi} {es : Es} : wp G (.bi z f es) ρ μ Q X = wps G es ρ μ (fun ds μ1 => biD z f ds μ1 Q) X := rfl
theorem w_isi {a : E} {t : Ty} : wp G (.isi a t) ρ μ Q X = wp G a ρ μ (fun x μ1 => isiOk x μ1 ∧ Q (.bl (isiD x t)) μ1) X := rfl
theorem w_mt {z : Bool} {m : Mt} {o e : E} : wp G (.mt z m o e) ρ μ Q X = wp G o ρ μ (fun x μ1 => strIs x ∧ wp G e ρ μ1 (fun d μ2 => mtD z m x [d] μ2 Q) X) X := rfl
theorem w_sq {m : Sq} {o e : E} : wp G (.sq m o e) ρ μ Q X = wp G o ρ μ (fun x μ1 => strIs x ∧ wp G e ρ μ1 (fun d μ2 => sqD m x d μ2 Q) X) X := rfl
theorem w_popE {o : E} : wp G (.popE o) ρ μ Q X = wp G o ρ μ (fun x μ1 => chg x μ1 fun a l => optD l.getLast? fun d => Q d (mset μ1 a (.lst l.dropLast))) X := rfl
theorem w_popI {o i : E} : wp G (.popI o i) ρ μ Q X = wp G o ρ μ (fun x μ1 => (∃ l, seqL μ1 x = some l) ∧ wp G i ρ μ1 (fun k μ2 => intK k fun k => chg x μ2 fun a l => (-9223372036854775808 ≤ k ∧ k < 9223372036854775808) ∧ optD (seqIndex? k l.length) fun j => optD l[j]? fun d => Q d (mset μ2 a (.lst (l.eraseIdx j)))) X) X := rfl
theorem w_mkx1 {c : Str} {a : E} : wp G (.mkx1 c a) ρ μ Q X = (G.ex.exv c = some none ∧ wp G a ρ μ (fun _ μ1 => Q (.exc c [] []) μ1) X) := rfl
theorem w_mkx {c : Str} {es : Es} : wp G (.mkx c es) ρ μ Q X = optD (G.ex.exv c) fun x => optD x fun y => wps G es ρ μ (fun ds μ1 => mkxD c (some y) ds μ1 Q) X := rfl
theorem w_isx {a : E} {t : Str} : wp G (.isx a t) ρ μ Q X = wp G a ρ μ (fun x μ1 => isxD G.ex x t fun b => Q (.bl b) μ1) X := rfl
theorem w_atx {a : E} {f : Str} : wp G (.atx a f) ρ μ Q X = wp G a ρ μ (fun x μ1 => atxD G.ex x f fun d => Q d μ1) X := rfl
theorem mkx_2 {c f1 f2 : Str} {g : Option Nat} {d1 d2 : D} : mkxD c (some (f1, f2, g)) [d1, d2] μ Q = (gOk g d2 ∧ Q (.exc c [f2, f1] [d2, d1]) μ) := rfl
theorem gok_n {d : D} : gOk none d = True := rfl
theorem gok_s {n : Nat} {t : Str} : gOk (some n) (.str t) = (n + t.length ≤ sizeLine) := rfl
theorem isx_e {ex : ExI} {c t : Str} {ns : List Str} {ds : List D} : isxD ex (.exc c ns ds) t q = ((ex.exv c).isSome = true ∧ optD (ex.sub c t) q) := rfl
theorem atx_e {ex : ExI} {c f : Str} {ns : List Str} {ds : List D} {q : D → Prop} : atxD ex (.exc c ns ds) f q = ((ex.exv c).isSome = true ∧ ex.fld c f = true ∧ optD ((ns.zip ds).lookup f) q) := rfl
theorem w_emp : wp G .emp ρ μ Q X = Q .emp μ := rfl
theorem w_fz {a : E} : wp G (.fz a) ρ μ Q X = wp G a ρ μ (fun x μ1 => fzD x μ1 Q) X := rfl
theorem w_sset {z : Bool} {a : E} : wp G (.sset z a) ρ μ Q X = wp G a ρ μ (fun x μ1 => ssetD z x μ1 Q) X := rfl
theorem w_nset {a : E} : wp G (.nset a) ρ μ Q X = wp G a ρ μ (fun x μ1 => nsetD x μ1 Q) X := rfl
theorem w_pt {a : E} : wp G (.pt a) ρ μ Q X = wp G a ρ μ (fun x μ1 => shutD x μ1 fun μ2 => Q x μ2) X := rfl
theorem w_shut {i : Nat} {a : E} : wp G (.shut i a) ρ μ Q X = wp G a ρ μ (fun x μ1 => getV ρ i fun y => shutD y μ1 fun μ2 => Q x μ2) X := rfl
theorem w_drop {is : List Nat} {a : E} : wp G (.drop is a) ρ μ Q X = wp G a ρ μ (fun x μ1 => Q x (dropM ρ is μ1)) X := rfl
theorem w_nil {Q : List D → Mem → Prop} : wps G .nil ρ μ Q X = Q [] μ := rfl
theorem w_cons {e : E} {es : Es} {Q : List D → Mem → Prop} : wps G (.cons e es) ρ μ Q X = wp G e ρ μ (fun d μ1 => wps G es ρ μ1 (fun ds μ2 => Q (d :: ds) μ2) X) X := rfl
theorem w_no {Q : Option Int → Mem → Prop} : wpO G .no ρ μ Q X = Q none μ := rfl
theorem w_one {e : E} {Q : Option Int → Mem → Prop} : wpO G (.one e) ρ μ Q X = wp G e ρ μ (fun d μ1 => parD d fun i => Q i μ1) X := rfl
theorem t_val {e : E} {Q : Bool → Mem → Prop} : wpT G (.val e) ρ μ Q X = wp G e ρ μ (fun x μ1 => truD x μ1 fun c => Q c μ1) X := rfl
theorem t_cm {o : Cm} {a b : E} {Q : Bool → Mem → Prop} : wpT G (.cm o a b) ρ μ Q X = wp G a ρ μ (fun x μ1 => wp G b ρ μ1 (fun y μ2 => cmpD o x y μ2 fun c => Q c μ2) X) X := rfl
theorem t_and {a b : Te} {Q : Bool → Mem → Prop} : wpT G (.and a b) ρ μ Q X = wpT G a ρ μ (fun c μ1 => if c = true then wpT G b ρ μ1 Q X else Q false μ1) X := rfl
theorem t_or {a b : Te} {Q : Bool → Mem → Prop} : wpT G (.or a b) ρ μ Q X = wpT G a ρ μ (fun c μ1 => if c = true then Q true μ1 else wpT G b ρ μ1 Q X) X := rfl
theorem t_not {a : Te} {Q : Bool → Mem → Prop} : wpT G (.not a) ρ μ Q X = wpT G a ρ μ (fun c μ1 => Q (!c) μ1) X := rfl
theorem t_nil {Q : Bool → Mem → Prop} : wpTs G .nil ρ μ Q X = Q true μ := rfl
theorem t_one {t : Te} {Q : Bool → Mem → Prop} : wpTs G (.one t) ρ μ Q X = wpT G t ρ μ Q X := rfl
theorem i_seq {e : E} {R : List D → (Mem → Prop) → Mem → Prop} : wpI G (.seq e) ρ μ R X = wp G e ρ μ (fun x μ1 => seqIt x μ1 R) X := rfl
theorem i_range1 {a : E} {R : List D → (Mem → Prop) → Mem → Prop} : wpI G (.range1 a) ρ μ R X = wp G a ρ μ (fun x μ1 => rng1 x μ1 R) X := rfl
theorem i_range2 {a b : E} {R : List D → (Mem → Prop) → Mem → Prop} : wpI G (.range2 a b) ρ μ R X = wp G a ρ μ (fun x μ1 => wp G b ρ μ1 (fun y μ2 => rng2 x y μ2 R) X) X := rfl
theorem i_enum {a : E} {R : List D → (Mem → Prop) → Mem → Prop} : wpI G (.enum a) ρ μ R X = wp G a ρ μ (fun x μ1 => enumIt x μ1 R) X := rfl
theorem i_zip {a b : E} {R : List D → (Mem → Prop) → Mem → Prop} : wpI G (.zip a b) ρ μ R X = wp G a ρ μ (fun x μ1 => wp G b ρ μ1 (fun y μ2 => zipIt x y μ2 R) X) X := rfl
theorem i_rev {a : E} {R : List D → (Mem → Prop) → Mem → Prop} : wpI G (.rev a) ρ μ R X = wp G a ρ μ (fun x μ1 => revIt x μ1 R) X := rfl
/-! ### statements -/
theorem s_nil : wpSs G .nil ρ μ K X = K.nx ρ μ := rfl
theorem s_one {s : S} : wpSs G (.cons s .nil) ρ μ K X = wpS G s ρ μ K X := rfl
theorem s_cons {s s' : S} {ss : Ss} : wpSs G (.cons s (.cons s' ss)) ρ μ K X = wpS G s ρ μ ⟨fun ρ' μ' => wpSs G (.cons s' ss) ρ' μ' K X, K.rt, K.bk, K.ct⟩ X := rfl
theorem s_set {i : Nat} {e : E} : wpS G (.set i e) ρ μ K X = wp G e ρ μ (fun d μ1 => K.nx (ρ.set i (some d)) μ1) X := rfl
theorem s_asg {t : T} {e : E} : wpS G (.asg t e) ρ μ K X = wp G e ρ μ (fun d μ1 => wpTg t d ρ μ1 K.nx) X := rfl
theorem s_par {i j : Nat} {a b : E} : wpS G (.par i j a b) ρ μ K X = wp G a ρ μ (fun x μ1 => wp G b ρ μ1 (fun y μ2 => K.nx ((ρ.set i (some x)).set j (some y)) μ2) X) X := rfl
theorem s_setIx {o i e : E} : wpS G (.setIx o i e) ρ μ K X = wp G e ρ μ (fun d μ1 => wp G o ρ μ1 (fun x μ2 => wp G i ρ μ2 (fun k μ3 => setD x k d μ3 fun μ4 => K.nx ρ μ4) X) X) X := rfl
def tup2 (d : D) (k : D → D → Prop) : Prop := match d with
  | .tup [a, b] => k a b
  | _ => False
theorem s_setIx2 {o i e : E} {j : Nat} : wpS G (.setIx2 o i j e) ρ μ K X = wp G e ρ μ (fun d μ1 => tup2 d fun d1 d2 => wp G o ρ μ1 (fun x μ2 => wp G i ρ μ2 (fun k μ3 => setD x k d1 μ3 fun μ4 => K.nx (ρ.set j (some d2)) μ4) X) X) X := rfl
theorem tup2_ok {a b : D} {k : D → D → Prop} : tup2 (.tup [a, b]) k = k a b := rfl
theorem s_aug {i : Nat} {o : Op2} {e : E} : wpS G (.aug i o e) ρ μ K X = getV ρ i fun x => intK x fun a => wp G e ρ μ (fun y μ1 => intK y fun b => K.nx (ρ.set i (some (.int (a + b)))) μ1) X := rfl
theorem s_expr {e : E} : wpS G (.expr e) ρ μ K X = wp G e ρ μ (fun _ μ1 => K.nx ρ μ1) X := rfl
theorem s_app {o e : E} : wpS G (.app o e) ρ μ K X = wp G o ρ μ (fun x μ1 => (∃ l, seqL μ1 x = some l) ∧ wp G e ρ μ1 (fun d μ2 => chg x μ2 fun a l => l.length < 16777216 ∧ K.nx ρ (mset μ2 a (.lst (l ++ [d])))) X) X := rfl
theorem s_pop {o : E} : wpS G (.pop o) ρ μ K X = wp G o ρ μ (fun x μ1 => chg x μ1 fun a l => l ≠ [] ∧ K.nx ρ (mset μ1 a (.lst l.dropLast))) X := rfl
theorem s_ins {o i e : E} : wpS G (.ins o i e) ρ μ K X = wp G o ρ μ (fun x μ1 => (∃ l, seqL μ1 x = some l) ∧ wp G i ρ μ1 (fun k μ2 => intK k fun k => wp G e ρ μ2 (fun d μ3 => chg x μ3 fun a l => l.length < 16777216 ∧ (0 ≤ k ∧ k < 9223372036854775808) ∧ K.nx ρ (mset μ3 a (.lst (l.take k.toNat ++ [d] ++ l.drop k.toNat)))) X) X) X := rfl
theorem s_raise {c s : Str} : wpS G (.raise c s) ρ μ K X = (G.ex.exs c = true ∧ X c [] μ) := rfl
theorem s_tryAs {b : Ss} {c : Str} {i : Nat} {h : HSs} : wpS G (.tryAs b c i h) ρ μ K X = ((G.ex.sub c c).isSome = true ∧ wpSs G b ρ μ K fun c' fs μ' => optD (G.ex.sub c' c) fun v => if v = true then wpHs ⟨G.ex.sub c', G.ex.fld c', fs⟩ h (blankR ρ) μ' K else X c' fs μ') := rfl
theorem s_try {b : Ss} {c : Str} {h : HSs} : wpS G (.try_ b c h) ρ μ K X = ((G.ex.sub c c).isSome = true ∧ wpSs G b ρ μ K fun c' fs μ' => optD (G.ex.sub c' c) fun v => if v = true then wpHs ⟨G.ex.sub c', G.ex.fld c', fs⟩ h (blankR ρ) μ' K else X c' fs μ') := rfl
theorem sq_x {a b : Str} : sqD .index (.str a) (.str b) μ Q = optD (Builtin.Str.occurrences a b 0 a.length 1).head? fun i => Q (.int (i : Nat)) μ := rfl
theorem sq_f {a b : Str} : sqD .find (.str a) (.str b) μ Q = Q (.int (Txt.find a b)) μ := rfl
theorem sq_c {a b : Str} : sqD .count (.str a) (.str b) μ Q = Q (.int (Txt.count a b)) μ := rfl
theorem s_ext {o e : E} : wpS G (.ext o e) ρ μ K X = wp G o ρ μ (fun x μ1 => (∃ l, seqL μ1 x = some l) ∧ wp G e ρ μ1 (fun d μ2 => chg x μ2 fun a l => optD (seqP μ2 d) fun r => l.length + r.length ≤ 16777216 ∧ K.nx ρ (mset μ2 a (.lst (l ++ r)))) X) X := rfl
theorem s_clear {o : E} : wpS G (.clear o) ρ μ K X = wp G o ρ μ (fun x μ1 => chg x μ1 fun a _ => K.nx ρ (mset μ1 a (.lst []))) X := rfl
theorem s_ret {e : E} : wpS G (.ret e) ρ μ K X = wp G e ρ μ K.rt X := rfl
theorem s_retN : wpS G .retN ρ μ K X = K.rt .non μ := rfl
theorem s_ite {t : Te} {a b : Ss} : wpS G (.ite t a b) ρ μ K X = wpT G t ρ μ (fun c μ1 => if c = true then wpSs G a ρ μ1 K X else wpSs G b ρ μ1 K X) X := rfl
theorem s_for {ws : List Nat} {t : T} {it : It} {b : Ss} : wpS G (.for_ ws t it b) ρ μ K X = wpI G it ρ μ (fun items ok μ1 => LP items (wipeR ρ ws) μ1 ok (fun x ρ' μ' K' => wpTg t x ρ' μ' fun ρ2 μ2 => wpSs G b ρ2 μ2 (wipeK ws K') X) K) X := rfl
theorem s_while {ws : List Nat} {t : Te} {b : Ss} : wpS G (.while_ ws t b) ρ μ K X = LW (wipeR ρ ws) μ (fun ρ' μ' q => wpT G t ρ' μ' q X) (fun ρ' μ' K' => wpSs G b ρ' μ' (wipeK ws K') X) K := rfl
theorem s_pass : wpS G .pass ρ μ K X = K.nx ρ μ := rfl
theorem s_brk : wpS G .brk ρ μ K X = K.bk ρ μ := rfl
theorem s_cont : wpS G .cont ρ μ K X = K.ct ρ μ := rfl
theorem s_opn {i : Nat} : wpS G (.opn i) ρ μ K X = getV ρ i fun y => openD y μ fun μ2 => K.nx ρ μ2 := rfl
theorem s_drp {is : List Nat} : wpS G (.drp is) ρ μ K X = K.nx ρ (dropM ρ is μ) := rfl
/-! ### targets -/
theorem tg_v {i : Nat} {d : D} {k : Rho → Mem → Prop} : wpTg (.v i) d ρ μ k = k (ρ.set i (some d)) μ := rfl
theorem tg_lst {ts : Ts} {ds : List D} {k : Rho → Mem → Prop} : wpTg (.tup ts) (.lst ds) ρ μ k = wpTgs ts ds ρ μ k := rfl
theorem d_muls {z : Bool} {s : Str} {k : Int} {Q : DK} : binD z .mul (.str s) (.int k) μ Q = ((0 ≤ k ∧ k ≤ 1) ∧ Q (.str (if k = 1 then s else ⟨#[]⟩)) μ) := rfl
theorem w_lax {is : List Nat} {a : E} : wp G (.lax is a) ρ μ Q X = wp G a ρ μ Q (fun c ds μ' => X c ds (dropM ρ is μ')) := rfl
theorem w_cnt {o e : E} : wp G (.cnt o e) ρ μ Q X = wp G o ρ μ (fun x μ1 => (∃ l, seqL μ1 x = some l) ∧ wp G e ρ μ1 (fun d μ2 => cntD x d μ2 Q) X) X := rfl
theorem w_spm {z : Bool} {o a b : E} : wp G (.spm z o a b) ρ μ Q X = wp G o ρ μ (fun x μ1 => strIs x ∧ wp G a ρ μ1 (fun d μ2 => wp G b ρ μ2 (fun k μ3 => spmD z x d k μ3 Q) X) X) X := rfl
theorem w_rpr {a : E} : wp G (.rpr a) ρ μ Q X = (G.grd = true ∧ wp G a ρ μ (fun x μ1 => rprD x μ1 Q) X) := rfl
theorem sp_m {z : Bool} {a b : Str} {k : Int} : spmD z (.str a) (.str b) (.int k) μ Q = ((b.length == 0) = false ∧ (-(2 ^ 63) ≤ k ∧ k < 2 ^ 63) ∧ a.length + 2 ≤ 16777216 ∧ newL z ((Txt.splitMax a b k).map D.str) μ Q) := rfl
theorem rp_t {l : List D} : rprD (.tup l) μ Q = ((D.tup l).ok = true ∧ (D.tup l).dep ≤ 64 ∧ (D.tup l).py.showable = true ∧ (D.tup l).py.shown.length ≤ 16777216 ∧ Q (.str (D.tup l).py.shown) μ) := rfl
theorem tg_tup {ts : Ts} {ds : List D} {k : Rho → Mem → Prop} : wpTg (.tup ts) (.tup ds) ρ μ k = wpTgs ts ds ρ μ k := rfl
theorem tg_nil {ds : List D} {k : Rho → Mem → Prop} : wpTgs .nil ds ρ μ k = (ds = [] ∧ k ρ μ) := rfl
theorem tg_cons {t : T} {ts : Ts} {d : D} {ds : List D} {k : Rho → Mem → Prop} : wpTgs (.cons t ts) (d :: ds) ρ μ k = wpTg t d ρ μ fun ρ' μ' => wpTgs ts ds ρ' μ' k := rfl
theorem wr_nil : wipeR ρ [] = ρ := rfl
theorem wr_cons {v : Nat} {vs : List Nat} : wipeR ρ (v :: vs) = (wipeR ρ vs).set v none := rfl
theorem sl_v {i : Nat} : T.slots (.v i) = [i] := rfl
theorem sl_tup {ts : Ts} : T.slots (.tup ts) = Ts.slots ts := rfl
theorem sl_nil : Ts.slots .nil = [] := rfl
theorem sl_cons {t : T} {ts : Ts} : Ts.slots (.cons t ts) = T.slots t ++ Ts.slots ts := rfl
theorem wk_nx {ws : List Nat} : (wipeK ws K).nx ρ μ = K.nx (wipeR ρ ws) μ := rfl
theorem wk_ct {ws : List Nat} : (wipeK ws K).ct ρ μ = K.ct (wipeR ρ ws) μ := rfl
theorem wk_bk {ws : List Nat} : (wipeK ws K).bk ρ μ = K.bk (wipeR ρ ws) μ := rfl
theorem wk_rt {ws : List Nat} {d : D} : (wipeK ws K).rt d μ = K.rt d μ := rfl
theorem ls_z {o x : Option D} : (o :: r).set 0 x = x :: r := rfl
theorem ls_s {o x : Option D} {i : Nat} : (o :: r).set (i + 1) x = o :: r.set i x := rfl
/-! ### data -/
theorem d_addi {z : Bool} {i j : Int} : binD z .add (.int i) (.int j) μ Q = Q (.int (i + j)) μ := rfl
theorem d_adds {z : Bool} {i j : Str} : binD z .add (.str i) (.str j) μ Q = (i.length + j.length ≤ 16777216 ∧ Q (.str (i ++ j)) μ) := rfl
theorem d_addt {z : Bool} {i j : List D} : binD z .add (.tup i) (.tup j) μ Q = (i.length + j.length ≤ 16777216 ∧ Q (.tup (i ++ j)) μ) := rfl
theorem d_addl {z : Bool} {i : List D} {y : D} : binD z .add (.lst i) y μ Q = optD (seqP μ y) fun b => i.length + b.length ≤ 16777216 ∧ newL z (i ++ b) μ Q := rfl
theorem d_addr {z : Bool} {a : Addr} {y : D} : binD z .add (.ref a) y μ Q = optD (seqP μ (.ref a)) fun i => optD (seqP μ y) fun b => i.length + b.length ≤ 16777216 ∧ newL z (i ++ b) μ Q := rfl
theorem d_sub {z : Bool} {i j : Int} : binD z .sub (.int i) (.int j) μ Q = Q (.int (i - j)) μ := by
  show (True ∧ Q (.int (i - j)) μ) = _
  simp
theorem d_mul {z : Bool} {i j : Int} : binD z .mul (.int i) (.int j) μ Q = (((-18446744073709551616 < i ∧ i < 18446744073709551616) ∨ (-18446744073709551616 < j ∧ j < 18446744073709551616)) ∧ Q (.int (i * j)) μ) := rfl
theorem d_fdiv {z : Bool} {i j : Int} : binD z .fdiv (.int i) (.int j) μ Q = ((0 < j ∧ j < 1073741824) ∧ Q (.int (i / j)) μ) := rfl
theorem d_mod {z : Bool} {i j : Int} : binD z .mod (.int i) (.int j) μ Q = (0 < j ∧ Q (.int (i % j)) μ) := rfl
theorem d_pow {z : Bool} {i j : Int} : binD z .pow (.int i) (.int j) μ Q = ((0 ≤ j ∧ j ≤ 1000000 ∧ -18446744073709551616 < i ∧ i < 18446744073709551616) ∧ Q (.int (i ^ j.toNat)) μ) := by
  show ((0 ≤ j ∧ j ≤ 1000000 ∧ i.natAbs < 2 ^ 64) ∧ _) = _
  apply propext
  constructor
  · rintro ⟨⟨a, b, c⟩, q⟩
    exact ⟨⟨a, b, by omega, by omega⟩, q⟩
  · rintro ⟨⟨a, b, c, d⟩, q⟩
    exact ⟨⟨a, b, by omega⟩, q⟩
theorem n_t {ds : List D} : newL true ds μ Q = Q (.lst ds) μ := rfl
theorem n_f {ds : List D} : newL false ds μ Q = ∀ p, μ p = none → Q (.ref p) (mset μ p (.lst ds)) := rfl
theorem sl_lst {l : List D} : seqL μ (.lst l) = some l := rfl
theorem sl_lk {l : List D} : seqL μ (.lk l) = some l := rfl
theorem sp_lst {l : List D} : seqP μ (.lst l) = some l := rfl
theorem sa_lst {l : List D} : seqA μ (.lst l) = some l := rfl
theorem sa_lk {l : List D} : seqA μ (.lk l) = some l := rfl
theorem sa_tup {l : List D} : seqA μ (.tup l) = some l := rfl
theorem sl_ref {p : Addr} {l : List D} : seqL (mset μ p (.lst l)) (.ref p) = some l := by unfold seqL; simp only [mset_same]
theorem sp_ref {p : Addr} {l : List D} : seqP (mset μ p (.lst l)) (.ref p) = some l := by unfold seqP; simp only [mset_same]
theorem sa_ref {p : Addr} {l : List D} : seqA (mset μ p (.lst l)) (.ref p) = some l := sl_ref
theorem d_mull {z : Bool} {a : List D} {k : Int} {Q : DK} : binD z .mul (.lst a) (.int k) μ Q = (a ≠ [] ∧ 2 ≤ k ∧ k ≤ 1000 ∧ a.length ≤ 1000 ∧ Q (.lst (List.replicate k.toNat a).flatten) μ) := rfl
theorem c_eqi {i j : Int} : cmpD .eq (.int i) (.int j) μ q = q (decide (i = j)) := rfl
theorem c_eqs {i j : Str} : cmpD .eq (.str i) (.str j) μ q = q (decide (i = j)) := rfl
theorem c_nei {i j : Int} : cmpD .ne (.int i) (.int j) μ q = q (!decide (i = j)) := rfl
theorem c_nes {i j : Str} : cmpD .ne (.str i) (.str j) μ q = q (!decide (i = j)) := rfl
theorem c_lt {i j : Int} : cmpD .lt (.int i) (.int j) μ q = q (decide (i < j)) := rfl
theorem c_le {i j : Int} : cmpD .le (.int i) (.int j) μ q = q (decide (i ≤ j)) := rfl
theorem c_gt {i j : Int} : cmpD .gt (.int i) (.int j) μ q = q (decide (j < i)) := rfl
theorem c_ge {i j : Int} : cmpD .ge (.int i) (.int j) μ q = q (decide (j ≤ i)) := rfl
theorem c_lts {i j : Str} : cmpD .lt (.str i) (.str j) μ q = q (decide (i.cps.toList < j.cps.toList)) := rfl
theorem c_les {i j : Str} : cmpD .le (.str i) (.str j) μ q = q (!decide (j.cps.toList < i.cps.toList)) := rfl
theorem c_gts {i j : Str} : cmpD .gt (.str i) (.str j) μ q = q (decide (j.cps.toList < i.cps.toList)) := rfl
theorem c_ges {i j : Str} : cmpD .ge (.str i) (.str j) μ q = q (!decide (i.cps.toList < j.cps.toList)) := rfl
theorem c_is {x : D} : cmpD .is x .non μ q = q x.isNon := rfl
theorem c_isnot {x : D} : cmpD .isnot x .non μ q = q (!x.isNon) := rfl
theorem n_non : D.isNon .non = true := rfl
theorem n_int {i : Int} : D.isNon (.int i) = false := rfl
theorem n_str {i : Str} : D.isNon (.str i) = false := rfl
theorem n_bl {i : Bool} : D.isNon (.bl i) = false := rfl
theorem n_tup {i : List D} : D.isNon (.tup i) = false := rfl
theorem n_lst {i : List D} : D.isNon (.lst i) = false := rfl
theorem n_ref {i : Addr} : D.isNon (.ref i) = false := rfl
theorem u_bl {b : Bool} : truD (.bl b) μ q = q b := rfl
theorem u_int {i : Int} : truD (.int i) μ q = q (i != 0) := rfl
theorem u_non : truD .non μ q = q false := rfl
theorem u_tup {l : List D} : truD (.tup l) μ q = q (!l.isEmpty) := rfl
theorem u_lst {l : List D} : truD (.lst l) μ q = q (!l.isEmpty) := rfl
theorem x_t {l : List D} {k : Int} : ixD (.tup l) (.int k) μ Q = optD (atI l k) fun d => Q d μ := rfl
theorem x_l {l : List D} {k : Int} : ixD (.lst l) (.int k) μ Q = optD (atI l k) fun d => Q d μ := rfl
theorem x_lk {l : List D} {k : Int} : ixD (.lk l) (.int k) μ Q = optD (atI l k) fun d => Q d μ := rfl
theorem x_r {a : Addr} {k : Int} : ixD (.ref a) (.int k) μ Q = optD (seqL μ (.ref a)) fun l => optD (atI l k) fun d => Q d μ := rfl
theorem x_s {s : Str} {k : Int} : ixD (.str s) (.int k) μ Q = (s.length ≤ 16777216 ∧ optD (atI s.cps.toList k) fun c => Q (.str ⟨#[c]⟩) μ) := rfl
theorem a_nat {A : Type} {l : List A} {k : Int} (h0 : 0 ≤ k) : atI l k = l[k.toNat]? := by
  unfold atI ixN
  rw [if_pos h0]
  split
  · rfl
  · rename_i h
    rw [List.getElem?_eq_none (by omega)]
    rfl
theorem a_0 {A : Type} {a : A} {l : List A} : atI (a :: l) 0 = some a := a_nat (by decide)
theorem a_1 {A : Type} {a b : A} {l : List A} : atI (a :: b :: l) 1 = some b := a_nat (by decide)
theorem a_2 {A : Type} {a b c : A} {l : List A} : atI (a :: b :: c :: l) 2 = some c := a_nat (by decide)
theorem a_3 {A : Type} {a b c d : A} {l : List A} : atI (a :: b :: c :: d :: l) 3 = some d := a_nat (by decide)
theorem a_m1 {A : Type} {l : List A} : atI l (-1) = l.getLast? := by
  unfold atI ixN
  rw [if_neg (by decide)]
  cases l with
  | nil => rfl
  | cons a r =>
    rw [if_pos (by simp only [List.length_cons]; omega), List.getLast?_eq_getElem?]
    show (a :: r)[_]? = _
    congr 1
    simp only [List.length_cons]
    omega
theorem z_r {a : Addr} : fzD (.ref a) μ Q = optD (seqL μ (.ref a)) fun l => Q (.lst l) (mdel μ a) := rfl
theorem ik {i : Int} {k : Int → Prop} : intK (.int i) k = k i := rfl
theorem pk {i : Int} {k : Option Int → Prop} : parD (.int i) k = k (some i) := rfl
theorem l_s {s : Str} : biD true .len [.str s] μ Q = (s.length ≤ 16777216 ∧ Q (.int s.length) μ) := rfl
theorem l_t {l : List D} : biD true .len [.tup l] μ Q = Q (.int l.length) μ := rfl
theorem l_l {l : List D} : biD true .len [.lst l] μ Q = Q (.int l.length) μ := rfl
theorem l_lk {l : List D} : biD true .len [.lk l] μ Q = Q (.int l.length) μ := rfl
theorem l_r {a : Addr} : biD true .len [.ref a] μ Q = optD (seqL μ (.ref a)) fun l => Q (.int l.length) μ := rfl
theorem b_tuple {z : Bool} {x : D} : biD z .tuple [x] μ Q = optD (seqA μ x) fun l => Q (.tup l) μ := rfl
theorem b_listt {z : Bool} {l : List D} : biD z .list [.tup l] μ Q = newL z l μ Q := rfl
theorem b_listl {z : Bool} {l : List D} : biD z .list [.lst l] μ Q = newL z l μ Q := rfl
theorem b_listk {z : Bool} {l : List D} : biD z .list [.lk l] μ Q = newL z l μ Q := rfl
theorem b_listr {z : Bool} {a : Addr} : biD z .list [.ref a] μ Q = optD (seqL μ (.ref a)) fun l => newL z l μ Q := rfl
theorem b_lists {z : Bool} {s : Str} : biD z .list [.str s] μ Q = (s.length ≤ 16777216 ∧ newL z (chars s) μ Q) := rfl
theorem b_inti {z : Bool} {i : Int} : biD z .int [.int i] μ Q = Q (.int i) μ := rfl
theorem b_intb {z : Bool} {b : Bool} : biD z .int [.bl b] μ Q = Q (.int (if b then 1 else 0)) μ := rfl
theorem b_abs {z : Bool} {i : Int} : biD z .abs [.int i] μ Q = Q (.int (if i < 0 then -i else i)) μ := rfl
theorem b_max {z : Bool} {i j : Int} : biD z .max [.int i, .int j] μ Q = Q (.int (if decide (j > i) = true then j else i)) μ := rfl
theorem b_min {z : Bool} {i j : Int} : biD z .min [.int i, .int j] μ Q = Q (.int (if decide (j < i) = true then j else i)) μ := rfl
theorem b_divmod {z : Bool} {i j : Int} : biD z .divmod [.int i, .int j] μ Q = ((0 < j ∧ j ≤ 2 ^ 256) ∧ Q (.tup [.int (i / j), .int (i % j)]) μ) := rfl
theorem b_str {z : Bool} {i : Int} : biD z .str [.int i] μ Q = (i.natAbs.log2 < 1920 ∧ Q (.str (toString i)) μ) := rfl
theorem b_strn {z : Bool} : biD z .str [.non] μ Q = Q (.str "None") μ := rfl
theorem b_strs {z : Bool} {i : Str} : biD z .str [.str i] μ Q = Q (.str i) μ := rfl
theorem b_any {z : Bool} {x : D} : biD z .any [x] μ Q = optD (seqL μ x) fun l => optD (asBls l) fun bs => Q (.bl (bs.any id)) μ := rfl
theorem b_all {z : Bool} {x : D} : biD z .all [x] μ Q = optD (seqL μ x) fun l => optD (asBls l) fun bs => Q (.bl (bs.all id)) μ := rfl
theorem b_sum {z : Bool} {x : D} : biD z .sum [x] μ Q = optD (seqL μ x) fun l => optD (asInts l) fun bs => Q (.int bs.sum) μ := rfl
theorem q_t {l : List D} {R : List D → (Mem → Prop) → Mem → Prop} : seqIt (.tup l) μ R = R l (fun _ => True) μ := rfl
theorem q_l {l : List D} {R : List D → (Mem → Prop) → Mem → Prop} : seqIt (.lst l) μ R = R l (fun _ => True) μ := rfl
theorem q_lk {l : List D} {R : List D → (Mem → Prop) → Mem → Prop} : seqIt (.lk l) μ R = R l (fun _ => True) μ := rfl
theorem q_s {l : Str} {R : List D → (Mem → Prop) → Mem → Prop} : seqIt (.str l) μ R = R (chars l) (fun _ => True) μ := rfl
theorem q_r {a : Addr} {R : List D → (Mem → Prop) → Mem → Prop} : seqIt (.ref a) μ R = optD (seqL μ (.ref a)) fun l => R l (fun μ' => seqL μ' (.ref a) = some l) μ := rfl
theorem r_1 {j : Int} {R : List D → (Mem → Prop) → Mem → Prop} : rng1 (.int j) μ R = (-(2 ^ 62) ≤ j ∧ j < 2 ^ 62 ∧ R (intsR 0 j.toNat) (fun _ => True) μ) := rfl
theorem r_2 {i j : Int} {R : List D → (Mem → Prop) → Mem → Prop} : rng2 (.int i) (.int j) μ R = ((-(2 ^ 62) ≤ i ∧ i < 2 ^ 62 ∧ -(2 ^ 62) ≤ j ∧ j < 2 ^ 62) ∧ R (intsR i (j - i).toNat) (fun _ => True) μ) := rfl
theorem m_join {z : Bool} {a : Str} {y : D} : mtD z .join (.str a) [y] μ Q = optD (seqA μ y) fun l => optD (asStrs l) fun ys => (ys.map fun x => x.length).sum + ys.length * a.length ≤ 16777216 ∧ Q (.str (Txt.join a ys)) μ := rfl
theorem m_split {z : Bool} {a b : Str} : mtD z .split (.str a) [.str b] μ Q = ((b.length == 0) = false ∧ a.length + 2 ≤ 16777216 ∧ newL z ((Txt.split a b).map D.str) μ Q) := rfl
theorem st_is {a : Str} : strIs (.str a) = True := rfl
theorem ch_r {a : Addr} {f : Addr → List D → Prop} : chg (.ref a) μ f = optD (seqL μ (.ref a)) fun l => f a l := rfl
theorem set_r {a : Addr} {k : Int} {e : D} {f : Mem → Prop} : setD (.ref a) (.int k) e μ f = optD (seqL μ (.ref a)) fun l => optD (ixN l.length k) fun j => f (mset μ a (.lst (l.set j e))) := rfl
theorem dr_nil : dropM ρ [] μ = μ := rfl
theorem dr_cons {i : Nat} {is : List Nat} : dropM ρ (i :: is) μ = dropM ρ is (mdelO μ (refAt ρ i)) := rfl
theorem md_s {a : Addr} : mdelO μ (some a) = mdel μ a := rfl
theorem md_n : mdelO μ none = μ := rfl
theorem ra_s {o : Option D} {i : Nat} : refAt (o :: r) (i + 1) = refAt r i := by
  cases o with
  | none => rfl
  | some d => cases d <;> rfl
theorem ra_r {a : Addr} : refAt (some (.ref a) :: r) 0 = some a := rfl
theorem ra_n : refAt (none :: r) 0 = none := rfl
theorem i_ok {x : D} {a : Addr} : isiOk (.ref a) μ = optD (seqL μ (.ref a)) fun _ => True := rfl
end
/-! ### pots -/
def potAt (μ : Mem) (a : Addr) : Prop := ∃ l, μ a = some (.pot l)
theorem potAt_lst {μ : Mem} {a p : Addr} {l : List D} (h : potAt μ a) (hp : μ p = none) : potAt (mset μ p (.lst l)) a := by
  obtain ⟨r, h⟩ := h
  refine ⟨r, ?_⟩
  rw [mset_ne (fun e => by rw [e, hp] at h; cases h)]
  exact h
theorem potAt_new {μ : Mem} {a : Addr} {l : List D} : potAt (mset μ a (.pot l)) a := ⟨l, mset_same⟩
/-! ### loops -/
section
variable {ρ : Rho} {μ : Mem} {K : DEnds} {ok : Mem → Prop} {step : D → Rho → Mem → DEnds → Prop}
/-- a loop over items that are told by a list: a state, where it stands in slots and memory, and what holds of it -/
theorem LP_ty {A S : Type} (l : List A) (g : A → D) (r : S → Rho) (m : S → Mem) (P : List A → S → Prop) (s0 : S) (hr : r s0 = ρ) (hm : m s0 = μ) (h0 : P [] s0)
    (hs : ∀ done a rest s, l = done ++ a :: rest → P done s → ok (m s) ∧ ∀ N : Rho → Mem → Prop, (∀ s', P (done ++ [a]) s' → N (r s') (m s')) → step (g a) (r s) (m s) ⟨N, K.rt, K.nx, N⟩)
    (hd : ∀ s, P l s → ok (m s) ∧ K.nx (r s) (m s)) : LP (l.map g) ρ μ ok step K := by
  refine ⟨fun its ρ' μ' => ∃ done rest s, l = done ++ rest ∧ its = rest.map g ∧ r s = ρ' ∧ m s = μ' ∧ P done s, ⟨[], l, s0, rfl, rfl, hr, hm, h0⟩, ?_, ?_⟩
  · rintro x xs ρ' μ' ⟨done, rest, s, e1, e2, e3, e4, hp⟩
    cases rest with
    | nil => cases e2
    | cons a rest =>
      cases e2
      subst e3 e4
      obtain ⟨h1, h2⟩ := hs done a rest s e1 hp
      exact ⟨h1, h2 _ fun s' hp' => ⟨done ++ [a], rest, s', by rw [e1]; simp, rfl, rfl, rfl, hp'⟩⟩
  · rintro ρ' μ' ⟨done, rest, s, e1, e2, e3, e4, hp⟩
    cases rest with
    | cons a rest => cases e2
    | nil =>
      rw [List.append_nil] at e1
      subst e1 e3 e4
      exact hd s hp
/-- a loop that only looks: nothing is carried -/
theorem LP_look {A : Type} (l : List A) (g : A → D) (P : List A → Prop) (h0 : P [])
    (hs : ∀ done a rest, l = done ++ a :: rest → P done → ok μ ∧ ∀ N : Rho → Mem → Prop, (P (done ++ [a]) → N ρ μ) → step (g a) ρ μ ⟨N, K.rt, K.nx, N⟩)
    (hd : P l → ok μ ∧ K.nx ρ μ) : LP (l.map g) ρ μ ok step K :=
  LP_ty l g (fun _ : Unit => ρ) (fun _ => μ) (fun d _ => P d) () rfl rfl h0 (fun done a rest _ e p => ⟨(hs done a rest e p).1, fun N hN => (hs done a rest e p).2 N (hN ())⟩) fun _ p => hd p
/-- a while: a state, a number that falls -/
theorem LW_ty {S : Type} {test : Rho → Mem → (Bool → Mem → Prop) → Prop} {body : Rho → Mem → DEnds → Prop} (r : S → Rho) (m : S → Mem) (P : S → Prop) (size : S → Nat) (s0 : S) (hr : r s0 = ρ) (hm : m s0 = μ) (h0 : P s0)
    (hs : ∀ s, P s → test (r s) (m s) fun b μ' => if b = true then ∀ N : Rho → Mem → Prop, (∀ s', size s' < size s → P s' → N (r s') (m s')) → body (r s) μ' ⟨N, K.rt, K.nx, N⟩ else K.nx (r s) μ') 
    (ht : ∀ ρ μ q q', (∀ b μ', q b μ' → q' b μ') → test ρ μ q → test ρ μ q') : LW ρ μ test body K := by
  refine ⟨fun n ρ' μ' => ∃ s, r s = ρ' ∧ m s = μ' ∧ P s ∧ size s = n, ⟨size s0, s0, hr, hm, h0, rfl⟩, ?_⟩
  rintro n ρ' μ' ⟨s, rfl, rfl, hp, rfl⟩
  refine ht _ _ _ _ (fun b μ' h => ?_) (hs s hp)
  cases b with
  | true =>
    rw [if_pos rfl] at h ⊢
    exact h _ fun s' hl hp' => ⟨size s', hl, s', rfl, rfl, hp', rfl⟩
  | false => exact h
end
/-! ### comprehensions -/
section
variable {μ : Mem} {ok : Mem → Prop} {step : D → Mem → (Option D → Mem → Prop) → Prop} {Q : List D → Mem → Prop}
/-- each item gives what a function says -/
theorem LC_fn {A : Type} (l : List A) (g : A → D) (f : A → Option D) (hl : l.length ≤ 16777216) (hok : ok μ) (hs : ∀ a ∈ l, ∀ R : Option D → Mem → Prop, R (f a) μ → step (g a) μ R) (hd : Q (l.filterMap f) μ) : LC (l.map g) μ ok step Q := by
  refine ⟨fun its acc μ' => μ' = μ ∧ ∃ done rest, l = done ++ rest ∧ its = rest.map g ∧ acc = done.filterMap f, ⟨rfl, [], l, rfl, rfl, rfl⟩, ?_, ?_⟩
  · rintro x xs acc μ' ⟨rfl, done, rest, e1, e2, e3⟩
    cases rest with
    | nil => cases e2
    | cons a rest =>
      cases e2
      refine ⟨hok, hs a (by rw [e1]; simp) _ ?_⟩
      cases e : f a with
      | none => exact ⟨rfl, done ++ [a], rest, by rw [e1]; simp, rfl, by rw [e3, List.filterMap_append]; simp [e]⟩
      | some d =>
        refine ⟨?_, rfl, done ++ [a], rest, by rw [e1]; simp, rfl, by rw [e3, List.filterMap_append]; simp [e]⟩
        have h1 : acc.length ≤ done.length := by rw [e3]; exact List.length_filterMap_le _ _
        have h2 : l.length = done.length + (rest.length + 1) := by rw [e1, List.length_append, List.length_cons]
        omega
  · rintro acc μ' ⟨rfl, done, rest, e1, e2, e3⟩
    cases rest with
    | cons a rest => cases e2
    | nil =>
      rw [List.append_nil] at e1
      subst e1 e3
      exact ⟨hok, hd⟩
/-- .. a map -/
theorem LC_map {A : Type} (l : List A) (g : A → D) (f : A → D) (hl : l.length ≤ 16777216) (hok : ok μ) (hs : ∀ a ∈ l, ∀ R : Option D → Mem → Prop, R (some (f a)) μ → step (g a) μ R) (hd : Q (l.map f) μ) : LC (l.map g) μ ok step Q :=
  LC_fn l g (fun a => some (f a)) hl hok hs (by rw [List.filterMap_eq_map']; exact hd)
inductive All2 {A B : Type} (P : A → B → Prop) : List A → List B → Prop
  | nil : All2 P [] []
  | cons {a : A} {b : B} {l : List A} {m : List B} : P a b → All2 P l m → All2 P (a :: l) (b :: m)
theorem All2.snoc {A B : Type} {P : A → B → Prop} {a : A} {b : B} (h : P a b) : ∀ {l : List A} {m : List B}, All2 P l m → All2 P (l ++ [a]) (m ++ [b])
  | _, _, .nil => .cons h .nil
  | _, _, .cons p q => .cons p (All2.snoc h q)
theorem All2.length {A B : Type} {P : A → B → Prop} : ∀ {l : List A} {m : List B}, All2 P l m → m.length = l.length
  | _, _, .nil => rfl
  | _, _, .cons _ q => by rw [List.length_cons, List.length_cons, q.length]
theorem All2.all {A B : Type} {P : A → B → Prop} {R : B → Prop} (h : ∀ a b, P a b → R b) : ∀ {l : List A} {m : List B}, All2 P l m → ∀ b ∈ m, R b
  | _, _, .nil, b, hb => by cases hb
  | _, _, .cons p q, b, hb => by
    cases hb with
    | head => exact h _ _ p
    | tail _ hb => exact All2.all h q b hb
theorem all2_ex {A B C : Type} {P : A → B → Prop} {R : C → Prop} (f : C → B) (h : ∀ a b, P a b → ∃ c, b = f c ∧ R c) : ∀ {l : List A} {m : List B}, All2 P l m → ∃ cs : List C, m = cs.map f ∧ cs.length = l.length ∧ ∀ c ∈ cs, R c
  | _, _, .nil => ⟨[], rfl, rfl, fun c hc => by cases hc⟩
  | _, _, .cons p q => by
    obtain ⟨c, e, hc⟩ := h _ _ p
    obtain ⟨cs, e2, e3, h2⟩ := all2_ex f h q
    refine ⟨c :: cs, by rw [e, e2]; rfl, by simp [e3], fun x hx => ?_⟩
    cases hx with
    | head => exact hc
    | tail _ hx => exact h2 x hx
/-- each item gives something of which P holds -/
theorem LC_rel {A : Type} (l : List A) (g : A → D) (P : A → D → Prop) (hl : l.length ≤ 16777216) (hok : ok μ) (hs : ∀ a ∈ l, ∀ R : Option D → Mem → Prop, (∀ d, P a d → R (some d) μ) → step (g a) μ R) (hd : ∀ ds, All2 P l ds → Q ds μ) : LC (l.map g) μ ok step Q := by
  refine ⟨fun its acc μ' => μ' = μ ∧ ∃ done rest, l = done ++ rest ∧ its = rest.map g ∧ All2 P done acc, ⟨rfl, [], l, rfl, rfl, .nil⟩, ?_, ?_⟩
  · rintro x xs acc μ' ⟨rfl, done, rest, e1, e2, e3⟩
    cases rest with
    | nil => cases e2
    | cons a rest =>
      cases e2
      refine ⟨hok, hs a (by rw [e1]; simp) _ fun d hp => ⟨?_, rfl, done ++ [a], rest, by rw [e1]; simp, rfl, e3.snoc hp⟩⟩
      have h1 := e3.length
      have h2 : l.length = done.length + (rest.length + 1) := by rw [e1, List.length_append, List.length_cons]
      omega
  · rintro acc μ' ⟨rfl, done, rest, e1, e2, e3⟩
    cases rest with
    | cons a rest => cases e2
    | nil =>
      rw [List.append_nil] at e1
      subst e1
      exact ⟨hok, hd acc e3⟩
end
end DL
/-! Equality of data. -/
namespace DL
open PySem PySem.Spec PyProof.Rows L2
mutual
/-- truths as numbers, lists all alike -/
def D.nrm : D → D
  | .non => .non
  | .bl b => .int (if b then 1 else 0)
  | .int i => .int i
  | .str s => .str s
  | .tup l => .tup (D.nrms l)
  | .lst l => .lst (D.nrms l)
  | .lk l => .lst (D.nrms l)
  | .ref _ => .non
  | .emp => .non
  | .exc _ _ _ => .non
def D.nrms : List D → List D
  | [] => []
  | d :: ds => d.nrm :: D.nrms ds
end
theorem nrms_map : ∀ l : List D, D.nrms l = l.map D.nrm
  | [] => rfl
  | d :: ds => by
    show d.nrm :: D.nrms ds = _
    rw [nrms_map ds]
    rfl
mutual
theorem eqv_nrm : ∀ x y : D, D.eqv x y = true ↔ x.nrm = y.nrm
  | .non, y => by cases y <;> simp [D.eqv, D.py, D.nrm, PyData.eqv]
  | .ref _, y => by cases y <;> simp [D.eqv, D.py, D.nrm, PyData.eqv]
  | .emp, y => by cases y <;> simp [D.eqv, D.py, D.nrm, PyData.eqv]
  | .exc _ _ _, y => by cases y <;> simp [D.eqv, D.py, D.nrm, PyData.eqv]
  | .bl b, y => by cases y <;> simp [D.eqv, D.py, D.nrm, PyData.eqv] <;> (rename_i c; cases b <;> cases c <;> simp)
  | .int i, y => by cases y <;> simp [D.eqv, D.py, D.nrm, PyData.eqv]
  | .str s, y => by cases y <;> simp [D.eqv, D.py, D.nrm, PyData.eqv]
  | .tup l, y => by
    cases y with
    | tup m =>
      simp only [D.eqv, D.py, D.nrm, PyData.eqv]
      rw [eqvs_nrm l m]
      simp
    | _ => simp [D.eqv, D.py, D.nrm, PyData.eqv]
  | .lst l, y => by
    cases y with
    | lst m =>
      simp only [D.eqv, D.py, D.nrm, PyData.eqv]
      rw [eqvs_nrm l m]
      simp
    | lk m =>
      simp only [D.eqv, D.py, D.nrm, PyData.eqv]
      rw [eqvs_nrm l m]
      simp
    | _ => simp [D.eqv, D.py, D.nrm, PyData.eqv]
  | .lk l, y => by
    cases y with
    | lst m =>
      simp only [D.eqv, D.py, D.nrm, PyData.eqv]
      rw [eqvs_nrm l m]
      simp
    | lk m =>
      simp only [D.eqv, D.py, D.nrm, PyData.eqv]
      rw [eqvs_nrm l m]
      simp
    | _ => simp [D.eqv, D.py, D.nrm, PyData.eqv]
theorem eqvs_nrm : ∀ l m : List D, PyData.eqvAll (D.pys l) (D.pys m) = true ↔ D.nrms l = D.nrms m
  | [], [] => by simp [D.pys, D.nrms, PyData.eqvAll]
  | [], _ :: _ => by simp [D.pys, D.nrms, PyData.eqvAll]
  | _ :: _, [] => by simp [D.pys, D.nrms, PyData.eqvAll]
  | x :: l, y :: m => by
    have h1 := eqv_nrm x y
    have h2 := eqvs_nrm l m
    simp only [D.pys, D.nrms, PyData.eqvAll, Bool.and_eq_true, List.cons.injEq]
    exact ⟨fun ⟨a, b⟩ => ⟨h1.mp a, h2.mp b⟩, fun ⟨a, b⟩ => ⟨h1.mpr a, h2.mpr b⟩⟩
end
/-- two things of a kind that data tells apart -/
structure Plain {A : Type} (e : A → D) (P : A → Prop) (n : Nat) : Prop where
  ok : ∀ a, P a → (e a).ok = true
  dep : ∀ a, P a → (e a).dep ≤ n
  inj : ∀ a b, P a → P b → (e a).nrm = (e b).nrm → a = b
  still : ∀ a μ, P a → res μ (e a) = e a
theorem Plain.eqv {A : Type} [DecidableEq A] {e : A → D} {P : A → Prop} {n : Nat} (p : Plain e P n) {a b : A} (ha : P a) (hb : P b) : (e a).eqv (e b) = decide (a = b) := by
  by_cases h : a = b
  · subst h
    rw [decide_eq_true rfl]
    exact (eqv_nrm _ _).mpr rfl
  · rw [decide_eq_false h]
    cases q : (e a).eqv (e b) with
    | false => rfl
    | true => exact absurd (p.inj a b ha hb ((eqv_nrm _ _).mp q)) h
theorem eqD_gen {x y : D} {μ : Mem} {q : Bool → Prop} (h : (res μ x).ok = true ∧ (res μ y).ok = true ∧ (res μ x).dep ≤ 64 ∧ (res μ y).dep ≤ 64 ∧ q ((res μ x).eqv (res μ y))) : eqD x y μ q := by
  cases x with
  | int i =>
    cases y with
    | int j =>
      have h := h.2.2.2.2
      have e : (res μ (.int i)).eqv (res μ (.int j)) = decide (i = j) := by
        rw [Bool.eq_iff_iff, eqv_nrm]
        simp [res, D.nrm]
      rw [e] at h
      exact h
    | _ => exact h
  | str i =>
    cases y with
    | str j =>
      have h := h.2.2.2.2
      have e : (res μ (.str i)).eqv (res μ (.str j)) = decide (i = j) := by
        rw [Bool.eq_iff_iff, eqv_nrm]
        simp [res, D.nrm]
      rw [e] at h
      exact h
    | _ => exact h
  | _ => exact h
/-- == of two things of one kind -/
theorem Plain.eq {A : Type} [DecidableEq A] {e : A → D} {P : A → Prop} {n : Nat} (p : Plain e P n) (hn : n ≤ 64) {a b : A} {μ : Mem} {q : Bool → Prop} (ha : P a) (hb : P b) (h : q (decide (a = b))) : cmpD .eq (e a) (e b) μ q := by
  refine eqD_gen ?_
  rw [p.still a μ ha, p.still b μ hb]
  exact ⟨p.ok a ha, p.ok b hb, Nat.le_trans (p.dep a ha) hn, Nat.le_trans (p.dep b hb) hn, by rw [p.eqv ha hb]; exact h⟩
theorem Plain.ne {A : Type} [DecidableEq A] {e : A → D} {P : A → Prop} {n : Nat} (p : Plain e P n) (hn : n ≤ 64) {a b : A} {μ : Mem} {q : Bool → Prop} (ha : P a) (hb : P b) (h : q (!decide (a = b))) : cmpD .ne (e a) (e b) μ q :=
  Plain.eq (q := fun b => q (!b)) p hn ha hb h
theorem Plain.map {A : Type} {e : A → D} {P : A → Prop} {n : Nat} (p : Plain e P n) (l : List A) (h : ∀ a ∈ l, P a) : D.oks (l.map e) = true ∧ D.deps (l.map e) ≤ n := by
  induction l with
  | nil => exact ⟨rfl, Nat.zero_le _⟩
  | cons a l ih =>
    obtain ⟨h1, h2⟩ := ih fun b hb => h b (List.mem_cons_of_mem _ hb)
    have ha := h a List.mem_cons_self
    refine ⟨?_, ?_⟩
    · show ((e a).ok && D.oks (l.map e)) = true
      rw [p.ok a ha, h1]
      rfl
    · show max (e a).dep (D.deps (l.map e)) ≤ n
      have := p.dep a ha
      omega
theorem Plain.mapInj {A : Type} {e : A → D} {P : A → Prop} {n : Nat} (p : Plain e P n) : ∀ (l m : List A), (∀ a ∈ l, P a) → (∀ a ∈ m, P a) → D.nrms (l.map e) = D.nrms (m.map e) → l = m
  | [], [], _, _, _ => rfl
  | [], b :: m, _, _, h => by simp [D.nrms] at h
  | a :: l, [], _, _, h => by simp [D.nrms] at h
  | a :: l, b :: m, h1, h2, h => by
    simp only [List.map_cons, D.nrms, List.cons.injEq] at h
    rw [p.inj a b (h1 a List.mem_cons_self) (h2 b List.mem_cons_self) h.1, Plain.mapInj p l m (fun c hc => h1 c (List.mem_cons_of_mem _ hc)) (fun c hc => h2 c (List.mem_cons_of_mem _ hc)) h.2]
/-- a tuple, a list of such -/
theorem Plain.tup {A : Type} {e : A → D} {P : A → Prop} {n : Nat} (p : Plain e P n) : Plain (fun l : List A => D.tup (l.map e)) (fun l => ∀ a ∈ l, P a) (n + 1) where
  ok := fun l h => (p.map l h).1
  dep := fun l h => Nat.succ_le_succ (p.map l h).2
  inj := fun l m h1 h2 h => by
    simp only [D.nrm, D.tup.injEq] at h
    exact p.mapInj l m h1 h2 h
  still := fun l μ h => rfl
theorem Plain.lst {A : Type} {e : A → D} {P : A → Prop} {n : Nat} (p : Plain e P n) : Plain (fun l : List A => D.lst (l.map e)) (fun l => ∀ a ∈ l, P a) (n + 1) where
  ok := fun l h => (p.map l h).1
  dep := fun l h => Nat.succ_le_succ (p.map l h).2
  inj := fun l m h1 h2 h => by
    simp only [D.nrm, D.lst.injEq] at h
    exact p.mapInj l m h1 h2 h
  still := fun l μ h => rfl
theorem plainInt : Plain D.int (fun _ => True) 0 where
  ok := fun _ _ => rfl
  dep := fun _ _ => Nat.le_refl _
  inj := fun a b _ _ h => by simpa [D.nrm] using h
  still := fun _ _ _ => rfl
theorem plainBl : Plain D.bl (fun _ => True) 0 where
  ok := fun _ _ => rfl
  dep := fun _ _ => Nat.le_refl _
  inj := fun a b _ _ h => by
    simp only [D.nrm, D.int.injEq] at h
    cases a <;> cases b <;> first | rfl | (simp at h; done)
  still := fun _ _ _ => rfl
def StrOk (s : Str) : Prop := (D.str s).ok = true
theorem plainStr : Plain D.str StrOk 0 where
  ok := fun _ h => h
  dep := fun _ _ => Nat.le_refl _
  inj := fun a b _ _ h => by simpa [D.nrm] using h
  still := fun _ _ _ => rfl
/-- .. by a map into another kind -/
theorem Plain.of {A B : Type} {e : A → D} {P : A → Prop} {n : Nat} (p : Plain e P n) (f : B → A) (hf : ∀ a b, f a = f b → a = b) {Q : B → Prop} (hq : ∀ b, Q b → P (f b)) : Plain (fun b => e (f b)) Q n where
  ok := fun b h => p.ok _ (hq b h)
  dep := fun b h => p.dep _ (hq b h)
  inj := fun a b ha hb h => hf a b (p.inj _ _ (hq a ha) (hq b hb) h)
  still := fun b μ h => p.still _ μ (hq b h)
theorem Plain.pair {A B : Type} {e : A → D} {P : A → Prop} {n : Nat} {f : B → D} {Q : B → Prop} {m : Nat} (p : Plain e P n) (q : Plain f Q m) : Plain (fun x : A × B => D.tup [e x.1, f x.2]) (fun x => P x.1 ∧ Q x.2) (max n m + 1) where
  ok := fun x h => by
    show ((e x.1).ok && ((f x.2).ok && true)) = true
    rw [p.ok _ h.1, q.ok _ h.2]; rfl
  dep := fun x h => by
    show max (e x.1).dep (max (f x.2).dep 0) + 1 ≤ _
    have := p.dep _ h.1
    have := q.dep _ h.2
    omega
  inj := fun x y hx hy h => by
    simp only [D.nrm, D.nrms, D.tup.injEq, List.cons.injEq, and_true] at h
    exact Prod.ext (p.inj _ _ hx.1 hy.1 h.1) (q.inj _ _ hx.2 hy.2 h.2)
  still := fun x μ h => rfl
/-- is a list empty? -/
theorem ne_nil {l : List D} {μ : Mem} {q : Bool → Prop} (ok : D.oks l = true) (dep : D.deps l < 64) (h : q (!l.isEmpty)) : cmpD .ne (.lst l) (.lst []) μ q := by
  refine eqD_gen (x := .lst l) (y := .lst []) (q := fun b => q (!b)) ⟨ok, rfl, dep, by show (0 : Nat) + 1 ≤ 64; decide, ?_⟩
  have e : (D.lst l).eqv (.lst []) = l.isEmpty := by
    rw [Bool.eq_iff_iff, eqv_nrm]
    cases l <;> simp [D.nrm, D.nrms]
  show q (!(D.lst l).eqv (.lst []))
  rw [e]
  exact h
theorem eq_nil {l : List D} {μ : Mem} {q : Bool → Prop} (ok : D.oks l = true) (dep : D.deps l < 64) (h : q (l.isEmpty)) : cmpD .eq (.lst l) (.lst []) μ q := by
  refine eqD_gen (x := .lst l) (y := .lst []) ⟨ok, rfl, dep, by show (0 : Nat) + 1 ≤ 64; decide, ?_⟩
  have e : (D.lst l).eqv (.lst []) = l.isEmpty := by
    rw [Bool.eq_iff_iff, eqv_nrm]
    cases l <;> simp [D.nrm, D.nrms]
  show q ((D.lst l).eqv (.lst []))
  rw [e]
  exact h
theorem eq_nilT {l : List D} {μ : Mem} {q : Bool → Prop} (ok : D.oks l = true) (dep : D.deps l < 64) (h : q (l.isEmpty)) : cmpD .eq (.tup l) (.tup []) μ q := by
  refine eqD_gen (x := .tup l) (y := .tup []) ⟨ok, rfl, dep, by show (0 : Nat) + 1 ≤ 64; decide, ?_⟩
  have e : (D.tup l).eqv (.tup []) = l.isEmpty := by
    rw [Bool.eq_iff_iff, eqv_nrm]
    cases l <;> simp [D.nrm, D.nrms]
  show q ((D.tup l).eqv (.tup []))
  rw [e]
  exact h
theorem ne_nilR {l : List D} {a : Addr} {μ : Mem} {q : Bool → Prop} (ok : D.oks l = true) (dep : D.deps l < 64) (h : q (!l.isEmpty)) : cmpD .ne (.ref a) (.lst []) (mset μ a (.lst l)) q := by
  have e0 : res (mset μ a (.lst l)) (.ref a) = .lst l := by unfold res; simp only [mset_same]
  refine eqD_gen (x := .ref a) (y := .lst []) (q := fun b => q (!b)) ?_
  rw [e0]
  refine ⟨ok, rfl, dep, by show (0 : Nat) + 1 ≤ 64; decide, ?_⟩
  have e : (D.lst l).eqv (.lst []) = l.isEmpty := by
    rw [Bool.eq_iff_iff, eqv_nrm]
    cases l <;> simp [D.nrm, D.nrms]
  show q (!(D.lst l).eqv (.lst []))
  rw [e]
  exact h
theorem e_wn : decide ((⟨#[119]⟩ : Str) = ⟨#[110]⟩) = false := by decide +kernel
theorem ixN_0 {n : Nat} : ixN (n + 1) 0 = some 0 := by
  unfold ixN
  rw [if_pos (by decide), if_pos (by omega)]
  rfl
theorem ixN_1 {n : Nat} : ixN (n + 1 + 1) 1 = some 1 := by
  unfold ixN
  rw [if_pos (by decide), if_pos (by omega)]
  rfl
theorem sh_new {μ : Mem} {a : Addr} {p q : Int} {r : List D} {k : Mem → Prop} : shutD (.ref a) (mset μ a (.lst (.int p :: .int q :: r))) k = ((0 ≤ p ∧ 0 ≤ q ∧ q < 2147483648) ∧ k (mset μ a (.pot r))) := by
  show (optD (seqL (mset μ a (.lst (.int p :: .int q :: r))) (.ref a)) _) = _
  rw [sl_ref]
  simp only [optD_some, mset_mset]
theorem at2 {A : Type} {a b : A} {v : Int} {P : A → Prop} (h0 : 0 ≤ v) (h1 : v ≤ 1) (ha : v = 0 → P a) (hb : v = 1 → P b) : optD (atI [a, b] v) P := by
  have e : v = 0 ∨ v = 1 := by omega
  rcases e with e | e <;> subst e
  · rw [a_0]; exact ha rfl
  · rw [a_1]; exact hb rfl
theorem at3 {A : Type} {a b c : A} {v : Int} {P : A → Prop} (h0 : 0 ≤ v) (h1 : v ≤ 2) (ha : v = 0 → P a) (hb : v = 1 → P b) (hc : v = 2 → P c) : optD (atI [a, b, c] v) P := by
  have e : v = 0 ∨ v = 1 ∨ v = 2 := by omega
  rcases e with e | e | e <;> subst e
  · rw [a_0]; exact ha rfl
  · rw [a_1]; exact hb rfl
  · rw [a_2]; exact hc rfl
/-- any item of a list, by a place in it -/
theorem at_any {A : Type} {l : List A} {v : Int} {P : A → Prop} (h0 : 0 ≤ v) (h1 : v < l.length) (h : ∀ a ∈ l, P a) : optD (atI l v) P := by
  rw [a_nat h0, List.getElem?_eq_getElem (by omega)]
  exact h _ (List.getElem_mem _)
/-! ### words -/
def IsWord (s : Str) : Prop := 1 ≤ s.length ∧ s.length ≤ 8 ∧ ∀ c ∈ s.cps.toList, 97 ≤ c ∧ c ≤ 122
theorem word_ok {s : Str} (h : IsWord s) : StrOk s := by
  show s.cps.all (· < 0x110000) = true
  rw [← Array.all_toList, List.all_eq_true]
  intro c hc
  have := (h.2.2 c hc).2
  simp
  omega
/-! ### lists that change, at their ends -/
theorem last_in {A : Type} {l : List A} {x : A} : (l ++ [x]).getLast? = some x := List.getLast?_concat
theorem ixN_m1 {n : Nat} : ixN (n + 1) (-1) = some n := by
  unfold ixN
  rw [if_neg (by decide), if_pos (by omega)]
  congr 1
  omega
theorem ixN_last {l : List D} {x : D} : ixN (l ++ [x]).length (-1) = some l.length := by
  rw [List.length_append]
  exact ixN_m1
theorem set_len {l : List D} {x e : D} : (l ++ [x]).set l.length e = l ++ [e] := by
  rw [List.set_append_right _ _ (Nat.le_refl _), Nat.sub_self]
  rfl
theorem set_last {μ : Mem} {a : Addr} {l : List D} {x e : D} {k : Mem → Prop} : setD (.ref a) (.int (-1)) e (mset μ a (.lst (l ++ [x]))) k = k (mset μ a (.lst (l ++ [e]))) := by
  rw [set_r, sl_ref]
  simp only [optD_some, List.length_append, List.length_cons, List.length_nil, Nat.zero_add, ixN_m1, mset_mset]
  rw [List.set_append_right _ _ (Nat.le_refl _), Nat.sub_self]
  rfl
theorem sl_ref2 {μ : Mem} {p q : Addr} {l : List D} {o : MO} (h : (mset μ p (.lst l)) q = none) : seqL (mset (mset μ p (.lst l)) q o) (.ref p) = some l := by
  have hne : p ≠ q := fun e => by rw [← e, mset_same] at h; cases h
  unfold seqL
  simp only [mset_ne hne, mset_same]
theorem sp_ref2 {μ : Mem} {p q : Addr} {l : List D} {o : MO} (h : (mset μ p (.lst l)) q = none) : seqP (mset (mset μ p (.lst l)) q o) (.ref p) = some l := by
  have hne : p ≠ q := fun e => by rw [← e, mset_same] at h; cases h
  unfold seqP
  simp only [mset_ne hne, mset_same]
theorem mdel_two {μ : Mem} {p q : Addr} {o u : MO} (hp : μ p = none) (hq : (mset μ p o) q = none) : mdel (mdel (mset (mset μ p o) q u) p) q = μ := by
  have hne : q ≠ p := fun e => by rw [e, mset_same] at hq; cases hq
  funext b
  unfold mdel
  by_cases h1 : b = q
  · rw [if_pos h1, h1]
    rw [mset_ne hne] at hq
    exact hq.symm
  · rw [if_neg h1]
    by_cases h2 : b = p
    · rw [if_pos h2, h2, hp]
    · rw [if_neg h2, mset_ne h1, mset_ne h2]
end DL
/-! The end: a program's defs stand in the written part; its law is called. -/
namespace DL
open PySem PySem.Spec PyProof.Rows L2
/-- a promise that holds from a level on -/
def lvS (k : Nat) (S : FSpec) : Nat → FSpec := fun n ds μ Q X => k ≤ n ∧ S ds μ Q X
theorem specOf_at : ∀ {defs : List DefD} (nd : (defs.map (·.name)).Nodup) {d : DefD} (h : d ∈ defs) (n : Nat), specOf defs n d.name = d.spec n
  | [], _, d, h, n => nomatch h
  | e :: r, nd, d, h, n => by
    rw [List.map_cons] at nd
    obtain ⟨n1, n2⟩ := List.nodup_cons.mp nd
    unfold specOf
    rcases List.mem_cons.mp h with q | q
    · subst q
      rw [if_pos rfl]
    · have ne : ¬ e.name = d.name := fun z => n1 (by rw [z]; exact List.mem_map.mpr ⟨d, q, rfl⟩)
      rw [if_neg ne]
      exact specOf_at n2 q n
theorem fn_raw {defs : List DefD} {cst : Str → Option D} {ex : ExI} (nd : (defs.map (·.name)).Nodup) (i : Nat) {d : DefD} (hi : defs[i]? = some d) (n : Nat) : (gcOf defs cst ex n).fn d.name = d.spec n := specOf_at nd (List.mem_of_getElem? hi) n
theorem fn_at {defs : List DefD} {cst : Str → Option D} {ex : ExI} (nd : (defs.map (·.name)).Nodup) (i : Nat) {d : DefD} (hi : defs[i]? = some d) {k : Nat} {S : FSpec} (hs : d.spec = lvS k S) {n : Nat} (h : k ≤ n) : (gcOf defs cst ex n).fn d.name = S := by
  rw [fn_raw nd i hi n, hs]
  funext ds μ Q X
  exact propext ⟨fun q => q.2, fun q => ⟨h, q⟩⟩
/-- a def as the written part holds it -/
structure KDef (K : PySem.W.Frag) (x : Str) (st : Stmt) : Prop where
  ex : ∃ (f : Addr) (oc : Value) (od an : Option Addr) (sl : Array (Option Value)) (kV dc pm cd ct : Value), PySem.W.nsIn K mainGlobals x = some (some (.ref f)) ∧
    K.lookup f = some ⟨oc, od, .func (PySem.W.fnOf x x (defArgs st) (defBody st) (defScope st) .none kV dc pm an cd ct), sl⟩ ∧ PySem.W.codeIn K cd x = true ∧ PySem.W.keepIn K (.ref f) = true
theorem kd {K : PySem.W.Frag} (x : Str) (st : Stmt) {f : Addr} {oc : Value} {od an : Option Addr} {sl : Array (Option Value)} {kV dc pm cd ct : Value} (a : PySem.W.nsIn K mainGlobals x = some (some (.ref f)))
    (l : K.lookup f = some ⟨oc, od, .func (PySem.W.fnOf x x (defArgs st) (defBody st) (defScope st) .none kV dc pm an cd ct), sl⟩) (c : PySem.W.codeIn K cd x = true) (k : PySem.W.keepIn K (.ref f) = true) : KDef K x st := ⟨f, oc, od, an, sl, kV, dc, pm, cd, ct, a, l, c, k⟩
def KDefs (K : PySem.W.Frag) (l : List DefD) : Prop := ∀ d ∈ l, KDef K d.name d.st
theorem kcons {K : PySem.W.Frag} {d : DefD} {l : List DefD} (h : KDef K d.name d.st) (r : KDefs K l) : KDefs K (d :: l) := fun e he => by
  rcases List.mem_cons.mp he with q | q
  · rw [q]; exact h
  · exact r e q
theorem knil {K : PySem.W.Frag} : KDefs K [] := fun e he => nomatch he
def KNone (K : PySem.W.Frag) (l : List Str) : Prop := ∀ x ∈ l, PySem.W.nsIn K mainGlobals x = some none
theorem zcons {K : PySem.W.Frag} {x : Str} {l : List Str} (h : PySem.W.nsIn K mainGlobals x = some none) (r : KNone K l) : KNone K (x :: l) := fun e he => by
  rcases List.mem_cons.mp he with q | q
  · rw [q]; exact h
  · exact r e q
theorem znil {K : PySem.W.Frag} : KNone K [] := fun e he => nomatch he
/-- how arguments bind -/
def Bd (d : DefD) : Prop := ∀ (kV doc pm : Value) (an : Option Addr) (cdv ct : Value) (us : List Value), us.length = d.ps.length → bindArgs (PySem.W.fnOf d.name d.name (defArgs d.st) (defBody d.st) (defScope d.st) .none kV doc pm an cdv ct) ⟨us, []⟩ = pure (d.ps.zip us)
def Bds (l : List DefD) : Prop := ∀ d ∈ l, Bd d
theorem bcons {d : DefD} {l : List DefD} (h : Bd d) (r : Bds l) : Bds (d :: l) := fun e he => by
  rcases List.mem_cons.mp he with q | q
  · rw [q]; exact h
  · exact r e q
theorem bnil : Bds [] := fun e he => nomatch he
/-- one def keeps its promise -/
def Keep1 (defs : List DefD) (cst : Str → Option D) (ex : ExI) (d : DefD) : Prop := (∀ ds μ Q X, ¬ d.spec 0 ds μ Q X) ∧ ∀ n ds μ Q X, d.spec (n + 1) ds μ Q X → ds.length = d.ps.length ∧ wpSs (gcOf defs cst ex n) d.body (startR d.N ds) μ { nx := fun _ μ' => Q .non μ', rt := Q } X
def KeepL (defs : List DefD) (cst : Str → Option D) (ex : ExI) (l : List DefD) : Prop := ∀ d ∈ l, Keep1 defs cst ex d
theorem pcons {defs : List DefD} {cst : Str → Option D} {ex : ExI} {d : DefD} {l : List DefD} (h : Keep1 defs cst ex d) (r : KeepL defs cst ex l) : KeepL defs cst ex (d :: l) := fun e he => by
  rcases List.mem_cons.mp he with q | q
  · rw [q]; exact h
  · exact r e q
theorem pnil {defs : List DefD} {cst : Str → Option D} {ex : ExI} : KeepL defs cst ex [] := fun e he => nomatch he
theorem keep_lv {defs : List DefD} {cst : Str → Option D} {ex : ExI} {d : DefD} {k : Nat} {S : FSpec} (hs : d.spec = lvS (k + 1) S)
    (h : ∀ n ds μ Q X, k ≤ n → S ds μ Q X → ds.length = d.ps.length ∧ wpSs (gcOf defs cst ex n) d.body (startR d.N ds) μ { nx := fun _ μ' => Q .non μ', rt := Q } X) : Keep1 defs cst ex d := by
  refine ⟨fun ds μ Q X q => ?_, fun n ds μ Q X q => ?_⟩
  · rw [hs] at q
    exact absurd q.1 (by omega)
  · rw [hs] at q
    exact h n ds μ Q X (by have := q.1; omega) q.2
section
variable {P : Program} {w : World} {K : PySem.W.Frag} {mg : Str → Option Value} {defs : List DefD} {cst : Str → Option D} {ex : ExI}
/-- one class of exceptions as the written part holds it -/
structure KCls (K : PySem.W.Frag) (x : Str) (C : Addr) : Prop where
  at_ : PySem.W.nsIn K mainGlobals x = some (some (.ref C))
  bs : PySem.W.subIn K (.ref C) (.type "BaseException") = some true
  ty : PySem.W.typeIn K (.ref C) = some (.type "type")
  cl : PySem.W.isClsIn K C = true
theorem sub_own {C D : Addr} {b : Bool} (d : PySem.W.subIn K (.ref D) (.type "BaseException") = some true) (ht : PySem.W.typeIn K (.ref D) = some (.type "type")) (hc : PySem.W.isClsIn K D = true) (hs : PySem.W.subIn K (.ref C) (.ref D) = some b) (hcd : C ≠ D ∨ b = true) :
    PySem.W.exmOne K (.ref C) (.ref D) = some b ∧ PySem.W.kitOne K (.ref C) (.ref D) = some b := by
  have e1 : (PySem.W.subIn K (.ref D) (.type "BaseException") == some true) = true := by rw [d] <;> rfl
  have e2 : ((PySem.W.clsIn K D).isSome && PySem.W.typeIn K (.ref D) == some (.type "type")) = true := by
    have h2' : (PySem.W.clsIn K D).isSome = true := hc
    rw [h2', ht] <;> rfl
  have e3 : PySem.W.kitCls K (.ref C) (.ref D) = some b := by
    show (if ((PySem.W.clsIn K D).isSome && PySem.W.typeIn K (.ref D) == some (.type "type")) = true then PySem.W.subIn K (.ref C) (.ref D) else none) = some b
    rw [if_pos e2]
    exact hs
  refine ⟨?_, ?_⟩
  · unfold PySem.W.exmOne
    rw [if_pos e1]
    exact e3
  · unfold PySem.W.kitOne
    by_cases hq : C = D
    · rcases hcd with z | z
      · exact absurd hq z
      · rw [if_pos (by rw [hq]; exact beq_self_eq_true _), z]
    · rw [if_neg (fun z => hq (Value.ref.inj (beq_iff_eq.mp z)))]
      exact e3
theorem sub_ty {C : Addr} {T : String} {b : Bool} (hm : PySem.W.kitMeta T = true) (d : PySem.W.subIn K (.type T) (.type "BaseException") = some true) (hs : PySem.W.subIn K (.ref C) (.type T) = some b) :
    PySem.W.exmOne K (.ref C) (.type T) = some b ∧ PySem.W.kitOne K (.ref C) (.type T) = some b := by
  have e1 : (PySem.W.subIn K (.type T) (.type "BaseException") == some true) = true := by rw [d] <;> rfl
  have e3 : PySem.W.kitCls K (.ref C) (.type T) = some b := by
    show (if PySem.W.kitMeta T = true then PySem.W.subIn K (.ref C) (.type T) else none) = some b
    rw [if_pos hm]
    exact hs
  refine ⟨?_, ?_⟩
  · unfold PySem.W.exmOne
    rw [if_pos e1]
    exact e3
  · unfold PySem.W.kitOne
    have ne : ¬ ((Value.ref C == Value.type T) = true) := fun z => by
      have z := beq_iff_eq.mp z
      cases z
    rw [if_neg ne]
    exact e3
/-- the law's own promise: nothing is let out -/
def spLaw (K : PySem.W.Frag) (S : FSpec) : Sp := fun vs H Q E => (∀ mg, spOf K mg S vs H Q E) ∧ ∀ c d H', ¬ E c d H'
theorem _root_.L2.FnOk.to0 {base : Heap} {k : Nat} {f : Addr} {fd : FuncData} {ps : List Str} {sp sp' : Sp} (F : FnOk P w K mg base (L2.CX P w) k f fd ps sp) (h : ∀ vs H Q E, sp' vs H Q E → sp vs H Q E ∧ ∀ c d H', ¬ E c d H') : FnOk P w K mg base CX0 k f fd ps sp' :=
  ⟨fun vs H Q E q => F.len vs H Q E (h _ _ _ _ q).1, fun A outer s H args us vs Q E hr he hb hv hs => codeAny_mono (F.run A outer s H args us vs Q E hr he hb hv (h _ _ _ _ hs).1) fun r s' q => by
    cases r with
    | error e =>
      obtain ⟨_, _, _, _, _, _, _, _, _, _, _, _, z⟩ := q
      exact absurd z ((h _ _ _ _ hs).2 _ _ _)
    | ok fl => cases fl <;> exact q⟩
theorem end_of {h : Heap} {fa : Addr} (KX : K.In h) (G : h.Ns mainGlobals mg) {x : Str} {d : DefD} (hfa : mg "law" = some (.ref fa)) (kp : Keeps defs cst ex) (hex : ExOk ex K mg) (ck : ∀ n, defs.all (chkD (gcOf defs cst ex n).has) = true) (hb : Bds defs)
    (hd : d ∈ defs) (hn : d.name = "law") (hx : d.ps = [x]) (hk : KDefs K defs) (hz : KNone K bltNames) (hc : ∀ x d, cst x = some d → ∃ v u, mg x = some u ∧ RelV v u ∧ ∀ H F, RD K H F v d) (k : Nat) :
    ∃ fd : FuncData, (∀ (s : Shared) (u : Value), BindsTo s fd ⟨[u], []⟩ [(x, u)]) ∧ ∀ base : Heap, K.In base → base.Ns mainGlobals mg → FnOk P w K mg base CX0 (k + 2) fa fd [x] (spLaw K (d.spec k)) := by
  have at_ : ∀ e ∈ defs, ∃ f fd, At K mg e f fd := fun e he => by
    obtain ⟨f, oc, od, an, sl, kV, dc, pm, cd, ct, a, l, c, kk⟩ := (hk e he).ex
    have F := fun_mk l c kk
    exact ⟨f, _, F, PySem.W.mg_of KX G a, F.binds (hb e he)⟩
  have T : Top P w K mg defs cst ex := ⟨at_, fun x hx => PySem.W.mg_none_of KX G (hz x hx), hc, hex, ck⟩
  obtain ⟨f, oc, od, an, sl, kV, dc, pm, cd, ct, a, l, c, kk⟩ := (hk d hd).ex
  have F := fun_mk l c kk
  have e1 : mg d.name = some (.ref f) := PySem.W.mg_of KX G a
  have e2 : f = fa := by
    rw [hn, hfa] at e1
    cases e1
    rfl
  subst e2
  refine ⟨_, fun s u => .of_eq ((hb d hd kV dc pm an cd ct [u] (by rw [hx]; rfl)).trans (by rw [hx]; rfl)), fun base _ _ => ?_⟩
  rw [← hx]
  exact (defs_ok T kp k d hd f _ ⟨F, e1, F.binds (hb d hd)⟩).to0 fun vs H Q E h => ⟨h.1 mg, h.2⟩
/-- the law's call -/
theorem sp_law {S : FSpec} {H : Hp} {a : Addr} {ns : List Int} (hO : Only H) (hS : SqL K H a (ns.map V.int))
    (h : S [.lk (ns.map .int)] (fun _ => none) (fun d _ => d = .bl true) E0k) : spLaw K S [.ref a] H (fun v _ => v = .bl true) fun _ _ _ => False := by
  refine ⟨fun mg => ?_, fun _ _ _ h => h⟩
  refine ⟨fun _ => False, fun _ => none, [.lk (ns.map .int)], fun d _ => d = .bl true, E0k, ⟨fun a o e => (nomatch e), fun a f => f.elim⟩, .cons (.lk ?_ .of_ints) .nil, h, fun v H' p => ?_, fun cls d H' ⟨_, _, _, _, _, _, _, _, z⟩ => z.elim⟩
  · rcases hS with (e | ⟨o, e⟩) | ⟨o, its, n, h1, h2, h3, h4, h5, h6⟩
    · rcases hO a with z | ⟨o, xs, z⟩
      · rw [e] at z; cases z
      · rw [e] at z; cases z
    · exact .inl ⟨o, e⟩
    · exact .inr ⟨o, its, n, h1, h2, h3, h4, h5, h6⟩
  · obtain ⟨d, F', μ', _, _, r, rfl⟩ := p
    cases r
    rfl
end
end DL
/-! Exceptions as values: what the linked text shows of their classes. -/
namespace DL
open PySem PySem.Spec PyProof.Rows L2
def clsBody : Stmt → List Stmt
  | .ClassDef _ _ _ b _ _ _ _ _ _ _ => b
  | _ => []
def gArg (g : Option Nat) (a : IArg) : Prop := match g with | none => (∃ t, a = IArg.lit t) | some n => ∃ t, t.length = n ∧ a = IArg.cat t
theorem init_of {K : PySem.W.Frag} {mg : Str → Option Value} {C B0 fI : Addr} {oc : Value} {od an : Option Addr} {osl : Array (Option Value)} {kV doc pm cdv ct : Value} {qual n1 n2 f1 f2 : Str} {st : Stmt} {a : IArg} {g : Option Nat}
    {nm q : Str} {N : Addr} {bs bm : List Value} {sn : List Str} {sub : List Value} {ab : Bool} {col : Option Bool} {dd : Option Addr} {k0 k1 k2 k3 k5 : Option Value}
    (o : K.lookup C = some (excClassObj nm q C N bs bm true sn sub ab col dd k0 k1 k2 k3 k5 "ValueError.__new__")) (r : PySem.HandSPX.refsVE bm = true)
    (sa : PySem.W.findIn K (.ref C) "__setattr__" = some (some (.builtin "object.__setattr__"))) (exC : PySem.W.subIn K (.ref C) (.type "BaseException") = some true) (tyC : PySem.W.typeIn K (.ref C) = some (.type "type")) (kC : PySem.W.keepIn K (.ref C) = true)
    (iC : PySem.W.findIn K (.ref C) "__init__" = some (some (.ref fI))) (tI : PySem.W.typeIn K (.ref fI) = some (.type "function"))
    (l : K.lookup fI = some ⟨oc, od, .func (PySem.W.fnOf "__init__" qual (defArgs st) (defBody st) (defScope st) .none kV doc pm an cdv ct), osl⟩) (c : PySem.W.codeIn K cdv qual = true) (k : PySem.W.keepIn K (.ref fI) = true)
    (h1 : PySem.W.findIn K (.ref C) f1 = some none) (h2 : PySem.W.findIn K (.ref C) f2 = some none) (T0 : InitB K B0) (hm : mg "PipeError" = some (.ref B0)) (S : IForm st n1 n2 f1 f2 a) (hg : gArg g a)
    (hb : ∀ (kV doc pm : Value) (an : Option Addr) (cdv ct : Value) (us : List Value), us.length = (["self", n1, n2] : List Str).length → bindArgs (PySem.W.fnOf "__init__" qual (defArgs st) (defBody st) (defScope st) .none kV doc pm an cdv ct) ⟨us, []⟩ = pure ((["self", n1, n2] : List Str).zip us)) :
    OexC K C ∧ ∃ (fI : Addr) (fd : FuncData) (ps : List Str) (a : IArg), PySem.W.findIn K (.ref C) "__init__" = some (some (.ref fI)) ∧ PySem.W.typeIn K (.ref fI) = some (.type "function") ∧ Binds K fd ps [] ∧ gArg g a ∧
      ∀ (P : Program) (w : World) (base : Heap), FnOk P w K mg base (L2.CX P w) 1 fI fd ps (spI K C f1 f2 a) := by
  have T : OexC K C := ⟨⟨nm, q, N, bs, bm, sn, sub, ab, col, dd, k0, k1, k2, k3, k5, o, r⟩, sa, exC, tyC, kC⟩
  have F := fun_mk l c k
  exact ⟨T, fI, _, _, a, iC, tI, F.binds hb, hg, fun P w base => init_fn F S T0 hm T h1 h2⟩
end DL
namespace DL
open PySem PySem.Spec PyProof.Rows L2
def exI : ExI := { exs := fun _ => false, exi := fun _ => none, sub := fun c x => if c = "NoText" then (if x = "NoText" then some true else if x = "NoPlace" then some false else if x = "TooMany" then some false else if x = "NoStep" then some false else if x = "NoLine" then some false else if x = "Unknown" then some false else if x = "NoPipe" then some false else if x = "Falls" then some false else if x = "Falling" then some false else if x = "PipeError" then some true else if x = "ValueError" then some true else none) else if c = "NoPlace" then (if x = "NoText" then some false else if x = "NoPlace" then some true else if x = "TooMany" then some false else if x = "NoStep" then some false else if x = "NoLine" then some false else if x = "Unknown" then some false else if x = "NoPipe" then some false else if x = "Falls" then some false else if x = "Falling" then some false else if x = "PipeError" then some true else if x = "ValueError" then some true else none) else if c = "TooMany" then (if x = "NoText" then some false else if x = "NoPlace" then some false else if x = "TooMany" then some true else if x = "NoStep" then some false else if x = "NoLine" then some false else if x = "Unknown" then some false else if x = "NoPipe" then some false else if x = "Falls" then some false else if x = "Falling" then some false else if x = "PipeError" then some true else if x = "ValueError" then some true else none) else if c = "NoStep" then (if x = "NoText" then some false else if x = "NoPlace" then some false else if x = "TooMany" then some false else if x = "NoStep" then some true else if x = "NoLine" then some false else if x = "Unknown" then some false else if x = "NoPipe" then some false else if x = "Falls" then some false else if x = "Falling" then some false else if x = "PipeError" then some true else if x = "ValueError" then some true else none) else if c = "NoLine" then (if x = "NoText" then some false else if x = "NoPlace" then some false else if x = "TooMany" then some false else if x = "NoStep" then some false else if x = "NoLine" then some true else if x = "Unknown" then some false else if x = "NoPipe" then some false else if x = "Falls" then some false else if x = "Falling" then some false else if x = "PipeError" then some true else if x = "ValueError" then some true else none) else if c = "Unknown" then (if x = "NoText" then some false else if x = "NoPlace" then some false else if x = "TooMany" then some false else if x = "NoStep" then some false else if x = "NoLine" then some false else if x = "Unknown" then some true else if x = "NoPipe" then some false else if x = "Falls" then some false else if x = "Falling" then some false else if x = "PipeError" then some true else if x = "ValueError" then some true else none) else if c = "NoPipe" then (if x = "NoText" then some false else if x = "NoPlace" then some false else if x = "TooMany" then some false else if x = "NoStep" then some false else if x = "NoLine" then some false else if x = "Unknown" then some false else if x = "NoPipe" then some true else if x = "Falls" then some false else if x = "Falling" then some false else if x = "PipeError" then some true else if x = "ValueError" then some true else none) else if c = "Falls" then (if x = "NoText" then some false else if x = "NoPlace" then some false else if x = "TooMany" then some false else if x = "NoStep" then some false else if x = "NoLine" then some false else if x = "Unknown" then some false else if x = "NoPipe" then some false else if x = "Falls" then some true else if x = "Falling" then some false else if x = "PipeError" then some true else if x = "ValueError" then some true else none) else if c = "Falling" then (if x = "NoText" then some false else if x = "NoPlace" then some false else if x = "TooMany" then some false else if x = "NoStep" then some false else if x = "NoLine" then some false else if x = "Unknown" then some false else if x = "NoPipe" then some false else if x = "Falls" then some false else if x = "Falling" then some true else if x = "PipeError" then some true else if x = "ValueError" then some true else none) else none, fld := fun c f => (decide (c = "NoPipe") && (decide (f = "place") || decide (f = "why"))) || (decide (c = "Falls") && (decide (f = "place") || decide (f = "row"))) || (decide (c = "Falling") && (decide (f = "place") || decide (f = "rows"))), exv := fun c => if c = "NoText" then some none else if c = "NoPlace" then some none else if c = "TooMany" then some none else if c = "NoStep" then some none else if c = "NoLine" then some none else if c = "Unknown" then some none else if c = "NoPipe" then some (some ("place", "why", some 18)) else if c = "Falls" then some (some ("place", "row", none)) else if c = "Falling" then some (some ("place", "rows", none)) else none }
def in_NoPipe : Stmt := (clsBody (PySem.Challenge.pw_rowpipes_k18_refusals.main.body.getD 8 (.Pass ⟨0, 0, 0, 0⟩))).getD 0 (.Pass ⟨0, 0, 0, 0⟩)
theorem if_NoPipe : IForm in_NoPipe "place" "why" "place" "why" (.cat ⟨#[110, 111, 116, 32, 112, 117, 116, 32, 116, 111, 103, 101, 116, 104, 101, 114, 58, 32]⟩) where
  body := ⟨_, _, _, _, _, _, _, _, _, _, _, _, _, _, ⟨_, _, _, _, rfl⟩, rfl, rfl⟩
  sc := scopeB_ok (by decide +kernel)
  gl := by decide +kernel
  nd := by decide +kernel
def in_Falls : Stmt := (clsBody (PySem.Challenge.pw_rowpipes_k18_refusals.main.body.getD 9 (.Pass ⟨0, 0, 0, 0⟩))).getD 0 (.Pass ⟨0, 0, 0, 0⟩)
theorem if_Falls : IForm in_Falls "place" "row" "place" "row" (.lit ⟨#[97, 32, 99, 101, 108, 108, 32, 99, 97, 110, 39, 116, 32, 98, 101, 32, 116, 97, 107, 101, 110]⟩) where
  body := ⟨_, _, _, _, _, _, _, _, _, _, _, _, _, _, ⟨_, _, rfl⟩, rfl, rfl⟩
  sc := scopeB_ok (by decide +kernel)
  gl := by decide +kernel
  nd := by decide +kernel
def in_Falling : Stmt := (clsBody (PySem.Challenge.pw_rowpipes_k18_refusals.main.body.getD 10 (.Pass ⟨0, 0, 0, 0⟩))).getD 0 (.Pass ⟨0, 0, 0, 0⟩)
theorem if_Falling : IForm in_Falling "place" "rows" "place" "rows" (.lit ⟨#[110, 111, 116, 32, 108, 101, 116, 32, 98, 121]⟩) where
  body := ⟨_, _, _, _, _, _, _, _, _, _, _, _, _, _, ⟨_, _, rfl⟩, rfl, rfl⟩
  sc := scopeB_ok (by decide +kernel)
  gl := by decide +kernel
  nd := by decide +kernel
theorem ex_ok {K : PySem.W.Frag} {mg : Str → Option Value} {h : Heap} (KX : K.In h) (G : h.Ns mainGlobals mg) {C0 C1 C2 C3 C4 C5 C6 C7 C8 C9 : Addr}
    {fI_6 N_6 : Addr} {oc_6 kV_6 doc_6 pm_6 cdv_6 ct_6 : Value} {od_6 an_6 dd_6 : Option Addr} {osl_6 : Array (Option Value)} {nm_6 q_6 : Str} {bs_6 bm_6 su_6 : List Value} {sn_6 : List Str} {ab_6 : Bool} {col_6 : Option Bool} {e0_6 e1_6 e2_6 e3_6 e5_6 : Option Value}
    {fI_7 N_7 : Addr} {oc_7 kV_7 doc_7 pm_7 cdv_7 ct_7 : Value} {od_7 an_7 dd_7 : Option Addr} {osl_7 : Array (Option Value)} {nm_7 q_7 : Str} {bs_7 bm_7 su_7 : List Value} {sn_7 : List Str} {ab_7 : Bool} {col_7 : Option Bool} {e0_7 e1_7 e2_7 e3_7 e5_7 : Option Value}
    {fI_8 N_8 : Addr} {oc_8 kV_8 doc_8 pm_8 cdv_8 ct_8 : Value} {od_8 an_8 dd_8 : Option Addr} {osl_8 : Array (Option Value)} {nm_8 q_8 : Str} {bs_8 bm_8 su_8 : List Value} {sn_8 : List Str} {ab_8 : Bool} {col_8 : Option Bool} {e0_8 e1_8 e2_8 e3_8 e5_8 : Option Value}
    (n0 : PySem.W.nsIn K mainGlobals "NoText" = some (some (.ref C0)))
    (b0 : PySem.W.subIn K (.ref C0) (.type "BaseException") = some true)
    (t0 : PySem.W.typeIn K (.ref C0) = some (.type "type"))
    (i0 : PySem.W.isClsIn K C0 = true)
    (n1 : PySem.W.nsIn K mainGlobals "NoPlace" = some (some (.ref C1)))
    (b1 : PySem.W.subIn K (.ref C1) (.type "BaseException") = some true)
    (t1 : PySem.W.typeIn K (.ref C1) = some (.type "type"))
    (i1 : PySem.W.isClsIn K C1 = true)
    (n2 : PySem.W.nsIn K mainGlobals "TooMany" = some (some (.ref C2)))
    (b2 : PySem.W.subIn K (.ref C2) (.type "BaseException") = some true)
    (t2 : PySem.W.typeIn K (.ref C2) = some (.type "type"))
    (i2 : PySem.W.isClsIn K C2 = true)
    (n3 : PySem.W.nsIn K mainGlobals "NoStep" = some (some (.ref C3)))
    (b3 : PySem.W.subIn K (.ref C3) (.type "BaseException") = some true)
    (t3 : PySem.W.typeIn K (.ref C3) = some (.type "type"))
    (i3 : PySem.W.isClsIn K C3 = true)
    (n4 : PySem.W.nsIn K mainGlobals "NoLine" = some (some (.ref C4)))
    (b4 : PySem.W.subIn K (.ref C4) (.type "BaseException") = some true)
    (t4 : PySem.W.typeIn K (.ref C4) = some (.type "type"))
    (i4 : PySem.W.isClsIn K C4 = true)
    (n5 : PySem.W.nsIn K mainGlobals "Unknown" = some (some (.ref C5)))
    (b5 : PySem.W.subIn K (.ref C5) (.type "BaseException") = some true)
    (t5 : PySem.W.typeIn K (.ref C5) = some (.type "type"))
    (i5 : PySem.W.isClsIn K C5 = true)
    (n6 : PySem.W.nsIn K mainGlobals "NoPipe" = some (some (.ref C6)))
    (b6 : PySem.W.subIn K (.ref C6) (.type "BaseException") = some true)
    (t6 : PySem.W.typeIn K (.ref C6) = some (.type "type"))
    (i6 : PySem.W.isClsIn K C6 = true)
    (n7 : PySem.W.nsIn K mainGlobals "Falls" = some (some (.ref C7)))
    (b7 : PySem.W.subIn K (.ref C7) (.type "BaseException") = some true)
    (t7 : PySem.W.typeIn K (.ref C7) = some (.type "type"))
    (i7 : PySem.W.isClsIn K C7 = true)
    (n8 : PySem.W.nsIn K mainGlobals "Falling" = some (some (.ref C8)))
    (b8 : PySem.W.subIn K (.ref C8) (.type "BaseException") = some true)
    (t8 : PySem.W.typeIn K (.ref C8) = some (.type "type"))
    (i8 : PySem.W.isClsIn K C8 = true)
    (n9 : PySem.W.nsIn K mainGlobals "PipeError" = some (some (.ref C9)))
    (b9 : PySem.W.subIn K (.ref C9) (.type "BaseException") = some true)
    (t9 : PySem.W.typeIn K (.ref C9) = some (.type "type"))
    (i9 : PySem.W.isClsIn K C9 = true)
    (y1 : PySem.W.specialIn K (.ref C9) "__getattribute__" = some (some (.builtin "type.__getattribute__")))
    (y2 : PySem.W.readsIn K C9 (.type "type") = true)
    (y3 : PySem.W.findCls K (.ref C9) (.type "type") "__init__" = some (.val (.builtin "ValueError.__init__")))
    (k0 : PySem.W.keepIn K (.ref C0) = true)
    (g0 : PySem.W.findIn K (.ref C0) "__getattribute__" = some (some (.builtin "BaseException.__getattribute__")))
    (h0 : PySem.W.findIn K (.ref C0) "__getattr__" = some none)
    (d0 : PySem.W.hasDictIn K C0 = true)
    (a0 : PySem.W.findIn K (.ref C0) "__class__" = some (some (.builtin "object.__class__")))
    (m0 : PySem.W.mroIn K C0 (.type "object") = some true)
    (s0_0 : PySem.W.subIn K (.ref C0) (.ref C0) = some true)
    (s0_1 : PySem.W.subIn K (.ref C0) (.ref C1) = some false)
    (s0_2 : PySem.W.subIn K (.ref C0) (.ref C2) = some false)
    (s0_3 : PySem.W.subIn K (.ref C0) (.ref C3) = some false)
    (s0_4 : PySem.W.subIn K (.ref C0) (.ref C4) = some false)
    (s0_5 : PySem.W.subIn K (.ref C0) (.ref C5) = some false)
    (s0_6 : PySem.W.subIn K (.ref C0) (.ref C6) = some false)
    (s0_7 : PySem.W.subIn K (.ref C0) (.ref C7) = some false)
    (s0_8 : PySem.W.subIn K (.ref C0) (.ref C8) = some false)
    (s0_9 : PySem.W.subIn K (.ref C0) (.ref C9) = some true)
    (s0_ValueError : PySem.W.subIn K (.ref C0) (.type "ValueError") = some true)
    (x0 : PySem.W.excIn K C0 veBM "ValueError.__new__" = true)
    (k1 : PySem.W.keepIn K (.ref C1) = true)
    (g1 : PySem.W.findIn K (.ref C1) "__getattribute__" = some (some (.builtin "BaseException.__getattribute__")))
    (h1 : PySem.W.findIn K (.ref C1) "__getattr__" = some none)
    (d1 : PySem.W.hasDictIn K C1 = true)
    (a1 : PySem.W.findIn K (.ref C1) "__class__" = some (some (.builtin "object.__class__")))
    (m1 : PySem.W.mroIn K C1 (.type "object") = some true)
    (s1_0 : PySem.W.subIn K (.ref C1) (.ref C0) = some false)
    (s1_1 : PySem.W.subIn K (.ref C1) (.ref C1) = some true)
    (s1_2 : PySem.W.subIn K (.ref C1) (.ref C2) = some false)
    (s1_3 : PySem.W.subIn K (.ref C1) (.ref C3) = some false)
    (s1_4 : PySem.W.subIn K (.ref C1) (.ref C4) = some false)
    (s1_5 : PySem.W.subIn K (.ref C1) (.ref C5) = some false)
    (s1_6 : PySem.W.subIn K (.ref C1) (.ref C6) = some false)
    (s1_7 : PySem.W.subIn K (.ref C1) (.ref C7) = some false)
    (s1_8 : PySem.W.subIn K (.ref C1) (.ref C8) = some false)
    (s1_9 : PySem.W.subIn K (.ref C1) (.ref C9) = some true)
    (s1_ValueError : PySem.W.subIn K (.ref C1) (.type "ValueError") = some true)
    (x1 : PySem.W.excIn K C1 veBM "ValueError.__new__" = true)
    (k2 : PySem.W.keepIn K (.ref C2) = true)
    (g2 : PySem.W.findIn K (.ref C2) "__getattribute__" = some (some (.builtin "BaseException.__getattribute__")))
    (h2 : PySem.W.findIn K (.ref C2) "__getattr__" = some none)
    (d2 : PySem.W.hasDictIn K C2 = true)
    (a2 : PySem.W.findIn K (.ref C2) "__class__" = some (some (.builtin "object.__class__")))
    (m2 : PySem.W.mroIn K C2 (.type "object") = some true)
    (s2_0 : PySem.W.subIn K (.ref C2) (.ref C0) = some false)
    (s2_1 : PySem.W.subIn K (.ref C2) (.ref C1) = some false)
    (s2_2 : PySem.W.subIn K (.ref C2) (.ref C2) = some true)
    (s2_3 : PySem.W.subIn K (.ref C2) (.ref C3) = some false)
    (s2_4 : PySem.W.subIn K (.ref C2) (.ref C4) = some false)
    (s2_5 : PySem.W.subIn K (.ref C2) (.ref C5) = some false)
    (s2_6 : PySem.W.subIn K (.ref C2) (.ref C6) = some false)
    (s2_7 : PySem.W.subIn K (.ref C2) (.ref C7) = some false)
    (s2_8 : PySem.W.subIn K (.ref C2) (.ref C8) = some false)
    (s2_9 : PySem.W.subIn K (.ref C2) (.ref C9) = some true)
    (s2_ValueError : PySem.W.subIn K (.ref C2) (.type "ValueError") = some true)
    (x2 : PySem.W.excIn K C2 veBM "ValueError.__new__" = true)
    (k3 : PySem.W.keepIn K (.ref C3) = true)
    (g3 : PySem.W.findIn K (.ref C3) "__getattribute__" = some (some (.builtin "BaseException.__getattribute__")))
    (h3 : PySem.W.findIn K (.ref C3) "__getattr__" = some none)
    (d3 : PySem.W.hasDictIn K C3 = true)
    (a3 : PySem.W.findIn K (.ref C3) "__class__" = some (some (.builtin "object.__class__")))
    (m3 : PySem.W.mroIn K C3 (.type "object") = some true)
    (s3_0 : PySem.W.subIn K (.ref C3) (.ref C0) = some false)
    (s3_1 : PySem.W.subIn K (.ref C3) (.ref C1) = some false)
    (s3_2 : PySem.W.subIn K (.ref C3) (.ref C2) = some false)
    (s3_3 : PySem.W.subIn K (.ref C3) (.ref C3) = some true)
    (s3_4 : PySem.W.subIn K (.ref C3) (.ref C4) = some false)
    (s3_5 : PySem.W.subIn K (.ref C3) (.ref C5) = some false)
    (s3_6 : PySem.W.subIn K (.ref C3) (.ref C6) = some false)
    (s3_7 : PySem.W.subIn K (.ref C3) (.ref C7) = some false)
    (s3_8 : PySem.W.subIn K (.ref C3) (.ref C8) = some false)
    (s3_9 : PySem.W.subIn K (.ref C3) (.ref C9) = some true)
    (s3_ValueError : PySem.W.subIn K (.ref C3) (.type "ValueError") = some true)
    (x3 : PySem.W.excIn K C3 veBM "ValueError.__new__" = true)
    (k4 : PySem.W.keepIn K (.ref C4) = true)
    (g4 : PySem.W.findIn K (.ref C4) "__getattribute__" = some (some (.builtin "BaseException.__getattribute__")))
    (h4 : PySem.W.findIn K (.ref C4) "__getattr__" = some none)
    (d4 : PySem.W.hasDictIn K C4 = true)
    (a4 : PySem.W.findIn K (.ref C4) "__class__" = some (some (.builtin "object.__class__")))
    (m4 : PySem.W.mroIn K C4 (.type "object") = some true)
    (s4_0 : PySem.W.subIn K (.ref C4) (.ref C0) = some false)
    (s4_1 : PySem.W.subIn K (.ref C4) (.ref C1) = some false)
    (s4_2 : PySem.W.subIn K (.ref C4) (.ref C2) = some false)
    (s4_3 : PySem.W.subIn K (.ref C4) (.ref C3) = some false)
    (s4_4 : PySem.W.subIn K (.ref C4) (.ref C4) = some true)
    (s4_5 : PySem.W.subIn K (.ref C4) (.ref C5) = some false)
    (s4_6 : PySem.W.subIn K (.ref C4) (.ref C6) = some false)
    (s4_7 : PySem.W.subIn K (.ref C4) (.ref C7) = some false)
    (s4_8 : PySem.W.subIn K (.ref C4) (.ref C8) = some false)
    (s4_9 : PySem.W.subIn K (.ref C4) (.ref C9) = some true)
    (s4_ValueError : PySem.W.subIn K (.ref C4) (.type "ValueError") = some true)
    (x4 : PySem.W.excIn K C4 veBM "ValueError.__new__" = true)
    (k5 : PySem.W.keepIn K (.ref C5) = true)
    (g5 : PySem.W.findIn K (.ref C5) "__getattribute__" = some (some (.builtin "BaseException.__getattribute__")))
    (h5 : PySem.W.findIn K (.ref C5) "__getattr__" = some none)
    (d5 : PySem.W.hasDictIn K C5 = true)
    (a5 : PySem.W.findIn K (.ref C5) "__class__" = some (some (.builtin "object.__class__")))
    (m5 : PySem.W.mroIn K C5 (.type "object") = some true)
    (s5_0 : PySem.W.subIn K (.ref C5) (.ref C0) = some false)
    (s5_1 : PySem.W.subIn K (.ref C5) (.ref C1) = some false)
    (s5_2 : PySem.W.subIn K (.ref C5) (.ref C2) = some false)
    (s5_3 : PySem.W.subIn K (.ref C5) (.ref C3) = some false)
    (s5_4 : PySem.W.subIn K (.ref C5) (.ref C4) = some false)
    (s5_5 : PySem.W.subIn K (.ref C5) (.ref C5) = some true)
    (s5_6 : PySem.W.subIn K (.ref C5) (.ref C6) = some false)
    (s5_7 : PySem.W.subIn K (.ref C5) (.ref C7) = some false)
    (s5_8 : PySem.W.subIn K (.ref C5) (.ref C8) = some false)
    (s5_9 : PySem.W.subIn K (.ref C5) (.ref C9) = some true)
    (s5_ValueError : PySem.W.subIn K (.ref C5) (.type "ValueError") = some true)
    (x5 : PySem.W.excIn K C5 veBM "ValueError.__new__" = true)
    (k6 : PySem.W.keepIn K (.ref C6) = true)
    (g6 : PySem.W.findIn K (.ref C6) "__getattribute__" = some (some (.builtin "BaseException.__getattribute__")))
    (h6 : PySem.W.findIn K (.ref C6) "__getattr__" = some none)
    (d6 : PySem.W.hasDictIn K C6 = true)
    (a6 : PySem.W.findIn K (.ref C6) "__class__" = some (some (.builtin "object.__class__")))
    (m6 : PySem.W.mroIn K C6 (.type "object") = some true)
    (s6_0 : PySem.W.subIn K (.ref C6) (.ref C0) = some false)
    (s6_1 : PySem.W.subIn K (.ref C6) (.ref C1) = some false)
    (s6_2 : PySem.W.subIn K (.ref C6) (.ref C2) = some false)
    (s6_3 : PySem.W.subIn K (.ref C6) (.ref C3) = some false)
    (s6_4 : PySem.W.subIn K (.ref C6) (.ref C4) = some false)
    (s6_5 : PySem.W.subIn K (.ref C6) (.ref C5) = some false)
    (s6_6 : PySem.W.subIn K (.ref C6) (.ref C6) = some true)
    (s6_7 : PySem.W.subIn K (.ref C6) (.ref C7) = some false)
    (s6_8 : PySem.W.subIn K (.ref C6) (.ref C8) = some false)
    (s6_9 : PySem.W.subIn K (.ref C6) (.ref C9) = some true)
    (s6_ValueError : PySem.W.subIn K (.ref C6) (.type "ValueError") = some true)
    (o6 : K.lookup C6 = some (excClassObj nm_6 q_6 C6 N_6 bs_6 bm_6 true sn_6 su_6 ab_6 col_6 dd_6 e0_6 e1_6 e2_6 e3_6 e5_6 "ValueError.__new__"))
    (r6 : PySem.HandSPX.refsVE bm_6 = true)
    (sa6 : PySem.W.findIn K (.ref C6) "__setattr__" = some (some (.builtin "object.__setattr__")))
    (v6 : PySem.W.findIn K (.ref C6) "__init__" = some (some (.ref fI_6)))
    (w6 : PySem.W.typeIn K (.ref fI_6) = some (.type "function"))
    (l6 : K.lookup fI_6 = some ⟨oc_6, od_6, .func (PySem.W.fnOf "__init__" "NoPipe.__init__" (defArgs in_NoPipe) (defBody in_NoPipe) (defScope in_NoPipe) .none kV_6 doc_6 pm_6 an_6 cdv_6 ct_6), osl_6⟩)
    (c6 : PySem.W.codeIn K cdv_6 "NoPipe.__init__" = true)
    (kk6 : PySem.W.keepIn K (.ref fI_6) = true)
    (p6 : PySem.W.findIn K (.ref C6) "place" = some none)
    (q6 : PySem.W.findIn K (.ref C6) "why" = some none)
    (k7 : PySem.W.keepIn K (.ref C7) = true)
    (g7 : PySem.W.findIn K (.ref C7) "__getattribute__" = some (some (.builtin "BaseException.__getattribute__")))
    (h7 : PySem.W.findIn K (.ref C7) "__getattr__" = some none)
    (d7 : PySem.W.hasDictIn K C7 = true)
    (a7 : PySem.W.findIn K (.ref C7) "__class__" = some (some (.builtin "object.__class__")))
    (m7 : PySem.W.mroIn K C7 (.type "object") = some true)
    (s7_0 : PySem.W.subIn K (.ref C7) (.ref C0) = some false)
    (s7_1 : PySem.W.subIn K (.ref C7) (.ref C1) = some false)
    (s7_2 : PySem.W.subIn K (.ref C7) (.ref C2) = some false)
    (s7_3 : PySem.W.subIn K (.ref C7) (.ref C3) = some false)
    (s7_4 : PySem.W.subIn K (.ref C7) (.ref C4) = some false)
    (s7_5 : PySem.W.subIn K (.ref C7) (.ref C5) = some false)
    (s7_6 : PySem.W.subIn K (.ref C7) (.ref C6) = some false)
    (s7_7 : PySem.W.subIn K (.ref C7) (.ref C7) = some true)
    (s7_8 : PySem.W.subIn K (.ref C7) (.ref C8) = some false)
    (s7_9 : PySem.W.subIn K (.ref C7) (.ref C9) = some true)
    (s7_ValueError : PySem.W.subIn K (.ref C7) (.type "ValueError") = some true)
    (o7 : K.lookup C7 = some (excClassObj nm_7 q_7 C7 N_7 bs_7 bm_7 true sn_7 su_7 ab_7 col_7 dd_7 e0_7 e1_7 e2_7 e3_7 e5_7 "ValueError.__new__"))
    (r7 : PySem.HandSPX.refsVE bm_7 = true)
    (sa7 : PySem.W.findIn K (.ref C7) "__setattr__" = some (some (.builtin "object.__setattr__")))
    (v7 : PySem.W.findIn K (.ref C7) "__init__" = some (some (.ref fI_7)))
    (w7 : PySem.W.typeIn K (.ref fI_7) = some (.type "function"))
    (l7 : K.lookup fI_7 = some ⟨oc_7, od_7, .func (PySem.W.fnOf "__init__" "Falls.__init__" (defArgs in_Falls) (defBody in_Falls) (defScope in_Falls) .none kV_7 doc_7 pm_7 an_7 cdv_7 ct_7), osl_7⟩)
    (c7 : PySem.W.codeIn K cdv_7 "Falls.__init__" = true)
    (kk7 : PySem.W.keepIn K (.ref fI_7) = true)
    (p7 : PySem.W.findIn K (.ref C7) "place" = some none)
    (q7 : PySem.W.findIn K (.ref C7) "row" = some none)
    (k8 : PySem.W.keepIn K (.ref C8) = true)
    (g8 : PySem.W.findIn K (.ref C8) "__getattribute__" = some (some (.builtin "BaseException.__getattribute__")))
    (h8 : PySem.W.findIn K (.ref C8) "__getattr__" = some none)
    (d8 : PySem.W.hasDictIn K C8 = true)
    (a8 : PySem.W.findIn K (.ref C8) "__class__" = some (some (.builtin "object.__class__")))
    (m8 : PySem.W.mroIn K C8 (.type "object") = some true)
    (s8_0 : PySem.W.subIn K (.ref C8) (.ref C0) = some false)
    (s8_1 : PySem.W.subIn K (.ref C8) (.ref C1) = some false)
    (s8_2 : PySem.W.subIn K (.ref C8) (.ref C2) = some false)
    (s8_3 : PySem.W.subIn K (.ref C8) (.ref C3) = some false)
    (s8_4 : PySem.W.subIn K (.ref C8) (.ref C4) = some false)
    (s8_5 : PySem.W.subIn K (.ref C8) (.ref C5) = some false)
    (s8_6 : PySem.W.subIn K (.ref C8) (.ref C6) = some false)
    (s8_7 : PySem.W.subIn K (.ref C8) (.ref C7) = some false)
    (s8_8 : PySem.W.subIn K (.ref C8) (.ref C8) = some true)
    (s8_9 : PySem.W.subIn K (.ref C8) (.ref C9) = some true)
    (s8_ValueError : PySem.W.subIn K (.ref C8) (.type "ValueError") = some true)
    (o8 : K.lookup C8 = some (excClassObj nm_8 q_8 C8 N_8 bs_8 bm_8 true sn_8 su_8 ab_8 col_8 dd_8 e0_8 e1_8 e2_8 e3_8 e5_8 "ValueError.__new__"))
    (r8 : PySem.HandSPX.refsVE bm_8 = true)
    (sa8 : PySem.W.findIn K (.ref C8) "__setattr__" = some (some (.builtin "object.__setattr__")))
    (v8 : PySem.W.findIn K (.ref C8) "__init__" = some (some (.ref fI_8)))
    (w8 : PySem.W.typeIn K (.ref fI_8) = some (.type "function"))
    (l8 : K.lookup fI_8 = some ⟨oc_8, od_8, .func (PySem.W.fnOf "__init__" "Falling.__init__" (defArgs in_Falling) (defBody in_Falling) (defScope in_Falling) .none kV_8 doc_8 pm_8 an_8 cdv_8 ct_8), osl_8⟩)
    (c8 : PySem.W.codeIn K cdv_8 "Falling.__init__" = true)
    (kk8 : PySem.W.keepIn K (.ref fI_8) = true)
    (p8 : PySem.W.findIn K (.ref C8) "place" = some none)
    (q8 : PySem.W.findIn K (.ref C8) "rows" = some none)
    (hn : PySem.W.specialIn K (.builtin "object.__class__") "__get__" = some (some (.builtin "getset_descriptor.__get__")))
    (ht : PySem.W.takesIn K (.builtin "object.__class__") = some true)
    (z_ValueError : PySem.W.nsIn K mainGlobals "ValueError" = some none) : ExOk exI K mg := by
  have ec0 : ExcC K C0 := ⟨g0, h0, b0, d0, a0, hn, ht, m0⟩
  have ec1 : ExcC K C1 := ⟨g1, h1, b1, d1, a1, hn, ht, m1⟩
  have ec2 : ExcC K C2 := ⟨g2, h2, b2, d2, a2, hn, ht, m2⟩
  have ec3 : ExcC K C3 := ⟨g3, h3, b3, d3, a3, hn, ht, m3⟩
  have ec4 : ExcC K C4 := ⟨g4, h4, b4, d4, a4, hn, ht, m4⟩
  have ec5 : ExcC K C5 := ⟨g5, h5, b5, d5, a5, hn, ht, m5⟩
  have ec6 : ExcC K C6 := ⟨g6, h6, b6, d6, a6, hn, ht, m6⟩
  have ec7 : ExcC K C7 := ⟨g7, h7, b7, d7, a7, hn, ht, m7⟩
  have ec8 : ExcC K C8 := ⟨g8, h8, b8, d8, a8, hn, ht, m8⟩
  refine ⟨fun c h => (nomatch h), fun c x b h => ?_, fun c f h => ?_, fun c x h => ?_⟩
  · have h : (if c = "NoText" then (if x = "NoText" then some true else if x = "NoPlace" then some false else if x = "TooMany" then some false else if x = "NoStep" then some false else if x = "NoLine" then some false else if x = "Unknown" then some false else if x = "NoPipe" then some false else if x = "Falls" then some false else if x = "Falling" then some false else if x = "PipeError" then some true else if x = "ValueError" then some true else none) else if c = "NoPlace" then (if x = "NoText" then some false else if x = "NoPlace" then some true else if x = "TooMany" then some false else if x = "NoStep" then some false else if x = "NoLine" then some false else if x = "Unknown" then some false else if x = "NoPipe" then some false else if x = "Falls" then some false else if x = "Falling" then some false else if x = "PipeError" then some true else if x = "ValueError" then some true else none) else if c = "TooMany" then (if x = "NoText" then some false else if x = "NoPlace" then some false else if x = "TooMany" then some true else if x = "NoStep" then some false else if x = "NoLine" then some false else if x = "Unknown" then some false else if x = "NoPipe" then some false else if x = "Falls" then some false else if x = "Falling" then some false else if x = "PipeError" then some true else if x = "ValueError" then some true else none) else if c = "NoStep" then (if x = "NoText" then some false else if x = "NoPlace" then some false else if x = "TooMany" then some false else if x = "NoStep" then some true else if x = "NoLine" then some false else if x = "Unknown" then some false else if x = "NoPipe" then some false else if x = "Falls" then some false else if x = "Falling" then some false else if x = "PipeError" then some true else if x = "ValueError" then some true else none) else if c = "NoLine" then (if x = "NoText" then some false else if x = "NoPlace" then some false else if x = "TooMany" then some false else if x = "NoStep" then some false else if x = "NoLine" then some true else if x = "Unknown" then some false else if x = "NoPipe" then some false else if x = "Falls" then some false else if x = "Falling" then some false else if x = "PipeError" then some true else if x = "ValueError" then some true else none) else if c = "Unknown" then (if x = "NoText" then some false else if x = "NoPlace" then some false else if x = "TooMany" then some false else if x = "NoStep" then some false else if x = "NoLine" then some false else if x = "Unknown" then some true else if x = "NoPipe" then some false else if x = "Falls" then some false else if x = "Falling" then some false else if x = "PipeError" then some true else if x = "ValueError" then some true else none) else if c = "NoPipe" then (if x = "NoText" then some false else if x = "NoPlace" then some false else if x = "TooMany" then some false else if x = "NoStep" then some false else if x = "NoLine" then some false else if x = "Unknown" then some false else if x = "NoPipe" then some true else if x = "Falls" then some false else if x = "Falling" then some false else if x = "PipeError" then some true else if x = "ValueError" then some true else none) else if c = "Falls" then (if x = "NoText" then some false else if x = "NoPlace" then some false else if x = "TooMany" then some false else if x = "NoStep" then some false else if x = "NoLine" then some false else if x = "Unknown" then some false else if x = "NoPipe" then some false else if x = "Falls" then some true else if x = "Falling" then some false else if x = "PipeError" then some true else if x = "ValueError" then some true else none) else if c = "Falling" then (if x = "NoText" then some false else if x = "NoPlace" then some false else if x = "TooMany" then some false else if x = "NoStep" then some false else if x = "NoLine" then some false else if x = "Unknown" then some false else if x = "NoPipe" then some false else if x = "Falls" then some false else if x = "Falling" then some true else if x = "PipeError" then some true else if x = "ValueError" then some true else none) else none) = some b := h
    by_cases hc : c = "NoText"
    · subst hc
      rw [if_pos rfl] at h
      by_cases hx : x = "NoText"
      · subst hx
        rw [if_pos rfl] at h
        cases h
        obtain ⟨q1, q2⟩ := sub_own b0 t0 i0 s0_0 (.inr rfl)
        exact ⟨C0, .ref C0, .ref C0, PySem.W.mg_of KX G n0, .inl (PySem.W.mg_of KX G n0), q1, q2, rfl, fun u r => r, ec0⟩
      rw [if_neg hx] at h
      by_cases hx : x = "NoPlace"
      · subst hx
        rw [if_pos rfl] at h
        cases h
        obtain ⟨q1, q2⟩ := sub_own b1 t1 i1 s0_1 (.inl fun e => by have z := s0_1; rw [e, s1_1] at z; cases z)
        exact ⟨C0, .ref C1, .ref C1, PySem.W.mg_of KX G n0, .inl (PySem.W.mg_of KX G n1), q1, q2, rfl, fun u r => r, ec0⟩
      rw [if_neg hx] at h
      by_cases hx : x = "TooMany"
      · subst hx
        rw [if_pos rfl] at h
        cases h
        obtain ⟨q1, q2⟩ := sub_own b2 t2 i2 s0_2 (.inl fun e => by have z := s0_2; rw [e, s2_2] at z; cases z)
        exact ⟨C0, .ref C2, .ref C2, PySem.W.mg_of KX G n0, .inl (PySem.W.mg_of KX G n2), q1, q2, rfl, fun u r => r, ec0⟩
      rw [if_neg hx] at h
      by_cases hx : x = "NoStep"
      · subst hx
        rw [if_pos rfl] at h
        cases h
        obtain ⟨q1, q2⟩ := sub_own b3 t3 i3 s0_3 (.inl fun e => by have z := s0_3; rw [e, s3_3] at z; cases z)
        exact ⟨C0, .ref C3, .ref C3, PySem.W.mg_of KX G n0, .inl (PySem.W.mg_of KX G n3), q1, q2, rfl, fun u r => r, ec0⟩
      rw [if_neg hx] at h
      by_cases hx : x = "NoLine"
      · subst hx
        rw [if_pos rfl] at h
        cases h
        obtain ⟨q1, q2⟩ := sub_own b4 t4 i4 s0_4 (.inl fun e => by have z := s0_4; rw [e, s4_4] at z; cases z)
        exact ⟨C0, .ref C4, .ref C4, PySem.W.mg_of KX G n0, .inl (PySem.W.mg_of KX G n4), q1, q2, rfl, fun u r => r, ec0⟩
      rw [if_neg hx] at h
      by_cases hx : x = "Unknown"
      · subst hx
        rw [if_pos rfl] at h
        cases h
        obtain ⟨q1, q2⟩ := sub_own b5 t5 i5 s0_5 (.inl fun e => by have z := s0_5; rw [e, s5_5] at z; cases z)
        exact ⟨C0, .ref C5, .ref C5, PySem.W.mg_of KX G n0, .inl (PySem.W.mg_of KX G n5), q1, q2, rfl, fun u r => r, ec0⟩
      rw [if_neg hx] at h
      by_cases hx : x = "NoPipe"
      · subst hx
        rw [if_pos rfl] at h
        cases h
        obtain ⟨q1, q2⟩ := sub_own b6 t6 i6 s0_6 (.inl fun e => by have z := s0_6; rw [e, s6_6] at z; cases z)
        exact ⟨C0, .ref C6, .ref C6, PySem.W.mg_of KX G n0, .inl (PySem.W.mg_of KX G n6), q1, q2, rfl, fun u r => r, ec0⟩
      rw [if_neg hx] at h
      by_cases hx : x = "Falls"
      · subst hx
        rw [if_pos rfl] at h
        cases h
        obtain ⟨q1, q2⟩ := sub_own b7 t7 i7 s0_7 (.inl fun e => by have z := s0_7; rw [e, s7_7] at z; cases z)
        exact ⟨C0, .ref C7, .ref C7, PySem.W.mg_of KX G n0, .inl (PySem.W.mg_of KX G n7), q1, q2, rfl, fun u r => r, ec0⟩
      rw [if_neg hx] at h
      by_cases hx : x = "Falling"
      · subst hx
        rw [if_pos rfl] at h
        cases h
        obtain ⟨q1, q2⟩ := sub_own b8 t8 i8 s0_8 (.inl fun e => by have z := s0_8; rw [e, s8_8] at z; cases z)
        exact ⟨C0, .ref C8, .ref C8, PySem.W.mg_of KX G n0, .inl (PySem.W.mg_of KX G n8), q1, q2, rfl, fun u r => r, ec0⟩
      rw [if_neg hx] at h
      by_cases hx : x = "PipeError"
      · subst hx
        rw [if_pos rfl] at h
        cases h
        obtain ⟨q1, q2⟩ := sub_own b9 t9 i9 s0_9 (.inr rfl)
        exact ⟨C0, .ref C9, .ref C9, PySem.W.mg_of KX G n0, .inl (PySem.W.mg_of KX G n9), q1, q2, rfl, fun u r => r, ec0⟩
      rw [if_neg hx] at h
      by_cases hx : x = "ValueError"
      · subst hx
        rw [if_pos rfl] at h
        cases h
        obtain ⟨q1, q2⟩ := sub_ty (K := K) (T := "ValueError") (by decide +kernel) (show (fastBuiltinMro "ValueError").map (fun l => l.contains (.type "BaseException")) = some true by decide +kernel) s0_ValueError
        exact ⟨C0, .type "ValueError", .ty "ValueError", PySem.W.mg_of KX G n0, .inr ⟨PySem.W.mg_none_of KX G z_ValueError, by decide +kernel, by decide +kernel⟩, q1, q2, rfl, fun u r => r, ec0⟩
      rw [if_neg hx] at h
      cases h
    rw [if_neg hc] at h
    by_cases hc : c = "NoPlace"
    · subst hc
      rw [if_pos rfl] at h
      by_cases hx : x = "NoText"
      · subst hx
        rw [if_pos rfl] at h
        cases h
        obtain ⟨q1, q2⟩ := sub_own b0 t0 i0 s1_0 (.inl fun e => by have z := s1_0; rw [e, s0_0] at z; cases z)
        exact ⟨C1, .ref C0, .ref C0, PySem.W.mg_of KX G n1, .inl (PySem.W.mg_of KX G n0), q1, q2, rfl, fun u r => r, ec1⟩
      rw [if_neg hx] at h
      by_cases hx : x = "NoPlace"
      · subst hx
        rw [if_pos rfl] at h
        cases h
        obtain ⟨q1, q2⟩ := sub_own b1 t1 i1 s1_1 (.inr rfl)
        exact ⟨C1, .ref C1, .ref C1, PySem.W.mg_of KX G n1, .inl (PySem.W.mg_of KX G n1), q1, q2, rfl, fun u r => r, ec1⟩
      rw [if_neg hx] at h
      by_cases hx : x = "TooMany"
      · subst hx
        rw [if_pos rfl] at h
        cases h
        obtain ⟨q1, q2⟩ := sub_own b2 t2 i2 s1_2 (.inl fun e => by have z := s1_2; rw [e, s2_2] at z; cases z)
        exact ⟨C1, .ref C2, .ref C2, PySem.W.mg_of KX G n1, .inl (PySem.W.mg_of KX G n2), q1, q2, rfl, fun u r => r, ec1⟩
      rw [if_neg hx] at h
      by_cases hx : x = "NoStep"
      · subst hx
        rw [if_pos rfl] at h
        cases h
        obtain ⟨q1, q2⟩ := sub_own b3 t3 i3 s1_3 (.inl fun e => by have z := s1_3; rw [e, s3_3] at z; cases z)
        exact ⟨C1, .ref C3, .ref C3, PySem.W.mg_of KX G n1, .inl (PySem.W.mg_of KX G n3), q1, q2, rfl, fun u r => r, ec1⟩
      rw [if_neg hx] at h
      by_cases hx : x = "NoLine"
      · subst hx
        rw [if_pos rfl] at h
        cases h
        obtain ⟨q1, q2⟩ := sub_own b4 t4 i4 s1_4 (.inl fun e => by have z := s1_4; rw [e, s4_4] at z; cases z)
        exact ⟨C1, .ref C4, .ref C4, PySem.W.mg_of KX G n1, .inl (PySem.W.mg_of KX G n4), q1, q2, rfl, fun u r => r, ec1⟩
      rw [if_neg hx] at h
      by_cases hx : x = "Unknown"
      · subst hx
        rw [if_pos rfl] at h
        cases h
        obtain ⟨q1, q2⟩ := sub_own b5 t5 i5 s1_5 (.inl fun e => by have z := s1_5; rw [e, s5_5] at z; cases z)
        exact ⟨C1, .ref C5, .ref C5, PySem.W.mg_of KX G n1, .inl (PySem.W.mg_of KX G n5), q1, q2, rfl, fun u r => r, ec1⟩
      rw [if_neg hx] at h
      by_cases hx : x = "NoPipe"
      · subst hx
        rw [if_pos rfl] at h
        cases h
        obtain ⟨q1, q2⟩ := sub_own b6 t6 i6 s1_6 (.inl fun e => by have z := s1_6; rw [e, s6_6] at z; cases z)
        exact ⟨C1, .ref C6, .ref C6, PySem.W.mg_of KX G n1, .inl (PySem.W.mg_of KX G n6), q1, q2, rfl, fun u r => r, ec1⟩
      rw [if_neg hx] at h
      by_cases hx : x = "Falls"
      · subst hx
        rw [if_pos rfl] at h
        cases h
        obtain ⟨q1, q2⟩ := sub_own b7 t7 i7 s1_7 (.inl fun e => by have z := s1_7; rw [e, s7_7] at z; cases z)
        exact ⟨C1, .ref C7, .ref C7, PySem.W.mg_of KX G n1, .inl (PySem.W.mg_of KX G n7), q1, q2, rfl, fun u r => r, ec1⟩
      rw [if_neg hx] at h
      by_cases hx : x = "Falling"
      · subst hx
        rw [if_pos rfl] at h
        cases h
        obtain ⟨q1, q2⟩ := sub_own b8 t8 i8 s1_8 (.inl fun e => by have z := s1_8; rw [e, s8_8] at z; cases z)
        exact ⟨C1, .ref C8, .ref C8, PySem.W.mg_of KX G n1, .inl (PySem.W.mg_of KX G n8), q1, q2, rfl, fun u r => r, ec1⟩
      rw [if_neg hx] at h
      by_cases hx : x = "PipeError"
      · subst hx
        rw [if_pos rfl] at h
        cases h
        obtain ⟨q1, q2⟩ := sub_own b9 t9 i9 s1_9 (.inr rfl)
        exact ⟨C1, .ref C9, .ref C9, PySem.W.mg_of KX G n1, .inl (PySem.W.mg_of KX G n9), q1, q2, rfl, fun u r => r, ec1⟩
      rw [if_neg hx] at h
      by_cases hx : x = "ValueError"
      · subst hx
        rw [if_pos rfl] at h
        cases h
        obtain ⟨q1, q2⟩ := sub_ty (K := K) (T := "ValueError") (by decide +kernel) (show (fastBuiltinMro "ValueError").map (fun l => l.contains (.type "BaseException")) = some true by decide +kernel) s1_ValueError
        exact ⟨C1, .type "ValueError", .ty "ValueError", PySem.W.mg_of KX G n1, .inr ⟨PySem.W.mg_none_of KX G z_ValueError, by decide +kernel, by decide +kernel⟩, q1, q2, rfl, fun u r => r, ec1⟩
      rw [if_neg hx] at h
      cases h
    rw [if_neg hc] at h
    by_cases hc : c = "TooMany"
    · subst hc
      rw [if_pos rfl] at h
      by_cases hx : x = "NoText"
      · subst hx
        rw [if_pos rfl] at h
        cases h
        obtain ⟨q1, q2⟩ := sub_own b0 t0 i0 s2_0 (.inl fun e => by have z := s2_0; rw [e, s0_0] at z; cases z)
        exact ⟨C2, .ref C0, .ref C0, PySem.W.mg_of KX G n2, .inl (PySem.W.mg_of KX G n0), q1, q2, rfl, fun u r => r, ec2⟩
      rw [if_neg hx] at h
      by_cases hx : x = "NoPlace"
      · subst hx
        rw [if_pos rfl] at h
        cases h
        obtain ⟨q1, q2⟩ := sub_own b1 t1 i1 s2_1 (.inl fun e => by have z := s2_1; rw [e, s1_1] at z; cases z)
        exact ⟨C2, .ref C1, .ref C1, PySem.W.mg_of KX G n2, .inl (PySem.W.mg_of KX G n1), q1, q2, rfl, fun u r => r, ec2⟩
      rw [if_neg hx] at h
      by_cases hx : x = "TooMany"
      · subst hx
        rw [if_pos rfl] at h
        cases h
        obtain ⟨q1, q2⟩ := sub_own b2 t2 i2 s2_2 (.inr rfl)
        exact ⟨C2, .ref C2, .ref C2, PySem.W.mg_of KX G n2, .inl (PySem.W.mg_of KX G n2), q1, q2, rfl, fun u r => r, ec2⟩
      rw [if_neg hx] at h
      by_cases hx : x = "NoStep"
      · subst hx
        rw [if_pos rfl] at h
        cases h
        obtain ⟨q1, q2⟩ := sub_own b3 t3 i3 s2_3 (.inl fun e => by have z := s2_3; rw [e, s3_3] at z; cases z)
        exact ⟨C2, .ref C3, .ref C3, PySem.W.mg_of KX G n2, .inl (PySem.W.mg_of KX G n3), q1, q2, rfl, fun u r => r, ec2⟩
      rw [if_neg hx] at h
      by_cases hx : x = "NoLine"
      · subst hx
        rw [if_pos rfl] at h
        cases h
        obtain ⟨q1, q2⟩ := sub_own b4 t4 i4 s2_4 (.inl fun e => by have z := s2_4; rw [e, s4_4] at z; cases z)
        exact ⟨C2, .ref C4, .ref C4, PySem.W.mg_of KX G n2, .inl (PySem.W.mg_of KX G n4), q1, q2, rfl, fun u r => r, ec2⟩
      rw [if_neg hx] at h
      by_cases hx : x = "Unknown"
      · subst hx
        rw [if_pos rfl] at h
        cases h
        obtain ⟨q1, q2⟩ := sub_own b5 t5 i5 s2_5 (.inl fun e => by have z := s2_5; rw [e, s5_5] at z; cases z)
        exact ⟨C2, .ref C5, .ref C5, PySem.W.mg_of KX G n2, .inl (PySem.W.mg_of KX G n5), q1, q2, rfl, fun u r => r, ec2⟩
      rw [if_neg hx] at h
      by_cases hx : x = "NoPipe"
      · subst hx
        rw [if_pos rfl] at h
        cases h
        obtain ⟨q1, q2⟩ := sub_own b6 t6 i6 s2_6 (.inl fun e => by have z := s2_6; rw [e, s6_6] at z; cases z)
        exact ⟨C2, .ref C6, .ref C6, PySem.W.mg_of KX G n2, .inl (PySem.W.mg_of KX G n6), q1, q2, rfl, fun u r => r, ec2⟩
      rw [if_neg hx] at h
      by_cases hx : x = "Falls"
      · subst hx
        rw [if_pos rfl] at h
        cases h
        obtain ⟨q1, q2⟩ := sub_own b7 t7 i7 s2_7 (.inl fun e => by have z := s2_7; rw [e, s7_7] at z; cases z)
        exact ⟨C2, .ref C7, .ref C7, PySem.W.mg_of KX G n2, .inl (PySem.W.mg_of KX G n7), q1, q2, rfl, fun u r => r, ec2⟩
      rw [if_neg hx] at h
      by_cases hx : x = "Falling"
      · subst hx
        rw [if_pos rfl] at h
        cases h
        obtain ⟨q1, q2⟩ := sub_own b8 t8 i8 s2_8 (.inl fun e => by have z := s2_8; rw [e, s8_8] at z; cases z)
        exact ⟨C2, .ref C8, .ref C8, PySem.W.mg_of KX G n2, .inl (PySem.W.mg_of KX G n8), q1, q2, rfl, fun u r => r, ec2⟩
      rw [if_neg hx] at h
      by_cases hx : x = "PipeError"
      · subst hx
        rw [if_pos rfl] at h
        cases h
        obtain ⟨q1, q2⟩ := sub_own b9 t9 i9 s2_9 (.inr rfl)
        exact ⟨C2, .ref C9, .ref C9, PySem.W.mg_of KX G n2, .inl (PySem.W.mg_of KX G n9), q1, q2, rfl, fun u r => r, ec2⟩
      rw [if_neg hx] at h
      by_cases hx : x = "ValueError"
      · subst hx
        rw [if_pos rfl] at h
        cases h
        obtain ⟨q1, q2⟩ := sub_ty (K := K) (T := "ValueError") (by decide +kernel) (show (fastBuiltinMro "ValueError").map (fun l => l.contains (.type "BaseException")) = some true by decide +kernel) s2_ValueError
        exact ⟨C2, .type "ValueError", .ty "ValueError", PySem.W.mg_of KX G n2, .inr ⟨PySem.W.mg_none_of KX G z_ValueError, by decide +kernel, by decide +kernel⟩, q1, q2, rfl, fun u r => r, ec2⟩
      rw [if_neg hx] at h
      cases h
    rw [if_neg hc] at h
    by_cases hc : c = "NoStep"
    · subst hc
      rw [if_pos rfl] at h
      by_cases hx : x = "NoText"
      · subst hx
        rw [if_pos rfl] at h
        cases h
        obtain ⟨q1, q2⟩ := sub_own b0 t0 i0 s3_0 (.inl fun e => by have z := s3_0; rw [e, s0_0] at z; cases z)
        exact ⟨C3, .ref C0, .ref C0, PySem.W.mg_of KX G n3, .inl (PySem.W.mg_of KX G n0), q1, q2, rfl, fun u r => r, ec3⟩
      rw [if_neg hx] at h
      by_cases hx : x = "NoPlace"
      · subst hx
        rw [if_pos rfl] at h
        cases h
        obtain ⟨q1, q2⟩ := sub_own b1 t1 i1 s3_1 (.inl fun e => by have z := s3_1; rw [e, s1_1] at z; cases z)
        exact ⟨C3, .ref C1, .ref C1, PySem.W.mg_of KX G n3, .inl (PySem.W.mg_of KX G n1), q1, q2, rfl, fun u r => r, ec3⟩
      rw [if_neg hx] at h
      by_cases hx : x = "TooMany"
      · subst hx
        rw [if_pos rfl] at h
        cases h
        obtain ⟨q1, q2⟩ := sub_own b2 t2 i2 s3_2 (.inl fun e => by have z := s3_2; rw [e, s2_2] at z; cases z)
        exact ⟨C3, .ref C2, .ref C2, PySem.W.mg_of KX G n3, .inl (PySem.W.mg_of KX G n2), q1, q2, rfl, fun u r => r, ec3⟩
      rw [if_neg hx] at h
      by_cases hx : x = "NoStep"
      · subst hx
        rw [if_pos rfl] at h
        cases h
        obtain ⟨q1, q2⟩ := sub_own b3 t3 i3 s3_3 (.inr rfl)
        exact ⟨C3, .ref C3, .ref C3, PySem.W.mg_of KX G n3, .inl (PySem.W.mg_of KX G n3), q1, q2, rfl, fun u r => r, ec3⟩
      rw [if_neg hx] at h
      by_cases hx : x = "NoLine"
      · subst hx
        rw [if_pos rfl] at h
        cases h
        obtain ⟨q1, q2⟩ := sub_own b4 t4 i4 s3_4 (.inl fun e => by have z := s3_4; rw [e, s4_4] at z; cases z)
        exact ⟨C3, .ref C4, .ref C4, PySem.W.mg_of KX G n3, .inl (PySem.W.mg_of KX G n4), q1, q2, rfl, fun u r => r, ec3⟩
      rw [if_neg hx] at h
      by_cases hx : x = "Unknown"
      · subst hx
        rw [if_pos rfl] at h
        cases h
        obtain ⟨q1, q2⟩ := sub_own b5 t5 i5 s3_5 (.inl fun e => by have z := s3_5; rw [e, s5_5] at z; cases z)
        exact ⟨C3, .ref C5, .ref C5, PySem.W.mg_of KX G n3, .inl (PySem.W.mg_of KX G n5), q1, q2, rfl, fun u r => r, ec3⟩
      rw [if_neg hx] at h
      by_cases hx : x = "NoPipe"
      · subst hx
        rw [if_pos rfl] at h
        cases h
        obtain ⟨q1, q2⟩ := sub_own b6 t6 i6 s3_6 (.inl fun e => by have z := s3_6; rw [e, s6_6] at z; cases z)
        exact ⟨C3, .ref C6, .ref C6, PySem.W.mg_of KX G n3, .inl (PySem.W.mg_of KX G n6), q1, q2, rfl, fun u r => r, ec3⟩
      rw [if_neg hx] at h
      by_cases hx : x = "Falls"
      · subst hx
        rw [if_pos rfl] at h
        cases h
        obtain ⟨q1, q2⟩ := sub_own b7 t7 i7 s3_7 (.inl fun e => by have z := s3_7; rw [e, s7_7] at z; cases z)
        exact ⟨C3, .ref C7, .ref C7, PySem.W.mg_of KX G n3, .inl (PySem.W.mg_of KX G n7), q1, q2, rfl, fun u r => r, ec3⟩
      rw [if_neg hx] at h
      by_cases hx : x = "Falling"
      · subst hx
        rw [if_pos rfl] at h
        cases h
        obtain ⟨q1, q2⟩ := sub_own b8 t8 i8 s3_8 (.inl fun e => by have z := s3_8; rw [e, s8_8] at z; cases z)
        exact ⟨C3, .ref C8, .ref C8, PySem.W.mg_of KX G n3, .inl (PySem.W.mg_of KX G n8), q1, q2, rfl, fun u r => r, ec3⟩
      rw [if_neg hx] at h
      by_cases hx : x = "PipeError"
      · subst hx
        rw [if_pos rfl] at h
        cases h
        obtain ⟨q1, q2⟩ := sub_own b9 t9 i9 s3_9 (.inr rfl)
        exact ⟨C3, .ref C9, .ref C9, PySem.W.mg_of KX G n3, .inl (PySem.W.mg_of KX G n9), q1, q2, rfl, fun u r => r, ec3⟩
      rw [if_neg hx] at h
      by_cases hx : x = "ValueError"
      · subst hx
        rw [if_pos rfl] at h
        cases h
        obtain ⟨q1, q2⟩ := sub_ty (K := K) (T := "ValueError") (by decide +kernel) (show (fastBuiltinMro "ValueError").map (fun l => l.contains (.type "BaseException")) = some true by decide +kernel) s3_ValueError
        exact ⟨C3, .type "ValueError", .ty "ValueError", PySem.W.mg_of KX G n3, .inr ⟨PySem.W.mg_none_of KX G z_ValueError, by decide +kernel, by decide +kernel⟩, q1, q2, rfl, fun u r => r, ec3⟩
      rw [if_neg hx] at h
      cases h
    rw [if_neg hc] at h
    by_cases hc : c = "NoLine"
    · subst hc
      rw [if_pos rfl] at h
      by_cases hx : x = "NoText"
      · subst hx
        rw [if_pos rfl] at h
        cases h
        obtain ⟨q1, q2⟩ := sub_own b0 t0 i0 s4_0 (.inl fun e => by have z := s4_0; rw [e, s0_0] at z; cases z)
        exact ⟨C4, .ref C0, .ref C0, PySem.W.mg_of KX G n4, .inl (PySem.W.mg_of KX G n0), q1, q2, rfl, fun u r => r, ec4⟩
      rw [if_neg hx] at h
      by_cases hx : x = "NoPlace"
      · subst hx
        rw [if_pos rfl] at h
        cases h
        obtain ⟨q1, q2⟩ := sub_own b1 t1 i1 s4_1 (.inl fun e => by have z := s4_1; rw [e, s1_1] at z; cases z)
        exact ⟨C4, .ref C1, .ref C1, PySem.W.mg_of KX G n4, .inl (PySem.W.mg_of KX G n1), q1, q2, rfl, fun u r => r, ec4⟩
      rw [if_neg hx] at h
      by_cases hx : x = "TooMany"
      · subst hx
        rw [if_pos rfl] at h
        cases h
        obtain ⟨q1, q2⟩ := sub_own b2 t2 i2 s4_2 (.inl fun e => by have z := s4_2; rw [e, s2_2] at z; cases z)
        exact ⟨C4, .ref C2, .ref C2, PySem.W.mg_of KX G n4, .inl (PySem.W.mg_of KX G n2), q1, q2, rfl, fun u r => r, ec4⟩
      rw [if_neg hx] at h
      by_cases hx : x = "NoStep"
      · subst hx
        rw [if_pos rfl] at h
        cases h
        obtain ⟨q1, q2⟩ := sub_own b3 t3 i3 s4_3 (.inl fun e => by have z := s4_3; rw [e, s3_3] at z; cases z)
        exact ⟨C4, .ref C3, .ref C3, PySem.W.mg_of KX G n4, .inl (PySem.W.mg_of KX G n3), q1, q2, rfl, fun u r => r, ec4⟩
      rw [if_neg hx] at h
      by_cases hx : x = "NoLine"
      · subst hx
        rw [if_pos rfl] at h
        cases h
        obtain ⟨q1, q2⟩ := sub_own b4 t4 i4 s4_4 (.inr rfl)
        exact ⟨C4, .ref C4, .ref C4, PySem.W.mg_of KX G n4, .inl (PySem.W.mg_of KX G n4), q1, q2, rfl, fun u r => r, ec4⟩
      rw [if_neg hx] at h
      by_cases hx : x = "Unknown"
      · subst hx
        rw [if_pos rfl] at h
        cases h
        obtain ⟨q1, q2⟩ := sub_own b5 t5 i5 s4_5 (.inl fun e => by have z := s4_5; rw [e, s5_5] at z; cases z)
        exact ⟨C4, .ref C5, .ref C5, PySem.W.mg_of KX G n4, .inl (PySem.W.mg_of KX G n5), q1, q2, rfl, fun u r => r, ec4⟩
      rw [if_neg hx] at h
      by_cases hx : x = "NoPipe"
      · subst hx
        rw [if_pos rfl] at h
        cases h
        obtain ⟨q1, q2⟩ := sub_own b6 t6 i6 s4_6 (.inl fun e => by have z := s4_6; rw [e, s6_6] at z; cases z)
        exact ⟨C4, .ref C6, .ref C6, PySem.W.mg_of KX G n4, .inl (PySem.W.mg_of KX G n6), q1, q2, rfl, fun u r => r, ec4⟩
      rw [if_neg hx] at h
      by_cases hx : x = "Falls"
      · subst hx
        rw [if_pos rfl] at h
        cases h
        obtain ⟨q1, q2⟩ := sub_own b7 t7 i7 s4_7 (.inl fun e => by have z := s4_7; rw [e, s7_7] at z; cases z)
        exact ⟨C4, .ref C7, .ref C7, PySem.W.mg_of KX G n4, .inl (PySem.W.mg_of KX G n7), q1, q2, rfl, fun u r => r, ec4⟩
      rw [if_neg hx] at h
      by_cases hx : x = "Falling"
      · subst hx
        rw [if_pos rfl] at h
        cases h
        obtain ⟨q1, q2⟩ := sub_own b8 t8 i8 s4_8 (.inl fun e => by have z := s4_8; rw [e, s8_8] at z; cases z)
        exact ⟨C4, .ref C8, .ref C8, PySem.W.mg_of KX G n4, .inl (PySem.W.mg_of KX G n8), q1, q2, rfl, fun u r => r, ec4⟩
      rw [if_neg hx] at h
      by_cases hx : x = "PipeError"
      · subst hx
        rw [if_pos rfl] at h
        cases h
        obtain ⟨q1, q2⟩ := sub_own b9 t9 i9 s4_9 (.inr rfl)
        exact ⟨C4, .ref C9, .ref C9, PySem.W.mg_of KX G n4, .inl (PySem.W.mg_of KX G n9), q1, q2, rfl, fun u r => r, ec4⟩
      rw [if_neg hx] at h
      by_cases hx : x = "ValueError"
      · subst hx
        rw [if_pos rfl] at h
        cases h
        obtain ⟨q1, q2⟩ := sub_ty (K := K) (T := "ValueError") (by decide +kernel) (show (fastBuiltinMro "ValueError").map (fun l => l.contains (.type "BaseException")) = some true by decide +kernel) s4_ValueError
        exact ⟨C4, .type "ValueError", .ty "ValueError", PySem.W.mg_of KX G n4, .inr ⟨PySem.W.mg_none_of KX G z_ValueError, by decide +kernel, by decide +kernel⟩, q1, q2, rfl, fun u r => r, ec4⟩
      rw [if_neg hx] at h
      cases h
    rw [if_neg hc] at h
    by_cases hc : c = "Unknown"
    · subst hc
      rw [if_pos rfl] at h
      by_cases hx : x = "NoText"
      · subst hx
        rw [if_pos rfl] at h
        cases h
        obtain ⟨q1, q2⟩ := sub_own b0 t0 i0 s5_0 (.inl fun e => by have z := s5_0; rw [e, s0_0] at z; cases z)
        exact ⟨C5, .ref C0, .ref C0, PySem.W.mg_of KX G n5, .inl (PySem.W.mg_of KX G n0), q1, q2, rfl, fun u r => r, ec5⟩
      rw [if_neg hx] at h
      by_cases hx : x = "NoPlace"
      · subst hx
        rw [if_pos rfl] at h
        cases h
        obtain ⟨q1, q2⟩ := sub_own b1 t1 i1 s5_1 (.inl fun e => by have z := s5_1; rw [e, s1_1] at z; cases z)
        exact ⟨C5, .ref C1, .ref C1, PySem.W.mg_of KX G n5, .inl (PySem.W.mg_of KX G n1), q1, q2, rfl, fun u r => r, ec5⟩
      rw [if_neg hx] at h
      by_cases hx : x = "TooMany"
      · subst hx
        rw [if_pos rfl] at h
        cases h
        obtain ⟨q1, q2⟩ := sub_own b2 t2 i2 s5_2 (.inl fun e => by have z := s5_2; rw [e, s2_2] at z; cases z)
        exact ⟨C5, .ref C2, .ref C2, PySem.W.mg_of KX G n5, .inl (PySem.W.mg_of KX G n2), q1, q2, rfl, fun u r => r, ec5⟩
      rw [if_neg hx] at h
      by_cases hx : x = "NoStep"
      · subst hx
        rw [if_pos rfl] at h
        cases h
        obtain ⟨q1, q2⟩ := sub_own b3 t3 i3 s5_3 (.inl fun e => by have z := s5_3; rw [e, s3_3] at z; cases z)
        exact ⟨C5, .ref C3, .ref C3, PySem.W.mg_of KX G n5, .inl (PySem.W.mg_of KX G n3), q1, q2, rfl, fun u r => r, ec5⟩
      rw [if_neg hx] at h
      by_cases hx : x = "NoLine"
      · subst hx
        rw [if_pos rfl] at h
        cases h
        obtain ⟨q1, q2⟩ := sub_own b4 t4 i4 s5_4 (.inl fun e => by have z := s5_4; rw [e, s4_4] at z; cases z)
        exact ⟨C5, .ref C4, .ref C4, PySem.W.mg_of KX G n5, .inl (PySem.W.mg_of KX G n4), q1, q2, rfl, fun u r => r, ec5⟩
      rw [if_neg hx] at h
      by_cases hx : x = "Unknown"
      · subst hx
        rw [if_pos rfl] at h
        cases h
        obtain ⟨q1, q2⟩ := sub_own b5 t5 i5 s5_5 (.inr rfl)
        exact ⟨C5, .ref C5, .ref C5, PySem.W.mg_of KX G n5, .inl (PySem.W.mg_of KX G n5), q1, q2, rfl, fun u r => r, ec5⟩
      rw [if_neg hx] at h
      by_cases hx : x = "NoPipe"
      · subst hx
        rw [if_pos rfl] at h
        cases h
        obtain ⟨q1, q2⟩ := sub_own b6 t6 i6 s5_6 (.inl fun e => by have z := s5_6; rw [e, s6_6] at z; cases z)
        exact ⟨C5, .ref C6, .ref C6, PySem.W.mg_of KX G n5, .inl (PySem.W.mg_of KX G n6), q1, q2, rfl, fun u r => r, ec5⟩
      rw [if_neg hx] at h
      by_cases hx : x = "Falls"
      · subst hx
        rw [if_pos rfl] at h
        cases h
        obtain ⟨q1, q2⟩ := sub_own b7 t7 i7 s5_7 (.inl fun e => by have z := s5_7; rw [e, s7_7] at z; cases z)
        exact ⟨C5, .ref C7, .ref C7, PySem.W.mg_of KX G n5, .inl (PySem.W.mg_of KX G n7), q1, q2, rfl, fun u r => r, ec5⟩
      rw [if_neg hx] at h
      by_cases hx : x = "Falling"
      · subst hx
        rw [if_pos rfl] at h
        cases h
        obtain ⟨q1, q2⟩ := sub_own b8 t8 i8 s5_8 (.inl fun e => by have z := s5_8; rw [e, s8_8] at z; cases z)
        exact ⟨C5, .ref C8, .ref C8, PySem.W.mg_of KX G n5, .inl (PySem.W.mg_of KX G n8), q1, q2, rfl, fun u r => r, ec5⟩
      rw [if_neg hx] at h
      by_cases hx : x = "PipeError"
      · subst hx
        rw [if_pos rfl] at h
        cases h
        obtain ⟨q1, q2⟩ := sub_own b9 t9 i9 s5_9 (.inr rfl)
        exact ⟨C5, .ref C9, .ref C9, PySem.W.mg_of KX G n5, .inl (PySem.W.mg_of KX G n9), q1, q2, rfl, fun u r => r, ec5⟩
      rw [if_neg hx] at h
      by_cases hx : x = "ValueError"
      · subst hx
        rw [if_pos rfl] at h
        cases h
        obtain ⟨q1, q2⟩ := sub_ty (K := K) (T := "ValueError") (by decide +kernel) (show (fastBuiltinMro "ValueError").map (fun l => l.contains (.type "BaseException")) = some true by decide +kernel) s5_ValueError
        exact ⟨C5, .type "ValueError", .ty "ValueError", PySem.W.mg_of KX G n5, .inr ⟨PySem.W.mg_none_of KX G z_ValueError, by decide +kernel, by decide +kernel⟩, q1, q2, rfl, fun u r => r, ec5⟩
      rw [if_neg hx] at h
      cases h
    rw [if_neg hc] at h
    by_cases hc : c = "NoPipe"
    · subst hc
      rw [if_pos rfl] at h
      by_cases hx : x = "NoText"
      · subst hx
        rw [if_pos rfl] at h
        cases h
        obtain ⟨q1, q2⟩ := sub_own b0 t0 i0 s6_0 (.inl fun e => by have z := s6_0; rw [e, s0_0] at z; cases z)
        exact ⟨C6, .ref C0, .ref C0, PySem.W.mg_of KX G n6, .inl (PySem.W.mg_of KX G n0), q1, q2, rfl, fun u r => r, ec6⟩
      rw [if_neg hx] at h
      by_cases hx : x = "NoPlace"
      · subst hx
        rw [if_pos rfl] at h
        cases h
        obtain ⟨q1, q2⟩ := sub_own b1 t1 i1 s6_1 (.inl fun e => by have z := s6_1; rw [e, s1_1] at z; cases z)
        exact ⟨C6, .ref C1, .ref C1, PySem.W.mg_of KX G n6, .inl (PySem.W.mg_of KX G n1), q1, q2, rfl, fun u r => r, ec6⟩
      rw [if_neg hx] at h
      by_cases hx : x = "TooMany"
      · subst hx
        rw [if_pos rfl] at h
        cases h
        obtain ⟨q1, q2⟩ := sub_own b2 t2 i2 s6_2 (.inl fun e => by have z := s6_2; rw [e, s2_2] at z; cases z)
        exact ⟨C6, .ref C2, .ref C2, PySem.W.mg_of KX G n6, .inl (PySem.W.mg_of KX G n2), q1, q2, rfl, fun u r => r, ec6⟩
      rw [if_neg hx] at h
      by_cases hx : x = "NoStep"
      · subst hx
        rw [if_pos rfl] at h
        cases h
        obtain ⟨q1, q2⟩ := sub_own b3 t3 i3 s6_3 (.inl fun e => by have z := s6_3; rw [e, s3_3] at z; cases z)
        exact ⟨C6, .ref C3, .ref C3, PySem.W.mg_of KX G n6, .inl (PySem.W.mg_of KX G n3), q1, q2, rfl, fun u r => r, ec6⟩
      rw [if_neg hx] at h
      by_cases hx : x = "NoLine"
      · subst hx
        rw [if_pos rfl] at h
        cases h
        obtain ⟨q1, q2⟩ := sub_own b4 t4 i4 s6_4 (.inl fun e => by have z := s6_4; rw [e, s4_4] at z; cases z)
        exact ⟨C6, .ref C4, .ref C4, PySem.W.mg_of KX G n6, .inl (PySem.W.mg_of KX G n4), q1, q2, rfl, fun u r => r, ec6⟩
      rw [if_neg hx] at h
      by_cases hx : x = "Unknown"
      · subst hx
        rw [if_pos rfl] at h
        cases h
        obtain ⟨q1, q2⟩ := sub_own b5 t5 i5 s6_5 (.inl fun e => by have z := s6_5; rw [e, s5_5] at z; cases z)
        exact ⟨C6, .ref C5, .ref C5, PySem.W.mg_of KX G n6, .inl (PySem.W.mg_of KX G n5), q1, q2, rfl, fun u r => r, ec6⟩
      rw [if_neg hx] at h
      by_cases hx : x = "NoPipe"
      · subst hx
        rw [if_pos rfl] at h
        cases h
        obtain ⟨q1, q2⟩ := sub_own b6 t6 i6 s6_6 (.inr rfl)
        exact ⟨C6, .ref C6, .ref C6, PySem.W.mg_of KX G n6, .inl (PySem.W.mg_of KX G n6), q1, q2, rfl, fun u r => r, ec6⟩
      rw [if_neg hx] at h
      by_cases hx : x = "Falls"
      · subst hx
        rw [if_pos rfl] at h
        cases h
        obtain ⟨q1, q2⟩ := sub_own b7 t7 i7 s6_7 (.inl fun e => by have z := s6_7; rw [e, s7_7] at z; cases z)
        exact ⟨C6, .ref C7, .ref C7, PySem.W.mg_of KX G n6, .inl (PySem.W.mg_of KX G n7), q1, q2, rfl, fun u r => r, ec6⟩
      rw [if_neg hx] at h
      by_cases hx : x = "Falling"
      · subst hx
        rw [if_pos rfl] at h
        cases h
        obtain ⟨q1, q2⟩ := sub_own b8 t8 i8 s6_8 (.inl fun e => by have z := s6_8; rw [e, s8_8] at z; cases z)
        exact ⟨C6, .ref C8, .ref C8, PySem.W.mg_of KX G n6, .inl (PySem.W.mg_of KX G n8), q1, q2, rfl, fun u r => r, ec6⟩
      rw [if_neg hx] at h
      by_cases hx : x = "PipeError"
      · subst hx
        rw [if_pos rfl] at h
        cases h
        obtain ⟨q1, q2⟩ := sub_own b9 t9 i9 s6_9 (.inr rfl)
        exact ⟨C6, .ref C9, .ref C9, PySem.W.mg_of KX G n6, .inl (PySem.W.mg_of KX G n9), q1, q2, rfl, fun u r => r, ec6⟩
      rw [if_neg hx] at h
      by_cases hx : x = "ValueError"
      · subst hx
        rw [if_pos rfl] at h
        cases h
        obtain ⟨q1, q2⟩ := sub_ty (K := K) (T := "ValueError") (by decide +kernel) (show (fastBuiltinMro "ValueError").map (fun l => l.contains (.type "BaseException")) = some true by decide +kernel) s6_ValueError
        exact ⟨C6, .type "ValueError", .ty "ValueError", PySem.W.mg_of KX G n6, .inr ⟨PySem.W.mg_none_of KX G z_ValueError, by decide +kernel, by decide +kernel⟩, q1, q2, rfl, fun u r => r, ec6⟩
      rw [if_neg hx] at h
      cases h
    rw [if_neg hc] at h
    by_cases hc : c = "Falls"
    · subst hc
      rw [if_pos rfl] at h
      by_cases hx : x = "NoText"
      · subst hx
        rw [if_pos rfl] at h
        cases h
        obtain ⟨q1, q2⟩ := sub_own b0 t0 i0 s7_0 (.inl fun e => by have z := s7_0; rw [e, s0_0] at z; cases z)
        exact ⟨C7, .ref C0, .ref C0, PySem.W.mg_of KX G n7, .inl (PySem.W.mg_of KX G n0), q1, q2, rfl, fun u r => r, ec7⟩
      rw [if_neg hx] at h
      by_cases hx : x = "NoPlace"
      · subst hx
        rw [if_pos rfl] at h
        cases h
        obtain ⟨q1, q2⟩ := sub_own b1 t1 i1 s7_1 (.inl fun e => by have z := s7_1; rw [e, s1_1] at z; cases z)
        exact ⟨C7, .ref C1, .ref C1, PySem.W.mg_of KX G n7, .inl (PySem.W.mg_of KX G n1), q1, q2, rfl, fun u r => r, ec7⟩
      rw [if_neg hx] at h
      by_cases hx : x = "TooMany"
      · subst hx
        rw [if_pos rfl] at h
        cases h
        obtain ⟨q1, q2⟩ := sub_own b2 t2 i2 s7_2 (.inl fun e => by have z := s7_2; rw [e, s2_2] at z; cases z)
        exact ⟨C7, .ref C2, .ref C2, PySem.W.mg_of KX G n7, .inl (PySem.W.mg_of KX G n2), q1, q2, rfl, fun u r => r, ec7⟩
      rw [if_neg hx] at h
      by_cases hx : x = "NoStep"
      · subst hx
        rw [if_pos rfl] at h
        cases h
        obtain ⟨q1, q2⟩ := sub_own b3 t3 i3 s7_3 (.inl fun e => by have z := s7_3; rw [e, s3_3] at z; cases z)
        exact ⟨C7, .ref C3, .ref C3, PySem.W.mg_of KX G n7, .inl (PySem.W.mg_of KX G n3), q1, q2, rfl, fun u r => r, ec7⟩
      rw [if_neg hx] at h
      by_cases hx : x = "NoLine"
      · subst hx
        rw [if_pos rfl] at h
        cases h
        obtain ⟨q1, q2⟩ := sub_own b4 t4 i4 s7_4 (.inl fun e => by have z := s7_4; rw [e, s4_4] at z; cases z)
        exact ⟨C7, .ref C4, .ref C4, PySem.W.mg_of KX G n7, .inl (PySem.W.mg_of KX G n4), q1, q2, rfl, fun u r => r, ec7⟩
      rw [if_neg hx] at h
      by_cases hx : x = "Unknown"
      · subst hx
        rw [if_pos rfl] at h
        cases h
        obtain ⟨q1, q2⟩ := sub_own b5 t5 i5 s7_5 (.inl fun e => by have z := s7_5; rw [e, s5_5] at z; cases z)
        exact ⟨C7, .ref C5, .ref C5, PySem.W.mg_of KX G n7, .inl (PySem.W.mg_of KX G n5), q1, q2, rfl, fun u r => r, ec7⟩
      rw [if_neg hx] at h
      by_cases hx : x = "NoPipe"
      · subst hx
        rw [if_pos rfl] at h
        cases h
        obtain ⟨q1, q2⟩ := sub_own b6 t6 i6 s7_6 (.inl fun e => by have z := s7_6; rw [e, s6_6] at z; cases z)
        exact ⟨C7, .ref C6, .ref C6, PySem.W.mg_of KX G n7, .inl (PySem.W.mg_of KX G n6), q1, q2, rfl, fun u r => r, ec7⟩
      rw [if_neg hx] at h
      by_cases hx : x = "Falls"
      · subst hx
        rw [if_pos rfl] at h
        cases h
        obtain ⟨q1, q2⟩ := sub_own b7 t7 i7 s7_7 (.inr rfl)
        exact ⟨C7, .ref C7, .ref C7, PySem.W.mg_of KX G n7, .inl (PySem.W.mg_of KX G n7), q1, q2, rfl, fun u r => r, ec7⟩
      rw [if_neg hx] at h
      by_cases hx : x = "Falling"
      · subst hx
        rw [if_pos rfl] at h
        cases h
        obtain ⟨q1, q2⟩ := sub_own b8 t8 i8 s7_8 (.inl fun e => by have z := s7_8; rw [e, s8_8] at z; cases z)
        exact ⟨C7, .ref C8, .ref C8, PySem.W.mg_of KX G n7, .inl (PySem.W.mg_of KX G n8), q1, q2, rfl, fun u r => r, ec7⟩
      rw [if_neg hx] at h
      by_cases hx : x = "PipeError"
      · subst hx
        rw [if_pos rfl] at h
        cases h
        obtain ⟨q1, q2⟩ := sub_own b9 t9 i9 s7_9 (.inr rfl)
        exact ⟨C7, .ref C9, .ref C9, PySem.W.mg_of KX G n7, .inl (PySem.W.mg_of KX G n9), q1, q2, rfl, fun u r => r, ec7⟩
      rw [if_neg hx] at h
      by_cases hx : x = "ValueError"
      · subst hx
        rw [if_pos rfl] at h
        cases h
        obtain ⟨q1, q2⟩ := sub_ty (K := K) (T := "ValueError") (by decide +kernel) (show (fastBuiltinMro "ValueError").map (fun l => l.contains (.type "BaseException")) = some true by decide +kernel) s7_ValueError
        exact ⟨C7, .type "ValueError", .ty "ValueError", PySem.W.mg_of KX G n7, .inr ⟨PySem.W.mg_none_of KX G z_ValueError, by decide +kernel, by decide +kernel⟩, q1, q2, rfl, fun u r => r, ec7⟩
      rw [if_neg hx] at h
      cases h
    rw [if_neg hc] at h
    by_cases hc : c = "Falling"
    · subst hc
      rw [if_pos rfl] at h
      by_cases hx : x = "NoText"
      · subst hx
        rw [if_pos rfl] at h
        cases h
        obtain ⟨q1, q2⟩ := sub_own b0 t0 i0 s8_0 (.inl fun e => by have z := s8_0; rw [e, s0_0] at z; cases z)
        exact ⟨C8, .ref C0, .ref C0, PySem.W.mg_of KX G n8, .inl (PySem.W.mg_of KX G n0), q1, q2, rfl, fun u r => r, ec8⟩
      rw [if_neg hx] at h
      by_cases hx : x = "NoPlace"
      · subst hx
        rw [if_pos rfl] at h
        cases h
        obtain ⟨q1, q2⟩ := sub_own b1 t1 i1 s8_1 (.inl fun e => by have z := s8_1; rw [e, s1_1] at z; cases z)
        exact ⟨C8, .ref C1, .ref C1, PySem.W.mg_of KX G n8, .inl (PySem.W.mg_of KX G n1), q1, q2, rfl, fun u r => r, ec8⟩
      rw [if_neg hx] at h
      by_cases hx : x = "TooMany"
      · subst hx
        rw [if_pos rfl] at h
        cases h
        obtain ⟨q1, q2⟩ := sub_own b2 t2 i2 s8_2 (.inl fun e => by have z := s8_2; rw [e, s2_2] at z; cases z)
        exact ⟨C8, .ref C2, .ref C2, PySem.W.mg_of KX G n8, .inl (PySem.W.mg_of KX G n2), q1, q2, rfl, fun u r => r, ec8⟩
      rw [if_neg hx] at h
      by_cases hx : x = "NoStep"
      · subst hx
        rw [if_pos rfl] at h
        cases h
        obtain ⟨q1, q2⟩ := sub_own b3 t3 i3 s8_3 (.inl fun e => by have z := s8_3; rw [e, s3_3] at z; cases z)
        exact ⟨C8, .ref C3, .ref C3, PySem.W.mg_of KX G n8, .inl (PySem.W.mg_of KX G n3), q1, q2, rfl, fun u r => r, ec8⟩
      rw [if_neg hx] at h
      by_cases hx : x = "NoLine"
      · subst hx
        rw [if_pos rfl] at h
        cases h
        obtain ⟨q1, q2⟩ := sub_own b4 t4 i4 s8_4 (.inl fun e => by have z := s8_4; rw [e, s4_4] at z; cases z)
        exact ⟨C8, .ref C4, .ref C4, PySem.W.mg_of KX G n8, .inl (PySem.W.mg_of KX G n4), q1, q2, rfl, fun u r => r, ec8⟩
      rw [if_neg hx] at h
      by_cases hx : x = "Unknown"
      · subst hx
        rw [if_pos rfl] at h
        cases h
        obtain ⟨q1, q2⟩ := sub_own b5 t5 i5 s8_5 (.inl fun e => by have z := s8_5; rw [e, s5_5] at z; cases z)
        exact ⟨C8, .ref C5, .ref C5, PySem.W.mg_of KX G n8, .inl (PySem.W.mg_of KX G n5), q1, q2, rfl, fun u r => r, ec8⟩
      rw [if_neg hx] at h
      by_cases hx : x = "NoPipe"
      · subst hx
        rw [if_pos rfl] at h
        cases h
        obtain ⟨q1, q2⟩ := sub_own b6 t6 i6 s8_6 (.inl fun e => by have z := s8_6; rw [e, s6_6] at z; cases z)
        exact ⟨C8, .ref C6, .ref C6, PySem.W.mg_of KX G n8, .inl (PySem.W.mg_of KX G n6), q1, q2, rfl, fun u r => r, ec8⟩
      rw [if_neg hx] at h
      by_cases hx : x = "Falls"
      · subst hx
        rw [if_pos rfl] at h
        cases h
        obtain ⟨q1, q2⟩ := sub_own b7 t7 i7 s8_7 (.inl fun e => by have z := s8_7; rw [e, s7_7] at z; cases z)
        exact ⟨C8, .ref C7, .ref C7, PySem.W.mg_of KX G n8, .inl (PySem.W.mg_of KX G n7), q1, q2, rfl, fun u r => r, ec8⟩
      rw [if_neg hx] at h
      by_cases hx : x = "Falling"
      · subst hx
        rw [if_pos rfl] at h
        cases h
        obtain ⟨q1, q2⟩ := sub_own b8 t8 i8 s8_8 (.inr rfl)
        exact ⟨C8, .ref C8, .ref C8, PySem.W.mg_of KX G n8, .inl (PySem.W.mg_of KX G n8), q1, q2, rfl, fun u r => r, ec8⟩
      rw [if_neg hx] at h
      by_cases hx : x = "PipeError"
      · subst hx
        rw [if_pos rfl] at h
        cases h
        obtain ⟨q1, q2⟩ := sub_own b9 t9 i9 s8_9 (.inr rfl)
        exact ⟨C8, .ref C9, .ref C9, PySem.W.mg_of KX G n8, .inl (PySem.W.mg_of KX G n9), q1, q2, rfl, fun u r => r, ec8⟩
      rw [if_neg hx] at h
      by_cases hx : x = "ValueError"
      · subst hx
        rw [if_pos rfl] at h
        cases h
        obtain ⟨q1, q2⟩ := sub_ty (K := K) (T := "ValueError") (by decide +kernel) (show (fastBuiltinMro "ValueError").map (fun l => l.contains (.type "BaseException")) = some true by decide +kernel) s8_ValueError
        exact ⟨C8, .type "ValueError", .ty "ValueError", PySem.W.mg_of KX G n8, .inr ⟨PySem.W.mg_none_of KX G z_ValueError, by decide +kernel, by decide +kernel⟩, q1, q2, rfl, fun u r => r, ec8⟩
      rw [if_neg hx] at h
      cases h
    rw [if_neg hc] at h
    cases h
  · have h : ((decide (c = "NoPipe") && (decide (f = "place") || decide (f = "why"))) || (decide (c = "Falls") && (decide (f = "place") || decide (f = "row"))) || (decide (c = "Falling") && (decide (f = "place") || decide (f = "rows")))) = true := h
    simp only [Bool.or_eq_true, Bool.and_eq_true, decide_eq_true_eq] at h
    rcases h with (h | h) | h
    · obtain ⟨rfl, rfl | rfl⟩ := h
      · exact ⟨C6, PySem.W.mg_of KX G n6, ⟨g6, h6, b6, d6⟩, p6⟩
      · exact ⟨C6, PySem.W.mg_of KX G n6, ⟨g6, h6, b6, d6⟩, q6⟩
    · obtain ⟨rfl, rfl | rfl⟩ := h
      · exact ⟨C7, PySem.W.mg_of KX G n7, ⟨g7, h7, b7, d7⟩, p7⟩
      · exact ⟨C7, PySem.W.mg_of KX G n7, ⟨g7, h7, b7, d7⟩, q7⟩
    · obtain ⟨rfl, rfl | rfl⟩ := h
      · exact ⟨C8, PySem.W.mg_of KX G n8, ⟨g8, h8, b8, d8⟩, p8⟩
      · exact ⟨C8, PySem.W.mg_of KX G n8, ⟨g8, h8, b8, d8⟩, q8⟩
  · have h : ((if c = "NoText" then some none else if c = "NoPlace" then some none else if c = "TooMany" then some none else if c = "NoStep" then some none else if c = "NoLine" then some none else if c = "Unknown" then some none else if c = "NoPipe" then some (some ("place", "why", some 18)) else if c = "Falls" then some (some ("place", "row", none)) else if c = "Falling" then some (some ("place", "rows", none)) else none) : Option (Option (Str × Str × Option Nat))) = some x := h
    by_cases hc : c = "NoText"
    · subst hc
      rw [if_pos rfl] at h
      cases h
      exact ⟨C0, n0, PySem.W.mg_of KX G n0, k0, x0⟩
    rw [if_neg hc] at h
    by_cases hc : c = "NoPlace"
    · subst hc
      rw [if_pos rfl] at h
      cases h
      exact ⟨C1, n1, PySem.W.mg_of KX G n1, k1, x1⟩
    rw [if_neg hc] at h
    by_cases hc : c = "TooMany"
    · subst hc
      rw [if_pos rfl] at h
      cases h
      exact ⟨C2, n2, PySem.W.mg_of KX G n2, k2, x2⟩
    rw [if_neg hc] at h
    by_cases hc : c = "NoStep"
    · subst hc
      rw [if_pos rfl] at h
      cases h
      exact ⟨C3, n3, PySem.W.mg_of KX G n3, k3, x3⟩
    rw [if_neg hc] at h
    by_cases hc : c = "NoLine"
    · subst hc
      rw [if_pos rfl] at h
      cases h
      exact ⟨C4, n4, PySem.W.mg_of KX G n4, k4, x4⟩
    rw [if_neg hc] at h
    by_cases hc : c = "Unknown"
    · subst hc
      rw [if_pos rfl] at h
      cases h
      exact ⟨C5, n5, PySem.W.mg_of KX G n5, k5, x5⟩
    rw [if_neg hc] at h
    by_cases hc : c = "NoPipe"
    · subst hc
      rw [if_pos rfl] at h
      cases h
      exact ⟨C6, n6, PySem.W.mg_of KX G n6, k6, init_of o6 r6 sa6 b6 t6 k6 v6 w6 l6 c6 kk6 p6 q6 ⟨y1, y2, y3⟩ (PySem.W.mg_of KX G n9) if_NoPipe (g := some 18) ⟨_, by decide +kernel, rfl⟩ fun _ _ _ _ _ _ us hl => match us, hl with | [_, _, _], _ => rfl⟩
    rw [if_neg hc] at h
    by_cases hc : c = "Falls"
    · subst hc
      rw [if_pos rfl] at h
      cases h
      exact ⟨C7, n7, PySem.W.mg_of KX G n7, k7, init_of o7 r7 sa7 b7 t7 k7 v7 w7 l7 c7 kk7 p7 q7 ⟨y1, y2, y3⟩ (PySem.W.mg_of KX G n9) if_Falls (g := none) ⟨_, rfl⟩ fun _ _ _ _ _ _ us hl => match us, hl with | [_, _, _], _ => rfl⟩
    rw [if_neg hc] at h
    by_cases hc : c = "Falling"
    · subst hc
      rw [if_pos rfl] at h
      cases h
      exact ⟨C8, n8, PySem.W.mg_of KX G n8, k8, init_of o8 r8 sa8 b8 t8 k8 v8 w8 l8 c8 kk8 p8 q8 ⟨y1, y2, y3⟩ (PySem.W.mg_of KX G n9) if_Falling (g := none) ⟨_, rfl⟩ fun _ _ _ _ _ _ us hl => match us, hl with | [_, _, _], _ => rfl⟩
    rw [if_neg hc] at h
    cases h
end DL
namespace DL
open PySem PySem.Spec PyProof.Rows L2
def b18_l_made : Ss := (.cons (.set 4 (.lst true (.cons (.mkx1 "NoText" (.str ⟨#[97]⟩)) (.cons (.mkx1 "NoPlace" (.str ⟨#[98]⟩)) (.cons (.mkx1 "TooMany" (.str ⟨#[99]⟩)) (.cons (.mkx1 "NoStep" (.str ⟨#[100]⟩)) (.cons (.mkx1 "NoLine" (.str ⟨#[101]⟩)) (.cons (.mkx1 "Unknown" (.str ⟨#[102]⟩)) .nil)))))))) (.cons (.ret (.bin true .add (.v 4) (.lst true (.cons (.mkx "NoPipe" (.cons (.v 0) (.cons (.v 1) .nil))) (.cons (.mkx "Falls" (.cons (.v 0) (.cons (.v 2) .nil))) (.cons (.mkx "Falling" (.cons (.v 0) (.cons (.v 3) .nil))) .nil)))))) .nil))
def b18_l_classes : Ss := (.cons (.set 1 (.lst true (.cons (.isx (.v 0) "NoText") (.cons (.isx (.v 0) "NoPlace") (.cons (.isx (.v 0) "TooMany") (.cons (.isx (.v 0) "NoStep") .nil)))))) (.cons (.set 1 (.bin false .add (.v 1) (.lst true (.cons (.isx (.v 0) "NoLine") (.cons (.isx (.v 0) "Unknown") (.cons (.isx (.v 0) "NoPipe") (.cons (.isx (.v 0) "Falls") .nil))))))) (.cons (.app (.v 1) (.isx (.v 0) "Falling")) (.cons (.ite (.or (.not (.val (.isx (.v 0) "PipeError"))) (.not (.val (.isx (.v 0) "ValueError")))) (.cons (.ret (.drop [1] .non)) .nil) .nil) (.cons (.ret (.drop [1] (.lc true (.v 2) (.range1 (.int 9)) (.one (.val (.ix (.v 1) (.v 2)))) (.v 2)))) .nil)))))
def b18_law : Ss := (.cons (.set 1 (.call "_law_pot" (.cons (.v 0) (.cons (.int 0) .nil)))) (.cons (.set 2 (.bi true .tuple (.cons (.lc true (.v 7) (.range1 (.bin true .add (.int 1) (.bin true .mul (.int 2) (.call "_law_draw" (.cons (.v 1) (.cons (.int 3) .nil)))))) .nil (.call "_law_draw" (.cons (.v 1) (.cons (.int 20) .nil)))) .nil))) (.cons (.set 3 (.ix (.lst true (.cons (.str ⟨#[99, 111, 108, 117, 109, 110]⟩) (.cons (.str ⟨#[115, 111, 114, 116]⟩) (.cons (.str ⟨#[119, 105, 100, 101]⟩) (.cons (.str ⟨#[114, 111, 119, 115]⟩) (.cons (.str ⟨#[108, 111, 111, 115, 101]⟩) .nil)))))) (.call "_law_draw" (.cons (.v 1) (.cons (.int 5) .nil))))) (.cons (.set 4 (.tup (.cons (.call "_law_number" (.cons (.v 1) .nil)) (.cons (.call "_law_word" (.cons (.v 1) .nil)) .nil)))) (.cons (.set 5 (.sl true (.lst true (.cons (.v 4) (.cons (.tup (.cons (.call "_law_number" (.cons (.v 1) .nil)) (.cons (.str ⟨#[97]⟩) .nil))) .nil))) .no (.one (.bin true .add (.int 1) (.call "_law_draw" (.cons (.v 1) (.cons (.int 2) .nil))))))) (.cons (.set 6 (.call "_law_made" (.cons (.v 2) (.cons (.v 3) (.cons (.v 4) (.cons (.v 5) .nil)))))) (.cons (.for_ [7] (.v 7) (.range1 (.int 9)) (.cons (.ite (.cm .ne (.call "_law_classes" (.cons (.ix (.v 6) (.v 7)) .nil)) (.lst true (.cons (.v 7) .nil))) (.cons (.ret (.bl false)) .nil) .nil) .nil)) (.cons (.ite (.or (.cm .ne (.atx (.ix (.v 6) (.int 6)) "place") (.v 2)) (.or (.cm .ne (.atx (.ix (.v 6) (.int 6)) "why") (.v 3)) (.or (.cm .ne (.atx (.ix (.v 6) (.int 7)) "place") (.v 2)) (.cm .ne (.atx (.ix (.v 6) (.int 7)) "row") (.v 4))))) (.cons (.ret (.bl false)) .nil) .nil) (.cons (.ret (.and (.cmp .eq (.atx (.ix (.v 6) (.int 8)) "place") (.v 2)) (.cmp .eq (.atx (.ix (.v 6) (.int 8)) "rows") (.v 5)))) .nil)))))))))
end DL
/-! Sets of whole numbers by spans: what is in them, when two are one. -/
namespace SM
abbrev OI := Option Int
abbrev Span := OI × OI
def geL : OI → Int → Bool
  | none, _ => true
  | some a, x => decide (a ≤ x)
def leH : OI → Int → Bool
  | none, _ => true
  | some b, x => decide (x ≤ b)
def inS (s : Span) (x : Int) : Bool := geL s.1 x && leH s.2 x
def mem (l : List Span) (x : Int) : Bool := l.any fun s => inS s x
def leL : OI → OI → Prop
  | none, _ => True
  | some _, none => False
  | some b, some a => b ≤ a
def leS : Span → Prop
  | (some a, some c) => a ≤ c
  | _ => True
def up (c : OI) (k : Int) : OI := c.map (· + k)
/-- rising from b on, a number between two -/
def Cn : OI → List Span → Prop
  | _, [] => True
  | b, s :: r => leL b s.1 ∧ leS s ∧ (match s.2 with
    | none => r = []
    | some c => Cn (some (c + 2)) r)
abbrev Can (l : List Span) : Prop := Cn none l
theorem mem_nil (x : Int) : mem [] x = false := rfl
theorem mem_cons (s : Span) (l : List Span) (x : Int) : mem (s :: l) x = (inS s x || mem l x) := rfl
theorem mem_app (l m : List Span) (x : Int) : mem (l ++ m) x = (mem l x || mem m x) := List.any_append
theorem leL_geL {b a : OI} {x : Int} (h : leL b a) (g : geL a x = true) : geL b x = true := by
  cases b <;> cases a <;> simp_all [leL, geL]
  omega
theorem leL_trans {a b c : OI} (h : leL a b) (g : leL b c) : leL a c := by
  cases a <;> cases b <;> cases c <;> simp_all [leL]
  omega
theorem leL_refl (a : OI) : leL a a := by cases a <;> simp [leL]
theorem Cn.mono {a b : OI} {l : List Span} (h : leL a b) (c : Cn b l) : Cn a l := by
  cases l with
  | nil => trivial
  | cons s r => exact ⟨leL_trans h c.1, c.2⟩
theorem leS_le {s : Span} {a c : Int} (h : leS s) (e1 : s.1 = some a) (e2 : s.2 = some c) : a ≤ c := by
  obtain ⟨lo, hi⟩ := s
  simp only at e1 e2
  subst e1 e2
  exact h
/-- what is in lies from b on -/
theorem Cn.ge : ∀ {l : List Span} {b : OI} {x : Int}, Cn b l → mem l x = true → geL b x = true
  | [], b, x, _, h => nomatch h
  | (lo, hi) :: r, b, x, c, h => by
    rw [mem_cons, Bool.or_eq_true] at h
    obtain ⟨c1, c2, c3⟩ := c
    rcases h with h | h
    · unfold inS at h
      rw [Bool.and_eq_true] at h
      exact leL_geL c1 h.1
    · cases hi with
      | none =>
        have c3 : r = [] := c3
        subst c3
        cases h
      | some c =>
        have c3 : Cn (some (c + 2)) r := c3
        have q := Cn.ge c3 h
        simp only [geL, decide_eq_true_eq] at q
        cases b with
        | none => rfl
        | some b =>
          cases lo with
          | none => exact c1.elim
          | some a =>
            have c1 : b ≤ a := c1
            have c2 : a ≤ c := c2
            simp only [geL, decide_eq_true_eq]
            omega
theorem Cn.not {l : List Span} {b x : Int} (c : Cn (some b) l) (h : x < b) : mem l x = false := by
  cases e : mem l x with
  | false => rfl
  | true =>
    have q := c.ge e
    simp only [geL, decide_eq_true_eq] at q
    omega
theorem Cn.some_in {s : Span} {r : List Span} {b : OI} (c : Cn b (s :: r)) : ∃ x, inS s x = true := by
  obtain ⟨lo, hi⟩ := s
  obtain ⟨_, c2, _⟩ := c
  cases lo with
  | none =>
    cases hi with
    | none => exact ⟨0, rfl⟩
    | some c => exact ⟨c, by simp [inS, geL, leH]⟩
  | some a =>
    cases hi with
    | none => exact ⟨a, by simp [inS, geL, leH]⟩
    | some c =>
      have c2 : a ≤ c := c2
      exact ⟨a, by simp [inS, geL, leH]; exact c2⟩
/-- behind its first span -/
theorem Cn.tail_in {s : Span} {r : List Span} {b : OI} (c : Cn b (s :: r)) {x : Int} (h : mem r x = true) : ∃ k, s.2 = some k ∧ k + 2 ≤ x := by
  obtain ⟨lo, hi⟩ := s
  obtain ⟨_, _, c3⟩ := c
  cases hi with
  | none =>
    have c3 : r = [] := c3
    subst c3
    cases h
  | some k =>
    have c3 : Cn (some (k + 2)) r := c3
    have q := c3.ge h
    simp only [geL, decide_eq_true_eq] at q
    exact ⟨k, rfl, q⟩
/-- the two have the same low end -/
theorem low_le {s s' : Span} {r r' : List Span} {b b' : OI} (c : Cn b (s :: r)) (c' : Cn b' (s' :: r')) (h : ∀ x, mem (s :: r) x = true → mem (s' :: r') x = true) : leL s'.1 s.1 := by
  have low : ∀ x, mem (s' :: r') x = true → geL s'.1 x = true := fun x hx => Cn.ge (b := s'.1) (show Cn s'.1 (s' :: r') from ⟨leL_refl _, c'.2⟩) hx
  have here : ∀ x, inS s x = true → geL s'.1 x = true := fun x hx => low x (h x (by rw [mem_cons, hx]; rfl))
  obtain ⟨x, hx⟩ := c.some_in
  obtain ⟨lo, hi⟩ := s
  obtain ⟨lo', hi'⟩ := s'
  cases lo' with
  | none => trivial
  | some a' =>
    cases lo with
    | none =>
      have h1 : leH hi x = true := by
        unfold inS at hx
        rw [Bool.and_eq_true] at hx
        exact hx.2
      have q := here (min x (a' - 1)) (by
        simp only [inS, geL, Bool.true_and]
        cases hi with
        | none => rfl
        | some c =>
          simp only [leH, decide_eq_true_eq] at h1 ⊢
          omega)
      simp only [geL, decide_eq_true_eq] at q
      omega
    | some a =>
      have q := here a (by
        simp only [inS, geL, decide_true, Bool.true_and, Int.le_refl]
        cases hi with
        | none => rfl
        | some c =>
          simp only [inS, geL, leH, Bool.and_eq_true, decide_eq_true_eq] at hx ⊢
          omega)
      simp only [geL, decide_eq_true_eq] at q
      exact q
theorem leL_anti {a b : OI} (h : leL a b) (g : leL b a) : a = b := by
  cases a <;> cases b <;> simp_all [leL]
  omega
/-- .. and the same high end -/
theorem high_le {lo hi hi' : OI} {r r' : List Span} {b b' : OI} (c : Cn b ((lo, hi) :: r)) (c' : Cn b' ((lo, hi') :: r')) (h : ∀ x, mem ((lo, hi) :: r) x = true → mem ((lo, hi') :: r') x = true) : ∀ k', hi' = some k' → ∃ k, hi = some k ∧ k ≤ k' := by
  rintro k' rfl
  have no : ∀ x, mem ((lo, some k') :: r') x = true → x ≠ k' + 1 := fun x hx e => by
    rw [mem_cons, Bool.or_eq_true] at hx
    rcases hx with hx | hx
    · simp only [inS, leH, Bool.and_eq_true, decide_eq_true_eq] at hx
      omega
    · obtain ⟨k, e2, q⟩ := c'.tail_in hx
      cases e2
      omega
  have lk : geL lo (k' + 1) = true := by
    cases lo with
    | none => rfl
    | some a =>
      have q : a ≤ k' := c'.2.1
      simp only [geL, decide_eq_true_eq]
      omega
  cases hi with
  | none =>
    exact absurd rfl (no (k' + 1) (h _ (by rw [mem_cons]; simp [inS, lk, leH])))
  | some k =>
    refine ⟨k, rfl, ?_⟩
    by_cases q : k ≤ k'
    · exact q
    · exact absurd rfl (no (k' + 1) (h _ (by rw [mem_cons]; simp only [inS, lk, leH, Bool.true_and, Bool.or_eq_true, decide_eq_true_eq]; left; omega)))
/-- two that have the same numbers are one -/
theorem Cn.uniq : ∀ {l l' : List Span} {b b' : OI}, Cn b l → Cn b' l' → (∀ x, mem l x = mem l' x) → l = l'
  | [], [], _, _, _, _, _ => rfl
  | [], s :: r, _, _, _, c', h => by
    obtain ⟨x, hx⟩ := c'.some_in
    have q := h x
    rw [mem_cons, hx] at q
    cases q
  | s :: r, [], _, _, c, _, h => by
    obtain ⟨x, hx⟩ := c.some_in
    have q := h x
    rw [mem_cons, hx] at q
    cases q
  | (lo, hi) :: r, (lo', hi') :: r', b, b', c, c', h => by
    have e1 : lo' = lo := leL_anti (low_le c c' fun x hx => by rw [← h]; exact hx) (low_le c' c fun x hx => by rw [h]; exact hx)
    subst e1
    have e2 : hi = hi' := by
      have u := high_le c c' fun x hx => by rw [← h]; exact hx
      have v := high_le c' c fun x hx => by rw [h]; exact hx
      cases hi with
      | none =>
        cases hi' with
        | none => rfl
        | some k' => obtain ⟨k, e, _⟩ := u k' rfl; cases e
      | some k =>
        obtain ⟨k', e, q⟩ := v k rfl
        subst e
        obtain ⟨k2, e, q2⟩ := u k' rfl
        cases e
        congr 1
        omega
    subst e2
    have e3 : r = r' := by
      cases hi with
      | none =>
        have a1 : r = [] := c.2.2
        have a2 : r' = [] := c'.2.2
        rw [a1, a2]
      | some k =>
        have a1 : Cn (some (k + 2)) r := c.2.2
        have a2 : Cn (some (k + 2)) r' := c'.2.2
        refine Cn.uniq a1 a2 fun x => ?_
        have q := h x
        rw [mem_cons, mem_cons] at q
        cases i : inS (lo', some k) x with
        | false => rw [i] at q; exact q
        | true =>
          have hx : x ≤ k := by
            unfold inS at i
            simp only [leH, Bool.and_eq_true, decide_eq_true_eq] at i
            exact i.2
          rw [a1.not (by omega), a2.not (by omega)]
    rw [e3]
/-! ### all others -/
def byd : OI → List Span → List Span
  | s, [] => [(s, none)]
  | s, (lo, hi) :: r => (match lo with
    | some a => [(s, some (a - 1))]
    | none => []) ++ (match hi with
    | some h => byd (some (h + 1)) r
    | none => [])
theorem byd_len : ∀ (l : List Span) (s : OI), (byd s l).length ≤ l.length + 1
  | [], s => Nat.le_refl _
  | (lo, hi) :: r, s => by
    cases lo <;> cases hi <;> simp only [byd, List.length_append, List.length_cons, List.length_nil, List.nil_append, List.cons_append] <;> first | omega | (rename_i h; have := byd_len r (some (h + 1)); omega)
theorem byd_cn : ∀ (l : List Span) (s : OI), Cn (up s 1) l → Cn s (byd s l)
  | [], s, _ => by cases s <;> exact ⟨leL_refl _, trivial, rfl⟩
  | (lo, hi) :: r, s, c => by
    obtain ⟨c1, c2, c3⟩ := c
    have rest : ∀ h, hi = some h → Cn (some (h + 1)) (byd (some (h + 1)) r) := fun h e => by
      subst e
      exact byd_cn r _ (by
        have c3 : Cn (some (h + 2)) r := c3
        show Cn (some (h + 1 + 1)) r
        rw [show h + 1 + 1 = h + 2 by omega]
        exact c3)
    unfold byd
    cases lo with
    | none =>
      cases s with
      | some b => exact c1.elim
      | none =>
        cases hi with
        | none => trivial
        | some h => exact (rest h rfl).mono trivial
    | some a =>
      refine ⟨leL_refl _, ?_, ?_⟩
      · cases s with
        | none => trivial
        | some b =>
          have c1 : b + 1 ≤ a := c1
          show b ≤ a - 1
          omega
      · show Cn (some (a - 1 + 2)) _
        cases hi with
        | none => trivial
        | some h =>
          have c2 : a ≤ h := c2
          exact (rest h rfl).mono (by show a - 1 + 2 ≤ h + 1; omega)
theorem byd_mem : ∀ (l : List Span) (s : OI) (x : Int), Cn (up s 1) l → mem (byd s l) x = (geL s x && !mem l x)
  | [], s, x, _ => by simp [byd, mem, inS, leH]
  | (lo, hi) :: r, s, x, c => by
    obtain ⟨c1, c2, c3⟩ := c
    cases hi with
    | none =>
      have c3 : r = [] := c3
      subst c3
      cases lo with
      | none =>
        cases s with
        | some b => exact c1.elim
        | none => simp [byd, mem, inS, geL, leH]
      | some a =>
        simp only [byd, List.append_nil, mem_cons, mem_nil, Bool.or_false, inS, leH, Bool.and_true, geL]
        congr 1
        by_cases q : a ≤ x
        · rw [decide_eq_true q, decide_eq_false (by omega)]; rfl
        · rw [decide_eq_false q, decide_eq_true (by omega)]; rfl
    | some h =>
      have c3 : Cn (some (h + 2)) r := c3
      have ih : mem (byd (some (h + 1)) r) x = (decide (h + 1 ≤ x) && !mem r x) := byd_mem r (some (h + 1)) x (by show Cn (some (h + 1 + 1)) r; rw [show h + 1 + 1 = h + 2 by omega]; exact c3)
      cases lo with
      | none =>
        cases s with
        | some b => exact c1.elim
        | none =>
          simp only [byd, List.nil_append, mem_cons, ih, inS, geL, leH, Bool.true_and, Bool.not_or]
          congr 1
          by_cases q : h + 1 ≤ x
          · rw [decide_eq_true q, decide_eq_false (by omega)]; rfl
          · rw [decide_eq_false q, decide_eq_true (by omega)]; rfl
      | some a =>
        have hx : ∀ b, s = some b → b + 1 ≤ a := fun b e => by subst e; exact c1
        have c2 : a ≤ h := c2
        have e1 : ∀ y, geL (some a) y = decide (a ≤ y) := fun _ => rfl
        simp only [byd, List.cons_append, List.nil_append, mem_cons, ih, inS, leH, e1]
        by_cases q : x ≤ a - 1
        · have q2 : mem r x = false := c3.not (by omega)
          rw [q2, decide_eq_true q, decide_eq_false (show ¬ h + 1 ≤ x by omega), decide_eq_false (show ¬ a ≤ x by omega)]
          simp
        · have q3 : geL s x = true := by
            cases s with
            | none => rfl
            | some b =>
              have := hx b rfl
              simp only [geL, decide_eq_true_eq]
              omega
          rw [q3, decide_eq_false q, decide_eq_true (show a ≤ x by omega)]
          by_cases q4 : h + 1 ≤ x
          · rw [decide_eq_true q4, decide_eq_false (show ¬ x ≤ h by omega)]
            simp
          · rw [decide_eq_false q4, decide_eq_true (show x ≤ h by omega)]
            simp
/-! ### what two have in common -/
def later (a b : OI) : OI := match a, b with
  | none, b => b
  | some a, none => some a
  | some a, some b => if a < b then some b else some a
def sooner (a b : OI) : OI := match a, b with
  | none, b => b
  | some a, none => some a
  | some a, some b => if b < a then some b else some a
def okS (s : Span) : Bool := match s with
  | (some a, some b) => decide (a ≤ b)
  | _ => true
def isect (s t : Span) : Option Span := if okS (later s.1 t.1, sooner s.2 t.2) = true then some (later s.1 t.1, sooner s.2 t.2) else none
theorem geL_later (a b : OI) (x : Int) : geL (later a b) x = (geL a x && geL b x) := by
  cases a with
  | none => rfl
  | some a =>
    cases b with
    | none => exact (Bool.and_true _).symm
    | some b =>
      show geL (if a < b then some b else some a) x = (decide (a ≤ x) && decide (b ≤ x))
      by_cases q : a < b
      · rw [if_pos q]; show decide (b ≤ x) = _; rw [Bool.eq_iff_iff]; simp only [Bool.and_eq_true, decide_eq_true_eq]; omega
      · rw [if_neg q]; show decide (a ≤ x) = _; rw [Bool.eq_iff_iff]; simp only [Bool.and_eq_true, decide_eq_true_eq]; omega
theorem leH_sooner (a b : OI) (x : Int) : leH (sooner a b) x = (leH a x && leH b x) := by
  cases a with
  | none => rfl
  | some a =>
    cases b with
    | none => exact (Bool.and_true _).symm
    | some b =>
      show leH (if b < a then some b else some a) x = (decide (x ≤ a) && decide (x ≤ b))
      by_cases q : b < a
      · rw [if_pos q]; show decide (x ≤ b) = _; rw [Bool.eq_iff_iff]; simp only [Bool.and_eq_true, decide_eq_true_eq]; omega
      · rw [if_neg q]; show decide (x ≤ a) = _; rw [Bool.eq_iff_iff]; simp only [Bool.and_eq_true, decide_eq_true_eq]; omega
theorem isect_in (s t : Span) (x : Int) : mem (isect s t).toList x = (inS s x && inS t x) := by
  have key : inS (later s.1 t.1, sooner s.2 t.2) x = (inS s x && inS t x) := by
    unfold inS
    simp only [geL_later, leH_sooner]
    cases geL s.1 x <;> cases geL t.1 x <;> cases leH s.2 x <;> cases leH t.2 x <;> rfl
  unfold isect
  split
  · simp only [Option.toList, mem_cons, mem_nil, Bool.or_false]
    exact key
  · rename_i h
    rw [← key]
    simp only [Option.toList, mem_nil]
    cases e1 : later s.1 t.1 with
    | none => rw [e1] at h; simp [okS] at h
    | some a =>
      cases e2 : sooner s.2 t.2 with
      | none => rw [e1, e2] at h; simp [okS] at h
      | some b =>
        rw [e1, e2] at h
        simp only [okS, decide_eq_true_eq] at h
        simp only [inS, geL, leH]
        by_cases q : a ≤ x
        · rw [decide_eq_false (show ¬ x ≤ b by omega)]; simp
        · rw [decide_eq_false q]; simp
def row (s : Span) (m : List Span) : List Span := m.filterMap fun t => isect s t
def cmn (l m : List Span) : List Span := l.flatMap fun s => row s m
theorem row_mem (s : Span) : ∀ (m : List Span) (x : Int), mem (row s m) x = (inS s x && mem m x)
  | [], x => by simp [row, mem_nil]
  | t :: m, x => by
    have ih := row_mem s m x
    have e : row s (t :: m) = (isect s t).toList ++ row s m := by
      unfold row
      rw [List.filterMap_cons]
      cases isect s t <;> rfl
    rw [e, mem_app, isect_in, ih, mem_cons]
    cases inS s x <;> cases inS t x <;> rfl
theorem cmn_mem : ∀ (l m : List Span) (x : Int), mem (cmn l m) x = (mem l x && mem m x)
  | [], m, x => by simp [cmn, mem_nil]
  | s :: l, m, x => by
    have ih := cmn_mem l m x
    have e : cmn (s :: l) m = row s m ++ cmn l m := by simp [cmn]
    rw [e, mem_app, row_mem, ih, mem_cons]
    cases inS s x <;> cases mem l x <;> cases mem m x <;> rfl
/-- all high ends are at most h -/
def Under (h : OI) (l : List Span) : Prop := match h with
  | none => True
  | some h => ∀ s ∈ l, ∃ c, s.2 = some c ∧ c ≤ h
theorem Cn.app {p : OI} {c : Int} : ∀ {l m : List Span}, Cn p l → Under (some c) l → Cn (some (c + 2)) m → leL p (some (c + 2)) → Cn p (l ++ m)
  | [], m, _, _, hm, h => hm.mono h
  | (lo, hi) :: l, m, hl, hu, hm, h => by
    obtain ⟨h1, h2, h3⟩ := hl
    obtain ⟨k, e, hk⟩ := hu (lo, hi) List.mem_cons_self
    simp only at e
    subst e
    have h3 : Cn (some (k + 2)) l := h3
    refine ⟨h1, h2, ?_⟩
    exact Cn.app h3 (fun s hs => hu s (List.mem_cons_of_mem _ hs)) hm (by show k + 2 ≤ c + 2; omega)
theorem later_ge1 (a b : OI) : leL a (later a b) := by
  cases a <;> cases b <;> first | trivial | exact leL_refl _ | (simp only [later]; split <;> simp only [leL] <;> omega)
theorem later_ge2 (a b : OI) : leL b (later a b) := by
  cases a <;> cases b <;> first | trivial | exact leL_refl _ | (simp only [later]; split <;> simp only [leL] <;> omega)
theorem sooner_le1 {a b : OI} {c : Int} (h : a = some c) : ∃ k, sooner a b = some k ∧ k ≤ c := by
  subst h
  cases b with
  | none => exact ⟨c, rfl, Int.le_refl _⟩
  | some b =>
    simp only [sooner]
    split
    · exact ⟨b, rfl, by omega⟩
    · exact ⟨c, rfl, Int.le_refl _⟩
theorem sooner_le2 {a b : OI} {c : Int} (h : b = some c) : ∃ k, sooner a b = some k ∧ k ≤ c := by
  subst h
  cases a with
  | none => exact ⟨c, rfl, Int.le_refl _⟩
  | some a =>
    simp only [sooner]
    split
    · exact ⟨c, rfl, Int.le_refl _⟩
    · exact ⟨a, rfl, by omega⟩
theorem row_under (s : Span) (m : List Span) : Under s.2 (row s m) := by
  unfold Under
  split
  · trivial
  · rename_i h e
    intro t ht
    unfold row at ht
    rw [List.mem_filterMap] at ht
    obtain ⟨u, _, hu⟩ := ht
    unfold isect at hu
    split at hu
    · cases hu
      exact sooner_le1 e
    · cases hu
theorem row_cn (s : Span) : ∀ {m : List Span} {q : OI}, Cn q m → Cn (later s.1 q) (row s m)
  | [], q, _ => trivial
  | t :: m, q, c => by
    obtain ⟨c1, c2, c3⟩ := c
    have e : row s (t :: m) = (isect s t).toList ++ row s m := by
      unfold row
      rw [List.filterMap_cons]
      cases isect s t <;> rfl
    rw [e]
    have low : leL (later s.1 q) (later s.1 t.1) := by
      cases hs : s.1 with
      | none => exact c1
      | some a =>
        cases q with
        | none => exact later_ge1 _ _
        | some b =>
          cases ht : t.1 with
          | none => rw [ht] at c1; exact c1.elim
          | some d =>
            rw [ht] at c1
            have c1 : b ≤ d := c1
            simp only [later]
            split <;> split <;> simp only [leL] <;> omega
    cases ht : t.2 with
    | none =>
      have c3 : m = [] := by rw [ht] at c3; exact c3
      subst c3
      unfold isect
      split
      · rename_i ok
        refine ⟨low, ?_, ?_⟩
        · generalize hp : later s.1 t.1 = p at ok
          generalize hr : sooner s.2 t.2 = r at ok
          cases p <;> cases r <;> simp_all [okS, leS]
        · cases sooner s.2 t.2 with
          | none => rfl
          | some _ => trivial
      · exact trivial
    | some k =>
      have c3 : Cn (some (k + 2)) m := by rw [ht] at c3; exact c3
      have ih := row_cn s c3
      unfold isect
      split
      · rename_i ok
        obtain ⟨j, ej, hj⟩ := sooner_le2 (a := s.2) ht
        refine ⟨low, ?_, ?_⟩
        · generalize hp : later s.1 t.1 = p at ok
          generalize hr : sooner s.2 t.2 = r at ok
          cases p <;> cases r <;> simp_all [okS, leS]
        · simp only [ej]
          exact ih.mono (leL_trans (by show j + 2 ≤ k + 2; omega) (later_ge2 s.1 (some (k + 2))))
      · have q1 : leL q (some (k + 2)) := by
          cases q with
          | none => trivial
          | some b =>
            obtain ⟨lo, hi⟩ := t
            cases lo with
            | none => exact c1.elim
            | some d =>
              have c1 : b ≤ d := c1
              have ht : hi = some k := ht
              subst ht
              have c2 : d ≤ k := c2
              show b ≤ k + 2
              omega
        have q2 : leL (later s.1 q) (later s.1 (some (k + 2))) := by
          cases hs : s.1 with
          | none => exact q1
          | some a =>
            cases q with
            | none => exact later_ge1 _ _
            | some b =>
              have q1 : b ≤ k + 2 := q1
              simp only [later]
              split <;> split <;> simp only [leL] <;> omega
        exact ih.mono q2
theorem cmn_cn : ∀ {l m : List Span} {p : OI}, Cn p l → Can m → Cn p (cmn l m)
  | [], m, p, _, _ => trivial
  | s :: l, m, p, c, d => by
    obtain ⟨c1, c2, c3⟩ := c
    have e : cmn (s :: l) m = row s m ++ cmn l m := by simp [cmn]
    rw [e]
    have h1 : Cn p (row s m) := (row_cn s d).mono (leL_trans c1 (later_ge1 _ _))
    cases hs : s.2 with
    | none =>
      have c3 : l = [] := by rw [hs] at c3; exact c3
      subst c3
      simp only [cmn, List.flatMap_nil, List.append_nil]
      exact h1
    | some k =>
      have c3 : Cn (some (k + 2)) l := by rw [hs] at c3; exact c3
      have ih := cmn_cn c3 d
      refine h1.app (c := k) (by have u := row_under s m; rw [hs] at u; exact u) ih ?_
      cases p with
      | none => trivial
      | some b =>
        obtain ⟨lo, hi⟩ := s
        cases lo with
        | none => exact c1.elim
        | some a =>
          have c1 : b ≤ a := c1
          have hs : hi = some k := hs
          subst hs
          have c2 : a ≤ k := c2
          show b ≤ k + 2
          omega
theorem row_len (s : Span) (m : List Span) : (row s m).length ≤ m.length := List.length_filterMap_le _ _
theorem cmn_len : ∀ (l m : List Span), (cmn l m).length ≤ l.length * m.length
  | [], m => by simp [cmn]
  | s :: l, m => by
    have e : cmn (s :: l) m = row s m ++ cmn l m := by simp [cmn]
    rw [e, List.length_append, List.length_cons, Nat.succ_mul]
    have := row_len s m
    have := cmn_len l m
    omega
/-! ### spans that grow at the end -/
theorem Cn.last_more {lo : OI} {c d : Int} (h : c ≤ d) : ∀ {f : List Span} {p : OI}, Cn p (f ++ [(lo, some c)]) → Cn p (f ++ [(lo, some d)])
  | [], p, ⟨h1, h2, _⟩ => ⟨h1, by cases lo with
    | none => trivial
    | some a => exact Int.le_trans (show a ≤ c from h2) h, trivial⟩
  | (a, b) :: f, p, ⟨h1, h2, h3⟩ => by
    refine ⟨h1, h2, ?_⟩
    cases b with
    | none => exact absurd h3 (by simp)
    | some b => exact Cn.last_more h (f := f) h3
theorem Cn.last_new {lo : OI} {c b : Int} {hi : OI} (h : c + 2 ≤ b) (hs : leS (some b, hi)) : ∀ {f : List Span} {p : OI}, Cn p (f ++ [(lo, some c)]) → Cn p (f ++ [(lo, some c)] ++ [(some b, hi)])
  | [], p, ⟨h1, h2, _⟩ => ⟨h1, h2, h, hs, by cases hi <;> first | rfl | trivial⟩
  | (a, d) :: f, p, ⟨h1, h2, h3⟩ => by
    refine ⟨h1, h2, ?_⟩
    cases d with
    | none => exact absurd h3 (by simp)
    | some d => exact Cn.last_new h hs (f := f) h3
theorem Cn.last_open {lo hi : OI} : ∀ {f : List Span} {p : OI}, Cn p (f ++ [(lo, hi)]) → Cn p (f ++ [(lo, none)])
  | [], p, ⟨h1, h2, _⟩ => ⟨h1, by cases lo <;> trivial, rfl⟩
  | (a, d) :: f, p, ⟨h1, h2, h3⟩ => by
    refine ⟨h1, h2, ?_⟩
    cases d with
    | none => exact absurd h3 (by simp)
    | some d => exact Cn.last_open (f := f) h3
theorem Cn.first_open {s : Span} {r : List Span} (h : Can (s :: r)) : Can ((none, s.2) :: r) := ⟨trivial, trivial, h.2.2⟩
/-- drawn so far: the last end is c -/
def Grown (c : Int) (f : List Span) : Prop := ∃ f0 a, f = f0 ++ [(some a, some c)] ∧ Can f
theorem Grown.one (c : Int) : Grown c [(some c, some c)] := ⟨[], c, rfl, trivial, Int.le_refl c, trivial⟩
theorem Grown.new {c d : Int} {f : List Span} (g : Grown c f) (h : c + 2 ≤ d) : Grown d (f ++ [(some d, some d)]) := by
  obtain ⟨f0, a, rfl, h2⟩ := g
  exact ⟨f0 ++ [(some a, some c)], d, rfl, Cn.last_new h (show leS (some d, some d) from Int.le_refl d) h2⟩
end SM
/-! Sets of words; sets as data; what two sets make. -/
namespace DL
open PySem PySem.Spec PyProof.Rows L2
open SM (Span OI mem Can Cn byd cmn)
theorem srt_uniq {A : Type} {lt : A → A → Prop} (as : ∀ a b, lt a b → ¬ lt b a) : ∀ {l m : List A}, l.Pairwise lt → m.Pairwise lt → (∀ x, x ∈ l ↔ x ∈ m) → l = m
  | [], [], _, _, _ => rfl
  | [], b :: m, _, _, h => by have := (h b).mpr List.mem_cons_self; cases this
  | a :: l, [], _, _, h => by have := (h a).mp List.mem_cons_self; cases this
  | a :: l, b :: m, h1, h2, h => by
    obtain ⟨a1, a2⟩ := List.pairwise_cons.mp h1
    obtain ⟨b1, b2⟩ := List.pairwise_cons.mp h2
    have e : a = b := by
      rcases List.mem_cons.mp ((h a).mp List.mem_cons_self) with e | e
      · exact e
      · rcases List.mem_cons.mp ((h b).mpr List.mem_cons_self) with e2 | e2
        · exact e2.symm
        · exact absurd (a1 b e2) (as b a (b1 a e))
    subst e
    have irr : ¬ lt a a := fun q => as a a q q
    rw [srt_uniq as a2 b2 fun x => ?_]
    constructor
    · intro hx
      rcases List.mem_cons.mp ((h x).mp (List.mem_cons_of_mem _ hx)) with e | e
      · subst e; exact absurd (a1 x hx) irr
      · exact e
    · intro hx
      rcases List.mem_cons.mp ((h x).mpr (List.mem_cons_of_mem _ hx)) with e | e
      · subst e; exact absurd (b1 x hx) irr
      · exact e
theorem ltS_asym (a b : Str) (h : ltS a b) : ¬ ltS b a := fun g => List.lt_asymm h g
theorem ltS_irr (a : Str) : ¬ ltS a a := fun h => ltS_asym a a h h
abbrev Srt (l : List Str) : Prop := l.Pairwise ltS
/-- a text that is in none of these -/
theorem str_out (l : List Str) : ∃ x : Str, x ∉ l := by
  have h : ∀ l : List Str, ∃ n, ∀ y ∈ l, y.cps.size < n := by
    intro l
    induction l with
    | nil => exact ⟨0, fun y h => by cases h⟩
    | cons a l ih =>
      obtain ⟨n, hn⟩ := ih
      refine ⟨max n (a.cps.size + 1), fun y hy => ?_⟩
      rcases List.mem_cons.mp hy with e | e
      · subst e; omega
      · have := hn y e; omega
  obtain ⟨n, hn⟩ := h l
  refine ⟨⟨Array.replicate n 0⟩, fun hx => ?_⟩
  have := hn _ hx
  simp at this
def inW (b : Bool) (l : List Str) (x : Str) : Bool := decide (x ∈ l) == b
theorem words_uniq {b c : Bool} {l m : List Str} (h1 : Srt l) (h2 : Srt m) (h : ∀ x, inW b l x = inW c m x) : b = c ∧ l = m := by
  obtain ⟨x, hx⟩ := str_out (l ++ m)
  have e : b = c := by
    have q := h x
    unfold inW at q
    rw [decide_eq_false (fun z => hx (List.mem_append_left _ z)), decide_eq_false (fun z => hx (List.mem_append_right _ z))] at q
    cases b <;> cases c <;> first | rfl | (cases q; done)
  subst e
  refine ⟨rfl, srt_uniq ltS_asym h1 h2 fun y => ?_⟩
  have q := h y
  unfold inW at q
  by_cases a1 : y ∈ l <;> by_cases a2 : y ∈ m <;> simp_all
/-! ### sets -/
inductive SetV where
  | n (l : List Span)
  | w (b : Bool) (l : List Str)
def SetV.isN : SetV → Bool
  | .n _ => true
  | .w _ _ => false
def SetV.ok : SetV → Prop
  | .n l => Can l
  | .w _ l => Srt l ∧ ∀ x ∈ l, D.ok (.str x) = true
def SetV.size : SetV → Nat
  | .n l => l.length
  | .w _ l => l.length
/-- the words of two, in order, each once -/
def IsMerge (l m r : List Str) : Prop := Srt r ∧ ∀ x, x ∈ r ↔ x ∈ l ++ m
theorem merge_uniq {l m r s : List Str} (h : IsMerge l m r) (g : IsMerge l m s) : r = s := srt_uniq ltS_asym h.1 g.1 fun x => (h.2 x).trans (g.2 x).symm
def eOI : OI → D
  | none => .non
  | some i => .int i
def eSpan (s : Span) : D := .tup [eOI s.1, eOI s.2]
def eSpans (l : List Span) : D := .tup (l.map eSpan)
def eStrs (l : List Str) : D := .tup (l.map .str)
def eSet : SetV → D
  | .n l => .tup [.str ⟨#[110]⟩, eSpans l]
  | .w b l => .tup [.str ⟨#[119]⟩, .bl b, eStrs l]
def sBeyond : SetV → SetV
  | .n l => .n (byd none l)
  | .w b l => .w (!b) l
/-- r is what two have in common -/
def IsCommon : SetV → SetV → SetV → Prop
  | .n l, .n m, r => r = .n (cmn l m)
  | .w true l, .w true m, r => r = .w true (l.filter fun x => decide (x ∈ m))
  | .w true l, .w false m, r => r = .w true (l.filter fun x => !decide (x ∈ m))
  | .w false l, .w true m, r => r = .w true (m.filter fun x => !decide (x ∈ l))
  | .w false l, .w false m, r => ∃ s, IsMerge l m s ∧ r = .w false s
  | _, _, _ => False
def truth (way : Int) (a b : Bool) : Bool := if way = 0 then a && b else if way = 1 then a || b else a && !b
/-- r is what way makes of a and b -/
def IsDue (way : Int) (a b r : SetV) : Prop := r.ok ∧ match a, b, r with
  | .n l, .n m, .n r => ∀ x, mem r x = truth way (mem l x) (mem m x)
  | .w c l, .w d m, .w e r => ∀ x, inW e r x = truth way (inW c l x) (inW d m x)
  | _, _, _ => False
theorem due_uniq {way : Int} {a b r s : SetV} (h : IsDue way a b r) (g : IsDue way a b s) : r = s := by
  obtain ⟨h1, h⟩ := h
  obtain ⟨g1, g⟩ := g
  cases a <;> cases b <;> cases r <;> cases s <;> first | exact h.elim | exact g.elim | skip
  · rw [Cn.uniq h1 g1 fun x => (h x).trans (g x).symm]
  · obtain ⟨e1, e2⟩ := words_uniq h1.1 g1.1 fun x => (h x).trans (g x).symm
    rw [e1, e2]
theorem beyond_ok {a : SetV} (h : a.ok) : (sBeyond a).ok := by
  cases a with
  | n l => exact SM.byd_cn l none h
  | w b l => exact h
theorem beyond_len (a : SetV) : (sBeyond a).size ≤ a.size + 1 := by
  cases a with
  | n l => exact SM.byd_len l none
  | w b l => exact Nat.le_succ _
theorem inW_not (b : Bool) (l : List Str) (x : Str) : inW (!b) l x = !inW b l x := by
  unfold inW
  cases b <;> cases decide (x ∈ l) <;> rfl
theorem srt_filter {l : List Str} {p : Str → Bool} (h : Srt l) : Srt (l.filter p) := h.sublist (List.filter_sublist ..)
theorem nodup_len {A : Type} [DecidableEq A] : ∀ (l m : List A), l.Nodup → (∀ x ∈ l, x ∈ m) → l.length ≤ m.length
  | [], m, _, _ => Nat.zero_le _
  | a :: l, m, hn, hs => by
    obtain ⟨h1, h2⟩ := List.nodup_cons.mp hn
    have ih := nodup_len l (m.erase a) h2 fun y hy => (List.mem_erase_of_ne (a := y) (b := a) (fun e => h1 (by rw [← e]; exact hy))).mpr (hs y (List.mem_cons_of_mem _ hy))
    have hm := hs a List.mem_cons_self
    rw [List.length_erase_of_mem hm] at ih
    have := List.length_pos_of_mem hm
    rw [List.length_cons]
    omega
theorem merge_len {l m r : List Str} (h : IsMerge l m r) : r.length ≤ l.length + m.length := by
  have nd : r.Nodup := h.1.imp fun {a b} q e => by subst e; exact ltS_irr a q
  have sub : r.length ≤ (l ++ m).length := nodup_len r (l ++ m) nd fun x hx => (h.2 x).mp hx
  rw [List.length_append] at sub
  exact sub
theorem inW_true (l : List Str) (x : Str) : inW true l x = decide (x ∈ l) := by unfold inW; cases decide (x ∈ l) <;> rfl
theorem inW_false (l : List Str) (x : Str) : inW false l x = !decide (x ∈ l) := by unfold inW; cases decide (x ∈ l) <;> rfl
theorem truth0 (a b : Bool) : truth 0 a b = (a && b) := rfl
theorem truth1 (a b : Bool) : truth 1 a b = (a || b) := rfl
theorem truth2 (a b : Bool) : truth 2 a b = (a && !b) := rfl
theorem ok_sub {l m : List Str} (h : ∀ x ∈ l, D.ok (.str x) = true) (s : ∀ x ∈ m, x ∈ l) : ∀ x ∈ m, D.ok (.str x) = true := fun x hx => h x (s x hx)
theorem common_due {a b r : SetV} (ha : a.ok) (hb : b.ok) (h : IsCommon a b r) : IsDue 0 a b r := by
  cases a with
  | n l =>
    cases b with
    | w c m => exact h.elim
    | n m =>
      have h : r = .n (cmn l m) := h
      subst h
      exact ⟨SM.cmn_cn (p := none) ha hb, fun x => SM.cmn_mem l m x⟩
  | w c l =>
    cases b with
    | n m => cases c <;> exact h.elim
    | w d m =>
      have fx : ∀ (u : List Str) (p : Str → Bool) (x : Str), decide (x ∈ u.filter p) = (decide (x ∈ u) && p x) := fun u p x => by
        rw [Bool.eq_iff_iff]
        simp [List.mem_filter]
      cases c with
      | true =>
        cases d with
        | true =>
          have h : r = .w true (l.filter fun x => decide (x ∈ m)) := h
          subst h
          refine ⟨⟨srt_filter ha.1, ok_sub ha.2 fun x hx => (List.mem_filter.mp hx).1⟩, fun x => ?_⟩
          rw [inW_true, inW_true, inW_true, fx, truth0]
        | false =>
          have h : r = .w true (l.filter fun x => !decide (x ∈ m)) := h
          subst h
          refine ⟨⟨srt_filter ha.1, ok_sub ha.2 fun x hx => (List.mem_filter.mp hx).1⟩, fun x => ?_⟩
          rw [inW_true, inW_true, inW_false, fx, truth0]
      | false =>
        cases d with
        | true =>
          have h : r = .w true (m.filter fun x => !decide (x ∈ l)) := h
          subst h
          refine ⟨⟨srt_filter hb.1, ok_sub hb.2 fun x hx => (List.mem_filter.mp hx).1⟩, fun x => ?_⟩
          rw [inW_true, inW_true, inW_false, fx, truth0, Bool.and_comm]
        | false =>
          obtain ⟨s, hs, h⟩ := h
          subst h
          refine ⟨⟨hs.1, fun x hx => ?_⟩, fun x => ?_⟩
          · rcases List.mem_append.mp ((hs.2 x).mp hx) with q | q
            · exact ha.2 x q
            · exact hb.2 x q
          · rw [inW_false, inW_false, inW_false, truth0]
            have e : decide (x ∈ s) = (decide (x ∈ l) || decide (x ∈ m)) := by
              rw [Bool.eq_iff_iff]
              simp [hs.2 x]
            rw [e, Bool.not_or]
theorem beyond_mem {l : List Span} (h : Can l) (x : Int) : mem (byd none l) x = !mem l x := by
  rw [SM.byd_mem l none x h]
  rfl
theorem dem (p q : Bool) : (!(!p && !q)) = (p || q) := by cases p <;> cases q <;> rfl
/-- what is in either: all but what both haven't -/
theorem either_due {a b c r : SetV} (ha : a.ok) (hb : b.ok) (h : IsCommon (sBeyond a) (sBeyond b) c) (e : r = sBeyond c) : IsDue 1 a b r := by
  subst e
  obtain ⟨k, h⟩ := common_due (beyond_ok ha) (beyond_ok hb) h
  cases a <;> cases b <;> cases c <;> first | exact h.elim | skip
  · refine ⟨beyond_ok (a := .n _) k, fun x => ?_⟩
    have q : mem _ x = truth 0 (mem (byd none _) x) (mem (byd none _) x) := h x
    rw [beyond_mem k, q, beyond_mem ha, beyond_mem hb, truth0, truth1]
    exact dem _ _
  · refine ⟨k, fun x => ?_⟩
    have q : inW _ _ x = truth 0 (inW (!_) _ x) (inW (!_) _ x) := h x
    rw [inW_not, q, inW_not, inW_not, truth0, truth1]
    exact dem _ _
theorem less_due {a b r : SetV} (ha : a.ok) (hb : b.ok) (h : IsCommon a (sBeyond b) r) : IsDue 2 a b r := by
  obtain ⟨k, h⟩ := common_due ha (beyond_ok hb) h
  cases a <;> cases b <;> cases r <;> first | exact h.elim | skip
  · refine ⟨k, fun x => ?_⟩
    have q : mem _ x = truth 0 (mem _ x) (mem (byd none _) x) := h x
    rw [q, beyond_mem hb, truth0, truth2]
  · refine ⟨k, fun x => ?_⟩
    have q : inW _ _ x = truth 0 (inW _ _ x) (inW (!_) _ x) := h x
    rw [q, inW_not, truth0, truth2]
/-- of one sort -/
def Same (a b : SetV) : Prop := a.isN = b.isN
theorem common_len {a b r : SetV} (h : IsCommon a b r) : r.size ≤ a.size * b.size + a.size + b.size := by
  cases a with
  | n l =>
    cases b with
    | w c m => exact h.elim
    | n m =>
      have h : r = .n (cmn l m) := h
      subst h
      have := SM.cmn_len l m
      show (cmn l m).length ≤ l.length * m.length + l.length + m.length
      omega
  | w c l =>
    cases b with
    | n m => cases c <;> exact h.elim
    | w d m =>
      have f1 : ∀ (u : List Str) (p : Str → Bool), (u.filter p).length ≤ u.length := fun u p => List.length_filter_le _ _
      show r.size ≤ l.length * m.length + l.length + m.length
      cases c with
      | true =>
        cases d with
        | true =>
          have h : r = .w true (l.filter fun x => decide (x ∈ m)) := h
          subst h
          have := f1 l fun x => decide (x ∈ m)
          show (l.filter fun x => decide (x ∈ m)).length ≤ _
          omega
        | false =>
          have h : r = .w true (l.filter fun x => !decide (x ∈ m)) := h
          subst h
          have := f1 l fun x => !decide (x ∈ m)
          show (l.filter fun x => !decide (x ∈ m)).length ≤ _
          omega
      | false =>
        cases d with
        | true =>
          have h : r = .w true (m.filter fun x => !decide (x ∈ l)) := h
          subst h
          have := f1 m fun x => !decide (x ∈ l)
          show (m.filter fun x => !decide (x ∈ l)).length ≤ _
          omega
        | false =>
          obtain ⟨s, hs, h⟩ := h
          subst h
          have := merge_len hs
          show s.length ≤ _
          omega
def isNone : SetV → Bool
  | .n l => l.isEmpty
  | .w b l => b && l.isEmpty
/-! ### equality of sets as data -/
end DL
namespace DL
open PySem PySem.Spec PyProof.Rows L2
/-- spans_beyond: spans, found, start, low, high -/
def b_spans_beyond : Ss := (.cons (.set 1 (.lst false .nil)) (.cons (.set 2 .non) (.cons (.for_ [3, 4] (.tup (.cons (.v 3) (.cons (.v 4) .nil))) (.seq (.v 0)) (.cons (.ite (.cm .isnot (.v 3) .non) (.cons (.app (.v 1) (.tup (.cons (.v 2) (.cons (.bin true .sub (.v 3) (.int 1)) .nil)))) .nil) .nil) (.cons (.ite (.cm .is (.v 4) .non) (.cons (.ret (.drop [1] (.bi true .tuple (.cons (.v 1) .nil)))) .nil) .nil) (.cons (.set 2 (.bin true .add (.v 4) (.int 1))) .nil)))) (.cons (.ret (.drop [1] (.bi true .tuple (.cons (.bin true .add (.v 1) (.lst true (.cons (.tup (.cons (.v 2) (.cons .non .nil))) .nil))) .nil)))) .nil))))
/-- later: one, other -/
def b_later : Ss := (.cons (.ite (.or (.cm .is (.v 0) .non) (.and (.cm .isnot (.v 1) .non) (.cm .gt (.v 1) (.v 0)))) (.cons (.ret (.v 1)) .nil) .nil) (.cons (.ret (.v 0)) .nil))
/-- sooner: one, other -/
def b_sooner : Ss := (.cons (.ite (.or (.cm .is (.v 0) .non) (.and (.cm .isnot (.v 1) .non) (.cm .lt (.v 1) (.v 0)))) (.cons (.ret (.v 1)) .nil) .nil) (.cons (.ret (.v 0)) .nil))
/-- spans_common: one, other, found, low, high, bottom, top, start, end -/
def b_spans_common : Ss := (.cons (.set 2 (.lst false .nil)) (.cons (.for_ [3, 4, 5, 6, 7, 8] (.tup (.cons (.v 3) (.cons (.v 4) .nil))) (.seq (.v 0)) (.cons (.for_ [5, 6, 7, 8] (.tup (.cons (.v 5) (.cons (.v 6) .nil))) (.seq (.v 1)) (.cons (.set 7 (.call "later" (.cons (.v 3) (.cons (.v 5) .nil)))) (.cons (.set 8 (.call "sooner" (.cons (.v 4) (.cons (.v 6) .nil)))) (.cons (.ite (.or (.cm .is (.v 7) .non) (.or (.cm .is (.v 8) .non) (.cm .le (.v 7) (.v 8)))) (.cons (.app (.v 2) (.tup (.cons (.v 7) (.cons (.v 8) .nil)))) .nil) .nil) .nil)))) .nil)) (.cons (.ret (.drop [2] (.bi true .tuple (.cons (.v 2) .nil)))) .nil)))
/-- words_common: one, other, word -/
def b_words_common : Ss := (.cons (.ite (.and (.val (.ix (.v 0) (.int 1))) (.val (.ix (.v 1) (.int 1)))) (.cons (.ret (.tup (.cons (.str ⟨#[119]⟩) (.cons (.bl true) (.cons (.bi true .tuple (.cons (.lc true (.v 2) (.seq (.ix (.v 0) (.int 2))) (.one (.cm .inn (.v 2) (.ix (.v 1) (.int 2)))) (.v 2)) .nil)) .nil))))) .nil) .nil) (.cons (.ite (.val (.ix (.v 0) (.int 1))) (.cons (.ret (.tup (.cons (.str ⟨#[119]⟩) (.cons (.bl true) (.cons (.bi true .tuple (.cons (.lc true (.v 2) (.seq (.ix (.v 0) (.int 2))) (.one (.cm .notin (.v 2) (.ix (.v 1) (.int 2)))) (.v 2)) .nil)) .nil))))) .nil) .nil) (.cons (.ite (.val (.ix (.v 1) (.int 1))) (.cons (.ret (.call "words_common" (.cons (.v 1) (.cons (.v 0) .nil)))) .nil) .nil) (.cons (.ret (.tup (.cons (.str ⟨#[119]⟩) (.cons (.bl false) (.cons (.bi true .tuple (.cons (.sset true (.bin true .add (.ix (.v 0) (.int 2)) (.ix (.v 1) (.int 2)))) .nil)) .nil))))) .nil))))
/-- beyond: told -/
def b_beyond : Ss := (.cons (.ite (.cm .eq (.ix (.v 0) (.int 0)) (.str ⟨#[110]⟩)) (.cons (.ret (.tup (.cons (.str ⟨#[110]⟩) (.cons (.call "spans_beyond" (.cons (.ix (.v 0) (.int 1)) .nil)) .nil)))) .nil) .nil) (.cons (.ret (.tup (.cons (.str ⟨#[119]⟩) (.cons (.not (.ix (.v 0) (.int 1))) (.cons (.ix (.v 0) (.int 2)) .nil))))) .nil))
/-- common: one, other -/
def b_common : Ss := (.cons (.ite (.cm .eq (.ix (.v 0) (.int 0)) (.str ⟨#[110]⟩)) (.cons (.ret (.tup (.cons (.str ⟨#[110]⟩) (.cons (.call "spans_common" (.cons (.ix (.v 0) (.int 1)) (.cons (.ix (.v 1) (.int 1)) .nil))) .nil)))) .nil) .nil) (.cons (.ret (.call "words_common" (.cons (.v 0) (.cons (.v 1) .nil)))) .nil))
/-- either: one, other -/
def b_either : Ss := (.cons (.ret (.call "beyond" (.cons (.call "common" (.cons (.call "beyond" (.cons (.v 0) .nil)) (.cons (.call "beyond" (.cons (.v 1) .nil)) .nil))) .nil))) .nil)
/-- less: one, other -/
def b_less : Ss := (.cons (.ret (.call "common" (.cons (.v 0) (.cons (.call "beyond" (.cons (.v 1) .nil)) .nil)))) .nil)
/-- is_none: told -/
def b_is_none : Ss := (.cons (.ite (.cm .eq (.ix (.v 0) (.int 0)) (.str ⟨#[110]⟩)) (.cons (.ret (.cmp .eq (.ix (.v 0) (.int 1)) (.tup .nil))) .nil) .nil) (.cons (.ret (.and (.ix (.v 0) (.int 1)) (.cmp .eq (.ix (.v 0) (.int 2)) (.tup .nil)))) .nil))
/-- lies_in: one, other -/
def b_lies_in : Ss := (.cons (.ret (.call "is_none" (.cons (.call "less" (.cons (.v 0) (.cons (.v 1) .nil))) .nil))) .nil)
/-- _law_cell_at: _law_script, _law_k -/
def b_l_cell_at : Ss := (.cons (.ite (.cm .lt (.v 1) (.bi true .len (.cons (.v 0) .nil))) (.cons (.ret (.ix (.v 0) (.v 1))) .nil) .nil) (.cons (.ret (.int 0)) .nil))
/-- _law_pot: _law_script, _law_k, _law_cell -/
def b_l_pot : Ss := (.cons (.set 2 (.call "_law_cell_at" (.cons (.v 0) (.cons (.v 1) .nil)))) (.cons (.ret (.pt (.lst false (.cons (.bi true .max (.cons (.int 0) (.cons (.bin true .sub (.v 2) (.bin true .pow (.int 10) (.int 18))) .nil))) (.cons (.bin true .add (.bin true .mod (.bin true .add (.bin true .add (.bi true .abs (.cons (.v 2) .nil)) (.bin true .mul (.int 7919) (.v 1))) (.int 3)) (.int 2147483629)) (.int 1)) .nil))))) .nil))
/-- _law_draw: _law_pot_here, _law_many, _law_digit -/
def b_l_draw : Ss := (.cons (.opn 0) (.cons (.ite (.cm .gt (.ix (.v 0) (.int 0)) (.int 0)) (.cons (.setIx2 (.v 0) (.int 0) 2 (.bi true .divmod (.cons (.ix (.v 0) (.int 0)) (.cons (.v 1) .nil)))) (.cons (.ret (.shut 0 (.v 2))) .nil)) .nil) (.cons (.setIx (.v 0) (.int 1) (.bin true .mod (.bin true .add (.bin true .mul (.ix (.v 0) (.int 1)) (.int 48271)) (.int 11)) (.int 2147483647))) (.cons (.ret (.shut 0 (.bin true .mod (.bin true .fdiv (.bin true .mod (.bin true .mul (.ix (.v 0) (.int 1)) (.ix (.v 0) (.int 1))) (.int 2147483629)) (.int 3)) (.v 1)))) .nil))))
/-- _law_number: _law_pot_here, _law_near, _law_far -/
def b_l_number : Ss := (.cons (.set 1 (.bin true .sub (.call "_law_draw" (.cons (.v 0) (.cons (.int 31) .nil))) (.int 15))) (.cons (.ite (.cm .gt (.call "_law_draw" (.cons (.v 0) (.cons (.int 4) .nil))) (.int 0)) (.cons (.ret (.v 1)) .nil) .nil) (.cons (.set 2 (.lst true (.cons (.bin true .add (.bin true .sub (.call "_law_draw" (.cons (.v 0) (.cons (.bin true .sub (.bin true .mul (.int 2) (.bin true .pow (.int 10) (.int 60))) (.int 1)) .nil))) (.bin true .pow (.int 10) (.int 60))) (.int 1)) (.cons (.bin true .sub (.bin true .pow (.int 10) (.int 60)) (.int 1)) (.cons (.bin true .sub (.int 1) (.bin true .pow (.int 10) (.int 60))) .nil))))) (.cons (.ret (.ix (.v 2) (.bin true .add (.bin true .fdiv (.call "_law_draw" (.cons (.v 0) (.cons (.int 4) .nil))) (.int 2)) (.bin true .mod (.v 1) (.int 2))))) .nil))))
/-- _law_word: _law_pot_here, _law_letters, _law_some, _law_k -/
def b_l_word : Ss := (.cons (.set 1 (.str ⟨#[97, 98, 99, 100, 101, 102, 103, 104, 105, 106, 107, 108, 109, 110, 111, 112, 113, 114, 115, 116, 117, 118, 119, 120, 121, 122]⟩)) (.cons (.set 2 (.ix (.lst true (.cons (.int 3) (.cons (.int 26) .nil))) (.call "_law_draw" (.cons (.v 0) (.cons (.int 2) .nil))))) (.cons (.ret (.mt true .join (.str ⟨#[]⟩) (.lc true (.v 3) (.range1 (.bin true .add (.int 1) (.bin true .mul (.call "_law_draw" (.cons (.v 0) (.cons (.int 2) .nil))) (.call "_law_draw" (.cons (.v 0) (.cons (.int 8) .nil)))))) .nil (.ix (.v 1) (.call "_law_draw" (.cons (.v 0) (.cons (.v 2) .nil))))))) .nil)))
/-- _law_beside: _law_pot_here, _law_near, _law_number_here -/
def b_l_beside : Ss := (.cons (.set 2 (.bin true .sub (.bin true .add (.ix (.v 1) (.call "_law_draw" (.cons (.v 0) (.cons (.bi true .len (.cons (.v 1) .nil)) .nil)))) (.call "_law_draw" (.cons (.v 0) (.cons (.int 5) .nil)))) (.int 2))) (.cons (.ret (.bi true .max (.cons (.bin true .sub (.int 1) (.bin true .pow (.int 10) (.int 60))) (.cons (.bi true .min (.cons (.bin true .sub (.bin true .pow (.int 10) (.int 60)) (.int 1)) (.cons (.v 2) .nil))) .nil)))) .nil))
/-- _law_spans: _law_pot_here, _law_near, _law_some, _law_k, _law_spans_here, _law_low -/
def b_l_spans : Ss := (.cons (.set 2 (.lst false .nil)) (.cons (.for_ [3] (.v 3) (.range1 (.ix (.lst true (.cons (.call "_law_draw" (.cons (.v 0) (.cons (.int 6) .nil))) (.cons (.call "_law_draw" (.cons (.v 0) (.cons (.int 41) .nil))) .nil))) (.bi true .int (.cons (.cmp .eq (.call "_law_draw" (.cons (.v 0) (.cons (.int 8) .nil))) (.int 7)) .nil)))) (.cons (.ite (.and (.cm .ne (.v 1) (.lst true .nil)) (.cm .eq (.call "_law_draw" (.cons (.v 0) (.cons (.int 2) .nil))) (.int 0))) (.cons (.app (.v 2) (.call "_law_beside" (.cons (.v 0) (.cons (.v 1) .nil)))) .nil) (.cons (.app (.v 2) (.call "_law_number" (.cons (.v 0) .nil))) .nil)) .nil)) (.cons (.set 4 (.lst false .nil)) (.cons (.for_ [5] (.v 5) (.seq (.sset true (.v 2))) (.cons (.ite (.and (.cm .ne (.v 4) (.lst true .nil)) (.or (.cm .eq (.call "_law_draw" (.cons (.v 0) (.cons (.int 3) .nil))) (.int 0)) (.cm .lt (.v 5) (.bin true .add (.ix (.ix (.v 4) (.neg (.int 1))) (.int 1)) (.int 2))))) (.cons (.setIx (.v 4) (.neg (.int 1)) (.tup (.cons (.ix (.ix (.v 4) (.neg (.int 1))) (.int 0)) (.cons (.v 5) .nil)))) .nil) (.cons (.app (.v 4) (.tup (.cons (.v 5) (.cons (.v 5) .nil)))) .nil)) .nil)) (.cons (.ite (.and (.cm .ne (.v 4) (.lst true .nil)) (.cm .eq (.call "_law_draw" (.cons (.v 0) (.cons (.int 4) .nil))) (.int 0))) (.cons (.setIx (.v 4) (.int 0) (.tup (.cons .non (.cons (.ix (.ix (.v 4) (.int 0)) (.int 1)) .nil)))) .nil) .nil) (.cons (.ite (.and (.cm .ne (.v 4) (.lst true .nil)) (.cm .eq (.call "_law_draw" (.cons (.v 0) (.cons (.int 4) .nil))) (.int 0))) (.cons (.setIx (.v 4) (.neg (.int 1)) (.tup (.cons (.ix (.ix (.v 4) (.neg (.int 1))) (.int 0)) (.cons .non .nil)))) .nil) .nil) (.cons (.ret (.drop [2, 4] (.tup (.cons (.str ⟨#[110]⟩) (.cons (.bi true .tuple (.cons (.v 4) .nil)) .nil))))) .nil)))))))
/-- _law_words: _law_pot_here, _law_near, _law_some, _law_k -/
def b_l_words : Ss := (.cons (.set 2 (.lst false .nil)) (.cons (.for_ [3] (.v 3) (.range1 (.ix (.lst true (.cons (.call "_law_draw" (.cons (.v 0) (.cons (.int 5) .nil))) (.cons (.call "_law_draw" (.cons (.v 0) (.cons (.int 41) .nil))) .nil))) (.bi true .int (.cons (.cmp .eq (.call "_law_draw" (.cons (.v 0) (.cons (.int 8) .nil))) (.int 7)) .nil)))) (.cons (.ite (.and (.cm .ne (.v 1) (.lst true .nil)) (.cm .eq (.call "_law_draw" (.cons (.v 0) (.cons (.int 2) .nil))) (.int 0))) (.cons (.app (.v 2) (.ix (.v 1) (.call "_law_draw" (.cons (.v 0) (.cons (.bi true .len (.cons (.v 1) .nil)) .nil))))) .nil) (.cons (.app (.v 2) (.call "_law_word" (.cons (.v 0) .nil))) .nil)) .nil)) (.cons (.ret (.drop [2] (.tup (.cons (.str ⟨#[119]⟩) (.cons (.cmp .eq (.call "_law_draw" (.cons (.v 0) (.cons (.int 2) .nil))) (.int 0)) (.cons (.bi true .tuple (.cons (.sset true (.v 2)) .nil)) .nil)))))) .nil)))
/-- _law_ends: _law_tale, _law_found, _law_span, _law_end -/
def b_l_ends : Ss := (.cons (.set 1 (.lst true .nil)) (.cons (.for_ [2, 3] (.v 2) (.seq (.ix (.v 0) (.int 1))) (.cons (.set 1 (.bin true .add (.v 1) (.lc true (.v 3) (.seq (.v 2)) (.one (.cm .isnot (.v 3) .non)) (.v 3)))) .nil)) (.cons (.ret (.v 1)) .nil)))
/-- _law_two: _law_script, _law_k, _law_pot_here, _law_way, _law_one -/
def b_l_two : Ss := (.cons (.set 2 (.call "_law_pot" (.cons (.v 0) (.cons (.v 1) .nil)))) (.cons (.set 3 (.call "_law_draw" (.cons (.v 2) (.cons (.int 4) .nil)))) (.cons (.ite (.cm .eq (.bin true .fdiv (.v 3) (.int 2)) (.int 0)) (.cons (.set 4 (.call "_law_spans" (.cons (.v 2) (.cons (.lst true .nil) .nil)))) (.cons (.ret (.tup (.cons (.v 4) (.cons (.call "_law_spans" (.cons (.v 2) (.cons (.ix (.lst true (.cons (.lst true .nil) (.cons (.call "_law_ends" (.cons (.v 4) .nil)) .nil))) (.bin true .mod (.v 3) (.int 2))) .nil))) .nil)))) .nil)) .nil) (.cons (.set 4 (.call "_law_words" (.cons (.v 2) (.cons (.lst true .nil) .nil)))) (.cons (.ret (.tup (.cons (.v 4) (.cons (.call "_law_words" (.cons (.v 2) (.cons (.ix (.lst true (.cons (.lst true .nil) (.cons (.bi true .list (.cons (.ix (.v 4) (.int 2)) .nil)) .nil))) (.bin true .mod (.v 3) (.int 2))) .nil))) .nil)))) .nil)))))
/-- _law_in: _law_tale, _law_number_here, _law_low, _law_high -/
def b_l_in : Ss := (.cons (.for_ [2, 3] (.tup (.cons (.v 2) (.cons (.v 3) .nil))) (.seq (.ix (.v 0) (.int 1))) (.cons (.ite (.and (.or (.cm .is (.v 2) .non) (.cm .le (.v 2) (.v 1))) (.or (.cm .is (.v 3) .non) (.cm .le (.v 1) (.v 3)))) (.cons (.ret (.bl true)) .nil) .nil) .nil)) (.cons (.ret (.bl false)) .nil))
/-- _law_truth: _law_way, _law_here, _law_there -/
def b_l_truth : Ss := (.cons (.ret (.ix (.lst true (.cons (.and (.v 1) (.v 2)) (.cons (.or (.v 1) (.v 2)) (.cons (.and (.v 1) (.not (.v 2))) .nil)))) (.v 0))) .nil)
/-- _law_borders: _law_one, _law_other, _law_found, _law_low, _law_high -/
def b_l_borders : Ss := (.cons (.set 2 (.lst false .nil)) (.cons (.for_ [3, 4] (.tup (.cons (.v 3) (.cons (.v 4) .nil))) (.seq (.bin true .add (.ix (.v 0) (.int 1)) (.ix (.v 1) (.int 1)))) (.cons (.ite (.cm .isnot (.v 3) .non) (.cons (.app (.v 2) (.v 3)) .nil) .nil) (.cons (.ite (.cm .isnot (.v 4) .non) (.cons (.app (.v 2) (.bin true .add (.v 4) (.int 1))) .nil) .nil) .nil))) (.cons (.ret (.drop [2] (.sset true (.v 2)))) .nil)))
/-- _law_numbers_due: _law_way, _law_one, _law_other, _law_borders_here, _law_spans_here, _law_k, _law_low, _law_high, _law_probe -/
def b_l_numbers_due : Ss := (.cons (.set 3 (.call "_law_borders" (.cons (.v 1) (.cons (.v 2) .nil)))) (.cons (.set 4 (.lst false .nil)) (.cons (.for_ [5, 6, 7, 8] (.v 5) (.range1 (.bin true .add (.bi true .len (.cons (.v 3) .nil)) (.int 1))) (.cons (.set 6 (.ix (.bin true .add (.lst true (.cons .non .nil)) (.v 3)) (.v 5))) (.cons (.set 7 (.ite (.cm .eq (.v 5) (.bi true .len (.cons (.v 3) .nil))) .non (.bin true .sub (.ix (.v 3) (.v 5)) (.int 1)))) (.cons (.set 8 (.ix (.lst true (.cons (.ite (.cm .is (.v 7) .non) (.int 0) (.v 7)) (.cons (.v 6) .nil))) (.bi true .int (.cons (.cmp .isnot (.v 6) .non) .nil)))) (.cons (.ite (.val (.call "_law_truth" (.cons (.v 0) (.cons (.call "_law_in" (.cons (.v 1) (.cons (.v 8) .nil))) (.cons (.call "_law_in" (.cons (.v 2) (.cons (.v 8) .nil))) .nil))))) (.cons (.ite (.and (.cm .ne (.v 4) (.lst true .nil)) (.and (.cm .gt (.v 5) (.int 0)) (.cm .eq (.ix (.ix (.v 4) (.neg (.int 1))) (.int 1)) (.bin true .sub (.v 6) (.int 1))))) (.cons (.setIx (.v 4) (.neg (.int 1)) (.tup (.cons (.ix (.ix (.v 4) (.neg (.int 1))) (.int 0)) (.cons (.v 7) .nil)))) .nil) (.cons (.app (.v 4) (.tup (.cons (.v 6) (.cons (.v 7) .nil)))) .nil)) .nil) .nil) .nil))))) (.cons (.ret (.drop [4] (.tup (.cons (.str ⟨#[110]⟩) (.cons (.bi true .tuple (.cons (.v 4) .nil)) .nil))))) .nil))))
/-- _law_words_due: _law_way, _law_one, _law_other, _law_rest, _law_found, _law_word_here -/
def b_l_words_due : Ss := (.cons (.set 3 (.call "_law_truth" (.cons (.v 0) (.cons (.not (.ix (.v 1) (.int 1))) (.cons (.not (.ix (.v 2) (.int 1))) .nil))))) (.cons (.set 4 (.lst false .nil)) (.cons (.for_ [5] (.v 5) (.seq (.sset true (.bin true .add (.ix (.v 1) (.int 2)) (.ix (.v 2) (.int 2))))) (.cons (.ite (.cm .ne (.call "_law_truth" (.cons (.v 0) (.cons (.cmp .eq (.cmp .inn (.v 5) (.ix (.v 1) (.int 2))) (.ix (.v 1) (.int 1))) (.cons (.cmp .eq (.cmp .inn (.v 5) (.ix (.v 2) (.int 2))) (.ix (.v 2) (.int 1))) .nil)))) (.v 3)) (.cons (.app (.v 4) (.v 5)) .nil) .nil) .nil)) (.cons (.ret (.drop [4] (.tup (.cons (.str ⟨#[119]⟩) (.cons (.not (.v 3)) (.cons (.bi true .tuple (.cons (.v 4) .nil)) .nil)))))) .nil))))
/-- _law_due: _law_way, _law_one, _law_other -/
def b_l_due : Ss := (.cons (.ite (.cm .eq (.ix (.v 1) (.int 0)) (.str ⟨#[110]⟩)) (.cons (.ret (.call "_law_numbers_due" (.cons (.v 0) (.cons (.v 1) (.cons (.v 2) .nil))))) .nil) .nil) (.cons (.ret (.call "_law_words_due" (.cons (.v 0) (.cons (.v 1) (.cons (.v 2) .nil))))) .nil))
/-- _law_right: _law_one, _law_other, _law_rest, _law_found -/
def b_l_right : Ss := (.cons (.ite (.or (.cm .ne (.call "common" (.cons (.v 0) (.cons (.v 1) .nil))) (.call "_law_due" (.cons (.int 0) (.cons (.v 0) (.cons (.v 1) .nil))))) (.cm .ne (.call "either" (.cons (.v 0) (.cons (.v 1) .nil))) (.call "_law_due" (.cons (.int 1) (.cons (.v 0) (.cons (.v 1) .nil)))))) (.cons (.ret (.bl false)) .nil) .nil) (.cons (.set 2 (.call "_law_due" (.cons (.int 2) (.cons (.v 0) (.cons (.v 1) .nil))))) (.cons (.ite (.cm .ne (.call "less" (.cons (.v 0) (.cons (.v 1) .nil))) (.v 2)) (.cons (.ret (.bl false)) .nil) .nil) (.cons (.set 3 (.call "lies_in" (.cons (.v 0) (.cons (.v 1) .nil)))) (.cons (.ret (.and (.isi (.v 3) .bool) (.cmp .eq (.v 3) (.cmp .inn (.v 2) (.lst true (.cons (.tup (.cons (.str ⟨#[110]⟩) (.cons (.tup .nil) .nil))) (.cons (.tup (.cons (.str ⟨#[119]⟩) (.cons (.bl true) (.cons (.tup .nil) .nil)))) .nil))))))) .nil)))))
/-- law: _law_script, _law_k, _law_one, _law_other -/
def b_law : Ss := (.cons (.for_ [1, 2, 3] (.v 1) (.range1 (.bin true .add (.int 2) (.bi true .min (.cons (.int 10) (.cons (.bi true .len (.cons (.v 0) .nil)) .nil))))) (.cons (.asg (.tup (.cons (.v 2) (.cons (.v 3) .nil))) (.call "_law_two" (.cons (.v 0) (.cons (.v 1) .nil)))) (.cons (.ite (.or (.not (.val (.call "_law_right" (.cons (.v 2) (.cons (.v 3) .nil))))) (.or (.not (.val (.call "_law_right" (.cons (.v 3) (.cons (.v 2) .nil))))) (.not (.val (.call "_law_right" (.cons (.v 2) (.cons (.v 2) .nil))))))) (.cons (.ret (.bl false)) .nil) .nil) (.cons (.ite (.not (.val (.call "_law_right" (.cons (.v 2) (.cons (.v 3) .nil))))) (.cons (.ret (.bl false)) .nil) .nil) .nil)))) (.cons (.ret (.bl true)) .nil))
end DL
namespace DL
open PySem PySem.Spec PyProof.Rows L2
open SM (Span OI mem Can Cn byd cmn)
local macro_rules | `(tactic| walk_at "w") => `(tactic| simp only [↓w_v, ↓g_z, ↓g_s, ↓w_g, ↓w_non, ↓w_bl, ↓w_int, ↓w_str, ↓w_bin, ↓w_neg, ↓w_cmp, ↓w_chain, ↓w_and, ↓w_or, ↓w_not, ↓w_ite, ↓w_tup, ↓w_lst, ↓w_ix, ↓w_sl, ↓w_lc, ↓w_call, ↓w_bi, ↓w_isi, ↓w_mt, ↓w_fz, ↓w_sset, ↓w_nset, ↓w_pt, ↓w_shut, ↓w_drop, ↓w_nil, ↓w_cons, ↓w_no, ↓w_one,
  ↓t_val, ↓t_cm, ↓t_and, ↓t_or, ↓t_not, ↓t_nil, ↓t_one, ↓i_seq, ↓i_range1, ↓i_range2, ↓i_enum, ↓i_zip, ↓i_rev, ↓s_nil, ↓s_one, ↓s_cons, ↓s_set, ↓s_asg, ↓s_par, ↓s_setIx, ↓s_setIx2, ↓tup2_ok, ↓s_aug, ↓s_expr, ↓s_app, ↓s_pop, ↓s_ext, ↓s_clear, ↓s_ret, ↓s_retN, ↓s_ite, ↓s_for, ↓s_while, ↓s_pass, ↓s_brk, ↓s_cont, ↓s_opn, ↓s_drp,
  ↓tg_v, ↓tg_tup, ↓tg_nil, ↓tg_cons, ↓wr_nil, ↓wr_cons, sl_v, sl_tup, sl_nil, sl_cons, ↓wk_nx, ↓wk_ct, ↓wk_bk, ↓wk_rt, ls_z, ls_s,
  ↓d_addi, ↓d_adds, ↓d_addt, ↓d_addl, ↓d_addr, ↓d_sub, ↓d_mul, ↓d_fdiv, ↓d_mod, ↓d_pow, ↓n_t, ↓n_f, sl_lst, sl_lk, sp_lst, sa_lst, sa_lk, sa_tup, sl_ref, sp_ref, sa_ref, ↓c_eqi, ↓c_eqs, ↓c_nei, ↓c_nes, ↓c_lt, ↓c_le, ↓c_gt, ↓c_ge, ↓c_is, ↓c_isnot, n_non, n_int, n_str, n_bl, n_tup, n_lst, n_ref, ↓u_bl, ↓u_int, ↓u_non, ↓u_tup, ↓u_lst,
  ↓x_t, ↓x_l, ↓x_lk, ↓x_r, ↓x_s, a_0, a_1, a_2, a_3, a_m1, last_in, ixN_last, set_len, ixN_m1, ↓z_r, ↓ik, ↓pk, ↓l_s, ↓l_t, ↓l_l, ↓l_lk, ↓l_r, ↓b_tuple, ↓b_listt, ↓b_listl, ↓b_listk, ↓b_listr, ↓b_lists, ↓b_inti, ↓b_intb, ↓b_abs, ↓b_max, ↓b_min, ↓b_divmod, ↓b_str, ↓b_strs, ↓b_any, ↓b_all, ↓b_sum, ↓q_t, ↓q_l, ↓q_lk, ↓q_s, ↓q_r, ↓r_1, ↓r_2, ↓m_join, ↓m_split, ↓st_is, ↓ch_r, ↓set_r, ↓dr_nil, ↓dr_cons, md_s, md_n, ra_s, ra_r, ra_n, mset_mset,
  optD_some, optD_none, Bool.not_true, Bool.not_false, if_true, if_false, Bool.false_eq_true, List.cons_append, List.nil_append, List.length_cons, List.length_nil, Nat.reduceAdd, Nat.reduceLeDiff, true_and, and_true, and_self, decide_true, decide_false, Option.some.injEq, exists_eq', exists_eq, exists_eq_left, exists_eq_left', reduceIte, List.replicate, Nat.reduceSub, List.map_cons, List.map_nil, potAt_new, Int.reduceToNat, Int.reducePow, Int.reduceLT, Int.reduceLE, Int.reduceNeg, Int.reduceAdd, Int.reduceSub, Int.reduceMul, Int.reduceEq, Nat.reducePow, Nat.reduceLT, Nat.reduceMul, or_true, true_or, false_or, or_false, and_false, false_and, e_wn, ixN_0, ixN_1, ↓sh_new, List.set_cons_zero, List.set_cons_succ, eq_self, decide_true])

/-! ### the program's defs over sets -/
abbrev Ends0 (Q : DK) : DEnds := { nx := fun _ μ => Q .non μ, rt := Q }
section
variable {G : Gc} {μ : Mem} {Q : DK} {X : EK}
def S_later : FSpec := fun ds μ Q _ => ∃ a b, ds = [eOI a, eOI b] ∧ Q (eOI (SM.later a b)) μ
def S_sooner : FSpec := fun ds μ Q _ => ∃ a b, ds = [eOI a, eOI b] ∧ Q (eOI (SM.sooner a b)) μ
theorem isNon_eOI (a : OI) : (eOI a).isNon = a.isNone := by cases a <;> rfl
theorem wp_later {a b : OI} (h : Q (eOI (SM.later a b)) μ) : wpSs G b_later [some (eOI a), some (eOI b)] μ (Ends0 Q) X := by
  unfold b_later
  cases a <;> cases b <;> simp only [eOI, SM.later] at h ⊢
  · walk_at "w"
    exact h
  · walk_at "w"
    exact h
  · walk_at "w"
    exact h
  · walk_at "w"
    split <;> rename_i c <;> simp at c
    · rw [if_pos c] at h; exact h
    · rw [if_neg (by omega)] at h; exact h
theorem wp_sooner {a b : OI} (h : Q (eOI (SM.sooner a b)) μ) : wpSs G b_sooner [some (eOI a), some (eOI b)] μ (Ends0 Q) X := by
  unfold b_sooner
  cases a <;> cases b <;> simp only [eOI, SM.sooner] at h ⊢
  · walk_at "w"
    exact h
  · walk_at "w"
    exact h
  · walk_at "w"
    exact h
  · walk_at "w"
    split <;> rename_i c <;> simp at c
    · rw [if_pos c] at h; exact h
    · rw [if_neg (by omega)] at h; exact h
def S_spans_beyond : FSpec := fun ds μ Q _ => ∃ l : List Span, ds = [eSpans l] ∧ l.length ≤ 1000000 ∧ Q (eSpans (byd none l)) μ
theorem wp_spans_beyond {l : List Span} (hl : l.length ≤ 1000000) (h : Q (eSpans (byd none l)) μ) : wpSs G b_spans_beyond [some (eSpans l), none, none, none, none] μ (Ends0 Q) X := by
  unfold b_spans_beyond
  simp only [eSpans]
  walk_at "w"
  intro p hp
  refine LP_ty l eSpan (fun s : List Span × OI => [some (D.tup (List.map eSpan l)), some (D.ref p), some (eOI s.2), none, none]) (fun s => mset μ p (MO.lst (s.1.map eSpan)))
    (fun done s => ∃ rest, l = done ++ rest ∧ byd none l = s.1 ++ byd s.2 rest ∧ s.1.length ≤ done.length) ([], none) rfl rfl ⟨l, rfl, rfl, Nat.le_refl _⟩ ?_ ?_
  · rintro done ⟨lo, hi⟩ rest ⟨f, st⟩ e ⟨rest', e1, e2, e3⟩
    obtain rfl : rest' = (lo, hi) :: rest := List.append_cancel_left (e1.symm.trans e)
    refine ⟨trivial, fun N hN => ?_⟩
    simp only at e2 e3 ⊢
    have hd : done.length < 1000000 := by rw [e1, List.length_append, List.length_cons] at hl; omega
    cases lo with
    | none =>
      cases hi with
      | none =>
        simp only [eSpan, eOI]
        walk_at "w"
        rw [mdel_mset hp]
        rw [e2] at h
        simpa [byd, eSpans] using h
      | some b =>
        simp only [eSpan, eOI]
        walk_at "w"
        exact hN (f, some (b + 1)) ⟨rest, by rw [e1]; simp, by rw [e2]; simp [byd], by simp; omega⟩
    | some a =>
      cases hi with
      | none =>
        simp only [eSpan, eOI]
        walk_at "w"
        refine ⟨by simp; omega, ?_⟩
        rw [mdel_mset hp]
        rw [e2] at h
        simpa [byd, eSpans, eSpan, eOI] using h
      | some b =>
        simp only [eSpan, eOI]
        walk_at "w"
        refine ⟨by simp; omega, ?_⟩
        have q := hN (f ++ [(st, some (a - 1))], some (b + 1)) ⟨rest, by rw [e1]; simp, by rw [e2]; simp [byd], by simp; omega⟩
        simpa [eSpan, eOI] using q
  · rintro ⟨f, st⟩ ⟨rest, e1, e2, e3⟩
    obtain rfl : rest = [] := List.append_cancel_left (e1.symm.trans (List.append_nil _).symm)
    refine ⟨trivial, ?_⟩
    walk_at "w"
    simp only at e2 e3
    refine ⟨by simp; omega, ?_⟩
    rw [mdel_mset hp]
    rw [e2] at h
    simpa [byd, eSpans, eSpan, eOI] using h
def S_spans_common : FSpec := fun ds μ Q _ => ∃ l m : List Span, ds = [eSpans l, eSpans m] ∧ l.length ≤ 2000 ∧ m.length ≤ 2000 ∧ Q (eSpans (cmn l m)) μ
theorem wp_spans_common (h1 : G.fn "later" = S_later) (h2 : G.fn "sooner" = S_sooner) {l m : List Span} (hl : l.length ≤ 2000) (hm : m.length ≤ 2000) (h : Q (eSpans (cmn l m)) μ) :
    wpSs G b_spans_common [some (eSpans l), some (eSpans m), none, none, none, none, none, none, none] μ (Ends0 Q) X := by
  unfold b_spans_common
  simp only [eSpans]
  walk_at "w"
  intro p hp
  refine LP_ty l eSpan (fun s : List Span => [some (D.tup (List.map eSpan l)), some (D.tup (List.map eSpan m)), some (D.ref p), none, none, none, none, none, none]) (fun s => mset μ p (MO.lst (s.map eSpan)))
    (fun done s => s = cmn done m) [] rfl rfl rfl ?_ ?_
  · rintro done s rest _ e rfl
    refine ⟨trivial, fun N hN => ?_⟩
    simp only [eSpan]
    walk_at "w"
    have hd : done.length < 2000 := by rw [e, List.length_append, List.length_cons] at hl; omega
    have len1 : (cmn done m).length ≤ 4000000 := Nat.le_trans (SM.cmn_len done m) (Nat.mul_le_mul (by omega : done.length ≤ 2000) hm)
    refine LP_ty m eSpan (fun f : List Span => [some (D.tup (List.map eSpan l)), some (D.tup (List.map eSpan m)), some (D.ref p), some (eOI s.1), some (eOI s.2), none, none, none, none]) (fun f => mset μ p (MO.lst (f.map eSpan)))
      (fun dm f => f = cmn done m ++ SM.row s dm) (cmn done m) rfl rfl (by simp [SM.row]) ?_ ?_
    · rintro dm t rm _ e2 rfl
      refine ⟨trivial, fun N2 hN2 => ?_⟩
      simp only [eSpan]
      walk_at "w"
      simp only [h1]
      refine ⟨s.1, t.1, rfl, ?_⟩
      walk_at "w"
      simp only [h2]
      refine ⟨s.2, t.2, rfl, ?_⟩
      have hdm : dm.length < 2000 := by rw [e2, List.length_append, List.length_cons] at hm; omega
      have len2 := SM.row_len s dm
      have row1 : SM.row s (dm ++ [t]) = SM.row s dm ++ (SM.isect s t).toList := by
        unfold SM.row
        simp only [List.filterMap_append, List.filterMap_cons, List.filterMap_nil]
        cases SM.isect s t <;> rfl
      have fin : ∀ f', f' = cmn done m ++ SM.row s (dm ++ [t]) → N2 [some (D.tup (List.map eSpan l)), some (D.tup (List.map eSpan m)), some (D.ref p), some (eOI s.1), some (eOI s.2), none, none, none, none] (mset μ p (MO.lst (f'.map eSpan))) := fun f' e => hN2 f' e
      have add : SM.isect s t = some (SM.later s.1 t.1, SM.sooner s.2 t.2) → N2 [some (D.tup (List.map eSpan l)), some (D.tup (List.map eSpan m)), some (D.ref p), some (eOI s.1), some (eOI s.2), none, none, none, none] (mset μ p (MO.lst ((cmn done m ++ SM.row s dm).map eSpan ++ [D.tup [eOI (SM.later s.1 t.1), eOI (SM.sooner s.2 t.2)]]))) := fun e => by
        have q := fin _ rfl
        rw [row1, e] at q
        simpa [eSpan] using q
      have non : SM.isect s t = none → N2 [some (D.tup (List.map eSpan l)), some (D.tup (List.map eSpan m)), some (D.ref p), some (eOI s.1), some (eOI s.2), none, none, none, none] (mset μ p (MO.lst ((cmn done m ++ SM.row s dm).map eSpan))) := fun e => by
        have q := fin _ rfl
        rw [row1, e] at q
        simpa using q
      have small : (List.map eSpan (cmn done m ++ SM.row s dm)).length < 16777216 := by
        rw [List.length_map, List.length_append]
        omega
      unfold SM.isect at add non
      cases ea : SM.later s.1 t.1 with
      | none =>
        rw [ea] at add
        simp only [eOI] at add ⊢
        walk_at "w"
        exact ⟨small, add (by simp [SM.okS])⟩
      | some a =>
        cases eb : SM.sooner s.2 t.2 with
        | none =>
          rw [ea, eb] at add
          simp only [eOI] at add ⊢
          walk_at "w"
          exact ⟨small, add (by simp [SM.okS])⟩
        | some b =>
          rw [ea, eb] at add non
          simp only [eOI] at add ⊢
          walk_at "w"
          split <;> rename_i c
          · exact ⟨small, add (if_pos c)⟩
          · exact non (if_neg c)
    · rintro f rfl
      refine ⟨trivial, ?_⟩
      walk_at "w"
      exact hN (cmn (done ++ [s]) m) rfl |> fun q => by simpa [cmn] using q
  · rintro _ rfl
    refine ⟨trivial, ?_⟩
    walk_at "w"
    rw [mdel_mset hp]
    exact h
/-! ### words -/
theorem inD_words {x : Str} {l : List Str} {q : Bool → Prop} (h : q (decide (x ∈ l))) : cmpD .inn (.str x) (eStrs l) μ q := by
  have e : ((l.map D.str).any fun e => e.eqv (.str x)) = decide (x ∈ l) := by
    rw [Bool.eq_iff_iff]
    simp only [List.any_eq_true, List.mem_map, decide_eq_true_eq]
    constructor
    · rintro ⟨_, ⟨y, hy, rfl⟩, h2⟩
      have : y = x := by simpa [eqv_nrm, D.nrm] using h2
      rw [← this]; exact hy
    · intro hx
      exact ⟨.str x, ⟨x, hx, rfl⟩, by rw [eqv_nrm]⟩
  show (D.flat (.str x) = true ∧ (l.map D.str).all D.flat = true ∧ q _)
  rw [e]
  exact ⟨rfl, by rw [List.all_map]; exact List.all_eq_true.mpr fun _ _ => rfl, h⟩
theorem notinD_words {x : Str} {l : List Str} {q : Bool → Prop} (h : q (!decide (x ∈ l))) : cmpD .notin (.str x) (eStrs l) μ q := inD_words (q := fun b => q (!b)) h
theorem asInts_map (l : List Int) : asInts (l.map D.int) = some l := by
  induction l with
  | nil => rfl
  | cons a l ih => show (asInts (l.map D.int)).map _ = _; rw [ih]; rfl
theorem asStrs_map (l : List Str) : asStrs (l.map D.str) = some l := by
  induction l with
  | nil => rfl
  | cons a l ih => show (asStrs (l.map D.str)).map _ = _; rw [ih]; rfl
theorem asBls_map (l : List Bool) : asBls (l.map D.bl) = some l := by
  induction l with
  | nil => rfl
  | cons a l ih => show (asBls (l.map D.bl)).map _ = _; rw [ih]; rfl
theorem sset_ints {z : Bool} {x : D} {l : List Int} (hx : seqA μ x = some (l.map D.int)) (hl : l.length ≤ 1000) (h : ∀ ms : List Int, ms.Pairwise (· < ·) → (∀ k, k ∈ ms ↔ k ∈ l) → newL z (ms.map D.int) μ Q) : ssetD z x μ Q := by
  unfold ssetD
  rw [hx]
  exact ⟨by rw [List.length_map]; exact hl, .inl ⟨l, asInts_map l, h⟩⟩
theorem sset_strs {z : Bool} {x : D} {l : List Str} (hx : seqA μ x = some (l.map D.str)) (hl : l.length ≤ 1000) (h : ∀ ms : List Str, Srt ms → (∀ k, k ∈ ms ↔ k ∈ l) → newL z (ms.map D.str) μ Q) : ssetD z x μ Q := by
  unfold ssetD
  rw [hx]
  exact ⟨by rw [List.length_map]; exact hl, .inr ⟨l, asStrs_map l, h⟩⟩
theorem filter_str {l : List Str} {p : Str → Bool} : ((l.filterMap fun a => if p a = true then some (D.str a) else none)) = (l.filter p).map D.str := by
  induction l with
  | nil => rfl
  | cons a l ih =>
    rw [List.filterMap_cons, List.filter_cons]
    cases p a
    · simpa using ih
    · simpa using ih
/-- the sets of words that words_common may be asked for at a level -/
def S_words_common : FSpec := fun ds μ Q _ => ∃ (b c : Bool) (l m : List Str), ds = [eSet (.w b l), eSet (.w c m)] ∧ l.length ≤ 400 ∧ m.length ≤ 400 ∧ ∀ r, IsCommon (.w b l) (.w c m) r → Q (eSet r) μ
theorem wp_words_common {b c : Bool} (hr : b = false → c = true → ∀ l m : List Str, l.length ≤ 400 → m.length ≤ 400 → ∀ μ Q, (∀ r, IsCommon (.w true l) (.w false m) r → Q (eSet r) μ) → G.fn "words_common" [eSet (.w true l), eSet (.w false m)] μ Q X) {l m : List Str} (hl : l.length ≤ 400) (hm : m.length ≤ 400) (h : ∀ r, IsCommon (.w b l) (.w c m) r → Q (eSet r) μ) :
    wpSs G b_words_common [some (eSet (.w b l)), some (eSet (.w c m)), none] μ (Ends0 Q) X := by
  unfold b_words_common
  cases b with
  | true =>
    cases c with
    | true =>
      simp only [eSet]
      walk_at "w"
      simp only [eStrs]
      walk_at "w"
      refine LC_fn l D.str (fun a => if decide (a ∈ m) = true then some (D.str a) else none) (by omega) trivial (fun a ha R hR => ?_) ?_
      · refine inD_words ?_
        split <;> rename_i e
        · rw [if_pos e] at hR; exact hR
        · rw [if_neg e] at hR; exact hR
      · rw [filter_str]
        exact h _ rfl
    | false =>
      simp only [eSet]
      walk_at "w"
      simp only [eStrs]
      walk_at "w"
      refine LC_fn l D.str (fun a => if (!decide (a ∈ m)) = true then some (D.str a) else none) (by omega) trivial (fun a ha R hR => ?_) ?_
      · refine notinD_words ?_
        split <;> rename_i e
        · rw [if_pos e] at hR; exact hR
        · rw [if_neg e] at hR; exact hR
      · rw [filter_str]
        exact h _ rfl
  | false =>
    cases c with
    | true =>
      simp only [eSet]
      walk_at "w"
      exact hr rfl rfl m l hm hl μ Q fun r hr => h r hr
    | false =>
      simp only [eSet]
      walk_at "w"
      simp only [eStrs]
      walk_at "w"
      refine ⟨by simp only [List.length_map]; omega, ?_⟩
      rw [← List.map_append]
      refine sset_strs rfl (by rw [List.length_append]; omega) fun ms h1 h2 => ?_
      walk_at "w"
      exact h _ ⟨ms, ⟨h1, h2⟩, rfl⟩
def S_beyond : FSpec := fun ds μ Q _ => ∃ a : SetV, ds = [eSet a] ∧ a.size ≤ 1000000 ∧ Q (eSet (sBeyond a)) μ
theorem wp_beyond (h1 : G.fn "spans_beyond" = S_spans_beyond) {a : SetV} (ha : a.size ≤ 1000000) (h : Q (eSet (sBeyond a)) μ) : wpSs G b_beyond [some (eSet a)] μ (Ends0 Q) X := by
  unfold b_beyond
  cases a with
  | n l =>
    simp only [eSet]
    walk_at "w"
    simp only [h1]
    exact ⟨l, rfl, ha, h⟩
  | w b l =>
    simp only [eSet]
    walk_at "w"
    exact h
def S_common : FSpec := fun ds μ Q _ => ∃ a b : SetV, ds = [eSet a, eSet b] ∧ Same a b ∧ a.size ≤ 400 ∧ b.size ≤ 400 ∧ ∀ r, IsCommon a b r → Q (eSet r) μ
theorem wp_common (h1 : G.fn "spans_common" = S_spans_common) (h2 : ∀ ds μ Q X, S_words_common ds μ Q X → G.fn "words_common" ds μ Q X) {a b : SetV} (hs : Same a b) (ha : a.size ≤ 400) (hb : b.size ≤ 400) (h : ∀ r, IsCommon a b r → Q (eSet r) μ) : wpSs G b_common [some (eSet a), some (eSet b)] μ (Ends0 Q) X := by
  unfold b_common
  cases a with
  | n l =>
    cases b with
    | w c m => cases hs
    | n m =>
      simp only [eSet]
      walk_at "w"
      simp only [h1]
      exact ⟨l, m, rfl, Nat.le_trans ha (by decide), Nat.le_trans hb (by decide), h _ rfl⟩
  | w c l =>
    cases b with
    | n m => cases hs
    | w d m =>
      simp only [eSet]
      walk_at "w"
      exact h2 _ _ _ _ ⟨c, d, l, m, rfl, ha, hb, h⟩
def S_either : FSpec := fun ds μ Q _ => ∃ a b : SetV, ds = [eSet a, eSet b] ∧ Same a b ∧ a.size ≤ 200 ∧ b.size ≤ 200 ∧ ∀ c r, IsCommon (sBeyond a) (sBeyond b) c → r = sBeyond c → Q (eSet r) μ
theorem beyond_isN (a : SetV) : (sBeyond a).isN = a.isN := by cases a <;> rfl
theorem wp_either (h1 : G.fn "beyond" = S_beyond) (h2 : G.fn "common" = S_common) {a b : SetV} (hs : Same a b) (ha : a.size ≤ 200) (hb : b.size ≤ 200) (h : ∀ c r, IsCommon (sBeyond a) (sBeyond b) c → r = sBeyond c → Q (eSet r) μ) : wpSs G b_either [some (eSet a), some (eSet b)] μ (Ends0 Q) X := by
  unfold b_either
  walk_at "w"
  simp only [h1, h2]
  refine ⟨a, rfl, by omega, ?_⟩
  walk_at "w"
  refine ⟨b, rfl, by omega, ?_⟩
  walk_at "w"
  have la := beyond_len a
  have lb := beyond_len b
  refine ⟨sBeyond a, sBeyond b, rfl, by unfold Same; rw [beyond_isN, beyond_isN]; exact hs, by omega, by omega, fun c hc => ?_⟩
  walk_at "w"
  have lc := common_len hc
  have : (sBeyond a).size * (sBeyond b).size ≤ 300 * 300 := Nat.mul_le_mul (by omega) (by omega)
  exact ⟨c, rfl, by omega, h c _ hc rfl⟩
def S_less : FSpec := fun ds μ Q _ => ∃ a b : SetV, ds = [eSet a, eSet b] ∧ Same a b ∧ a.size ≤ 200 ∧ b.size ≤ 200 ∧ ∀ r, IsCommon a (sBeyond b) r → Q (eSet r) μ
theorem wp_less (h1 : G.fn "beyond" = S_beyond) (h2 : G.fn "common" = S_common) {a b : SetV} (hs : Same a b) (ha : a.size ≤ 200) (hb : b.size ≤ 200) (h : ∀ r, IsCommon a (sBeyond b) r → Q (eSet r) μ) : wpSs G b_less [some (eSet a), some (eSet b)] μ (Ends0 Q) X := by
  unfold b_less
  walk_at "w"
  simp only [h1, h2]
  refine ⟨b, rfl, by omega, ?_⟩
  walk_at "w"
  have lb := beyond_len b
  exact ⟨a, sBeyond b, rfl, by unfold Same; rw [beyond_isN]; exact hs, by omega, by omega, h⟩
theorem plainOI : Plain eOI (fun _ => True) 0 where
  ok := fun a _ => by cases a <;> rfl
  dep := fun a _ => by cases a <;> exact Nat.le_refl _
  inj := fun a b _ _ h => by cases a <;> cases b <;> simp_all [eOI, D.nrm]
  still := fun a _ _ => by cases a <;> rfl
theorem plainSpan : Plain eSpan (fun _ => True) 1 := by
  have p := (plainOI.pair plainOI).of (fun s : Span => s) (fun a b h => h) (Q := fun _ => True) fun _ _ => ⟨trivial, trivial⟩
  exact p
theorem plainSpans : Plain eSpans (fun _ => True) 2 := plainSpan.tup.of (fun l => l) (fun a b h => h) fun _ _ _ _ => trivial
theorem plainStrs : Plain eStrs (fun l => ∀ x ∈ l, StrOk x) 1 := plainStr.tup.of (fun l => l) (fun a b h => h) fun _ h => h
def SetV.sok : SetV → Prop
  | .n _ => True
  | .w _ l => ∀ x ∈ l, StrOk x
theorem plainSet : Plain eSet SetV.sok 3 where
  ok := fun a h => by
    cases a with
    | n l => simp [eSet, D.ok, D.oks, plainSpans.ok l trivial]
    | w b l => simp [eSet, D.ok, D.oks, plainStrs.ok l h]
  dep := fun a h => by
    cases a with
    | n l =>
      show max 0 (max (eSpans l).dep 0) + 1 ≤ 3
      have := plainSpans.dep l trivial
      omega
    | w b l =>
      show max 0 (max 0 (max (eStrs l).dep 0)) + 1 ≤ 3
      have := plainStrs.dep l h
      omega
  inj := fun a b ha hb h => by
    cases a with
    | n l =>
      cases b with
      | n m =>
        simp only [eSet, D.nrm, D.nrms, D.tup.injEq, List.cons.injEq, and_true, true_and] at h
        rw [plainSpans.inj l m trivial trivial h]
      | w c m => simp [eSet, D.nrm, D.nrms] at h
    | w d l =>
      cases b with
        | n m => simp [eSet, D.nrm, D.nrms] at h
        | w c m =>
          simp only [eSet, D.nrm, D.nrms, D.tup.injEq, List.cons.injEq, D.int.injEq, and_true, true_and] at h
          have e1 := plainBl.inj d c trivial trivial (by simp only [D.nrm, D.int.injEq]; exact h.1)
          have e2 := plainStrs.inj l m ha hb h.2
          rw [e1, e2]
  still := fun a μ h => by cases a <;> rfl
def S_is_none : FSpec := fun ds μ Q _ => ∃ a : SetV, ds = [eSet a] ∧ a.sok ∧ Q (.bl (isNone a)) μ
theorem wp_is_none {a : SetV} (ha : a.sok) (h : Q (.bl (isNone a)) μ) : wpSs G b_is_none [some (eSet a)] μ (Ends0 Q) X := by
  unfold b_is_none
  cases a with
  | n l =>
    simp only [eSet]
    walk_at "w"
    simp only [eSpans]
    obtain ⟨o, d⟩ := plainSpan.map l fun _ _ => trivial
    refine eq_nilT o (by omega) ?_
    have e : (List.map eSpan l).isEmpty = l.isEmpty := by cases l <;> rfl
    rw [e]
    exact h
  | w b l =>
    simp only [eSet]
    cases b with
    | false =>
      walk_at "w"
      exact h
    | true =>
      walk_at "w"
      simp only [eStrs]
      obtain ⟨o, d⟩ := plainStr.map l ha
      refine eq_nilT o (by omega) ?_
      have e : (List.map D.str l).isEmpty = l.isEmpty := by cases l <;> rfl
      rw [e]
      exact h
def S_lies_in : FSpec := fun ds μ Q _ => ∃ a b : SetV, ds = [eSet a, eSet b] ∧ Same a b ∧ a.size ≤ 200 ∧ b.size ≤ 200 ∧ a.ok ∧ b.ok ∧ ∀ r, IsCommon a (sBeyond b) r → Q (.bl (isNone r)) μ
theorem ok_sok {a : SetV} (h : a.ok) : a.sok := by
  cases a with
  | n l => trivial
  | w b l => exact h.2
theorem wp_lies_in (h1 : G.fn "is_none" = S_is_none) (h2 : G.fn "less" = S_less) {a b : SetV} (hs : Same a b) (ha : a.size ≤ 200) (hb : b.size ≤ 200) (oa : a.ok) (ob : b.ok) (h : ∀ r, IsCommon a (sBeyond b) r → Q (.bl (isNone r)) μ) : wpSs G b_lies_in [some (eSet a), some (eSet b)] μ (Ends0 Q) X := by
  unfold b_lies_in
  walk_at "w"
  simp only [h1, h2]
  refine ⟨a, b, rfl, hs, ha, hb, fun r hr => ?_⟩
  walk_at "w"
  exact ⟨r, rfl, ok_sok (less_due oa ob hr).1, h r hr⟩
end
end DL
namespace DL
open PySem PySem.Spec PyProof.Rows L2
open SM (Span OI mem Can Cn byd cmn)
local macro_rules | `(tactic| walk_at "w") => `(tactic| simp only [↓w_v, ↓g_z, ↓g_s, ↓w_g, ↓w_non, ↓w_bl, ↓w_int, ↓w_str, ↓w_bin, ↓w_neg, ↓w_cmp, ↓w_chain, ↓w_and, ↓w_or, ↓w_not, ↓w_ite, ↓w_tup, ↓w_lst, ↓w_ix, ↓w_sl, ↓w_lc, ↓w_call, ↓w_bi, ↓w_isi, ↓w_mt, ↓w_fz, ↓w_sset, ↓w_nset, ↓w_pt, ↓w_shut, ↓w_drop, ↓w_nil, ↓w_cons, ↓w_no, ↓w_one,
  ↓t_val, ↓t_cm, ↓t_and, ↓t_or, ↓t_not, ↓t_nil, ↓t_one, ↓i_seq, ↓i_range1, ↓i_range2, ↓i_enum, ↓i_zip, ↓i_rev, ↓s_nil, ↓s_one, ↓s_cons, ↓s_set, ↓s_asg, ↓s_par, ↓s_setIx, ↓s_setIx2, ↓tup2_ok, ↓s_aug, ↓s_expr, ↓s_app, ↓s_pop, ↓s_ext, ↓s_clear, ↓s_ret, ↓s_retN, ↓s_ite, ↓s_for, ↓s_while, ↓s_pass, ↓s_brk, ↓s_cont, ↓s_opn, ↓s_drp,
  ↓tg_v, ↓tg_tup, ↓tg_nil, ↓tg_cons, ↓wr_nil, ↓wr_cons, sl_v, sl_tup, sl_nil, sl_cons, ↓wk_nx, ↓wk_ct, ↓wk_bk, ↓wk_rt, ls_z, ls_s,
  ↓d_addi, ↓d_adds, ↓d_addt, ↓d_addl, ↓d_addr, ↓d_sub, ↓d_mul, ↓d_fdiv, ↓d_mod, ↓d_pow, ↓n_t, ↓n_f, sl_lst, sl_lk, sp_lst, sa_lst, sa_lk, sa_tup, sl_ref, sp_ref, sa_ref, ↓c_eqi, ↓c_eqs, ↓c_nei, ↓c_nes, ↓c_lt, ↓c_le, ↓c_gt, ↓c_ge, ↓c_is, ↓c_isnot, n_non, n_int, n_str, n_bl, n_tup, n_lst, n_ref, ↓u_bl, ↓u_int, ↓u_non, ↓u_tup, ↓u_lst,
  ↓x_t, ↓x_l, ↓x_lk, ↓x_r, ↓x_s, a_0, a_1, a_2, a_3, a_m1, last_in, ixN_last, set_len, ixN_m1, ↓z_r, ↓ik, ↓pk, ↓l_s, ↓l_t, ↓l_l, ↓l_lk, ↓l_r, ↓b_tuple, ↓b_listt, ↓b_listl, ↓b_listk, ↓b_listr, ↓b_lists, ↓b_inti, ↓b_intb, ↓b_abs, ↓b_max, ↓b_min, ↓b_divmod, ↓b_str, ↓b_strs, ↓b_any, ↓b_all, ↓b_sum, ↓q_t, ↓q_l, ↓q_lk, ↓q_s, ↓q_r, ↓r_1, ↓r_2, ↓m_join, ↓m_split, ↓st_is, ↓ch_r, ↓set_r, ↓dr_nil, ↓dr_cons, md_s, md_n, ra_s, ra_r, ra_n, mset_mset,
  optD_some, optD_none, Bool.not_true, Bool.not_false, if_true, if_false, Bool.false_eq_true, List.cons_append, List.nil_append, List.length_cons, List.length_nil, Nat.reduceAdd, Nat.reduceLeDiff, true_and, and_true, and_self, decide_true, decide_false, Option.some.injEq, exists_eq', exists_eq, exists_eq_left, exists_eq_left', reduceIte, List.replicate, Nat.reduceSub, List.map_cons, List.map_nil, potAt_new, Int.reduceToNat, Int.reducePow, Int.reduceLT, Int.reduceLE, Int.reduceNeg, Int.reduceAdd, Int.reduceSub, Int.reduceMul, Int.reduceEq, Nat.reducePow, Nat.reduceLT, Nat.reduceMul, or_true, true_or, false_or, or_false, and_false, false_and, e_wn, ixN_0, ixN_1, ↓sh_new, List.set_cons_zero, List.set_cons_succ, eq_self, decide_true])
/-! ### the law's own defs: draws -/
section
variable {G : Gc} {μ : Mem} {Q : DK} {X : EK}
/-- the script, as it is handed on -/
def eScript (ns : List Int) : D := .lk (ns.map .int)
def S_cell_at : FSpec := fun ds μ Q _ => ∃ (ns : List Int) (k : Int), ds = [eScript ns, .int k] ∧ 0 ≤ k ∧ ∀ c, Q (.int c) μ
theorem wp_cell_at {ns : List Int} {k : Int} (hk : 0 ≤ k) (h : ∀ c, Q (.int c) μ) : wpSs G b_l_cell_at [some (eScript ns), some (.int k)] μ (Ends0 Q) X := by
  unfold b_l_cell_at
  simp only [eScript]
  walk_at "w"
  split <;> rename_i c
  · simp only [List.length_map, decide_eq_true_eq] at c
    rw [a_nat hk, List.getElem?_map, List.getElem?_eq_getElem (by omega)]
    exact h _
  · exact h _
def S_pot : FSpec := fun ds μ Q _ => ∃ (ns : List Int) (k : Int), ds = [eScript ns, .int k] ∧ 0 ≤ k ∧ k ≤ 1000 ∧ ∀ p, μ p = none → Q (.ref p) (mset μ p (.pot []))
theorem wp_pot (h1 : G.fn "_law_cell_at" = S_cell_at) {ns : List Int} {k : Int} (hk : 0 ≤ k) (hk2 : k ≤ 1000) (h : ∀ p, μ p = none → Q (.ref p) (mset μ p (.pot []))) : wpSs G b_l_pot [some (eScript ns), some (.int k), none] μ (Ends0 Q) X := by
  unfold b_l_pot
  walk_at "w"
  simp only [h1]
  refine ⟨ns, k, rfl, hk, fun c => ?_⟩
  walk_at "w"
  refine fun p hp => ⟨⟨?_, ?_, ?_⟩, h p hp⟩
  · split <;> rename_i e
    · simp only [decide_eq_true_eq] at e; omega
    · exact Int.le_refl _
  · omega
  · omega
def S_draw : FSpec := fun ds μ Q _ => ∃ (a : Addr) (m : Int), ds = [.ref a, .int m] ∧ potAt μ a ∧ (0 < m ∧ m ≤ 2 ^ 256) ∧ ∀ r, 0 ≤ r → r < m → Q (.int r) μ
theorem wp_draw {a : Addr} {m : Int} (hp : potAt μ a) (hm : 0 < m ∧ m ≤ 2 ^ 256) (h : ∀ r, 0 ≤ r → r < m → Q (.int r) μ) : wpSs G b_l_draw [some (.ref a), some (.int m), none] μ (Ends0 Q) X := by
  obtain ⟨l, hl⟩ := hp
  have back : mset μ a (.pot l) = μ := by
    funext b
    unfold mset
    split <;> rename_i e
    · rw [e, hl]
    · rfl
  unfold b_l_draw
  walk_at "w"
  unfold openD potOf
  simp only [hl, optD_some]
  intro p q p0 q0 q1
  walk_at "w"
  split <;> rename_i c
  · simp only [decide_eq_true_eq] at c
    refine ⟨hm, ⟨Int.ediv_nonneg p0 (by omega), q0, q1⟩, ?_⟩
    rw [back]
    exact h _ (Int.emod_nonneg _ (by omega)) (Int.emod_lt_of_pos _ hm.1)
  · have z0 : 0 ≤ (q * 48271 + 11) % 2147483647 := Int.emod_nonneg _ (by decide)
    have z1 : (q * 48271 + 11) % 2147483647 < 2147483647 := Int.emod_lt_of_pos _ (by decide)
    refine ⟨.inl ⟨by omega, by omega⟩, hm.1, ⟨p0, z0, by omega⟩, ?_⟩
    rw [back]
    exact h _ (Int.emod_nonneg _ (by omega)) (Int.emod_lt_of_pos _ hm.1)
/-- a number of up to sixty figures -/
def S_number : FSpec := fun ds μ Q _ => ∃ a : Addr, ds = [.ref a] ∧ potAt μ a ∧ ∀ r : Int, -(10 ^ 60) < r → r < 10 ^ 60 → Q (.int r) μ
theorem wp_number (h1 : G.fn "_law_draw" = S_draw) {a : Addr} (hp : potAt μ a) (h : ∀ r : Int, -(10 ^ 60) < r → r < 10 ^ 60 → Q (.int r) μ) : wpSs G b_l_number [some (.ref a), none, none] μ (Ends0 Q) X := by
  unfold b_l_number
  walk_at "w"
  simp only [h1]
  refine ⟨a, 31, rfl, hp, ⟨by decide, by decide⟩, fun r r0 r1 => ?_⟩
  walk_at "w"
  refine ⟨a, 4, rfl, hp, ⟨by decide, by decide⟩, fun s s0 s1 => ?_⟩
  walk_at "w"
  split <;> rename_i c
  · exact h _ (by omega) (by omega)
  · refine ⟨a, _, rfl, hp, ⟨by decide, by decide⟩, fun t t0 t1 => ?_⟩
    walk_at "w"
    refine ⟨a, 4, rfl, hp, ⟨by decide, by decide⟩, fun u u0 u1 => ?_⟩
    walk_at "w"
    have k0 : 0 ≤ u / 2 := by omega
    have k1 : u / 2 ≤ 1 := by omega
    have k2 : 0 ≤ (r - 15) % 2 := by omega
    have k3 : (r - 15) % 2 ≤ 1 := by omega
    exact at3 (by omega) (by omega) (fun _ => h _ (by omega) (by omega)) (fun _ => h _ (by omega) (by omega)) (fun _ => h _ (by omega) (by omega))
def S_word : FSpec := fun ds μ Q _ => ∃ a : Addr, ds = [.ref a] ∧ potAt μ a ∧ ∀ s : Str, IsWord s → Q (.str s) μ
def letters : List Nat := [97, 98, 99, 100, 101, 102, 103, 104, 105, 106, 107, 108, 109, 110, 111, 112, 113, 114, 115, 116, 117, 118, 119, 120, 121, 122]
theorem letters_in : ∀ c ∈ letters, 97 ≤ c ∧ c ≤ 122 := by decide
/-- signs put together -/
theorem join_signs (cs : List Nat) : Txt.join ⟨#[]⟩ (cs.map fun c => (⟨#[c]⟩ : Str)) = ⟨cs.toArray⟩ := by
  open TL PySem.StrLaws in
  have e : tl (Txt.join ⟨#[]⟩ (cs.map fun c => (⟨#[c]⟩ : Str))) = cs := by
    rw [join_eq, tl_join]
    have : ∀ l : List (List Nat), joinL (tl ⟨#[]⟩) l = l.flatten := by
      intro l
      induction l with
      | nil => rfl
      | cons p r ih =>
        cases r with
        | nil => simp [joinL]
        | cons q r =>
          show p ++ ([] ++ joinL (tl ⟨#[]⟩) (q :: r)) = _
          rw [ih]
          simp
    rw [this, List.map_map]
    induction cs with
    | nil => rfl
    | cons c cs ih =>
      rw [List.map_cons, List.flatten_cons, ih]
      rfl
  have e2 : ∀ s : Str, s = ⟨(tl s).toArray⟩ := fun s => rfl
  rw [e2 (Txt.join _ _), e]
theorem wp_word (h1 : G.fn "_law_draw" = S_draw) {a : Addr} (hp : potAt μ a) (h : ∀ s : Str, IsWord s → Q (.str s) μ) : wpSs G b_l_word [some (.ref a), none, none, none] μ (Ends0 Q) X := by
  unfold b_l_word
  walk_at "w"
  simp only [h1]
  refine ⟨a, 2, rfl, hp, ⟨by decide, by decide⟩, fun r r0 r1 => ?_⟩
  walk_at "w"
  have key : ∀ some_ : Int, 0 < some_ → some_ ≤ 26 → ∀ n : Int, 1 ≤ n → n ≤ 8 → LC (intsR 0 n.toNat) μ (fun _ => True) (fun x μ2 R => S_draw [D.ref a, .int some_] μ2 (fun y μ2 => ixD (D.str { cps := #[97, 98, 99, 100, 101, 102, 103, 104, 105, 106, 107, 108, 109, 110, 111, 112, 113, 114, 115, 116, 117, 118, 119, 120, 121, 122] }) y μ2 fun d μ5 => R (some d) μ5) X) fun acc μ2 => optD (asStrs acc) fun ys => (ys.map fun x => x.length).sum + ys.length * 0 ≤ 16777216 ∧ Q (.str (Txt.join ⟨#[]⟩ ys)) μ2 := by
    intro m m0 m1 n n0 n1
    refine LC_rel (List.range n.toNat) _ (fun _ d => ∃ c ∈ letters, d = .str ⟨#[c]⟩) (by rw [List.length_range]; omega) trivial (fun x hx R hR => ?_) fun ds hds => ?_
    · refine ⟨a, m, rfl, hp, ⟨m0, Int.le_trans m1 (by decide)⟩, fun t t0 t1 => ?_⟩
      walk_at "w"
      refine ⟨by decide, at_any t0 (show t < (letters.length : Int) by show t < 26; omega) fun c hc => ?_⟩
      exact hR _ ⟨c, hc, rfl⟩
    · obtain ⟨cs, e1, e2, e3⟩ := all2_ex (fun c : Nat => D.str ⟨#[c]⟩) (R := fun c => c ∈ letters) (fun _ b ⟨c, hc, e⟩ => ⟨c, e, hc⟩) hds
      rw [List.length_range] at e2
      have e4 : ds = (cs.map fun c => (⟨#[c]⟩ : Str)).map D.str := by rw [e1, List.map_map]; rfl
      rw [e4, asStrs_map, optD_some, join_signs, List.map_map]
      have e5 : ∀ l : List Nat, (l.map ((fun x : Str => x.length) ∘ fun c => (⟨#[c]⟩ : Str))).sum = l.length := fun l => by
        induction l with
        | nil => rfl
        | cons c l ih => rw [List.map_cons, List.sum_cons, ih, List.length_cons]; show 1 + _ = _; omega
      refine ⟨by rw [e5]; omega, h _ ⟨?_, ?_, fun c hc => ?_⟩⟩
      · show 1 ≤ cs.toArray.size
        simp; omega
      · show cs.toArray.size ≤ 8
        simp; omega
      · exact letters_in c (e3 c (by simpa using hc))
  refine at2 r0 (by omega) (fun _ => ?_) fun _ => ?_
  all_goals
    refine ⟨a, 2, rfl, hp, ⟨by decide, by decide⟩, fun s s0 s1 => ?_⟩
    refine ⟨a, 8, rfl, hp, ⟨by decide, by decide⟩, fun t t0 t1 => ?_⟩
    walk_at "w"
    have b0 : 0 ≤ s * t := Int.mul_nonneg s0 t0
    have b1 : s * t ≤ 1 * 7 := Int.mul_le_mul (by omega) (by omega) t0 (by omega)
    refine ⟨.inl ⟨by omega, by omega⟩, by omega, by omega, ?_⟩
    exact key _ (by decide) (by decide) _ (by omega) (by omega)
/-- near ones: a list of whole numbers of up to sixty figures -/
abbrev Far (r : Int) : Prop := -(10 ^ 60) < r ∧ r < 10 ^ 60
def S_beside : FSpec := fun ds μ Q _ => ∃ (a : Addr) (l : List Int), ds = [.ref a, .lst (l.map .int)] ∧ potAt μ a ∧ l ≠ [] ∧ l.length ≤ 1000 ∧ ∀ r : Int, Far r → Q (.int r) μ
theorem wp_beside (h1 : G.fn "_law_draw" = S_draw) {a : Addr} (hp : potAt μ a) {l : List Int} (hl : l ≠ []) (hl2 : l.length ≤ 1000) (h : ∀ r : Int, Far r → Q (.int r) μ) : wpSs G b_l_beside [some (.ref a), some (.lst (l.map .int)), none] μ (Ends0 Q) X := by
  unfold b_l_beside
  walk_at "w"
  simp only [h1]
  have l1 := List.length_pos_iff.mpr hl
  refine ⟨a, _, rfl, hp, ⟨by simp only [List.length_map]; omega, by simp only [List.length_map]; omega⟩, fun r r0 r1 => ?_⟩
  walk_at "w"
  refine at_any r0 r1 fun d hd => ?_
  obtain ⟨i, _, rfl⟩ := List.mem_map.mp hd
  refine ⟨a, 5, rfl, hp, ⟨by decide, by decide⟩, fun s s0 s1 => ?_⟩
  walk_at "w"
  refine h _ ⟨?_, ?_⟩
  · split <;> rename_i c <;> simp only [decide_eq_true_eq] at c
    · split <;> rename_i c2 <;> simp only [decide_eq_true_eq] at c2 <;> omega
    · split <;> rename_i c2 <;> simp only [decide_eq_true_eq] at c2 <;> omega
  · split <;> rename_i c <;> simp only [decide_eq_true_eq] at c
    · split <;> rename_i c2 <;> simp only [decide_eq_true_eq] at c2 <;> omega
    · split <;> rename_i c2 <;> simp only [decide_eq_true_eq] at c2 <;> omega
/-! ### the drawn spans -/
def eIs (l : List Int) : D := .lst (l.map .int)
def S_spans : FSpec := fun ds μ Q _ => ∃ (a : Addr) (l : List Int), ds = [.ref a, .lst (l.map .int)] ∧ potAt μ a ∧ l.length ≤ 1000 ∧ ∀ r : List Span, Can r → r.length ≤ 40 → Q (eSet (.n r)) μ
theorem wp_spans (h1 : G.fn "_law_draw" = S_draw) (h2 : G.fn "_law_beside" = S_beside) (h3 : G.fn "_law_number" = S_number) {a : Addr} (hp : potAt μ a) {l : List Int} (hl : l.length ≤ 1000) (h : ∀ r : List Span, Can r → r.length ≤ 40 → Q (eSet (.n r)) μ) : wpSs G b_l_spans [some (.ref a), some (.lst (l.map .int)), none, none, none, none] μ (Ends0 Q) X := by
  unfold b_l_spans
  walk_at "w"
  intro p hpn
  have pot1 : ∀ l, potAt (mset μ p (.lst l)) a := fun l => potAt_lst hp hpn
  simp only [h1, h2, h3]
  refine ⟨a, 6, rfl, pot1 _, ⟨by decide, by decide⟩, fun r r0 r1 => ?_⟩
  walk_at "w"
  refine ⟨a, 41, rfl, pot1 _, ⟨by decide, by decide⟩, fun s s0 s1 => ?_⟩
  walk_at "w"
  refine ⟨a, 8, rfl, pot1 _, ⟨by decide, by decide⟩, fun t t0 t1 => ?_⟩
  walk_at "w"
  have fin : 0 ≤ (if decide (t = 7) = true then (1 : Int) else 0) ∧ (if decide (t = 7) = true then (1 : Int) else 0) < 2 := by split <;> omega
  refine at_any fin.1 fin.2 fun d hd => ?_
  obtain ⟨n, rfl, n0, n1⟩ : ∃ n, d = .int n ∧ 0 ≤ n ∧ n ≤ 40 := by
    rcases List.mem_cons.mp hd with e | e
    · exact ⟨r, e, r0, by omega⟩
    · exact ⟨s, List.mem_singleton.mp e, s0, by omega⟩
  walk_at "w"
  refine ⟨by omega, by omega, ?_⟩
  refine LP_ty (List.range _) _ (fun _ : List Int => [some (D.ref a), some (D.lst (List.map D.int l)), some (D.ref p), none, none, none]) (fun cs => mset μ p (MO.lst (cs.map D.int))) (fun done cs => cs.length = done.length) [] rfl rfl rfl ?_ ?_
  · rintro done k rst cs e hcs
    have hd : done.length < 41 := by
      have := congrArg List.length e
      rw [List.length_range, List.length_append, List.length_cons] at this
      omega
    refine ⟨trivial, fun N hN => ?_⟩
    walk_at "w"
    have more : ∀ v : Int, (cs.map D.int).length < 16777216 ∧ N [some (D.ref a), some (D.lst (List.map D.int l)), some (D.ref p), none, none, none] (mset μ p (MO.lst (cs.map D.int ++ [D.int v]))) := fun v => by
      refine ⟨by rw [List.length_map]; omega, ?_⟩
      have q := hN (cs ++ [v]) (by simp [hcs])
      rw [List.map_append] at q
      exact q
    obtain ⟨o, dp⟩ := plainInt.map l fun _ _ => trivial
    refine ne_nil o (by omega) ?_
    split <;> rename_i c
    · refine ⟨a, 2, rfl, pot1 _, ⟨by decide, by decide⟩, fun u u0 u1 => ?_⟩
      walk_at "w"
      split
      · refine ⟨a, l, rfl, pot1 _, ?_, hl, fun v hv => ?_⟩
        · rintro rfl
          simp at c
        · walk_at "w"
          exact more v
      · refine ⟨a, rfl, pot1 _, fun v v0 v1 => ?_⟩
        walk_at "w"
        exact more v
    · refine ⟨a, rfl, pot1 _, fun v v0 v1 => ?_⟩
      walk_at "w"
      exact more v
  · rintro cs hcs
    rw [List.length_range] at hcs
    refine ⟨trivial, ?_⟩
    walk_at "w"
    intro q hq
    have pot2 : ∀ o, potAt (mset (mset μ p (.lst (cs.map D.int))) q (.lst o)) a := fun o => potAt_lst (pot1 _) hq
    refine sset_ints (l := cs) (sl_ref2 hq) (by omega) fun ms ms1 ms2 => ?_
    walk_at "w"
    have lms : ms.length ≤ 40 := by
      have nd : ms.Nodup := ms1.imp fun {a b} q e => by omega
      have := nodup_len ms cs nd fun x hx => (ms2 x).mp hx
      omega
    refine LP_ty ms D.int (fun _ : List Span => [some (D.ref a), some (D.lst (List.map D.int l)), some (D.ref p), none, some (D.ref q), none]) (fun f => mset (mset μ p (.lst (cs.map D.int))) q (MO.lst (f.map eSpan)))
      (fun done f => f.length ≤ done.length ∧ ((done = [] ∧ f = []) ∨ ∃ c, done.getLast? = some c ∧ SM.Grown c f)) [] rfl rfl ⟨Nat.le_refl _, .inl ⟨rfl, rfl⟩⟩ ?_ ?_
    · rintro done low rst f e ⟨hf, hg⟩
      refine ⟨trivial, fun N hN => ?_⟩
      have big : ∀ c, done.getLast? = some c → c < low := fun c hc => by
        have hm : c ∈ done := List.mem_of_getLast? hc
        rw [e] at ms1
        exact (List.pairwise_append.mp ms1).2.2 c hm low List.mem_cons_self
      walk_at "w"
      obtain ⟨o, dp⟩ := plainSpan.map f fun _ _ => trivial
      refine ne_nilR o (by omega) ?_
      have ld : done.length < 40 := by
        rw [e, List.length_append, List.length_cons] at lms
        omega
      have put : ∀ f' : List Span, f'.length ≤ done.length + 1 → SM.Grown low f' → N [some (D.ref a), some (D.lst (List.map D.int l)), some (D.ref p), none, some (D.ref q), none] (mset (mset μ p (MO.lst (List.map D.int cs))) q (MO.lst (List.map eSpan f'))) := fun f' h1 h2 =>
        hN f' ⟨by rw [List.length_append]; exact h1, .inr ⟨low, last_in, h2⟩⟩
      rcases hg with ⟨_, rfl⟩ | ⟨c, hc, f0, x, rfl, hcan⟩
      · simp only [List.map_nil, List.isEmpty_nil]
        walk_at "w"
        exact put [(some low, some low)] (by simp) (SM.Grown.one low)
      · have hcl := big c hc
        have ne : (List.map eSpan (f0 ++ [(some x, some c)])).isEmpty = false := by simp
        rw [ne]
        have hf2 : f0.length + 1 ≤ done.length := by simpa using hf
        have more : N [some (D.ref a), some (D.lst (List.map D.int l)), some (D.ref p), none, some (D.ref q), none] (mset (mset μ p (MO.lst (List.map D.int cs))) q (MO.lst (List.map eSpan f0 ++ [D.tup [D.int x, D.int low]]))) := by
          have q1 := put (f0 ++ [(some x, some low)]) (by simp; omega) ⟨f0, x, rfl, SM.Cn.last_more (by omega) hcan⟩
          rw [List.map_append] at q1
          exact q1
        simp only [List.map_append, List.map_cons, List.map_nil, eSpan, eOI]
        walk_at "w"
        refine ⟨a, 3, rfl, pot2 _, ⟨by decide, by decide⟩, fun u u0 u1 => ?_⟩
        walk_at "w"
        split
        · exact more
        · split <;> rename_i c2
          · exact more
          · simp only [decide_eq_true_eq] at c2
            refine ⟨by simp; omega, ?_⟩
            have q1 := put (f0 ++ [(some x, some c)] ++ [(some low, some low)]) (by simp; omega) (SM.Grown.new ⟨f0, x, rfl, hcan⟩ (by omega))
            rw [List.map_append, List.map_append] at q1
            simpa [eSpan, eOI] using q1
    · rintro f ⟨hf, hg⟩
      refine ⟨trivial, ?_⟩
      have canf : Can f := by
        rcases hg with ⟨_, rfl⟩ | ⟨c, _, f0, x, rfl, hcan⟩
        · trivial
        · exact hcan
      have hf40 : f.length ≤ 40 := Nat.le_trans hf lms
      clear hg
      walk_at "w"
      have endq : ∀ g : List Span, Can g → g.length ≤ 40 → ∀ dl, dl = g.map eSpan → Q (D.tup [D.str { cps := #[110] }, D.tup dl]) (mdel (mdel (mset (mset μ p (MO.lst (List.map D.int cs))) q (MO.lst dl)) p) q) := fun g c1 c2 dl e => by
        rw [mdel_two hpn hq, e]
        exact h g c1 c2
      have last : ∀ g : List Span, Can g → g.length ≤ 40 → cmpD Cm.ne (D.ref q) (D.lst []) (mset (mset μ p (MO.lst (List.map D.int cs))) q (MO.lst (List.map eSpan g))) fun c =>
          if c = true then S_draw [D.ref a, D.int 4] (mset (mset μ p (MO.lst (List.map D.int cs))) q (MO.lst (List.map eSpan g))) (fun x μ1 => cmpD Cm.eq x (D.int 0) μ1 fun c => if c = true then optD (seqL μ1 (D.ref q)) fun l => optD l.getLast? fun d => ixD d (D.int 0) μ1 fun d μ1 => optD (seqL μ1 (D.ref q)) fun l =>
                  optD (ixN l.length (-1)) fun j => Q (D.tup [D.str { cps := #[110] }, D.tup (l.set j (D.tup [d, D.non]))]) (mdel (mdel (mset μ1 q (MO.lst (l.set j (D.tup [d, D.non])))) p) q)
                else optD (seqA μ1 (D.ref q)) fun l => Q (D.tup [D.str { cps := #[110] }, D.tup l]) (mdel (mdel μ1 p) q)) X
          else Q (D.tup [D.str { cps := #[110] }, D.tup (List.map eSpan g)]) (mdel (mdel (mset (mset μ p (MO.lst (List.map D.int cs))) q (MO.lst (List.map eSpan g))) p) q) := by
        intro g c1 c2
        obtain ⟨o, dp⟩ := plainSpan.map g fun _ _ => trivial
        refine ne_nilR o (by omega) ?_
        split <;> rename_i ne
        · refine ⟨a, 4, rfl, pot2 _, ⟨by decide, by decide⟩, fun u u0 u1 => ?_⟩
          walk_at "w"
          split
          · rcases List.eq_nil_or_concat g with rfl | ⟨g0, y, rfl⟩
            · simp at ne
            · obtain ⟨lo, hi⟩ := y
              simp only [List.concat_eq_append] at c1 c2 ⊢
              simp only [List.map_append, List.map_cons, List.map_nil, eSpan]
              walk_at "w"
              exact endq (g0 ++ [(lo, none)]) (SM.Cn.last_open c1) (by simpa using c2) _ (by simp [eSpan, eOI])
          · exact endq g c1 c2 _ rfl
        · exact endq g c1 c2 _ rfl
      obtain ⟨o, dp⟩ := plainSpan.map f fun _ _ => trivial
      refine ne_nilR o (by omega) ?_
      split <;> rename_i ne
      · refine ⟨a, 4, rfl, pot2 _, ⟨by decide, by decide⟩, fun u u0 u1 => ?_⟩
        walk_at "w"
        split
        · cases f with
          | nil => simp at ne
          | cons y g0 =>
            obtain ⟨lo, hi⟩ := y
            simp only [List.map_cons, eSpan]
            walk_at "w"
            exact last ((none, hi) :: g0) (SM.Cn.first_open canf) (by simpa using hf40)
        · exact last f canf hf40
      · exact last f canf hf40
end
end DL
/-! Cells, and whether a set has them; another cell of a set. -/
namespace DL
open PySem PySem.Spec PyProof.Rows L2
open SM (Span OI mem Can Cn byd cmn inS)
section
variable {μ : Mem} {Q : DK}
theorem k_tup {z : Bool} {l : List D} {lo hi : Option Int} : slD z (.tup l) lo hi μ Q = Q (.tup (cutD l lo hi)) μ := rfl
theorem k_lst {z : Bool} {l : List D} {lo hi : Option Int} : slD z (.lst l) lo hi μ Q = newL z (cutD l lo hi) μ Q := rfl
theorem k_lk {z : Bool} {l : List D} {lo hi : Option Int} : slD z (.lk l) lo hi μ Q = newL z (cutD l lo hi) μ Q := rfl
theorem k_str {z : Bool} {s : Str} {lo hi : Option Int} : slD z (.str s) lo hi μ Q = (s.length ≤ 16777216 ∧ Q (.str (cutS s lo hi)) μ) := rfl
theorem e_nw : decide ((⟨#[110]⟩ : Str) = ⟨#[119]⟩) = false := by decide +kernel
end
inductive Cell where
  | i (n : Int)
  | s (x : Str)
  deriving DecidableEq
def eCell : Cell → D
  | .i n => .int n
  | .s x => .str x
def eOC : Option Cell → D
  | none => .non
  | some c => eCell c
def isLow (n : Nat) : Bool := decide (97 ≤ n ∧ n ≤ 122)
def wordB (x : Str) : Bool := decide (1 ≤ x.length) && (decide (x.length ≤ 8) && x.cps.toList.all isLow)
def hasC (a : SetV) (c : Cell) : Bool := match a, c with
  | .n l, .i x => mem l x
  | .w b l, .s x => wordB x && inW b l x
  | _, _ => false
def twoIn (s : Span) : List Int := match s with
  | (some a, _) => [a, a + 1]
  | (none, some b) => [b, b - 1]
  | (none, none) => [0, 1]
def abc : List Nat := [97, 98, 99, 100, 101, 102, 103, 104, 105, 106, 107, 108, 109, 110, 111, 112, 113, 114, 115, 116, 117, 118, 119, 120, 121, 122]
def ones : List Str := abc.map fun c => ⟨#[c]⟩
def twos : List Str := abc.map fun c => ⟨#[97, c]⟩
def someWords (n : Nat) : List Str := if n ≤ 26 then ones else ones ++ twos
def cands : SetV → List Cell
  | .n l => (l.flatMap twoIn).map .i
  | .w true l => l.map .s
  | .w false l => (someWords (l.length + 2)).map .s
def another (a : SetV) (c : Option Cell) : Option Cell := (cands a).find? fun x => !decide (some x = c) && hasC a x
def manyN : Int → List Span → Int
  | k, [] => k
  | k, (lo, hi) :: r => match lo, hi with
    | some a, some b => manyN (k + if decide (b - a + 1 < 3) = true then b - a + 1 else 3) r
    | _, _ => 3
def manyC : SetV → Int
  | .n l => manyN 0 l
  | .w b l => if b then l.length else 3
theorem letter_iff (n : Nat) : n ∈ abc ↔ isLow n = true := by
  simp only [abc, isLow, List.mem_cons, List.not_mem_nil, or_false, decide_eq_true_eq]
  omega
theorem wordB_iff (x : Str) : wordB x = true ↔ (1 ≤ x.length ∧ x.length ≤ 8 ∧ ∀ c ∈ x.cps.toList, 97 ≤ c ∧ c ≤ 122) := by
  unfold wordB isLow
  simp only [Bool.and_eq_true, decide_eq_true_eq, List.all_eq_true]
theorem ones_ok : (ones.all wordB) = true := by decide +kernel
theorem twos_ok : (twos.all wordB) = true := by decide +kernel
theorem all_nd : (ones ++ twos).Nodup := by decide +kernel
theorem some_ok (n : Nat) : ∀ x ∈ someWords n, wordB x = true := fun x hx => by
  unfold someWords at hx
  split at hx
  · exact List.all_eq_true.mp ones_ok x hx
  · rcases List.mem_append.mp hx with h | h
    · exact List.all_eq_true.mp ones_ok x h
    · exact List.all_eq_true.mp twos_ok x h
theorem some_nd (n : Nat) : (someWords n).Nodup := by
  unfold someWords
  split
  · exact (List.nodup_append.mp all_nd).1
  · exact all_nd
theorem some_len {n : Nat} (h : n ≤ 52) : n ≤ (someWords n).length := by
  unfold someWords
  split
  · have : ones.length = 26 := by decide +kernel
    omega
  · have : (ones ++ twos).length = 52 := by decide +kernel
    omega
/-! ### what another cell is -/
theorem another_some {a : SetV} {c : Option Cell} {x : Cell} (h : another a c = some x) : some x ≠ c ∧ hasC a x = true := by
  have q := List.find?_some h
  rw [Bool.and_eq_true] at q
  refine ⟨fun e => ?_, q.2⟩
  rw [decide_eq_true e] at q
  exact absurd q.1 (by decide)
theorem another_none {a : SetV} {c : Option Cell} (h : another a c = none) : ∀ x ∈ cands a, hasC a x = true → some x = c := fun x hx hh => by
  have q := List.find?_eq_none.mp h x hx
  by_cases e : some x = c
  · exact e
  · rw [decide_eq_false e, hh] at q
    exact absurd rfl q
theorem another_sort {a : SetV} {c : Option Cell} {x : Cell} (h : another a c = some x) : match a, x with
    | .n _, .i _ => True
    | .w _ _, .s y => wordB y = true
    | _, _ => False := by
  have q := (another_some h).2
  cases a with
  | n l => cases x with
    | i y => trivial
    | s y => cases q
  | w b l => cases x with
    | i y => cases q
    | s y =>
      have q2 : (wordB y && inW b l y) = true := q
      rw [Bool.and_eq_true] at q2
      exact q2.1
/-! ### numbers -/
theorem manyN_ge : ∀ {l : List Span} {k : Int} {b : OI}, Cn b l → 0 ≤ k → k ≤ manyN k l ∨ manyN k l = 3
  | [], k, b, _, _ => .inl (Int.le_refl k)
  | (lo, hi) :: r, k, b, h, hk => by
    cases lo with
    | none => exact .inr rfl
    | some a =>
      cases hi with
      | none => exact .inr rfl
      | some c =>
        have hs : a ≤ c := h.2.1
        have e : manyN k ((some a, some c) :: r) = manyN (k + if decide (c - a + 1 < 3) = true then c - a + 1 else 3) r := rfl
        rw [e]
        have hr : Cn (some (c + 2)) r := h.2.2
        have h1 : 1 ≤ (if decide (c - a + 1 < 3) = true then c - a + 1 else 3) := by
          split
          · omega
          · decide
        rcases manyN_ge (k := k + if decide (c - a + 1 < 3) = true then c - a + 1 else 3) hr (by omega) with q | q
        · exact .inl (by omega)
        · exact .inr q
theorem manyN_zero {l : List Span} (h : Can l) : manyN 0 l = 0 ↔ l = [] := by
  constructor
  · intro e
    cases l with
    | nil => rfl
    | cons s r =>
      obtain ⟨lo, hi⟩ := s
      cases lo with
      | none => cases e
      | some a =>
        cases hi with
        | none => cases e
        | some c =>
          have hs : a ≤ c := h.2.1
          have hr : Cn (some (c + 2)) r := h.2.2
          have e : manyN (0 + if decide (c - a + 1 < 3) = true then c - a + 1 else 3) r = 0 := e
          have h1 : 1 ≤ (if decide (c - a + 1 < 3) = true then c - a + 1 else 3) := by
            split
            · omega
            · decide
          rcases manyN_ge (k := 0 + if decide (c - a + 1 < 3) = true then c - a + 1 else 3) hr (by omega) with q | q <;> omega
  · intro e
    subst e
    rfl
theorem manyN_one {l : List Span} (h : Can l) : manyN 0 l = 1 ↔ ∃ a, l = [(some a, some a)] := by
  constructor
  · intro e
    cases l with
    | nil => cases e
    | cons s r =>
      obtain ⟨lo, hi⟩ := s
      cases lo with
      | none => cases e
      | some a =>
        cases hi with
        | none => cases e
        | some c =>
          have hs : a ≤ c := h.2.1
          have hr : Cn (some (c + 2)) r := h.2.2
          have e : manyN (0 + if decide (c - a + 1 < 3) = true then c - a + 1 else 3) r = 1 := e
          by_cases hc : c = a
          · subst hc
            rw [if_pos (by simp)] at e
            cases r with
            | nil => exact ⟨c, rfl⟩
            | cons t r =>
              obtain ⟨lo, hi⟩ := t
              cases lo with
              | none => cases e
              | some b =>
                cases hi with
                | none => cases e
                | some d =>
                  have hs2 : b ≤ d := hr.2.1
                  have hr2 : Cn (some (d + 2)) r := hr.2.2
                  have e : manyN ((0 + (c - c + 1)) + if decide (d - b + 1 < 3) = true then d - b + 1 else 3) r = 1 := e
                  have h1 : 1 ≤ (if decide (d - b + 1 < 3) = true then d - b + 1 else 3) := by
                    split
                    · omega
                    · decide
                  rcases manyN_ge (k := (0 + (c - c + 1)) + if decide (d - b + 1 < 3) = true then d - b + 1 else 3) hr2 (by omega) with q | q <;> omega
          · have h1 : 2 ≤ (if decide (c - a + 1 < 3) = true then c - a + 1 else 3) := by
              split
              · omega
              · decide
            rcases manyN_ge (k := 0 + if decide (c - a + 1 < 3) = true then c - a + 1 else 3) hr (by omega) with q | q <;> omega
  · rintro ⟨a, rfl⟩
    show manyN (0 + if decide (a - a + 1 < 3) = true then a - a + 1 else 3) [] = 1
    rw [if_pos (by simp)]
    show 0 + (a - a + 1) = 1
    omega
theorem manyN_nn {l : List Span} (h : Can l) : 0 ≤ manyN 0 l := by
  rcases manyN_ge h (Int.le_refl 0) with q | q <;> omega
/-- a span's first candidate is in it -/
theorem two_in {s : Span} {b : OI} {r : List Span} (h : Cn b (s :: r)) : ∃ p q, twoIn s = [p, q] ∧ inS s p = true ∧ p ≠ q ∧ (inS s q = false → ∃ a, s = (some a, some a)) := by
  obtain ⟨lo, hi⟩ := s
  have hs := h.2.1
  cases lo with
  | none =>
    cases hi with
    | none => exact ⟨0, 1, rfl, rfl, by decide, fun e => by simp [inS, SM.geL, SM.leH] at e⟩
    | some c => exact ⟨c, c - 1, rfl, by simp [inS, SM.geL, SM.leH], by omega, fun e => by simp [inS, SM.geL, SM.leH] at e; omega⟩
  | some a =>
    cases hi with
    | none => exact ⟨a, a + 1, rfl, by simp [inS, SM.geL, SM.leH], by omega, fun e => by simp [inS, SM.geL, SM.leH] at e; omega⟩
    | some c =>
      have hs : a ≤ c := hs
      refine ⟨a, a + 1, rfl, by simp [inS, SM.geL, SM.leH]; exact hs, by omega, fun e => ?_⟩
      simp [inS, SM.geL, SM.leH] at e
      have : c = a := by omega
      exact ⟨a, by rw [this]⟩
theorem has_head {s : Span} {r : List Span} {x : Int} (h : inS s x = true) : mem (s :: r) x = true := by rw [SM.mem_cons, h]; rfl
theorem another_n {l : List Span} (h : Can l) {c : Option Cell} (e : another (.n l) c = none) : (l = []) ∨ ∃ a, l = [(some a, some a)] ∧ c = some (.i a) := by
  have hn := another_none e
  cases l with
  | nil => exact .inl rfl
  | cons s r =>
    obtain ⟨p, q, e1, e2, e3, e4⟩ := two_in h
    have cd : ∀ x, x = p ∨ x = q → Cell.i x ∈ cands (.n (s :: r)) := fun x hx => by
      refine List.mem_map.mpr ⟨x, List.mem_flatMap.mpr ⟨s, List.mem_cons_self, ?_⟩, rfl⟩
      rw [e1]
      simp only [List.mem_cons, List.not_mem_nil, or_false]
      exact hx
    have hp := hn (.i p) (cd p (.inl rfl)) (has_head e2)
    have hq : inS s q = false := by
      cases z : inS s q with
      | false => rfl
      | true =>
        have hq := hn (.i q) (cd q (.inr rfl)) (has_head z)
        rw [← hp] at hq
        cases hq
        exact absurd rfl e3
    obtain ⟨a, rfl⟩ := e4 hq
    have ea : p = a := by
      have e1 : [a, a + 1] = [p, q] := e1
      cases e1
      rfl
    subst ea
    cases r with
    | nil => exact .inr ⟨p, rfl, hp.symm⟩
    | cons t r =>
      have hr : Cn (some (p + 2)) (t :: r) := h.2.2
      obtain ⟨p2, q2, f1, f2, f3, f4⟩ := two_in hr
      have m2 : mem (t :: r) p2 = true := has_head f2
      have ge := Cn.ge hr m2
      have ge : p + 2 ≤ p2 := by simpa [SM.geL] using ge
      have c2 : Cell.i p2 ∈ cands (.n ((some p, some p) :: t :: r)) := by
        refine List.mem_map.mpr ⟨p2, List.mem_flatMap.mpr ⟨t, by simp, ?_⟩, rfl⟩
        rw [f1]
        simp
      have hp2 := hn (.i p2) c2 (by show mem _ p2 = true; rw [SM.mem_cons, m2, Bool.or_true])
      rw [← hp] at hp2
      cases hp2
      omega
/-! ### all sorts -/
/-- words of the alphabet -/
def SetV.words : SetV → Prop
  | .n _ => True
  | .w _ l => (∀ x ∈ l, wordB x = true) ∧ l.length ≤ 50
def ind (a : SetV) (c : Option Cell) : Int := match c with
  | none => 0
  | some x => if hasC a x = true then 1 else 0
theorem srt_nd {l : List Str} (h : Srt l) : l.Nodup := h.imp fun {a b} q e => by subst e; exact ltS_irr a q
theorem another_right {a : SetV} (ok : a.ok) (hw : a.words) (c : Option Cell) : (manyC a - ind a c = 0) ↔ another a c = none := by
  have i01 : ind a c = 0 ∨ (ind a c = 1 ∧ ∃ y, c = some y ∧ hasC a y = true) := by
    unfold ind
    cases c with
    | none => exact .inl rfl
    | some y =>
      by_cases e : hasC a y = true
      · exact .inr ⟨if_pos e, y, rfl, e⟩
      · exact .inl (if_neg e)
  cases hA : another a c with
  | none =>
    refine ⟨fun _ => rfl, fun _ => ?_⟩
    cases a with
    | n l =>
      rcases another_n ok hA with e | ⟨k, e, ec⟩
      · subst e
        have hi : ind (.n []) c = 0 := by
          rcases i01 with q | ⟨_, y, _, q⟩
          · exact q
          · cases y <;> cases q
        rw [hi]
        rfl
      · subst e ec
        have e1 : manyC (.n [(some k, some k)]) = 1 := (manyN_one ok).mpr ⟨k, rfl⟩
        have e2 : ind (.n [(some k, some k)]) (some (.i k)) = 1 := if_pos (has_head (by simp [inS, SM.geL, SM.leH]))
        rw [e1, e2]
        rfl
    | w b l =>
      have hn := another_none hA
      cases b with
      | true =>
        have al : ∀ x ∈ l, some (Cell.s x) = c := fun x hx => hn (.s x) (List.mem_map.mpr ⟨x, hx, rfl⟩) (by
          show (wordB x && inW true l x) = true
          rw [hw.1 x hx]
          simp [inW, hx])
        cases l with
        | nil =>
          have hi : ind (.w true []) c = 0 := by
            rcases i01 with q | ⟨_, y, _, q⟩
            · exact q
            · cases y with
              | i y => cases q
              | s y =>
                have q : (wordB y && inW true [] y) = true := q
                simp [inW] at q
          rw [hi]
          rfl
        | cons x l =>
          have ex := al x List.mem_cons_self
          cases l with
          | nil =>
            have e2 : ind (.w true [x]) c = 1 := by
              rw [← ex]
              refine if_pos ?_
              show (wordB x && inW true [x] x) = true
              rw [hw.1 x List.mem_cons_self]
              simp [inW]
            rw [e2]
            rfl
          | cons y l =>
            have ey := al y (by simp)
            rw [← ex] at ey
            cases ey
            have nd := srt_nd ok.1
            simp at nd
      | false =>
        exfalso
        have sub : ∀ x ∈ someWords (l.length + 2), x ∈ (match c with | some (.s y) => y :: l | _ => l) := fun x hx => by
          by_cases e : x ∈ l
          · cases c with
            | none => exact e
            | some y => cases y with
              | i y => exact e
              | s y => exact List.mem_cons_of_mem _ e
          · have q := hn (.s x) (List.mem_map.mpr ⟨x, hx, rfl⟩) (by
              show (wordB x && inW false l x) = true
              rw [some_ok _ x hx]
              simp [inW, e])
            subst q
            exact List.mem_cons_self
        have n1 := nodup_len _ _ (some_nd (l.length + 2)) sub
        have n2 : l.length + 2 ≤ (someWords (l.length + 2)).length := some_len (by have := hw.2; omega)
        have n3 : (match c with | some (Cell.s y) => y :: l | _ => l).length ≤ l.length + 1 := by
          cases c with
          | none => exact Nat.le_succ _
          | some y => cases y with
            | i y => exact Nat.le_succ _
            | s y => exact Nat.le_refl _
        omega
  | some x =>
    refine ⟨fun e => ?_, fun e => by cases e⟩
    exfalso
    obtain ⟨h1, h2⟩ := another_some hA
    cases a with
    | n l =>
      cases x with
      | s y => cases h2
      | i y =>
        have h2 : mem l y = true := h2
        have ne : l ≠ [] := fun z => by subst z; cases h2
        have e : manyN 0 l - ind (.n l) c = 0 := e
        have z0 : manyN 0 l ≠ 0 := fun z => ne ((manyN_zero ok).mp z)
        rcases i01 with q | ⟨q, u, hu, hh⟩
        · omega
        · obtain ⟨k, hk⟩ := (manyN_one ok).mp (by omega)
          subst hk hu
          cases u with
          | s u => cases hh
          | i u =>
            have hh : mem [(some k, some k)] u = true := hh
            have a1 : u = k := by simp [mem, inS, SM.geL, SM.leH] at hh; omega
            have a2 : y = k := by simp [mem, inS, SM.geL, SM.leH] at h2; omega
            exact h1 (by rw [a1, a2])
    | w b l =>
      cases x with
      | i y => cases h2
      | s y =>
        cases b with
        | false =>
          have e : (3 : Int) - ind (.w false l) c = 0 := e
          rcases i01 with q | ⟨q, _⟩ <;> omega
        | true =>
          have h2 : (wordB y && inW true l y) = true := h2
          have hy : y ∈ l := by
            rw [Bool.and_eq_true] at h2
            simpa [inW] using h2.2
          have e : (l.length : Int) - ind (.w true l) c = 0 := e
          have hl : 0 < l.length := List.length_pos_of_mem hy
          rcases i01 with q | ⟨q, u, hu, hh⟩
          · omega
          · have h1l : l.length = 1 := by omega
            obtain ⟨z, rfl⟩ := List.length_eq_one_iff.mp h1l
            subst hu
            cases u with
            | i u => cases hh
            | s u =>
              have hh : (wordB u && inW true [z] u) = true := hh
              rw [Bool.and_eq_true] at hh
              have a1 : u = z := by simpa [inW] using hh.2
              have a2 : y = z := by simpa using hy
              exact h1 (by rw [a1, a2])
theorem none_many {a : SetV} (ok : a.ok) : isNone a = decide (manyC a = 0) := by
  cases a with
  | n l =>
    show l.isEmpty = decide (manyN 0 l = 0)
    rw [Bool.eq_iff_iff, decide_eq_true_eq, manyN_zero ok, List.isEmpty_iff]
  | w b l =>
    cases b with
    | true =>
      show (true && l.isEmpty) = decide ((l.length : Int) = 0)
      cases l with
      | nil => rfl
      | cons x l =>
        show false = decide (((x :: l).length : Int) = 0)
        rw [decide_eq_false]
        simp only [List.length_cons]
        omega
    | false => rfl
end DL
namespace DL
open PySem PySem.Spec PyProof.Rows L2
local macro_rules | `(tactic| walk_at "w") => `(tactic| simp only [↓w_mkx1, ↓w_mkx, ↓w_isx, ↓w_atx, mkx_2, gok_n, gok_s, ↓isx_e, ↓atx_e, ↓w_v, ↓g_z, ↓g_s, ↓w_g, ↓w_non, ↓w_bl, ↓w_int, ↓w_str, ↓w_bin, ↓w_neg, ↓w_cmp, ↓w_chain, ↓w_and, ↓w_or, ↓w_not, ↓w_ite, ↓w_tup, ↓w_lst, ↓w_ix, ↓w_sl, ↓w_lc, ↓w_call, ↓w_bi, ↓w_isi, ↓w_mt, ↓w_fz, ↓w_emp, ↓w_sq, ↓sq_x, ↓sq_f, ↓sq_c, ↓w_popE, ↓w_popI, ↓w_sset, ↓w_nset, ↓w_pt, ↓w_shut, ↓w_drop, ↓w_nil, ↓w_cons, ↓w_rep2, ad_s, ↓r2_s, ↓d_mull, ↓w_no, ↓w_one, ↓d_muls, ↓w_cnt, ↓w_spm, ↓w_rpr, ↓w_lax, ↓sp_m, ↓rp_t, ↓tg_lst,
  ↓t_val, ↓t_cm, ↓t_and, ↓t_or, ↓t_not, ↓t_nil, ↓t_one, ↓i_seq, ↓i_range1, ↓i_range2, ↓i_enum, ↓i_zip, ↓i_rev, ↓s_nil, ↓s_one, ↓s_cons, ↓s_set, ↓s_asg, ↓s_par, ↓s_setIx, ↓s_setIx2, ↓tup2_ok, ↓s_aug, ↓s_expr, ↓s_app, ↓s_pop, ↓s_ins, ↓s_raise, ↓s_tryAs, ↓s_try, ↓s_ext, ↓s_clear, ↓s_ret, ↓s_retN, ↓s_ite, ↓s_for, ↓s_while, ↓s_pass, ↓s_brk, ↓s_cont, ↓s_opn, ↓s_drp,
  ↓tg_v, ↓tg_tup, ↓tg_nil, ↓tg_cons, ↓wr_nil, ↓wr_cons, sl_v, sl_tup, sl_nil, sl_cons, ↓wk_nx, ↓wk_ct, ↓wk_bk, ↓wk_rt, ls_z, ls_s,
  ↓d_addi, ↓d_adds, ↓d_addt, ↓d_addl, ↓d_addr, ↓d_sub, ↓d_mul, ↓d_fdiv, ↓d_mod, ↓d_pow, ↓n_t, ↓n_f, sl_lst, sl_lk, sp_lst, sa_lst, sa_lk, sa_tup, sl_ref, sp_ref, sa_ref, ↓c_eqi, ↓c_eqs, ↓c_nei, ↓c_nes, ↓c_lt, ↓c_le, ↓c_gt, ↓c_ge, ↓c_lts, ↓c_les, ↓c_gts, ↓c_ges, ↓c_is, ↓c_isnot, n_non, n_int, n_str, n_bl, n_tup, n_lst, n_ref, ↓u_bl, ↓u_int, ↓u_non, ↓u_tup, ↓u_lst,
  ↓x_t, ↓x_l, ↓x_lk, ↓x_r, ↓x_s, a_0, a_1, a_2, a_3, a_m1, last_in, ixN_last, set_len, ixN_m1, ↓z_r, ↓ik, ↓pk, ↓l_s, ↓l_t, ↓l_l, ↓l_lk, ↓l_r, ↓b_tuple, ↓b_listt, ↓b_listl, ↓b_listk, ↓b_listr, ↓b_lists, ↓b_inti, ↓b_intb, ↓b_abs, ↓b_max, ↓b_min, ↓b_divmod, ↓b_str, ↓b_strs, ↓b_strn, ↓b_any, ↓b_all, ↓b_sum, isiOk, isiD, ↓k_tup, ↓k_lst, ↓k_lk, ↓k_str, e_nw, ↓q_t, ↓q_l, ↓q_lk, ↓q_s, ↓q_r, ↓r_1, ↓r_2, ↓m_join, ↓m_split, ↓st_is, ↓ch_r, ↓set_r, ↓dr_nil, ↓dr_cons, md_s, md_n, ra_s, ra_r, ra_n, mset_mset,
  optD_some, optD_none, Bool.not_true, Bool.not_false, if_true, if_false, Bool.false_eq_true, List.cons_append, List.nil_append, List.length_cons, List.length_nil, Nat.reduceAdd, Nat.reduceLeDiff, true_and, and_true, and_self, decide_true, decide_false, Option.some.injEq, exists_eq', exists_eq, exists_eq_left, exists_eq_left', reduceIte, List.replicate, Nat.reduceSub, List.map_cons, List.map_nil, potAt_new, Int.reduceToNat, Int.reducePow, Int.reduceLT, Int.reduceLE, Int.reduceNeg, Int.reduceAdd, Int.reduceSub, Int.reduceMul, Int.reduceEq, Nat.reducePow, Nat.reduceLT, Nat.reduceMul, or_true, true_or, false_or, or_false, and_false, false_and, e_wn, ixN_0, ixN_1, ↓sh_new, List.set_cons_zero, List.set_cons_succ, eq_self, decide_true])
/-! ### k18: the refusals -/
section
variable {G : Gc} {μ : Mem} {Q : DK} {X : EK}
def clsN : Fin 9 → Str
  | 0 => "NoText" | 1 => "NoPlace" | 2 => "TooMany" | 3 => "NoStep" | 4 => "NoLine" | 5 => "Unknown" | 6 => "NoPipe" | 7 => "Falls" | 8 => "Falling"
theorem ev0 : exI.exv "NoText" = some none := by decide +kernel
theorem ev1 : exI.exv "NoPlace" = some none := by decide +kernel
theorem ev2 : exI.exv "TooMany" = some none := by decide +kernel
theorem ev3 : exI.exv "NoStep" = some none := by decide +kernel
theorem ev4 : exI.exv "NoLine" = some none := by decide +kernel
theorem ev5 : exI.exv "Unknown" = some none := by decide +kernel
theorem ev6 : exI.exv "NoPipe" = some (some (("place" : Str), ("why" : Str), some 18)) := by decide +kernel
theorem ev7 : exI.exv "Falls" = some (some (("place" : Str), ("row" : Str), none)) := by decide +kernel
theorem ev8 : exI.exv "Falling" = some (some (("place" : Str), ("rows" : Str), none)) := by decide +kernel
theorem evc : ∀ i : Fin 9, (exI.exv (clsN i)).isSome = true := by decide +kernel
theorem sb0 : ∀ i : Fin 9, exI.sub (clsN i) "NoText" = some (decide (i.val = 0)) := by decide +kernel
theorem sb1 : ∀ i : Fin 9, exI.sub (clsN i) "NoPlace" = some (decide (i.val = 1)) := by decide +kernel
theorem sb2 : ∀ i : Fin 9, exI.sub (clsN i) "TooMany" = some (decide (i.val = 2)) := by decide +kernel
theorem sb3 : ∀ i : Fin 9, exI.sub (clsN i) "NoStep" = some (decide (i.val = 3)) := by decide +kernel
theorem sb4 : ∀ i : Fin 9, exI.sub (clsN i) "NoLine" = some (decide (i.val = 4)) := by decide +kernel
theorem sb5 : ∀ i : Fin 9, exI.sub (clsN i) "Unknown" = some (decide (i.val = 5)) := by decide +kernel
theorem sb6 : ∀ i : Fin 9, exI.sub (clsN i) "NoPipe" = some (decide (i.val = 6)) := by decide +kernel
theorem sb7 : ∀ i : Fin 9, exI.sub (clsN i) "Falls" = some (decide (i.val = 7)) := by decide +kernel
theorem sb8 : ∀ i : Fin 9, exI.sub (clsN i) "Falling" = some (decide (i.val = 8)) := by decide +kernel
theorem sb9 : ∀ i : Fin 9, exI.sub (clsN i) "PipeError" = some true := by decide +kernel
theorem sb10 : ∀ i : Fin 9, exI.sub (clsN i) "ValueError" = some true := by decide +kernel
theorem fl6a : exI.fld "NoPipe" "place" = true := by decide +kernel
theorem fl6b : exI.fld "NoPipe" "why" = true := by decide +kernel
theorem fl7a : exI.fld "Falls" "place" = true := by decide +kernel
theorem fl7b : exI.fld "Falls" "row" = true := by decide +kernel
theorem fl8a : exI.fld "Falling" "place" = true := by decide +kernel
theorem fl8b : exI.fld "Falling" "rows" = true := by decide +kernel
def e6 (p : D) (w : Str) : D := .exc "NoPipe" ["why", "place"] [.str w, p]
def e7 (p r : D) : D := .exc "Falls" ["row", "place"] [r, p]
def e8 (p l : D) : D := .exc "Falling" ["rows", "place"] [l, p]
def made (p : D) (w : Str) (r l : D) : List D := [.exc "NoText" [] [], .exc "NoPlace" [] [], .exc "TooMany" [] [], .exc "NoStep" [] [], .exc "NoLine" [] [], .exc "Unknown" [] [], e6 p w, e7 p r, e8 p l]
def S18_made : FSpec := fun ds μ Q _ => ∃ (p : D) (w : Str) (r l : D), ds = [p, .str w, r, l] ∧ w.length ≤ 100 ∧ Q (.lst (made p w r l)) μ
theorem wp18_made (hx : G.ex = exI) {p : D} {w : Str} {r l : D} (hw : w.length ≤ 100) (h : Q (.lst (made p w r l)) μ) : wpSs G b18_l_made [some p, some (.str w), some r, some l, none] μ (Ends0 Q) X := by
  unfold b18_l_made
  walk_at "w"
  simp only [hx, ev0, ev1, ev2, ev3, ev4, ev5, ev6, ev7, ev8, optD_some, true_and]
  walk_at "w"
  refine ⟨by rw [sizeLine_eq]; omega, h⟩
def S18_classes : FSpec := fun ds μ Q _ => ∃ (i : Fin 9) (ns : List Str) (l : List D), ds = [.exc (clsN i) ns l] ∧ Q (.lst [.int i.val]) μ
theorem wp18_classes (hx : G.ex = exI) {i : Fin 9} {ns : List Str} {l : List D} (h : Q (.lst [.int i.val]) μ) : wpSs G b18_l_classes [some (.exc (clsN i) ns l), none, none] μ (Ends0 Q) X := by
  unfold b18_l_classes
  walk_at "w"
  simp only [hx, evc, sb0, sb1, sb2, sb3, optD_some, true_and]
  simp only [sb4, sb5, sb6, sb7, sb8, sb9, sb10, optD_some, true_and, Bool.not_true, Bool.false_eq_true, if_false]
  intro p hp
  refine LC_fn (List.range 9) (fun a => D.int (0 + (a : Nat))) (fun k => if i.val = k then some (D.int (k : Nat)) else none) (by decide) trivial (fun a ha R hR => ?_) ?_
  · have ha : a < 9 := List.mem_range.mp ha
    rw [x_r, sl_ref, optD_some, a_nat (by omega)]
    have e : ([D.bl (decide (i.val = 0)), D.bl (decide (i.val = 1)), D.bl (decide (i.val = 2)), D.bl (decide (i.val = 3)), D.bl (decide (i.val = 4)), D.bl (decide (i.val = 5)), D.bl (decide (i.val = 6)), D.bl (decide (i.val = 7)), D.bl (decide (i.val = 8))] : List D) = (List.range 9).map fun k => D.bl (decide (i.val = k)) := rfl
    rw [e, List.getElem?_map, List.getElem?_range (by omega)]
    have e2 : ((0 : Int) + (a : Nat)).toNat = a := by omega
    rw [e2]
    show (if decide (i.val = a) = true then R (some (D.int (0 + (a : Nat)))) _ else R none _)
    by_cases c : i.val = a
    · rw [if_pos c] at hR
      rw [decide_eq_true c, if_pos rfl, Int.zero_add]
      exact hR
    · rw [if_neg c] at hR
      rw [decide_eq_false c, if_neg (by decide)]
      exact hR
  · rw [mdel_mset hp]
    have e : ∀ i : Fin 9, ((List.range 9).filterMap fun k => if i.val = k then some (D.int (k : Nat)) else none) = [D.int (i.val : Nat)] := by
      rintro ⟨i, hi⟩
      rcases i with _ | _ | _ | _ | _ | _ | _ | _ | _ | i
      · rfl
      · rfl
      · rfl
      · rfl
      · rfl
      · rfl
      · rfl
      · rfl
      · rfl
      · omega
    rw [e i]
    exact h
theorem made_at (p : D) (w : Str) (r l : D) : ∀ a, (h : a < 9) → ∃ ns ds, (made p w r l)[a]? = some (.exc (clsN ⟨a, h⟩) ns ds) := by
  intro a h
  rcases a with _ | _ | _ | _ | _ | _ | _ | _ | _ | a
  · exact ⟨_, _, rfl⟩
  · exact ⟨_, _, rfl⟩
  · exact ⟨_, _, rfl⟩
  · exact ⟨_, _, rfl⟩
  · exact ⟨_, _, rfl⟩
  · exact ⟨_, _, rfl⟩
  · exact ⟨_, _, rfl⟩
  · exact ⟨_, _, rfl⟩
  · exact ⟨_, _, rfl⟩
  · omega
theorem made6 {p : D} {w : Str} {r l : D} : atI (made p w r l) 6 = some (e6 p w) := a_nat (by decide)
theorem made7 {p : D} {w : Str} {r l : D} : atI (made p w r l) 7 = some (e7 p r) := a_nat (by decide)
theorem made8 {p : D} {w : Str} {r l : D} : atI (made p w r l) 8 = some (e8 p l) := a_nat (by decide)
section
variable {p r l x : D} {w : Str} {q : D → Prop} {b : Bool → Prop}
theorem at6a : atxD exI (e6 p w) "place" q = q p := by
  have l : List.lookup ("place" : Str) ((["why", "place"] : List Str).zip [.str w, p]) = some p := rfl
  unfold e6
  rw [atx_e, l, ev6, fl6a, optD_some]
  simp only [Option.isSome_some, true_and]
theorem at6b : atxD exI (e6 p w) "why" q = q (.str w) := by
  have l : List.lookup ("why" : Str) ((["why", "place"] : List Str).zip [.str w, p]) = some (.str w) := rfl
  unfold e6
  rw [atx_e, l, ev6, fl6b, optD_some]
  simp only [Option.isSome_some, true_and]
theorem at7a : atxD exI (e7 p r) "place" q = q p := by
  have l : List.lookup ("place" : Str) ((["row", "place"] : List Str).zip [r, p]) = some p := rfl
  unfold e7
  rw [atx_e, l, ev7, fl7a, optD_some]
  simp only [Option.isSome_some, true_and]
theorem at7b : atxD exI (e7 p r) "row" q = q r := by
  have l : List.lookup ("row" : Str) ((["row", "place"] : List Str).zip [r, p]) = some r := rfl
  unfold e7
  rw [atx_e, l, ev7, fl7b, optD_some]
  simp only [Option.isSome_some, true_and]
theorem at8a : atxD exI (e8 p l) "place" q = q p := by
  have l : List.lookup ("place" : Str) ((["rows", "place"] : List Str).zip [l, p]) = some p := rfl
  unfold e8
  rw [atx_e, l, ev8, fl8a, optD_some]
  simp only [Option.isSome_some, true_and]
theorem at8b : atxD exI (e8 p l) "rows" q = q l := by
  have l : List.lookup ("rows" : Str) ((["rows", "place"] : List Str).zip [l, p]) = some l := rfl
  unfold e8
  rw [atx_e, l, ev8, fl8b, optD_some]
  simp only [Option.isSome_some, true_and]
theorem self_eq (h1 : res μ x = x) (h2 : x.ok = true) (h3 : x.dep ≤ 64) (h : b true) : cmpD .eq x x μ b := by
  refine eqD_gen ?_
  rw [h1]
  exact ⟨h2, h2, h3, h3, by rw [show x.eqv x = true from (eqv_nrm x x).mpr rfl]; exact h⟩
theorem self_ne (h1 : res μ x = x) (h2 : x.ok = true) (h3 : x.dep ≤ 64) (h : b false) : cmpD .ne x x μ b := self_eq (b := fun c => b (!c)) h1 h2 h3 h
end
theorem ints_oks : ∀ {l : List Int}, D.oks (l.map D.int) = true
  | [] => rfl
  | _ :: l => by
    show (true && D.oks (l.map D.int)) = true
    rw [ints_oks]
    rfl
theorem ints_deps : ∀ {l : List Int}, D.deps (l.map D.int) = 0
  | [] => rfl
  | _ :: l => by
    show max 0 (D.deps (l.map D.int)) = 0
    rw [ints_deps]
    rfl
def S18_law : FSpec := fun ds μ Q _ => ∃ ns, ds = [eScript ns] ∧ ns.length ≤ 63 ∧ ∀ μ', Q (.bl true) μ'
theorem wp18_law (hx : G.ex = exI) (h1 : G.fn "_law_pot" = S_pot) (h2 : G.fn "_law_draw" = S_draw) (h3 : G.fn "_law_number" = S_number) (h4 : G.fn "_law_word" = S_word) (h5 : G.fn "_law_made" = S18_made) (h6 : G.fn "_law_classes" = S18_classes)
    {ns : List Int} (hl : ns.length ≤ 63) (h : ∀ μ', Q (.bl true) μ') : wpSs G b18_law [some (eScript ns), none, none, none, none, none, none, none] μ (Ends0 Q) X := by
  unfold b18_law
  walk_at "w"
  simp only [h1]
  refine ⟨ns, 0, rfl, by decide, by decide, fun p hp => ?_⟩
  have hpot : potAt (mset μ p (.pot [])) p := ⟨_, mset_same⟩
  generalize mset μ p (.pot []) = μ1 at hpot
  walk_at "w"
  simp only [h2]
  refine ⟨p, 3, rfl, hpot, ⟨by decide, by decide⟩, fun t t0 t1 => ?_⟩
  walk_at "w"
  refine ⟨by omega, by omega, ?_⟩
  refine LC_rel (List.range (1 + 2 * t).toNat) (fun i => D.int (0 + (i : Nat))) (fun _ d => ∃ c : Int, d = .int c) (by rw [List.length_range]; omega) trivial (fun x _ R hR => ⟨p, 20, rfl, hpot, ⟨by decide, by decide⟩, fun c _ _ => hR _ ⟨c, rfl⟩⟩) fun ds hds => ?_
  obtain ⟨cs, rfl, _, _⟩ := all2_ex D.int (R := fun _ => True) (fun _ b ⟨c, e⟩ => ⟨c, e, trivial⟩) hds
  have p1 : (D.tup (cs.map D.int)).ok = true := by
    exact ints_oks
  have p2 : (D.tup (cs.map D.int)).dep ≤ 64 := by
    show D.deps _ + 1 ≤ 64
    rw [ints_deps]
    decide
  have p3 : ∀ μ, res μ (D.tup (cs.map D.int)) = D.tup (cs.map D.int) := fun _ => rfl
  generalize D.tup (cs.map D.int) = pl at p1 p2 p3
  refine ⟨p, 5, rfl, hpot, ⟨by decide, by decide⟩, fun t2 u0 u1 => ?_⟩
  simp only [x_l]
  refine at_any u0 (show t2 < 5 from u1) fun d hd => ?_
  obtain ⟨w, rfl, hw1⟩ : ∃ w, d = .str w ∧ w.length ≤ 100 := by
    simp only [List.mem_cons, List.not_mem_nil, or_false] at hd
    rcases hd with rfl | rfl | rfl | rfl | rfl <;> exact ⟨_, rfl, by decide⟩
  simp only [h3]
  refine ⟨p, rfl, hpot, fun n n0 n1 => ?_⟩
  simp only [h4]
  refine ⟨p, rfl, hpot, fun s hs => ?_⟩
  refine ⟨p, rfl, hpot, fun n2 m0 m1 => ?_⟩
  refine ⟨p, 2, rfl, hpot, ⟨by decide, by decide⟩, fun t3 v0 v1 => ?_⟩
  have so : (D.str s).ok = true := word_ok hs
  have r1 : (D.tup [.int n, .str s]).ok = true := by
    show (true && ((D.str s).ok && true)) = true
    rw [so]
    rfl
  have r2 : (D.tup [.int n, .str s]).dep ≤ 64 := by show (max 0 (max 0 0)) + 1 ≤ 64; decide
  have l0 : (D.lst (cutD [D.tup [.int n, .str s], D.tup [.int n2, .str ⟨#[97]⟩]] none (some (1 + t3)))).ok = true ∧ (D.lst (cutD [D.tup [.int n, .str s], D.tup [.int n2, .str ⟨#[97]⟩]] none (some (1 + t3)))).dep ≤ 64 := by
    have c01 : t3 = 0 ∨ t3 = 1 := by omega
    rcases c01 with rfl | rfl
    · have e : cutD [D.tup [.int n, .str s], D.tup [.int n2, .str ⟨#[97]⟩]] none (some (1 + 0)) = [D.tup [.int n, .str s]] := rfl
      rw [e]
      refine ⟨?_, ?_⟩
      · show ((D.tup [.int n, .str s]).ok && true) = true
        rw [r1]
        rfl
      · show max ((max 0 (max 0 0)) + 1) 0 + 1 ≤ 64
        decide
    · have e : cutD [D.tup [.int n, .str s], D.tup [.int n2, .str ⟨#[97]⟩]] none (some (1 + 1)) = [D.tup [.int n, .str s], D.tup [.int n2, .str ⟨#[97]⟩]] := rfl
      rw [e]
      refine ⟨?_, ?_⟩
      · show ((D.tup [.int n, .str s]).ok && ((true && ((D.str ⟨#[97]⟩).ok && true)) && true)) = true
        rw [r1, show (D.str ⟨#[97]⟩).ok = true by decide +kernel]
        rfl
      · show max ((max 0 (max 0 0)) + 1) (max ((max 0 (max 0 0)) + 1) 0) + 1 ≤ 64
        decide
  obtain ⟨l1, l2⟩ := l0
  walk_at "w"
  generalize hrl : cutD [D.tup [.int n, .str s], D.tup [.int n2, .str ⟨#[97]⟩]] none (some (1 + t3)) = rl at l1 l2
  generalize hrw : D.tup [.int n, .str s] = rw1 at r1 r2
  have r3 : ∀ μ, res μ rw1 = rw1 := fun _ => by rw [← hrw]; rfl
  simp only [h5]
  refine ⟨_, w, _, _, rfl, hw1, ?_⟩
  walk_at "w"
  refine LP_look (List.range 9) (fun i => D.int (0 + (i : Nat))) (fun _ => True) trivial (fun done a rest e _ => ⟨trivial, fun N hN => ?_⟩) fun _ => ⟨trivial, ?_⟩
  · have ha : a < 9 := by
      have : a ∈ List.range 9 := by rw [e]; simp
      exact List.mem_range.mp this
    walk_at "w"
    obtain ⟨xs, ys, e1⟩ := made_at pl w rw1 (.lst rl) a ha
    rw [a_nat (by omega), show ((0 : Int) + (a : Nat)).toNat = a by omega, e1, optD_some]
    simp only [h6]
    refine ⟨⟨a, ha⟩, xs, ys, rfl, ?_⟩
    rw [Int.zero_add]
    refine self_ne rfl rfl (by show max 0 0 + 1 ≤ 64; decide) ?_
    rw [if_neg (by decide)]
    exact hN trivial
  · try walk_at "w"
    simp only [made6, made7, made8, hx, optD_some, at6a, at6b, at7a, at7b, at8a, at8b]
    refine self_ne (p3 _) p1 p2 ?_
    rw [if_neg (by decide)]
    rw [c_nes, decide_eq_true rfl]
    rw [if_neg (by decide)]
    refine self_ne (p3 _) p1 p2 ?_
    rw [if_neg (by decide)]
    refine self_ne (r3 _) r1 r2 ?_
    rw [if_neg (by decide)]
    refine self_eq (p3 _) p1 p2 ?_
    rw [if_pos rfl]
    exact self_eq rfl l1 l2 (h _)
end
end DL
/-! The law itself, called where nothing is being told (repr) around. -/
namespace DL
open PySem PySem.Spec PyProof.Rows L2
def gcG (defs : List DefD) (cst : Str → Option D) (ex : ExI) (n : Nat) : Gc := { gcOf defs cst ex n with grd := true }
section
variable {P : Program} {w : World} {K : PySem.W.Frag} {mg : Str → Option Value} {defs : List DefD} {cst : Str → Option D} {ex : ExI}
/-- a def's run at the top -/
theorem top_run {base : Heap} (T : Top P w K mg defs cst ex) (kp : Keeps defs cst ex) (n : Nat) {d : DefD} (hd : d ∈ defs) {f : Addr} {fd : FuncData} (at_ : At K mg d f fd) (hr : Room (n + 2 + 1) callerA) {s : Shared} {H : Hp} {args : Args} {us : List Value} {vs : List V} {Q : VK} {F1 : Addr → Prop} {μ : Mem} {ds : List D} {Qd : DK}
    (e0 : Env0 P w K mg base callerA [] s H) (hb : BindsTo s fd args (d.ps.zip us)) (r : Vals vs us) (m : MS K H F1 μ) (rd : RDs K H F1 vs ds) (hl : ds.length = d.ps.length)
    (hw : wpSs (gcG defs cst ex n) d.body (startR d.N ds) μ { nx := fun _ μ' => Qd .non μ', rt := Qd } E0k) (k : ∀ v H', Post K H F1 μ Qd v H' → Q v H') :
    codeAny (model P w) callerA (.call (.ref f) args) (CR (L2.CX P w) [] P w H s Q fun _ _ _ => False) s := by
  obtain ⟨F, hm, hbi⟩ := at_
  obtain ⟨c1, c2⟩ := b2 (List.all_eq_true.mp (T.chk n) d hd)
  obtain ⟨c2, c3⟩ := b2 c2
  have sc := scopeB_ok c1
  obtain ⟨oc, od, kV, doc, pm, an, cdv, ct, osl, efd, lk, hcd⟩ := F.ex
  subst efd
  have inK : K.In s.heap := e0.mod.kin.keeps fun c o z => (e0.bs c o z).1
  have free : s.heap.NoLimit := e0.mod.nolimit.keeps fun c o z => (e0.bs c o z).1
  have nk : ∀ y ∈ d.ps.zip us, (defScope d.st).names.lookup y.1 = some .local ∨ ((defScope d.st).names.lookup y.1 = some .cell ∧ ((cellsFrom (s.heap.objs.size + 1) (defScope d.st).names []).lookup y.1).isSome = true) := fun ⟨y, v⟩ hy =>
    (sc.par y (List.of_mem_zip hy).1).imp id fun z => ⟨z, PySem.W.cellsFrom_some _ _ _ (.inl z)⟩
  have lv : vs.length = d.ps.length := rd.length.trans hl
  refine codeAny_call_function hr.depth (inK _ _ lk) rfl sc.co sc.gen rfl (PySem.W.codeRec_of inK hcd) (hb _ _ _ _ ?_)
  refine wpAny_newFunctionEnv_cells sc.kind nk fun env he s2 ic => ?_
  subst he
  refine ⟨free.keeps ic.toInCall.keep, codeAny_func ?_⟩
  let X := cxOf (L2.CX P w) P w K mg base d.N d.name (defScope d.st) f cdv callerA [] s H fun _ _ _ => False
  have hr2 : Room (n + 2) X.A := hr.deeper _
  have tk : L2.Takes X (fun _ _ _ _ => False) := takes0
  have sx : SX (gcG defs cst ex n) X d.N (defScope d.st) := {
    hN := rfl
    nd := sc.nd
    esc := rfl
    kind := sc.kind
    calm := rfl
    un := by have := hr2.un; omega
    gd := fun _ => rfl
    rm2 := hr2.mono (by omega)
    own := fun _ => passes_of rfl
    fr := ⟨_, _, _, rfl, rfl, rfl⟩
    blt := T.blt
    ex := T.exo
    cst := T.cs
    fn := fun g hg => by
      obtain ⟨d2, h1, h2, h3⟩ := specOf_mem (n := n) hg
      obtain ⟨f2, fd2, at2⟩ := T.at_ d2 h1
      refine ⟨n + 2, f2, fd2, d2.ps, ?_, hr2, by rw [← h2]; exact at2.2.1, at2.1.kp, at2.2.2⟩
      show FnOk P w K mg base (L2.CX P w) (n + 2) f2 fd2 d2.ps (spOf K mg (specOf defs n g))
      rw [h3]
      exact defs_ok T kp n d2 h1 f2 fd2 at2 }
  have sd := sndSs d.N (defScope d.st) d.body X sx (fun _ => rfl) ⟨rfl, rfl⟩ (defBody d.st) c3 (startR d.N ds) μ _ _ hw
  have I : Inv X [] (L2.start d.N vs) H s2 := inv_start sc hr.hd e0 lv r ic
  have wd := sd (L2.start d.N vs) H F1 ⟨start_env rd, (Takes.toF rfl tk).imp fun cls dd _ H' ⟨_, _, _, _, _, _, _, _, z⟩ => z.elim⟩ m
  refine wpAny_mono (pss_wss.run [] s2 (L2.start d.N vs) H _ I (wd.mono (K' := { nx := fun _ H' => Q .non H', rt := Q }) ⟨fun σ' H' ⟨ρ', F', μ', g, m', e', q⟩ => k _ _ ⟨_, F', μ', g, m', .non, q⟩, fun v H' q => k _ _ q, fun σ' H' ⟨_, _, _, _, _, _, q⟩ => q.elim, fun σ' H' ⟨_, _, _, _, _, _, q⟩ => q.elim⟩)) (fun fl s' hs => ?_) fun e s' hs => hs
  cases fl with
  | ret u =>
    obtain ⟨v, σ', H', J, rv, q⟩ := hs
    exact ⟨v, H', J.os, J.bare, J.base, J.hok, rv, q⟩
  | next =>
    obtain ⟨σ', H', J, q⟩ := hs
    exact ⟨.non, H', J.os, J.bare, J.base, J.hok, rfl, q⟩
  | brk => obtain ⟨_, _, _, q⟩ := hs; exact q.elim
  | cont => obtain ⟨_, _, _, q⟩ := hs; exact q.elim
/-- the script stands, the law is called -/
theorem top_law {mb : Str → Option Value} {fa sc : Addr} {st : Shared} {vs : List Value} {ns : List Int} (inK : K.In st.heap) (gl : st.heap.Ns mainGlobals mg) (bl : st.heap.Ns builtinsNs mb) (bb : ∀ x : Str, x ≠ "__name__" → mb x = bootBuiltins x) (nl : st.heap.NoLimit)
    (g0 : st.gens = #[]) (hs : st.heap.get? sc = some { cls := .type "list", data := .seq vs.toArray }) (iv : IntsAre vs ns) (len : ns.length ≤ sizeLine)
    (run : ∀ (base : Heap) (H : Hp), Env0 P w K mg base callerA [] st H → Only H → SqL K H sc (ns.map V.int) → codeAny (model P w) callerA (.call (.ref fa) ⟨[.ref sc], []⟩) (CR (L2.CX P w) [] P w H st (fun v _ => v = .bl true) fun _ _ _ => False) st) :
    codeAny (model P w) callerA (.call (.ref fa) ⟨[.ref sc], []⟩) (fun r t => r = .ok (.ret (.bool true)) ∧ OldK st.heap t.heap ∧ t.os = st.os ∧ AllBare t.gens) st := by
  have rv := vals_ints iv
  have lv := iv.length
  have go : ∀ H : Hp, Only H → SqL K H sc (ns.map V.int) → HOk P w H st.heap → (∀ c, H c ≠ none → c = sc ∧ K.lookup sc = none) → codeAny (model P w) callerA (.call (.ref fa) ⟨[.ref sc], []⟩) (fun r t => r = .ok (.ret (.bool true)) ∧ OldK st.heap t.heap ∧ t.os = st.os ∧ AllBare t.gens) st := fun H on sq ok only => by
    have stays : ∀ {c : Addr} {o : Obj}, st.heap.get? c = some o → H c = none → (hidT st.heap H).get? c = some o := fun z q => hidT_get z q
    have noDict : ∀ {c : Addr} {o : Obj} {es : Array DictEntry} {ep : Nat}, st.heap.get? c = some o → o.data = .dict es ep → H c = none := fun {c o es ep} z q => by
      by_cases hc : H c = none
      · exact hc
      · obtain ⟨rfl, _⟩ := only c hc
        rw [hs] at z
        cases z
        cases (show Data.seq vs.toArray _ = Data.dict es ep from q)
    have nsH : ∀ {c : Addr} {m : Str → Option Value}, st.heap.Ns c m → (hidT st.heap H).Ns c m := fun ⟨o, es, ep, z, q, r⟩ => ⟨o, es, ep, stays z (noDict z q), q, r⟩
    have kH : K.In (hidT st.heap H) := fun c o z => stays (inK c o z) (by
      by_cases hc : H c = none
      · exact hc
      · obtain ⟨rfl, hn⟩ := only c hc
        rw [hn] at z
        cases z)
    have md : Mod K mg (hidT st.heap H) := ⟨kH, nsH gl, ⟨mb, nsH bl, bb⟩, by obtain ⟨mc, h1, h2⟩ := nl; exact ⟨mc, nsH h1, h2⟩⟩
    have ev : Env0 P w K mg (hidT st.heap H) callerA [] st H := ⟨rfl, md, fun c o z => of_hidT z, Nat.le_of_eq (hidT_size _ _), trivial, fun c hc => absurd (show c ∈ ([] : List Addr) from hc) List.not_mem_nil, ok, .of_eq g0⟩
    refine codeAny_mono (run _ H ev on sq) fun r t h => ?_
    rcases r with e | fl
    · obtain ⟨_, _, _, _, _, _, _, _, _, _, _, _, z⟩ := h
      exact z.elim
    · cases fl with
      | ret u =>
        obtain ⟨v, H', os, bare, un, ok', rr, rfl⟩ := h
        obtain rfl : u = Value.bool true := rr
        refine ⟨rfl, OldK.of_keep fun c o z => ?_, os, bare⟩
        rcases on c with q | ⟨oc, xs, q⟩
        · exact un.keep c o z q (fun y => absurd (show c ∈ ([] : List Addr) from y) List.not_mem_nil) List.not_mem_nil
        · obtain ⟨e1, _⟩ := ok c _ q
          obtain ⟨e2, _⟩ := ok' c _ (un.frzs c oc _ q)
          rw [z] at e1
          cases e1
          exact e2
      | _ => exact h.elim
  rcases hk : K.lookup sc with _ | o
  · let it : HO := .frz { cls := .type "list", data := .seq vs.toArray } (.lst (ns.map V.int))
    refine go (fun c => if c = sc then some it else none) (fun c => ?_) (.inl (.inr ⟨_, if_pos rfl⟩)) (fun c u z => ?_) fun c z => ?_
    · by_cases q : c = sc
      · exact .inr ⟨_, _, if_pos q⟩
      · exact .inl (if_neg q)
    · by_cases q : c = sc
      · have z := (if_pos q).symm.trans z
        cases z
        subst q
        exact ⟨hs, by rw [List.length_map]; exact len, vs, _, rv, hs⟩
      · cases (if_neg q).symm.trans z
    · by_cases q : c = sc
      · exact ⟨q, hk⟩
      · exact absurd (if_neg q) z
  · have z := inK sc o hk
    rw [hs] at z
    cases z
    exact go (fun _ => none) (fun _ => .inl rfl) (.inr ⟨_, vs.toArray, _, hk, rfl, rfl, rfl, by rw [List.size_toArray, lv]; exact len, by simpa using rv⟩) (fun _ _ z => (nomatch z)) fun _ z => absurd rfl z
end
/-- the goal that is left of a law -/
theorem walk_top {l : PySem.W.OpenLaw} {num k : Nat} {q : Program} {loose : List Str} {XP : (Str → Option Value) → Heap → Prop} {YP : World → Heap → Prop} {dr : DefRec} {K : Params → PySem.W.Frag} {defs : List DefD} {cst : Str → Option D} {ex : ExI} {d : DefD} {x : Str}
    (hn : l.most = some num) (hn2 : num ≤ sizeLine) (hdf : dr.params.defaults = []) (hr : Room (k + 2 + 1) callerA) (hY : ∀ (w : World) (h : Heap), YP w h → (K w.params).In h) (hnm : dr.name = "law")
    (top : ∀ (w : World) (mg : Str → Option Value) (fa : Addr) (h : Heap), (K w.params).In h → h.Ns mainGlobals mg → mg "law" = some (.ref fa) → Top l.prog w (K w.params) mg defs cst ex ∧ ∃ fd, At (K w.params) mg d fa fd ∧ ∀ (s : Shared) (u : Value), BindsTo s fd ⟨[u], []⟩ [(x, u)])
    (kp : Keeps defs cst ex) (hd : d ∈ defs) (hx : d.ps = [x])
    (hw : ∀ ns : List Int, ns.length ≤ num → wpSs (gcG defs cst ex k) d.body (startR d.N [.lk (ns.map .int)]) (fun _ => none) { nx := fun _ μ' => (fun v (_ : Mem) => v = D.bl true) .non μ', rt := fun v _ => v = .bl true } E0k) :
    PySem.W.WalkO q loose XP YP l.row.toRowW dr [] (fun f vs => PySem.call f vs) := by
  refine Att.attach_call hn hdf fun w s₀ s₁ mg mb fa o pm cd doc a vs ns G Y ho hdt hcd hmg hobj hints hlen hg => ?_
  have inK := hY w _ Y
  rw [hnm] at hmg
  obtain ⟨T, fd, at_, bd⟩ := top w mg fa _ inK G.T.g hmg
  refine top_law inK G.T.g G.T.b G.T.builtins G.T.nolimit hg hobj hints (Nat.le_trans hlen hn2) fun base H ev on sq => ?_
  refine top_run T kp k hd at_ hr (F1 := fun _ => False) (μ := fun _ => none) (Qd := fun v _ => v = .bl true) ev (by rw [hx]; exact bd _ _) (vs := [.ref a]) (ds := [.lk (ns.map .int)]) (.cons rfl .nil) ⟨fun a o e => (nomatch e), fun a f => f.elim⟩ (.cons (.lk ?_ .of_ints) .nil) (by rw [hx]; rfl) ?_ fun v H' p => ?_
  · rcases sq with (e | ⟨o, e⟩) | ⟨o, its, n, h1, h2, h3, h4, h5, h6⟩
    · rcases on a with z | ⟨o, xs, z⟩
      · rw [e] at z; cases z
      · rw [e] at z; cases z
    · exact .inl ⟨o, e⟩
    · exact .inr ⟨o, its, n, h1, h2, h3, h4, h5, h6⟩
  · have q := hw ns hlen
    exact q
  · obtain ⟨d, F', μ', _, _, r, rfl⟩ := p
    cases r
    rfl
end DL
/-! What walk_top asks, out of what the linked text shows. -/
namespace DL
open PySem PySem.Spec PyProof.Rows L2
theorem top_at {P : Program} {w : World} {K : PySem.W.Frag} {mg : Str → Option Value} {defs : List DefD} {cst : Str → Option D} {ex : ExI} {h : Heap} {fa : Addr} (KX : K.In h) (G : h.Ns mainGlobals mg) {x : Str} {d : DefD} (hfa : mg "law" = some (.ref fa)) (hex : ExOk ex K mg) (ck : ∀ n, defs.all (chkD (gcOf defs cst ex n).has) = true) (hb : Bds defs)
    (hd : d ∈ defs) (hn : d.name = "law") (hx : d.ps = [x]) (hk : KDefs K defs) (hz : KNone K bltNames) (hc : ∀ x d, cst x = some d → ∃ v u, mg x = some u ∧ RelV v u ∧ ∀ H F, RD K H F v d) :
    Top P w K mg defs cst ex ∧ ∃ fd, At K mg d fa fd ∧ ∀ (s : Shared) (u : Value), BindsTo s fd ⟨[u], []⟩ [(x, u)] := by
  have at_ : ∀ e ∈ defs, ∃ f fd, At K mg e f fd := fun e he => by
    obtain ⟨f, oc, od, an, sl, kV, dc, pm, cd, ct, a, l, c, kk⟩ := (hk e he).ex
    have F := fun_mk l c kk
    exact ⟨f, _, F, PySem.W.mg_of KX G a, F.binds (hb e he)⟩
  have T : Top P w K mg defs cst ex := ⟨at_, fun x hx => PySem.W.mg_none_of KX G (hz x hx), hc, hex, ck⟩
  obtain ⟨f, oc, od, an, sl, kV, dc, pm, cd, ct, a, l, c, kk⟩ := (hk d hd).ex
  have F := fun_mk l c kk
  have e1 : mg d.name = some (.ref f) := PySem.W.mg_of KX G a
  have e2 : f = fa := by
    rw [hn, hfa] at e1
    cases e1
    rfl
  subst e2
  exact ⟨T, _, ⟨F, e1, F.binds (hb d hd)⟩, fun s u => .of_eq ((hb d hd kV dc pm an cd ct [u] (by rw [hx]; rfl)).trans (by rw [hx]; rfl))⟩
end DL
namespace DL
open PySem PySem.Spec PyProof.Rows L2
def topS (i : Nat) : Stmt := PySem.Challenge.pw_rowpipes_k18_refusals.main.body.getD i (.Pass ⟨0, 0, 0, 0⟩)
def d_l_cell_at : DefD := ⟨"_law_cell_at", topS 12, ["_law_script", "_law_k"], ["_law_script", "_law_k"], b_l_cell_at, lvS 1 S_cell_at⟩
def d_l_pot : DefD := ⟨"_law_pot", topS 13, ["_law_script", "_law_k", "_law_cell"], ["_law_script", "_law_k"], b_l_pot, lvS 2 S_pot⟩
def d_l_draw : DefD := ⟨"_law_draw", topS 14, ["_law_pot_here", "_law_many", "_law_digit"], ["_law_pot_here", "_law_many"], b_l_draw, lvS 1 S_draw⟩
def d_l_number : DefD := ⟨"_law_number", topS 15, ["_law_pot_here", "_law_near", "_law_far"], ["_law_pot_here"], b_l_number, lvS 2 S_number⟩
def d_l_word : DefD := ⟨"_law_word", topS 16, ["_law_pot_here", "_law_letters", "_law_some", "_law_k"], ["_law_pot_here"], b_l_word, lvS 2 S_word⟩
def d_l_made : DefD := ⟨"_law_made", topS 17, ["_law_place", "_law_why", "_law_row", "_law_rows", "_law_simple"], ["_law_place", "_law_why", "_law_row", "_law_rows"], b18_l_made, lvS 1 S18_made⟩
def d_l_classes : DefD := ⟨"_law_classes", topS 18, ["_law_e", "_law_some", "_law_k"], ["_law_e"], b18_l_classes, lvS 1 S18_classes⟩
def d_law : DefD := ⟨"law", topS 19, ["_law_script", "_law_pot_here", "_law_place", "_law_why", "_law_row", "_law_rows", "_law_made_here", "_law_k"], ["_law_script"], b18_law, lvS 3 S18_law⟩
def defs : List DefD := [d_l_cell_at, d_l_pot, d_l_draw, d_l_number, d_l_word, d_l_made, d_l_classes, d_law]
theorem names_nd : (defs.map (·.name)).Nodup := by decide +kernel
def hasD (f : Str) : Bool := defs.any fun d => decide (d.name = f)
theorem ck_l_cell_at : chkD hasD d_l_cell_at = true := by decide +kernel
theorem ck_l_pot : chkD hasD d_l_pot = true := by decide +kernel
theorem ck_l_draw : chkD hasD d_l_draw = true := by decide +kernel
theorem ck_l_number : chkD hasD d_l_number = true := by decide +kernel
theorem ck_l_word : chkD hasD d_l_word = true := by decide +kernel
theorem ck_l_made : chkD hasD d_l_made = true := by decide +kernel
theorem ck_l_classes : chkD hasD d_l_classes = true := by decide +kernel
theorem ck_law : chkD hasD d_law = true := by decide +kernel
theorem chk_all (cst : Str → Option D) (n : Nat) : defs.all (chkD (gcOf defs cst exI n).has) = true := by
  show defs.all (chkD hasD) = true
  simp only [defs, List.all_cons, List.all_nil, ck_l_cell_at, ck_l_pot, ck_l_draw, ck_l_number, ck_l_word, ck_l_made, ck_l_classes, ck_law, Bool.and_self]
theorem bd_l_cell_at : Bd d_l_cell_at := fun _ _ _ _ _ _ us hl => match us, hl with | [_, _], _ => rfl
theorem bd_l_pot : Bd d_l_pot := fun _ _ _ _ _ _ us hl => match us, hl with | [_, _], _ => rfl
theorem bd_l_draw : Bd d_l_draw := fun _ _ _ _ _ _ us hl => match us, hl with | [_, _], _ => rfl
theorem bd_l_number : Bd d_l_number := fun _ _ _ _ _ _ us hl => match us, hl with | [_], _ => rfl
theorem bd_l_word : Bd d_l_word := fun _ _ _ _ _ _ us hl => match us, hl with | [_], _ => rfl
theorem bd_l_made : Bd d_l_made := fun _ _ _ _ _ _ us hl => match us, hl with | [_, _, _, _], _ => rfl
theorem bd_l_classes : Bd d_l_classes := fun _ _ _ _ _ _ us hl => match us, hl with | [_], _ => rfl
theorem bd_law : Bd d_law := fun _ _ _ _ _ _ us hl => match us, hl with | [_], _ => rfl
theorem bds : Bds defs := (bcons bd_l_cell_at (bcons bd_l_pot (bcons bd_l_draw (bcons bd_l_number (bcons bd_l_word (bcons bd_l_made (bcons bd_l_classes (bcons bd_law bnil))))))))
section
variable {n : Nat} {cst : Str → Option D}
theorem fn_l_cell_at (h : 1 ≤ n) : (gcOf defs cst exI n).fn "_law_cell_at" = S_cell_at := fn_at names_nd 0 rfl (d := d_l_cell_at) rfl h
theorem fn_l_pot (h : 2 ≤ n) : (gcOf defs cst exI n).fn "_law_pot" = S_pot := fn_at names_nd 1 rfl (d := d_l_pot) rfl h
theorem fn_l_draw (h : 1 ≤ n) : (gcOf defs cst exI n).fn "_law_draw" = S_draw := fn_at names_nd 2 rfl (d := d_l_draw) rfl h
theorem fn_l_number (h : 2 ≤ n) : (gcOf defs cst exI n).fn "_law_number" = S_number := fn_at names_nd 3 rfl (d := d_l_number) rfl h
theorem fn_l_word (h : 2 ≤ n) : (gcOf defs cst exI n).fn "_law_word" = S_word := fn_at names_nd 4 rfl (d := d_l_word) rfl h
theorem fn_l_made (h : 1 ≤ n) : (gcOf defs cst exI n).fn "_law_made" = S18_made := fn_at names_nd 5 rfl (d := d_l_made) rfl h
theorem fn_l_classes (h : 1 ≤ n) : (gcOf defs cst exI n).fn "_law_classes" = S18_classes := fn_at names_nd 6 rfl (d := d_l_classes) rfl h
theorem fn_law (h : 3 ≤ n) : (gcOf defs cst exI n).fn "law" = S18_law := fn_at names_nd 7 rfl (d := d_law) rfl h
end
def cst (x : Str) : Option D := none
theorem cst_ok {K : PySem.W.Frag} {mg : Str → Option Value} : ∀ x d, cst x = some d → ∃ v u, mg x = some u ∧ RelV v u ∧ ∀ H F, RD K H F v d := fun _ _ h => nomatch h
section
variable {n : Nat}
theorem kp_l_cell_at : Keep1 defs cst exI d_l_cell_at := keep_lv (S := S_cell_at) rfl fun n ds μ Q X hn h => by
  obtain ⟨ns, k, rfl, h1, h⟩ := h
  exact ⟨rfl, wp_cell_at h1 h⟩
theorem kp_l_pot : Keep1 defs cst exI d_l_pot := keep_lv (S := S_pot) rfl fun n ds μ Q X hn h => by
  obtain ⟨ns, k, rfl, h1, h2, h⟩ := h
  exact ⟨rfl, wp_pot (fn_l_cell_at (by omega)) h1 h2 h⟩
theorem kp_l_draw : Keep1 defs cst exI d_l_draw := keep_lv (S := S_draw) rfl fun n ds μ Q X hn h => by
  obtain ⟨a, m, rfl, h1, h2, h⟩ := h
  exact ⟨rfl, wp_draw h1 h2 h⟩
theorem kp_l_number : Keep1 defs cst exI d_l_number := keep_lv (S := S_number) rfl fun n ds μ Q X hn h => by
  obtain ⟨a, rfl, h1, h⟩ := h
  exact ⟨rfl, wp_number (fn_l_draw (by omega)) h1 h⟩
theorem kp_l_word : Keep1 defs cst exI d_l_word := keep_lv (S := S_word) rfl fun n ds μ Q X hn h => by
  obtain ⟨a, rfl, h1, h⟩ := h
  exact ⟨rfl, wp_word (fn_l_draw (by omega)) h1 h⟩
theorem kp_l_made : Keep1 defs cst exI d_l_made := keep_lv (S := S18_made) rfl fun n ds μ Q X hn h => by
  obtain ⟨p, w, r, l, rfl, h1, h⟩ := h
  exact ⟨rfl, wp18_made rfl h1 h⟩
theorem kp_l_classes : Keep1 defs cst exI d_l_classes := keep_lv (S := S18_classes) rfl fun n ds μ Q X hn h => by
  obtain ⟨i, ns, l, rfl, h⟩ := h
  exact ⟨rfl, wp18_classes rfl h⟩
theorem kp_law : Keep1 defs cst exI d_law := keep_lv (S := S18_law) rfl fun n ds μ Q X hn h => by
  obtain ⟨ns, rfl, h1, h⟩ := h
  exact ⟨rfl, wp18_law rfl (fn_l_pot (by omega)) (fn_l_draw (by omega)) (fn_l_number (by omega)) (fn_l_word (by omega)) (fn_l_made (by omega)) (fn_l_classes (by omega)) h1 h⟩
end
theorem keeps : Keeps defs cst exI := show KeepL defs cst exI defs from (pcons kp_l_cell_at (pcons kp_l_pot (pcons kp_l_draw (pcons kp_l_number (pcons kp_l_word (pcons kp_l_made (pcons kp_l_classes (pcons kp_law pnil))))))))
theorem gG {n : Nat} (f : Str) : (gcG defs cst exI n).fn f = (gcOf defs cst exI n).fn f := rfl
theorem law_gen {n : Nat} (hn : 3 ≤ n) {ns : List Int} (hl : ns.length ≤ 63) : wpSs (gcG defs cst exI n) b18_law [some (eScript ns), none, none, none, none, none, none, none] (fun _ => none) (Ends0 fun v _ => v = D.bl true) E0k :=
  wp18_law (G := gcG defs cst exI n) rfl ((gG _).trans (fn_l_pot (by omega))) ((gG _).trans (fn_l_draw (by omega))) ((gG _).trans (fn_l_number (by omega))) ((gG _).trans (fn_l_word (by omega))) ((gG _).trans (fn_l_made (by omega))) ((gG _).trans (fn_l_classes (by omega))) hl fun _ => rfl
theorem law_in {ns : List Int} (hl : ns.length ≤ 63) : wpSs (gcG defs cst exI 3) d_law.body (startR d_law.N [.lk (ns.map .int)]) (fun _ => none) { nx := fun _ μ' => (fun v (_ : Mem) => v = D.bl true) .non μ', rt := fun v _ => v = .bl true } E0k :=
  law_gen (Nat.le_refl 3) hl
end DL
open PySem PySem.W PyProof.Rows
set_option maxHeartbeats 0 in
theorem PySem.Challenge.cw_rowpipes_k18_refusals_holds : PySem.Challenge.rw_rowpipes_k18_refusals.Holds := by
  w_on; o_law; k_head; (case hw => w_witness2)
  k_fill
  refine DL.walk_top (l := PySem.Challenge.rw_rowpipes_k18_refusals) (num := 63) (k := 3) (x := "_law_script") (defs := DL.defs) (cst := DL.cst) (ex := DL.exI) (d := DL.d_law) rfl (by decide) rfl ⟨rfl, by decide, by decide⟩ (fun w h Y => PySem.W.kIn_of Y) rfl ?F DL.keeps (List.mem_of_getElem? (i := 7) rfl) rfl (fun ns hl => DL.law_in hl)
  case F =>
    intro w mg fa h KX G hmg
    refine' DL.top_at (defs := DL.defs) (cst := DL.cst) (ex := DL.exI) (d := DL.d_law) KX G hmg (DL.ex_ok KX G ?e_n0 ?e_b0 ?e_t0 ?e_i0 ?e_n1 ?e_b1 ?e_t1 ?e_i1 ?e_n2 ?e_b2 ?e_t2 ?e_i2 ?e_n3 ?e_b3 ?e_t3 ?e_i3 ?e_n4 ?e_b4 ?e_t4 ?e_i4 ?e_n5 ?e_b5 ?e_t5 ?e_i5 ?e_n6 ?e_b6 ?e_t6 ?e_i6 ?e_n7 ?e_b7 ?e_t7 ?e_i7 ?e_n8 ?e_b8 ?e_t8 ?e_i8 ?e_n9 ?e_b9 ?e_t9 ?e_i9 ?e_y1 ?e_y2 ?e_y3 ?e_k0 ?e_g0 ?e_h0 ?e_d0 ?e_a0 ?e_m0 ?e_s0_0 ?e_s0_1 ?e_s0_2 ?e_s0_3 ?e_s0_4 ?e_s0_5 ?e_s0_6 ?e_s0_7 ?e_s0_8 ?e_s0_9 ?e_s0_ValueError ?e_x0 ?e_k1 ?e_g1 ?e_h1 ?e_d1 ?e_a1 ?e_m1 ?e_s1_0 ?e_s1_1 ?e_s1_2 ?e_s1_3 ?e_s1_4 ?e_s1_5 ?e_s1_6 ?e_s1_7 ?e_s1_8 ?e_s1_9 ?e_s1_ValueError ?e_x1 ?e_k2 ?e_g2 ?e_h2 ?e_d2 ?e_a2 ?e_m2 ?e_s2_0 ?e_s2_1 ?e_s2_2 ?e_s2_3 ?e_s2_4 ?e_s2_5 ?e_s2_6 ?e_s2_7 ?e_s2_8 ?e_s2_9 ?e_s2_ValueError ?e_x2 ?e_k3 ?e_g3 ?e_h3 ?e_d3 ?e_a3 ?e_m3 ?e_s3_0 ?e_s3_1 ?e_s3_2 ?e_s3_3 ?e_s3_4 ?e_s3_5 ?e_s3_6 ?e_s3_7 ?e_s3_8 ?e_s3_9 ?e_s3_ValueError ?e_x3 ?e_k4 ?e_g4 ?e_h4 ?e_d4 ?e_a4 ?e_m4 ?e_s4_0 ?e_s4_1 ?e_s4_2 ?e_s4_3 ?e_s4_4 ?e_s4_5 ?e_s4_6 ?e_s4_7 ?e_s4_8 ?e_s4_9 ?e_s4_ValueError ?e_x4 ?e_k5 ?e_g5 ?e_h5 ?e_d5 ?e_a5 ?e_m5 ?e_s5_0 ?e_s5_1 ?e_s5_2 ?e_s5_3 ?e_s5_4 ?e_s5_5 ?e_s5_6 ?e_s5_7 ?e_s5_8 ?e_s5_9 ?e_s5_ValueError ?e_x5 ?e_k6 ?e_g6 ?e_h6 ?e_d6 ?e_a6 ?e_m6 ?e_s6_0 ?e_s6_1 ?e_s6_2 ?e_s6_3 ?e_s6_4 ?e_s6_5 ?e_s6_6 ?e_s6_7 ?e_s6_8 ?e_s6_9 ?e_s6_ValueError ?e_o6 ?e_r6 ?e_sa6 ?e_v6 ?e_w6 ?e_l6 ?e_c6 ?e_kk6 ?e_p6 ?e_q6 ?e_k7 ?e_g7 ?e_h7 ?e_d7 ?e_a7 ?e_m7 ?e_s7_0 ?e_s7_1 ?e_s7_2 ?e_s7_3 ?e_s7_4 ?e_s7_5 ?e_s7_6 ?e_s7_7 ?e_s7_8 ?e_s7_9 ?e_s7_ValueError ?e_o7 ?e_r7 ?e_sa7 ?e_v7 ?e_w7 ?e_l7 ?e_c7 ?e_kk7 ?e_p7 ?e_q7 ?e_k8 ?e_g8 ?e_h8 ?e_d8 ?e_a8 ?e_m8 ?e_s8_0 ?e_s8_1 ?e_s8_2 ?e_s8_3 ?e_s8_4 ?e_s8_5 ?e_s8_6 ?e_s8_7 ?e_s8_8 ?e_s8_9 ?e_s8_ValueError ?e_o8 ?e_r8 ?e_sa8 ?e_v8 ?e_w8 ?e_l8 ?e_c8 ?e_kk8 ?e_p8 ?e_q8 ?e_hn ?e_ht ?e_z_ValueError) (DL.chk_all _) DL.bds (List.mem_of_getElem? (i := 7) rfl) rfl rfl (DL.kcons (DL.kd "_law_cell_at" (DL.topS 12) ?a0 ?l0 ?c0 ?k0) (DL.kcons (DL.kd "_law_pot" (DL.topS 13) ?a1 ?l1 ?c1 ?k1) (DL.kcons (DL.kd "_law_draw" (DL.topS 14) ?a2 ?l2 ?c2 ?k2) (DL.kcons (DL.kd "_law_number" (DL.topS 15) ?a3 ?l3 ?c3 ?k3) (DL.kcons (DL.kd "_law_word" (DL.topS 16) ?a4 ?l4 ?c4 ?k4) (DL.kcons (DL.kd "_law_made" (DL.topS 17) ?a5 ?l5 ?c5 ?k5) (DL.kcons (DL.kd "_law_classes" (DL.topS 18) ?a6 ?l6 ?c6 ?k6) (DL.kcons (DL.kd "law" (DL.topS 19) ?a7 ?l7 ?c7 ?k7) DL.knil)))))))) (DL.zcons ?z0 (DL.zcons ?z1 (DL.zcons ?z2 (DL.zcons ?z3 (DL.zcons ?z4 (DL.zcons ?z5 (DL.zcons ?z6 (DL.zcons ?z7 (DL.zcons ?z8 (DL.zcons ?z9 (DL.zcons ?z10 (DL.zcons ?z11 (DL.zcons ?z12 (DL.zcons ?z13 (DL.zcons ?z14 (DL.zcons ?z15 (DL.zcons ?z16 (DL.zcons ?z17 (DL.zcons ?z18 (DL.zcons ?z19 (DL.zcons ?z20 (DL.zcons ?z21 DL.znil)))))))))))))))))))))) DL.cst_ok
    (case a0 => k_is); (case l0 => k_is); (case c0 => k_is); (case k0 => k_is)
    (case a1 => k_is); (case l1 => k_is); (case c1 => k_is); (case k1 => k_is)
    (case a2 => k_is); (case l2 => k_is); (case c2 => k_is); (case k2 => k_is)
    (case a3 => k_is); (case l3 => k_is); (case c3 => k_is); (case k3 => k_is)
    (case a4 => k_is); (case l4 => k_is); (case c4 => k_is); (case k4 => k_is)
    (case a5 => k_is); (case l5 => k_is); (case c5 => k_is); (case k5 => k_is)
    (case a6 => k_is); (case l6 => k_is); (case c6 => k_is); (case k6 => k_is)
    (case a7 => k_is); (case l7 => k_is); (case c7 => k_is); (case k7 => k_is)
    (case z0 => k_is); (case z1 => k_is); (case z2 => k_is); (case z3 => k_is); (case z4 => k_is); (case z5 => k_is); (case z6 => k_is); (case z7 => k_is); (case z8 => k_is); (case z9 => k_is); (case z10 => k_is); (case z11 => k_is); (case z12 => k_is); (case z13 => k_is); (case z14 => k_is); (case z15 => k_is); (case z16 => k_is); (case z17 => k_is); (case z18 => k_is); (case z19 => k_is); (case z20 => k_is); (case z21 => k_is)
    (case e_n0 => k_is); (case e_b0 => k_is); (case e_t0 => k_is); (case e_i0 => k_is); (case e_n1 => k_is); (case e_b1 => k_is); (case e_t1 => k_is); (case e_i1 => k_is); (case e_n2 => k_is); (case e_b2 => k_is); (case e_t2 => k_is); (case e_i2 => k_is); (case e_n3 => k_is); (case e_b3 => k_is); (case e_t3 => k_is); (case e_i3 => k_is); (case e_n4 => k_is); (case e_b4 => k_is); (case e_t4 => k_is); (case e_i4 => k_is); (case e_n5 => k_is); (case e_b5 => k_is); (case e_t5 => k_is); (case e_i5 => k_is); (case e_n6 => k_is); (case e_b6 => k_is); (case e_t6 => k_is); (case e_i6 => k_is); (case e_n7 => k_is); (case e_b7 => k_is); (case e_t7 => k_is); (case e_i7 => k_is); (case e_n8 => k_is); (case e_b8 => k_is); (case e_t8 => k_is); (case e_i8 => k_is); (case e_n9 => k_is); (case e_b9 => k_is); (case e_t9 => k_is); (case e_i9 => k_is); (case e_y1 => k_is); (case e_y2 => k_is); (case e_y3 => k_is); (case e_k0 => k_is); (case e_g0 => k_is); (case e_h0 => k_is); (case e_d0 => k_is); (case e_a0 => k_is); (case e_m0 => k_is); (case e_s0_0 => k_is); (case e_s0_1 => k_is); (case e_s0_2 => k_is); (case e_s0_3 => k_is); (case e_s0_4 => k_is); (case e_s0_5 => k_is); (case e_s0_6 => k_is); (case e_s0_7 => k_is); (case e_s0_8 => k_is); (case e_s0_9 => k_is); (case e_s0_ValueError => k_is); (case e_x0 => k_exc); (case e_k1 => k_is); (case e_g1 => k_is); (case e_h1 => k_is); (case e_d1 => k_is); (case e_a1 => k_is); (case e_m1 => k_is); (case e_s1_0 => k_is); (case e_s1_1 => k_is); (case e_s1_2 => k_is); (case e_s1_3 => k_is); (case e_s1_4 => k_is); (case e_s1_5 => k_is); (case e_s1_6 => k_is); (case e_s1_7 => k_is); (case e_s1_8 => k_is); (case e_s1_9 => k_is); (case e_s1_ValueError => k_is); (case e_x1 => k_exc); (case e_k2 => k_is); (case e_g2 => k_is); (case e_h2 => k_is); (case e_d2 => k_is); (case e_a2 => k_is); (case e_m2 => k_is); (case e_s2_0 => k_is); (case e_s2_1 => k_is); (case e_s2_2 => k_is); (case e_s2_3 => k_is); (case e_s2_4 => k_is); (case e_s2_5 => k_is); (case e_s2_6 => k_is); (case e_s2_7 => k_is); (case e_s2_8 => k_is); (case e_s2_9 => k_is); (case e_s2_ValueError => k_is); (case e_x2 => k_exc); (case e_k3 => k_is); (case e_g3 => k_is); (case e_h3 => k_is); (case e_d3 => k_is); (case e_a3 => k_is); (case e_m3 => k_is); (case e_s3_0 => k_is); (case e_s3_1 => k_is); (case e_s3_2 => k_is); (case e_s3_3 => k_is); (case e_s3_4 => k_is); (case e_s3_5 => k_is); (case e_s3_6 => k_is); (case e_s3_7 => k_is); (case e_s3_8 => k_is); (case e_s3_9 => k_is); (case e_s3_ValueError => k_is); (case e_x3 => k_exc); (case e_k4 => k_is); (case e_g4 => k_is); (case e_h4 => k_is); (case e_d4 => k_is); (case e_a4 => k_is); (case e_m4 => k_is); (case e_s4_0 => k_is); (case e_s4_1 => k_is); (case e_s4_2 => k_is); (case e_s4_3 => k_is); (case e_s4_4 => k_is); (case e_s4_5 => k_is); (case e_s4_6 => k_is); (case e_s4_7 => k_is); (case e_s4_8 => k_is); (case e_s4_9 => k_is); (case e_s4_ValueError => k_is); (case e_x4 => k_exc); (case e_k5 => k_is); (case e_g5 => k_is); (case e_h5 => k_is); (case e_d5 => k_is); (case e_a5 => k_is); (case e_m5 => k_is); (case e_s5_0 => k_is); (case e_s5_1 => k_is); (case e_s5_2 => k_is); (case e_s5_3 => k_is); (case e_s5_4 => k_is); (case e_s5_5 => k_is); (case e_s5_6 => k_is); (case e_s5_7 => k_is); (case e_s5_8 => k_is); (case e_s5_9 => k_is); (case e_s5_ValueError => k_is); (case e_x5 => k_exc); (case e_k6 => k_is); (case e_g6 => k_is); (case e_h6 => k_is); (case e_d6 => k_is); (case e_a6 => k_is); (case e_m6 => k_is); (case e_s6_0 => k_is); (case e_s6_1 => k_is); (case e_s6_2 => k_is); (case e_s6_3 => k_is); (case e_s6_4 => k_is); (case e_s6_5 => k_is); (case e_s6_6 => k_is); (case e_s6_7 => k_is); (case e_s6_8 => k_is); (case e_s6_9 => k_is); (case e_s6_ValueError => k_is); (case e_o6 => k_is); (case e_r6 => rfl); (case e_sa6 => k_is); (case e_v6 => k_is); (case e_w6 => k_is); (case e_l6 => k_is); (case e_c6 => k_is); (case e_kk6 => k_is); (case e_p6 => k_is); (case e_q6 => k_is); (case e_k7 => k_is); (case e_g7 => k_is); (case e_h7 => k_is); (case e_d7 => k_is); (case e_a7 => k_is); (case e_m7 => k_is); (case e_s7_0 => k_is); (case e_s7_1 => k_is); (case e_s7_2 => k_is); (case e_s7_3 => k_is); (case e_s7_4 => k_is); (case e_s7_5 => k_is); (case e_s7_6 => k_is); (case e_s7_7 => k_is); (case e_s7_8 => k_is); (case e_s7_9 => k_is); (case e_s7_ValueError => k_is); (case e_o7 => k_is); (case e_r7 => rfl); (case e_sa7 => k_is); (case e_v7 => k_is); (case e_w7 => k_is); (case e_l7 => k_is); (case e_c7 => k_is); (case e_kk7 => k_is); (case e_p7 => k_is); (case e_q7 => k_is); (case e_k8 => k_is); (case e_g8 => k_is); (case e_h8 => k_is); (case e_d8 => k_is); (case e_a8 => k_is); (case e_m8 => k_is); (case e_s8_0 => k_is); (case e_s8_1 => k_is); (case e_s8_2 => k_is); (case e_s8_3 => k_is); (case e_s8_4 => k_is); (case e_s8_5 => k_is); (case e_s8_6 => k_is); (case e_s8_7 => k_is); (case e_s8_8 => k_is); (case e_s8_9 => k_is); (case e_s8_ValueError => k_is); (case e_o8 => k_is); (case e_r8 => rfl); (case e_sa8 => k_is); (case e_v8 => k_is); (case e_w8 => k_is); (case e_l8 => k_is); (case e_c8 => k_is); (case e_kk8 => k_is); (case e_p8 => k_is); (case e_q8 => k_is); (case e_hn => k_is); (case e_ht => k_is); (case e_z_ValueError => k_is)
