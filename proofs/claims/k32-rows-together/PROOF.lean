import PyProof.Rows.All
import Wide.All
import OpenK.AllK
import Wide.FinOn
import HandS.Exc
import HandS.Comp
import HandS.ReplaceLit
import HandS.TupMul
import HandS.Sort
import HandS.List
import HandS.SetFor
import HandS.StrSplit
import HandS.Deep
import HandS.NoneIn
import HandS.FStrTup
import PyProof.ReprRoads
import PyProof.Rows.StrSplitMax
import HandS.WordsExc
import HandS.ExcInit
import HandS.ExcValue
import HandS.ExcField
import HandS.IsInst
import HandS.TupAny
import HandS.RaiseMore
import HandS.ExcOwn
import HandS.ExcIs
import HandS.TryOnly
import HandS.Lambda
import HandS.SortKw
import KE.SortKeyHeap
import HandS.ForMost
import HandS.Walk
import HandS.Conv
import HandS.Zip
import HandS.WideBits
import HandS.Flow
import HandS.Set
import HandS.SortInts
import HandS.Iter
import KE.GoesZip
import KE.GoesMore
import HandS.Replace
import HandS.More
import HandS.Text
import HandS.Strs
import HandS.Rev
import HandS.Style
import KE.SortLaws
import PySem.Challenge.RW_rowpipes_k32_whole_rows_together
set_option Elab.async false
set_option linter.all false
set_option maxRecDepth 100000
set_option maxHeartbeats 4000000
/-! An exception that leaves a comprehension. -/
namespace DL
open PySem PySem.Spec PyProof.Rows L2
section
variable {M : Model} {A : Around} {E : Value → Shared → Prop} {s : Shared} {env : Env}
/-- what a block is to reach: its own environment named -/
def BPost (M : Model) (A : Around) (E : Value → Shared → Prop) (use : Option (Value → Sem Unit)) (Q : Value → Shared → Prop) (acc : Value) (cenv : Env) (r : Result) (s' : Shared) : Prop :=
  match r with
  | .ok f => compPost M A E use Q acc cenv.locals (.ok f) s'
  | .error x => ∃ m, s'.heap.Ns cenv.locals m ∧ ∀ h', Heap.SameBut cenv.locals s'.heap h' → wpAny M A (PySem.passOn "comprehension.variables-let-go" x cenv : Sem Value) (fun _ _ => False) E { s' with heap := h' }
theorem comp_x {e : Expr} {scope : Scope} {pos : Pos} {newAcc first : Sem Value} {g : Comprehension} {gs : List Comprehension} {cl : List (Str × Addr)} {use : Option (Value → Sem Unit)} {Q : Value → Shared → Prop}
    (hcl : clausesOf e = g :: gs) (hs : ∀ x, foldedSetIterable g.iter env x = pure x) (hclos : closureFor scope env = pure cl)
    (hkind : scope.kind = .function) (hnames : ∀ x ∈ scope.names, x.2 = .local → scope.names.lookup x.1 = some .local)
    (h : wpAny M A first (fun x s1 => wpAny M A (pyIter x) (fun it s2 => wpAny M A newAcc (fun acc s3 =>
      wpAny M A (newFunctionEnv scope env.globals cl [] env.qual none .none (some env)) (fun cenv s4 =>
        codeAny M A (.compStart e 0 it acc { cenv with scope := relabel scope env }) (BPost M A E use Q acc { cenv with scope := relabel scope env }) s4) E s3) E s2) E s1) E s) :
    wpAny M A (comprehension e scope env pos newAcc false first use) Q E s := by
  unfold comprehension
  rw [hclos, hcl]
  refine wpAny_bind (wpAny_mono h (fun x s1 h1 => wpAny_bind (wpAny_standAt (wpAny_bind (wpAny_of_eq (hs x) (wpAny_bind (wpAny_holding (wpAny_mono h1 (fun it s2 h2 =>
    wpAny_standIf (wpAny_bind (wpAny_mono h2 (fun acc s3 h3 => wpAny_bind (wpAny_pure (wpAny_bind (wpAny_mono h3 (fun cenv s4 h4 => ?_) fun _ _ y => y)))) fun _ _ y => y)))
      fun _ _ y => y))))))) fun _ _ y => y)
  dsimp only
  have own : ∀ x ∈ (scope.names.filter fun x => (x.2 == .local || x.2 == .cell) && x.1 != (".0" : Str)).reverse, x.2 = .local → Env.kindOf { cenv with scope := relabel scope env } x.1 = some .local :=
    fun x hx hl => lookup_relabel_local (hnames x (List.mem_filter.mp (List.mem_reverse.mp hx)).1 hl)
  have own' : ∀ x ∈ (scope.names.filter fun x => (x.2 == .local || x.2 == .cell) && x.1 != (".0" : Str)).reverse.drop 1 ++ (scope.names.filter fun x => (x.2 == .local || x.2 == .cell) && x.1 != (".0" : Str)).reverse.take 1,
      x.2 = .local → Env.kindOf { cenv with scope := relabel scope env } x.1 = some .local := fun x hx hl => by
    rcases List.mem_append.mp hx with z | z
    · exact own x (List.mem_of_mem_drop z) hl
    · exact own x (List.mem_of_mem_take z) hl
  refine wpAny_holding (wpAny_bind (wpAny_attempt (wpAny_holding (wpAny_run (codeAny_mono h4 fun r s' hr => ?_)))))
  cases r with
  | ok f =>
    cases use with
    | none =>
      obtain ⟨m, hn, hr⟩ := hr
      exact wpAny_bind (wpAny_holding (wpAny_comp_letGo (cenv := { cenv with scope := relabel scope env }) hkind _ s' m own hn fun h' m' _ hs' => wpAny_pure (hr h' hs')))
    | some u =>
      refine wpAny_bind (wpAny_rule (wpAny_bind (wpAny_holding (wpAny_mono hr (fun _ s'' hr' => ?_) fun _ _ y => y))))
      obtain ⟨m, hn, hr'⟩ := hr'
      exact wpAny_bind (wpAny_comp_letGo (cenv := { cenv with scope := relabel scope env }) hkind _ s'' m own' hn fun h' m' _ hs' => wpAny_pure (hr' h' hs'))
  | error x =>
    obtain ⟨m, hn, hr⟩ := hr
    cases use <;> exact wpAny_bind (wpAny_holding (wpAny_comp_letGo (cenv := { cenv with scope := relabel scope env }) hkind _ s' m own hn fun h' m' _ hs' => wpAny_mono (hr h' hs') (fun _ _ f => f.elim) fun _ _ y => y))
end
/-! ### the exception, noted by the block's frame, on its way out -/
section
variable {M : Model} {A : Around} {E : Value → Shared → Prop} {s : Shared}
/-- one in flight by another's hand -/
theorem looks_other {base : Heap} {Z : Obj → Prop} {env : Env} {outer : List Env} {L L' e : Addr} {Q : Unit → Shared → Prop} (hZ : HandSPX.Steady Z) (hfr : A.frames = some (env :: outer)) (hf : env.frame = some L) (hne : L' ≠ L)
    (hfl : HandSPX.HeldZ base (env :: outer) e Z L' s.heap) (hQ : ∀ h', HandSPX.HeldZ base (env :: outer) e Z L h' → s.heap.UpToSlots h' → Q () { s with heap := h' }) : wpAny M A (noteFrame (.ref e) env) Q E s := by
  obtain ⟨hkb, hen, hl, oe, vs, T, oT, ts, he, hz, hd, h1, hnT, hTe, hT, hdT, h3⟩ := hfl
  unfold noteFrame
  simp only [hf]
  refine wpAny_bind (wpAny_field he hd h1 ?_)
  rw [if_pos (show (Value.ref T != Value.none) = true from by simp)]
  refine wpAny_bind (wpAny_field hT hdT h3 ?_)
  rw [if_neg (show ¬ ((rawInt L' == rawInt L) = true) from fun z => hne (Int.ofNat_inj.mp (by simpa [rawInt] using z)))]
  refine wpAny_bind (wpAny_setField hT hdT (Array.getElem?_eq_some_iff.mp h3).1 ?_)
  have other : ∀ b, b ≠ T → (s.heap.update T (Obj.mapFields (·.setIfInBounds 3 Value.none))).get? b = s.heap.get? b := fun b hb => Heap.get?_update_other _ _ (Ne.symm hb)
  have noRecord : ∀ b o, s.heap.get? b = some o → (∀ vs, o.data ≠ .fields vs) → b ≠ T := fun b o hb hnf q => by
    rw [q, hT] at hb; injection hb with hb; subst hb; exact hnf ts hdT
  refine HandSPX.wpAny_entryZ hZ hfr (hl.of_keeps fun b o hb hnf => ⟨o, (other b (noRecord b o hb hnf)).trans hb, rfl⟩) hf ((other e (Ne.symm hTe)).trans he)
    (fun b o hbo => (other b fun q => by rw [q, hnT] at hbo; cases hbo).trans (hkb b o hbo)) hen hd (Array.getElem?_eq_some_iff.mp h1).1 hz fun h' hN => ?_
  obtain ⟨x1, x2, x3, x4⟩ := hN
  exact hQ h' ⟨x1, hen, x2, x3⟩ fun b o hb hnf => x4 b o ((other b (noRecord b o hb hnf)).trans hb) hnf
/-- noted: held by the frame -/
theorem sky_note {B : Heap} {env : Env} {outer : List Env} {L L' a : Addr} {Z : Obj → Prop} {Q : Unit → Shared → Prop} (hZ : HandSPX.Steady Z) (hfr : A.frames = some (env :: outer)) (hf : env.frame = some L) (hne : L' ≠ L)
    (x : Sky B (env :: outer) a Z L' s.heap) (hQ : ∀ h', HandSPX.HeldZ B (env :: outer) a Z L h' → s.heap.UpToSlots h' → Q () { s with heap := h' }) : wpAny M A (noteFrame (.ref a) env) Q E s := by
  rcases x with ⟨hB, hn, hl, oe, vs, he, hz, hd, h1⟩ | fl | hh
  · exact HandSPX.look_newZ hZ hfr hl hf he hB hn hd h1 hz hQ
  · exact HandSPX.looks_onZ hZ hfr hf fl hQ
  · exact looks_other hZ hfr hf hne hh hQ
theorem note_frame {u : Value} {env env' : Env} (h : env.frame = env'.frame) : noteFrame u env = noteFrame u env' := by
  unfold noteFrame PySem.frameOf
  rw [h]
/-- handed on -/
theorem pass_on {B : Heap} {l : List Env} {L a : Addr} {Z : Obj → Prop} {what : String} {cenv : Env} {α : Type} {Q : α → Shared → Prop} (hf : cenv.frame = some L) (hh : HandSPX.HeldZ B l a Z L s.heap)
    (hE : ∀ h', HandSPX.HeldZ B l a Z L h' → s.heap.UpToSlots h' → E (.ref a) { s with heap := h' }) : wpAny M A (PySem.passOn what (.ref a) cenv : Sem α) Q E s := by
  obtain ⟨x1, x2, x3, oe, vs, T, oT, ts, he, hz, hd, h1, hnT, hTe, hT, hdT, h3⟩ := hh
  unfold PySem.passOn
  refine wpAny_bind (wpAny_field he hd h1 ?_)
  rw [if_neg (show ¬ ((Value.ref T == Value.none) = true) from by simp)]
  refine wpAny_bind ?_
  rw [hf]
  exact HandSPX.setFlight_onZ ⟨x1, x2, x3, oe, vs, T, oT, ts, he, hz, hd, h1, hnT, hTe, hT, hdT, h3⟩ fun h' k1 k2 => wpAny_throw (hE h' k1 k2)
end
/-! ### what a block lets out, its def's air takes -/
/-- held by the context's own hand or by its frame's -/
def XEF (X : Cx) (W : WX) (u : Value) (s' : Shared) : Prop :=
  ∃ (a : Addr) (B : Heap) (sI : Shared) (pins : List (Addr × Obj)) (σ : L2.St) (H : Hp) (cls : Value) (d : Option Addr) (L : Addr),
    u = .ref a ∧ Inv X pins σ H sI ∧ (∀ b o, sI.heap.get? b = some o → b ∉ frs X.stack → B.get? b = some o) ∧ sI.heap.UpToSlots s'.heap ∧
      (Sky B X.stack a (Zc cls d) L s'.heap ∧ (L = X.env.locals ∨ X.env.frame = some L)) ∧ H a = none ∧ s'.os = sI.os ∧ AllBare s'.gens ∧ W cls d σ H
def TakesF (X : Cx) (W : WX) : Prop := ∀ u s', XEF X W u s' → X.xe u s'
theorem TakesF.takes {X : Cx} {W : WX} (t : TakesF X W) : Takes X W := fun u s' ⟨a, B, sI, pins, σ, H, cls, d, e, I, nb, up, sky, na, os, ag, w⟩ =>
  t u s' ⟨a, B, sI, pins, σ, H, cls, d, X.env.locals, e, I, nb, up, ⟨sky, .inl rfl⟩, na, os, ag, w⟩
theorem Takes.toF {X : Cx} {W : WX} (hf : X.env.frame = some X.env.locals) (t : Takes X W) : TakesF X W := fun u s' ⟨a, B, sI, pins, σ, H, cls, d, L, e, I, nb, up, ⟨sky, hL⟩, na, os, ag, w⟩ => by
  have : L = X.env.locals := by
    rcases hL with z | z
    · exact z
    · rw [hf] at z; exact (Option.some.inj z).symm
  subst this
  exact t u s' ⟨a, B, sI, pins, σ, H, cls, d, e, I, nb, up, sky, na, os, ag, w⟩
theorem TakesF.imp {X : Cx} {W W' : WX} (t : TakesF X W) (h : ∀ c d σ H, W' c d σ H → W c d σ H) : TakesF X W' := fun u s' ⟨a, B, sI, pins, σ, H, cls, d, L, e, I, nb, up, sky, na, os, ag, w⟩ =>
  t u s' ⟨a, B, sI, pins, σ, H, cls, d, L, e, I, nb, up, sky, na, os, ag, h _ _ _ _ w⟩
theorem funFrames_but {B h h' : Heap} {C : Addr} (hB : ∀ b, B.get? b = none → (PySem.W.hideAll B [C]).get? b = none) (sb : ∀ b, b ≠ C → h'.get? b = h.get? b) : ∀ {l : List Env}, (∀ L ∈ frs l, L ≠ C) → h.FunFrames B l → h'.FunFrames (PySem.W.hideAll B [C]) l
  | [], _, _ => trivial
  | env :: l, hn, h => by
    obtain ⟨hk, ⟨L, o, hf, hL, ho, hd⟩, hr⟩ := h
    have hLC := hn L (List.mem_filterMap.mpr ⟨env, List.mem_cons_self, hf⟩)
    exact ⟨hk, ⟨L, o, hf, hB L hL, (sb L hLC).trans ho, hd⟩, funFrames_but hB sb (fun b hb => by
      obtain ⟨e, he, q⟩ := List.mem_filterMap.mp hb
      exact hn b (List.mem_filterMap.mpr ⟨e, List.mem_cons_of_mem _ he, q⟩)) hr⟩
theorem sky_note2 {M : Model} {A : Around} {E : Value → Shared → Prop} {s : Shared} {B : Heap} {env : Env} {outer : List Env} {L L' a : Addr} {Z : Obj → Prop} {Q : Unit → Shared → Prop} (hZ : HandSPX.Steady Z) (hfr : A.frames = some (env :: outer)) (hf : env.frame = some L)
    (x : Sky B (env :: outer) a Z L' s.heap) (hQ : ∀ h', HandSPX.HeldZ B (env :: outer) a Z L h' → s.heap.UpToSlots h' → Q () { s with heap := h' }) : wpAny M A (noteFrame (.ref a) env) Q E s := by
  by_cases hne : L' = L
  · subst hne
    rcases x with ⟨hB, hn, hl, oe, vs, he, hz, hd, h1⟩ | fl | hh
    · exact HandSPX.look_newZ hZ hfr hl hf he hB hn hd h1 hz hQ
    · exact HandSPX.looks_onZ hZ hfr hf fl hQ
    · exact HandSPX.againZ hf hh.2.2.2 (hQ s.heap hh (Heap.UpToSlots.of_keeps fun b o e => e))
  · exact sky_note hZ hfr hf hne x hQ
section
variable {X : Cx} {pins : List (Addr × Obj)} {σ : L2.St} {H : Hp} {s : Shared}
theorem blk_takes {W : WX} {scope : Scope} {ce e0 : Env} {o0 : List Env} {L : Addr} {fp : List Addr} {use : Option (Value → Sem Unit)} {Qf : Value → Shared → Prop} {acc : Value} (hW : ∀ c d σ' H', W c d σ' H' → W c d σ H') (tk : TakesF X W) (I3 : Inv X pins σ H s)
    (f3 : ∀ b ∈ fp, FpOk X pins H b) (hst : X.stack = e0 :: o0) (hf0 : e0.frame = some L) (hf : X.env.frame = some L) (cL : ce.locals = s.heap.objs.size) (cf : ce.frame = X.env.frame) :
    TakesF ((X.blk s H scope ce fp).tr [] (notedBy (model X.prog X.w) X.A ce fun x s' => BPost (model X.prog X.w) X.A X.xe use Qf acc ce (.error x) s')) W := by
  rintro u s' ⟨a, B, sI, pins', σ', H', cls, d, L', rfl, I, nb, up, ⟨sky, hL'⟩, na, os, ag, w⟩
  have hfr : X.A.frames = some (e0 :: o0) := by rw [I3.ok.frames, hst]
  show wpAny (model X.prog X.w) X.A (noteFrame (.ref a) ce) _ _ s'
  rw [note_frame (env' := e0) (cf.trans (hf.trans hf0.symm))]
  have sky : Sky B (e0 :: o0) a (Zc cls d) L' s'.heap := by
    have z : Sky B X.stack a (Zc cls d) L' s'.heap := sky
    rw [hst] at z
    exact z
  refine sky_note2 Zc.steady hfr hf0 sky fun h1 hh up1 => ?_
  -- the block's variables
  have nC : H' s.heap.objs.size = none := by
    have z : H' ce.locals = none := I.free
    rw [cL] at z
    exact z
  have fo := I3.fpOk (Nat.le_refl _) nC
  obtain ⟨m, hm, _⟩ := I.loc
  obtain ⟨o, es, ep, ho, hd, rest⟩ : sI.heap.Ns ce.locals m := hm
  rw [cL] at ho
  have hCst : s.heap.objs.size ∉ frs X.stack := fun z => by
    have z : s.heap.objs.size ∈ frs X.stack := z
    rcases List.mem_cons.mp (I3.stkSub _ z) with z | z
    · exact fo.2.1 z
    · exact fo.2.2.1 z
  have inG : ∀ b u, sI.heap.get? b = some u → b ∉ frs X.stack → h1.get? b = some u := fun b u e hb => hh.1 b u (nb b u e hb)
  have hC1 := inG _ _ ho hCst
  obtain ⟨x1, x2, x3, oe, vs, T, oT, ts, he, hz, hde, hv1, hnT, hTe, hT, hdT, h3⟩ := hh
  have aC : a ≠ s.heap.objs.size := fun z => by
    rw [z, hC1] at he
    cases he
    rw [hd] at hde
    cases hde
  have TC : T ≠ s.heap.objs.size := fun z => by
    rw [z, hC1] at hT
    cases hT
    rw [hd] at hdT
    cases hdT
  refine ⟨m, ⟨o, es, ep, by rw [cL]; exact hC1, hd, rest⟩, fun h2 sb => ?_⟩
  rw [cL] at sb
  have same : ∀ b, b ≠ s.heap.objs.size → h2.get? b = h1.get? b := fun b hb => sb.2 b hb
  have hideN : ∀ b, B.get? b = none → (PySem.W.hideAll B [s.heap.objs.size]).get? b = none := fun b hb => by
    cases q : (PySem.W.hideAll B [s.heap.objs.size]).get? b with
    | none => rfl
    | some u =>
      have z := PySem.W.of_hideAll _ q
      rw [hb] at z; cases z
  have hideC : ∀ (h : Heap) b u, (PySem.W.hideAll h [s.heap.objs.size]).get? b = some u → b ≠ s.heap.objs.size ∧ h.get? b = some u := fun h b u e => by
    refine ⟨fun z => ?_, PySem.W.of_hideAll _ e⟩
    rw [PySem.W.hideAll_none [s.heap.objs.size] (by rw [z]; exact List.mem_cons_self)] at e
    cases e
  have hideI : ∀ (h : Heap) b u, b ≠ s.heap.objs.size → h.get? b = some u → (PySem.W.hideAll h [s.heap.objs.size]).get? b = some u := fun h b u hb e => PySem.W.hideAll_get _ e (by simpa using hb)
  refine pass_on (B := PySem.W.hideAll B [s.heap.objs.size]) (l := e0 :: o0) (L := L) (Z := Zc cls d) (cf.trans hf) ⟨fun b u e => ?_, hideN a x2, funFrames_but hideN same (fun b hb z => hCst (by rw [hst, ← z]; exact hb)) x3,
    oe, vs, T, oT, ts, (same a aC).trans he, hz, hde, hv1, hideN T hnT, hTe, (same T TC).trans hT, hdT, h3⟩ fun h3' hh3 up3 => ?_
  · obtain ⟨hb, e⟩ := hideC B b u e
    exact (same b hb).trans (x1 b u e)
  have J : Inv X pins σ H' sI := I3.call' (ch := fp) I.os I.base I.hok I.bare fun b hb => ⟨(f3 b hb).2.2.2.1, (f3 b hb).2.1, (f3 b hb).2.2.2.2.1, (f3 b hb).2.2.2.2.2⟩
  obtain ⟨f0, f1, f2, f4, f5, f6⟩ := fo
  have J2 : Inv X pins σ H' { sI with heap := PySem.W.hideAll sI.heap [s.heap.objs.size], toks := sI.toks } := J.turned (fun b u hb e => hideI _ b u hb e) f0 f1 f4 f5 f6
  refine tk _ _ ⟨a, PySem.W.hideAll B [s.heap.objs.size], _, pins, σ, H', cls, d, L, rfl, J2, fun b u e hb => ?_, fun b u e hnf => ?_, ⟨by rw [hst]; exact .inr (.inr hh3), .inr hf⟩, na, os, ag, hW _ _ _ _ w⟩
  · obtain ⟨hbC, e⟩ := hideC _ b u e
    exact hideI _ b u hbC (nb b u e hb)
  · obtain ⟨hbC, e⟩ := hideC _ b u e
    obtain ⟨sl, e1⟩ := up.trans up1 b u e hnf
    obtain ⟨sl2, e2⟩ := up3 b _ ((same b hbC).trans e1) hnf
    exact ⟨sl2, e2⟩
end
/-! ### a comprehension whose parts may raise -/
/-- the context of a block whose exceptions leave by xe -/
abbrev blkX (X : Cx) (s : Shared) (H : Hp) (scope : Scope) (ce : Env) (fp : List Addr) (xe : Value → Shared → Prop) : Cx := (X.blk s H scope ce fp).tr [] xe
section
variable {X : Cx}
theorem lc_coreX {pins : List (Addr × Obj)} {s : Shared} {σ : L2.St} {H : Hp} {Q : VK} {elt tg iter : Expr} {ifs : List Expr} {scope : Scope} {own : List (Str × Nat)} {pos pos' : Pos} {wi : TI} {g : TG} {tt : TT} {te : TE} {use : Option (Value → Sem Unit)} {Qf : Value → Shared → Prop}
    {W : WX} {e0 : Env} {o0 : List Env} {L : Addr} (hW : ∀ c d σ' H', W c d σ' H' → W c d σ H') (tk : TakesF X W) (hst : X.stack = e0 :: o0) (hf0 : e0.frame = some L) (hf : X.env.frame = some L)
    (hc : X.calm = true) (hN : X.N.Nodup) (I : Inv X pins σ H s) (hi : PI X tg iter wi) (ok : BlkOk X.N X.env.scope scope own)
    (hg : ∀ (s : Shared) (H : Hp) (C : Addr) (cl : List (Str × Addr)) (fp : List Addr) xe, TakesF (blkX X s H scope (compEnvC scope cl C X.env) fp xe) W → PG (blkX X s H scope (compEnvC scope cl C X.env) fp xe) tg g)
    (ht : ∀ (s : Shared) (H : Hp) (C : Addr) (cl : List (Str × Addr)) (fp : List Addr) xe, TakesF (blkX X s H scope (compEnvC scope cl C X.env) fp xe) W → PTs (blkX X s H scope (compEnvC scope cl C X.env) fp xe) ifs tt)
    (he : ∀ (s : Shared) (H : Hp) (C : Addr) (cl : List (Str × Addr)) (fp : List Addr) xe, TakesF (blkX X s H scope (compEnvC scope cl C X.env) fp xe) W → PE (blkX X s H scope (compEnvC scope cl C X.env) fp xe) elt te)
    (hs : ∀ x, foldedSetIterable iter X.env x = pure x) (h : tLc wi g tt te (own.map (·.2)) σ H Q)
    (hRR : ∀ D C s' m H', Inv X pins σ H' s' → Q (.ref D) H' → s'.heap.Ns C m → FpOk X pins H' C → compPost (model X.prog X.w) X.A X.xe use Qf (.ref D) C (.ok .next) s') :
    wpAny (model X.prog X.w) X.A (comprehension (.ListComp elt [⟨tg, iter, ifs, 0⟩] scope pos) scope X.env pos' (newList []) false (eval iter X.env) use) Qf X.xe s := by
  have hfree : ∀ y ∈ scope.names, y.2 = .free → ∃ c, X.env.cells.lookup y.1 = some c := fun y hy e => by
    rcases ok.free y hy e with k | k
    · exact I.ok.has _ (.inl k)
    · exact I.ok.has _ (.inr k)
  refine comp_x (use := use) rfl hs (closure_ok hfree) ok.kind (fun y hy e => by rw [ok.uniq y hy, e]) (thn (hi.run pins s σ H _ I h) fun xv s1 hx => thn hx fun itv s2 h2 => ?_)
  obtain ⟨it, fp, tn, J, H2, e, I2, T, st2, f2, q⟩ := h2
  subst e
  refine wpAny_newObj_type (newEnv_comp ?_) (by show 0 ≤ sizeLine; decide)
  generalize hD : s2.heap.objs.size = D
  have hDn : H2 D = none := I2.hok.fresh (Nat.le_of_eq hD)
  obtain ⟨V, ⟨m0, w0⟩, turn⟩ := q D hDn
  generalize hs3 : ({ s2 with heap := s2.heap.push { cls := .type "list", data := .seq ([] : List Value).toArray } } : Shared) = s3
  have I3 : Inv X pins σ (upd H2 D (.lst [])) s3 := by
    rw [← hs3]
    refine I2.laid (t' := s2.toks) (fun b o e => Heap.get?_push_of_some _ e) (Nat.le_of_eq hD) ⟨Nat.zero_le _, [], 0, .nil, ?_⟩
    rw [← hD]
    exact Heap.get?_push_size _ rfl
  have h3 : s3.heap = s2.heap.push { cls := .type "list", data := .seq ([] : List Value).toArray } := by rw [← hs3]
  have sz : ∀ b ∈ fp, b < s2.heap.objs.size := fun b hb => by
    obtain ⟨o, e, _⟩ := T.obj _ _ st2 b hb
    exact Heap.lt_size e
  have f3 : ∀ b ∈ fp, FpOk X pins (upd H2 D (.lst [])) b ∧ b < s3.heap.objs.size := fun b hb => by
    have hlt := sz b hb
    refine ⟨⟨?_, (f2 b hb).2⟩, by rw [h3, Heap.size_push]; exact Nat.lt_succ_of_lt hlt⟩
    rw [upd_ne (by rw [← hD]; exact Nat.ne_of_lt hlt)]
    exact (f2 b hb).1
  have st3 : tn 0 s3.heap := T.keep _ _ _ st2 fun b _ o e => by rw [h3]; exact Heap.get?_push_of_some _ e
  have I4 := block_start I3 ok hN f3
  show codeAny _ _ (.compStart (.ListComp elt [⟨tg, iter, ifs, 0⟩] scope pos) 0 (.ref it) (.ref D) (compEnvC scope (cellsFrom (s3.heap.objs.size + 1) scope.names (cloFrom X.env.cells scope.names [])) s3.heap.objs.size X.env))
    (BPost (model X.prog X.w) X.A X.xe use Qf (.ref D) (compEnvC scope (cellsFrom (s3.heap.objs.size + 1) scope.names (cloFrom X.env.cells scope.names [])) s3.heap.objs.size X.env)) { s3 with heap := pushCells (s3.heap.push { cls := .type "dict", data := .dict #[] }) scope.names }
  have nfp : ∀ b ∈ fp, (upd H2 D (.lst [])) b = none := fun b hb => (f3 b hb).1.1
  have pg := hg s3 (upd H2 D (.lst [])) s3.heap.objs.size (cellsFrom (s3.heap.objs.size + 1) scope.names (cloFrom X.env.cells scope.names [])) fp
  have pt := ht s3 (upd H2 D (.lst [])) s3.heap.objs.size (cellsFrom (s3.heap.objs.size + 1) scope.names (cloFrom X.env.cells scope.names [])) fp
  have pe := he s3 (upd H2 D (.lst [])) s3.heap.objs.size (cellsFrom (s3.heap.objs.size + 1) scope.names (cloFrom X.env.cells scope.names [])) fp
  generalize hce : compEnvC scope (cellsFrom (s3.heap.objs.size + 1) scope.names (cloFrom X.env.cells scope.names [])) s3.heap.objs.size X.env = ce at I4 pg pt pe ⊢
  have cL : ce.locals = s3.heap.objs.size := by subst hce; rfl
  have cf : ce.frame = X.env.frame := by subst hce; rfl
  generalize hxe : (notedBy (model X.prog X.w) X.A ce fun x s' => BPost (model X.prog X.w) X.A X.xe use Qf (.ref D) ce (.error x) s') = xe at *
  generalize hH3 : upd H2 D (.lst []) = H3 at I3 I4 pg pt pe w0 nfp f3
  have tkB : TakesF (blkX X s3 H3 scope ce fp xe) W := by
    rw [← hxe]
    exact blk_takes hW tk I3 (fun b hb => (f3 b hb).1) hst hf0 hf cL cf
  have pg := pg xe tkB
  have pt := pt xe tkB
  have pe := pe xe tkB
  generalize hs4 : ({ s3 with heap := pushCells (s3.heap.push { cls := .type "dict", data := .dict #[] }) scope.names } : Shared) = s4 at I4 ⊢
  have I4 : Inv (blkX X s3 H3 scope ce fp xe) [] (wipe σ (own.map (·.2))) H3 s4 := I4.toTry xe
  have st4 : tn 0 s4.heap := T.keep _ _ _ st3 fun b _ o e => by rw [← hs4]; exact pushCells_keeps _ _ _ _ (Heap.get?_push_of_some _ e)
  have stat : ∀ {σ' : L2.St} {H' : Hp} {s' : Shared}, Inv (blkX X s3 H3 scope ce fp xe) [] σ' H' s' → (∀ b ∈ fp, H' b = none) → ∀ b ∈ fp, FpOk (blkX X s3 H3 scope ce fp xe) [] H' b := fun {σ' H' s'} I' hn b hb =>
    ⟨hn b hb, (I'.ok.exf b hb).1, I'.ok.exfs b hb, .inl hb, fun x c e => (I'.ok.exf b hb).2 x c e, fun p hp => absurd (show p ∈ ([] : List (Addr × Obj)) ++ [] from hp) (by simp)⟩
  have loop : codeAny (model X.prog X.w) X.A (.compLoop (.ListComp elt [⟨tg, iter, ifs, 0⟩] scope pos) 0 (.ref it) (.ref D) ce) (BPost (model X.prog X.w) X.A X.xe use Qf (.ref D) ce) s4 := by
    refine compLoop_any (fun n s' => ∃ i H', Inv (blkX X s3 H3 scope ce fp xe) [] (wipe σ (own.map (·.2))) H' s' ∧ tn i s'.heap ∧ (∀ b ∈ fp, H' b = none) ∧ V i n H') ?_ m0 ⟨0, H3, I4, st4, nfp, w0⟩
    rintro n s5 ⟨i, H5, I5, st5, n5, w5⟩
    rw [hxe]
    rcases turn i n H5 w5 with ⟨stop, qq⟩ | ⟨go, Nx, hNx, step⟩
    · have td := T.done (blkX X s3 H3 scope ce fp xe) rfl rfl rfl hc i [] s5 _ H5 (fun _ _ => False) I5 (stat I5 n5) st5 stop
      refine thnF td fun r s6 ⟨hr, I6⟩ => ?_
      subst hr
      have I7 : Inv X pins σ H5 s6 := I3.call' (ch := fp) I6.os I6.base I6.hok I6.bare fun b hb => ⟨(f3 b hb).1.2.2.2.1, (f3 b hb).1.2.1, (f3 b hb).1.2.2.2.2.1, (f3 b hb).1.2.2.2.2.2⟩
      have nC : H5 s3.heap.objs.size = none := by
        have z : H5 ce.locals = none := I6.free
        rw [cL] at z
        exact z
      obtain ⟨m, hn, _⟩ := I6.loc
      have hn : s6.heap.Ns ce.locals m := hn
      have z := hRR D s3.heap.objs.size s6 m H5 I7 qq (by rw [← cL]; exact hn) (I3.fpOk (Nat.le_refl _) nC)
      rw [← cL] at z
      exact z
    · have ti := T.item (blkX X s3 H3 scope ce fp xe) rfl rfl rfl hc i [] s5 _ H5 (fun _ _ => False) I5 (stat I5 n5) st5 go
      refine thnF ti fun r s6 ⟨u, hr, h6⟩ => ?_
      subst hr
      refine thnF h6 fun _ s7 ⟨x, H7, I7, r7, y7, st7, n7⟩ => ?_
      have I7' := I7.pinned (stat I7 n7) (T.obj _ _ st7)
      refine thn (pg.run _ s7 _ H7 x u _ I7' r7 (step x H7 y7)) fun _ s8 ⟨σ8, H8, I8, hw8, q8⟩ => ?_
      refine thn (pt.run _ s8 σ8 H8 _ I8 q8) fun b s9 ⟨H9, I9, q9⟩ => ?_
      have fin : ∀ {s' : Shared} {H' : Hp}, Inv (blkX X s3 H3 scope ce fp xe) ([] ++ pinsAt fp s7.heap) σ8 H' s' → Nx H' → ∃ m, m < n ∧ ∃ i H', Inv (blkX X s3 H3 scope ce fp xe) [] (wipe σ (own.map (·.2))) H' s' ∧ tn i s'.heap ∧ (∀ b ∈ fp, H' b = none) ∧ V i m H' := fun {s' H'} I' nx => by
        obtain ⟨m', hm, w'⟩ := hNx H' nx
        have pin' : ∀ b ∈ fp, ∀ o, s7.heap.get? b = some o → s'.heap.get? b = some o ∧ H' b = none := fun b hb o e =>
          let z := I'.pin (b, o) (List.mem_append_right _ (List.mem_append_right _ (mem_pinsAt hb e)))
          ⟨z.1, z.2.1⟩
        have hl : (wipe σ (own.map (·.2))).length = σ8.length := by rw [← hw8, wipe_length]
        refine ⟨m', hm, i + 1, H', (I'.unpinned (pins := [])).weak hl (fun j v e => ?_), T.keep _ _ _ st7 fun b hb o e => (pin' b hb o e).1, fun b hb => ?_, w'⟩
        · rw [← hw8] at e
          exact (wipe_some e).1
        · obtain ⟨o, e, _⟩ := T.obj _ _ st7 b hb
          exact (pin' b hb o e).2
      cases b with
      | false =>
        simp only [Bool.false_eq_true, if_false] at q9 ⊢
        exact fin I9 q9
      | true =>
        simp only [if_true] at q9 ⊢
        refine thn (pe.run _ s9 σ8 H9 _ I9 q9) fun z s10 ⟨yv, H10, I10, r10, acc, hD10, hz10, nx⟩ => ?_
        exact app_ok (X := blkX X s3 H3 scope ce fp xe) I10 hD10 hz10 r10 fun s11 I11 => fin I11 nx
  exact codeAny_compStart_list loop (T.self X.A 0 _ _ _ st4 loop)
/-- as a value -/
theorem pe_lcX {elt tg iter : Expr} {ifs : List Expr} {scope : Scope} {own : List (Str × Nat)} {pos : Pos} {wi : TI} {g : TG} {tt : TT} {te : TE} {W : WX} {e0 : Env} {o0 : List Env} {L : Addr} (hW : ∀ c d σ σ' H', W c d σ' H' → W c d σ H') (tk : TakesF X W) (hst : X.stack = e0 :: o0) (hf0 : e0.frame = some L) (hf : X.env.frame = some L)
    (hc : X.calm = true) (hN : X.N.Nodup) (hi : PI X tg iter wi) (ok : BlkOk X.N X.env.scope scope own)
    (hg : ∀ (s : Shared) (H : Hp) (C : Addr) (cl : List (Str × Addr)) (fp : List Addr) xe, TakesF (blkX X s H scope (compEnvC scope cl C X.env) fp xe) W → PG (blkX X s H scope (compEnvC scope cl C X.env) fp xe) tg g)
    (ht : ∀ (s : Shared) (H : Hp) (C : Addr) (cl : List (Str × Addr)) (fp : List Addr) xe, TakesF (blkX X s H scope (compEnvC scope cl C X.env) fp xe) W → PTs (blkX X s H scope (compEnvC scope cl C X.env) fp xe) ifs tt)
    (he : ∀ (s : Shared) (H : Hp) (C : Addr) (cl : List (Str × Addr)) (fp : List Addr) xe, TakesF (blkX X s H scope (compEnvC scope cl C X.env) fp xe) W → PE (blkX X s H scope (compEnvC scope cl C X.env) fp xe) elt te) (hs : ∀ x, foldedSetIterable iter X.env x = pure x) :
    PE X (.ListComp elt [⟨tg, iter, ifs, 0⟩] scope pos) (tLc wi g tt te (own.map (·.2))) := by
  refine ⟨fun pins s σ H Q I h => ?_⟩
  rw [eval_ListComp]
  refine lc_coreX (fun c d σ' H' w => hW c d σ σ' H' w) tk hst hf0 hf hc hN I hi ok hg ht he hs h fun D C s' m H' I' q hn f => ⟨m, hn, fun h'' sb => ?_⟩
  obtain ⟨f0, f1, f2, f3, f4, f5⟩ := f
  exact ⟨.ref D, H', I'.turned (t' := s'.toks) (fun b o hb e => (sb.2 b hb).trans e) f0 f1 f3 f4 f5, rfl, q⟩
/-- name = [..] on one line, the name a local -/
theorem ps_setLcX {i : Nat} {y : Str} {py : Pos} {elt tg iter : Expr} {ifs : List Expr} {scope : Scope} {own : List (Str × Nat)} {pos spos : Pos} {wi : TI} {g : TG} {tt : TT} {te : TE} {W : WX} {e0 : Env} {o0 : List Env} {L : Addr} (hW : ∀ c d σ σ' H', W c d σ' H' → W c d σ H') (tk : TakesF X W) (hst : X.stack = e0 :: o0) (hf0 : e0.frame = some L) (hf : X.env.frame = some L)
    (hc : X.calm = true) (hN : X.N.Nodup) (hy : X.N[i]? = some y) (hyl : X.env.scope.names.lookup y = some .local)
    (hsw : swapsWith (.ListComp elt [⟨tg, iter, ifs, 0⟩] scope pos) (some (.Name y py)) spos.line X.env = pure true) (hi : PI X tg iter wi) (ok : BlkOk X.N X.env.scope scope own)
    (hg : ∀ (s : Shared) (H : Hp) (C : Addr) (cl : List (Str × Addr)) (fp : List Addr) xe, TakesF (blkX X s H scope (compEnvC scope cl C X.env) fp xe) W → PG (blkX X s H scope (compEnvC scope cl C X.env) fp xe) tg g)
    (ht : ∀ (s : Shared) (H : Hp) (C : Addr) (cl : List (Str × Addr)) (fp : List Addr) xe, TakesF (blkX X s H scope (compEnvC scope cl C X.env) fp xe) W → PTs (blkX X s H scope (compEnvC scope cl C X.env) fp xe) ifs tt)
    (he : ∀ (s : Shared) (H : Hp) (C : Addr) (cl : List (Str × Addr)) (fp : List Addr) xe, TakesF (blkX X s H scope (compEnvC scope cl C X.env) fp xe) W → PE (blkX X s H scope (compEnvC scope cl C X.env) fp xe) elt te) (hs : ∀ x, foldedSetIterable iter X.env x = pure x) :
    PS X (.Assign [.Name y py] (.ListComp elt [⟨tg, iter, ifs, 0⟩] scope pos) spos) (tAsg (tLc wi g tt te (own.map (·.2))) (gName i)) := by
  refine ⟨fun pins s σ H D I h => ?_⟩
  rw [exec_Assign_Name_used _ _ _ _ hsw]
  refine wpAny_bind (wpAny_standAt (wpAny_bind ?_))
  show wpAny _ X.A (do let _ ← comprehension (.ListComp elt [⟨tg, iter, ifs, 0⟩] scope pos) scope X.env (firstIterPos [⟨tg, iter, ifs, 0⟩] pos) (newList []) false (eval iter X.env) (some (assign (.Name y py) X.env))) _ _ s
  have h : tLc wi g tt te (own.map (·.2)) σ H (fun x H1 => gName i x σ H1 D.nx) := h
  refine wpAny_bind (thn (lc_coreX (Qf := fun _ s' => SP X pins D .next s') (fun c d σ' H' w => hW c d σ σ' H' w) tk hst hf0 hf hc hN I hi ok hg ht he hs h fun L C s' m H' I' q hn f => ?_) fun _ s' hq => wpAny_pure (wpAny_pure hq))
  show wpAny _ _ (assign (.Name y py) X.env (.ref L)) _ _ _
  refine wpAny_assign_Name (store_ok2 (v := V.ref L) I' hN hy (.inl hyl) rfl (fun s2 I2 ⟨a, sb, ha⟩ => ?_) (.inr hyl))
  obtain ⟨f0, f1, f2, f3, f4, f5⟩ := f
  have haC : C ≠ a := by
    rcases ha with z | z
    · rw [z]; exact f1
    · exact fun e => f4 y a z e.symm
  refine ⟨m, hn.sameBut sb haC, fun h3 sb3 => ?_⟩
  exact ⟨_, H', I2.turned (t' := s2.toks) (fun b o hb e => (sb3.2 b hb).trans e) f0 f1 f3 f4 f5, q⟩
end
end DL
/-! list * int; the last two of some items: text + literal, text.replace(literal, literal). -/
namespace DL
open PySem PySem.Spec PyProof.Rows L2
section
variable {X : Cx}
theorem times_list (l : Addr) (items : Array Value) (n : Nat) (d : Option Addr) (sl : Array (Option Value)) (x : Int) (u : Tok) (c0 : ¬(!Builtin.List.listFitsIndex x) = true)
    (c1 : ¬items.size * x.toNat > (2 ^ 63 - 1) / 8) (c2 : ¬Builtin.List.listTooLong (items.size * x.toNat) = true) :
    Meets (Builtin.«list.__mul__» ⟨[.ref l, .int x u], []⟩) (fun _ R s => s.heap.get? l = some { cls := .type "list", dict := d, data := .seq items n, slots := sl } ∧ R (.ok (.ret (Value.ref s.heap.objs.size))) { s with heap := s.heap.push { cls := Value.type "list", data := Data.seq (List.foldl (fun x1 x2 => x1 ++ x2) #[] (List.replicate (if items.isEmpty = true then 0 else x.toNat) items)) }, toks := s.toks }) :=
  .of_wp fun prog w A R s h => by
    obtain ⟨hp, g, d, tk, os⟩ := s; obtain ⟨hl, h⟩ := h
    have hsz := AutoListH.joined_fits c2
    have f1 := AutoSeq1.idx_int
    wp_walk using wpAny_loadPart' hl
    refine wpAny_ite_false (decide_eq_false (Nat.not_lt.mpr hsz)) ?_
    wp_walk using wpAny_loadPart' hl
    exact ⟨_, rfl, h⟩
theorem int_times_list (a : Int) (t : Tok) (l : Addr) (items : Array Value) (n : Nat) (dd : Option Addr) (sl : Array (Option Value)) :
    Meets (Builtin.«int.__rmul__» ⟨[.int a t, .ref l], []⟩) (fun _ R s => s.heap.get? l = some { cls := .type "list", dict := dd, data := .seq items n, slots := sl } ∧ R (.ok (.ret Value.notImplemented)) s) :=
  .of_wp fun prog w A R s h => by obtain ⟨hp, g, d, tk, os⟩ := s; obtain ⟨hl, h⟩ := h; wp_walk using wpAny_loadPart' hl; exact ⟨_, rfl, h⟩
def rRepL (K : PySem.W.Frag) : R2 := fun x y H Q => ∃ l k xs, x = .ref l ∧ y = .int k ∧ SqL K H l xs ∧ 0 ≤ k ∧ k ≤ 1000 ∧ xs.length ≤ 1000 ∧ ∀ p, H p = none → Q (.ref p) (upd H p (.lst (List.replicate k.toNat xs).flatten))
theorem op_repL : OpR X (binaryOp .Mult) (rRepL X.K) := by
  intro pins s σ H x y v u Q I rx ry h
  obtain ⟨a, k, xs, rfl, rfl, hs, h1, h2, hz, q⟩ := h
  obtain rfl : v = Value.ref a := rx
  obtain ⟨t, rfl⟩ := ry
  obtain ⟨its, rv, ⟨⟨cls, dd, data, sl⟩, n, ho, hc, hdn, hd⟩, hlen⟩ := I.list hs
  have hc1 : cls = Value.type "list" := hc
  have hd1 : data = Data.seq its.toArray n := hd
  subst hc1 hd1
  have hle : its.length = xs.length := rv.length.symm
  have hi : (if its.toArray.isEmpty = true then 0 else k.toNat) = k.toNat ∨ its = [] := by
    cases its with
    | nil => exact .inr rfl
    | cons a b => exact .inl rfl
  have hrep : (List.foldl (fun x1 x2 => x1 ++ x2) #[] (List.replicate (if its.toArray.isEmpty = true then 0 else k.toNat) its.toArray)) = (List.replicate k.toNat its).flatten.toArray := by
    rcases hi with e | e
    · rw [e, size_rep]
    · subst e
      have e2 : ∀ n : Nat, (List.replicate n ([] : List Value)).flatten = [] := fun n => by simp
      rw [size_rep, e2, e2]
  have hsl := sizeLine_eq
  have a1 : k.toNat * xs.length ≤ 1000 * 1000 := Nat.mul_le_mul (by omega) hz
  have a2 : its.toArray.size * k.toNat ≤ 1000000 := by
    rw [List.size_toArray, hle, Nat.mul_comm]
    omega
  refine wpAny_binaryOp_repeat_ref (T := "list") (U := "int") (by decide) ⟨_, ho, rfl⟩ (fun s' => typeIs_int s' k t) noFill_list_mul F.fills_int_mul F.slot_int_rmul repeat_list F.slot_int_index.lookup
    (call_meets F.slot_int_rmul (typeIs_int s k t) F.entry_int_rmul (F.args_int_rmul_2 _ _) (int_times_list k t a its.toArray n dd sl)
      ⟨ho, rfl, ⟨_, ho, rfl⟩, call_meets F.slot_list_mul ⟨_, ho, rfl⟩ F.entry_list_mul (F.args_list_mul_2 _ _)
        (times_list a its.toArray n dd sl k t (by simp [Builtin.List.listFitsIndex]; omega) (by omega) (by simp only [Builtin.List.listTooLong, decide_eq_true_eq]; omega))
        ⟨ho, ?_⟩⟩)
  rw [hrep]
  refine ⟨.ref s.heap.objs.size, _, I.laid (t' := s.toks) (o := .lst (List.replicate k.toNat xs).flatten) (fun b o e => Heap.get?_push_of_some _ e) (Nat.le_refl _) ⟨?_, _, 0, rv.rep k.toNat, Heap.get?_push_size _ rfl⟩, rfl, q _ (I.hok.fresh (Nat.le_refl _))⟩
  rw [PyProof.Rows.lm_len_rep_flat]
  omega
theorem tuple_mul1 (l : Addr) (items : Array Value) (n : Nat) (dd : Option Addr) (sl : Array (Option Value)) (x : Int) (u : Tok) (c0 : (decide (x < -(2 ^ 63)) || decide (x ≥ 2 ^ 63)) = false) (c1 : (items.isEmpty || x == 1) = true) :
    Meets (Builtin.«tuple.__mul__» ⟨[.ref l, .int x u], []⟩) (fun _ R s => s.heap.get? l = some { cls := .type "tuple", dict := dd, data := .seq items n, slots := sl } ∧ R (.ok (.ret (Value.ref l))) { s with heap := s.heap, toks := s.toks }) :=
  .of_wp fun prog w A R s h => by
    obtain ⟨hp, g, d, tk, os⟩ := s
    obtain ⟨hl, h⟩ := h
    have f1 := AutoSeq1.idx_int
    wp_walk using wpAny_loadPart' hl
    repeat (first
      | (refine wpAny_ite_false (decide_eq_false (by rw [c0]; exact Bool.false_ne_true)) ?_; wp_walk using wpAny_loadPart' hl)
      | (refine wpAny_ite_true (decide_eq_true (by rw [c1])) ?_; wp_walk using wpAny_loadPart' hl))
    exact ⟨_, rfl, h⟩
theorem tuple_mul0 (l : Addr) (items : Array Value) (n : Nat) (dd : Option Addr) (sl : Array (Option Value)) (x : Int) (u : Tok) (c0 : (decide (x < -(2 ^ 63)) || decide (x ≥ 2 ^ 63)) = false) (c1 : (items.isEmpty || x == 1) = false) (c2 : (decide (x ≤ 0) || items.isEmpty) = true) :
    Meets (Builtin.«tuple.__mul__» ⟨[.ref l, .int x u], []⟩) (fun _ R s => s.heap.get? l = some { cls := .type "tuple", dict := dd, data := .seq items n, slots := sl } ∧ R (.ok (.ret (Value.ref s.heap.objs.size))) { s with heap := s.heap.push { cls := Value.type "tuple", data := Data.seq #[] }, toks := s.toks }) :=
  .of_wp fun prog w A R s h => by
    obtain ⟨hp, g, d, tk, os⟩ := s
    obtain ⟨hl, h⟩ := h
    have f1 := AutoSeq1.idx_int
    wp_walk using wpAny_loadPart' hl
    repeat (first
      | (refine wpAny_ite_false (decide_eq_false (by rw [c0]; exact Bool.false_ne_true)) ?_; wp_walk using wpAny_loadPart' hl)
      | (refine wpAny_ite_false (decide_eq_false (by rw [c1]; exact Bool.false_ne_true)) ?_; wp_walk using wpAny_loadPart' hl)
      | (refine wpAny_ite_true (decide_eq_true (by rw [c2])) ?_; wp_walk using wpAny_loadPart' hl))
    exact ⟨_, rfl, h⟩
/-- tuple * 1 is the tuple itself, tuple * 0 a new one of none -/
def rRep01 (K : PySem.W.Frag) : R2 := fun x y H Q => ∃ l k xs, x = .ref l ∧ y = .int k ∧ SqT K H l xs ∧ xs ≠ [] ∧ ((k = 1 ∧ Q (.ref l) H) ∨ (k = 0 ∧ ∀ p, H p = none → Q (.ref p) (upd H p (.tup (List.replicate 0 xs).flatten))))
theorem op_rep01 : OpR X (binaryOp .Mult) (rRep01 X.K) := by
  intro pins s σ H x y v u Q I rx ry h
  obtain ⟨l, k, xs, rfl, rfl, hT, hne, q⟩ := h
  cases rx
  obtain ⟨t, rfl⟩ := ry
  obtain ⟨its, r, ⟨⟨cls, dd, data, sl⟩, ho, hc, n, hd⟩, hs⟩ := I.tuple hT
  simp only at hc hd
  subst hc hd
  have hle : its.length = xs.length := r.length.symm
  have hn : its ≠ [] := fun e => hne (by
    rw [e] at hle
    exact List.eq_nil_of_length_eq_zero hle.symm)
  have hi : its.toArray.isEmpty = false := by
    cases its with
    | nil => exact absurd rfl hn
    | cons a b => rfl
  rcases q with ⟨rfl, q⟩ | ⟨rfl, q⟩
  · refine wpAny_binaryOp_repeat_ref (T := "tuple") (U := "int") (by decide) ⟨_, ho, rfl⟩ (fun s' => typeIs_int s' 1 t) noFill_tuple_mul F.fills_int_mul F.slot_int_rmul repeat_tuple F.slot_int_index.lookup
      (call_meets F.slot_int_rmul (typeIs_int s 1 t) F.entry_int_rmul (F.args_int_rmul_2 _ _) (int_rmul_tuple 1 t l its.toArray n dd sl)
        ⟨ho, rfl, ⟨_, ho, rfl⟩, call_meets F.slot_tuple_mul ⟨_, ho, rfl⟩ F.entry_tuple_mul (F.args_tuple_mul_2 _ _) (tuple_mul1 l its.toArray n dd sl 1 t (by decide) (by rw [hi]; rfl)) ⟨ho, ?_⟩⟩)
    exact ⟨.ref l, _, I, rfl, q⟩
  · refine wpAny_binaryOp_repeat_ref (T := "tuple") (U := "int") (by decide) ⟨_, ho, rfl⟩ (fun s' => typeIs_int s' 0 t) noFill_tuple_mul F.fills_int_mul F.slot_int_rmul repeat_tuple F.slot_int_index.lookup
      (call_meets F.slot_int_rmul (typeIs_int s 0 t) F.entry_int_rmul (F.args_int_rmul_2 _ _) (int_rmul_tuple 0 t l its.toArray n dd sl)
        ⟨ho, rfl, ⟨_, ho, rfl⟩, call_meets F.slot_tuple_mul ⟨_, ho, rfl⟩ F.entry_tuple_mul (F.args_tuple_mul_2 _ _) (tuple_mul0 l its.toArray n dd sl 0 t (by decide) (by rw [hi]; rfl) (by rw [hi]; rfl)) ⟨ho, ?_⟩⟩)
    refine ⟨.ref s.heap.objs.size, _, I.laid (t' := s.toks) (o := .tup (List.replicate 0 xs).flatten) (fun b ob q => Heap.get?_push_of_some _ q) (Nat.le_refl _) ?_, rfl, q _ (I.hok.fresh (Nat.le_refl _))⟩
    exact ⟨Nat.zero_le _, [], .nil, IsTup.new _ _⟩
/-- the last two -/
def tRep2 (ta to : TE) (l y z : Str) : TA := fun σ H Q => ta σ H fun v H1 => ∃ x, v = .str x ∧ x.length + l.length ≤ 16777216 ∧ to σ H1 fun u H2 => ∃ t, u = .str t ∧ t.length + (t.length + 1) * z.length ≤ 16777216 ∧ Q [.str (x ++ l), .str (Txt.replace t y z)] H2
theorem pa_rep2 {a o : Expr} {ta to : TE} {l y z : Str} {j k i : Nat} {c0 c1 c2 apos pos ppos : Pos} (ha : PE X a ta) (ho : PE X o to) (hyz : (y == z) = false)
    (hst : starEach [.Constant (.str y) j c0, .Constant (.str z) k c1] X.env = [(false, eval (.Constant (.str y) j c0) X.env), (false, eval (.Constant (.str z) k c1) X.env)] := by rfl)
    (hbase : attributeBase o "replace" X.env (eval o X.env) = eval o X.env) (hline : (apos.endLine == pos.line) = true) :
    PA X [.BinOp a .Add (.Constant (.str l) i c2) ppos, .Call (.Attribute o "replace" apos) [.Constant (.str y) j c0, .Constant (.str z) k c1] [] pos] (tRep2 ta to l y z) := by
  refine ⟨fun ps pins s σ H Q I h => ?_⟩
  show wpAny _ _ (spliced ((false, eval (.BinOp a .Add (.Constant (.str l) i c2) ppos) X.env) :: (false, eval (.Call (.Attribute o "replace" apos) [.Constant (.str y) j c0, .Constant (.str z) k c1] [] pos) X.env) :: backTo ps (starEach [] X.env))) _ _ s
  refine Calls.spliced_cons (wpAny_BinOp (thn (ha.run pins s σ H _ I h) fun v s1 ⟨xv, H1, I1, r1, x, ex, hz, q⟩ => Calls.Constant_str ?_))
  subst ex
  have hz2 : x.length + l.length ≤ sizeLine := by rw [sizeLine_eq]; exact hz
  have I1' : Inv X pins σ H1 { s1 with toks := s1.toks + 1 } := I1.tok _
  refine wpAny_mono (PySem.wpAny_toks (op_add_str pins { s1 with toks := s1.toks + 1 } σ H1 (.str x) (.str l) v (.str l s1.toks) (fun w H' => w = .str (x ++ l) ∧ H' = H1) I1' r1 ⟨_, rfl⟩ ⟨x, l, rfl, rfl, hz2, rfl, rfl⟩)) (fun w s2 hw => ?_) fun _ _ z => z.2
  obtain ⟨hk, wv, H2, I2, r2, ew, eH⟩ := hw
  subst ew eH
  have h0 : 0 < s2.toks := Nat.lt_of_lt_of_le (Nat.succ_pos _) hk
  exact Calls.spliced_cons (thn (CwR.pet_replC ho hyz hst hbase hline pins s2 σ H2 (fun w H' => Q [.str (x ++ l), w] H') h0 I2 q) fun w s3 ⟨wv, H3, I3, r3, q⟩ => Calls.spliced_nil ⟨[.str (x ++ l), wv], H3, I3, .cons r2 (.cons r3 .nil), q⟩)
end
end DL
/-! list.count of flat things. -/
namespace DL
open PySem PySem.Spec PyProof.Rows L2
section
variable {X : Cx}
def rCntD (K : PySem.W.Frag) : V → List V → Hp → VK → Prop := fun x xs H Q => ∃ (a : Addr) (y : V) (d : PyData) (ds : List PyData), x = V.ref a ∧ xs = [y] ∧ Dp K H (V.ref a) (.list ds) ∧ Dp K H y d ∧
  SeqAt.shaped (.list ds) = true ∧ SeqAt.shaped d = true ∧ Q (.int ((ds.countP fun z => PyData.eqv z d : Nat) : Int)) H
theorem mt_lcountD (hu : X.A.units + 65 < cLine) : MtR X "list.count" (rCntD X.K) := by
  intro pins s σ H x xs v us Q I rx rxs h
  obtain ⟨a, y, d, ds, rfl, rfl, hl, hy, sl, sd, q⟩ := h
  cases rx
  obtain ⟨uy, rfl, ry⟩ := rxs.one
  obtain ⟨bs, r1⟩ := Dp.reads I d y uy hy ry
  have cl : PyData.canLayAll0 ds = true := SeqAt.canLay_of_shaped sl
  have room : X.A.units + 1 + min (PyData.depthAll ds) d.depth < cLine := room_in_shaped sd hu
  cases hl with
  | lst hs ha =>
    obtain ⟨its, rv, ⟨⟨cls, dd, data, sls⟩, n, ho, hc, hdn, hdt⟩, hlen⟩ := I.list hs
    simp only at hc hdt
    subst hc hdt
    obtain ⟨as, h4⟩ := Dp.readsAll I ds _ its ha rv
    have em : its.map (SeqAt.readOf s.heap) = ds := SeqAt.readsAll_map ds its as cl h4
    refine call_meets PySem.F.slot_list_count ⟨_, ho, rfl⟩ PySem.F.entry_list_count (PySem.F.args_list_count_2 _ _)
      (SeqAt.list_countAt a its.toArray n dd sls uy fun u => PyData.eqv (SeqAt.readOf s.heap u) d) ⟨ho, SeqAt.items_eqAt (vs := its.toArray) (show ReadsAll s.heap its.toArray.toList ds as from h4) r1 cl (SeqAt.canLay_of_shaped sd) room, ?_⟩
    refine ⟨.int _, H, I.tok _, ⟨s.toks, ?_⟩, q⟩
    show Value.int ((its.toArray.toList.countP (fun u => PyData.eqv (SeqAt.readOf s.heap u) d) : Nat) : Int) s.toks = _
    rw [show its.toArray.toList = its from by simp, ← em, List.countP_map]
    rfl
/-- repr of nested data, where no other is under way -/
def rReprD (K : PySem.W.Frag) : List V → Hp → VK → Prop := fun xs H Q => ∃ (x : V) (d : PyData), xs = [x] ∧ Dp K H x d ∧ SeqAt.shaped d = true ∧ d.showable = true ∧ d.hasDict = false ∧ d.shown.length ≤ 16777216 ∧ (∃ a, x = .ref a) ∧ Q (.str d.shown) H
theorem call_reprD (hg : X.A.guards = some []) (hu : X.A.units + 65 < cLine) : CallR X (.builtin "repr") (rReprD X.K) := by
  intro pins s σ H xs us Q I r h
  obtain ⟨x, d, rfl, hd, sd, hs, hn, hz, ⟨a, rfl⟩, q⟩ := h
  obtain ⟨u, rfl, ru⟩ := r.one
  obtain ⟨as, r1⟩ := Dp.reads I d _ u hd ru
  cases ru
  have dp := SeqAt.depth_of_shaped sd
  exact repr_of_reads' r1 hs (PyData.noDict_hsm hn) hg (by omega) (fun b o e => e) (fun h' u tk hk => ⟨.str d.shown, H, I.kept (t' := tk) hk, ⟨u, rfl⟩, q⟩) (by rw [sizeLine_eq]; exact hz)
/-- a text times 0 or 1 -/
def rMulS : R2 := fun x y H Q => ∃ s k, x = .str s ∧ y = .int k ∧ 0 ≤ k ∧ k ≤ 1 ∧ Q (.str (if k = 1 then s else ⟨#[]⟩)) H
theorem op_mulS : OpR X (binaryOp .Mult) rMulS := by
  intro pins s σ H x y v u Q I rx ry h
  obtain ⟨z, k, rfl, rfl, h0, h1, q⟩ := h
  obtain ⟨t, rfl⟩ := rx
  obtain ⟨t2, rfl⟩ := ry
  by_cases hk : k = 1
  · subst hk
    rw [if_pos rfl] at q
    refine PySem.P.mul_str (by decide) (fun _ e => absurd e (by simp)) (fun _ e => absurd e (by simp)) ?_
    rw [if_neg (by decide), if_pos (by simp)]
    exact ⟨.str z, H, I, ⟨t, rfl⟩, q⟩
  · have e : k = 0 := by omega
    subst e
    rw [if_neg (by decide)] at q
    exact PySem.P.mul_str_none (by decide) (by decide) ⟨.str _, H, I.tok _, ⟨_, rfl⟩, q⟩
end
end DL
/-! Exceptions with an own __init__ that calls the __init__ of the own class above: made, held, asked. -/
namespace L2
open PySem PySem.Spec PyProof.Rows
/-- what the class above must have for B.__init__ to be read -/
structure InitB (K : PySem.W.Frag) (B : Addr) : Prop where
  sp : PySem.W.specialIn K (.ref B) "__getattribute__" = some (some (.builtin "type.__getattribute__"))
  rd : PySem.W.readsIn K B (.type "type") = true
  fc : PySem.W.findCls K (.ref B) (.type "type") "__init__" = some (.val (.builtin "ValueError.__init__"))
section
variable {X : Cx} {o e : Expr} {es : List Expr} {to te : TE} {ta : TA} {f : Str} {p p' p1 p2 pos : Pos}
end
/-! ### the own __init__, walked -/
/-- what it says to the class above: a text, or a text and the second field's -/
inductive IArg where
  | lit (s : Str) | cat (s : Str)
def IArg.ok : IArg → V → Prop
  | .lit _, _ => True
  | .cat s, y => ∃ t, y = .str t ∧ s.length + t.length ≤ sizeLine
def IArg.is (n2 : Str) : IArg → Expr → Prop
  | .lit s, e => ∃ j q, e = .Constant (.str s) j q
  | .cat s, e => ∃ j q q1 q2, e = .BinOp (.Constant (.str s) j q) .Add (.Name n2 q1) q2
/-- an __init__ of two fields -/
structure IForm (st : Stmt) (n1 n2 f1 f2 : Str) (g : IArg) : Prop where
  body : ∃ (p1 p2 p3 p4 p5 p6 p7 p8 p9 p10 p11 p12 p13 : Pos) (e : Expr), g.is n2 e ∧ (p2.endLine == p4.line) = true ∧
    defBody st = [.Expr (.Call (.Attribute (.Name "PipeError" p1) "__init__" p2) [.Name "self" p3, e] [] p4) p5, .Assign [.Attribute (.Name "self" p6) f1 p7] (.Name n1 p8) p9, .Assign [.Attribute (.Name "self" p10) f2 p11] (.Name n2 p12) p13]
  sc : FnScope ["self", n1, n2] ["self", n1, n2] (defScope st)
  gl : (defScope st).names.lookup ("PipeError" : Str) = some .globalImplicit
  nd : ∀ x ∈ [n1, n2], (x == ("__debug__" : Str)) = false ∧ (x == ("__classdict__" : Str)) = false
/-- what the __init__ keeps -/
def spI (K : PySem.W.Frag) (C : Addr) (f1 f2 : Str) (g : IArg) : Sp := fun vs H Q _ => ∃ (a : Addr) (y1 y2 : V), vs = [.ref a, y1, y2] ∧ H a = some (exo a C none) ∧ g.ok y2 ∧
  ∀ dx, H dx = none → dx ≠ a → Q .non (upd (upd H dx (exd dx [(f2, y2), (f1, y1)])) a (exo a C (some dx)))
end L2
namespace DL
open PySem PySem.Spec PyProof.Rows L2
/-! ### isinstance of a caught error, with a dict or without -/
section
open PySem.W PySem.Calls
variable {prog : Program} {w : World} {A : Around} {E : Value → Shared → Prop} {s : Shared} {K : Frag} {x D : Addr} {ox : Obj} {od : Option Obj}
theorem find_dataN {C : Addr} {name : Str} {a g : Value} (hc : (clsIn K C).isSome = true) (ha : findIn K (.ref C) name = some (some a)) (hg : specialIn K a "__get__" = some (some g)) (ht : takesIn K a = some true) : findObj K C od name = some (.bind g a) := by
  obtain ⟨cd, hc⟩ := Option.isSome_iff_exists.mp hc
  unfold findObj
  rw [hc, Option.bind_some, ha, Option.bind_some]
  simp [hg, ht]
theorem kin_classX {Q : Option Value → Shared → Prop} (C : ExcC K D) (X : K.In s.heap) (I : InstAt s.heap x ox D od) (h : Q (some (.ref D)) { s with toks := s.toks + 1 }) : wpAny (model prog w) A (getAttr? (.ref x) "__class__") Q E s := by
  obtain ⟨hga, hgt, hsub, hdct, ha, hn, htk, hm⟩ := C
  have hf : findObj K D od "__class__" = some (.bind (.builtin "getset_descriptor.__get__") (.builtin "object.__class__")) := find_dataN (by obtain ⟨cd, hc, _⟩ := any_some hdct; rw [hc]; rfl) ha hn htk
  obtain ⟨hp, g, d, t, os⟩ := s
  have L0 := I.type (M := model prog w)
  have L1 := looks_findIn (M := model prog w) X hga
  have L2 := looks_findIn (M := model prog w) X hgt
  have L3 := looks_find (M := model prog w) X I hf
  have sub : Looks (model prog w) hp (isInstance (.ref x) (.type "BaseException")) true := L0.andThen (looks_subIn X hsub)
  have hx0 : (false && onTheHeap (Value.builtin "BaseException.__getattribute__")) = false := rfl
  have hx2 : (Value.builtin "BaseException.__getattribute__" == Value.builtin "object.__getattribute__") = false := by decide +kernel
  have hx1 : (onTheHeap (Value.ref D) && Value.builtin "BaseException.__getattribute__" == Value.builtin "object.__getattribute__") = false := by rw [hx2]; rfl
  unfold getAttr? getAttrBy? getAttrBy
  refine wpAny_bind (wpAny_mkText (wpAny_bind (wpAny_attempt (wpAny_holding (wpAny_bind (L0.at (wpAny_bind (L1.at ?_))))))))
  show wpAny _ _ (if (onTheHeap (Value.ref D) && Value.builtin "BaseException.__getattribute__" == Value.builtin "object.__getattribute__") = true then _ else _) _ _ _
  rw [hx1, if_neg Bool.false_ne_true]
  unfold getAttrByItsOwn hookBefore
  refine wpAny_bind ?_
  rw [if_pos (show onTheHeap (Value.ref D) = true from rfl)]
  refine L2.at ?_
  refine wpAny_bind (wpAny_attempt (wpAny_holding ?_))
  unfold callGetattribute
  rw [hx0, if_neg Bool.false_ne_true]
  unfold boundAndCalled
  rw [PySem.F.excAttr_ValueError.ga.bind (.ref x)]
  refine wpAny_bind (wpAny_pure ?_)
  show wpAny _ _ (call (.builtin "BaseException.__getattribute__") [.ref x, .str "__class__" t]) _ _ _
  refine wpAny_call (codeAny_call_builtin PySem.F.excAttr_ValueError.ga.plain PySem.F.entry_bexc_ga ?_)
  refine @check_slot (model prog w) _ _ ⟨hp, g, d, t + 1, os⟩ "BaseException.__getattribute__" "BaseException" "__getattribute__" (.ref x) [.str "__class__" t] [] _ (by decide +kernel) (by decide +kernel) sub (PySem.F.args_bexc_ga (.ref x) (.str "__class__" t)) ?_
  unfold Builtin.«object.__getattribute__»
  refine wpAny_bind (wpAny_of_eq (a := ((Value.ref x : Value), [Value.str "__class__" t])) (by first | rfl | (simp only [slotArgs]; rfl)) ?_)
  refine wpAny_bind (wpAny_pure (wpAny_bind (L0.at (wpAny_bind (L3.at ?_)))))
  show wpAny _ _ (holding [Value.builtin "object.__class__"] (call (.builtin "getset_descriptor.__get__") [.builtin "object.__class__", .ref x, .ref D]) >>= ret) _ _ _
  refine wpAny_bind (wpAny_holding (wpAny_call (class_get (s := ⟨hp, g, d, t + 1, os⟩) (ox := ox) (od := od) X I hm ?_)))
  refine wpAny_pure ?_
  show wpAny _ _ (handedOut (.ref D)) _ _ _
  rw [handedOut_of (v := .ref D) rfl]
  first
    | exact wpAny_pure (wpAny_pure h)
    | exact wpAny_pure h
    | exact wpAny_pure (wpAny_bind (wpAny_pure (wpAny_pure h)))
theorem kitx_excX (C : ExcC K D) : KitX K (.ref x) (.ref D) (fun h => InstAt h x ox D od) where
  ty := fun _ _ _ I => I.type
  it := fun _ _ X _ => by
    obtain ⟨cdD, hcD, _⟩ := any_some C.hd
    unfold clsIn at hcD
    split at hcD
    · rename_i c' d' cd' sl' ho
      intro A' Q' E' s' k q
      unfold isType loadHead
      exact wpAny_bind (wpAny_loadPart (k _ _ (X _ _ ho)) (wpAny_pure q))
    · cases hcD
  ne := fun h tp dd its n sl X htp => by
    obtain ⟨cdD, hcD, _⟩ := any_some C.hd
    refine Bool.eq_false_iff.mpr fun q => ?_
    have e : D = tp := Value.ref.inj (beq_iff_eq.mp q)
    subst e
    unfold clsIn at hcD
    split at hcD
    · rename_i c' d' cd' sl' ho
      have z := (X _ _ ho).symm.trans htp
      cases z
    · cases hcD
  ca := fun X I k => kin_classX C X I k
end
end DL
/-! Exceptions as values: made by an own __init__, asked for their class, their fields read. -/
namespace L2
open PySem PySem.Spec PyProof.Rows
/-- an exception's own dict, seen -/
def XAt (K : PySem.W.Frag) (H : Hp) (a C : Addr) (fs : List (Str × V)) : Prop := (H a = some (ExO (.ref C) a) ∧ fs = []) ∨ ∃ p, H a = some (exo a C (some p)) ∧ H p = some (exd p fs)
theorem xat_inst {X : Cx} {pins : List (Addr × Obj)} {σ : St} {H : Hp} {s : Shared} {a C : Addr} {fs : List (Str × V)} (I : Inv X pins σ H s) (h : XAt X.K H a C fs) :
    ∃ ox od, PySem.W.InstAt s.heap a ox C od ∧ (fs = [] ∨ ∃ p mA o, ox.dict = some p ∧ od = some o ∧ s.heap.Ns1 p mA ∧ s.heap.get? p = some o ∧ ∀ f, RelO (fs.lookup f) (mA f)) := by
  rcases h with ⟨h, rfl⟩ | ⟨p, h, hd⟩
  · obtain ⟨⟨oe, vs, ho, hz, hdt, _⟩, _, _⟩ := (show ObjOk X.prog X.w H s.heap a (ExO (.ref C) a) from I.hok a _ h)
    obtain ⟨oc, od, oda, osl⟩ := oe
    obtain ⟨h1, h2⟩ := hz
    dsimp only at h1 h2 hdt
    subst h1 h2 hdt
    exact ⟨_, none, ⟨ho, rfl, rfl, trivial⟩, .inl rfl⟩
  · obtain ⟨t1, ho⟩ := exo_at I.hok h
    obtain ⟨mA, hns, rel⟩ := exd_at I.hok hd
    obtain ⟨od, hod, _⟩ := lookIn_ns hns
    exact ⟨_, some od, ⟨ho, rfl, rfl, hod⟩, .inr ⟨p, mA, od, rfl, rfl, hns, hod, rel⟩⟩
/-- isinstance of an exception -/
def rIsV (K : PySem.W.Frag) : List V → Hp → VK → Prop := fun xs H Q => ∃ (a C : Addr) (fs : List (Str × V)) (c : V) (cv : Value) (b : Bool), xs = [.ref a, c] ∧ XAt K H a C fs ∧ ExcC K C ∧ (∀ u, RelV c u → u = cv) ∧ PySem.W.kitOne K (.ref C) cv = some b ∧ Q (.bl b) H
theorem call_isV {X : Cx} : CallR X (.builtin "isinstance") (rIsV X.K) := by
  intro pins s σ H xs us Q I r h
  obtain ⟨a, C, fs, c, cv, b, rfl, hx, ec, hcv, e, q⟩ := h
  cases r with
  | cons rx rr =>
    cases rr with
    | cons rt rr =>
      cases rr
      cases rx
      have ecv := hcv _ rt
      subst ecv
      obtain ⟨ox, od, J, _⟩ := xat_inst I hx
      exact PySem.W.kia_one (DL.kitx_excX ec) I.kIn J e (fun z => nomatch z) fun tk => ⟨.bl b, H, I.kept (t' := tk) fun _ _ z => z, rfl, q⟩
/-- C(e, ..), C's own __init__ keeping sp, as a value -/
def tMkV (C : Addr) (sp : Sp) (ta : TA) : TE := fun σ H Q => ta σ H fun vs H1 => vs.length ≤ 1000 ∧ ∀ a, H1 a = none → sp (.ref a :: vs) (upd H1 a (exo a C none))
  (fun v H2 => v = .non ∧ Q (.ref a) H2) (fun _ _ _ => False)
section
variable {X : Cx} {e : Expr} {es : List Expr} {ta : TA} {p pos : Pos}
theorem pe_oexv {CX : CXT} {x : Str} {C fI : Addr} {k : Nat} {fd : FuncData} {ps : List Str} {sp : Sp} (T : OexC X.K C) (iC : PySem.W.findIn X.K (.ref C) "__init__" = some (some (.ref fI))) (tI : PySem.W.typeIn X.K (.ref fI) = some (.type "function"))
    (F1 : FnOk X.prog X.w X.K X.mg X.base CX k fI fd ps sp) (hr : Room (k + 1) X.A) (hb : Binds X.K fd ps []) (hx : Passes CX X (fun _ _ _ => False)) (hg : Gl X x) (hm : X.mg x = some (.ref C)) (ha : PA X (e :: es) ta)
    (hdb : (x == ("__debug__" : Str)) = false := by decide) (he : starEach (e :: es) X.env = (false, eval e X.env) :: starEach es X.env := by rfl) (hpl : (backTo pos (starEach es X.env)).any (·.1) = false := by rfl) :
    PE X (.Call (.Name x p) (e :: es) [] pos) (tMkV C sp ta) := by
  refine ⟨fun pins s σ H Q I h => ?_⟩
  obtain ⟨nm, q, N, bs, bm, sn, sub, ab, col, dd, k0, k1, k2, k3, k5, hC, hbm⟩ := T.cls
  refine wpAny_Call_Name_kw (ld_glob I hg hm ?_ hdb)
  refine PySem.W.callWith_K (h₀ := X.base) I.ok.mod.kin T.kC (thn (ha.run pos pins s σ H _ I h) fun us s1 ⟨vs, H1, I1, r1, hz, q1⟩ => ⟨I1.kIn, ?_⟩) he hpl
  show wpAny _ _ (call (.ref C) us) _ _ _
  obtain ⟨hp, g, dr, tk, os⟩ := s1
  have hsz : hp.objs.size ≤ hp.objs.size + 1 := Nat.le_succ _
  have hn : H1 (hp.objs.size + 1) = none := I1.hok.fresh hsz
  have hq := q1 (hp.objs.size + 1) hn
  have kk : ∀ b o, hp.get? b = some o → ((hp.push (PySem.W.kdv_tup us)).push (PySem.HandSPX.excO C hp.objs.size)).get? b = some o := fun b o e => Heap.get?_push_of_some _ (Heap.get?_push_of_some _ e)
  have hget : ((hp.push (PySem.W.kdv_tup us)).push (PySem.HandSPX.excO C hp.objs.size)).get? (hp.objs.size + 1) = some (PySem.HandSPX.excO C hp.objs.size) := by heap_get
  have I2 : Inv X pins σ (upd H1 (hp.objs.size + 1) (exo (hp.objs.size + 1) C none)) ⟨(hp.push (PySem.W.kdv_tup us)).push (PySem.HandSPX.excO C hp.objs.size), g, dr, tk, os⟩ :=
    I1.laid (t' := tk) (a := hp.objs.size + 1) (o := exo (hp.objs.size + 1) C none) (h' := (hp.push (PySem.W.kdv_tup us)).push (PySem.HandSPX.excO C hp.objs.size)) kk hsz (exo_ok hget)
  have r2 : Vals (V.ref (hp.objs.size + 1) :: vs) (Value.ref (hp.objs.size + 1) :: us) := .cons rfl r1
  have hl : (Value.ref (hp.objs.size + 1) :: us).length = ps.length := by
    have e := r2.length
    rw [F1.len _ _ _ _ hq] at e
    exact e.symm
  have hus : us.length ≤ sizeLine := by
    rw [← Paired.length r1, sizeLine_eq]
    omega
  have hb2 := hb _ (Value.ref (hp.objs.size + 1) :: us) I2.kIn (by rw [List.append_nil]; exact hl)
  rw [List.append_nil] at hb2
  refine wpAny_call (PySem.HandSPX.call_own F.excBase_ValueError (fun Y => PySem.HandSPX.refsVE_contains Y bm hbm) (I1.kIn _ _ hC) (PySem.W.looks_findIn I1.kIn iC) (fun self => PySem.W.bind_fn I1.kIn self tI) hus
    (codeAny_mono (F1.run _ X.stack _ _ ⟨Value.ref (hp.objs.size + 1) :: us, []⟩ (Value.ref (hp.objs.size + 1) :: us) _ _ (fun _ _ _ => False) (hr.make C us []) (I2.env0.make C us []) hb2 r2 hq) fun r s' hq' => ?_))
  cases r with
  | error er => exact hx pins σ _ _ er s' I2 hq'
  | ok fl =>
    cases fl with
    | ret u =>
      obtain ⟨v, H2, os2, bare2, un2, hok2, rv, ev, q2⟩ := hq'
      subst ev
      obtain ⟨h2, g2, d2, t2, os'⟩ := s'
      exact ⟨rv, .ref (hp.objs.size + 1), H2, I2.call' (ch := []) os2 un2 hok2 bare2 (fun b z => absurd z (by simp)), rfl, q2⟩
    | next => exact False.elim hq'
    | brk => exact False.elim hq'
    | cont => exact False.elim hq'
end
end L2
/-! sorted(xs, key=lambda row: row[column - 1], reverse=b), column a captured name: over the hand layer. -/
namespace SkL
open PySem PySem.Spec PyProof.Rows L2 LamX
abbrev St := L2.St
def keyB (row col : Str) (p1 p2 p3 p4 p5 : Pos) (j : Nat) : Expr := .Subscript (.Name row p1) (.BinOp (.Name col p2) .Sub (.Constant (.int 1) j p3) p4) p5
/-! ### the key's text -/
section
variable {prog : Program} {w : World} {A : Around} {E : Value → Shared → Prop} {s : Shared}
theorem key_body {env : Env} {row col : Str} {p1 p2 p3 p4 p5 : Pos} {j : Nat} {m : Str → Option Value} {cc t : Addr} {ct : Tok} {n : Int} {items : Array Value} {k : Nat} {x : Value} {Q : Value → Shared → Prop}
    (hk : env.scope.kind = .function) (hr : env.kindOf row = some .local) (hn : s.heap.Ns env.locals m) (hm : m row = some (.ref t)) (hc : env.kindOf col = some .free) (hcl : env.cells.lookup col = some cc) (hcell : s.heap.IsCell cc (some (.int n ct)))
    (ht : IsTup s.heap t items) (hlo : -2 ^ 63 ≤ n - 1) (hhi : n - 1 < 2 ^ 63) (hs : seqIndex? (n - 1) items.size = some k) (hx : items[k]? = some x) (d1 : (row == ("__debug__" : Str)) = false) (d2 : (col == ("__debug__" : Str)) = false) (d3 : (col == ("__classdict__" : Str)) = false)
    (h : ∀ tk, Q x { s with toks := tk }) : wpAny (model prog w) A (eval (keyB row col p1 p2 p3 p4 p5 j) env) Q E s := by
  unfold keyB
  refine Subscript_BinOp (wpAny_Name (wpAny_loadName_local hk hr hn hm ?_) d1)
  refine wpAny_BinOp (wpAny_Name (wpAny_loadName_free hk hc hcl hcell ?_ d3) d2)
  refine wpAny_Constant_int (sub_int ?_)
  exact ⟨"tuple", "tuple.__getitem__", slot_tuple_getitem.lookup, IsTup.typeIs ht, getItem_tuple (s := { s with toks := s.toks + 1 + 1 }) ht hlo hhi hs hx (h _)⟩
/-- the lambda called: all that was there stays, the item is the answer -/
theorem key_call {f c' : Addr} {q row col : Str} {p1 p2 p3 p4 p5 : Pos} {j : Nat} {params : Arguments} {scope : Scope} {cl : List (Str × Addr)} {pm ctv : Value} {cc t : Addr} {ct : Tok} {n : Int} {items : Array Value} {k : Nat} {x : Value} {d : PyData}
    (of : s.heap.get? f = some (PySem.W.kla_obj "<lambda>" q params (keyB row col p1 p2 p3 p4 p5 j) scope cl pm c' ctv)) (hcd : s.heap.CodeRec (.ref c') q) (hroom : A.depth < recursionLimit) (lim : s.heap.NoLimit)
    (hbind : bindArgs (PySem.W.kla_fn "<lambda>" q params (keyB row col p1 p2 p3 p4 p5 j) scope cl pm (.ref c') ctv) ⟨[.ref t], []⟩ = pure [(row, .ref t)])
    (sk : scope.kind = .function) (co : scope.isCoroutine = false) (gen : scope.isGenerator = false) (nc : ∀ y ∈ scope.names, y.2 ≠ .cell) (lr : scope.names.lookup row = some .local) (lc : scope.names.lookup col = some .free)
    (hcl : cl.lookup col = some cc) (hcell : s.heap.IsCell cc (some (.int n ct))) (ht : IsTup s.heap t items) (hlo : -2 ^ 63 ≤ n - 1) (hhi : n - 1 < 2 ^ 63) (hs : seqIndex? (n - 1) items.size = some k) (hx : items[k]? = some x)
    (d1 : (row == ("__debug__" : Str)) = false) (d2 : (col == ("__debug__" : Str)) = false) (d3 : (col == ("__classdict__" : Str)) = false) (hr : ∀ h, Reads h x d []) :
    wpAny (model prog w) A (call (.ref f) [.ref t]) (PySem.W.KeyPure d s) E s := by
  refine wpAny_call (PySem.W.kla_callFunE hroom of rfl co gen rfl hcd ?_)
  rw [hbind]
  refine wpAny_pure (wpAny_newFunctionEnv nc (fun y hy => by rw [List.mem_singleton.mp hy]; exact lr) (fun h1 hns hsb => ?_) sk)
  have kp : ∀ b o, s.heap.get? b = some o → h1.get? b = some o := fun b o e => hsb.extBut b o (Nat.ne_of_lt (Heap.lt_size e)) (Heap.get?_push_of_some _ e)
  refine ⟨lim.fresh _ hsb, ?_⟩
  refine PySem.W.kla_codeExpr (key_body (cc := cc) (ct := ct) sk lr hns (by show List.lookup row [(row, Value.ref t)] = _; simp [List.lookup]) lc hcl (hcell.keeps kp) (ht.keeps kp) hlo hhi hs hx d1 d2 d3 fun tk => ?_)
  exact ⟨h1, tk, rfl, kp, hr _⟩
end
/-! ### the lambda made -/
section
variable {X : Cx} {pins : List (Addr × Obj)} {σ : St} {H : Hp} {s : Shared}
def LamO (f : Addr) (o : Obj) : HO := .ext fun h => h.get? f = some o
theorem lamO_ok {P : Program} {w : World} {H : Hp} {h : Heap} {f : Addr} {o : Obj} (e : h.get? f = some o) : ObjOk P w H h f (LamO f o) :=
  ⟨e, ⟨o, e⟩, fun _ _ e1 k => k _ e1⟩
abbrev lamQ (X : Cx) : Str := X.env.qual ++ "<lambda>"
abbrev lamObj (X : Cx) (params : Arguments) (body : Expr) (scope : Scope) (pm : Value) (c' : Addr) (ctv : Value) : Obj :=
  PySem.W.kla_obj "<lambda>" (lamQ X) params body scope (cloFrom X.env.cells scope.names []) pm c' ctv
/-- what the table and the code objects in it are -/
def TabOk (H : Hp) (q : Str) (ps : Array Value) : Prop := TriplesOk ps.toList ∧ ∀ (pos : Pos) (cv : Value), codeAmong pos ps.toList = some cv → ∃ c, cv = .ref c ∧ H c = some (CodeO c q)
/-- the heap behind the making: the code object c' was there, or it is new and told by the table -/
inductive Made (H : Hp) (P : Addr) (q : Str) (ps : Array Value) (c' : Addr) : Hp → Prop
  | old : H c' = some (CodeO c' q) → Made H P q ps c' H
  | new (ps' : Array Value) : H c' = none → c' ≠ P → TriplesOk ps'.toList → (∀ (pos : Pos) (cv : Value), codeAmong pos ps'.toList = some cv → cv = .ref c' ∨ ∃ pos2, codeAmong pos2 ps.toList = some cv) → Made H P q ps c' (upd (upd H P (.tbl ps')) c' (CodeO c' q))
def tLamV (X : Cx) (P : Addr) (params : Arguments) (body : Expr) (scope : Scope) : TE := fun σ H Q => ∃ ps : Array Value, H P = some (.tbl ps) ∧ TabOk H (lamQ X) ps ∧
  ∀ (f c' : Addr) (pm ctv : Value) (H1 : Hp), Made H P (lamQ X) ps c' H1 → H1 f = none → Q (.ref f) (upd H1 f (LamO f (lamObj X params body scope pm c' ctv)))
theorem pe_lamV {c P : Addr} {params : Arguments} {body : Expr} {scope : Scope} {pos : Pos} (TB : TabB X.base X.mg c P) (hcode : X.env.code = .ref c) (hdef : defaultsOf params X.env = ([], []))
    (hfree : X.Ok → ∀ y ∈ scope.names, y.2 = .free → ∃ c, X.env.cells.lookup y.1 = some c) : PE X (.Lambda params body scope pos) (tLamV X P params body scope) := by
  refine ⟨fun pins s σ H Q I h => ?_⟩
  obtain ⟨ps, hP, ⟨ht, ha⟩, h⟩ := h
  refine PySem.W.kla_eval hdef ?_
  have bAt : s.heap.BuiltinsAt X.mg P := TB.bm.keeps I.bk
  have oP : s.heap.get? P = some { cls := .none, data := .fields ps } := I.hok P _ hP
  cases am : codeAmong pos ps.toList with
  | none =>
    refine PySem.W.kla_makeFunction (mg := X.mg) (c := c) (P := P) (ps := ps) (closure_ok (hfree I.ok)) I.ok.glob (I.mod.glob.keeps I.bk) hcode (TB.code.keeps I.bk) oP ht am TB.gP bAt fun c' ctv h' tk hx hge hlt rec0 htb => ?_
    obtain ⟨d1, od, us, tq, ed, hod, hdd, hdv⟩ := rec0
    cases ed
    have newC : H c' = none := I.hok.fresh hge
    have cneP : c' ≠ P := fun z => by rw [z, hP] at newC; cases newC
    have J1 := inv_table (q := lamQ X) (t' := tk) (more := #[rawInt pos.line, rawInt pos.col, .ref c']) (h' := h') I hP (fun b o hb e => hx b o hb e) htb hge ⟨od, us, tq, hod, hdd, hdv⟩
    have eTab : (ps ++ #[rawInt pos.line, rawInt pos.col, .ref c']).toList = ps.toList ++ [rawInt pos.line, rawInt pos.col, .ref c'] := by simp
    have I2 := J1.laid (a := h'.objs.size) (o := LamO h'.objs.size (lamObj X params body scope ((X.mg "__name__").getD .none) c' ctv)) (h' := h'.push (lamObj X params body scope ((X.mg "__name__").getD .none) c' ctv)) (t' := tk) (fun b u e => Heap.get?_push_of_some _ e) (Nat.le_refl _) (lamO_ok (Heap.get?_push_size _ rfl))
    refine ⟨.ref h'.objs.size, _, I2, rfl, h _ c' _ ctv _ (.new _ newC cneP (by rw [eTab]; exact PySem.TriplesOk_snoc _ _ _ _ ht) fun p' cv hcv => ?_) (J1.hok.fresh (Nat.le_refl _))⟩
    rw [eTab] at hcv
    exact (among_app _ ht hcv).elim (fun z => .inr ⟨p', z⟩) .inl
  | some cv =>
    obtain ⟨c', ec, hk0⟩ := ha pos cv am
    subst ec
    refine PySem.W.kla_makeFunctionHit (mg := X.mg) (c := c) (P := P) (ps := ps) (closure_ok (hfree I.ok)) I.ok.glob (I.mod.glob.keeps I.bk) hcode (TB.code.keeps I.bk) oP ht am bAt fun ctv h' tk hx hsz => ?_
    have J1 : Inv X pins σ H { s with heap := h', toks := tk } := I.kept hx
    have I2 := J1.laid (a := h'.objs.size) (o := LamO h'.objs.size (lamObj X params body scope ((X.mg "__name__").getD .none) c' ctv)) (h' := h'.push (lamObj X params body scope ((X.mg "__name__").getD .none) c' ctv)) (t' := tk) (fun b u e => Heap.get?_push_of_some _ e) (Nat.le_refl _) (lamO_ok (Heap.get?_push_size _ rfl))
    exact ⟨.ref h'.objs.size, _, I2, rfl, h _ c' _ ctv _ (.old hk0) (J1.hok.fresh (Nat.le_refl _))⟩
end
/-! ### sorted -/
inductive KeyV : V → PyData → Prop
  | int (i : Int) : KeyV (.int i) (.int i)
  | str (x : Str) : KeyV (.str x) (.str x)
theorem keyV_reads {z : V} {d : PyData} {x : Value} (k : KeyV z d) (r : RelV z x) : ∀ h, Reads h x d [] := fun h => by
  cases k with
  | int i => obtain ⟨t, rfl⟩ := r; exact .int _ _
  | str y => obtain ⟨t, rfl⟩ := r; exact .str _ _
section
variable {X : Cx} {pins : List (Addr × Obj)} {σ : St} {H : Hp} {s : Shared}
structure LamR (sc scope : Scope) (row col : Str) : Prop where
  kind : scope.kind = .function
  co : scope.isCoroutine = false
  gen : scope.isGenerator = false
  nc : ∀ y ∈ scope.names, y.2 ≠ .cell
  lr : scope.names.lookup row = some .local
  lc : scope.names.lookup col = some .free
  free : ∀ y ∈ scope.names, y.2 = .free → sc.names.lookup y.1 = some .cell ∨ sc.names.lookup y.1 = some .free
  d1 : (row == ("__debug__" : Str)) = false
  d2 : (col == ("__debug__" : Str)) = false
  d3 : (col == ("__classdict__" : Str)) = false
theorem each_of_vals : ∀ {ys : List (V × PyData)} {us : List Value}, Vals (ys.map (·.1)) us → PySem.W.EachIs (fun v y => RelV y.1 v) us ys
  | [], _, .nil => .nil
  | _ :: _, _, .cons r t => .cons r (each_of_vals t)
theorem vals_of_each : ∀ {ys : List (V × PyData)} {us : List Value}, PySem.W.EachIs (fun v (y : V × PyData) => RelV y.1 v) us ys → Vals (ys.map (·.1)) us
  | _, _, .nil => .nil
  | _, _, .cons r t => .cons r (vals_of_each t)
theorem sk_run {f l c' : Addr} {row col : Str} {p1 p2 p3 p4 p5 : Pos} {j i : Nat} {params : Arguments} {scope : Scope} {pm ctv : Value} {n : Int} {ys : List (V × PyData)} {kw : List (Str × Value)} {b : Bool} {Q : VK}
    (I : Inv X pins σ H s) (hf : H f = some (LamO f (lamObj X params (keyB row col p1 p2 p3 p4 p5 j) scope pm c' ctv))) (hco : H c' = some (CodeO c' (lamQ X))) (hl : SqL X.K H l (ys.map (·.1)))
    (hN : X.N[i]? = some col) (hs : σ[i]? = some (some (.int n))) (L : LamR X.env.scope scope row col)
    (hbind : ∀ (q : Str) (cl : List (Str × Addr)) (pm cv ctv v : Value), bindArgs (PySem.W.kla_fn "<lambda>" q params (keyB row col p1 p2 p3 p4 p5 j) scope cl pm cv ctv) ⟨[v], []⟩ = pure [(row, v)])
    (items : ∀ y ∈ ys, ∃ t vs z, y.1 = .ref t ∧ SqT X.K H t vs ∧ atI vs (n - 1) = some z ∧ KeyV z y.2) (hal : PySem.W.AllAlike (ys.map (·.2))) (hk : PySem.W.Sortable (ys.map (·.2))) (room : Room 2 X.A)
    (ha1 : argsOk "sorted" ⟨[.ref l], kw⟩) (ha2 : ∀ x, argsOk "list.sort" ⟨[.ref x], kw⟩) (ht : ∀ x, Builtin.«list.sort» ⟨[.ref x], kw⟩ = ksk_tree x (.ref f) b)
    (q : ∀ p, H p = none → Q (.ref p) (upd H p (.lst ((ys.mergeSort (PySem.W.dataLe b fun y : V × PyData => y.2)).map (·.1))))) : wpAny (model X.prog X.w) X.A (call (.builtin "sorted") [.ref l] kw) (EP X pins σ Q) X.xe s := by
  obtain ⟨its, rv, hli, hz⟩ := I.list hl
  obtain ⟨of, _, _⟩ := I.hok f _ hf
  obtain ⟨⟨oc, ocs, oct, hoc, hdc, hvc⟩, _, _⟩ := I.hok c' _ hco
  have of : s.heap.get? f = some (lamObj X params (keyB row col p1 p2 p3 p4 p5 j) scope pm c' ctv) := of
  -- the captured cell
  obtain ⟨cc, ct, hcc, hcell⟩ : ∃ (cc : Addr) (ct : Tok), (cloFrom X.env.cells scope.names []).lookup col = some cc ∧ s.heap.IsCell cc (some (.int n ct)) := by
    have hfr := L.free _ (PySem.mem_of_lookup L.lc) rfl
    obtain ⟨m, hn, hll⟩ := I.loc
    have hvis : Vis X.env.scope col := hfr.elim (fun k => .inr (.inl k)) (fun k => .inr (.inr k))
    obtain ⟨u, ru, qq⟩ := hll i col _ hN hs hvis
    obtain ⟨ct, rfl⟩ := ru
    have hfree : ∀ y ∈ scope.names, y.2 = .free → ∃ c, X.env.cells.lookup y.1 = some c := fun y hy e => by
      rcases L.free y hy e with k | k
      · exact I.ok.has _ (.inl k)
      · exact I.ok.has _ (.inr k)
    obtain ⟨c1, hc1⟩ := mem_lookup (cloFrom_has (cells := X.env.cells) (acc := []) (PySem.mem_of_lookup L.lc))
    have e1 : X.env.cells.lookup col = some c1 := by
      rcases cloFrom_mem (PySem.mem_of_lookup hc1) with hm | ⟨h1, h2⟩
      · cases hm
      · obtain ⟨c2, hc2⟩ := hfree _ h1 rfl
        have hc2 : X.env.cells.lookup col = some c2 := hc2
        rw [h2, hc2]
        rfl
    refine ⟨c1, ct, hc1, ?_⟩
    rcases qq with ⟨k, _⟩ | ⟨_, c3, e', z⟩
    · have k : X.env.scope.names.lookup col = some .local := k
      rcases hfr with k2 | k2 <;> rw [show X.env.scope.names.lookup col = _ from k2] at k <;> cases k
    · rw [e1] at e'
      cases e'
      exact z
  refine PySem.W.sorted_key_data (β := V × PyData) (bs := ys) (vs := its) (R := fun v y => RelV y.1 v) (fun y => y.2) hli.isList (each_of_vals rv) hal hk (by rw [List.length_map] at hz; exact hz) (fun y hy => ?_) ha1 ha2 ht (fun v y hR hy h tk kp => ?_) fun out c h' tk kp fresh hD ho eo => ?_
  · obtain ⟨t, vs, z, _, _, _, kv⟩ := items y hy
    have hu := room.un
    have : y.2.depth = 0 := by revert kv; generalize y.2 = dd; intro kv; cases kv <;> rfl
    omega
  · obtain ⟨t, vs, z, ey, st, ea, kv⟩ := items y hy
    rw [ey] at hR
    obtain rfl : v = Value.ref t := hR
    obtain ⟨ites, r2, pl, hz2⟩ := I.tuple st
    obtain ⟨jx, h1, h2, h3, h4, h5⟩ := atI_get ea
    obtain ⟨x, ex, rx⟩ := r2.get h2
    have hl2 := r2.length
    have hn63 := line63
    refine key_call (s := { s with heap := h, toks := tk }) (cc := cc) (ct := ct) (n := n) (items := ites.toArray) (k := jx) (x := x) (kp _ _ of) ⟨c', oc, ocs, oct, rfl, kp _ _ hoc, hdc, hvc⟩ ?_ (I.nolimit.keeps kp) (hbind _ _ _ _ _ _) L.kind L.co L.gen L.nc L.lr L.lc hcc (hcell.keeps kp) (pl.keeps kp) (by omega) (by omega) (by rw [List.size_toArray, ← hl2]; exact h1) (by simpa using ex) L.d1 L.d2 L.d3 (keyV_reads kv rx)
    have := room.dp
    show X.A.depth < _
    omega
  · have rvo := vals_of_each eo
    have hlo : ((ys.mergeSort (PySem.W.dataLe b fun y : V × PyData => y.2)).map (·.1)).length ≤ sizeLine := by
      rw [List.length_map, List.length_mergeSort]
      rw [List.length_map] at hz
      exact hz
    exact ⟨.ref _, upd H (s.heap.objs.size + 1) (.lst ((ys.mergeSort (PySem.W.dataLe b fun y : V × PyData => y.2)).map (·.1))), I.laid (t' := tk) kp (Nat.le_succ _) ⟨hlo, out, c, rvo, hD⟩, rfl, q _ (I.hok.fresh (Nat.le_succ _))⟩
/-! ### the call -/
/-- behind all operands -/
def rSk (X : Cx) (i : Nat) (row col : Str) (p1 p2 p3 p4 p5 : Pos) (j : Nat) (params : Arguments) (scope : Scope) (b : Bool) (zs0 : List V) : St → List V → List V → Hp → VK → Prop := fun σ vs zs H Q => ∃ (f l c' : Addr) (pm ctv : Value) (n : Int) (ys : List (V × PyData)),
  vs = [.ref l] ∧ zs = .ref f :: zs0 ∧ H f = some (LamO f (lamObj X params (keyB row col p1 p2 p3 p4 p5 j) scope pm c' ctv)) ∧ H c' = some (CodeO c' (lamQ X)) ∧ SqL X.K H l (ys.map (·.1)) ∧ σ[i]? = some (some (.int n)) ∧
  (∀ y ∈ ys, ∃ t vs z, y.1 = .ref t ∧ SqT X.K H t vs ∧ atI vs (n - 1) = some z ∧ KeyV z y.2) ∧ PySem.W.AllAlike (ys.map (·.2)) ∧ PySem.W.Sortable (ys.map (·.2)) ∧ ∀ p, H p = none → Q (.ref p) (upd H p (.lst ((ys.mergeSort (PySem.W.dataLe b fun y : V × PyData => y.2)).map (·.1))))
theorem pe_sk1 {row col x : Str} {p1 p2 p3 p4 p5 p pos lpos kpos : Pos} {j i : Nat} {params : Arguments} {scope : Scope} {e : Expr} {t tk : TA} (hx : x = "sorted") (hg : Gl X x) (hm : X.mg x = none) (ha : PA X [e] t)
    (hk : PK X [⟨some "key", .Lambda params (keyB row col p1 p2 p3 p4 p5 j) scope lpos, kpos⟩] tk) (hN : X.N[i]? = some col) (L : LamR X.env.scope scope row col)
    (hbind : ∀ (q : Str) (cl : List (Str × Addr)) (pm cv ctv v : Value), bindArgs (PySem.W.kla_fn "<lambda>" q params (keyB row col p1 p2 p3 p4 p5 j) scope cl pm cv ctv) ⟨[v], []⟩ = pure [(row, v)]) (room : Room 2 X.A)
    (he : backTo pos (starEach [e] X.env) = (false, eval e X.env) :: backTo pos (starEach [] X.env)) :
    PE X (.Call (.Name x p) [e] [⟨some "key", .Lambda params (keyB row col p1 p2 p3 p4 p5 j) scope lpos, kpos⟩] pos) (fun σ H Q => t σ H fun vs H1 => tk σ H1 fun zs H2 => rSk X i row col p1 p2 p3 p4 p5 j params scope false [] σ vs zs H2 Q) := by
  subst hx
  refine ⟨fun pins s σ H Q I h => ?_⟩
  refine wpAny_Call_Name_kw (ld_blt I hg hm boot_sorted ?_)
  refine PyProof.Rows.callWith_kw (thn (ha.run pos pins s σ H _ I h) fun us s1 ⟨vs, H1, I1, r1, q1⟩ => thn (hk.run pos pins s1 σ H1 _ I1 q1) fun ws s2 ⟨zs, H2, I2, r2, q2⟩ => ?_) he (by rw [he]; rfl) (by rfl) (by rfl)
  obtain ⟨f, l, c', pm, ctv, n, ys, rfl, rfl, hf, hco, hl, hs, items, hal, hso, q⟩ := q2
  obtain rfl := Vals.ref1 r1
  obtain rfl := Vals.ref1 r2
  show wpAny _ _ (call (.builtin "sorted") [.ref l] [(Str.ofString "key", .ref f)]) _ _ s2
  exact sk_run I2 hf hco hl hN hs L hbind items hal hso room (PyProof.Rows.ksk_s1 _ _) (fun _ => PyProof.Rows.ksk_l1 _ _) (fun _ => ksk_t1 _ _) q
theorem pe_sk2 {row col x : Str} {p1 p2 p3 p4 p5 p pos lpos kpos rpos kpos2 : Pos} {j i k : Nat} {b : Bool} {params : Arguments} {scope : Scope} {e : Expr} {t tk : TA} (hx : x = "sorted") (hg : Gl X x) (hm : X.mg x = none) (ha : PA X [e] t)
    (hk : PK X [⟨some "key", .Lambda params (keyB row col p1 p2 p3 p4 p5 j) scope lpos, kpos⟩, ⟨some "reverse", .Constant (.bool b) k rpos, kpos2⟩] tk) (hN : X.N[i]? = some col) (L : LamR X.env.scope scope row col)
    (hbind : ∀ (q : Str) (cl : List (Str × Addr)) (pm cv ctv v : Value), bindArgs (PySem.W.kla_fn "<lambda>" q params (keyB row col p1 p2 p3 p4 p5 j) scope cl pm cv ctv) ⟨[v], []⟩ = pure [(row, v)]) (room : Room 2 X.A)
    (he : backTo pos (starEach [e] X.env) = (false, eval e X.env) :: backTo pos (starEach [] X.env)) :
    PE X (.Call (.Name x p) [e] [⟨some "key", .Lambda params (keyB row col p1 p2 p3 p4 p5 j) scope lpos, kpos⟩, ⟨some "reverse", .Constant (.bool b) k rpos, kpos2⟩] pos) (fun σ H Q => t σ H fun vs H1 => tk σ H1 fun zs H2 => rSk X i row col p1 p2 p3 p4 p5 j params scope b [.bl b] σ vs zs H2 Q) := by
  subst hx
  refine ⟨fun pins s σ H Q I h => ?_⟩
  refine wpAny_Call_Name_kw (ld_blt I hg hm boot_sorted ?_)
  refine PyProof.Rows.callWith_kw (thn (ha.run pos pins s σ H _ I h) fun us s1 ⟨vs, H1, I1, r1, q1⟩ => thn (hk.run pos pins s1 σ H1 _ I1 q1) fun ws s2 ⟨zs, H2, I2, r2, q2⟩ => ?_) he (by rw [he]; rfl) (by rfl) (by rfl)
  obtain ⟨f, l, c', pm, ctv, n, ys, rfl, rfl, hf, hco, hl, hs, items, hal, hso, q⟩ := q2
  obtain rfl := Vals.ref1 r1
  obtain ⟨w1, w2, rfl, e1, e2⟩ := vals2 r2
  obtain rfl : w1 = Value.ref f := e1
  obtain rfl : w2 = Value.bool b := e2
  show wpAny _ _ (call (.builtin "sorted") [.ref l] [(Str.ofString "key", .ref f), (Str.ofString "reverse", .bool b)]) _ _ s2
  exact sk_run I2 hf hco hl hN hs L hbind items hal hso room (PyProof.Rows.ksk_s2 _ _ _) (fun _ => PyProof.Rows.ksk_l2 _ _ _) (fun _ => ksk_t2 _ _ _) q
end
end SkL
/-! A data level over the hand layer: values as data D, a memory Mem of the objects that may change, expressions by what they make of data. -/
namespace DL
open PySem PySem.Spec PyProof.Rows L2

abbrev St := L2.St
/-! ### data, memory -/
inductive D where
  | non | bl (b : Bool) | int (i : Int) | str (s : Str) | tup (l : List D) | lst (l : List D) | lk (l : List D) | ref (a : Addr) | emp | exc (c : Str) (ns : List Str) (l : List D) | ins (c : Str) (ns : List Str) (l : List D) | tpl (l : List D) | tpz (l : List D)
inductive MO where
  | lst (l : List D) | pot (l : List D) | obj (c : Str) (fs : List (Str × D)) | dct (t : Bool) (kvs : List (List Key × D)) | tab (q : Str)
abbrev Mem := Addr → Option MO
def mset (μ : Mem) (a : Addr) (o : MO) : Mem := fun b => if b = a then some o else μ b
def mdel (μ : Mem) (a : Addr) : Mem := fun b => if b = a then none else μ b
@[simp] theorem mset_same {μ : Mem} {a : Addr} {o : MO} : mset μ a o a = some o := by unfold mset; rw [if_pos rfl]
theorem mset_ne {μ : Mem} {a b : Addr} {o : MO} (h : b ≠ a) : mset μ a o b = μ b := by unfold mset; rw [if_neg h]
theorem mdel_same {μ : Mem} {a : Addr} : mdel μ a a = none := by unfold mdel; rw [if_pos rfl]
theorem mdel_ne {μ : Mem} {a b : Addr} (h : b ≠ a) : mdel μ a b = μ b := by unfold mdel; rw [if_neg h]
@[simp] theorem mset_mset {μ : Mem} {a : Addr} {o u : MO} : mset (mset μ a o) a u = mset μ a u := by
  funext b; unfold mset; split <;> rfl
theorem mdel_mset {μ : Mem} {a : Addr} {o : MO} (h : μ a = none) : mdel (mset μ a o) a = μ := by
  funext b; unfold mdel mset
  by_cases e : b = a
  · rw [if_pos e, e, h]
  · rw [if_neg e, if_neg e]

section
variable (K : PySem.W.Frag) (H : Hp) (F : Addr → Prop)
/-- a list of the written part, or a locked one (the script) -/
def KL (K : PySem.W.Frag) (H : Hp) (a : Addr) (xs : List V) : Prop :=
  (∃ ob, H a = some (.frz ob (.lst xs))) ∨ ∃ (o : Obj) (its : Array Value) (n : Nat), K.lookup a = some o ∧ o.cls = .type "list" ∧ o.dict = none ∧ o.data = .seq its n ∧ its.size ≤ sizeLine ∧ Vals xs its.toList
/-- an exception that stays as it is -/
def XF (H : Hp) (F : Addr → Prop) (a C : Addr) (fs : List (Str × V)) : Prop := (F a ∧ H a = some (ExO (.ref C) a) ∧ fs = []) ∨ ∃ p, F a ∧ F p ∧ H a = some (exo a C (some p)) ∧ H p = some (exd p fs)
theorem XF.at {K : PySem.W.Frag} {H : Hp} {F : Addr → Prop} {a C : Addr} {fs : List (Str × V)} (h : XF H F a C fs) : XAt K H a C fs := by
  rcases h with ⟨_, h, e⟩ | ⟨p, _, _, h1, h2⟩
  · exact .inl ⟨h, e⟩
  · exact .inr ⟨p, h1, h2⟩
mutual
inductive RD : V → D → Prop
  | non : RD .non .non
  | bl (b : Bool) : RD (.bl b) (.bl b)
  | int (i : Int) : RD (.int i) (.int i)
  | str (x : Str) : RD (.str x) (.str x)
  | tup {a : Addr} {vs : List V} {ds : List D} : SqT K H a vs → RDs vs ds → RD (.ref a) (.tup ds)
  | lst {a : Addr} {vs : List V} {ds : List D} : F a → H a = some (.lst vs) → RDs vs ds → RD (.ref a) (.lst ds)
  | lk {a : Addr} {vs : List V} {ds : List D} : KL K H a vs → RDs vs ds → RD (.ref a) (.lk ds)
  | ref (a : Addr) : RD (.ref a) (.ref a)
  | emp {a : Addr} : F a → H a = some (.dK []) → RD (.ref a) .emp
  | exc {a C : Addr} {c : Str} {ns : List Str} {vs : List V} {ds : List D} : PySem.W.nsIn K mainGlobals c = some (some (.ref C)) → XF H F a C (ns.zip vs) → ns.length = vs.length → RDs vs ds → RD (.ref a) (.exc c ns ds)
  | ins {a C dx : Addr} {c : Str} {ns : List Str} {vs : List V} {ds : List D} : PySem.W.nsIn K mainGlobals c = some (some (.ref C)) → F a → H a = some (.ins C dx (ns.zip vs)) → ns.length = vs.length → RDs vs ds → RD (.ref a) (.ins c ns ds)
  | tpl {a : Addr} {vs : List V} {ds : List D} : F a → H a = some (.tup vs) → RDs vs ds → RD (.ref a) (.tpl ds)
  | tpz {a : Addr} {ob : Obj} {vs : List V} {ds : List D} : F a → H a = some (.frz ob (.tup vs)) → ob.cls = .type "tuple" → ob.dict = none → RDs vs ds → RD (.ref a) (.tpz ds)
inductive RDs : List V → List D → Prop
  | nil : RDs [] []
  | cons {v : V} {vs : List V} {d : D} {ds : List D} : RD v d → RDs vs ds → RDs (v :: vs) (d :: ds)
end
theorem zip_fs : ∀ gs : List (Str × V), (gs.map (·.1)).zip (gs.map (·.2)) = gs
  | [] => rfl
  | (a, b) :: r => by rw [List.map_cons, List.map_cons, List.zip_cons_cons, zip_fs r]
def kD : Key → D
  | .inl i => .int i
  | .inr s => .str s
def RO : MO → HO → Prop
  | .obj c fs, u => ∃ (C dx : Addr) (gs : List (Str × V)), PySem.W.nsIn K mainGlobals c = some (some (.ref C)) ∧ u = .ins C dx gs ∧ gs.map (·.1) = fs.map (·.1) ∧ RDs K H F (gs.map (·.2)) (fs.map (·.2))
  | .dct false kvs, u => ∃ hvs : List (Key × V), u = .dK hvs ∧ hvs.map (fun x => [x.1]) = kvs.map (·.1) ∧ RDs K H F (hvs.map (·.2)) (kvs.map (·.2))
  | .dct true kvs, u => ∃ hvs : List (List Key × V), u = .dT hvs ∧ hvs.map (·.1) = kvs.map (·.1) ∧ RDs K H F (hvs.map (·.2)) (kvs.map (·.2))
  | .tab q, u => ∃ ps : Array Value, u = .tbl ps ∧ TriplesOk ps.toList ∧ ∀ (pos : Pos) (cv : Value), codeAmong pos ps.toList = some cv → ∃ c, cv = .ref c ∧ F c ∧ H c = some (LamX.CodeO c q)
  | .lst ds, u => ∃ vs, u = .lst vs ∧ RDs K H F vs ds
  | .pot ds, u => ∃ (p q : Int) (vs : List V), u = .lst (.int p :: .int q :: vs) ∧ RDs K H F vs ds ∧ 0 ≤ p ∧ 0 ≤ q ∧ q < 2147483648
structure MS (μ : Mem) : Prop where
  at_ : ∀ a o, μ a = some o → ¬ F a ∧ ∃ u, H a = some u ∧ RO K H F o u
  fin : ∀ a, F a → ∃ u, H a = some u
end
structure Grow (H : Hp) (F : Addr → Prop) (μ : Mem) (H' : Hp) (F' : Addr → Prop) (μ' : Mem) : Prop where
  keep : ∀ a u, H a = some u → μ a = none → H' a = some u
  fr : ∀ a, F a → F' a
  new : ∀ a, F' a → F a ∨ H a = none ∨ (μ a).isSome = true ∨ ∃ vs, H a = some (.tup vs)
  dom : ∀ a, (μ' a).isSome = true → (μ a).isSome = true ∨ H a = none
theorem Grow.refl {H F μ} : Grow H F μ H F μ := ⟨fun _ _ e _ => e, fun _ e => e, fun _ e => .inl e, fun _ e => .inl e⟩
theorem Grow.trans {H F μ H1 F1 μ1 H2 F2 μ2} (g : Grow H F μ H1 F1 μ1) (k : Grow H1 F1 μ1 H2 F2 μ2) : Grow H F μ H2 F2 μ2 := by
  have none1 : ∀ a u, H a = some u → μ a = none → μ1 a = none := fun a u e n => by
    cases q : μ1 a with
    | none => rfl
    | some o =>
      rcases g.dom a (by rw [q]; rfl) with z | z
      · rw [n] at z; cases z
      · rw [e] at z; cases z
  have back : ∀ a, H1 a = none → H a = none ∨ (μ a).isSome = true := fun a e => by
    cases q : H a with
    | none => exact .inl rfl
    | some u =>
      cases r : μ a with
      | some o => exact .inr rfl
      | none => rw [g.keep a u q r] at e; cases e
  refine ⟨fun a u e n => k.keep a u (g.keep a u e n) (none1 a u e n), fun a e => k.fr a (g.fr a e), fun a e => ?_, fun a e => ?_⟩
  · rcases k.new a e with z | z | z | ⟨vs, z⟩
    · exact g.new a z
    · exact .inr ((back a z).imp id .inl)
    · rcases g.dom a z with y | y
      · exact .inr (.inr (.inl y))
      · exact .inr (.inl y)
    · cases q : H a with
      | none => exact .inr (.inl rfl)
      | some u =>
        cases r : μ a with
        | some o => exact .inr (.inr (.inl rfl))
        | none =>
          have y := g.keep a u q r
          rw [z] at y
          cases y
          exact .inr (.inr (.inr ⟨vs, rfl⟩))
  · rcases k.dom a e with z | z
    · exact g.dom a z
    · exact (back a z).symm
/-- what data leans on -/
structure Stay (K : PySem.W.Frag) (H : Hp) (F : Addr → Prop) (H' : Hp) (F' : Addr → Prop) : Prop where
  tup : ∀ a vs, SqT K H a vs → SqT K H' a vs
  lst : ∀ a u, F a → H a = some u → F' a ∧ H' a = some u
  lk : ∀ a o vs, H a = some (.frz o (.lst vs)) → H' a = some (.frz o (.lst vs))
theorem XF.stay {K H F H' F' a C fs} (st : Stay K H F H' F') (h : XF H F a C fs) : XF H' F' a C fs := by
  rcases h with ⟨f, h, e⟩ | ⟨p, f1, f2, h1, h2⟩
  · exact .inl ⟨(st.lst _ _ f h).1, (st.lst _ _ f h).2, e⟩
  · exact .inr ⟨p, (st.lst _ _ f1 h1).1, (st.lst _ _ f2 h2).1, (st.lst _ _ f1 h1).2, (st.lst _ _ f2 h2).2⟩
mutual
theorem RD.stay {K H F H' F'} (st : Stay K H F H' F') : ∀ {v d}, RD K H F v d → RD K H' F' v d
  | _, _, .non => .non
  | _, _, .bl b => .bl b
  | _, _, .int i => .int i
  | _, _, .str x => .str x
  | _, _, .tup h r => .tup (st.tup _ _ h) (RDs.stay st r)
  | _, _, .lst f h r => .lst (st.lst _ _ f h).1 (st.lst _ _ f h).2 (RDs.stay st r)
  | _, _, .lk h r => .lk (h.elim (fun ⟨o, q⟩ => .inl ⟨o, st.lk _ _ _ q⟩) .inr) (RDs.stay st r)
  | _, _, .ref a => .ref a
  | _, _, .emp f h => .emp (st.lst _ _ f h).1 (st.lst _ _ f h).2
  | _, _, .exc n x l r => .exc n (x.stay st) l (RDs.stay st r)
  | _, _, .ins n f h l r => .ins n (st.lst _ _ f h).1 (st.lst _ _ f h).2 l (RDs.stay st r)
  | _, _, .tpl f h r => .tpl (st.lst _ _ f h).1 (st.lst _ _ f h).2 (RDs.stay st r)
  | _, _, .tpz f h c n r => .tpz (st.lst _ _ f h).1 (st.lst _ _ f h).2 c n (RDs.stay st r)
theorem RDs.stay {K H F H' F'} (st : Stay K H F H' F') : ∀ {vs ds}, RDs K H F vs ds → RDs K H' F' vs ds
  | _, _, .nil => .nil
  | _, _, .cons h r => .cons (RD.stay st h) (RDs.stay st r)
end
theorem RDs.length {K H F} : ∀ {vs ds}, RDs K H F vs ds → vs.length = ds.length
  | _, _, .nil => rfl
  | _, _, .cons _ r => by rw [List.length_cons, List.length_cons, RDs.length r]
theorem RDs.get {K H F} : ∀ {vs ds} {i : Nat} {d : D}, RDs K H F vs ds → ds[i]? = some d → ∃ v, vs[i]? = some v ∧ RD K H F v d
  | _, _, _, _, .nil, e => by simp at e
  | _, _, 0, _, .cons h _, e => by simp at e; subst e; exact ⟨_, rfl, h⟩
  | _, _, i + 1, d, .cons _ r, e => by
    obtain ⟨v, h1, h2⟩ := RDs.get (i := i) (d := d) r (by simpa using e)
    exact ⟨v, by simpa using h1, h2⟩
theorem RDs.get' {K H F} : ∀ {vs ds} {i : Nat} {v : V}, RDs K H F vs ds → vs[i]? = some v → ∃ d, ds[i]? = some d ∧ RD K H F v d
  | _, _, _, _, .nil, e => by simp at e
  | _, _, 0, _, .cons h _, e => by simp at e; subst e; exact ⟨_, rfl, h⟩
  | _, _, i + 1, d, .cons _ r, e => by
    obtain ⟨v, h1, h2⟩ := RDs.get' (i := i) (v := d) r (by simpa using e)
    exact ⟨v, by simpa using h1, h2⟩
theorem RDs.append {K H F} : ∀ {vs ds ws es}, RDs K H F vs ds → RDs K H F ws es → RDs K H F (vs ++ ws) (ds ++ es)
  | _, _, _, _, .nil, s => s
  | _, _, _, _, .cons h r, s => .cons h (RDs.append r s)
theorem RDs.set {K H F} {v : V} {d : D} (h : RD K H F v d) : ∀ {vs ds} (i : Nat), RDs K H F vs ds → RDs K H F (vs.set i v) (ds.set i d)
  | _, _, _, .nil => .nil
  | _, _, 0, .cons _ r => .cons h r
  | _, _, i + 1, .cons q r => .cons q (RDs.set h i r)
theorem RDs.take {K H F} : ∀ {vs ds} (n : Nat), RDs K H F vs ds → RDs K H F (vs.take n) (ds.take n)
  | _, _, 0, _ => .nil
  | _, _, _ + 1, .nil => .nil
  | _, _, n + 1, .cons h r => .cons h (RDs.take n r)
theorem RDs.drop {K H F} : ∀ {vs ds} (n : Nat), RDs K H F vs ds → RDs K H F (vs.drop n) (ds.drop n)
  | _, _, 0, h => h
  | _, _, _ + 1, .nil => .nil
  | _, _, n + 1, .cons _ r => RDs.drop n r
theorem RDs.reverse {K H F} {vs ds} (h : RDs K H F vs ds) : RDs K H F vs.reverse ds.reverse := by
  induction h using RDs.rec (motive_1 := fun _ _ _ => True) with
  | nil => exact .nil
  | cons h r _ ih => rw [List.reverse_cons, List.reverse_cons]; exact ih.append (.cons h .nil)
  | _ => trivial
theorem RDs.ints {K H F} : ∀ {vs : List V} {ns : List Int}, RDs K H F vs (ns.map D.int) → vs = ns.map V.int
  | _, [], .nil => rfl
  | _, n :: ns, .cons h r => by cases h; rw [RDs.ints r]; rfl
theorem RDs.strs {K H F} : ∀ {vs : List V} {ns : List Str}, RDs K H F vs (ns.map D.str) → vs = ns.map V.str
  | _, [], .nil => rfl
  | _, n :: ns, .cons h r => by cases h; rw [RDs.strs r]; rfl
theorem RDs.bls {K H F} : ∀ {vs : List V} {ns : List Bool}, RDs K H F vs (ns.map D.bl) → vs = ns.map V.bl
  | _, [], .nil => rfl
  | _, n :: ns, .cons h r => by cases h; rw [RDs.bls r]; rfl
theorem RDs.of_ints {K H F} : ∀ {ns : List Int}, RDs K H F (ns.map V.int) (ns.map D.int)
  | [] => .nil
  | n :: ns => .cons (.int n) RDs.of_ints
theorem RDs.of_strs {K H F} : ∀ {ns : List Str}, RDs K H F (ns.map V.str) (ns.map D.str)
  | [] => .nil
  | n :: ns => .cons (.str n) RDs.of_strs
theorem RO.mut {K H F o u} (h : RO K H F o u) : (∀ vs, u ≠ .tup vs) ∧ ∀ ob w, u ≠ .frz ob w := by
  cases o with
  | lst l => obtain ⟨_, rfl, _⟩ := h; exact ⟨fun _ z => (nomatch z), fun _ _ z => (nomatch z)⟩
  | pot l => obtain ⟨_, _, _, rfl, _⟩ := h; exact ⟨fun _ z => (nomatch z), fun _ _ z => (nomatch z)⟩
  | obj c fs => obtain ⟨_, _, _, _, rfl, _⟩ := h; exact ⟨fun _ z => (nomatch z), fun _ _ z => (nomatch z)⟩
  | dct t l =>
    cases t with
    | false => obtain ⟨_, rfl, _⟩ := h; exact ⟨fun _ z => (nomatch z), fun _ _ z => (nomatch z)⟩
    | true => obtain ⟨_, rfl, _⟩ := h; exact ⟨fun _ z => (nomatch z), fun _ _ z => (nomatch z)⟩
  | tab q => obtain ⟨_, rfl, _⟩ := h; exact ⟨fun _ z => (nomatch z), fun _ _ z => (nomatch z)⟩
theorem MS.no {K H F μ} (m : MS K H F μ) {a : Addr} {vs : List V} (h : Rd H a (.tup vs)) : μ a = none := by
  cases e : μ a with
  | none => rfl
  | some o =>
    obtain ⟨_, u, hu, r⟩ := m.at_ a o e
    rcases h with h | ⟨ob, h⟩ <;> (rw [hu] at h; cases h)
    · exact absurd rfl (r.mut.1 _)
    · exact absurd rfl (r.mut.2 _ _)
theorem MS.noZ {K H F μ} (m : MS K H F μ) {a : Addr} {ob : Obj} {vs : List V} (h : H a = some (.frz ob (.lst vs))) : μ a = none := by
  cases e : μ a with
  | none => rfl
  | some o =>
    obtain ⟨_, u, hu, r⟩ := m.at_ a o e
    rw [hu] at h; cases h
    exact absurd rfl (r.mut.2 _ _)
theorem MS.noF {K H F μ} (m : MS K H F μ) {a : Addr} (h : F a) : μ a = none := by
  cases e : μ a with
  | none => rfl
  | some o => exact absurd h (m.at_ a o e).1
theorem Grow.stay {K H F μ H' F' μ'} (g : Grow H F μ H' F' μ') (m : MS K H F μ) : Stay K H F H' F' := by
  refine ⟨fun a vs h => ?_, fun a vs f h => ⟨g.fr a f, g.keep a _ h (m.noF f)⟩, fun a o vs h => g.keep a _ h (m.noZ h)⟩
  · rcases h with h | h
    · have n := m.no h
      rcases h with h | ⟨o, h⟩
      · exact .inl (.inl (g.keep a _ h n))
      · exact .inl (.inr ⟨o, g.keep a _ h n⟩)
    · exact .inr h
theorem RO.stay {K H F H' F' o u} (st : Stay K H F H' F') (h : RO K H F o u) : RO K H' F' o u := by
  cases o with
  | lst l => obtain ⟨vs, e, r⟩ := h; exact ⟨vs, e, r.stay st⟩
  | pot l => obtain ⟨p, q, vs, e, r, b⟩ := h; exact ⟨p, q, vs, e, r.stay st, b⟩
  | obj c fs => obtain ⟨C, dx, vs, n, e, z, r⟩ := h; exact ⟨C, dx, vs, n, e, z, r.stay st⟩
  | dct t l =>
    cases t with
    | false => obtain ⟨kvs, e, z, r⟩ := h; exact ⟨kvs, e, z, r.stay st⟩
    | true => obtain ⟨kvs, e, z, r⟩ := h; exact ⟨kvs, e, z, r.stay st⟩
  | tab q =>
    obtain ⟨ps, e, ht, k⟩ := h
    exact ⟨ps, e, ht, fun pos cv hc => let ⟨c, e1, f, e2⟩ := k pos cv hc; ⟨c, e1, (st.lst c _ f e2).1, (st.lst c _ f e2).2⟩⟩

/-! ### steps of the memory -/
section
variable {K : PySem.W.Frag} {H : Hp} {F : Addr → Prop} {μ : Mem} {p : Addr}
/-- a new tuple -/
theorem new_tup {vs : List V} {ds : List D} (m : MS K H F μ) (hp : H p = none) (r : RDs K H F vs ds) :
    Grow H F μ (upd H p (.tup vs)) F μ ∧ MS K (upd H p (.tup vs)) F μ ∧ RD K (upd H p (.tup vs)) F (.ref p) (.tup ds) := by
  have g : Grow H F μ (upd H p (.tup vs)) F μ := ⟨fun a u e _ => by rw [upd_ne (ne_of_none e hp)]; exact e, fun _ e => e, fun _ e => .inl e, fun _ e => .inl e⟩
  have st := g.stay m
  refine ⟨g, ⟨fun a o e => ?_, fun a f => ?_⟩, .tup (.inl (.inl upd_same)) (r.stay st)⟩
  · obtain ⟨n, u, hu, q⟩ := m.at_ a o e
    exact ⟨n, u, by rw [upd_ne (ne_of_none hu hp)]; exact hu, q.stay st⟩
  · obtain ⟨vs, h⟩ := m.fin a f
    exact ⟨vs, (st.lst a vs f h).2⟩
/-- a new list, that may change -/
theorem new_ref {vs : List V} {ds : List D} (m : MS K H F μ) (hp : H p = none) (r : RDs K H F vs ds) :
    Grow H F μ (upd H p (.lst vs)) F (mset μ p (.lst ds)) ∧ MS K (upd H p (.lst vs)) F (mset μ p (.lst ds)) ∧ μ p = none := by
  have nF : ¬ F p := fun f => by
    obtain ⟨vs, h⟩ := m.fin p f
    rw [hp] at h; cases h
  have st : Stay K H F (upd H p (.lst vs)) F := ⟨fun a ws h => by
      rcases h with (h | ⟨o, h⟩) | h
      · exact .inl (.inl (by rw [upd_ne (ne_of_none h hp)]; exact h))
      · exact .inl (.inr ⟨o, by rw [upd_ne (ne_of_none h hp)]; exact h⟩)
      · exact .inr h, fun a ws f h => ⟨f, by rw [upd_ne (ne_of_none h hp)]; exact h⟩, fun a o ws h => by rw [upd_ne (ne_of_none h hp)]; exact h⟩
  have np : μ p = none := by
    cases e : μ p with
    | none => rfl
    | some o => obtain ⟨_, u, hu, _⟩ := m.at_ p o e; rw [hp] at hu; cases hu
  refine ⟨⟨fun a u e _ => by rw [upd_ne (ne_of_none e hp)]; exact e, fun _ e => e, fun _ e => .inl e, fun a e => ?_⟩, ⟨fun a o e => ?_, fun a f => ?_⟩, np⟩
  · by_cases h : a = p
    · subst h; exact .inr hp
    · rw [mset_ne h] at e; exact .inl e
  · by_cases h : a = p
    · subst h
      rw [mset_same] at e; cases e
      exact ⟨nF, _, upd_same, vs, rfl, r.stay st⟩
    · rw [mset_ne h] at e
      obtain ⟨n, u, hu, q⟩ := m.at_ a o e
      exact ⟨n, u, by rw [upd_ne h]; exact hu, q.stay st⟩
  · obtain ⟨vs, h⟩ := m.fin a f
    exact ⟨vs, (st.lst a vs f h).2⟩
/-- an object frozen -/
theorem freeze {ds : List D} (m : MS K H F μ) (hp : μ p = some (.lst ds)) :
    ∃ F', Grow H F μ H F' (mdel μ p) ∧ MS K H F' (mdel μ p) ∧ RD K H F' (.ref p) (.lst ds) := by
  obtain ⟨n, u, hu, vs, e, r⟩ := m.at_ p _ hp
  subst e
  have st : Stay K H F H (fun a => F a ∨ a = p) := ⟨fun _ _ h => h, fun _ _ f h => ⟨.inl f, h⟩, fun _ _ _ h => h⟩
  refine ⟨fun a => F a ∨ a = p, ⟨fun _ _ e _ => e, fun _ f => .inl f, fun a f => ?_, fun a e => ?_⟩, ⟨fun a o e => ?_, fun a f => ?_⟩, .lst (.inr rfl) hu (r.stay st)⟩
  · rcases f with f | f
    · exact .inl f
    · subst f; exact .inr (.inr (.inl (by rw [hp]; rfl)))
  · by_cases h : a = p
    · subst h; rw [mdel_same] at e; cases e
    · rw [mdel_ne h] at e; exact .inl e
  · by_cases h : a = p
    · subst h; rw [mdel_same] at e; cases e
    · rw [mdel_ne h] at e
      obtain ⟨n', u', hu', q⟩ := m.at_ a o e
      exact ⟨fun z => z.elim n' h, u', hu', q.stay st⟩
  · rcases f with f | f
    · exact m.fin a f
    · subst f; exact ⟨_, hu⟩
/-- a new list, frozen at once -/
theorem new_lst {vs : List V} {ds : List D} (m : MS K H F μ) (hp : H p = none) (r : RDs K H F vs ds) :
    ∃ F', Grow H F μ (upd H p (.lst vs)) F' μ ∧ MS K (upd H p (.lst vs)) F' μ ∧ RD K (upd H p (.lst vs)) F' (.ref p) (.lst ds) := by
  obtain ⟨g, m1, np⟩ := new_ref m hp r
  obtain ⟨F', g2, m2, r2⟩ := freeze m1 (mset_same)
  rw [mdel_mset np] at g2 m2
  exact ⟨F', g.trans g2, m2, r2⟩
/-- a new object, frozen at once -/
theorem new_fz {u : HO} (m : MS K H F μ) (hp : H p = none) : ∃ F', Grow H F μ (upd H p u) F' μ ∧ MS K (upd H p u) F' μ ∧ F' p := by
  have st : Stay K H F (upd H p u) (fun a => F a ∨ a = p) := ⟨fun a ws h => by
      rcases h with (h | ⟨o, h⟩) | h
      · exact .inl (.inl (by rw [upd_ne (ne_of_none h hp)]; exact h))
      · exact .inl (.inr ⟨o, by rw [upd_ne (ne_of_none h hp)]; exact h⟩)
      · exact .inr h, fun a ws f h => ⟨.inl f, by rw [upd_ne (ne_of_none h hp)]; exact h⟩, fun a o ws h => by rw [upd_ne (ne_of_none h hp)]; exact h⟩
  refine ⟨fun a => F a ∨ a = p, ⟨fun a v e _ => by rw [upd_ne (ne_of_none e hp)]; exact e, fun _ f => .inl f, fun a f => ?_, fun a e => .inl e⟩, ⟨fun a o e => ?_, fun a f => ?_⟩, .inr rfl⟩
  · rcases f with f | f
    · exact .inl f
    · subst f; exact .inr (.inl hp)
  · obtain ⟨n, v, hv, q⟩ := m.at_ a o e
    refine ⟨fun z => z.elim n fun z => ?_, v, by rw [upd_ne (ne_of_none hv hp)]; exact hv, q.stay st⟩
    subst z
    rw [hp] at hv
    cases hv
  · rcases f with f | f
    · obtain ⟨v, hv⟩ := m.fin a f
      exact ⟨v, (st.lst a v f hv).2⟩
    · subst f; exact ⟨u, upd_same⟩
/-- a list written -/
theorem write_ref {vs : List V} {ds es : List D} (m : MS K H F μ) (hp : μ p = some (.lst ds)) (r : RDs K H F vs es) :
    Grow H F μ (upd H p (.lst vs)) F (mset μ p (.lst es)) ∧ MS K (upd H p (.lst vs)) F (mset μ p (.lst es)) := by
  obtain ⟨n, u, hu, ws, e, _⟩ := m.at_ p _ hp
  subst e
  have st : Stay K H F (upd H p (.lst vs)) F := ⟨fun a ws' h => by
      rcases h with (h | ⟨o, h⟩) | h
      · exact .inl (.inl (by rw [upd_ne (ne_of h hu (by intro z; cases z))]; exact h))
      · exact .inl (.inr ⟨o, by rw [upd_ne (ne_of h hu (by intro z; cases z))]; exact h⟩)
      · exact .inr h, fun a ws' f h => ⟨f, by
      have hne : a ≠ p := fun z => n (z ▸ f)
      rw [upd_ne hne]; exact h⟩, fun a o ws' h => by rw [upd_ne (ne_of h hu (by intro z; cases z))]; exact h⟩
  refine ⟨⟨fun a u e hn => ?_, fun _ e => e, fun _ e => .inl e, fun a e => ?_⟩, ⟨fun a o e => ?_, fun a f => ?_⟩⟩
  · by_cases h : a = p
    · subst h; rw [hp] at hn; cases hn
    · rw [upd_ne h]; exact e
  · by_cases h : a = p
    · subst h; exact .inl (by rw [hp]; rfl)
    · rw [mset_ne h] at e; exact .inl e
  · by_cases h : a = p
    · subst h
      rw [mset_same] at e; cases e
      exact ⟨n, _, upd_same, vs, rfl, r.stay st⟩
    · rw [mset_ne h] at e
      obtain ⟨n', u, hu, q⟩ := m.at_ a o e
      exact ⟨n', u, by rw [upd_ne h]; exact hu, q.stay st⟩
  · obtain ⟨vs, h⟩ := m.fin a f
    exact ⟨vs, (st.lst a vs f h).2⟩
end

/-- what is forgotten -/
theorem forget_mem {K : PySem.W.Frag} {H : Hp} {F : Addr → Prop} {μ : Mem} (a : Addr) (m : MS K H F μ) : Grow H F μ H F (mdel μ a) ∧ MS K H F (mdel μ a) := by
  have sub : ∀ b o, mdel μ a b = some o → μ b = some o := fun b o e => by
    by_cases hb : b = a
    · subst hb; rw [mdel_same] at e; cases e
    · rw [mdel_ne hb] at e; exact e
  refine ⟨⟨fun _ _ e _ => e, fun _ e => e, fun _ e => .inl e, fun b e => ?_⟩, ⟨fun b o e => m.at_ b o (sub b o e), m.fin⟩⟩
  cases q : mdel μ a b with
  | none => rw [q] at e; cases e
  | some o => exact .inl (by rw [sub b o q]; rfl)
/-- a pot opened: its two numbers seen -/
theorem open_pot {K : PySem.W.Frag} {H : Hp} {F : Addr → Prop} {μ : Mem} {a : Addr} {l : List D} (m : MS K H F μ) (h : μ a = some (.pot l)) :
    ∃ p q : Int, (0 ≤ p ∧ 0 ≤ q ∧ q < 2147483648) ∧ Grow H F μ H F (mset μ a (.lst (.int p :: .int q :: l))) ∧ MS K H F (mset μ a (.lst (.int p :: .int q :: l))) := by
  obtain ⟨n, u, hu, p, q, vs, e, r, b⟩ := m.at_ a _ h
  subst e
  refine ⟨p, q, b, ⟨fun _ _ e _ => e, fun _ e => e, fun _ e => .inl e, fun c e => ?_⟩, ⟨fun c o e => ?_, m.fin⟩⟩
  · by_cases hc : c = a
    · subst hc; exact .inl (by rw [h]; rfl)
    · rw [mset_ne hc] at e; exact .inl e
  · by_cases hc : c = a
    · subst hc
      rw [mset_same] at e
      cases e
      exact ⟨n, _, hu, _, rfl, .cons (.int p) (.cons (.int q) r)⟩
    · rw [mset_ne hc] at e
      exact m.at_ c o e
/-- .. and closed -/
theorem shut_pot {K : PySem.W.Frag} {H : Hp} {F : Addr → Prop} {μ : Mem} {a : Addr} {l : List D} {p q : Int} (m : MS K H F μ) (h : μ a = some (.lst (.int p :: .int q :: l))) (b : 0 ≤ p ∧ 0 ≤ q ∧ q < 2147483648) :
    Grow H F μ H F (mset μ a (.pot l)) ∧ MS K H F (mset μ a (.pot l)) := by
  obtain ⟨n, u, hu, vs, e, r⟩ := m.at_ a _ h
  subst e
  refine ⟨⟨fun _ _ e _ => e, fun _ e => e, fun _ e => .inl e, fun c e => ?_⟩, ⟨fun c o e => ?_, m.fin⟩⟩
  · by_cases hc : c = a
    · subst hc; exact .inl (by rw [h]; rfl)
    · rw [mset_ne hc] at e; exact .inl e
  · by_cases hc : c = a
    · subst hc
      rw [mset_same] at e
      cases e
      cases r with
      | cons r1 r =>
        cases r with
        | cons r2 r =>
          cases r1
          cases r2
          exact ⟨n, _, hu, p, q, _, rfl, r, b⟩
    · rw [mset_ne hc] at e
      exact m.at_ c o e

section
variable {K : PySem.W.Frag} {H : Hp} {F : Addr → Prop} {μ : Mem} {p : Addr}
/-- any new object, not looked at -/
theorem new_un {u : HO} (m : MS K H F μ) (hp : H p = none) : Grow H F μ (upd H p u) F μ ∧ MS K (upd H p u) F μ := by
  have g : Grow H F μ (upd H p u) F μ := ⟨fun a u e _ => by rw [upd_ne (ne_of_none e hp)]; exact e, fun _ e => e, fun _ e => .inl e, fun _ e => .inl e⟩
  have st := g.stay m
  refine ⟨g, ⟨fun a o e => ?_, fun a f => ?_⟩⟩
  · obtain ⟨n, u, hu, q⟩ := m.at_ a o e
    exact ⟨n, u, by rw [upd_ne (ne_of_none hu hp)]; exact hu, q.stay st⟩
  · obtain ⟨vs, h⟩ := m.fin a f
    exact ⟨vs, (st.lst a vs f h).2⟩
theorem MS.newn (m : MS K H F μ) (hp : H p = none) : μ p = none := by
  cases e : μ p with
  | none => rfl
  | some o => obtain ⟨_, u, hu, _⟩ := m.at_ p o e; rw [hp] at hu; cases hu
/-- any new object, that may change -/
theorem new_mo {o : MO} {u : HO} (m : MS K H F μ) (hp : H p = none) (r : RO K H F o u) : Grow H F μ (upd H p u) F (mset μ p o) ∧ MS K (upd H p u) F (mset μ p o) ∧ μ p = none := by
  have nF : ¬ F p := fun f => by
    obtain ⟨vs, h⟩ := m.fin p f
    rw [hp] at h; cases h
  obtain ⟨g, m1⟩ := new_un (u := u) m hp
  have st := g.stay m
  refine ⟨⟨g.keep, g.fr, g.new, fun a e => ?_⟩, ⟨fun a o2 e => ?_, m1.fin⟩, m.newn hp⟩
  · by_cases h : a = p
    · subst h; exact .inr hp
    · rw [mset_ne h] at e; exact .inl e
  · by_cases h : a = p
    · subst h
      rw [mset_same] at e; cases e
      exact ⟨nF, _, upd_same, r.stay st⟩
    · rw [mset_ne h] at e
      exact m1.at_ a o2 e
/-- any object written -/
theorem write_mo {o o2 : MO} {u : HO} (m : MS K H F μ) (hp : μ p = some o) (r : RO K H F o2 u) : Grow H F μ (upd H p u) F (mset μ p o2) ∧ MS K (upd H p u) F (mset μ p o2) := by
  obtain ⟨n, w, hw, rw0⟩ := m.at_ p _ hp
  have nt := rw0.mut
  have st : Stay K H F (upd H p u) F := ⟨fun a ws' h => by
      rcases h with (h | ⟨o, h⟩) | h
      · exact .inl (.inl (by rw [upd_ne (fun z => nt.1 ws' (by rw [z, hw] at h; cases h; rfl))]; exact h))
      · exact .inl (.inr ⟨o, by rw [upd_ne (fun z => nt.2 o (.tup ws') (by rw [z, hw] at h; cases h; rfl))]; exact h⟩)
      · exact .inr h, fun a ws' f h => ⟨f, by
      have hne : a ≠ p := fun z => n (z ▸ f)
      rw [upd_ne hne]; exact h⟩, fun a o ws' h => by rw [upd_ne (fun z => nt.2 o (.lst ws') (by rw [z, hw] at h; cases h; rfl))]; exact h⟩
  refine ⟨⟨fun a v e hn => ?_, fun _ e => e, fun _ e => .inl e, fun a e => ?_⟩, ⟨fun a o3 e => ?_, fun a f => ?_⟩⟩
  · by_cases h : a = p
    · subst h; rw [hp] at hn; cases hn
    · rw [upd_ne h]; exact e
  · by_cases h : a = p
    · subst h; exact .inl (by rw [hp]; rfl)
    · rw [mset_ne h] at e; exact .inl e
  · by_cases h : a = p
    · subst h
      rw [mset_same] at e; cases e
      exact ⟨n, _, upd_same, r.stay st⟩
    · rw [mset_ne h] at e
      obtain ⟨n', u, hu, q⟩ := m.at_ a o3 e
      exact ⟨n', u, by rw [upd_ne h]; exact hu, q.stay st⟩
  · obtain ⟨vs, h⟩ := m.fin a f
    exact ⟨vs, (st.lst a vs f h).2⟩
/-- an own instance frozen -/
theorem freeze_obj {c : Str} {fs : List (Str × D)} (m : MS K H F μ) (hp : μ p = some (.obj c fs)) :
    ∃ F', Grow H F μ H F' (mdel μ p) ∧ MS K H F' (mdel μ p) ∧ RD K H F' (.ref p) (.ins c (fs.map (·.1)) (fs.map (·.2))) := by
  obtain ⟨n, u, hu, C, dx, gs, hc, e, hl, r⟩ := m.at_ p _ hp
  subst e
  have st : Stay K H F H (fun a => F a ∨ a = p) := ⟨fun _ _ h => h, fun _ _ f h => ⟨.inl f, h⟩, fun _ _ _ h => h⟩
  refine ⟨fun a => F a ∨ a = p, ⟨fun _ _ e _ => e, fun _ f => .inl f, fun a f => ?_, fun a e => ?_⟩, ⟨fun a o e => ?_, fun a f => ?_⟩, .ins hc (.inr rfl) (vs := gs.map (·.2)) (by rw [← hl, zip_fs]; exact hu) (by rw [← hl, List.length_map, List.length_map]) (r.stay st)⟩
  · rcases f with f | f
    · exact .inl f
    · subst f; exact .inr (.inr (.inl (by rw [hp]; rfl)))
  · by_cases h : a = p
    · subst h; rw [mdel_same] at e; cases e
    · rw [mdel_ne h] at e; exact .inl e
  · by_cases h : a = p
    · subst h; rw [mdel_same] at e; cases e
    · rw [mdel_ne h] at e
      obtain ⟨n', u', hu', q⟩ := m.at_ a o e
      exact ⟨fun z => z.elim n' h, u', hu', q.stay st⟩
  · rcases f with f | f
    · exact m.fin a f
    · subst f; exact ⟨_, hu⟩
end
/-! ### the frame's slots -/
abbrev Rho := List (Option D)
structure REnv (K : PySem.W.Frag) (H : Hp) (F : Addr → Prop) (σ : St) (ρ : Rho) : Prop where
  len : σ.length = ρ.length
  at_ : ∀ (i : Nat) (d : D), ρ[i]? = some (some d) → ∃ v, σ[i]? = some (some v) ∧ RD K H F v d
theorem REnv.stay {K H F H' F' σ ρ} (e : REnv K H F σ ρ) (st : Stay K H F H' F') : REnv K H' F' σ ρ :=
  ⟨e.len, fun i d h => let ⟨v, h1, h2⟩ := e.at_ i d h; ⟨v, h1, h2.stay st⟩⟩
theorem REnv.set {K H F σ ρ v d} (e : REnv K H F σ ρ) (i : Nat) (h : RD K H F v d) : REnv K H F (σ.set i (some v)) (ρ.set i (some d)) := by
  refine ⟨by rw [List.length_set, List.length_set]; exact e.len, fun j c q => ?_⟩
  by_cases hj : i = j
  · subst hj
    by_cases hl : i < ρ.length
    · rw [List.getElem?_set_self hl] at q
      cases q
      exact ⟨v, List.getElem?_set_self (by rw [e.len]; exact hl), h⟩
    · rw [List.getElem?_eq_none (by rw [List.length_set]; omega)] at q
      cases q
  · rw [List.getElem?_set_ne hj] at q
    obtain ⟨v', h1, h2⟩ := e.at_ j c q
    exact ⟨v', by rw [List.getElem?_set_ne hj]; exact h1, h2⟩

/-! ### judgements -/
def WE (X : Cx) (e : Expr) : TE := fun σ H Q => ∀ (pins : List (Addr × Obj)) (s : Shared), Inv X pins σ H s → wpAny (model X.prog X.w) X.A (eval e X.env) (EP X pins σ Q) X.xe s
theorem pe_we {X : Cx} {e : Expr} : PE X e (WE X e) := ⟨fun pins s σ H Q I h => h pins s I⟩
theorem we_of {X : Cx} {e : Expr} {t : TE} {σ H Q} (h : PE X e t) (q : t σ H Q) : WE X e σ H Q := fun pins s I => h.run pins s σ H Q I q
theorem WE.mono {X : Cx} {e : Expr} {σ H} {Q Q' : VK} (h : WE X e σ H Q) (m : ∀ v H', Q v H' → Q' v H') : WE X e σ H Q' :=
  fun pins s I => thn (h pins s I) fun u s' ⟨v, H', I', r, q⟩ => ⟨v, H', I', r, m v H' q⟩
def WA (X : Cx) (es : List Expr) : TA := fun σ H Q => ∀ (pos : Pos) (pins : List (Addr × Obj)) (s : Shared), Inv X pins σ H s → wpAny (model X.prog X.w) X.A (spliced (backTo pos (starEach es X.env))) (AP X pins σ Q) X.xe s
theorem pa_wa {X : Cx} {es : List Expr} : PA X es (WA X es) := ⟨fun pos pins s σ H Q I h => h pos pins s I⟩
theorem wa_of {X : Cx} {es : List Expr} {t : TA} {σ H Q} (h : PA X es t) (q : t σ H Q) : WA X es σ H Q := fun pos pins s I => h.run pos pins s σ H Q I q
theorem WA.mono {X : Cx} {es : List Expr} {σ H} {Q Q' : List V → Hp → Prop} (h : WA X es σ H Q) (m : ∀ v H', Q v H' → Q' v H') : WA X es σ H Q' :=
  fun pos pins s I => thn (h pos pins s I) fun u s' ⟨v, H', I', r, q⟩ => ⟨v, H', I', r, m v H' q⟩
def WT (X : Cx) (e : Expr) : TT := fun σ H Q => ∀ (pins : List (Addr × Obj)) (s : Shared), Inv X pins σ H s → wpAny (model X.prog X.w) X.A (isTrue e X.env (eval e X.env)) (TP X pins σ Q) X.xe s
theorem pt_wt {X : Cx} {e : Expr} : PT X e (WT X e) := ⟨fun pins s σ H Q I h => h pins s I⟩
theorem wt_of {X : Cx} {e : Expr} {t : TT} {σ H Q} (h : PT X e t) (q : t σ H Q) : WT X e σ H Q := fun pins s I => h.run pins s σ H Q I q
theorem WT.mono {X : Cx} {e : Expr} {σ H} {Q Q' : Bool → Hp → Prop} (h : WT X e σ H Q) (m : ∀ v H', Q v H' → Q' v H') : WT X e σ H Q' :=
  fun pins s I => thn (h pins s I) fun u s' ⟨H', I', q⟩ => ⟨H', I', m u H' q⟩

/-! ### exceptions -/
abbrev EK := Str → List (Str × D) → Mem → Prop
abbrev E0k : EK := fun _ _ _ => False
/-- what an exception's dict says -/
def Att (K : PySem.W.Frag) (H : Hp) (F : Addr → Prop) (d : Option Addr) (ds : List (Str × D)) : Prop :=
  (d = none ∧ ds = []) ∨ ∃ (p : Addr) (fs : List (Str × V)), d = some p ∧ H p = some (.xd fs) ∧ fs.map (·.1) = ds.map (·.1) ∧ RDs K H F (fs.map (·.2)) (ds.map (·.2))
def Wish (K : PySem.W.Frag) (mg : Str → Option Value) (H : Hp) (F : Addr → Prop) (μ : Mem) (EX : EK) : XK := fun cls d H' =>
  ∃ c ds F' μ', mg c = some cls ∧ Grow H F μ H' F' μ' ∧ MS K H' F' μ' ∧ Att K H' F' d ds ∧ EX c ds μ'
theorem Wish.pre {K mg H F μ H1 F1 μ1 EX cls d H'} (g : Grow H F μ H1 F1 μ1) (h : Wish K mg H1 F1 μ1 EX cls d H') : Wish K mg H F μ EX cls d H' :=
  let ⟨c, ds, F', μ', h1, g2, h3⟩ := h
  ⟨c, ds, F', μ', h1, g.trans g2, h3⟩
/-- the frame's slots, and what may be let out -/
structure RE (X : Cx) (EX : EK) (H : Hp) (F : Addr → Prop) (μ : Mem) (σ : St) (ρ : Rho) : Prop extends REnv X.K H F σ ρ where
  tk : TakesF X (fun cls d _ H' => Wish X.K X.mg H F μ EX cls d H')
theorem RE.on {X EX H F μ σ ρ H1 F1 μ1} (e : RE X EX H F μ σ ρ) (g : Grow H F μ H1 F1 μ1) (m : MS X.K H F μ) : RE X EX H1 F1 μ1 σ ρ :=
  ⟨e.toREnv.stay (g.stay m), e.tk.imp fun _ _ _ _ h => h.pre g⟩
theorem RE.to {X EX H F μ σ ρ H1 F1 μ1 σ1 ρ1} (e : RE X EX H F μ σ ρ) (g : Grow H F μ H1 F1 μ1) (e1 : REnv X.K H1 F1 σ1 ρ1) : RE X EX H1 F1 μ1 σ1 ρ1 := ⟨e1, e.tk.imp fun _ _ _ _ h => h.pre g⟩
theorem RE.set {X EX H F μ σ ρ v d} (e : RE X EX H F μ σ ρ) (i : Nat) (h : RD X.K H F v d) : RE X EX H F μ (σ.set i (some v)) (ρ.set i (some d)) := ⟨e.toREnv.set i h, e.tk⟩
theorem RE.no {X : Cx} {H F μ σ ρ} (e : REnv X.K H F σ ρ) : RE X E0k H F μ σ ρ := ⟨e, fun _ _ ⟨_, _, _, _, _, _, _, _, _, _, _, _, _, _, _, _, _, w⟩ => let ⟨_, _, _, _, _, _, _, _, z⟩ := w; z.elim⟩
abbrev DK := D → Mem → Prop
def Post (K : PySem.W.Frag) (H : Hp) (F : Addr → Prop) (μ : Mem) (Q : DK) : VK := fun v H' => ∃ d F' μ', Grow H F μ H' F' μ' ∧ MS K H' F' μ' ∧ RD K H' F' v d ∧ Q d μ'
theorem Post.pre {K H F μ H1 F1 μ1 Q v H'} (g : Grow H F μ H1 F1 μ1) (h : Post K H1 F1 μ1 Q v H') : Post K H F μ Q v H' :=
  let ⟨d, F', μ', g2, m, r, q⟩ := h
  ⟨d, F', μ', g.trans g2, m, r, q⟩
theorem Post.now {K H F μ} {Q : DK} {v d} (m : MS K H F μ) (r : RD K H F v d) (q : Q d μ) : Post K H F μ Q v H := ⟨d, F, μ, .refl, m, r, q⟩
def PostA (K : PySem.W.Frag) (H : Hp) (F : Addr → Prop) (μ : Mem) (Q : List D → Mem → Prop) : List V → Hp → Prop := fun vs H' => ∃ ds F' μ', Grow H F μ H' F' μ' ∧ MS K H' F' μ' ∧ RDs K H' F' vs ds ∧ Q ds μ'
def PostT (K : PySem.W.Frag) (H : Hp) (F : Addr → Prop) (μ : Mem) (Q : Bool → Mem → Prop) : Bool → Hp → Prop := fun b H' => ∃ F' μ', Grow H F μ H' F' μ' ∧ MS K H' F' μ' ∧ Q b μ'
def DE (X : Cx) (EX : EK) (e : Expr) (ρ : Rho) (μ : Mem) (Q : DK) : Prop := ∀ σ H F, RE X EX H F μ σ ρ → MS X.K H F μ → WE X e σ H (Post X.K H F μ Q)
def DA (X : Cx) (EX : EK) (es : List Expr) (ρ : Rho) (μ : Mem) (Q : List D → Mem → Prop) : Prop := ∀ σ H F, RE X EX H F μ σ ρ → MS X.K H F μ → WA X es σ H (PostA X.K H F μ Q)
def DT (X : Cx) (EX : EK) (e : Expr) (ρ : Rho) (μ : Mem) (Q : Bool → Mem → Prop) : Prop := ∀ σ H F, RE X EX H F μ σ ρ → MS X.K H F μ → WT X e σ H (PostT X.K H F μ Q)
section
variable {X : Cx} {EX : EK} {ρ : Rho} {μ : Mem}
theorem DA.nil {Q : List D → Mem → Prop} (h : Q [] μ) : DA X EX [] ρ μ Q := fun σ H F e m => wa_of pa_nil ⟨[], F, μ, .refl, m, .nil, h⟩
theorem DA.cons {a : Expr} {es : List Expr} {Q : List D → Mem → Prop} (hs : starEach (a :: es) X.env = (false, eval a X.env) :: starEach es X.env)
    (h : DE X EX a ρ μ fun d μ1 => DA X EX es ρ μ1 fun ds μ2 => Q (d :: ds) μ2) : DA X EX (a :: es) ρ μ Q := fun σ H F e m => by
  refine wa_of (pa_cons pe_we pa_wa hs) ?_
  refine (h σ H F e m).mono fun v H1 ⟨d, F1, μ1, g1, m1, r1, q1⟩ => ?_
  refine (q1 σ H1 F1 (e.on g1 m) m1).mono fun vs H2 ⟨ds, F2, μ2, g2, m2, r2, q2⟩ => ?_
  exact ⟨d :: ds, F2, μ2, g1.trans g2, m2, .cons (r1.stay (g2.stay m1)) r2, q2⟩
end
end DL
/-! The programs of the data level: expressions E, statements S, what they want (wp), and how they lie over the syntax (chk). -/
namespace DL
open PySem PySem.Spec PyProof.Rows L2

/-! ### data as plain data; equality -/
mutual
def D.py : D → PyData
  | .non => .none
  | .bl b => .bool b
  | .int i => .int i
  | .str s => .str s
  | .tup l => .tuple (D.pys l)
  | .lst l => .list (D.pys l)
  | .lk l => .list (D.pys l)
  | .ref _ => .none
  | .emp => .none
  | .exc _ _ _ => .none
  | .ins _ _ _ => .none
  | .tpl l => .tuple (D.pys l)
  | .tpz l => .tuple (D.pys l)
def D.pys : List D → List PyData
  | [] => []
  | d :: ds => d.py :: D.pys ds
end
mutual
/-- no object that may change; texts of code points -/
def D.ok : D → Bool
  | .non => true
  | .bl _ => true
  | .int _ => true
  | .str s => s.cps.all (· < 0x110000)
  | .tup l => D.oks l
  | .lst l => D.oks l
  | .lk l => D.oks l
  | .ref _ => false
  | .emp => false
  | .exc _ _ _ => false
  | .ins _ _ _ => false
  | .tpl l => D.oks l
  | .tpz l => D.oks l
def D.oks : List D → Bool
  | [] => true
  | d :: ds => d.ok && D.oks ds
end
mutual
def D.dep : D → Nat
  | .non => 0
  | .bl _ => 0
  | .int _ => 0
  | .str _ => 0
  | .tup l => D.deps l + 1
  | .lst l => D.deps l + 1
  | .lk l => D.deps l + 1
  | .ref _ => 0
  | .emp => 0
  | .exc _ _ _ => 0
  | .ins _ _ _ => 0
  | .tpl l => D.deps l + 1
  | .tpz l => D.deps l + 1
def D.deps : List D → Nat
  | [] => 0
  | d :: ds => max d.dep (D.deps ds)
end
def D.eqv (x y : D) : Bool := PyData.eqv x.py y.py
/-- a list that may change as it stands -/
def res (μ : Mem) : D → D
  | .ref a => (match μ a with | some (.lst l) => .lst l | _ => .ref a)
  | d => d
def seqL (μ : Mem) : D → Option (List D)
  | .lst l => some l
  | .lk l => some l
  | .ref a => (match μ a with | some (.lst l) => some l | _ => none)
  | _ => none
/-- a list that is not locked -/
def seqP (μ : Mem) : D → Option (List D)
  | .lst l => some l
  | .ref a => (match μ a with | some (.lst l) => some l | _ => none)
  | _ => none
def seqA (μ : Mem) : D → Option (List D)
  | .tup l => some l
  | .tpl l => some l
  | .tpz l => some l
  | d => seqL μ d
/-- there is one, and it is so -/
def optD {α : Type} (o : Option α) (P : α → Prop) : Prop := match o with
  | some a => P a
  | none => False
theorem optD_ok {α : Type} {o : Option α} {P : α → Prop} (h : optD o P) : ∃ a, o = some a ∧ P a := by
  cases o with
  | none => exact False.elim h
  | some a => exact ⟨a, rfl, h⟩
@[simp] theorem optD_some {α : Type} {a : α} {P : α → Prop} : optD (some a) P = P a := rfl
@[simp] theorem optD_none {α : Type} {P : α → Prop} : optD none P = False := rfl
def D.isNon : D → Bool
  | .non => true
  | _ => false
def D.flat : D → Bool
  | .non => true
  | .bl _ => true
  | .int _ => true
  | .str _ => true
  | _ => false

/-! ### operators by data -/
inductive Op2 where | add | sub | mul | fdiv | mod | pow
  deriving DecidableEq
def Op2.op : Op2 → Operator
  | .add => .Add | .sub => .Sub | .mul => .Mult | .fdiv => .FloorDiv | .mod => .Mod | .pow => .Pow
inductive Cm where | eq | ne | lt | le | gt | ge | is | isnot | inn | notin | eqn
  deriving DecidableEq
def Cm.op : Cm → CmpOp
  | .eq => .Eq | .ne => .NotEq | .lt => .Lt | .le => .LtE | .gt => .Gt | .ge => .GtE | .is => .Is | .isnot => .IsNot | .inn => .In | .notin => .NotIn | .eqn => .Eq
def newL (z : Bool) (ds : List D) (μ : Mem) (Q : DK) : Prop := match z with
  | true => Q (.lst ds) μ
  | false => ∀ p, μ p = none → Q (.ref p) (mset μ p (.lst ds))
def addD (z : Bool) (x y : D) (μ : Mem) (Q : DK) : Prop := match x with
  | .int i => (match y with
    | .int j => Q (.int (i + j)) μ
    | .bl b => Q (.int (i + b2i b)) μ
    | _ => False)
  | .str a => (match y with
    | .str b => a.length + b.length ≤ 16777216 ∧ Q (.str (a ++ b)) μ
    | _ => False)
  | .tup a => (match y with
    | .tup b => a.length + b.length ≤ 16777216 ∧ Q (.tup (a ++ b)) μ
    | _ => False)
  | .tpl a => (match y with
    | .tup b => a.length + b.length ≤ 16777216 ∧ Q (.tup (a ++ b)) μ
    | _ => False)
  | .tpz a => (match y with
    | .tup b => a.length + b.length ≤ 16777216 ∧ Q (.tup (a ++ b)) μ
    | _ => False)
  | .lst a => optD (seqP μ y) fun b => a.length + b.length ≤ 16777216 ∧ newL z (a ++ b) μ Q
  | .ref p => optD (seqP μ (.ref p)) fun a => optD (seqP μ y) fun b => a.length + b.length ≤ 16777216 ∧ newL z (a ++ b) μ Q
  | _ => False
def mulD (x y : D) (μ : Mem) (Q : DK) : Prop := match x with
  | .int i => (match y with
    | .int j => CMul i j ∧ Q (.int (i * j)) μ
    | _ => False)
  | .tup a => (match y with
    | .int k => a ≠ [] ∧ 0 ≤ k ∧ k ≤ 1000 ∧ a.length ≤ 1000 ∧ Q (.tup (List.replicate k.toNat a).flatten) μ
    | _ => False)
  | .lst a => (match y with
    | .int k => 0 ≤ k ∧ k ≤ 1000 ∧ a.length ≤ 1000 ∧ Q (.lst (List.replicate k.toNat a).flatten) μ
    | _ => False)
  | .str s => (match y with
    | .int k => (0 ≤ k ∧ k ≤ 1) ∧ Q (.str (if k = 1 then s else ⟨#[]⟩)) μ
    | _ => False)
  | _ => False
def int2 (C : Int → Int → Prop) (g : Int → Int → Int) (x y : D) (μ : Mem) (Q : DK) : Prop := match x with
  | .int i => (match y with
    | .int j => C i j ∧ Q (.int (g i j)) μ
    | _ => False)
  | _ => False
def binD (z : Bool) (o : Op2) (x y : D) (μ : Mem) (Q : DK) : Prop := match o with
  | .add => addD z x y μ Q
  | .sub => int2 (fun _ _ => True) (fun i j => i - j) x y μ Q
  | .mul => mulD x y μ Q
  | .fdiv => int2 CDiv (fun i j => i / j) x y μ Q
  | .mod => int2 (fun _ j => 0 < j) (fun i j => i % j) x y μ Q
  | .pow => int2 CPow (fun i j => i ^ j.toNat) x y μ Q
def eqD (x y : D) (μ : Mem) (q : Bool → Prop) : Prop := match x, y with
  | .int i, .int j => q (decide (i = j))
  | .str a, .str b => q (decide (a = b))
  | x, y => (res μ x).ok = true ∧ (res μ y).ok = true ∧ (res μ x).dep ≤ 64 ∧ (res μ y).dep ≤ 64 ∧ q ((res μ x).eqv (res μ y))
def ltD (p : Int → Int → Bool) (ps : Str → Str → Bool) (x y : D) (q : Bool → Prop) : Prop := match x with
  | .int i => (match y with
    | .int j => q (p i j)
    | _ => False)
  | .str i => (match y with
    | .str j => q (ps i j)
    | _ => False)
  | _ => False
def isD (y : D) (q : Prop) : Prop := match y with
  | .non => q
  | _ => False
def inD (x y : D) (μ : Mem) (q : Bool → Prop) : Prop := match y with
  | .str z => (match x with
    | .str c => (match c.cps.toList with
      | [n] => q (decide (n ∈ z.cps.toList))
      | _ => False)
    | _ => False)
  | .tup l => x.flat = true ∧ l.all D.flat = true ∧ q (l.any fun e => e.eqv x)
  | .tpz l => x.flat = true ∧ l.all D.flat = true ∧ q (l.any fun e => e.eqv x)
  | y => optD (seqL μ y) fun l => x.ok = true ∧ D.oks l = true ∧ x.dep ≤ 64 ∧ D.deps l < 64 ∧ q (l.any fun e => e.eqv x)
def cmpD (o : Cm) (x y : D) (μ : Mem) (q : Bool → Prop) : Prop := match o with
  | .eq => eqD x y μ q
  | .ne => eqD x y μ fun b => q (!b)
  | .lt => ltD (fun i j => decide (i < j)) (fun i j => decide (i.cps.toList < j.cps.toList)) x y q
  | .le => ltD (fun i j => decide (i ≤ j)) (fun i j => !decide (j.cps.toList < i.cps.toList)) x y q
  | .gt => ltD (fun i j => decide (j < i)) (fun i j => decide (j.cps.toList < i.cps.toList)) x y q
  | .ge => ltD (fun i j => decide (j ≤ i)) (fun i j => !decide (i.cps.toList < j.cps.toList)) x y q
  | .is => isD y (q x.isNon)
  | .isnot => isD y (q (!x.isNon))
  | .inn => inD x y μ q
  | .notin => inD x y μ fun b => q (!b)
  | .eqn => optD (seqL μ x) fun l => optD (seqL μ y) fun m => m = [] ∧ q l.isEmpty
def truD (x : D) (μ : Mem) (q : Bool → Prop) : Prop := match x with
  | .non => q false
  | .bl b => q b
  | .int i => q (i != 0)
  | .str s => s.length ≤ 16777216 ∧ q ((s.length : Int) != 0)
  | .tup l => q (!l.isEmpty)
  | .lst l => q (!l.isEmpty)
  | .lk l => q (!l.isEmpty)
  | .ref a => optD (seqL μ (.ref a)) fun l => q (!l.isEmpty)
  | .emp => False
  | .exc _ _ _ => False
  | .ins _ _ _ => False
  | .tpl l => q (!l.isEmpty)
  | .tpz l => q (!l.isEmpty)
def ixS (x : D) (k : Int) (μ : Mem) (Q : DK) : Prop := match x with
  | .str s => s.length ≤ 16777216 ∧ optD (atI s.cps.toList k) fun c => Q (.str ⟨#[c]⟩) μ
  | x => optD (seqA μ x) fun l => optD (atI l k) fun d => Q d μ
def ixD (x i : D) (μ : Mem) (Q : DK) : Prop := match i with
  | .int k => ixS x k μ Q
  | _ => False
/-- a part of a slice -/
def parD (x : D) (q : Option Int → Prop) : Prop := match x with
  | .int i => q (some i)
  | _ => False
def cutD (xs : List D) (lo hi : Option Int) : List D := (xs.drop (HT.sIx xs.length 0 lo)).take (HT.sIx xs.length xs.length hi - HT.sIx xs.length 0 lo)
def slD (z : Bool) (x : D) (lo hi : Option Int) (μ : Mem) (Q : DK) : Prop := match x with
  | .str s => s.length ≤ 16777216 ∧ Q (.str (cutS s lo hi)) μ
  | .tup l => Q (.tup (cutD l lo hi)) μ
  | .tpl l => Q (.tpl (cutD l lo hi)) μ
  | .tpz l => Q (.tup (cutD l lo hi)) μ
  | x => optD (seqL μ x) fun l => newL z (cutD l lo hi) μ Q
def objAt (μ : Mem) (a : Addr) : Option (Str × List (Str × D)) := match μ a with
  | some (.obj c fs) => some (c, fs)
  | _ => none
def dctAt (μ : Mem) (a : Addr) : Option (Bool × List (List Key × D)) := match μ a with
  | some (.dct t kvs) => some (t, kvs)
  | _ => none
/-- what was there stays, what is new is forgotten -/
def restr (μ1 μ0 : Mem) : Mem := fun a => if (μ0 a).isSome = true then μ1 a else none
def fzoD (x : D) (μ : Mem) (Q : DK) : Prop := match x with
  | .ref a => optD (objAt μ a) fun o => Q (.ins o.1 (o.2.map (·.1)) (o.2.map (·.2))) (mdel μ a)
  | _ => False
def fzD (x : D) (μ : Mem) (Q : DK) : Prop := match x with
  | .ref a => optD (seqL μ (.ref a)) fun l => Q (.lst l) (mdel μ a)
  | x => Q x μ

/-! ### calls of built-ins by data -/
inductive Bi where | len | int | str | tuple | list | abs | max | min | divmod | sum | any | all
  deriving DecidableEq
def Bi.nm : Bi → Str
  | .len => "len" | .int => "int" | .str => "str" | .tuple => "tuple" | .list => "list" | .abs => "abs" | .max => "max" | .min => "min"
  | .divmod => "divmod" | .sum => "sum" | .any => "any" | .all => "all"
def asInts : List D → Option (List Int)
  | [] => some []
  | .int i :: r => (asInts r).map (i :: ·)
  | _ :: _ => none
def asBls : List D → Option (List Bool)
  | [] => some []
  | .bl i :: r => (asBls r).map (i :: ·)
  | _ :: _ => none
def asStrs : List D → Option (List Str)
  | [] => some []
  | .str i :: r => (asStrs r).map (i :: ·)
  | _ :: _ => none
def lenD (x : D) (μ : Mem) (Q : DK) : Prop := match x with
  | .str s => s.length ≤ 16777216 ∧ Q (.int s.length) μ
  | x => optD (seqA μ x) fun l => Q (.int l.length) μ
def intD (x : D) (μ : Mem) (Q : DK) : Prop := match x with
  | .int i => Q (.int i) μ
  | .bl b => Q (.int (if b then 1 else 0)) μ
  | .str s => s.length ≤ 640 ∧ optD (PySem.intText? s) fun n => Q (.int n) μ
  | _ => False
def strD (x : D) (μ : Mem) (Q : DK) : Prop := match x with
  | .int i => i.natAbs.log2 < 1920 ∧ Q (.str (toString i)) μ
  | .str s => Q (.str s) μ
  | .non => Q (.str "None") μ
  | _ => False
def tupleD (x : D) (μ : Mem) (Q : DK) : Prop := optD (seqA μ x) fun l => Q (.tup l) μ
/-- a text's signs -/
def chars (s : Str) : List D := s.cps.toList.map fun c => .str ⟨#[c]⟩
def listD (z : Bool) (x : D) (μ : Mem) (Q : DK) : Prop := match x with
  | .str s => s.length ≤ 16777216 ∧ newL z (chars s) μ Q
  | x => optD (seqA μ x) fun l => newL z l μ Q
def best1 (g : Int → Int → Prop) (x : D) (μ : Mem) (Q : DK) : Prop := optD (seqL μ x) fun l => optD (asInts l) fun ns => 0 < ns.length ∧ ∀ m, m ∈ ns → (∀ y, y ∈ ns → g y m) → Q (.int m) μ
def best2 (p : Int → Int → Bool) (x y : D) (μ : Mem) (Q : DK) : Prop := match x with
  | .int i => (match y with
    | .int j => Q (.int (if p j i then j else i)) μ
    | _ => False)
  | _ => False
def bestD (p : Int → Int → Bool) (g : Int → Int → Prop) (ds : List D) (μ : Mem) (Q : DK) : Prop := match ds with
  | [x] => best1 g x μ Q
  | [x, y] => best2 p x y μ Q
  | _ => False
def oneD (ds : List D) (p : D → Prop) : Prop := match ds with
  | [x] => p x
  | _ => False
def dmD (x y : D) (μ : Mem) (Q : DK) : Prop := match x with
  | .int i => (match y with
    | .int j => (0 < j ∧ j ≤ 2 ^ 256) ∧ Q (.tup [.int (i / j), .int (i % j)]) μ
    | _ => False)
  | _ => False
def absD (x : D) (μ : Mem) (Q : DK) : Prop := match x with
  | .int i => Q (.int (if i < 0 then -i else i)) μ
  | _ => False
def biD (z : Bool) (f : Bi) (ds : List D) (μ : Mem) (Q : DK) : Prop := match f with
  | .max => bestD (fun j i => decide (j > i)) (fun y m => y ≤ m) ds μ Q
  | .min => bestD (fun j i => decide (j < i)) (fun y m => m ≤ y) ds μ Q
  | .divmod => (match ds with
    | [x, y] => dmD x y μ Q
    | _ => False)
  | .len => oneD ds fun x => lenD x μ Q
  | .int => oneD ds fun x => intD x μ Q
  | .str => oneD ds fun x => strD x μ Q
  | .tuple => oneD ds fun x => tupleD x μ Q
  | .list => oneD ds fun x => listD z x μ Q
  | .abs => oneD ds fun x => absD x μ Q
  | .sum => oneD ds fun x => optD (seqL μ x) fun l => optD (asInts l) fun ns => Q (.int ns.sum) μ
  | .any => oneD ds fun x => optD (seqL μ x) fun l => optD (asBls l) fun bs => Q (.bl (bs.any id)) μ
  | .all => oneD ds fun x => optD (seqL μ x) fun l => optD (asBls l) fun bs => Q (.bl (bs.all id)) μ
/-- methods of texts that make a value -/
inductive Mt where | join | split
  deriving DecidableEq
def Mt.nm : Mt → Str
  | .join => "join" | .split => "split"
def strIs (x : D) : Prop := match x with
  | .str _ => True
  | _ => False
def joinD (a : Str) (y : D) (μ : Mem) (Q : DK) : Prop := optD (seqA μ y) fun l => optD (asStrs l) fun ys => (ys.map fun x => x.length).sum + ys.length * a.length ≤ 16777216 ∧ Q (.str (Txt.join a ys)) μ
def splitD (z : Bool) (a : Str) (y : D) (μ : Mem) (Q : DK) : Prop := match y with
  | .str b => (b.length == 0) = false ∧ a.length + 2 ≤ 16777216 ∧ newL z ((Txt.split a b).map D.str) μ Q
  | _ => False
def mtD (z : Bool) (m : Mt) (x : D) (ds : List D) (μ : Mem) (Q : DK) : Prop := match x with
  | .str a => (match m with
    | .join => oneD ds fun y => joinD a y μ Q
    | .split => oneD ds fun y => splitD z a y μ Q)
  | _ => False
/-- what texts are asked by a text -/
inductive Sq where | index | find | count
  deriving DecidableEq
def Sq.nm : Sq → Str
  | .index => "index" | .find => "find" | .count => "count"
def sqD (m : Sq) (x y : D) (μ : Mem) (Q : DK) : Prop := match x with
  | .str a => (match y with
    | .str b => (match m with
      | .index => optD (Builtin.Str.occurrences a b 0 a.length 1).head? fun i => Q (.int (i : Nat)) μ
      | .find => Q (.int (Txt.find a b)) μ
      | .count => Q (.int (Txt.count a b)) μ)
    | _ => False)
  | _ => False
/-- list.count, by data -/
def cntD (x d : D) (μ : Mem) (Q : DK) : Prop := optD (seqL μ x) fun l => d.ok = true ∧ D.oks l = true ∧ d.dep ≤ 64 ∧ D.deps l < 64 ∧ Q (.int ((l.countP fun e => e.eqv d : Nat) : Int)) μ
/-- str.split with a limit -/
def spmD (z : Bool) (x d k : D) (μ : Mem) (Q : DK) : Prop := match x with
  | .str a => (match d with
    | .str b => (match k with
      | .int k => (b.length == 0) = false ∧ (-(2 ^ 63) ≤ k ∧ k < 2 ^ 63) ∧ a.length + 2 ≤ 16777216 ∧ newL z ((Txt.splitMax a b k).map D.str) μ Q
      | _ => False)
    | _ => False)
  | _ => False
/-- repr of a tuple -/
def rprD (x : D) (μ : Mem) (Q : DK) : Prop := match x with
  | .tup l => (D.tup l).ok = true ∧ (D.tup l).dep ≤ 64 ∧ (D.tup l).py.showable = true ∧ (D.tup l).py.shown.length ≤ 16777216 ∧ Q (.str (D.tup l).py.shown) μ
  | _ => False
/-- the last two of some items: text + literal, text.replace(literal, literal) -/
def addOk (x : D) (l : Str) : Prop := match x with
  | .str s => s.length + l.length ≤ 16777216
  | _ => False
def rep2D (x : D) (l : Str) (v : D) (y z : Str) (q : List D → Prop) : Prop := match x with
  | .str s => (match v with
    | .str t => t.length + (t.length + 1) * z.length ≤ 16777216 ∧ q [.str (s ++ l), .str (Txt.replace t y z)]
    | _ => False)
  | _ => False
/-- types for isinstance -/
inductive Ty where | int | bool | str | tuple | list
  deriving DecidableEq
def Ty.nm : Ty → Str
  | .int => "int" | .bool => "bool" | .str => "str" | .tuple => "tuple" | .list => "list"
def Ty.nmS : Ty → String
  | .int => "int" | .bool => "bool" | .str => "str" | .tuple => "tuple" | .list => "list"
/-- its type is known -/
def isiOk (x : D) (μ : Mem) : Prop := match x with
  | .exc _ _ _ => False
  | .ins _ _ _ => False
  | .tpl _ => False
  | .ref a => optD (seqL μ (.ref a)) fun _ => True
  | _ => True
def isiD (x : D) (t : Ty) : Bool := match x, t with
  | .int _, .int => true
  | .bl _, .int => true
  | .bl _, .bool => true
  | .str _, .str => true
  | .tup _, .tuple => true
  | .tpz _, .tuple => true
  | .lst _, .list => true
  | .lk _, .list => true
  | .ref _, .list => true
  | _, _ => false

/-! ### programs -/
mutual
inductive E
  | v (i : Nat) | g (x : Str) | non | bl (b : Bool) | int (i : Int) | str (s : Str)
  | bin (z : Bool) (o : Op2) (a b : E) | neg (a : E)
  | cmp (o : Cm) (a b : E) | chain (o o' : Cm) (a b c : E)
  | and (a b : E) | or (a b : E) | not (a : E)
  | ite (t : Te) (a b : E)
  | tup (es : Es) | lst (z : Bool) (es : Es)
  | ix (a i : E) | sl (z : Bool) (a : E) (lo hi : Eo)
  | lc (z : Bool) (tg : T) (it : It) (cs : Tes) (elt : E)
  | call (f : Str) (es : Es)
  | bi (z : Bool) (f : Bi) (es : Es)
  | isi (a : E) (t : Ty)
  | mt (z : Bool) (m : Mt) (o e : E)
  | fz (a : E)
  | sset (z : Bool) (a : E) | nset (a : E)
  | pt (a : E) | shut (i : Nat) (a : E) | drop (is : List Nat) (a : E)
  | emp
  | sq (m : Sq) (o e : E) | popE (o : E) | popI (o i : E)
  | cnt (o e : E) | spm (z : Bool) (o a b : E) | rpr (a : E)
  | lax (is : List Nat) (a : E)
  | rst (a : E) | fzo (a : E) | tpd (es : Es) | pl (a b : E) | mko (c : Str) (es : Es) | meth (c m : Str) (o : E) (es : Es) | dnw (t : Bool)
  | kx (o k : E) | kget (o k d : E) | kls (z : Bool) (o : E)
  | tix (o e : E) | lrg (z : Bool) (a b : E) | tzn (a : E) | skey (z b : Bool) (a : E) (i : Nat)
  | mkx1 (c : Str) (a : E) | mkx (c : Str) (es : Es) | isx (a : E) (c : Str) | atx (a : E) (f : Str)
inductive Es
  | nil | cons (e : E) (es : Es) | rep2 (a : E) (l : Str) (o : E) (y z : Str)
inductive Eo
  | no | one (e : E)
/-- tests -/
inductive Te
  | val (e : E) | cm (o : Cm) (a b : E) | and (a b : Te) | or (a b : Te) | not (a : Te)
inductive Tes
  | nil | one (t : Te)
/-- what a loop walks -/
inductive It
  | seq (e : E) | range1 (a : E) | range2 (a b : E) | enum (a : E) | zip (a b : E) | rev (a : E)
/-- targets -/
inductive T
  | v (i : Nat) | tup (ts : Ts)
inductive Ts
  | nil | cons (t : T) (ts : Ts)
end
/-! except suites -/
mutual
inductive HX
  | non | bl (b : Bool) | str (s : Str) | at (f : Str) | tup (es : HXs) | ite (t : HT) (a b : HX)
inductive HXs
  | nil | cons (e : HX) (es : HXs)
inductive HT
  | isi (c : Str) | not (a : HT) | and (a b : HT) | or (a b : HT)
end
mutual
inductive HS
  | ret (e : HX) | retN | set (i : Nat) (e : HX) | ite (t : HT) (a b : HSs)
inductive HSs
  | nil | cons (s : HS) (ss : HSs)
end
mutual
inductive S
  | set (i : Nat) (e : E)
  | asg (t : T) (e : E)
  | par (i j : Nat) (a b : E) | par3 (i j l : Nat) (a b c : E)
  | setIx (o i e : E)
  | setIx2 (o i : E) (j : Nat) (e : E)
  | aug (i : Nat) (o : Op2) (e : E)
  | expr (e : E)
  | app (o e : E)
  | pop (o : E) | ins (o i e : E)
  | ext (o e : E)
  | clear (o : E)
  | ret (e : E) | retN
  | ite (t : Te) (a b : Ss)
  | for_ (ws : List Nat) (t : T) (it : It) (b : Ss)
  | while_ (ws : List Nat) (t : Te) (b : Ss)
  | pass | brk | cont
  | never
  | opn (i : Nat)
  | drp (is : List Nat)
  | setA (o : E) (f : Str) (e : E) | setK (o i e : E)
  | raise (c s : Str) | raiseI (c : Str) (es : Es)
  | tryAs (b : Ss) (c : Str) (i : Nat) (h : HSs) | try_ (b : Ss) (c : Str) (h : HSs)
inductive Ss
  | nil | cons (s : S) (ss : Ss)
end
mutual
def T.slots : T → List Nat
  | .v i => [i]
  | .tup ts => Ts.slots ts
def Ts.slots : Ts → List Nat
  | .nil => []
  | .cons t ts => T.slots t ++ Ts.slots ts
end

/-! ### what a program wants -/
def getV : Rho → Nat → (D → Prop) → Prop
  | [], _, _ => False
  | o :: _, 0, k => (match o with
    | some d => k d
    | none => False)
  | _ :: r, i + 1, k => getV r i k
/-- an exception: its class's name, what it holds -/
abbrev FSpec := List D → Mem → DK → EK → Prop
/-- what is known of the classes of exceptions: those made with a text; those with an own __init__: what they hold by what they are made of; whether one's instance is one of another class; what an instance's fields may be called -/
structure ExI where
  exs : Str → Bool
  exi : Str → Option (List D → Option (List (Str × D)))
  sub : Str → Str → Option Bool
  fld : Str → Str → Bool
  /-- those that may stand as values: with a text; or with two fields, by an own __init__ (that puts a text of so many signs ahead of the second one, or doesn't) -/
  exv : Str → Option (Option (Str × Str × Option Nat)) := fun _ => none
  /-- own classes: the def that is its __init__; the defs that are its methods; what fields its instances may have -/
  ini : Str → Option Str := fun _ => none
  met : Str → Str → Option Str := fun _ _ => none
  fo : Str → Str → Bool := fun _ _ => false
  /-- the def that makes lambdas; its table of code objects and their name -/
  lam : Option Str := Option.none
  tab : Option (Addr × Str) := Option.none
def ExI.none : ExI := { exs := fun _ => false, exi := fun _ => Option.none, sub := fun _ _ => Option.none, fld := fun _ _ => false }
structure Gc where
  has : Str → Bool
  fn : Str → FSpec
  cst : Str → Option D
  ex : ExI
  /-- nothing is being told (repr) around -/
  grd : Bool := false
  /-- the table of code objects of the def that is being looked at -/
  tb : Option (Addr × Str) := none
structure DEnds where
  nx : Rho → Mem → Prop
  rt : DK
  bk : Rho → Mem → Prop := fun _ _ => False
  ct : Rho → Mem → Prop := fun _ _ => False
def wipeR (ρ : Rho) : List Nat → Rho
  | [] => ρ
  | v :: vs => (wipeR ρ vs).set v none
def wipeK (ws : List Nat) (K : DEnds) : DEnds := { nx := fun ρ μ => K.nx (wipeR ρ ws) μ, rt := K.rt, bk := fun ρ μ => K.bk (wipeR ρ ws) μ, ct := fun ρ μ => K.ct (wipeR ρ ws) μ }
def gOk (g : Option Nat) (d : D) : Prop := match g with
  | none => True
  | some n => match d with
    | .str t => n + t.length ≤ sizeLine
    | _ => False
def mkxD (c : Str) (x : Option (Str × Str × Option Nat)) (ds : List D) (μ : Mem) (Q : DK) : Prop := match x with
  | none => False
  | some (f1, f2, g) => (match ds with
    | [d1, d2] => gOk g d2 ∧ Q (.exc c [f2, f1] [d2, d1]) μ
    | _ => False)
def rzD (x : Str × Str × Option Nat) (ds : List D) (q : List (Str × D) → Prop) : Prop := match ds with
  | [d1, d2] => gOk x.2.2 d2 ∧ q [(x.2.1, d2), (x.1, d1)]
  | _ => False
def isxD (ex : ExI) (x : D) (t : Str) (q : Bool → Prop) : Prop := match x with
  | .exc c _ _ => (ex.exv c).isSome = true ∧ optD (ex.sub c t) q
  | _ => False
def tupL : D → Option (List D)
  | .tup l => some l
  | .tpl l => some l
  | _ => none
def isTpl : D → Bool
  | .tpl _ => true
  | _ => false
def plD (x y : D) (μ : Mem) (Q : DK) : Prop := optD (tupL x) fun l => optD (tupL y) fun m => m ≠ [] ∧ (l ≠ [] ∨ isTpl y = true) ∧ l.length + m.length ≤ 16777216 ∧ Q (.tpl (l ++ m)) μ
def insRef (c m : Str) (x : D) (μ : Mem) : Prop := match x with
  | .ref a => optD (objAt μ a) fun o => o.1 = c ∧ o.2.lookup m = none
  | _ => False
def putFD (f : Str) (d : D) : List (Str × D) → List (Str × D)
  | [] => [(f, d)]
  | (g, x) :: r => if g = f then (g, d) :: r else (g, x) :: putFD f d r
def setAD (ex : ExI) (x : D) (f : Str) (d : D) (μ : Mem) (k : Mem → Prop) : Prop := match x with
  | .ref a => optD (objAt μ a) fun o => ex.fo o.1 f = true ∧ o.2.length < 1000 ∧ k (mset μ a (.obj o.1 (putFD f d o.2)))
  | _ => False
def keyD : D → Option Key
  | .int i => some (.inl i)
  | .str s => some (.inr s)
  | _ => none
def keysD : List D → Option (List Key)
  | [] => some []
  | d :: r => (keyD d).bind fun k => (keysD r).map (k :: ·)
def keyT (t : Bool) (d : D) : Option (List Key) := match t with
  | false => (keyD d).map fun k => [k]
  | true => (match d with
    | .tpl l => keysD l
    | _ => none)
def putKD (kvs : List (List Key × D)) (k : List Key) (d : D) : List (List Key × D) :=
  if (kvs.any fun kv => decide (kv.1 = k)) = true then kvs.map (fun kv => if kv.1 = k then (kv.1, d) else kv) else kvs ++ [(k, d)]
def setKD (x k d : D) (μ : Mem) (q : Mem → Prop) : Prop := match x with
  | .ref a => optD (dctAt μ a) fun o => optD (keyT o.1 k) fun ks => o.2.length < 16777216 ∧ q (mset μ a (.dct o.1 (putKD o.2 ks d)))
  | _ => False
/-- what a dict has at a key -/
def valKD (kvs : List (List Key × D)) (k : List Key) : Option D := (kvs.find? fun kv => decide (kv.1 = k)).map (·.2)
def isDct (x : D) (μ : Mem) : Prop := match x with
  | .ref a => optD (dctAt μ a) fun _ => True
  | _ => False
def kxD (x k : D) (μ : Mem) (q : Option D → Prop) : Prop := match x with
  | .ref a => optD (dctAt μ a) fun o => optD (keyT o.1 k) fun ks => q (valKD o.2 ks)
  | _ => False
/-- tuple.index of a flat thing -/
def tixD (x d : D) (μ : Mem) (Q : DK) : Prop := match x with
  | .tpz l => d.flat = true ∧ l.all D.flat = true ∧ optD (l.findIdx? fun e => e.eqv d) fun j => Q (.int (j : Nat)) μ
  | _ => False
def isTp (x : D) : Prop := match x with
  | .tpz _ => True
  | _ => False
/-- tuple(list), known to be a plain new one -/
def tznD (x : D) (μ : Mem) (Q : DK) : Prop := optD (seqL μ x) fun l => Q (.tpz l) μ
/-- list(range(i, j)) -/
def lrgD (z : Bool) (x y : D) (μ : Mem) (Q : DK) : Prop := match x with
  | .int i => (match y with
    | .int j => RgOk i j ∧ newL z ((List.range (j - i).toNat).map fun k => .int (i + (k : Nat))) μ Q
    | _ => False)
  | _ => False
/-- the item of a row that stands for it in a sort -/
def kyD (n : Int) : D → D
  | .tup l => (atI l (n - 1)).getD .non
  | .tpl l => (atI l (n - 1)).getD .non
  | .tpz l => (atI l (n - 1)).getD .non
  | _ => .non
def kyI (n : Int) (l : List D) : Prop := ∀ y ∈ l, ∃ i, kyD n y = .int i
def kyS (n : Int) (l : List D) : Prop := ∀ y ∈ l, ∃ s, kyD n y = .str s
def kyLe (b : Bool) : D → D → Bool
  | .int i, .int j => if b = true then decide (j ≤ i) else decide (i ≤ j)
  | .str x, .str y => if b = true then decide (y.cps.toList ≤ x.cps.toList) else decide (x.cps.toList ≤ y.cps.toList)
  | _, _ => true
/-- sorted(l, key=lambda row: row[n - 1], reverse=b) -/
def skD (tb : Option (Addr × Str)) (z b : Bool) (x c : D) (μ : Mem) (Q : DK) : Prop := optD tb fun t => μ t.1 = some (.tab t.2) ∧ optD (seqL μ x) fun l => match c with
  | .int n => (kyI n l ∨ kyS n l) ∧ newL z (l.mergeSort fun u v => kyLe b (kyD n u) (kyD n v)) μ Q
  | _ => False
def klsD (z : Bool) (x : D) (μ : Mem) (Q : DK) : Prop := match x with
  | .ref a => optD (dctAt μ a) fun o => o.1 = true ∧ newL z (o.2.map fun kv => .tpl (kv.1.map kD)) μ Q
  | _ => False
def atxD (ex : ExI) (x : D) (μ : Mem) (f : Str) (q : D → Prop) : Prop := match x with
  | .ref a => optD (objAt μ a) fun o => ex.fo o.1 f = true ∧ optD (o.2.lookup f) q
  | .ins c ns ds => ex.fo c f = true ∧ optD ((ns.zip ds).lookup f) q
  | .exc c ns ds => (ex.exv c).isSome = true ∧ ex.fld c f = true ∧ optD ((ns.zip ds).lookup f) q
  | _ => False
/-- a comprehension over items: ok says that the source stands still -/
def LC (items : List D) (μ : Mem) (ok : Mem → Prop) (step : D → Mem → (Option D → Mem → Prop) → Prop) (Q : List D → Mem → Prop) : Prop :=
  ∃ I : List D → List D → Mem → Prop, I items [] μ ∧
    (∀ x xs acc μ, I (x :: xs) acc μ → ok μ ∧ step x μ fun o μ' => match o with
      | some d => acc.length < 16777216 ∧ I xs (acc ++ [d]) μ'
      | none => I xs acc μ') ∧
    ∀ acc μ, I [] acc μ → ok μ ∧ Q acc μ
/-- a loop over items -/
def LP (items : List D) (ρ : Rho) (μ : Mem) (ok : Mem → Prop) (step : D → Rho → Mem → DEnds → Prop) (D₀ : DEnds) : Prop :=
  ∃ I : List D → Rho → Mem → Prop, I items ρ μ ∧
    (∀ x xs ρ μ, I (x :: xs) ρ μ → ok μ ∧ step x ρ μ { nx := I xs, ct := I xs, bk := D₀.nx, rt := D₀.rt }) ∧
    ∀ ρ μ, I [] ρ μ → ok μ ∧ D₀.nx ρ μ
/-- a while -/
def LW (ρ : Rho) (μ : Mem) (test : Rho → Mem → (Bool → Mem → Prop) → Prop) (body : Rho → Mem → DEnds → Prop) (D₀ : DEnds) : Prop :=
  ∃ I : Nat → Rho → Mem → Prop, (∃ m, I m ρ μ) ∧
    ∀ m ρ μ, I m ρ μ → test ρ μ fun b μ' => if b = true then body ρ μ' { nx := fun ρ μ => ∃ m', m' < m ∧ I m' ρ μ, ct := fun ρ μ => ∃ m', m' < m ∧ I m' ρ μ, bk := D₀.nx, rt := D₀.rt } else D₀.nx ρ μ'
def intsR (lo : Int) (n : Nat) : List D := (List.range n).map fun i => .int (lo + (i : Nat))
def seqIt (x : D) (μ : Mem) (R : List D → (Mem → Prop) → Mem → Prop) : Prop := match x with
  | .str s => R (chars s) (fun _ => True) μ
  | .ref a => optD (seqL μ (.ref a)) fun l => R l (fun μ' => seqL μ' (.ref a) = some l) μ
  | .lst l => R l (fun _ => True) μ
  | .lk l => R l (fun _ => True) μ
  | .tup l => R l (fun _ => True) μ
  | .tpz l => R l (fun _ => True) μ
  | _ => False
def rng1 (x : D) (μ : Mem) (R : List D → (Mem → Prop) → Mem → Prop) : Prop := match x with
  | .int j => -(2 ^ 62) ≤ j ∧ j < 2 ^ 62 ∧ R (intsR 0 j.toNat) (fun _ => True) μ
  | _ => False
def rng2 (x y : D) (μ : Mem) (R : List D → (Mem → Prop) → Mem → Prop) : Prop := match x with
  | .int i => (match y with
    | .int j => (-(2 ^ 62) ≤ i ∧ i < 2 ^ 62 ∧ -(2 ^ 62) ≤ j ∧ j < 2 ^ 62) ∧ R (intsR i (j - i).toNat) (fun _ => True) μ
    | _ => False)
  | _ => False

/-- the object that a slot holds -/
def refAt : Rho → Nat → Option Addr
  | [], _ => none
  | some (.ref a) :: _, 0 => some a
  | _ :: _, 0 => none
  | _ :: r, i + 1 => refAt r i
def mdelO (μ : Mem) (o : Option Addr) : Mem := match o with
  | some a => mdel μ a
  | none => μ
def dropM (ρ : Rho) : List Nat → Mem → Mem
  | [], μ => μ
  | i :: is, μ => dropM ρ is (mdelO μ (refAt ρ i))
/-- a pot is closed: its two numbers are not told any more -/
def shutD (y : D) (μ : Mem) (k : Mem → Prop) : Prop := match y with
  | .ref a => optD (seqL μ (.ref a)) fun l => (match l with
    | .int p :: .int q :: r => (0 ≤ p ∧ 0 ≤ q ∧ q < 2147483648) ∧ k (mset μ a (.pot r))
    | _ => False)
  | _ => False
def potOf (μ : Mem) (a : Addr) : Option (List D) := match μ a with
  | some (.pot l) => some l
  | _ => none
def openD (y : D) (μ : Mem) (k : Mem → Prop) : Prop := match y with
  | .ref a => optD (potOf μ a) fun r => ∀ p q : Int, 0 ≤ p → 0 ≤ q → q < 2147483648 → k (mset μ a (.lst (.int p :: .int q :: r)))
  | _ => False
/-- a sequence that stands still while it is walked -/
def stillIt (x : D) (μ : Mem) (g : List D → (Mem → Prop) → Prop) : Prop := match x with
  | .ref a => optD (seqL μ (.ref a)) fun l => g l (fun μ' => seqL μ' (.ref a) = some l)
  | .lst l => g l (fun _ => True)
  | .lk l => g l (fun _ => True)
  | .tup l => g l (fun _ => True)
  | .tpz l => g l (fun _ => True)
  | _ => False
def numb (l : List D) : List D := (List.range l.length).zipWith (fun i d => .tup [.int (i : Nat), d]) l
def pairs (l m : List D) : List D := l.zipWith (fun a b => .tup [a, b]) m
def enumIt (x : D) (μ : Mem) (R : List D → (Mem → Prop) → Mem → Prop) : Prop := match x with
  | .str s => R (numb (chars s)) (fun _ => True) μ
  | x => stillIt x μ fun l ok => R (numb l) ok μ
def zipIt (x y : D) (μ : Mem) (R : List D → (Mem → Prop) → Mem → Prop) : Prop := stillIt x μ fun l ok => stillIt y μ fun m ok2 => R (pairs l m) (fun μ' => ok μ' ∧ ok2 μ') μ
def revIt (x : D) (μ : Mem) (R : List D → (Mem → Prop) → Mem → Prop) : Prop := stillIt x μ fun l ok => R l.reverse ok μ
/-- sorted(set(x)): of whole numbers, of texts -/
def ltS (a b : Str) : Prop := a.cps.toList < b.cps.toList
def ssetD (z : Bool) (x : D) (μ : Mem) (Q : DK) : Prop := optD (seqA μ x) fun l => l.length ≤ 1000 ∧
  ((∃ ns, asInts l = some ns ∧ ∀ ms : List Int, ms.Pairwise (· < ·) → (∀ k, k ∈ ms ↔ k ∈ ns) → newL z (ms.map D.int) μ Q) ∨
   (∃ ns, asStrs l = some ns ∧ ∀ ms : List Str, ms.Pairwise ltS → (∀ k, k ∈ ms ↔ k ∈ ns) → newL z (ms.map D.str) μ Q))
/-- len(set(x)) -/
def nsetD (x : D) (μ : Mem) (Q : DK) : Prop := optD (seqA μ x) fun l => l.length ≤ 1000 ∧
  ((∃ ns, asInts l = some ns ∧ ∀ ms : List Int, ms.Nodup → (∀ k, k ∈ ms ↔ k ∈ ns) → Q (.int ms.length) μ) ∨
   (∃ ns, asStrs l = some ns ∧ ∀ ms : List Str, ms.Nodup → (∀ k, k ∈ ms ↔ k ∈ ns) → Q (.int ms.length) μ))

def intK (d : D) (k : Int → Prop) : Prop := match d with
  | .int i => k i
  | _ => False
/-- o[i] = e, by data -/
def chg (o : D) (μ : Mem) (f : Addr → List D → Prop) : Prop := match o with
  | .ref a => optD (seqL μ (.ref a)) fun l => f a l
  | _ => False
mutual
def wpTg : T → D → Rho → Mem → (Rho → Mem → Prop) → Prop
  | .v i, d, ρ, μ, Q => Q (ρ.set i (some d)) μ
  | .tup ts, d, ρ, μ, Q => (match d with
    | .tup ds => wpTgs ts ds ρ μ Q
    | .lst ds => wpTgs ts ds ρ μ Q
    | _ => False)
def wpTgs : Ts → List D → Rho → Mem → (Rho → Mem → Prop) → Prop
  | .nil, ds, ρ, μ, Q => ds = [] ∧ Q ρ μ
  | .cons t ts, ds, ρ, μ, Q => (match ds with
    | d :: r => wpTg t d ρ μ fun ρ' μ' => wpTgs ts r ρ' μ' Q
    | [] => False)
end
mutual
def wp (G : Gc) : E → Rho → Mem → DK → EK → Prop
  | .v i, ρ, μ, Q, _ => getV ρ i fun d => Q d μ
  | .g x, _, μ, Q, _ => optD (G.cst x) fun d => Q d μ
  | .non, _, μ, Q, _ => Q .non μ
  | .bl b, _, μ, Q, _ => Q (.bl b) μ
  | .int i, _, μ, Q, _ => Q (.int i) μ
  | .str s, _, μ, Q, _ => Q (.str s) μ
  | .bin z o a b, ρ, μ, Q, X => wp G a ρ μ (fun x μ1 => wp G b ρ μ1 (fun y μ2 => binD z o x y μ2 Q) X) X
  | .neg a, ρ, μ, Q, X => wp G a ρ μ (fun x μ1 => match x with | .int i => Q (.int (-i)) μ1 | _ => False) X
  | .cmp o a b, ρ, μ, Q, X => wp G a ρ μ (fun x μ1 => wp G b ρ μ1 (fun y μ2 => cmpD o x y μ2 fun c => Q (.bl c) μ2) X) X
  | .chain o o' a b c, ρ, μ, Q, X => wp G a ρ μ (fun x μ1 => wp G b ρ μ1 (fun y μ2 => cmpD o x y μ2 fun k =>
      if k = true then wp G c ρ μ2 (fun z μ3 => cmpD o' y z μ3 fun k' => Q (.bl k') μ3) X else Q (.bl false) μ2) X) X
  | .and a b, ρ, μ, Q, X => wp G a ρ μ (fun x μ1 => truD x μ1 fun c => if c = true then wp G b ρ μ1 Q X else Q x μ1) X
  | .or a b, ρ, μ, Q, X => wp G a ρ μ (fun x μ1 => truD x μ1 fun c => if c = true then Q x μ1 else wp G b ρ μ1 Q X) X
  | .not a, ρ, μ, Q, X => wp G a ρ μ (fun x μ1 => truD x μ1 fun c => Q (.bl (!c)) μ1) X
  | .ite t a b, ρ, μ, Q, X => wpT G t ρ μ (fun c μ1 => if c = true then wp G a ρ μ1 Q X else wp G b ρ μ1 Q X) X
  | .tup es, ρ, μ, Q, X => wps G es ρ μ (fun ds μ1 => ds.length ≤ 16777216 ∧ Q (.tup ds) μ1) X
  | .lst z es, ρ, μ, Q, X => wps G es ρ μ (fun ds μ1 => ds.length ≤ 16777216 ∧ newL z ds μ1 Q) X
  | .ix a i, ρ, μ, Q, X => wp G a ρ μ (fun x μ1 => wp G i ρ μ1 (fun y μ2 => ixD x y μ2 Q) X) X
  | .sl z a lo hi, ρ, μ, Q, X => wp G a ρ μ (fun x μ1 => wpO G lo ρ μ1 (fun l μ2 => wpO G hi ρ μ2 (fun h μ3 => slD z x l h μ3 Q) X) X) X
  | .lc z tg it cs elt, ρ, μ, Q, X => wpI G it ρ μ (fun items ok μ1 => LC items μ1 ok (fun x μ2 R =>
      wpTg tg x (wipeR ρ tg.slots) μ2 fun ρ' μ3 => wpTs G cs ρ' μ3 (fun b μ4 => if b = true then wp G elt ρ' μ4 (fun d μ5 => R (some d) μ5) X else R none μ4) X)
      fun acc μ2 => newL z acc μ2 Q) X
  | .call f es, ρ, μ, Q, X => wps G es ρ μ (fun ds μ1 => G.fn f ds μ1 Q X) X
  | .bi z f es, ρ, μ, Q, X => wps G es ρ μ (fun ds μ1 => biD z f ds μ1 Q) X
  | .isi a t, ρ, μ, Q, X => wp G a ρ μ (fun x μ1 => isiOk x μ1 ∧ Q (.bl (isiD x t)) μ1) X
  | .mt z m o e, ρ, μ, Q, X => wp G o ρ μ (fun x μ1 => strIs x ∧ wp G e ρ μ1 (fun d μ2 => mtD z m x [d] μ2 Q) X) X
  | .fz a, ρ, μ, Q, X => wp G a ρ μ (fun x μ1 => fzD x μ1 Q) X
  | .sset z a, ρ, μ, Q, X => wp G a ρ μ (fun x μ1 => ssetD z x μ1 Q) X
  | .nset a, ρ, μ, Q, X => wp G a ρ μ (fun x μ1 => nsetD x μ1 Q) X
  | .pt a, ρ, μ, Q, X => wp G a ρ μ (fun x μ1 => shutD x μ1 fun μ2 => Q x μ2) X
  | .lax is a, ρ, μ, Q, X => wp G a ρ μ Q (fun c ds μ' => X c ds (dropM ρ is μ'))
  | .drop is a, ρ, μ, Q, X => wp G a ρ μ (fun x μ1 => Q x (dropM ρ is μ1)) X
  | .emp, _, μ, Q, _ => Q .emp μ
  | .sq m o e, ρ, μ, Q, X => wp G o ρ μ (fun x μ1 => strIs x ∧ wp G e ρ μ1 (fun d μ2 => sqD m x d μ2 Q) X) X
  | .popE o, ρ, μ, Q, X => wp G o ρ μ (fun x μ1 => chg x μ1 fun a l => optD l.getLast? fun d => Q d (mset μ1 a (.lst l.dropLast))) X
  | .popI o i, ρ, μ, Q, X => wp G o ρ μ (fun x μ1 => (∃ l, seqL μ1 x = some l) ∧ wp G i ρ μ1 (fun k μ2 => intK k fun k => chg x μ2 fun a l => (-9223372036854775808 ≤ k ∧ k < 9223372036854775808) ∧ optD (seqIndex? k l.length) fun j => optD l[j]? fun d => Q d (mset μ2 a (.lst (l.eraseIdx j)))) X) X
  | .cnt o e, ρ, μ, Q, X => wp G o ρ μ (fun x μ1 => (∃ l, seqL μ1 x = some l) ∧ wp G e ρ μ1 (fun d μ2 => cntD x d μ2 Q) X) X
  | .spm z o a b, ρ, μ, Q, X => wp G o ρ μ (fun x μ1 => strIs x ∧ wp G a ρ μ1 (fun d μ2 => wp G b ρ μ2 (fun k μ3 => spmD z x d k μ3 Q) X) X) X
  | .rpr a, ρ, μ, Q, X => G.grd = true ∧ wp G a ρ μ (fun x μ1 => rprD x μ1 Q) X
  | .rst a, ρ, μ, Q, X => wp G a ρ μ (fun x μ1 => Q x (restr μ1 μ)) (fun c ds μ' => X c ds (restr μ' μ))
  | .fzo a, ρ, μ, Q, X => wp G a ρ μ (fun x μ1 => fzoD x μ1 Q) X
  | .tpd es, ρ, μ, Q, X => wps G es ρ μ (fun ds μ1 => ds.length ≤ 16777216 ∧ Q (.tpl ds) μ1) X
  | .pl a b, ρ, μ, Q, X => wp G a ρ μ (fun x μ1 => wp G b ρ μ1 (fun y μ2 => plD x y μ2 Q) X) X
  | .mko c es, ρ, μ, Q, X => optD (G.ex.ini c) fun f => wps G es ρ μ (fun ds μ1 => ∀ p, μ1 p = none → G.fn f (.ref p :: ds) (mset μ1 p (.obj c [])) (fun v μ2 => v = .non ∧ Q (.ref p) μ2) X) X
  | .meth c m o es, ρ, μ, Q, X => optD (G.ex.met c m) fun f => wp G o ρ μ (fun x μ1 => insRef c m x μ1 ∧ wps G es ρ μ1 (fun ds μ2 => G.fn f (x :: ds) μ2 Q X) X) X
  | .dnw t, _, μ, Q, _ => ∀ p, μ p = none → Q (.ref p) (mset μ p (.dct t []))
  | .kx o k, ρ, μ, Q, X => wp G o ρ μ (fun x μ1 => wp G k ρ μ1 (fun y μ2 => kxD x y μ2 fun v => optD v fun d => Q d μ2) X) X
  | .kget o k d, ρ, μ, Q, X => wp G o ρ μ (fun x μ1 => isDct x μ1 ∧ wp G k ρ μ1 (fun y μ2 => wp G d ρ μ2 (fun w μ3 => kxD x y μ3 fun v => Q (v.getD w) μ3) X) X) X
  | .tix o e, ρ, μ, Q, X => wp G o ρ μ (fun x μ1 => isTp x ∧ wp G e ρ μ1 (fun d μ2 => tixD x d μ2 Q) X) X
  | .tzn a, ρ, μ, Q, X => wp G a ρ μ (fun x μ1 => tznD x μ1 Q) X
  | .skey z b a i, ρ, μ, Q, X => wp G a ρ μ (fun x μ1 => getV ρ i fun c => skD G.tb z b x c μ1 Q) X
  | .lrg z a b, ρ, μ, Q, X => wp G a ρ μ (fun x μ1 => wp G b ρ μ1 (fun y μ2 => lrgD z x y μ2 Q) X) X
  | .kls z o, ρ, μ, Q, X => wp G o ρ μ (fun x μ1 => klsD z x μ1 Q) X
  | .mkx1 c a, ρ, μ, Q, X => G.ex.exv c = some none ∧ wp G a ρ μ (fun _ μ1 => Q (.exc c [] []) μ1) X
  | .mkx c es, ρ, μ, Q, X => optD (G.ex.exv c) fun x => optD x fun y => wps G es ρ μ (fun ds μ1 => mkxD c (some y) ds μ1 Q) X
  | .isx a t, ρ, μ, Q, X => wp G a ρ μ (fun x μ1 => isxD G.ex x t fun b => Q (.bl b) μ1) X
  | .atx a f, ρ, μ, Q, X => wp G a ρ μ (fun x μ1 => atxD G.ex x μ1 f fun d => Q d μ1) X
  | .shut i a, ρ, μ, Q, X => wp G a ρ μ (fun x μ1 => getV ρ i fun y => shutD y μ1 fun μ2 => Q x μ2) X
def wps (G : Gc) : Es → Rho → Mem → (List D → Mem → Prop) → EK → Prop
  | .nil, _, μ, Q, _ => Q [] μ
  | .cons e es, ρ, μ, Q, X => wp G e ρ μ (fun d μ1 => wps G es ρ μ1 (fun ds μ2 => Q (d :: ds) μ2) X) X
  | .rep2 a l o y z, ρ, μ, Q, X => wp G a ρ μ (fun x μ1 => addOk x l ∧ wp G o ρ μ1 (fun v μ2 => rep2D x l v y z fun ds => Q ds μ2) X) X
def wpO (G : Gc) : Eo → Rho → Mem → (Option Int → Mem → Prop) → EK → Prop
  | .no, _, μ, Q, _ => Q none μ
  | .one e, ρ, μ, Q, X => wp G e ρ μ (fun d μ1 => parD d fun i => Q i μ1) X
def wpT (G : Gc) : Te → Rho → Mem → (Bool → Mem → Prop) → EK → Prop
  | .val e, ρ, μ, Q, X => wp G e ρ μ (fun x μ1 => truD x μ1 fun c => Q c μ1) X
  | .cm o a b, ρ, μ, Q, X => wp G a ρ μ (fun x μ1 => wp G b ρ μ1 (fun y μ2 => cmpD o x y μ2 fun c => Q c μ2) X) X
  | .and a b, ρ, μ, Q, X => wpT G a ρ μ (fun c μ1 => if c = true then wpT G b ρ μ1 Q X else Q false μ1) X
  | .or a b, ρ, μ, Q, X => wpT G a ρ μ (fun c μ1 => if c = true then Q true μ1 else wpT G b ρ μ1 Q X) X
  | .not a, ρ, μ, Q, X => wpT G a ρ μ (fun c μ1 => Q (!c) μ1) X
def wpTs (G : Gc) : Tes → Rho → Mem → (Bool → Mem → Prop) → EK → Prop
  | .nil, _, μ, Q, _ => Q true μ
  | .one t, ρ, μ, Q, X => wpT G t ρ μ Q X
def wpI (G : Gc) : It → Rho → Mem → (List D → (Mem → Prop) → Mem → Prop) → EK → Prop
  | .seq e, ρ, μ, R, X => wp G e ρ μ (fun x μ1 => seqIt x μ1 R) X
  | .range1 a, ρ, μ, R, X => wp G a ρ μ (fun x μ1 => rng1 x μ1 R) X
  | .range2 a b, ρ, μ, R, X => wp G a ρ μ (fun x μ1 => wp G b ρ μ1 (fun y μ2 => rng2 x y μ2 R) X) X
  | .enum a, ρ, μ, R, X => wp G a ρ μ (fun x μ1 => enumIt x μ1 R) X
  | .zip a b, ρ, μ, R, X => wp G a ρ μ (fun x μ1 => wp G b ρ μ1 (fun y μ2 => zipIt x y μ2 R) X) X
  | .rev a, ρ, μ, R, X => wp G a ρ μ (fun x μ1 => revIt x μ1 R) X
end
def setD (o i e : D) (μ : Mem) (Q : Mem → Prop) : Prop := chg o μ fun a l => match i with
  | .int k => optD (ixN l.length k) fun j => Q (mset μ a (.lst (l.set j e)))
  | _ => False
/-- what is caught -/
structure Cau where
  sub : Str → Option Bool
  fld : Str → Bool
  fs : List (Str × D)
mutual
def hX (c : Cau) : HX → Option D
  | .non => some .non
  | .bl b => some (.bl b)
  | .str s => some (.str s)
  | .at f => if c.fld f = true then c.fs.lookup f else none
  | .tup es => (hXs c es).map .tup
  | .ite t a b => match hT c t with
    | some true => hX c a
    | some false => hX c b
    | none => none
def hXs (c : Cau) : HXs → Option (List D)
  | .nil => some []
  | .cons e es => match hX c e with
    | some d => (hXs c es).map (d :: ·)
    | none => none
def hT (c : Cau) : HT → Option Bool
  | .isi x => c.sub x
  | .not a => (hT c a).map (!·)
  | .and a b => match hT c a with
    | some true => hT c b
    | o => o
  | .or a b => match hT c a with
    | some false => hT c b
    | o => o
end
mutual
def wpH (c : Cau) : HS → Rho → Mem → DEnds → Prop
  | .ret e, _, μ, K => optD (hX c e) fun d => K.rt d μ
  | .retN, _, μ, K => K.rt .non μ
  | .set i e, ρ, μ, K => optD (hX c e) fun d => K.nx (ρ.set i (some d)) μ
  | .ite t a b, ρ, μ, K => optD (hT c t) fun v => if v = true then wpHs c a ρ μ K else wpHs c b ρ μ K
def wpHs (c : Cau) : HSs → Rho → Mem → DEnds → Prop
  | .nil, ρ, μ, K => K.nx ρ μ
  | .cons s ss, ρ, μ, K => wpH c s ρ μ { K with nx := fun ρ' μ' => wpHs c ss ρ' μ' K }
end
def blankR (ρ : Rho) : Rho := List.replicate ρ.length none
mutual
def wpS (G : Gc) : S → Rho → Mem → DEnds → EK → Prop
  | .set i e, ρ, μ, K, X => wp G e ρ μ (fun d μ1 => K.nx (ρ.set i (some d)) μ1) X
  | .asg t e, ρ, μ, K, X => wp G e ρ μ (fun d μ1 => wpTg t d ρ μ1 K.nx) X
  | .par3 i j l a b c, ρ, μ, K, X => wp G a ρ μ (fun x μ1 => wp G b ρ μ1 (fun y μ2 => wp G c ρ μ2 (fun z μ3 => K.nx (((ρ.set i (some x)).set j (some y)).set l (some z)) μ3) X) X) X
  | .par i j a b, ρ, μ, K, X => wp G a ρ μ (fun x μ1 => wp G b ρ μ1 (fun y μ2 => K.nx ((ρ.set i (some x)).set j (some y)) μ2) X) X
  | .setIx o i e, ρ, μ, K, X => wp G e ρ μ (fun d μ1 => wp G o ρ μ1 (fun x μ2 => wp G i ρ μ2 (fun k μ3 => setD x k d μ3 fun μ4 => K.nx ρ μ4) X) X) X
  | .setIx2 o i j e, ρ, μ, K, X => wp G e ρ μ (fun d μ1 => match d with
    | .tup [d1, d2] => wp G o ρ μ1 (fun x μ2 => wp G i ρ μ2 (fun k μ3 => setD x k d1 μ3 fun μ4 => K.nx (ρ.set j (some d2)) μ4) X) X
    | _ => False) X
  | .aug i o e, ρ, μ, K, X => getV ρ i fun x => intK x fun a => wp G e ρ μ (fun y μ1 => intK y fun b => K.nx (ρ.set i (some (.int (a + b)))) μ1) X
  | .expr e, ρ, μ, K, X => wp G e ρ μ (fun _ μ1 => K.nx ρ μ1) X
  | .app o e, ρ, μ, K, X => wp G o ρ μ (fun x μ1 => (∃ l, seqL μ1 x = some l) ∧ wp G e ρ μ1 (fun d μ2 => chg x μ2 fun a l => l.length < 16777216 ∧ K.nx ρ (mset μ2 a (.lst (l ++ [d])))) X) X
  | .pop o, ρ, μ, K, X => wp G o ρ μ (fun x μ1 => chg x μ1 fun a l => l ≠ [] ∧ K.nx ρ (mset μ1 a (.lst l.dropLast))) X
  | .ins o i e, ρ, μ, K, X => wp G o ρ μ (fun x μ1 => (∃ l, seqL μ1 x = some l) ∧ wp G i ρ μ1 (fun k μ2 => intK k fun k => wp G e ρ μ2 (fun d μ3 => chg x μ3 fun a l => l.length < 16777216 ∧ (0 ≤ k ∧ k < 9223372036854775808) ∧ K.nx ρ (mset μ3 a (.lst (l.take k.toNat ++ [d] ++ l.drop k.toNat)))) X) X) X
  | .ext o e, ρ, μ, K, X => wp G o ρ μ (fun x μ1 => (∃ l, seqL μ1 x = some l) ∧ wp G e ρ μ1 (fun d μ2 => chg x μ2 fun a l => optD (seqP μ2 d) fun r => l.length + r.length ≤ 16777216 ∧ K.nx ρ (mset μ2 a (.lst (l ++ r)))) X) X
  | .clear o, ρ, μ, K, X => wp G o ρ μ (fun x μ1 => chg x μ1 fun a _ => K.nx ρ (mset μ1 a (.lst []))) X
  | .ret e, ρ, μ, K, X => wp G e ρ μ K.rt X
  | .retN, _, μ, K, _ => K.rt .non μ
  | .ite t a b, ρ, μ, K, X => wpT G t ρ μ (fun c μ1 => if c = true then wpSs G a ρ μ1 K X else wpSs G b ρ μ1 K X) X
  | .for_ ws t it b, ρ, μ, K, X => wpI G it ρ μ (fun items ok μ1 => LP items (wipeR ρ ws) μ1 ok (fun x ρ' μ' K' => wpTg t x ρ' μ' fun ρ2 μ2 => wpSs G b ρ2 μ2 (wipeK ws K') X) K) X
  | .while_ ws t b, ρ, μ, K, X => LW (wipeR ρ ws) μ (fun ρ' μ' q => wpT G t ρ' μ' q X) (fun ρ' μ' K' => wpSs G b ρ' μ' (wipeK ws K') X) K
  | .pass, ρ, μ, K, _ => K.nx ρ μ
  | .brk, ρ, μ, K, _ => K.bk ρ μ
  | .cont, ρ, μ, K, _ => K.ct ρ μ
  | .never, _, _, _, _ => False
  | .drp is, ρ, μ, K, X => K.nx ρ (dropM ρ is μ)
  | .opn i, ρ, μ, K, X => getV ρ i fun y => openD y μ fun μ2 => K.nx ρ μ2
  | .setA o f e, ρ, μ, K, X => wp G e ρ μ (fun d μ1 => wp G o ρ μ1 (fun x μ2 => setAD G.ex x f d μ2 fun μ3 => K.nx ρ μ3) X) X
  | .setK o i e, ρ, μ, K, X => wp G e ρ μ (fun d μ1 => wp G o ρ μ1 (fun x μ2 => wp G i ρ μ2 (fun k μ3 => setKD x k d μ3 fun μ4 => K.nx ρ μ4) X) X) X
  | .raise c _, _, μ, _, X => G.ex.exs c = true ∧ X c [] μ
  | .raiseI c es, ρ, μ, _, X => optD (G.ex.exv c) fun x => optD x fun y => wps G es ρ μ (fun ds μ1 => rzD y ds fun fs => X c fs μ1) X
  | .tryAs b c _ h, ρ, μ, K, X => (G.ex.sub c c).isSome = true ∧ wpSs G b ρ μ K fun c' fs μ' => optD (G.ex.sub c' c) fun v => if v = true then wpHs ⟨G.ex.sub c', G.ex.fld c', fs⟩ h (blankR ρ) μ' K else X c' fs μ'
  | .try_ b c h, ρ, μ, K, X => (G.ex.sub c c).isSome = true ∧ wpSs G b ρ μ K fun c' fs μ' => optD (G.ex.sub c' c) fun v => if v = true then wpHs ⟨G.ex.sub c', G.ex.fld c', fs⟩ h (blankR ρ) μ' K else X c' fs μ'
def wpSs (G : Gc) : Ss → Rho → Mem → DEnds → EK → Prop
  | .nil, ρ, μ, K, _ => K.nx ρ μ
  | .cons s .nil, ρ, μ, K, X => wpS G s ρ μ K X
  | .cons s ss, ρ, μ, K, X => wpS G s ρ μ { K with nx := fun ρ' μ' => wpSs G ss ρ' μ' K X } X
end
end DL
/-! How programs lie over the syntax, and that what they want is enough. -/
namespace DL
open PySem PySem.Spec PyProof.Rows L2

/-! ### looks at the syntax -/
def visB (sc : Scope) (x : Str) : Bool := match sc.names.lookup x with
  | some .local => true
  | some .cell => true
  | some .free => true
  | _ => false
def locB (sc : Scope) (x : Str) : Bool := match sc.names.lookup x with
  | some .local => true
  | some .cell => true
  | _ => false
def gloB (sc : Scope) (x : Str) : Bool := match sc.names.lookup x with
  | some .globalImplicit => true
  | _ => false
def nmB (x : Str) : Bool := !(x == ("__debug__" : Str)) && !(x == ("__classdict__" : Str)) && !(x == ("__name__" : Str))
def noStar : Expr → Bool
  | .Starred _ _ => false
  | _ => true
def noSuper : Expr → Bool
  | .Call (.Name id _) [] [] _ => id != "super"
  | _ => true
def isLC : Expr → Bool
  | .ListComp _ _ _ _ => true
  | .SetComp _ _ _ _ => true
  | .DictComp _ _ _ _ _ => true
  | _ => false
def isSlice : Expr → Bool
  | .Slice _ _ _ _ => true
  | _ => false
def isTupE : Expr → Bool
  | .Tuple _ _ _ => true
  | _ => false
def isSetE : Expr → Bool
  | .Set _ _ _ => true
  | _ => false
theorem star_cons {e : Expr} {es : List Expr} {env : Env} (h : noStar e = true) : starEach (e :: es) env = (false, eval e env) :: starEach es env := by
  cases e <;> first | rfl | exact nomatch h
theorem star_any {env : Env} {pos : Pos} : ∀ {es : List Expr}, es.all noStar = true → (backTo pos (starEach es env)).any (·.1) = false
  | [], _ => rfl
  | e :: es, h => by
    rw [List.all_cons, Bool.and_eq_true] at h
    rw [star_cons h.1]
    have ih := star_any (env := env) (pos := pos) h.2
    unfold backTo at ih ⊢
    rw [List.map_cons, List.any_cons]
    rw [ih]
    rfl
theorem base_of {o : Expr} {attr : Str} {env : Env} {w : Sem Value} (h : noSuper o = true) : attributeBase o attr env w = w := by
  unfold attributeBase
  cases o with
  | Call f a k p =>
    cases f with
    | Name id q =>
      cases a with
      | nil =>
        cases k with
        | nil =>
          have e : (id != ("super" : Str)) = true := h
          simp only [e, Bool.true_or, if_true]
        | cons _ _ => rfl
      | cons _ _ => rfl
    | _ => rfl
  | _ => rfl
theorem swap_no {v : Expr} {t : Option Expr} {l : Nat} {env : Env} (h : isLC v = false) : swapsWith v t l env = pure false := by
  cases v <;> first | rfl | exact nomatch h
theorem folded_no {v : Expr} {env : Env} (h : isSetE v = false) : ∀ x, foldedSetIterable v env x = pure x := by
  cases v <;> first | (intro _; rfl) | exact nomatch h
theorem plain_ix {b : Expr} (h : isSlice b = false) : PlainIx b := by
  intro o i
  cases b <;> first | rfl | exact nomatch h
theorem mark_no {b : Expr} {op : CmpOp} (h : isSetE b = false) : behindInMarks op b = false := by
  cases b <;> first | rfl | exact nomatch h

/-! ### what is known of a body's context -/
def bltNames : List Str := ["len", "int", "bool", "str", "tuple", "list", "abs", "max", "min", "divmod", "sum", "any", "all", "range", "isinstance", "enumerate", "zip", "reversed", "sorted", "set", "dict", "repr"]
def spOf (K : PySem.W.Frag) (mg : Str → Option Value) (S : FSpec) : Sp := fun vs H Q E => ∃ F μ ds Qd EXd, MS K H F μ ∧ RDs K H F vs ds ∧ S ds μ Qd EXd ∧ (∀ v H', Post K H F μ Qd v H' → Q v H') ∧ ∀ cls d H', Wish K mg H F μ EXd cls d H' → E cls d H'
def FnR (P : Program) (w : World) (K : PySem.W.Frag) (mg : Str → Option Value) (base : Heap) (A : Around) (f : Str) (S : FSpec) : Prop :=
  ∃ k fa fd ps, FnOk P w K mg base (L2.CX P w) k fa fd ps (spOf K mg S) ∧ Room k A ∧ mg f = some (.ref fa) ∧ PySem.W.keepIn K (.ref fa) = true ∧ Binds K fd ps []
abbrev veBM : List Value := [.type "ValueError", .type "Exception", .type "BaseException", .type "object"]
/-- what the written part says of the classes of exceptions -/
structure ExOk (ex : ExI) (K : PySem.W.Frag) (mg : Str → Option Value) : Prop where
  exs : ∀ c, ex.exs c = true → ∃ C, mg c = some (.ref C) ∧ PySem.W.excIn K C veBM "ValueError.__new__" = true ∧ PySem.W.keepIn K (.ref C) = true ∧ PySem.W.subIn K (.ref C) (.type "BaseException") = some true ∧ PySem.W.typeIn K (.ref C) = some (.type "type")
  sub : ∀ c x b, ex.sub c x = some b → ∃ C cv v, mg c = some (.ref C) ∧ (mg x = some cv ∨ (mg x = none ∧ bootBuiltins x = some cv ∧ x ≠ "__name__")) ∧ PySem.W.exmOne K (.ref C) cv = some b ∧ PySem.W.kitOne K (.ref C) cv = some b ∧ RelV v cv ∧ (∀ u, RelV v u → u = cv) ∧ ExcC K C
  fld : ∀ c f, ex.fld c f = true → ∃ C, mg c = some (.ref C) ∧ XfC K C ∧ PySem.W.findIn K (.ref C) f = some none
  fo : ∀ c f, ex.fo c f = true → ∃ C, PySem.W.nsIn K mainGlobals c = some (some (.ref C)) ∧ Cls K C ∧ NoAttr K C f
  exv : ∀ c x, ex.exv c = some x → ∃ C, PySem.W.nsIn K mainGlobals c = some (some (.ref C)) ∧ mg c = some (.ref C) ∧ PySem.W.keepIn K (.ref C) = true ∧ match x with
    | none => PySem.W.excIn K C veBM "ValueError.__new__" = true
    | some (f1, f2, g) => OexC K C ∧ ∃ fI fd ps a, PySem.W.findIn K (.ref C) "__init__" = some (some (.ref fI)) ∧ PySem.W.typeIn K (.ref fI) = some (.type "function") ∧ Binds K fd ps [] ∧ (match g with | none => (∃ t, a = IArg.lit t) | some n => ∃ t, t.length = n ∧ a = IArg.cat t) ∧
      ∀ (P : Program) (w : World) (base : Heap), FnOk P w K mg base (L2.CX P w) 1 fI fd ps (spI K C f1 f2 a)
theorem ExOk.no {K : PySem.W.Frag} {mg : Str → Option Value} : ExOk .none K mg := ⟨fun _ h => (nomatch h), fun _ _ _ h => (nomatch h), fun _ _ h => (nomatch h), fun _ _ h => (nomatch h), fun _ _ h => (nomatch h)⟩
structure SX (G : Gc) (X : Cx) (N : List Str) (sc : Scope) : Prop where
  hN : X.N = N
  nd : N.Nodup
  esc : X.env.scope = sc
  kind : sc.kind = .function
  calm : X.calm = true
  un : X.A.units + 65 < cLine
  gd : G.grd = true → X.A.guards = some []
  tb : ∀ P q, G.tb = some (P, q) → ∃ c, X.env.code = .ref c ∧ LamX.TabB X.base X.mg c P ∧ q = X.env.qual ++ "<lambda>"
  rm2 : L2.Room 2 X.A
  ini : ∀ c f, G.ex.ini c = some f → ∃ C k fa fd ps, PySem.W.nsIn X.K mainGlobals c = some (some (.ref C)) ∧ X.mg c = some (.ref C) ∧ Mk X.K C fa ∧ FnOk X.prog X.w X.K X.mg X.base (L2.CX X.prog X.w) k fa fd ps (spOf X.K X.mg (G.fn f)) ∧ L2.Room (k + 1) X.A ∧ Binds X.K fd ps []
  met : ∀ c m f, G.ex.met c m = some f → ∃ C k fa fd ps, PySem.W.nsIn X.K mainGlobals c = some (some (.ref C)) ∧ Cls X.K C ∧ Meth X.K C m fa ∧ FnOk X.prog X.w X.K X.mg X.base (L2.CX X.prog X.w) k fa fd ps (spOf X.K X.mg (G.fn f)) ∧ L2.Room k X.A ∧ Binds X.K fd ps []
  own : X.stack = X.env :: X.outer → PassesOwn (model X.prog X.w) X.A X.env X.xe
  fr : ∃ e0 o0 L, X.stack = e0 :: o0 ∧ e0.frame = some L ∧ X.env.frame = some L
  blt : ∀ x, x ∈ bltNames → X.mg x = none
  ex : ExOk G.ex X.K X.mg
  cst : ∀ x d, G.cst x = some d → ∃ v u, X.mg x = some u ∧ RelV v u ∧ ∀ H F, RD X.K H F v d
  fn : ∀ f, G.has f = true → FnR X.prog X.w X.K X.mg X.base X.A f (G.fn f)
section
variable {G : Gc} {X : Cx} {N : List Str} {sc : Scope} {ρ : Rho} {μ : Mem}
theorem SX.vis (h : SX G X N sc) {x : Str} (v : visB sc x = true) : Vis X.env.scope x := by
  rw [h.esc]
  unfold visB at v
  split at v
  · rename_i e; exact .inl e
  · rename_i e; exact .inr (.inl e)
  · rename_i e; exact .inr (.inr e)
  · cases v
theorem SX.loc (h : SX G X N sc) {x : Str} (v : locB sc x = true) : Loc X.env.scope x := by
  rw [h.esc]
  unfold locB at v
  split at v
  · rename_i e; exact .inl e
  · rename_i e; exact .inr e
  · cases v
theorem SX.glo (h : SX G X N sc) {x : Str} (v : gloB sc x = true) : Gl X x := by
  show X.env.scope.names.lookup x = some .globalImplicit
  rw [h.esc]
  unfold gloB at v
  split at v
  · rename_i e; exact e
  · cases v
theorem nm3 {x : Str} (h : nmB x = true) : (x == ("__debug__" : Str)) = false ∧ (x == ("__classdict__" : Str)) = false ∧ x ≠ "__name__" := by
  unfold nmB at h
  simp only [Bool.and_eq_true, Bool.not_eq_true', beq_eq_false_iff_ne] at h
  exact ⟨by simpa using h.1.1, by simpa using h.1.2, h.2⟩
theorem DE.v (h : SX G X N sc) {i : Nat} {x : Str} {pos : Pos} {Q : DK} (hi : N[i]? = some x) (hv : visB sc x = true) (hn : nmB x = true) {d : D} (hd : ρ[i]? = some (some d)) (q : Q d μ) : DE X EX (.Name x pos) ρ μ Q := fun σ H F e m => by
  obtain ⟨n1, n2, _⟩ := nm3 hn
  obtain ⟨v, h1, h2⟩ := e.at_ i d hd
  exact we_of (pe_var (by rw [h.hN]; exact hi) (h.vis hv) n1 n2) ⟨v, h1, .now m h2 q⟩
theorem DE.g (h : SX G X N sc) {x : Str} {pos : Pos} {Q : DK} (hg : gloB sc x = true) (hn : nmB x = true) {d : D} (hd : G.cst x = some d) (q : Q d μ) : DE X EX (.Name x pos) ρ μ Q := fun σ H F e m => by
  obtain ⟨v, u, h1, h2, h3⟩ := h.cst x d hd
  exact we_of (pe_glob (h.glo hg) h1 h2 (nm3 hn).1) (.now m (h3 H F) q)
theorem DE.c {ex : Expr} {v : V} {d : D} {Q : DK} (hp : PE X ex (tC v)) (hr : ∀ H F, RD X.K H F v d) (q : Q d μ) : DE X EX ex ρ μ Q := fun σ H F e m => we_of hp (.now m (hr H F) q)
theorem getV_ok : ∀ {ρ : Rho} {i : Nat} {k : D → Prop}, getV ρ i k → ∃ d, ρ[i]? = some (some d) ∧ k d
  | some d :: _, 0, k, h => ⟨d, rfl, h⟩
  | none :: _, 0, k, h => h.elim
  | o :: r, i + 1, k, h => by
    obtain ⟨d, h1, h2⟩ := getV_ok (ρ := r) (i := i) (k := k) h
    exact ⟨d, by rw [List.getElem?_cons_succ]; exact h1, h2⟩
/-- two operands, then an operator's reading -/
theorem DE.op2 {ex a b : Expr} {r : R2} {Q : DK} {R : D → D → Mem → Prop} (hp : ∀ ta tb, PE X a ta → PE X b tb → PE X ex (tOp r ta tb)) (h : DE X EX a ρ μ fun x μ1 => DE X EX b ρ μ1 fun y μ2 => R x y μ2)
    (hop : ∀ H F μ' v u x y (Qv : VK), MS X.K H F μ' → RD X.K H F v x → RD X.K H F u y → R x y μ' → (∀ v H', Post X.K H F μ' Q v H' → Qv v H') → r v u H Qv) : DE X EX ex ρ μ Q := fun σ H F e m => by
  refine we_of (hp _ _ pe_we pe_we) ?_
  refine (h σ H F e m).mono fun v H1 ⟨x, F1, μ1, g1, m1, r1, q1⟩ => ?_
  refine (q1 σ H1 F1 (e.on g1 m) m1).mono fun u H2 ⟨y, F2, μ2, g2, m2, r2, q2⟩ => ?_
  exact hop H2 F2 μ2 v u x y _ m2 (r1.stay (g2.stay m1)) r2 q2 fun v' H' p => p.pre (g1.trans g2)
theorem line_eq : (sizeLine : Nat) = 16777216 := sizeLine_eq
theorem seqL_ref {a : Addr} {l : List D} (h : seqL μ (.ref a) = some l) : μ a = some (.lst l) := by
  have h : (match μ a with | some (.lst l) => some l | _ => none) = some l := h
  cases e : μ a with
  | none => rw [e] at h; cases h
  | some o =>
    rw [e] at h
    cases o with
    | lst l' => cases h; rfl
    | _ => cases h
/-- a list by data is a list -/
theorem seqL_rd {K H F} {v : V} {x : D} {l : List D} (m : MS K H F μ) (r : RD K H F v x) (h : seqL μ x = some l) : ∃ a vs, v = .ref a ∧ SqL K H a vs ∧ RDs K H F vs l := by
  cases r with
  | lst f hd rs => cases h; exact ⟨_, _, rfl, .inl (.inl hd), rs⟩
  | lk hk rs =>
    cases h
    rcases hk with ⟨o, hk⟩ | hk
    · exact ⟨_, _, rfl, .inl (.inr ⟨o, hk⟩), rs⟩
    · exact ⟨_, _, rfl, .inr hk, rs⟩
  | ref a =>
    obtain ⟨_, u, hu, vs, e, rs⟩ := m.at_ a _ (seqL_ref h)
    subst e
    exact ⟨a, vs, rfl, .inl (.inl hu), rs⟩
  | _ => cases h
theorem seqP_rd {K H F} {v : V} {x : D} {l : List D} (m : MS K H F μ) (r : RD K H F v x) (h : seqP μ x = some l) : ∃ a vs, v = .ref a ∧ H a = some (.lst vs) ∧ RDs K H F vs l := by
  cases r with
  | lst f hd rs => cases h; exact ⟨_, _, rfl, hd, rs⟩
  | ref a =>
    obtain ⟨_, u, hu, vs, e, rs⟩ := m.at_ a _ (seqL_ref h)
    subst e
    exact ⟨a, vs, rfl, hu, rs⟩
  | _ => cases h
theorem seqA_rd {K H F} {v : V} {x : D} {l : List D} (m : MS K H F μ) (r : RD K H F v x) (h : seqA μ x = some l) : ∃ a vs, v = .ref a ∧ ((SqL K H a vs ∧ seqL μ x = some l) ∨ (SqT K H a vs ∧ (x = .tup l ∨ x = .tpl l ∨ x = .tpz l))) ∧ RDs K H F vs l := by
  have g : seqL μ x = some l → ∃ a vs, v = .ref a ∧ ((SqL K H a vs ∧ seqL μ x = some l) ∨ (SqT K H a vs ∧ (x = .tup l ∨ x = .tpl l ∨ x = .tpz l))) ∧ RDs K H F vs l := fun h => by
    obtain ⟨a, vs, h1, h2, h3⟩ := seqL_rd m r h
    exact ⟨a, vs, h1, .inl ⟨h2, h⟩, h3⟩
  cases r with
  | tup ht rs => cases h; exact ⟨_, _, rfl, .inr ⟨ht, .inl rfl⟩, rs⟩
  | tpl f ht rs => cases h; exact ⟨_, _, rfl, .inr ⟨.inl (.inl ht), .inr (.inl rfl)⟩, rs⟩
  | tpz f ht _ _ rs => cases h; exact ⟨_, _, rfl, .inr ⟨.inl (.inr ⟨_, ht⟩), .inr (.inr rfl)⟩, rs⟩
  | _ => exact g h
/-- a new list's end -/
theorem newL_ok {K H F} {z : Bool} {vs : List V} {ds : List D} {Q : DK} {Qv : VK} (m : MS K H F μ) (r : RDs K H F vs ds) (q : newL z ds μ Q) (k : ∀ v H', Post K H F μ Q v H' → Qv v H') : ∀ p, H p = none → Qv (.ref p) (upd H p (.lst vs)) := fun p hp => by
  cases z with
  | true =>
    obtain ⟨F', g, m', r'⟩ := new_lst m hp r
    exact k _ _ ⟨_, F', μ, g, m', r', q⟩
  | false =>
    obtain ⟨g, m', np⟩ := new_ref m hp r
    exact k _ _ ⟨_, F, _, g, m', .ref p, q p np⟩
theorem newT_ok {K H F} {vs : List V} {ds : List D} {Q : DK} {Qv : VK} (m : MS K H F μ) (r : RDs K H F vs ds) (q : Q (.tup ds) μ) (k : ∀ v H', Post K H F μ Q v H' → Qv v H') : ∀ p, H p = none → Qv (.ref p) (upd H p (.tup vs)) := fun p hp => by
  obtain ⟨g, m', r'⟩ := new_tup m hp r
  exact k _ _ ⟨_, F, μ, g, m', r', q⟩

/-! ### operators -/
def rAddA (K : PySem.W.Frag) : R2 := fun x y H Q => rI0 (fun i j => .int (i + j)) x y H Q ∨ (∃ i k, x = .int i ∧ y = .bl k ∧ Q (.int (i + b2i k)) H) ∨
  (∃ i j, x = .str i ∧ y = .str j ∧ i.length + j.length ≤ sizeLine ∧ Q (.str (i ++ j)) H) ∨ rCatA K x y H Q ∨ rCat x y H Q
theorem op_addA : OpR X (binaryOp .Add) (rAddA X.K) := op_add.or (op_add_ib.or (op_add_str.or (op_catA.or op_cat)))
theorem nil_of {K H F} {vs : List V} {ds : List D} (r : RDs K H F vs ds) : vs = [] ↔ ds = [] := by
  cases r with
  | nil => exact ⟨fun _ => rfl, fun _ => rfl⟩
  | cons _ _ => exact ⟨fun h => (nomatch h), fun h => (nomatch h)⟩
theorem add_ok {K H F} {z : Bool} {v u : V} {x y : D} {Q : DK} {Qv : VK} (m : MS K H F μ) (r1 : RD K H F v x) (r2 : RD K H F u y) (q : addD z x y μ Q) (k : ∀ v H', Post K H F μ Q v H' → Qv v H') : rAddA K v u H Qv := by
  have cat : ∀ a b, seqP μ x = some a → seqP μ y = some b → (a.length + b.length ≤ 16777216 ∧ newL z (a ++ b) μ Q) → rAddA K v u H Qv := fun a b ha hb ⟨hl, q⟩ => by
    obtain ⟨p, vs, e1, h1, s1⟩ := seqP_rd m r1 ha
    obtain ⟨p2, ws, e2, h2, s2⟩ := seqP_rd m r2 hb
    refine .inr (.inr (.inr (.inr ⟨p, p2, vs, ws, e1, e2, h1, h2, ?_, newL_ok m (s1.append s2) q k⟩)))
    rw [s1.length, s2.length, line_eq]; exact hl
  cases x with
  | int i =>
    cases r1
    cases y with
    | int j => cases r2; exact .inl ⟨i, j, rfl, rfl, k _ _ (.now m (.int _) q)⟩
    | bl b => cases r2; exact .inr (.inl ⟨i, b, rfl, rfl, k _ _ (.now m (.int _) q)⟩)
    | _ => exact q.elim
  | str a =>
    cases r1
    cases y with
    | str b => cases r2; exact .inr (.inr (.inl ⟨a, b, rfl, rfl, by rw [line_eq]; exact q.1, k _ _ (.now m (.str _) q.2)⟩))
    | _ => exact q.elim
  | tup a =>
    cases y with
    | tup b =>
      cases r1 with
      | tup t1 s1 =>
      cases r2 with
      | tup t2 s2 =>
      refine .inr (.inr (.inr (.inl ⟨_, _, _, _, rfl, rfl, t1, t2, ?_, fun e => ?_, fun _ e => ?_, fun _ _ => newT_ok m (s1.append s2) q.2 k⟩)))
      · rw [s1.length, s2.length, line_eq]; exact q.1
      · have e := (nil_of s1).mp e
        subst e
        exact k _ _ (.now m (.tup t2 s2) q.2)
      · have e := (nil_of s2).mp e
        subst e
        have q2 := q.2
        rw [List.append_nil] at q2
        exact k _ _ (.now m (.tup t1 s1) q2)
    | _ => exact q.elim
  | tpl a =>
    cases y with
    | tup b =>
      cases r1 with
      | tpl f1 t1 s1 =>
      cases r2 with
      | tup t2 s2 =>
      refine .inr (.inr (.inr (.inl ⟨_, _, _, _, rfl, rfl, .inl (.inl t1), t2, ?_, fun e => ?_, fun _ e => ?_, fun _ _ => newT_ok m (s1.append s2) q.2 k⟩)))
      · rw [s1.length, s2.length, line_eq]; exact q.1
      · have e := (nil_of s1).mp e
        subst e
        exact k _ _ (.now m (.tup t2 s2) q.2)
      · have e := (nil_of s2).mp e
        subst e
        have q2 := q.2
        rw [List.append_nil] at q2
        exact k _ _ (.now m (.tup (.inl (.inl t1)) s1) q2)
    | _ => exact q.elim
  | tpz a =>
    cases y with
    | tup b =>
      cases r1 with
      | tpz f1 t1 _ _ s1 =>
      cases r2 with
      | tup t2 s2 =>
      refine .inr (.inr (.inr (.inl ⟨_, _, _, _, rfl, rfl, .inl (.inr ⟨_, t1⟩), t2, ?_, fun e => ?_, fun _ e => ?_, fun _ _ => newT_ok m (s1.append s2) q.2 k⟩)))
      · rw [s1.length, s2.length, line_eq]; exact q.1
      · have e := (nil_of s1).mp e
        subst e
        exact k _ _ (.now m (.tup t2 s2) q.2)
      · have e := (nil_of s2).mp e
        subst e
        have q2 := q.2
        rw [List.append_nil] at q2
        exact k _ _ (.now m (.tup (.inl (.inr ⟨_, t1⟩)) s1) q2)
    | _ => exact q.elim
  | lst a =>
    obtain ⟨b, e, q⟩ := optD_ok (show optD (seqP μ y) _ from q)
    exact cat a b rfl e q
  | ref p =>
    obtain ⟨a, e, q⟩ := optD_ok (show optD (seqP μ (.ref p)) _ from q)
    obtain ⟨b, e2, q⟩ := optD_ok q
    exact cat a b e e2 q
  | _ => exact q.elim
def rMulA (K : PySem.W.Frag) : R2 := fun x y H Q => rI CMul (fun i j => .int (i * j)) x y H Q ∨ (rRepT K x y H Q ∨ (rRepL K x y H Q ∨ (rMulS x y H Q ∨ rRep01 K x y H Q)))
theorem op_mulA : OpR X (binaryOp .Mult) (rMulA X.K) := op_mul.or (op_repT.or (op_repL.or (op_mulS.or op_rep01)))
theorem RDs.rep {K H F} {vs : List V} {ds : List D} (r : RDs K H F vs ds) : ∀ n, RDs K H F (List.replicate n vs).flatten (List.replicate n ds).flatten
  | 0 => .nil
  | n + 1 => by
    rw [List.replicate_succ, List.replicate_succ, List.flatten_cons, List.flatten_cons]
    exact r.append (RDs.rep r n)
theorem mul_ok {K H F} {v u : V} {x y : D} {Q : DK} {Qv : VK} (m : MS K H F μ) (r1 : RD K H F v x) (r2 : RD K H F u y) (q : mulD x y μ Q) (k : ∀ v H', Post K H F μ Q v H' → Qv v H') : rMulA K v u H Qv := by
  cases x with
  | int i =>
    cases r1
    cases y with
    | int j => cases r2; exact .inl ⟨i, j, rfl, rfl, q.1, k _ _ (.now m (.int _) q.2)⟩
    | _ => exact q.elim
  | tup a =>
    cases y with
    | int j =>
      cases r2
      cases r1 with
      | tup t1 s1 =>
      obtain ⟨h1, h2, h3, h4, q⟩ := q
      by_cases c1 : j = 1
      · subst c1
        refine .inr (.inr (.inr (.inr ⟨_, 1, _, rfl, rfl, t1, fun e => h1 ((nil_of s1).mp e), .inl ⟨rfl, ?_⟩⟩)))
        have e : (List.replicate (1 : Int).toNat a).flatten = a := by show (List.replicate 1 a).flatten = a; simp
        rw [e] at q
        exact k _ _ (.now m (.tup t1 s1) q)
      · by_cases c0 : j = 0
        · subst c0
          exact .inr (.inr (.inr (.inr ⟨_, 0, _, rfl, rfl, t1, fun e => h1 ((nil_of s1).mp e), .inr ⟨rfl, newT_ok m (s1.rep 0) q k⟩⟩)))
        · exact .inr (.inl ⟨_, j, _, rfl, rfl, t1, fun e => h1 ((nil_of s1).mp e), by omega, h3, by rw [s1.length]; exact h4, newT_ok m (s1.rep _) q k⟩)
    | _ => exact q.elim
  | lst a =>
    cases y with
    | int j =>
      cases r2
      obtain ⟨p, vs, ev, t1, s1⟩ := seqL_rd m r1 (l := a) rfl
      obtain ⟨h2, h3, h4, q⟩ := q
      exact .inr (.inr (.inl ⟨p, j, vs, ev, rfl, t1, h2, h3, by rw [s1.length]; exact h4, newL_ok (z := true) m (s1.rep _) q k⟩))
    | _ => exact q.elim
  | str s =>
    cases y with
    | int j =>
      cases r1
      cases r2
      obtain ⟨⟨h1, h2⟩, q⟩ := q
      exact .inr (.inr (.inr (.inl ⟨s, j, rfl, rfl, h1, h2, k _ _ (.now m (.str _) q)⟩)))
    | _ => exact q.elim
  | _ => exact q.elim
theorem int2_ok {K H F} {C : Int → Int → Prop} {g : Int → Int → Int} {v u : V} {x y : D} {Q : DK} {Qv : VK} (m : MS K H F μ) (r1 : RD K H F v x) (r2 : RD K H F u y) (q : int2 C g x y μ Q) (k : ∀ v H', Post K H F μ Q v H' → Qv v H') : rI C (fun i j => .int (g i j)) v u H Qv := by
  cases x with
  | int i =>
    cases r1
    cases y with
    | int j => cases r2; exact ⟨i, j, rfl, rfl, q.1, k _ _ (.now m (.int _) q.2)⟩
    | _ => exact q.elim
  | _ => exact q.elim
def rSub : R2 := rI (fun _ _ => True) fun i j => .int (i - j)
theorem op_subA : OpR X (binaryOp .Sub) rSub := fun pins s σ H x y v u Q I rx ry ⟨i, j, e1, e2, _, q⟩ => op_sub pins s σ H x y v u Q I rx ry ⟨i, j, e1, e2, q⟩
theorem DE.bin {z : Bool} {o : Op2} {a b : Expr} {pos : Pos} {Q : DK} (h : DE X EX a ρ μ fun x μ1 => DE X EX b ρ μ1 fun y μ2 => binD z o x y μ2 Q) : DE X EX (.BinOp a o.op b pos) ρ μ Q := by
  cases o with
  | add => exact DE.op2 (fun ta tb ha hb => pe_op op_addA ha hb) h fun H F μ' v u x y Qv m r1 r2 q k => add_ok m r1 r2 q k
  | sub => exact DE.op2 (fun ta tb ha hb => pe_op op_subA ha hb) h fun H F μ' v u x y Qv m r1 r2 q k => int2_ok m r1 r2 q k
  | mul => exact DE.op2 (fun ta tb ha hb => pe_op op_mulA ha hb) h fun H F μ' v u x y Qv m r1 r2 q k => mul_ok m r1 r2 q k
  | fdiv => exact DE.op2 (fun ta tb ha hb => pe_op op_fdiv ha hb) h fun H F μ' v u x y Qv m r1 r2 q k => int2_ok m r1 r2 q k
  | mod => exact DE.op2 (fun ta tb ha hb => pe_op op_mod ha hb) h fun H F μ' v u x y Qv m r1 r2 q k => int2_ok m r1 r2 q k
  | pow => exact DE.op2 (fun ta tb ha hb => pe_op op_pow ha hb) h fun H F μ' v u x y Qv m r1 r2 q k => int2_ok m r1 r2 q k

/-! ### comparisons -/
mutual
theorem py_of {K H F} : ∀ {v : V} {d : D}, RD K H F v d → d.ok = true → Dp K H v d.py
  | _, _, .non, _ => .non
  | _, _, .bl b, _ => .bl b
  | _, _, .int i, _ => .int i
  | _, _, .str s, _ => .str s
  | _, _, .tup h r, o => .tup h (pys_of r o)
  | _, _, .lst f h r, o => .lst (.inl (.inl h)) (pys_of r o)
  | _, _, .lk h r, o => .lst (h.elim (fun ⟨ob, q⟩ => .inl (.inr ⟨ob, q⟩)) .inr) (pys_of r o)
  | _, _, .ref a, o => nomatch o
  | _, _, .tpl _ h r, o => .tup (.inl (.inl h)) (pys_of r o)
  | _, _, .tpz _ h _ _ r, o => .tup (.inl (.inr ⟨_, h⟩)) (pys_of r o)
theorem pys_of {K H F} : ∀ {vs : List V} {ds : List D}, RDs K H F vs ds → D.oks ds = true → DpAll K H vs (D.pys ds)
  | _, _, .nil, _ => .nil
  | _, _, .cons h r, o => by
    have o := (Bool.and_eq_true_iff.mp o)
    exact .cons (py_of h o.1) (pys_of r o.2)
end
mutual
theorem py_can : ∀ d : D, d.ok = true → d.py.canLay0 = true
  | .non, _ => rfl
  | .bl _, _ => rfl
  | .int _, _ => rfl
  | .str _, o => o
  | .tup l, o => pys_can l o
  | .lst l, o => pys_can l o
  | .lk l, o => pys_can l o
  | .ref _, o => nomatch o
  | .emp, o => nomatch o
  | .exc _ _ _, o => nomatch o
  | .ins _ _ _, o => nomatch o
  | .tpl l, o => pys_can l o
  | .tpz l, o => pys_can l o
theorem pys_can : ∀ ds : List D, D.oks ds = true → PyData.canLayAll0 (D.pys ds) = true
  | [], _ => rfl
  | d :: ds, o => by
    have o := (Bool.and_eq_true_iff.mp o)
    exact Bool.and_eq_true_iff.mpr ⟨py_can d o.1, pys_can ds o.2⟩
end
mutual
theorem py_dep : ∀ d : D, d.py.depth = d.dep
  | .non => rfl
  | .bl _ => rfl
  | .int _ => rfl
  | .str _ => rfl
  | .tup l => congrArg (· + 1) (pys_dep l)
  | .lst l => congrArg (· + 1) (pys_dep l)
  | .lk l => congrArg (· + 1) (pys_dep l)
  | .ref _ => rfl
  | .emp => rfl
  | .exc _ _ _ => rfl
  | .ins _ _ _ => rfl
  | .tpl l => congrArg (· + 1) (pys_dep l)
  | .tpz l => congrArg (· + 1) (pys_dep l)
theorem pys_dep : ∀ ds : List D, PyData.depthAll (D.pys ds) = D.deps ds
  | [] => rfl
  | d :: ds => by
    show max _ _ = max _ _
    rw [py_dep d, pys_dep ds]
end
theorem shaped_of {d : D} (o : d.ok = true) (h : d.dep ≤ 64) : SeqAt.shaped d.py = true := by
  unfold SeqAt.shaped
  rw [py_can d o, py_dep d, decide_eq_true h]
  rfl
theorem res_ok {K H F} {v : V} {x : D} (m : MS K H F μ) (r : RD K H F v x) (o : (res μ x).ok = true) : Dp K H v (res μ x).py := by
  cases x with
  | ref a =>
    cases e : μ a with
    | none =>
      have e2 : res μ (.ref a) = .ref a := by unfold res; simp only [e]
      rw [e2] at o; cases o
    | some ob =>
      cases ob with
      | pot l =>
        have e2 : res μ (.ref a) = .ref a := by unfold res; simp only [e]
        rw [e2] at o; cases o
      | obj c fs =>
        have e2 : res μ (.ref a) = .ref a := by unfold res; simp only [e]
        rw [e2] at o; cases o
      | dct t l =>
        have e2 : res μ (.ref a) = .ref a := by unfold res; simp only [e]
        rw [e2] at o; cases o
      | tab q =>
        have e2 : res μ (.ref a) = .ref a := by unfold res; simp only [e]
        rw [e2] at o; cases o
      | lst l =>
        have e2 : res μ (.ref a) = .lst l := by unfold res; simp only [e]
        rw [e2] at o ⊢
        cases r
        obtain ⟨_, u, hu, vs, eu, rs⟩ := m.at_ a _ e
        subst eu
        exact .lst (.inl (.inl hu)) (pys_of rs o)
  | _ => exact py_of r o
def rEqA (K : PySem.W.Frag) : R2 := fun x y H Q => rEq x y H Q ∨ rEqD K x y H Q
def rNeA (K : PySem.W.Frag) : R2 := fun x y H Q => rNe x y H Q ∨ rNeD K x y H Q
theorem eq_ok {K H F} {v u : V} {x y : D} {q : Bool → Prop} {Qv : VK} (m : MS K H F μ) (r1 : RD K H F v x) (r2 : RD K H F u y) (h : eqD x y μ q) (k : ∀ b, q b → Qv (.bl b) H) : rEqA K v u H Qv := by
  have gen : ((res μ x).ok = true ∧ (res μ y).ok = true ∧ (res μ x).dep ≤ 64 ∧ (res μ y).dep ≤ 64 ∧ q ((res μ x).eqv (res μ y))) → rEqA K v u H Qv := fun ⟨o1, o2, d1, d2, h⟩ =>
    .inr ⟨_, _, res_ok m r1 o1, res_ok m r2 o2, shaped_of o1 d1, shaped_of o2 d2, k _ h⟩
  cases x with
  | int i =>
    cases y with
    | int j =>
      cases r1; cases r2
      refine .inl ⟨rfl, ?_⟩
      have e : decide (V.int i = V.int j) = decide (i = j) := by simp
      rw [e]
      exact k _ h
    | _ => exact gen h
  | str i =>
    cases y with
    | str j =>
      cases r1; cases r2
      refine .inl ⟨rfl, ?_⟩
      have e : decide (V.str i = V.str j) = decide (i = j) := by simp
      rw [e]
      exact k _ h
    | _ => exact gen h
  | _ => exact gen h
theorem ne_ok {K H F} {v u : V} {x y : D} {q : Bool → Prop} {Qv : VK} (m : MS K H F μ) (r1 : RD K H F v x) (r2 : RD K H F u y) (h : eqD x y μ fun b => q (!b)) (k : ∀ b, q b → Qv (.bl b) H) : rNeA K v u H Qv := by
  have gen : ((res μ x).ok = true ∧ (res μ y).ok = true ∧ (res μ x).dep ≤ 64 ∧ (res μ y).dep ≤ 64 ∧ q (!(res μ x).eqv (res μ y))) → rNeA K v u H Qv := fun ⟨o1, o2, d1, d2, h⟩ =>
    .inr ⟨_, _, res_ok m r1 o1, res_ok m r2 o2, shaped_of o1 d1, shaped_of o2 d2, k _ h⟩
  cases x with
  | int i =>
    cases y with
    | int j =>
      cases r1; cases r2
      refine .inl ⟨rfl, ?_⟩
      have e : decide (V.int i = V.int j) = decide (i = j) := by simp
      rw [e]
      exact k _ h
    | _ => exact gen h
  | str i =>
    cases y with
    | str j =>
      cases r1; cases r2
      refine .inl ⟨rfl, ?_⟩
      have e : decide (V.str i = V.str j) = decide (i = j) := by simp
      rw [e]
      exact k _ h
    | _ => exact gen h
  | _ => exact gen h
/-- two numbers, or two texts -/
def rIS (p : Int → Int → Bool) (ps : Str → Str → Bool) : R2 := fun x y H Q => rI0 (fun i j => .bl (p i j)) x y H Q ∨ ∃ i j, x = .str i ∧ y = .str j ∧ Q (.bl (ps i j)) H
theorem op_ltS : OpR X (compareOp .Lt) (rIS (fun i j => decide (i < j)) fun i j => decide (i.cps.toList < j.cps.toList)) := op_lt.or op_lt_str
theorem op_leS : OpR X (compareOp .LtE) (rIS (fun i j => decide (i ≤ j)) fun i j => !decide (j.cps.toList < i.cps.toList)) := op_le.or op_le_str
theorem op_gtS : OpR X (compareOp .Gt) (rIS (fun i j => decide (j < i)) fun i j => decide (j.cps.toList < i.cps.toList)) := op_gt.or op_gt_str
theorem op_geS : OpR X (compareOp .GtE) (rIS (fun i j => decide (j ≤ i)) fun i j => !decide (i.cps.toList < j.cps.toList)) := op_ge.or op_ge_str
theorem lt_ok {K H F} {p : Int → Int → Bool} {ps : Str → Str → Bool} {v u : V} {x y : D} {q : Bool → Prop} {Qv : VK} (r1 : RD K H F v x) (r2 : RD K H F u y) (h : ltD p ps x y q) (k : ∀ b, q b → Qv (.bl b) H) : rIS p ps v u H Qv := by
  cases x with
  | int i =>
    cases y with
    | int j =>
      cases r1; cases r2
      exact .inl ⟨i, j, rfl, rfl, k _ h⟩
    | _ => exact False.elim h
  | str i =>
    cases y with
    | str j =>
      cases r1; cases r2
      exact .inr ⟨i, j, rfl, rfl, k _ h⟩
    | _ => exact False.elim h
  | _ => exact False.elim h
theorem isNon_V {K H F} {v : V} {x : D} (r : RD K H F v x) : decide (v = V.non) = x.isNon := by
  cases r <;> rfl
theorem isD_non {y : D} {q : Prop} (h : isD y q) : y = .non ∧ q := by
  cases y <;> first | exact ⟨rfl, h⟩ | exact h.elim
theorem flat_V {K H F} {v : V} {x : D} (r : RD K H F v x) (f : x.flat = true) : flatV v = true := by
  cases r <;> first | rfl | (cases f; done)
theorem flats_V {K H F} : ∀ {vs : List V} {ds : List D}, RDs K H F vs ds → ds.all D.flat = true → vs.all flatV = true
  | _, _, .nil, _ => rfl
  | _, _, .cons h r, f => by
    rw [List.all_cons, Bool.and_eq_true] at f ⊢
    exact ⟨flat_V h f.1, flats_V r f.2⟩
theorem eqV_D {K H F} {v u : V} {x y : D} (r1 : RD K H F v x) (r2 : RD K H F u y) (f1 : x.flat = true) (f2 : y.flat = true) : eqV v u = x.eqv y := by
  cases r1 <;> first | (cases f1; done) | (cases r2 <;> first | (cases f2; done) | rfl)
theorem inV_D {K H F} {v : V} {x : D} (r1 : RD K H F v x) (f1 : x.flat = true) : ∀ {vs : List V} {ds : List D}, RDs K H F vs ds → ds.all D.flat = true → inV v vs = ds.any fun e => e.eqv x
  | _, _, .nil, _ => rfl
  | _, _, .cons h r, f => by
    rw [List.all_cons, Bool.and_eq_true] at f
    have ih := inV_D r1 f1 r f.2
    unfold inV at ih ⊢
    rw [List.any_cons, List.any_cons, ih, eqV_D h r1 f.1 f1]
theorem any_pys (x : D) : ∀ ds : List D, ((D.pys ds).any fun z => PyData.eqv z x.py) = ds.any fun e => e.eqv x
  | [] => rfl
  | d :: ds => by
    show (_ || _) = (_ || _)
    rw [any_pys x ds]
    rfl
def rInA (K : PySem.W.Frag) (neg : Bool) : R2 := fun x y H Q => (∃ (c : Nat) (z : Str), x = .str ⟨#[c]⟩ ∧ y = .str z ∧ Q (.bl (if neg then !decide (c ∈ z.cps.toList) else decide (c ∈ z.cps.toList))) H) ∨ rIn K neg x y H Q ∨
  ∃ d ds, Dp K H x d ∧ Dp K H y (.list ds) ∧ SeqAt.shaped d = true ∧ SeqAt.shaped (.list ds) = true ∧ Q (.bl (if neg then !(ds.any fun z => PyData.eqv z d) else ds.any fun z => PyData.eqv z d)) H
theorem op_inA (hu : X.A.units + 65 < cLine) : OpR X (compareOp .In) (rInA X.K false) := op_in_sign.or (op_in_seq.or (op_inD hu))
theorem op_notinA (hu : X.A.units + 65 < cLine) : OpR X (compareOp .NotIn) (rInA X.K true) := op_notIn_sign.or (op_notIn_seq.or (op_notInD hu))
theorem in_ok {K H F} {neg : Bool} {v u : V} {x y : D} {q : Bool → Prop} {Qv : VK} (m : MS K H F μ) (r1 : RD K H F v x) (r2 : RD K H F u y) (h : inD x y μ q) (k : ∀ b, q b → Qv (.bl (if neg then !b else b)) H) : rInA K neg v u H Qv := by
  have gen : ∀ l, seqL μ y = some l → (x.ok = true ∧ D.oks l = true ∧ x.dep ≤ 64 ∧ D.deps l < 64 ∧ q (l.any fun e => e.eqv x)) → rInA K neg v u H Qv := fun l hl ⟨o1, o2, d1, d2, h⟩ => by
    obtain ⟨a, vs, e, hs, rs⟩ := seqL_rd m r2 hl
    subst e
    refine .inr (.inr ⟨_, D.pys l, py_of r1 o1, .lst hs (pys_of rs o2), shaped_of o1 d1, shaped_of (d := .lst l) o2 d2, ?_⟩)
    rw [any_pys]
    exact k _ h
  cases y with
  | str z =>
    cases r2
    cases x with
    | str c =>
      cases r1
      have h : (match c.cps.toList with
        | [n] => q (decide (n ∈ z.cps.toList))
        | _ => False) := h
      split at h
      · rename_i n e
        have ec : c = ⟨#[n]⟩ := by
          obtain ⟨a⟩ := c
          have : a = #[n] := by
            apply Array.toList_inj.mp
            simpa using e
          rw [this]
        subst ec
        exact .inl ⟨n, z, rfl, rfl, k _ h⟩
      · exact h.elim
    | _ => exact h.elim
  | tup l =>
    obtain ⟨f1, f2, h⟩ := h
    cases r2 with
    | tup ht rs =>
    refine .inr (.inl ⟨_, _, rfl, .inr ht, flat_V r1 f1, flats_V rs f2, ?_⟩)
    rw [inV_D r1 f1 rs f2]
    exact k _ h
  | tpz l =>
    obtain ⟨f1, f2, h⟩ := h
    cases r2 with
    | tpz _ ht _ _ rs =>
    refine .inr (.inl ⟨_, _, rfl, .inr (.inl (.inr ⟨_, ht⟩)), flat_V r1 f1, flats_V rs f2, ?_⟩)
    rw [inV_D r1 f1 rs f2]
    exact k _ h
  | non => exact h.elim
  | emp => exact h.elim
  | exc _ _ _ => exact h.elim
  | ins _ _ _ => exact h.elim
  | tpl _ => exact h.elim
  | bl _ => exact h.elim
  | int _ => exact h.elim
  | lst l => exact gen l rfl h
  | lk l => exact gen l rfl h
  | ref a =>
    obtain ⟨l, e, h⟩ := optD_ok (show optD (seqL μ (.ref a)) _ from h)
    exact gen l e h
/-- a list == an empty list, whatever it holds -/
def rEqN (K : PySem.W.Frag) : R2 := fun x y H Q => ∃ a b xs, x = .ref a ∧ y = .ref b ∧ SqL K H a xs ∧ SqL K H b [] ∧ Q (.bl xs.isEmpty) H
theorem op_eqN {X : Cx} (hu : X.A.units < cLine) : OpR X (compareOp .Eq) (rEqN X.K) := by
  intro pins s σ H x y v u Q I rx ry h
  obtain ⟨a, b, xs, rfl, rfl, ha, hb, q⟩ := h
  obtain rfl : v = Value.ref a := rx
  obtain rfl : u = Value.ref b := ry
  obtain ⟨its, rv, p, hz⟩ := I.list ha
  obtain ⟨its2, rv2, p2, hz2⟩ := I.list hb
  have e2 : its2 = [] := List.length_eq_zero_iff.mp rv2.length.symm
  subst e2
  have l1 := rv.length
  cases xs with
  | nil =>
    have e1 : its = [] := List.length_eq_zero_iff.mp l1.symm
    subst e1
    exact PySem.SeqAt.eq_listAt (e := fun _ => true) p.isList p2.isList rfl hu (fun j h1 => absurd h1 (Nat.not_lt_zero _)) ⟨.bl _, H, I, rfl, q⟩
  | cons z zs =>
    refine PySem.SeqAt.eq_list_lengthsAt p.isList p2.isList ?_ hu ⟨.bl _, H, I, rfl, q⟩
    have : its.toArray.size ≠ 0 := by rw [List.size_toArray, ← l1]; exact Nat.succ_ne_zero _
    simpa using this
theorem eqn_ok {K H F} {v u : V} {x y : D} {q : Bool → Prop} {Qv : VK} (m : MS K H F μ) (r1 : RD K H F v x) (r2 : RD K H F u y) (h : cmpD .eqn x y μ q) (k : ∀ b, q b → Qv (.bl b) H) : rEqN K v u H Qv := by
  obtain ⟨l, e1, h⟩ := optD_ok (show optD (seqL μ x) _ from h)
  obtain ⟨l2, e2, e3, h⟩ := optD_ok h
  subst e3
  obtain ⟨a, vs, rfl, ha, ra⟩ := seqL_rd m r1 e1
  obtain ⟨b, ws, rfl, hb, rb⟩ := seqL_rd m r2 e2
  have e4 : ws = [] := List.length_eq_zero_iff.mp rb.length
  subst e4
  refine ⟨a, b, vs, rfl, rfl, ha, hb, ?_⟩
  have e5 : vs.isEmpty = l.isEmpty := by
    have := ra.length
    cases l <;> cases vs <;> first | rfl | (cases this; done)
  rw [e5]
  exact k _ h
/-- a comparison as a PE from its operator's reading -/
theorem cmp_pe {op : CmpOp} {r : R2} {a b : Expr} {pos : Pos} (ho : OpR X (compareOp op) r) (hm : behindInMarks op b = false) (ta tb : TE) (ha : PE X a ta) (hb : PE X b tb) : PE X (.Compare a [op] [b] pos) (tOp r ta tb) := pe_cmpR ho ha hb hm
theorem DE.cmp (sx : SX G X N sc) {o : Cm} {a b : Expr} {pos : Pos} {Q : DK} (hb : isSetE b = false) (h : DE X EX a ρ μ fun x μ1 => DE X EX b ρ μ1 fun y μ2 => cmpD o x y μ2 fun c => Q (.bl c) μ2) : DE X EX (.Compare a [o.op] [b] pos) ρ μ Q := by
  have un := sx.un
  have hm : ∀ op, behindInMarks op b = false := fun op => mark_no hb
  cases o with
  | eq => exact DE.op2 (cmp_pe (op_eq.or (op_eqD (by omega))) (hm _)) h fun H F μ' v u x y Qv m r1 r2 q k => eq_ok (q := fun c => Q (.bl c) μ') m r1 r2 q fun b hb => k _ _ (.now m (.bl b) hb)
  | ne => exact DE.op2 (cmp_pe (op_ne.or (op_neD (by omega))) (hm _)) h fun H F μ' v u x y Qv m r1 r2 q k => ne_ok (q := fun c => Q (.bl c) μ') m r1 r2 q fun b hb => k _ _ (.now m (.bl b) hb)
  | lt => exact DE.op2 (cmp_pe op_ltS (hm _)) h fun H F μ' v u x y Qv m r1 r2 q k => lt_ok (q := fun c => Q (.bl c) μ') r1 r2 q fun b hb => k _ _ (.now m (.bl b) hb)
  | le => exact DE.op2 (cmp_pe op_leS (hm _)) h fun H F μ' v u x y Qv m r1 r2 q k => lt_ok (q := fun c => Q (.bl c) μ') r1 r2 q fun b hb => k _ _ (.now m (.bl b) hb)
  | gt => exact DE.op2 (cmp_pe op_gtS (hm _)) h fun H F μ' v u x y Qv m r1 r2 q k => lt_ok (q := fun c => Q (.bl c) μ') r1 r2 q fun b hb => k _ _ (.now m (.bl b) hb)
  | ge => exact DE.op2 (cmp_pe op_geS (hm _)) h fun H F μ' v u x y Qv m r1 r2 q k => lt_ok (q := fun c => Q (.bl c) μ') r1 r2 q fun b hb => k _ _ (.now m (.bl b) hb)
  | is =>
    refine DE.op2 (cmp_pe op_isN (hm _)) h fun H F μ' v u x y Qv m r1 r2 q k => ?_
    obtain ⟨e, q⟩ := isD_non (show isD y (Q (.bl (x.isNon)) μ') from q)
    subst e
    cases r2
    exact ⟨rfl, by rw [isNon_V r1]; exact k _ _ (.now m (.bl _) q)⟩
  | isnot =>
    refine DE.op2 (cmp_pe op_notN (hm _)) h fun H F μ' v u x y Qv m r1 r2 q k => ?_
    obtain ⟨e, q⟩ := isD_non (show isD y (Q (.bl (!x.isNon)) μ') from q)
    subst e
    cases r2
    exact ⟨rfl, by rw [isNon_V r1]; exact k _ _ (.now m (.bl _) q)⟩
  | inn => exact DE.op2 (cmp_pe (op_inA un) (hm _)) h fun H F μ' v u x y Qv m r1 r2 q k => in_ok (q := fun c => Q (.bl c) μ') m r1 r2 q fun b hb => k _ _ (.now m (.bl b) hb)
  | eqn => exact DE.op2 (cmp_pe (op_eqN (by omega)) (hm _)) h fun H F μ' v u x y Qv m r1 r2 q k => eqn_ok (q := fun c => Q (.bl c) μ') m r1 r2 q fun b hb => k _ _ (.now m (.bl b) hb)
  | notin => exact DE.op2 (cmp_pe (op_notinA un) (hm _)) h fun H F μ' v u x y Qv m r1 r2 q k => in_ok (q := fun c => Q (.bl (!c)) μ') m r1 r2 q fun b hb => k _ _ (.now m (.bl _) hb)
end
end DL
/-! The rules, further: tests, displays, subscripts, calls, comprehensions. -/
namespace DL
open PySem PySem.Spec PyProof.Rows L2
section
variable {G : Gc} {X : Cx} {N : List Str} {sc : Scope} {ρ : Rho} {μ : Mem}

/-! ### truth, tests -/
theorem tru_ok' {K H F} {v : V} {x : D} {q : Bool → Prop} (m : MS K H F μ) (r : RD K H F v x) (h : truD x μ q) : ∃ k, TruV K v H k ∧ q k := by
  have ie : ∀ {vs : List V} {ds : List D}, RDs K H F vs ds → (!vs.isEmpty) = !ds.isEmpty := fun r => by cases r <;> rfl
  cases r with
  | non => exact ⟨_, rfl, h⟩
  | bl b => exact ⟨_, rfl, h⟩
  | int i => exact ⟨_, rfl, h⟩
  | str s => exact ⟨_, ⟨by rw [line_eq]; exact h.1, rfl⟩, h.2⟩
  | tup t rs => exact ⟨_, .inr (.inl ⟨_, t, rfl⟩), by rw [ie rs]; exact h⟩
  | lst f hd rs => exact ⟨_, .inl ⟨_, .inl (.inl hd), rfl⟩, by rw [ie rs]; exact h⟩
  | lk hk rs => exact ⟨_, .inl ⟨_, hk.elim (fun ⟨o, q⟩ => .inl (.inr ⟨o, q⟩)) .inr, rfl⟩, by rw [ie rs]; exact h⟩
  | emp _ _ => exact False.elim h
  | exc _ _ _ _ => exact False.elim h
  | ins _ _ _ _ _ => exact False.elim h
  | tpl f t rs => exact ⟨_, .inr (.inl ⟨_, .inl (.inl t), rfl⟩), by rw [ie rs]; exact h⟩
  | tpz f t _ _ rs => exact ⟨_, .inr (.inl ⟨_, .inl (.inr ⟨_, t⟩), rfl⟩), by rw [ie rs]; exact h⟩
  | ref a =>
    obtain ⟨l, e, h⟩ := optD_ok (show optD (seqL μ (.ref a)) _ from h)
    obtain ⟨_, u, hu, vs, eu, rs⟩ := m.at_ a _ (seqL_ref e)
    subst eu
    exact ⟨_, .inl ⟨_, .inl (.inl hu), rfl⟩, by rw [ie rs]; exact h⟩
theorem DE.and {a b : Expr} {rest : List Expr} {pos : Pos} {Q : DK} (h : DE X EX a ρ μ fun x μ1 => truD x μ1 fun c => if c = true then DE X EX (.BoolOp .And (b :: rest) pos) ρ μ1 Q else Q x μ1) : DE X EX (.BoolOp .And (a :: b :: rest) pos) ρ μ Q := fun σ H F e m => by
  refine we_of (pe_andT pe_we pe_we) ?_
  refine (h σ H F e m).mono fun v H1 ⟨x, F1, μ1, g1, m1, r1, q1⟩ => ?_
  obtain ⟨k, tk, q⟩ := tru_ok' m1 r1 q1
  refine ⟨k, tk, ?_⟩
  cases k with
  | true =>
    rw [if_pos rfl] at q ⊢
    exact (q σ H1 F1 (e.on g1 m) m1).mono fun u H2 p => p.pre g1
  | false =>
    rw [if_neg Bool.false_ne_true] at q ⊢
    exact ⟨x, F1, μ1, g1, m1, r1, q⟩
theorem DE.or {a b : Expr} {rest : List Expr} {pos : Pos} {Q : DK} (h : DE X EX a ρ μ fun x μ1 => truD x μ1 fun c => if c = true then Q x μ1 else DE X EX (.BoolOp .Or (b :: rest) pos) ρ μ1 Q) : DE X EX (.BoolOp .Or (a :: b :: rest) pos) ρ μ Q := fun σ H F e m => by
  refine we_of (pe_orT pe_we pe_we) ?_
  refine (h σ H F e m).mono fun v H1 ⟨x, F1, μ1, g1, m1, r1, q1⟩ => ?_
  obtain ⟨k, tk, q⟩ := tru_ok' m1 r1 q1
  refine ⟨k, tk, ?_⟩
  cases k with
  | false =>
    rw [if_neg Bool.false_ne_true] at q ⊢
    exact (q σ H1 F1 (e.on g1 m) m1).mono fun u H2 p => p.pre g1
  | true =>
    rw [if_pos rfl] at q ⊢
    exact ⟨x, F1, μ1, g1, m1, r1, q⟩
theorem DE.one {op : BoolOp} {a : Expr} {pos : Pos} {Q : DK} (h : DE X EX a ρ μ Q) : DE X EX (.BoolOp op [a] pos) ρ μ Q := fun σ H F e m => we_of (pe_one pe_we) (h σ H F e m)
theorem DE.not {a : Expr} {pos : Pos} {Q : DK} (h : DE X EX a ρ μ fun x μ1 => truD x μ1 fun c => Q (.bl (!c)) μ1) : DE X EX (.UnaryOp .Not a pos) ρ μ Q := fun σ H F e m => by
  refine we_of (pe_notT pe_we) ?_
  refine (h σ H F e m).mono fun v H1 ⟨x, F1, μ1, g1, m1, r1, q1⟩ => ?_
  obtain ⟨k, tk, q⟩ := tru_ok' m1 r1 q1
  exact ⟨k, tk, ⟨_, F1, μ1, g1, m1, .bl _, q⟩⟩
theorem DE.neg {a : Expr} {pos : Pos} {Q : DK} (h : DE X EX a ρ μ fun x μ1 => match x with | .int i => Q (.int (-i)) μ1 | _ => False) : DE X EX (.UnaryOp .USub a pos) ρ μ Q := fun σ H F e m => by
  refine we_of (pe_un un_neg pe_we) ?_
  refine (h σ H F e m).mono fun v H1 ⟨x, F1, μ1, g1, m1, r1, q1⟩ => ?_
  cases r1 with
  | int i => exact ⟨i, rfl, ⟨_, F1, μ1, g1, m1, .int _, q1⟩⟩
  | _ => exact q1.elim
theorem DT.ite {t a b : Expr} {pos : Pos} {Q : DK} (h : DT X EX t ρ μ fun c μ1 => if c = true then DE X EX a ρ μ1 Q else DE X EX b ρ μ1 Q) : DE X EX (.IfExp t a b pos) ρ μ Q := fun σ H F e m => by
  refine we_of (pe_ifExp pt_wt pe_we pe_we) ?_
  refine (h σ H F e m).mono fun c H1 ⟨F1, μ1, g1, m1, q1⟩ => ?_
  cases c with
  | true =>
    rw [if_pos rfl] at q1 ⊢
    exact (q1 σ H1 F1 (e.on g1 m) m1).mono fun u H2 p => p.pre g1
  | false =>
    rw [if_neg Bool.false_ne_true] at q1 ⊢
    exact (q1 σ H1 F1 (e.on g1 m) m1).mono fun u H2 p => p.pre g1
/-- an expression of any kind as a test -/
def plainT : Expr → Bool
  | .BoolOp _ _ _ => false
  | .UnaryOp .Not _ _ => false
  | .Compare _ _ _ _ => false
  | .IfExp _ _ _ _ => false
  | _ => true
theorem plainT_ok {a : Expr} {env : Env} (h : plainT a = true) : ∀ whole, isTrue a env whole = (do let v ← whole; standAt a.pos; holding [v] (truthy v)) := by
  intro whole
  cases a with
  | UnaryOp op x p => cases op <;> first | rfl | (cases h; done)
  | _ => first | rfl | (cases h; done)
theorem DT.val {a : Expr} {Q : Bool → Mem → Prop} (hp : plainT a = true) (h : DE X EX a ρ μ fun x μ1 => truD x μ1 fun c => Q c μ1) : DT X EX a ρ μ Q := fun σ H F e m => by
  refine wt_of (pt_truth pe_we (plainT_ok hp)) ?_
  refine (h σ H F e m).mono fun v H1 ⟨x, F1, μ1, g1, m1, r1, q1⟩ => ?_
  obtain ⟨k, tk, q⟩ := tru_ok' m1 r1 q1
  exact ⟨k, tk, F1, μ1, g1, m1, q⟩
/-- as a test whatever its whole is -/
def WW (X : Cx) (e : Expr) : TT := fun σ H Q => ∀ (whole : Sem Value) (pins : List (Addr × Obj)) (s : Shared), Inv X pins σ H s → wpAny (model X.prog X.w) X.A (isTrue e X.env whole) (TP X pins σ Q) X.xe s
theorem pw_ww {e : Expr} : PW X e (WW X e) := ⟨fun wh pins s σ H Q I h => h wh pins s I⟩
theorem ww_of {e : Expr} {t : TT} {σ H Q} (h : PW X e t) (q : t σ H Q) : WW X e σ H Q := fun wh pins s I => h.run wh pins s σ H Q I q
theorem WW.wt {e : Expr} {σ H Q} (h : WW X e σ H Q) : WT X e σ H Q := fun pins s I => h _ pins s I
theorem WW.mono {e : Expr} {σ H} {Q Q' : Bool → Hp → Prop} (h : WW X e σ H Q) (m : ∀ v H', Q v H' → Q' v H') : WW X e σ H Q' :=
  fun wh pins s I => thn (h wh pins s I) fun u s' ⟨H', I', q⟩ => ⟨H', I', m u H' q⟩
def DW (X : Cx) (EX : EK) (e : Expr) (ρ : Rho) (μ : Mem) (Q : Bool → Mem → Prop) : Prop := ∀ σ H F, RE X EX H F μ σ ρ → MS X.K H F μ → WW X e σ H (PostT X.K H F μ Q)
theorem PostT.pre {K H F μ H1 F1 μ1 Q v H'} (g : Grow H F μ H1 F1 μ1) (h : PostT K H1 F1 μ1 Q v H') : PostT K H F μ Q v H' :=
  let ⟨F', μ', g2, m, q⟩ := h
  ⟨F', μ', g.trans g2, m, q⟩
theorem DW.dt {e : Expr} {Q : Bool → Mem → Prop} (h : DW X EX e ρ μ Q) : DT X EX e ρ μ Q := fun σ H F en m => (h σ H F en m).wt
theorem DW.one {op : BoolOp} {a : Expr} {pos : Pos} {Q : Bool → Mem → Prop} (h : DT X EX a ρ μ Q) : DW X EX (.BoolOp op [a] pos) ρ μ Q := fun σ H F e m => by
  cases op with
  | And => exact ww_of (pw_and1 pt_wt) (h σ H F e m)
  | Or => exact ww_of (pw_or1 pt_wt) (h σ H F e m)
theorem DW.and {a b : Expr} {rest : List Expr} {pos : Pos} {Q : Bool → Mem → Prop} (h : DT X EX a ρ μ fun c μ1 => if c = true then DW X EX (.BoolOp .And (b :: rest) pos) ρ μ1 Q else Q false μ1) : DW X EX (.BoolOp .And (a :: b :: rest) pos) ρ μ Q := fun σ H F e m => by
  refine ww_of (pw_and pt_wt pw_ww) ?_
  refine (h σ H F e m).mono fun c H1 ⟨F1, μ1, g1, m1, q1⟩ => ?_
  cases c with
  | true =>
    rw [if_pos rfl] at q1 ⊢
    exact (q1 σ H1 F1 (e.on g1 m) m1).mono fun u H2 p => p.pre g1
  | false =>
    rw [if_neg Bool.false_ne_true] at q1 ⊢
    exact ⟨F1, μ1, g1, m1, q1⟩
theorem DW.or {a b : Expr} {rest : List Expr} {pos : Pos} {Q : Bool → Mem → Prop} (h : DT X EX a ρ μ fun c μ1 => if c = true then Q true μ1 else DW X EX (.BoolOp .Or (b :: rest) pos) ρ μ1 Q) : DW X EX (.BoolOp .Or (a :: b :: rest) pos) ρ μ Q := fun σ H F e m => by
  refine ww_of (pw_or pt_wt pw_ww) ?_
  refine (h σ H F e m).mono fun c H1 ⟨F1, μ1, g1, m1, q1⟩ => ?_
  cases c with
  | false =>
    rw [if_neg Bool.false_ne_true] at q1 ⊢
    exact (q1 σ H1 F1 (e.on g1 m) m1).mono fun u H2 p => p.pre g1
  | true =>
    rw [if_pos rfl] at q1 ⊢
    exact ⟨F1, μ1, g1, m1, q1⟩
theorem DT.not {a : Expr} {pos : Pos} {Q : Bool → Mem → Prop} (h : DT X EX a ρ μ fun c μ1 => Q (!c) μ1) : DT X EX (.UnaryOp .Not a pos) ρ μ Q := fun σ H F e m => by
  refine wt_of (pt_not pt_wt) ?_
  exact (h σ H F e m).mono fun c H1 ⟨F1, μ1, g1, m1, q1⟩ => ⟨F1, μ1, g1, m1, q1⟩
theorem DT.op2 {ex a b : Expr} {r : R2} {Q : Bool → Mem → Prop} {R : D → D → Mem → Prop} (hp : ∀ ta tb, PE X a ta → PE X b tb → PT X ex (tTest (tOp r ta tb))) (h : DE X EX a ρ μ fun x μ1 => DE X EX b ρ μ1 fun y μ2 => R x y μ2)
    (hop : ∀ H F μ' v u x y (Qv : VK), MS X.K H F μ' → RD X.K H F v x → RD X.K H F u y → R x y μ' → (∀ b, Q b μ' → Qv (.bl b) H) → r v u H Qv) : DT X EX ex ρ μ Q := fun σ H F e m => by
  refine wt_of (hp _ _ pe_we pe_we) ?_
  refine (h σ H F e m).mono fun v H1 ⟨x, F1, μ1, g1, m1, r1, q1⟩ => ?_
  refine (q1 σ H1 F1 (e.on g1 m) m1).mono fun u H2 ⟨y, F2, μ2, g2, m2, r2, q2⟩ => ?_
  exact hop H2 F2 μ2 v u x y _ m2 (r1.stay (g2.stay m1)) r2 q2 fun b q => ⟨b, rfl, F2, μ2, g1.trans g2, m2, q⟩
theorem cmp_pt {op : CmpOp} {r : R2} {a b : Expr} {pos : Pos} (ho : OpR X (compareOp op) r) (hm : behindInMarks op b = false) (ta tb : TE) (ha : PE X a ta) (hb : PE X b tb) : PT X (.Compare a [op] [b] pos) (tTest (tOp r ta tb)) := pt_cmpR ho ha hb hm
/-- each comparison's reading -/
def rCm (K : PySem.W.Frag) : Cm → R2
  | .eq => fun x y H Q => rEq x y H Q ∨ rEqD K x y H Q
  | .ne => fun x y H Q => rNe x y H Q ∨ rNeD K x y H Q
  | .lt => rIS (fun i j => decide (i < j)) fun i j => decide (i.cps.toList < j.cps.toList)
  | .le => rIS (fun i j => decide (i ≤ j)) fun i j => !decide (j.cps.toList < i.cps.toList)
  | .gt => rIS (fun i j => decide (j < i)) fun i j => decide (j.cps.toList < i.cps.toList)
  | .ge => rIS (fun i j => decide (j ≤ i)) fun i j => !decide (i.cps.toList < j.cps.toList)
  | .is => fun x y H Q => y = .non ∧ Q (.bl (decide (x = .non))) H
  | .isnot => fun x y H Q => y = .non ∧ Q (.bl (!decide (x = .non))) H
  | .inn => rInA K false
  | .notin => rInA K true
  | .eqn => rEqN K
theorem op_cm (un : X.A.units + 65 < cLine) : ∀ o : Cm, OpR X (compareOp o.op) (rCm X.K o)
  | .eq => op_eq.or (op_eqD (by omega))
  | .ne => op_ne.or (op_neD (by omega))
  | .lt => op_ltS
  | .le => op_leS
  | .gt => op_gtS
  | .ge => op_geS
  | .is => op_isN
  | .isnot => op_notN
  | .inn => op_inA un
  | .notin => op_notinA un
  | .eqn => op_eqN (by omega)
theorem cm_ok {K H F} {o : Cm} {v u : V} {x y : D} {q : Bool → Prop} {Qv : VK} (m : MS K H F μ) (r1 : RD K H F v x) (r2 : RD K H F u y) (h : cmpD o x y μ q) (k : ∀ b, q b → Qv (.bl b) H) : rCm K o v u H Qv := by
  cases o with
  | eq => exact eq_ok m r1 r2 h k
  | ne => exact ne_ok m r1 r2 h k
  | lt => exact lt_ok (q := q) r1 r2 h k
  | le => exact lt_ok (q := q) r1 r2 h k
  | gt => exact lt_ok (q := q) r1 r2 h k
  | ge => exact lt_ok (q := q) r1 r2 h k
  | is =>
    obtain ⟨e, h⟩ := isD_non (show isD y (q x.isNon) from h)
    subst e
    cases r2
    exact ⟨rfl, by rw [isNon_V r1]; exact k _ h⟩
  | isnot =>
    obtain ⟨e, h⟩ := isD_non (show isD y (q (!x.isNon)) from h)
    subst e
    cases r2
    exact ⟨rfl, by rw [isNon_V r1]; exact k _ h⟩
  | inn => exact in_ok (q := q) m r1 r2 h fun b hb => k _ hb
  | notin => exact in_ok (q := fun b => q (!b)) m r1 r2 h fun b hb => k _ hb
  | eqn => exact eqn_ok (q := q) m r1 r2 h k
theorem DT.cmp (sx : SX G X N sc) {o : Cm} {a b : Expr} {pos : Pos} {Q : Bool → Mem → Prop} (hb : isSetE b = false) (h : DE X EX a ρ μ fun x μ1 => DE X EX b ρ μ1 fun y μ2 => cmpD o x y μ2 fun c => Q c μ2) : DT X EX (.Compare a [o.op] [b] pos) ρ μ Q :=
  DT.op2 (cmp_pt (op_cm sx.un o) (mark_no hb)) h fun H F μ' v u x y Qv m r1 r2 q k => cm_ok (q := fun c => Q c μ') m r1 r2 q k
theorem DE.chain (sx : SX G X N sc) {o o' : Cm} {a b c : Expr} {pos : Pos} {Q : DK} (h : DE X EX a ρ μ fun x μ1 => DE X EX b ρ μ1 fun y μ2 => cmpD o x y μ2 fun k => if k = true then DE X EX c ρ μ2 fun z μ3 => cmpD o' y z μ3 fun k' => Q (.bl k') μ3 else Q (.bl false) μ2)
    (hc : ∀ ta tb tc, PE X a ta → PE X b tb → PE X c tc → PE X (.Compare a [o.op, o'.op] [b, c] pos) (tChain (rCm X.K o) (rCm X.K o') ta tb tc)) : DE X EX (.Compare a [o.op, o'.op] [b, c] pos) ρ μ Q := fun σ H F e m => by
  refine we_of (hc _ _ _ pe_we pe_we pe_we) ?_
  refine (h σ H F e m).mono fun v H1 ⟨x, F1, μ1, g1, m1, r1, q1⟩ => ?_
  refine (q1 σ H1 F1 (e.on g1 m) m1).mono fun u H2 ⟨y, F2, μ2, g2, m2, r2, q2⟩ => ?_
  refine cm_ok m2 (r1.stay (g2.stay m1)) r2 q2 fun k q => ⟨k, rfl, ?_⟩
  have g12 := g1.trans g2
  cases k with
  | false => exact ⟨_, F2, μ2, g12, m2, .bl _, q⟩
  | true =>
    rw [if_pos rfl] at q
    refine (q σ H2 F2 (e.on g12 m) m2).mono fun z H3 ⟨w, F3, μ3, g3, m3, r3, q3⟩ => ?_
    exact cm_ok m3 (r2.stay (g3.stay m2)) r3 q3 fun k' q' => ⟨_, F3, μ3, g12.trans g3, m3, .bl _, q'⟩
end
end DL
namespace DL
open PySem PySem.Spec PyProof.Rows L2
section
variable {G : Gc} {X : Cx} {N : List Str} {sc : Scope} {ρ : Rho} {μ : Mem}

/-! ### displays, subscripts -/
theorem DE.tup {es : List Expr} {k : Nat} {pos : Pos} {Q : DK} (h : DA X EX es ρ μ fun ds μ1 => ds.length ≤ 16777216 ∧ Q (.tup ds) μ1) : DE X EX (.Tuple es k pos) ρ μ Q := fun σ H F e m => by
  refine we_of (pe_tup pa_wa) ?_
  refine (h σ H F e m).mono fun vs H1 ⟨ds, F1, μ1, g1, m1, r1, hl, q⟩ => ⟨by rw [r1.length, line_eq]; exact hl, newT_ok m1 r1 q fun v H' p => p.pre g1⟩
theorem DE.lst {z : Bool} {es : List Expr} {pos : Pos} {Q : DK} (h : DA X EX es ρ μ fun ds μ1 => ds.length ≤ 16777216 ∧ newL z ds μ1 Q) : DE X EX (.List es pos) ρ μ Q := fun σ H F e m => by
  refine we_of (pe_lst pa_wa) ?_
  refine (h σ H F e m).mono fun vs H1 ⟨ds, F1, μ1, g1, m1, r1, hl, q⟩ => ⟨by rw [r1.length, line_eq]; exact hl, newL_ok m1 r1 q fun v H' p => p.pre g1⟩
theorem atI_rd {K H F} {vs : List V} {ds : List D} {k : Int} {d : D} (r : RDs K H F vs ds) (h : atI ds k = some d) : ∃ v, atI vs k = some v ∧ RD K H F v d := by
  unfold atI at h ⊢
  rw [r.length]
  cases e : ixN ds.length k with
  | none => rw [e] at h; cases h
  | some j =>
    rw [e] at h
    exact r.get h
theorem ix_ok {K H F} {v u : V} {x y : D} {Q : DK} {Qv : VK} (m : MS K H F μ) (r1 : RD K H F v x) (r2 : RD K H F u y) (h : ixD x y μ Q) (k : ∀ v H', Post K H F μ Q v H' → Qv v H') : rIx K v u H Qv := by
  cases y with
  | int i =>
    cases r2
    have gen2 : (optD (seqA μ x) fun l => optD (atI l i) fun d => Q d μ) → rIx K v (.int i) H Qv := fun h => by
      obtain ⟨l, hl, h⟩ := optD_ok h
      obtain ⟨d, e, h⟩ := optD_ok h
      obtain ⟨a, vs, ev, hs, rs⟩ := seqA_rd m r1 hl
      subst ev
      obtain ⟨w, hw, rw'⟩ := atI_rd rs e
      rcases hs with ⟨hs, _⟩ | ⟨hs, _⟩
      · exact .inl ⟨a, vs, i, w, rfl, rfl, hs, hw, k _ _ (.now m rw' h)⟩
      · exact .inr (.inl ⟨a, vs, i, w, rfl, rfl, hs, hw, k _ _ (.now m rw' h)⟩)
    cases x with
    | str s =>
      cases r1
      obtain ⟨hl, h⟩ := (show s.length ≤ 16777216 ∧ (optD (atI s.cps.toList i) fun c => Q (.str ⟨#[c]⟩) μ) from h)
      obtain ⟨c, e, h⟩ := optD_ok h
      exact .inr (.inr ⟨s, i, c, rfl, rfl, by rw [line_eq]; exact hl, e, k _ _ (.now m (.str _) h)⟩)
    | _ => exact gen2 h
  | _ => exact h.elim
theorem DE.ix {a b : Expr} {pos : Pos} {Q : DK} (hb : isSlice b = false) (h : DE X EX a ρ μ fun x μ1 => DE X EX b ρ μ1 fun y μ2 => ixD x y μ2 Q) : DE X EX (.Subscript a b pos) ρ μ Q :=
  DE.op2 (fun ta tb ha hb' => pe_ix ix_seq ha hb' (plain_ix hb)) h fun H F μ' v u x y Qv m r1 r2 q k => ix_ok m r1 r2 q k
/-- a part of a slice -/
def WO (X : Cx) (e : Option Expr) : TO := fun σ H Q => ∀ (pins : List (Addr × Obj)) (s : Shared), Inv X pins σ H s →
  wpAny (model X.prog X.w) X.A (evalPart e X.env) (fun u s' => ∃ o H', Inv X pins σ H' s' ∧ IsPart u o ∧ Q o H') X.xe s
theorem po_wo {e : Option Expr} : PO X e (WO X e) := ⟨fun pins s σ H Q I h => h pins s I⟩
theorem wo_of {e : Option Expr} {t : TO} {σ H Q} (h : PO X e t) (q : t σ H Q) : WO X e σ H Q := fun pins s I => h.run pins s σ H Q I q
theorem WO.mono {e : Option Expr} {σ H} {Q Q' : Option Int → Hp → Prop} (h : WO X e σ H Q) (m : ∀ v H', Q v H' → Q' v H') : WO X e σ H Q' :=
  fun pins s I => thn (h pins s I) fun u s' ⟨o, H', I', r, q⟩ => ⟨o, H', I', r, m o H' q⟩
def PostO (K : PySem.W.Frag) (H : Hp) (F : Addr → Prop) (μ : Mem) (Q : Option Int → Mem → Prop) : Option Int → Hp → Prop := fun b H' => ∃ F' μ', Grow H F μ H' F' μ' ∧ MS K H' F' μ' ∧ Q b μ'
def DO (X : Cx) (EX : EK) (e : Option Expr) (ρ : Rho) (μ : Mem) (Q : Option Int → Mem → Prop) : Prop := ∀ σ H F, RE X EX H F μ σ ρ → MS X.K H F μ → WO X e σ H (PostO X.K H F μ Q)
theorem DO.no {Q : Option Int → Mem → Prop} (q : Q none μ) : DO X EX none ρ μ Q := fun σ H F e m => wo_of po_none ⟨F, μ, .refl, m, q⟩
theorem DO.one {a : Expr} {Q : Option Int → Mem → Prop} (h : DE X EX a ρ μ fun d μ1 => parD d fun i => Q i μ1) : DO X EX (some a) ρ μ Q := fun σ H F e m => by
  refine wo_of (po_some pe_we) ?_
  refine (h σ H F e m).mono fun v H1 ⟨x, F1, μ1, g1, m1, r1, q1⟩ => ?_
  cases r1 with
  | int i => exact ⟨i, rfl, F1, μ1, g1, m1, q1⟩
  | _ => exact q1.elim
def rSlAll (K : PySem.W.Frag) : V → Option Int → Option Int → Hp → VK → Prop := fun x lo hi H Q => rSlS x lo hi H Q ∨ rSlA K x lo hi H Q ∨ rSlL K x lo hi H Q
theorem sl_all : SlR X (rSlAll X.K) := sl_str.or (sl_tupA.or sl_list)
theorem cut_rd {K H F} {vs : List V} {ds : List D} {lo hi : Option Int} (r : RDs K H F vs ds) : RDs K H F (cutV vs lo hi) (cutD ds lo hi) := by
  unfold cutV cutD
  rw [r.length]
  exact (r.drop _).take _
theorem cut_all {ds : List D} {lo hi : Option Int} (h : HT.sIx ds.length 0 lo = 0 ∧ HT.sIx ds.length ds.length hi = ds.length) : cutD ds lo hi = ds := by
  unfold cutD
  rw [h.1, h.2]
  simp
theorem sl_ok {K H F} {z : Bool} {v : V} {x : D} {lo hi : Option Int} {Q : DK} {Qv : VK} (m : MS K H F μ) (r1 : RD K H F v x) (h : slD z x lo hi μ Q) (k : ∀ v H', Post K H F μ Q v H' → Qv v H') : rSlAll K v lo hi H Qv := by
  have gen : (optD (seqL μ x) fun l => newL z (cutD l lo hi) μ Q) → rSlAll K v lo hi H Qv := fun h => by
    obtain ⟨l, e, h⟩ := optD_ok h
    obtain ⟨a, vs, ev, hs, rs⟩ := seqL_rd m r1 e
    exact .inr (.inr ⟨a, vs, ev, hs, newL_ok m (cut_rd rs) h k⟩)
  cases x with
  | str s => cases r1; exact .inl ⟨s, rfl, by rw [line_eq]; exact h.1, k _ _ (.now m (.str _) h.2)⟩
  | tup l =>
    have h : Q (.tup (cutD l lo hi)) μ := h
    cases r1 with
    | tup t rs =>
    refine .inr (.inl ⟨_, _, rfl, t, fun e => ?_, fun _ => newT_ok m (cut_rd rs) h k⟩)
    rw [rs.length] at e
    rw [cut_all e] at h
    exact k _ _ (.now m (.tup t rs) h)
  | tpl l =>
    have h : Q (.tpl (cutD l lo hi)) μ := h
    cases r1 with
    | tpl f t rs =>
    refine .inr (.inl ⟨_, _, rfl, .inl (.inl t), fun e => ?_, fun _ p hp => ?_⟩)
    · rw [rs.length] at e
      rw [cut_all e] at h
      exact k _ _ (.now m (.tpl f t rs) h)
    · obtain ⟨F2, g2, m2, k2⟩ := new_fz (u := .tup _) m hp
      exact k _ _ ⟨_, F2, μ, g2, m2, .tpl k2 upd_same ((cut_rd rs).stay (g2.stay m)), h⟩
  | tpz l =>
    have h : Q (.tup (cutD l lo hi)) μ := h
    cases r1 with
    | tpz f t _ _ rs =>
    refine .inr (.inl ⟨_, _, rfl, .inl (.inr ⟨_, t⟩), fun e => ?_, fun _ => newT_ok m (cut_rd rs) h k⟩)
    rw [rs.length] at e
    rw [cut_all e] at h
    exact k _ _ (.now m (.tup (.inl (.inr ⟨_, t⟩)) rs) h)
  | _ => exact gen h
theorem DE.sl {z : Bool} {a : Expr} {lo hi : Option Expr} {pos p2 : Pos} {Q : DK} (h : DE X EX a ρ μ fun x μ1 => DO X EX lo ρ μ1 fun l μ2 => DO X EX hi ρ μ2 fun u μ3 => slD z x l u μ3 Q) : DE X EX (.Subscript a (.Slice lo hi none p2) pos) ρ μ Q := fun σ H F e m => by
  refine we_of (pe_slice sl_all pe_we po_wo po_wo) ?_
  refine (h σ H F e m).mono fun v H1 ⟨x, F1, μ1, g1, m1, r1, q1⟩ => ?_
  refine (q1 σ H1 F1 (e.on g1 m) m1).mono fun l H2 ⟨F2, μ2, g2, m2, q2⟩ => ?_
  have g12 := g1.trans g2
  refine (q2 σ H2 F2 (e.on g12 m) m2).mono fun u H3 ⟨F3, μ3, g3, m3, q3⟩ => ?_
  exact sl_ok m3 (r1.stay ((g2.trans g3).stay m1)) q3 fun v' H' p => p.pre (g12.trans g3)
theorem DE.fz {a : Expr} {Q : DK} (h : DE X EX a ρ μ fun x μ1 => fzD x μ1 Q) : DE X EX a ρ μ Q := fun σ H F e m => by
  refine (h σ H F e m).mono fun v H1 ⟨x, F1, μ1, g1, m1, r1, q1⟩ => ?_
  cases x with
  | ref a =>
    obtain ⟨l, e2, q1⟩ := optD_ok (show optD (seqL μ1 (.ref a)) _ from q1)
    cases r1
    obtain ⟨F2, g2, m2, r2⟩ := freeze m1 (seqL_ref e2)
    exact ⟨_, F2, _, g1.trans g2, m2, r2, q1⟩
  | _ => exact ⟨_, F1, μ1, g1, m1, r1, q1⟩

theorem shutD_ok {y : D} {k : Mem → Prop} (h : shutD y μ k) : ∃ a p q r, y = .ref a ∧ μ a = some (.lst (.int p :: .int q :: r)) ∧ (0 ≤ p ∧ 0 ≤ q ∧ q < 2147483648) ∧ k (mset μ a (.pot r)) := by
  cases y with
  | ref a =>
    obtain ⟨l, e, h⟩ := optD_ok (show optD (seqL μ (.ref a)) _ from h)
    match l, e, h with
    | .int p :: .int q :: r, e, h => exact ⟨a, p, q, r, rfl, seqL_ref e, h.1, h.2⟩
  | _ => exact h.elim
theorem openD_ok {y : D} {k : Mem → Prop} (h : openD y μ k) : ∃ a r, y = .ref a ∧ μ a = some (.pot r) ∧ ∀ p q : Int, 0 ≤ p → 0 ≤ q → q < 2147483648 → k (mset μ a (.lst (.int p :: .int q :: r))) := by
  cases y with
  | ref a =>
    obtain ⟨l, e, h⟩ := optD_ok (show optD (potOf μ a) _ from h)
    refine ⟨a, l, rfl, ?_, h⟩
    unfold potOf at e
    split at e
    · cases e; assumption
    · cases e
  | _ => exact h.elim
theorem drop_ok {K H F} {ρ : Rho} : ∀ (is : List Nat) {μ : Mem}, MS K H F μ → Grow H F μ H F (dropM ρ is μ) ∧ MS K H F (dropM ρ is μ)
  | [], μ, m => ⟨.refl, m⟩
  | i :: is, μ, m => by
    have h1 : Grow H F μ H F (mdelO μ (refAt ρ i)) ∧ MS K H F (mdelO μ (refAt ρ i)) := by
      cases refAt ρ i with
      | none => exact ⟨.refl, m⟩
      | some a => exact forget_mem a m
    obtain ⟨g2, m2⟩ := drop_ok (ρ := ρ) is h1.2
    exact ⟨h1.1.trans g2, m2⟩
theorem DE.drop {is : List Nat} {a : Expr} {Q : DK} (h : DE X EX a ρ μ fun x μ1 => Q x (dropM ρ is μ1)) : DE X EX a ρ μ Q := fun σ H F e m => by
  refine (h σ H F e m).mono fun v H1 ⟨x, F1, μ1, g1, m1, r1, q1⟩ => ?_
  obtain ⟨g2, m2⟩ := drop_ok (ρ := ρ) is m1
  exact ⟨x, F1, _, g1.trans g2, m2, r1, q1⟩
/-- what leaves forgets some objects -/
theorem DE.lax {is : List Nat} {a : Expr} {Q : DK} (h : DE X (fun c ds μ' => EX c ds (dropM ρ is μ')) a ρ μ Q) : DE X EX a ρ μ Q := fun σ H F e m =>
  h σ H F ⟨e.toREnv, e.tk.imp fun c d _ H' ⟨c', ds, F', μ', hm, g, ms, at_, q⟩ => let ⟨g2, m2⟩ := drop_ok (ρ := ρ) is ms; ⟨c', ds, F', _, hm, g.trans g2, m2, at_, q⟩⟩ m
theorem DE.pt {a : Expr} {Q : DK} (h : DE X EX a ρ μ fun x μ1 => shutD x μ1 fun μ2 => Q x μ2) : DE X EX a ρ μ Q := fun σ H F e m => by
  refine (h σ H F e m).mono fun v H1 ⟨x, F1, μ1, g1, m1, r1, q1⟩ => ?_
  obtain ⟨b, p, q, r, ey, em, bd, k⟩ := shutD_ok q1
  obtain ⟨g2, m2⟩ := shut_pot m1 em bd
  exact ⟨x, F1, _, g1.trans g2, m2, r1, k⟩
theorem DE.shut {i : Nat} {a : Expr} {Q : DK} (h : DE X EX a ρ μ fun x μ1 => getV ρ i fun y => shutD y μ1 fun μ2 => Q x μ2) : DE X EX a ρ μ Q := fun σ H F e m => by
  refine (h σ H F e m).mono fun v H1 ⟨x, F1, μ1, g1, m1, r1, q1⟩ => ?_
  obtain ⟨y, _, q1⟩ := getV_ok q1
  obtain ⟨b, p, q, r, ey, em, bd, k⟩ := shutD_ok q1
  obtain ⟨g2, m2⟩ := shut_pot m1 em bd
  exact ⟨x, F1, _, g1.trans g2, m2, r1, k⟩

/-! ### calls -/
theorem DE.callB {id : String} {r : List V → Hp → VK → Prop} {x : Str} {e : Expr} {es : List Expr} {p pos : Pos} {R : List D → Mem → Prop} {Q : DK} (hc : CallR X (.builtin id) r) (hg : Gl X x) (hm : X.mg x = none) (hv : bootBuiltins x = some (.builtin id)) (hn : nmB x = true) (hs : (e :: es).all noStar = true)
    (h : DA X EX (e :: es) ρ μ R) (hop : ∀ H F μ' vs ds (Qv : VK), MS X.K H F μ' → RDs X.K H F vs ds → R ds μ' → (∀ v H', Post X.K H F μ' Q v H' → Qv v H') → r vs H Qv) : DE X EX (.Call (.Name x p) (e :: es) [] pos) ρ μ Q := fun σ H F en m => by
  have hs2 := hs
  rw [List.all_cons, Bool.and_eq_true] at hs2
  refine we_of (pe_callB hc hg hm hv pa_wa (nm3 hn).2.2 (nm3 hn).1 (star_cons hs2.1) (star_any hs2.2)) ?_
  exact (h σ H F en m).mono fun vs H1 ⟨ds, F1, μ1, g1, m1, r1, q1⟩ => hop H1 F1 μ1 vs ds _ m1 r1 q1 fun v' H' p => p.pre g1
theorem DE.callTy {id : String} {r : List V → Hp → VK → Prop} {x : Str} {e : Expr} {es : List Expr} {p pos : Pos} {R : List D → Mem → Prop} {Q : DK} (hc : CallR X (.type id) r) (hg : Gl X x) (hm : X.mg x = none) (hv : bootBuiltins x = some (.type id)) (hn : nmB x = true) (hs : (e :: es).all noStar = true)
    (h : DA X EX (e :: es) ρ μ R) (hop : ∀ H F μ' vs ds (Qv : VK), MS X.K H F μ' → RDs X.K H F vs ds → R ds μ' → (∀ v H', Post X.K H F μ' Q v H' → Qv v H') → r vs H Qv) : DE X EX (.Call (.Name x p) (e :: es) [] pos) ρ μ Q := fun σ H F en m => by
  have hs2 := hs
  rw [List.all_cons, Bool.and_eq_true] at hs2
  refine we_of (pe_callTy hc hg hm hv pa_wa (nm3 hn).2.2 (nm3 hn).1 (star_cons hs2.1) (star_any hs2.2)) ?_
  exact (h σ H F en m).mono fun vs H1 ⟨ds, F1, μ1, g1, m1, r1, q1⟩ => hop H1 F1 μ1 vs ds _ m1 r1 q1 fun v' H' p => p.pre g1
theorem DE.call (sx : SX G X N sc) {f : Str} {e : Expr} {es : List Expr} {p pos : Pos} {Q : DK} (hh : G.has f = true) (hg : gloB sc f = true) (hn : nmB f = true) (hs : (e :: es).all noStar = true)
    (h : DA X EX (e :: es) ρ μ fun ds μ1 => G.fn f ds μ1 Q EX) : DE X EX (.Call (.Name f p) (e :: es) [] pos) ρ μ Q := fun σ H F en m => by
  obtain ⟨k, fa, fd, ps, ok, room, hm, hk, hb⟩ := sx.fn f hh
  have hs2 := hs
  rw [List.all_cons, Bool.and_eq_true] at hs2
  refine we_of (pe_call (E := fun cls d H' => Wish X.K X.mg H F μ EX cls d H') ok room (sx.glo hg) hm hk hb .nil (passes_call en.tk.takes fun _ _ _ _ h => h) pa_wa (nm3 hn).1 (star_cons hs2.1) (star_any hs2.2)) ?_
  refine (h σ H F en m).mono fun vs H1 ⟨ds, F1, μ1, g1, m1, r1, q1⟩ => ?_
  rw [List.append_nil]
  exact ⟨F1, μ1, ds, Q, EX, m1, r1, q1, fun v H' p => p.pre g1, fun _ _ _ w => w.pre g1⟩
theorem DE.call0 (sx : SX G X N sc) {f : Str} {p pos : Pos} {Q : DK} (hh : G.has f = true) (hg : gloB sc f = true) (hn : nmB f = true)
    (h : G.fn f [] μ Q EX) : DE X EX (.Call (.Name f p) [] [] pos) ρ μ Q := fun σ H F en m => by
  obtain ⟨k, fa, fd, ps, ok, room, hm, hk, hb⟩ := sx.fn f hh
  exact we_of (pe_call0 (E := fun cls d H' => Wish X.K X.mg H F μ EX cls d H') ok room (sx.glo hg) hm hk hb .nil (passes_call en.tk.takes fun _ _ _ _ h => h) (nm3 hn).1) ⟨F, μ, [], Q, EX, m, .nil, h, fun v H' p => p, fun _ _ _ w => w⟩

theorem asInts_eq : ∀ {ds : List D} {ns : List Int}, asInts ds = some ns → ds = ns.map D.int
  | [], ns, h => by cases h; rfl
  | .int i :: r, ns, h => by
    have h : (asInts r).map (i :: ·) = some ns := h
    cases e : asInts r with
    | none => rw [e] at h; cases h
    | some ms => rw [e] at h; cases h; rw [asInts_eq e]; rfl
  | .non :: _, _, h => nomatch h
  | .bl _ :: _, _, h => nomatch h
  | .str _ :: _, _, h => nomatch h
  | .tup _ :: _, _, h => nomatch h
  | .lst _ :: _, _, h => nomatch h
  | .lk _ :: _, _, h => nomatch h
  | .ref _ :: _, _, h => nomatch h
theorem asBls_eq : ∀ {ds : List D} {ns : List Bool}, asBls ds = some ns → ds = ns.map D.bl
  | [], ns, h => by cases h; rfl
  | .bl i :: r, ns, h => by
    have h : (asBls r).map (i :: ·) = some ns := h
    cases e : asBls r with
    | none => rw [e] at h; cases h
    | some ms => rw [e] at h; cases h; rw [asBls_eq e]; rfl
  | .non :: _, _, h => nomatch h
  | .int _ :: _, _, h => nomatch h
  | .str _ :: _, _, h => nomatch h
  | .tup _ :: _, _, h => nomatch h
  | .lst _ :: _, _, h => nomatch h
  | .lk _ :: _, _, h => nomatch h
  | .ref _ :: _, _, h => nomatch h
theorem asStrs_eq : ∀ {ds : List D} {ns : List Str}, asStrs ds = some ns → ds = ns.map D.str
  | [], ns, h => by cases h; rfl
  | .str i :: r, ns, h => by
    have h : (asStrs r).map (i :: ·) = some ns := h
    cases e : asStrs r with
    | none => rw [e] at h; cases h
    | some ms => rw [e] at h; cases h; rw [asStrs_eq e]; rfl
  | .non :: _, _, h => nomatch h
  | .int _ :: _, _, h => nomatch h
  | .bl _ :: _, _, h => nomatch h
  | .tup _ :: _, _, h => nomatch h
  | .lst _ :: _, _, h => nomatch h
  | .lk _ :: _, _, h => nomatch h
  | .ref _ :: _, _, h => nomatch h
theorem one_of {K H F} {vs : List V} {x : D} (r : RDs K H F vs [x]) : ∃ v, vs = [v] ∧ RD K H F v x := by
  cases r with
  | cons h r => cases r; exact ⟨_, rfl, h⟩
theorem two_of {K H F} {vs : List V} {x y : D} (r : RDs K H F vs [x, y]) : ∃ v u, vs = [v, u] ∧ RD K H F v x ∧ RD K H F u y := by
  cases r with
  | cons h r =>
    obtain ⟨u, e, h2⟩ := one_of r
    subst e
    exact ⟨_, u, rfl, h, h2⟩
/-- what a list of ints, of truths is -/
theorem ints_rd {K H F} {v : V} {x : D} {l : List D} {ns : List Int} (m : MS K H F μ) (r : RD K H F v x) (h : seqL μ x = some l) (hi : asInts l = some ns) : ∃ a, v = .ref a ∧ SqL K H a (ns.map V.int) := by
  obtain ⟨a, vs, e, hs, rs⟩ := seqL_rd m r h
  rw [asInts_eq hi] at rs
  rw [rs.ints] at hs
  exact ⟨a, e, hs⟩
theorem bls_rd {K H F} {v : V} {x : D} {l : List D} {ns : List Bool} (m : MS K H F μ) (r : RD K H F v x) (h : seqL μ x = some l) (hi : asBls l = some ns) : ∃ a, v = .ref a ∧ SqL K H a (ns.map V.bl) := by
  obtain ⟨a, vs, e, hs, rs⟩ := seqL_rd m r h
  rw [asBls_eq hi] at rs
  rw [rs.bls] at hs
  exact ⟨a, e, hs⟩
theorem seqA_or {K H F} {v : V} {x : D} {l : List D} (m : MS K H F μ) (r : RD K H F v x) (h : seqA μ x = some l) : ∃ p vs, v = .ref p ∧ (SqL K H p vs ∨ SqT K H p vs) ∧ RDs K H F vs l := by
  obtain ⟨a, vs, e, hs, rs⟩ := seqA_rd m r h
  exact ⟨a, vs, e, hs.elim (fun z => .inl z.1) (fun z => .inr z.1), rs⟩
theorem len_ok {K H F} {vs : List V} {x : D} {Q : DK} {Qv : VK} (m : MS K H F μ) (r : RDs K H F vs [x]) (h : lenD x μ Q) (k : ∀ v H', Post K H F μ Q v H' → Qv v H') : ∃ x n, vs = [x] ∧ LenV K x H n ∧ Qv (.int n) H := by
  obtain ⟨v, e, r1⟩ := one_of r
  subst e
  have gen : (optD (seqA μ x) fun l => Q (.int l.length) μ) → ∃ x n, [v] = [x] ∧ LenV K x H n ∧ Qv (.int n) H := fun h => by
    obtain ⟨l, e, h⟩ := optD_ok h
    obtain ⟨p, vs, ev, hs, rs⟩ := seqA_or m r1 e
    subst ev
    refine ⟨_, vs.length, rfl, hs.elim (fun z => .inl ⟨vs, z, rfl⟩) (fun z => .inr ⟨vs, z, rfl⟩), ?_⟩
    rw [rs.length]
    exact k _ _ (.now m (.int _) h)
  cases x with
  | str s => cases r1; exact ⟨_, s.length, rfl, ⟨by rw [line_eq]; exact h.1, rfl⟩, k _ _ (.now m (.int _) h.2)⟩
  | _ => exact gen h
def rIntA : List V → Hp → VK → Prop := fun xs H Q => ((∃ i, xs = [.int i] ∧ Q (.int i) H) ∨ ∃ k, xs = [.bl k] ∧ Q (.int (if k then 1 else 0)) H) ∨ ∃ a n, xs = [.str a] ∧ PySem.intText? a = some n ∧ a.length ≤ 640 ∧ Q (.int n) H
theorem CallR.or {f : Value} {r r' : List V → Hp → VK → Prop} (h : CallR X f r) (h' : CallR X f r') : CallR X f (fun xs H Q => r xs H Q ∨ r' xs H Q) := by
  intro pins s σ H xs us Q I r q
  rcases q with q | q
  · exact h pins s σ H xs us Q I r q
  · exact h' pins s σ H xs us Q I r q
theorem call_intA : CallR X (.type "int") rIntA := CallR.or call_int1 call_int_str
theorem int_ok {K H F} {vs : List V} {x : D} {Q : DK} {Qv : VK} (m : MS K H F μ) (r : RDs K H F vs [x]) (h : intD x μ Q) (k : ∀ v H', Post K H F μ Q v H' → Qv v H') : rIntA vs H Qv := by
  obtain ⟨v, e, r1⟩ := one_of r
  subst e
  cases x with
  | int i => cases r1; exact .inl (.inl ⟨i, rfl, k _ _ (.now m (.int _) h)⟩)
  | bl b => cases r1; exact .inl (.inr ⟨b, rfl, k _ _ (.now m (.int _) h)⟩)
  | str s =>
    cases r1
    obtain ⟨hl, h⟩ := (show s.length ≤ 640 ∧ (optD (PySem.intText? s) fun n => Q (.int n) μ) from h)
    obtain ⟨n, e, h⟩ := optD_ok h
    exact .inr ⟨s, n, rfl, e, hl, k _ _ (.now m (.int _) h)⟩
  | _ => exact h.elim
def rStrA : List V → Hp → VK → Prop := fun xs H Q => (∃ i, xs = [.int i] ∧ i.natAbs.log2 < 1920 ∧ Q (.str (toString i)) H) ∨ ((∃ a, xs = [.str a] ∧ Q (.str a) H) ∨ (xs = [.non] ∧ Q (.str "None") H))
theorem call_str_none : CallR X (.type "str") (fun xs H Q => xs = [.non] ∧ Q (.str "None") H) := by
  intro pins s σ H xs us Q I r h
  obtain ⟨rfl, q⟩ := h
  obtain ⟨u, rfl, r1⟩ := vals1 r
  cases r1
  exact PySem.P.str_of_none ⟨.str _, H, I.tok _, ⟨_, rfl⟩, q⟩
theorem call_strA : CallR X (.type "str") rStrA := CallR.or call_str_int (CallR.or SkE.call_str_str call_str_none)
theorem str_ok {K H F} {vs : List V} {x : D} {Q : DK} {Qv : VK} (m : MS K H F μ) (r : RDs K H F vs [x]) (h : strD x μ Q) (k : ∀ v H', Post K H F μ Q v H' → Qv v H') : rStrA vs H Qv := by
  obtain ⟨v, e, r1⟩ := one_of r
  subst e
  cases x with
  | int i => cases r1; exact .inl ⟨i, rfl, h.1, k _ _ (.now m (.str _) h.2)⟩
  | str s => cases r1; exact .inr (.inl ⟨s, rfl, k _ _ (.now m (.str _) h)⟩)
  | non => cases r1; exact .inr (.inr ⟨rfl, k _ _ (.now m (.str _) h)⟩)
  | _ => exact h.elim
theorem tuple_ok {K H F} {vs : List V} {x : D} {Q : DK} {Qv : VK} (m : MS K H F μ) (r : RDs K H F vs [x]) (h : tupleD x μ Q) (k : ∀ v H', Post K H F μ Q v H' → Qv v H') :
    ∃ p ys, vs = [.ref p] ∧ ((SqL K H p ys ∧ ∀ l, H l = none → Qv (.ref l) (upd H l (.tup ys))) ∨ (SqT K H p ys ∧ Qv (.ref p) H)) := by
  obtain ⟨v, e, r1⟩ := one_of r
  subst e
  unfold tupleD at h
  obtain ⟨l, e, h⟩ := optD_ok h
  obtain ⟨p, ws, ev, hs, rs⟩ := seqA_rd m r1 e
  subst ev
  rcases hs with ⟨hs, _⟩ | ⟨hs, ex⟩
  · exact ⟨p, ws, rfl, .inl ⟨hs, newT_ok m rs h k⟩⟩
  · exact ⟨p, ws, rfl, .inr ⟨hs, k _ _ (.now m (.tup hs rs) h)⟩⟩
/-- list(x), x a list, a tuple, a text -/
def rListS : List V → Hp → VK → Prop := fun xs H Q => ∃ s : Str, xs = [.str s] ∧ s.length ≤ sizeLine ∧ ∀ p, H p = none → Q (.ref p) (upd H p (.lst (s.cps.toList.map fun c => V.str ⟨#[c]⟩)))
theorem call_listS {X : Cx} (hc : X.calm = true) : CallR X (.type "list") rListS := by
  intro pins s σ H xs us Q I r h
  obtain ⟨x, rfl, hl, q⟩ := h
  obtain ⟨u, rfl, t, rfl⟩ := vals1 r
  have hl2 : x.cps.size ≤ sizeLine := hl
  refine call_list_str (I.ok.hd hc) x t (fun h' tk acc c k1 k2 k3 => ?_) hl2
  have vv : Vals (x.cps.toList.map fun c => V.str ⟨#[c]⟩) acc.toList := vals_of_at (by simp [k3.1]) fun j y u hy hu => by
    obtain ⟨c, t2, e1, e2⟩ := k3.2 j u (by rw [← Array.getElem?_toList]; exact hu)
    rw [List.getElem?_map, Array.getElem?_toList, e1] at hy
    cases hy
    exact ⟨t2, e2⟩
  exact ⟨.ref _, _, I.laid (t' := tk) k1 (Nat.le_refl _) (show ObjOk X.prog X.w _ h' _ (.lst _) from ⟨by rw [List.length_map, Array.length_toList]; exact hl2, acc.toList, c, vv, by simpa using k2⟩), rfl, q _ (I.hok.fresh (Nat.le_refl _))⟩
def rListA (K : PySem.W.Frag) : List V → Hp → VK → Prop := fun xs H Q => (∃ p ys, xs = [.ref p] ∧ (SqL K H p ys ∨ SqT K H p ys) ∧ ∀ l, H l = none → Q (.ref l) (upd H l (.lst ys))) ∨ rListS xs H Q
theorem call_listA {X : Cx} (hc : X.calm = true) : CallR X (.type "list") (rListA X.K) := CallR.or call_list_of (call_listS hc)
theorem RDs.of_chars {K H F} : ∀ {l : List Nat}, RDs K H F (l.map fun c => V.str ⟨#[c]⟩) (l.map fun c => D.str ⟨#[c]⟩)
  | [] => .nil
  | c :: l => .cons (.str _) RDs.of_chars
theorem list_ok {K H F} {z : Bool} {vs : List V} {x : D} {Q : DK} {Qv : VK} (m : MS K H F μ) (r : RDs K H F vs [x]) (h : listD z x μ Q) (k : ∀ v H', Post K H F μ Q v H' → Qv v H') : rListA K vs H Qv := by
  obtain ⟨v, e, r1⟩ := one_of r
  subst e
  have gen : ∀ {l : List D}, seqA μ x = some l → newL z l μ Q → rListA K [v] H Qv := fun {l} e h => by
    obtain ⟨p, ws, ev, hs, rs⟩ := seqA_or m r1 e
    subst ev
    exact .inl ⟨p, ws, rfl, hs, newL_ok m rs h k⟩
  unfold listD at h
  cases x with
  | str s =>
    cases r1
    exact .inr ⟨s, rfl, by rw [line_eq]; exact h.1, newL_ok m .of_chars h.2 k⟩
  | _ =>
    obtain ⟨l, e, h⟩ := optD_ok h
    exact gen e h
theorem best1_ok {K H F} {g : Int → Int → Prop} {vs : List V} {x : D} {Q : DK} {Qv : VK} (m : MS K H F μ) (r : RDs K H F vs [x]) (h : best1 g x μ Q) (k : ∀ v H', Post K H F μ Q v H' → Qv v H') :
    ∃ (a : Addr) (ns : List Int), vs = [V.ref a] ∧ SqL K H a (ns.map V.int) ∧ 0 < ns.length ∧ ∀ m, m ∈ ns → (∀ y, y ∈ ns → g y m) → Qv (.int m) H := by
  obtain ⟨v, e, r1⟩ := one_of r
  subst e
  unfold best1 at h
  obtain ⟨l, e, h⟩ := optD_ok h
  obtain ⟨ns, e2, h⟩ := optD_ok h
  obtain ⟨a, ev, hs⟩ := ints_rd m r1 e e2
  subst ev
  exact ⟨a, ns, rfl, hs, h.1, fun i h1 h2 => k _ _ (.now m (.int _) (h.2 i h1 h2))⟩
theorem best2_ok {K H F} {p : Int → Int → Bool} {vs : List V} {x y : D} {Q : DK} {Qv : VK} (m : MS K H F μ) (r : RDs K H F vs [x, y]) (h : best2 p x y μ Q) (k : ∀ v H', Post K H F μ Q v H' → Qv v H') :
    ∃ i j, vs = [.int i, .int j] ∧ Qv (.int (if p j i then j else i)) H := by
  obtain ⟨v, u, e, r1, r2⟩ := two_of r
  subst e
  cases x with
  | int i =>
    cases y with
    | int j => cases r1; cases r2; exact ⟨i, j, rfl, k _ _ (.now m (.int _) h)⟩
    | _ => exact h.elim
  | _ => exact h.elim
def rBest (K : PySem.W.Frag) (p : Int → Int → Bool) (g : Int → Int → Prop) : List V → Hp → VK → Prop := fun vs H Q => (∃ i j, vs = [.int i, .int j] ∧ Q (.int (if p j i then j else i)) H) ∨ ∃ (a : Addr) (ns : List Int), vs = [V.ref a] ∧ SqL K H a (ns.map V.int) ∧ 0 < ns.length ∧ ∀ m, m ∈ ns → (∀ y, y ∈ ns → g y m) → Q (.int m) H
theorem best_ok {K H F} {p : Int → Int → Bool} {g : Int → Int → Prop} {vs : List V} {ds : List D} {Q : DK} {Qv : VK} (m : MS K H F μ) (r : RDs K H F vs ds) (h : bestD p g ds μ Q) (k : ∀ v H', Post K H F μ Q v H' → Qv v H') : rBest K p g vs H Qv := by
  match ds, r, h with
  | [x], r, h => exact .inr (best1_ok m r h k)
  | [x, y], r, h => exact .inl (best2_ok m r h k)
theorem call_maxA (hc : X.calm = true) : CallR X (.builtin "max") (rBest X.K (fun j i => decide (j > i)) (fun y m => y ≤ m)) := by
  refine CallR.or ?_ (cr_max hc)
  intro pins s σ H xs us Q I r ⟨i, j, e, q⟩
  exact call_max2 hc pins s σ H xs us Q I r ⟨i, j, e, by simpa using q⟩
theorem call_minA (hc : X.calm = true) : CallR X (.builtin "min") (rBest X.K (fun j i => decide (j < i)) (fun y m => m ≤ y)) := by
  refine CallR.or ?_ (cr_min hc)
  intro pins s σ H xs us Q I r ⟨i, j, e, q⟩
  exact call_min2 hc pins s σ H xs us Q I r ⟨i, j, e, by simpa using q⟩
theorem one_ds {ds : List D} {p : D → Prop} (h : oneD ds p) : ∃ x, ds = [x] ∧ p x := by
  match ds, h with
  | [x], h => exact ⟨x, rfl, h⟩
theorem divp_of {i j : Int} (h : 0 < j ∧ j ≤ 2 ^ 256) : CDivP i j := by
  refine ⟨h.1, PyProof.noPylong_of_log2 ?_⟩
  have hb : j.natAbs < 2 ^ 257 := by omega
  exact Nat.lt_of_lt_of_le (PySem.Flt.log2_lt_of (by decide) hb) (by decide)
theorem DE.bi (sx : SX G X N sc) {z : Bool} {f : Bi} {e : Expr} {es : List Expr} {p pos : Pos} {Q : DK} (hg : gloB sc f.nm = true) (hs : (e :: es).all noStar = true)
    (h : DA X EX (e :: es) ρ μ fun ds μ1 => biD z f ds μ1 Q) : DE X EX (.Call (.Name f.nm p) (e :: es) [] pos) ρ μ Q := by
  have gl := sx.glo hg
  have calm := sx.calm
  have bm : X.mg f.nm = none := sx.blt _ (by cases f <;> decide +kernel)
  have nm : nmB f.nm = true := by cases f <;> decide +kernel
  cases f with
  | len =>
    refine DE.callB call_len gl bm boot_len nm hs h fun H F μ' vs ds Qv m r q k => ?_
    obtain ⟨x, e, q⟩ := one_ds q; subst e; exact len_ok m r q k
  | int =>
    refine DE.callTy call_intA gl bm boot_int nm hs h fun H F μ' vs ds Qv m r q k => ?_
    obtain ⟨x, e, q⟩ := one_ds q; subst e; exact int_ok m r q k
  | str =>
    refine DE.callTy call_strA gl bm boot_str nm hs h fun H F μ' vs ds Qv m r q k => ?_
    obtain ⟨x, e, q⟩ := one_ds q; subst e; exact str_ok m r q k
  | tuple =>
    refine DE.callTy call_tuple_of gl bm boot_tuple nm hs h fun H F μ' vs ds Qv m r q k => ?_
    obtain ⟨x, e, q⟩ := one_ds q; subst e; exact tuple_ok m r q k
  | list =>
    refine DE.callTy (call_listA sx.calm) gl bm boot_list nm hs h fun H F μ' vs ds Qv m r q k => ?_
    obtain ⟨x, e, q⟩ := one_ds q; subst e; exact list_ok m r q k
  | abs =>
    refine DE.callB call_abs gl bm boot_abs nm hs h fun H F μ' vs ds Qv m r q k => ?_
    obtain ⟨x, e, q⟩ := one_ds q; subst e
    obtain ⟨v, e, r1⟩ := one_of r
    subst e
    cases x with
    | int i => cases r1; exact ⟨i, rfl, k _ _ (.now m (.int _) q)⟩
    | _ => exact q.elim
  | max => exact DE.callB (call_maxA calm) gl bm boot_max nm hs h fun H F μ' vs ds Qv m r q k => best_ok m r q k
  | min => exact DE.callB (call_minA calm) gl bm boot_min nm hs h fun H F μ' vs ds Qv m r q k => best_ok m r q k
  | divmod =>
    refine DE.callB call_divmodW gl bm boot_divmod nm hs h fun H F μ' vs ds Qv m r q k => ?_
    match ds, r, q with
    | [x, y], r, q =>
      obtain ⟨v, u, e, r1, r2⟩ := two_of r
      subst e
      cases x with
      | int i =>
        cases y with
        | int j => cases r1; cases r2; exact ⟨i, j, rfl, divp_of q.1, newT_ok m (.cons (.int _) (.cons (.int _) .nil)) q.2 k⟩
        | _ => exact q.elim
      | _ => exact q.elim
  | sum =>
    refine DE.callB (cr_sum calm) gl bm boot_sum nm hs h fun H F μ' vs ds Qv m r q k => ?_
    obtain ⟨x, e, q⟩ := one_ds q; subst e
    obtain ⟨l, h1, q⟩ := optD_ok q
    obtain ⟨ns, h2, q⟩ := optD_ok q
    obtain ⟨v, e, r1⟩ := one_of r
    subst e
    obtain ⟨a, ev, hs⟩ := ints_rd m r1 h1 h2
    subst ev
    exact ⟨a, ns, rfl, hs, k _ _ (.now m (.int _) q)⟩
  | any =>
    refine DE.callB (cr_any calm) gl bm boot_any nm hs h fun H F μ' vs ds Qv m r q k => ?_
    obtain ⟨x, e, q⟩ := one_ds q; subst e
    obtain ⟨l, h1, q⟩ := optD_ok q
    obtain ⟨ns, h2, q⟩ := optD_ok q
    obtain ⟨v, e, r1⟩ := one_of r
    subst e
    obtain ⟨a, ev, hs⟩ := bls_rd m r1 h1 h2
    subst ev
    exact ⟨a, ns, rfl, hs, k _ _ (.now m (.bl _) q)⟩
  | all =>
    refine DE.callB (cr_all calm) gl bm boot_all nm hs h fun H F μ' vs ds Qv m r q k => ?_
    obtain ⟨x, e, q⟩ := one_ds q; subst e
    obtain ⟨l, h1, q⟩ := optD_ok q
    obtain ⟨ns, h2, q⟩ := optD_ok q
    obtain ⟨v, e, r1⟩ := one_of r
    subst e
    obtain ⟨a, ev, hs⟩ := bls_rd m r1 h1 h2
    subst ev
    exact ⟨a, ns, rfl, hs, k _ _ (.now m (.bl _) q)⟩
/-- isinstance -/
def tyN (x : D) : String := match x with
  | .non => "NoneType" | .bl _ => "bool" | .int _ => "int" | .str _ => "str" | .tup _ => "tuple" | .lst _ => "list" | .lk _ => "list" | .ref _ => "list" | .emp => "dict" | .exc _ _ _ => "dict" | .ins _ _ _ => "dict" | .tpl _ => "dict" | .tpz _ => "tuple"
theorem kit_all (t : Ty) : ∀ x : D, kitB (tyN x) t.nmS = some (isiD x t) := by
  intro x
  cases t <;> cases x <;> (simp only [tyN, Ty.nmS, isiD]; decide +kernel)
theorem ty_of {K H F} {v : V} {x : D} (m : MS K H F μ) (r : RD K H F v x) (hr : ∀ a, x = .ref a → ∃ l, μ a = some (.lst l)) (hx : ∀ c ns l, x ≠ .exc c ns l) (hi : ∀ c ns l, x ≠ .ins c ns l) (ht : ∀ l, x ≠ .tpl l) : TyX K H v (.type (tyN x)) := by
  cases r with
  | non => exact .base .non
  | bl b => exact .base (.bl b)
  | int i => exact .base (.int i)
  | str s => exact .base (.str s)
  | tup t rs =>
    rcases t with (h | ⟨o, h⟩) | ⟨o, its, n, h1, h2, _⟩
    · exact .base (.tup h)
    · exact .fTuple h
    · exact .kTuple h1 h2
  | lst f h rs => exact .base (.lst h)
  | lk h rs =>
    rcases h with ⟨o, h⟩ | ⟨o, its, n, h1, h2, _⟩
    · exact .base (.frz h)
    · exact .kList h1 h2
  | emp f h => exact .base (.dK h)
  | exc _ _ _ _ => exact absurd rfl (hx _ _ _)
  | ins _ _ _ _ _ => exact absurd rfl (hi _ _ _)
  | tpl _ _ _ => exact absurd rfl (ht _)
  | tpz _ h _ _ _ => exact .fTuple h
  | ref a =>
    obtain ⟨l, e⟩ := hr a rfl
    obtain ⟨_, u, hu, vs, eu, _⟩ := m.at_ a _ e
    subst eu
    exact .base (.lst hu)
theorem boot_ty : ∀ t : Ty, bootBuiltins t.nm = some (.type t.nmS) := by
  intro t
  cases t <;> decide +kernel
theorem DE.isi (sx : SX G X N sc) {a : Expr} {t : Ty} {p p2 pos : Pos} {Q : DK} (hg : gloB sc "isinstance" = true) (hg2 : gloB sc t.nm = true) (hs : noStar a = true)
    (h : DE X EX a ρ μ fun x μ1 => isiOk x μ1 ∧ Q (.bl (isiD x t)) μ1) : DE X EX (.Call (.Name "isinstance" p) [a, .Name t.nm p2] [] pos) ρ μ Q := fun σ H F en m => by
  have hm2 : X.mg t.nm = none := sx.blt _ (by cases t <;> decide +kernel)
  have nm : nmB t.nm = true := by cases t <;> decide +kernel
  refine we_of (pe_callB call_isi (sx.glo hg) (sx.blt _ (by decide +kernel)) boot_isinstance (pa_cons pe_we (pa_cons (pe_bltn (v := .ty t.nmS) (sx.glo hg2) hm2 (boot_ty t) rfl (nm3 nm).2.2 (nm3 nm).1) pa_nil) (star_cons hs)) (by decide +kernel) (by decide +kernel) (star_cons hs) (star_any rfl)) ?_
  refine (h σ H F en m).mono fun v H1 ⟨x, F1, μ1, g1, m1, r1, ok, q⟩ => ?_
  refine ⟨v, .ty t.nmS, _, _, isiD x t, rfl, .ty _, ty_of m1 r1 ?_ (fun c ns l e => by subst e; exact ok.elim) (fun c ns l e => by subst e; exact ok.elim) (fun l e => by subst e; exact ok.elim), kit_ty (kit_all t x), ⟨_, F1, μ1, g1, m1, .bl _, q⟩⟩
  intro a e
  subst e
  obtain ⟨l, e, _⟩ := optD_ok (show optD (seqL μ1 (.ref a)) _ from ok)
  exact ⟨l, seqL_ref e⟩
/-- join, split -/
theorem mt_ok {K H F} {z : Bool} {f : Mt} {v : V} {vs : List V} {x : D} {ds : List D} {Q : DK} {Qv : VK} (m : MS K H F μ) (r1 : RD K H F v x) (rs : RDs K H F vs ds) (h : mtD z f x ds μ Q) (k : ∀ v H', Post K H F μ Q v H' → Qv v H') :
    (∃ a, v = .str a) ∧ ((f = .join ∧ ∃ a p, ∃ ys : List Str, v = .str a ∧ vs = [.ref p] ∧ (SqL K H p (ys.map V.str) ∨ SqT K H p (ys.map V.str)) ∧ (ys.map fun x => x.length).sum + ys.length * a.length ≤ 16777216 ∧ Qv (.str (Txt.join a ys)) H) ∨
      (f = .split ∧ ∃ a b, v = .str a ∧ vs = [.str b] ∧ (b.length == 0) = false ∧ a.length + 2 ≤ sizeLine ∧ rNewStrs (Txt.split a b) H Qv)) := by
  cases x with
  | str a =>
    cases r1
    refine ⟨⟨a, rfl⟩, ?_⟩
    cases f with
    | join =>
      obtain ⟨y, e, q⟩ := one_ds (show oneD ds fun y => joinD a y μ Q from h)
      subst e
      obtain ⟨w, e, r⟩ := one_of rs
      subst e
      unfold joinD at q
      obtain ⟨l, h1, q⟩ := optD_ok q
      obtain ⟨ys, h2, hl, q⟩ := optD_ok q
      obtain ⟨p, ws, ew, hs, rw'⟩ := seqA_or m r h1
      subst ew
      rw [asStrs_eq h2] at rw'
      have e := rw'.strs
      subst e
      exact .inl ⟨rfl, a, p, ys, rfl, rfl, hs, hl, k _ _ (.now m (.str _) q)⟩
    | split =>
      obtain ⟨y, e, q⟩ := one_ds (show oneD ds fun y => splitD z a y μ Q from h)
      subst e
      obtain ⟨w, e, r⟩ := one_of rs
      subst e
      cases y with
      | str b =>
        cases r
        obtain ⟨h1, h2, q⟩ := q
        exact .inr ⟨rfl, a, b, rfl, rfl, h1, by rw [line_eq]; exact h2, newL_ok m .of_strs q k⟩
      | _ => exact q.elim
  | _ => exact h.elim
theorem DA.rep2 {a o : Expr} {l y z : Str} {j k i : Nat} {c0 c1 c2 apos pos ppos : Pos} {Q : List D → Mem → Prop} (hyz : (y == z) = false) (hb : noSuper o = true) (hl : (apos.endLine == pos.line) = true)
    (h : DE X EX a ρ μ fun x μ1 => addOk x l ∧ DE X EX o ρ μ1 fun v μ2 => rep2D x l v y z fun ds => Q ds μ2) :
    DA X EX [.BinOp a .Add (.Constant (.str l) i c2) ppos, .Call (.Attribute o "replace" apos) [.Constant (.str y) j c0, .Constant (.str z) k c1] [] pos] ρ μ Q := fun σ H F e m => by
  refine wa_of (pa_rep2 pe_we pe_we hyz rfl (base_of hb) hl) ?_
  refine (h σ H F e m).mono fun v H1 ⟨x, F1, μ1, g1, m1, r1, hx, q1⟩ => ?_
  cases x with
  | str s =>
    cases r1
    refine ⟨s, rfl, hx, (q1 σ H1 F1 (e.on g1 m) m1).mono fun u H2 ⟨w, F2, μ2, g2, m2, r2, q2⟩ => ?_⟩
    cases w with
    | str t =>
      cases r2
      obtain ⟨q3, q4⟩ := q2
      exact ⟨t, rfl, q3, ⟨_, F2, μ2, g1.trans g2, m2, .cons (.str _) (.cons (.str _) .nil), q4⟩⟩
    | _ => exact q2.elim
  | _ => exact hx.elim
theorem DE.mt {z : Bool} {f : Mt} {o e : Expr} {apos pos : Pos} {Q : DK} (hb : noSuper o = true) (hl : (apos.endLine == pos.line) = true) (hs : noStar e = true)
    (h : DE X EX o ρ μ fun x μ1 => strIs x ∧ DE X EX e ρ μ1 fun d μ2 => mtD z f x [d] μ2 Q) : DE X EX (.Call (.Attribute o f.nm apos) [e] [] pos) ρ μ Q := fun σ H F en m => by
  have ss : starEach [e] X.env = [(false, eval e X.env)] := by rw [star_cons hs]; rfl
  have str : ∀ {x : D} {v : V} {H1 : Hp} {F1 : Addr → Prop}, RD X.K H1 F1 v x → strIs x → ∃ a, v = .str a := fun {x v H1 F1} r hx => by
    cases r <;> first | exact ⟨_, rfl⟩ | exact hx.elim
  cases f with
  | join =>
    refine we_of (pe_m1 PySem.F.slot_str_join PySem.F.type_str_join mt_join pe_we pe_we ss (base_of hb) hl) ?_
    refine (h σ H F en m).mono fun v H1 ⟨x, F1, μ1, g1, m1, r1, hx, q1⟩ => ⟨str r1 hx, ?_⟩
    refine (q1 σ H1 F1 (en.on g1 m) m1).mono fun u H2 ⟨y, F2, μ2, g2, m2, r2, q2⟩ => ?_
    obtain ⟨_, q | q⟩ := mt_ok (Qv := Post X.K H F μ Q) m2 (r1.stay (g2.stay m1)) (.cons r2 .nil) q2 fun v' H' p => p.pre (g1.trans g2)
    · exact q.2
    · cases q.1
  | split =>
    refine we_of (pe_m1 PySem.F.slot_str_split PySem.F.type_str_split mt_split pe_we pe_we ss (base_of hb) hl) ?_
    refine (h σ H F en m).mono fun v H1 ⟨x, F1, μ1, g1, m1, r1, hx, q1⟩ => ⟨str r1 hx, ?_⟩
    refine (q1 σ H1 F1 (en.on g1 m) m1).mono fun u H2 ⟨y, F2, μ2, g2, m2, r2, q2⟩ => ?_
    obtain ⟨_, q | q⟩ := mt_ok (Qv := Post X.K H F μ Q) m2 (r1.stay (g2.stay m1)) (.cons r2 .nil) q2 fun v' H' p => p.pre (g1.trans g2)
    · cases q.1
    · exact q.2
end
end DL
/-! Targets, loops, comprehensions, statements. -/
namespace DL
open PySem PySem.Spec PyProof.Rows L2
section
variable {G : Gc} {X : Cx} {N : List Str} {sc : Scope} {ρ : Rho} {μ : Mem}

/-! ### targets -/
def WG (X : Cx) (tg : Expr) : TG := fun v σ H Q => ∀ (pins : List (Addr × Obj)) (s : Shared) (u : Value), Inv X pins σ H s → RelV v u →
  wpAny (model X.prog X.w) X.A (assign tg X.env u) (fun _ s' => ∃ σ' H', Inv X pins σ' H' s' ∧ Q σ' H') X.xe s
theorem pg_wg {tg : Expr} : PG X tg (WG X tg) := ⟨fun pins s σ H v u Q I r h => h pins s u I r⟩
theorem wg_of {tg : Expr} {g : TG} {v : V} {σ : St} {H : Hp} {Q : St → Hp → Prop} (h : PG X tg g) (q : g v σ H Q) : WG X tg v σ H Q := fun pins s u I r => h.run pins s σ H v u Q I r q
theorem WG.mono {tg : Expr} {v : V} {σ : St} {H : Hp} {Q Q' : St → Hp → Prop} (h : WG X tg v σ H Q) (m : ∀ σ' H', Q σ' H' → Q' σ' H') : WG X tg v σ H Q' :=
  fun pins s u I r => thn (h pins s u I r) fun _ s' ⟨σ', H', I', q⟩ => ⟨σ', H', I', m σ' H' q⟩
/-- the slots off vs are as they were -/
def Off (vs : List Nat) (σ σ' : St) : Prop := σ'.length = σ.length ∧ ∀ j, j ∉ vs → σ'[j]? = σ[j]?
theorem Off.refl {vs σ} : Off vs σ σ := ⟨rfl, fun _ _ => rfl⟩
theorem Off.trans {vs σ σ1 σ2} (a : Off vs σ σ1) (b : Off vs σ1 σ2) : Off vs σ σ2 := ⟨b.1.trans a.1, fun j h => (b.2 j h).trans (a.2 j h)⟩
theorem Off.mono {vs ws σ σ'} (a : Off vs σ σ') (h : ∀ j, j ∈ vs → j ∈ ws) : Off ws σ σ' := ⟨a.1, fun j n => a.2 j fun z => n (h j z)⟩
def PostG (K : PySem.W.Frag) (H : Hp) (F : Addr → Prop) (μ : Mem) (vs : List Nat) (σ : St) (Q : Rho → Mem → Prop) : St → Hp → Prop := fun σ' H' => Off vs σ σ' ∧ ∃ ρ' F' μ', Grow H F μ H' F' μ' ∧ MS K H' F' μ' ∧ REnv K H' F' σ' ρ' ∧ Q ρ' μ'
mutual
/-- the names of a target may be stored: where they stand -/
def tgB (N : List Str) (lo : Str → Bool) : T → Expr → Bool
  | .v i, .Name x _ => decide (N[i]? = some x) && lo x
  | .tup ts, .Tuple es _ _ => tgsB N lo ts es
  | _, _ => false
def tgsB (N : List Str) (lo : Str → Bool) : Ts → List Expr → Bool
  | .nil, [] => true
  | .cons t ts, e :: es => tgB N lo t e && tgsB N lo ts es
  | _, _ => false
end
theorem tg_nostar {lo : Str → Bool} {t : T} {e : Expr} (h : tgB N lo t e = true) : noStar e = true := by
  cases t <;> cases e <;> first | rfl | (cases h; done)
theorem each_cons {e : Expr} {es : List Expr} {env : Env} (h : noStar e = true) : assignEach (e :: es) env = (false, assign e env) :: assignEach es env := by
  cases e <;> first | rfl | (cases h; done)
theorem tgs_len {lo : Str → Bool} : ∀ {ts : Ts} {es : List Expr} {env : Env}, tgsB N lo ts es = true → (assignEach es env).length = es.length ∧ (assignEach es env).findIdx? (·.1) = none
  | .nil, [], env, _ => ⟨rfl, rfl⟩
  | .cons t ts, e :: es, env, h => by
    obtain ⟨h1, h2⟩ := Bool.and_eq_true_iff.mp (show (tgB N lo t e && tgsB N lo ts es) = true from h)
    obtain ⟨i1, i2⟩ := tgs_len (env := env) h2
    rw [each_cons (tg_nostar h1)]
    refine ⟨by rw [List.length_cons, List.length_cons, i1], ?_⟩
    rw [List.findIdx?_cons, i2]
    rfl
  | .nil, _ :: _, _, h => nomatch h
  | .cons _ _, [], _, h => nomatch h
def WGs (X : Cx) (ts : List Expr) : TGs := fun vs σ H Q => ∀ (pins : List (Addr × Obj)) (s : Shared) (us : List Value), Inv X pins σ H s → Vals vs us →
  wpAny (model X.prog X.w) X.A (assignInOrder ((assignEach ts X.env).map (·.2)) us) (fun _ s' => ∃ σ' H', Inv X pins σ' H' s' ∧ Q σ' H') X.xe s
theorem pgs_wgs {ts : List Expr} : PGs X ts (WGs X ts) := ⟨fun pins s σ H vs us Q I r h => h pins s us I r⟩
theorem wgs_of {ts : List Expr} {g : TGs} {vs : List V} {σ : St} {H : Hp} {Q : St → Hp → Prop} (h : PGs X ts g) (q : g vs σ H Q) : WGs X ts vs σ H Q := fun pins s us I r => h.run pins s σ H vs us Q I r q
theorem WGs.mono {ts : List Expr} {v : List V} {σ : St} {H : Hp} {Q Q' : St → Hp → Prop} (h : WGs X ts v σ H Q) (m : ∀ σ' H', Q σ' H' → Q' σ' H') : WGs X ts v σ H Q' :=
  fun pins s u I r => thn (h pins s u I r) fun _ s' ⟨σ', H', I', q⟩ => ⟨σ', H', I', m σ' H' q⟩
theorem set_off {σ : St} {i : Nat} {x : Option V} : Off [i] σ (σ.set i x) := ⟨List.length_set, fun j h => List.getElem?_set_ne (fun e => h (by simp [e]))⟩
theorem tgB_v {lo : Str → Bool} {i : Nat} {e : Expr} (h : tgB N lo (.v i) e = true) : ∃ x p, e = .Name x p ∧ N[i]? = some x ∧ lo x = true := by
  cases e with
  | Name x p =>
    obtain ⟨h1, h2⟩ := Bool.and_eq_true_iff.mp (show (decide (N[i]? = some x) && lo x) = true from h)
    exact ⟨x, p, rfl, of_decide_eq_true h1, h2⟩
  | _ => cases h
theorem tgB_t {lo : Str → Bool} {ts : Ts} {e : Expr} (h : tgB N lo (.tup ts) e = true) : ∃ es k p, e = .Tuple es k p ∧ tgsB N lo ts es = true := by
  cases e with
  | Tuple es k p => exact ⟨es, k, p, rfl, h⟩
  | _ => cases h
mutual
theorem wpTg_ex : ∀ (t : T) (d : D) (ρ : Rho) (μ : Mem) (Q : Rho → Mem → Prop), wpTg t d ρ μ Q → ∃ ρ' μ', Q ρ' μ'
  | .v i, d, ρ, μ, Q, q => ⟨_, _, q⟩
  | .tup ts, d, ρ, μ, Q, q => by
    cases d with
    | tup ds => exact wpTgs_ex ts ds ρ μ Q q
    | lst ds => exact wpTgs_ex ts ds ρ μ Q q
    | _ => exact False.elim q
theorem wpTgs_ex : ∀ (ts : Ts) (ds : List D) (ρ : Rho) (μ : Mem) (Q : Rho → Mem → Prop), wpTgs ts ds ρ μ Q → ∃ ρ' μ', Q ρ' μ'
  | .nil, ds, ρ, μ, Q, q => ⟨_, _, q.2⟩
  | .cons t ts, ds, ρ, μ, Q, q => by
    cases ds with
    | nil => exact False.elim q
    | cons d r =>
      obtain ⟨ρ1, μ1, q1⟩ := wpTg_ex t d ρ μ _ q
      exact wpTgs_ex ts r ρ1 μ1 Q q1
end
theorem tgs_len2 {lo : Str → Bool} : ∀ (ts : Ts) (es : List Expr) (ds : List D), tgsB N lo ts es = true → ∀ {ρ : Rho} {μ : Mem} {Q : Rho → Mem → Prop}, wpTgs ts ds ρ μ Q → ds.length = es.length
  | .nil, [], ds, _, ρ, μ, Q, q => by obtain ⟨e, _⟩ := q; subst e; rfl
  | .cons t ts, e :: es, ds, h, ρ, μ, Q, q => by
    obtain ⟨h1, h2⟩ := Bool.and_eq_true_iff.mp (show (tgB N lo t e && tgsB N lo ts es) = true from h)
    cases ds with
    | nil => exact False.elim q
    | cons d ds =>
      obtain ⟨ρ1, μ1, q1⟩ := wpTg_ex t d ρ μ _ q
      rw [List.length_cons, List.length_cons, tgs_len2 ts es ds h2 q1]
  | .nil, _ :: _, _, h, _, _, _, _ => nomatch h
  | .cons _ _, [], _, h, _, _, _, _ => nomatch h
section
variable {lo : Str → Bool} (hlo : ∀ x, lo x = true → Loc X.env.scope x ∧ (X.fn x = true ∨ X.env.scope.names.lookup x = some .local)) (hN : X.N = N) (nd : N.Nodup) (calm : X.calm = true)
include hlo hN nd calm
mutual
theorem tg_ok : ∀ (t : T) (e : Expr), tgB N lo t e = true → ∀ (v : V) (d : D) (σ : St) (H : Hp) (F : Addr → Prop) (ρ : Rho) (μ : Mem) (Q : Rho → Mem → Prop), REnv X.K H F σ ρ → MS X.K H F μ → RD X.K H F v d → wpTg t d ρ μ Q → WG X e v σ H (PostG X.K H F μ t.slots σ Q)
  | .v i, e, h, v, d, σ, H, F, ρ, μ, Q, en, m, r, q => by
    obtain ⟨x, p, ee, h1, h2⟩ := tgB_v h
    subst ee
    obtain ⟨l1, l2⟩ := hlo x h2
    exact wg_of (pg_name (by rw [hN]; exact nd) (by rw [hN]; exact h1) l1 l2) ⟨set_off, _, F, μ, .refl, m, en.set i r, q⟩
  | .tup ts, e, h, v, d, σ, H, F, ρ, μ, Q, en, m, r, q => by
    obtain ⟨es, k, p, ee, h'⟩ := tgB_t h
    subst ee
    obtain ⟨l1, l2⟩ := tgs_len (env := X.env) h'
    cases d with
    | tup ds =>
      cases r with
      | tup t rs =>
        refine wg_of (pg_tup calm pgs_wgs l1 l2) ⟨_, _, rfl, t, ?_, tgs_ok ts es h' _ ds σ H F ρ μ Q en m rs q⟩
        rw [rs.length]
        exact tgs_len2 ts es ds h' q
    | lst ds =>
      cases r with
      | lst f hd rs =>
        refine wg_of (pg_unl calm pgs_wgs l1 l2) ⟨_, _, rfl, .inl (.inl hd), ?_, tgs_ok ts es h' _ ds σ H F ρ μ Q en m rs q⟩
        rw [rs.length]
        exact tgs_len2 ts es ds h' q
    | _ => exact False.elim q
theorem tgs_ok : ∀ (ts : Ts) (es : List Expr), tgsB N lo ts es = true → ∀ (vs : List V) (ds : List D) (σ : St) (H : Hp) (F : Addr → Prop) (ρ : Rho) (μ : Mem) (Q : Rho → Mem → Prop), REnv X.K H F σ ρ → MS X.K H F μ → RDs X.K H F vs ds → wpTgs ts ds ρ μ Q → WGs X es vs σ H (PostG X.K H F μ ts.slots σ Q)
  | .nil, [], h, vs, ds, σ, H, F, ρ, μ, Q, en, m, r, q => by
    obtain ⟨e, q⟩ := q
    subst e
    cases r
    exact wgs_of pgs_nil ⟨rfl, .refl, ρ, F, μ, .refl, m, en, q⟩
  | .cons t ts, e :: es, h, vs, ds, σ, H, F, ρ, μ, Q, en, m, r, q => by
    obtain ⟨h1, h2⟩ := Bool.and_eq_true_iff.mp (show (tgB N lo t e && tgsB N lo ts es) = true from h)
    have hs : (assignEach (e :: es) X.env).map (·.2) = assign e X.env :: (assignEach es X.env).map (·.2) := by rw [each_cons (tg_nostar h1)]; rfl
    cases r with
    | nil => exact False.elim q
    | cons r1 rs =>
      refine wgs_of (pgs_cons pg_wg pgs_wgs hs) ⟨_, _, rfl, ?_⟩
      refine (tg_ok t e h1 _ _ σ H F ρ μ _ en m r1 q).mono fun σ1 H1 ⟨o1, ρ1, F1, μ1, g1, m1, en1, q1⟩ => ?_
      refine (tgs_ok ts es h2 _ _ σ1 H1 F1 ρ1 μ1 Q en1 m1 (rs.stay (g1.stay m)) q1).mono fun σ2 H2 ⟨o2, ρ2, F2, μ2, g2, m2, en2, q2⟩ => ?_
      refine ⟨(o1.mono ?_).trans (o2.mono ?_), ρ2, F2, μ2, g1.trans g2, m2, en2, q2⟩
      · intro j hj; exact List.mem_append_left _ hj
      · intro j hj; exact List.mem_append_right _ hj
  | .nil, _ :: _, h, _, _, _, _, _, _, _, _, _, _, _, _ => nomatch h
  | .cons _ _, [], h, _, _, _, _, _, _, _, _, _, _, _, _ => nomatch h
end
end

/-! ### what is walked -/
def WI (X : Cx) (tg iter : Expr) : TI := fun σ H R => ∀ (pins : List (Addr × Obj)) (s : Shared), Inv X pins σ H s →
  wpAny (model X.prog X.w) X.A (eval iter X.env) (fun v s1 => wpAny (model X.prog X.w) X.A (pyIter v) (PIE X pins σ tg R) X.xe s1) X.xe s
theorem pi_wi {tg iter : Expr} : PI X tg iter (WI X tg iter) := ⟨fun pins s σ H R I h => h pins s I⟩
theorem wi_of {tg iter : Expr} {t : TI} {σ : St} {H : Hp} {R : L2.It → Hp → Prop} (h : PI X tg iter t) (q : t σ H R) : WI X tg iter σ H R := fun pins s I => h.run pins s σ H R I q
theorem WI.mono {tg iter : Expr} {σ : St} {H : Hp} {R R' : L2.It → Hp → Prop} (h : WI X tg iter σ H R) (m : ∀ J H', R J H' → R' J H') : WI X tg iter σ H R' :=
  fun pins s I => thn (h pins s I) fun v s1 h1 => thn h1 fun itv s2 ⟨it, fp, tn, J, H', e, I', T, st, f, q⟩ => ⟨it, fp, tn, J, H', e, I', T, st, f, m J H' q⟩
/-- an iterator that walks these items from this state on -/
structure Walks (K : PySem.W.Frag) (J : L2.It) (items : List D) (ok : Mem → Prop) (H1 : Hp) (F1 : Addr → Prop) (μ1 : Mem) : Prop where
  go : ∀ i H F μ, i < items.length → Grow H1 F1 μ1 H F μ → MS K H F μ → ok μ → J.go i H
  stop : ∀ H F μ, Grow H1 F1 μ1 H F μ → MS K H F μ → ok μ → J.stop items.length H
  yld : ∀ (i : Nat) H F μ x H', i < items.length → Grow H1 F1 μ1 H F μ → MS K H F μ → ok μ → J.yld i H x H' → ∃ d, items[i]? = some d ∧ Grow H F μ H' F μ ∧ MS K H' F μ ∧ RD K H' F x d
abbrev IK := List D → (Mem → Prop) → Mem → Prop
def PostI (K : PySem.W.Frag) (H : Hp) (F : Addr → Prop) (μ : Mem) (R : IK) : L2.It → Hp → Prop := fun J H' => ∃ items ok F' μ', Grow H F μ H' F' μ' ∧ MS K H' F' μ' ∧ Walks K J items ok H' F' μ' ∧ R items ok μ'
def DI (X : Cx) (EX : EK) (tg iter : Expr) (ρ : Rho) (μ : Mem) (R : IK) : Prop := ∀ σ H F, RE X EX H F μ σ ρ → MS X.K H F μ → WI X tg iter σ H (PostI X.K H F μ R)
/-- over a walk that yields the i-th of vs, while G holds -/
theorem walks_at {K : PySem.W.Frag} {J : L2.It} {vs : List V} {items : List D} {ok : Mem → Prop} {Gh : Hp → Prop} {H1 F1 μ1} (w : Walk J vs.length Gh (YAt vs)) (rs : RDs K H1 F1 vs items) (m1 : MS K H1 F1 μ1)
    (hG : ∀ H F μ, Grow H1 F1 μ1 H F μ → MS K H F μ → ok μ → Gh H) : Walks K J items ok H1 F1 μ1 where
  go := fun i H F μ hi g m o => w.goes i H (by rw [rs.length]; exact hi) (hG H F μ g m o)
  stop := fun H F μ g m o => by rw [← rs.length]; exact w.stops H (hG H F μ g m o)
  yld := fun i H F μ x H' hi g m o y => by
    obtain ⟨e, hx⟩ := w.yields i H x H' (by rw [rs.length]; exact hi) (hG H F μ g m o) y
    subst e
    obtain ⟨d, h1, h2⟩ := rs.get' hx
    exact ⟨d, h1, .refl, m, h2.stay (g.stay m1)⟩
theorem walks_fn {K : PySem.W.Frag} {J : L2.It} {n : Nat} {f : Nat → V} {items : List D} {H1 F1 μ1} (w : Walk J n (fun _ => True) (YFn f)) (hn : items.length = n) (hf : ∀ (i : Nat) H F, i < n → ∃ d, items[i]? = some d ∧ RD K H F (f i) d) : Walks K J items (fun _ => True) H1 F1 μ1 where
  go := fun i H F μ hi g m o => w.goes i H (by rw [← hn]; exact hi) trivial
  stop := fun H F μ g m o => by rw [hn]; exact w.stops H trivial
  yld := fun i H F μ x H' hi g m o y => by
    obtain ⟨e, hx⟩ := w.yields i H x H' (by rw [← hn]; exact hi) trivial y
    subst e hx
    obtain ⟨d, h1, h2⟩ := hf i H' F (by rw [← hn]; exact hi)
    exact ⟨d, h1, .refl, m, h2⟩
theorem sql_keep {K : PySem.W.Frag} {a : Addr} {vs : List V} {H1 F1 μ1 H F} {μ' : Mem} (m1 : MS K H1 F1 μ1) (g : Grow H1 F1 μ1 H F μ') (f : F1 a) (h : H1 a = some (.lst vs)) : SqL K H a vs := .inl (.inl ((g.stay m1).lst a _ f h).2)
theorem it_list {tg : Expr} {pins : List (Addr × Obj)} {σ : St} {H : Hp} {s : Shared} {R : L2.It → Hp → Prop} {a : Addr} {xs : List V} (I : Inv X pins σ H s) (hq : SqL X.K H a xs) (q : R (Itl X.K a) H) : wpAny (model X.prog X.w) X.A (pyIter (.ref a)) (PIE X pins σ tg R) X.xe s := by
  obtain ⟨its, rv, p, hz⟩ := I.list hq
  refine wpAny_pyIter_list p.isList ?_
  refine ⟨s.heap.objs.size, [s.heap.objs.size], _, _, H, rfl, I.kept (t' := s.toks) fun b o e => Heap.get?_push_of_some _ e, turn_list a _, ⟨_, Heap.get?_push_size _ rfl, rfl, rfl⟩, fun b hb => ?_, q⟩
  have e : b = s.heap.objs.size := by simpa using hb
  subst e
  exact I.fpOk (Nat.le_refl _) (I.hok.fresh (Nat.le_refl _))
theorem it_tup {tg : Expr} {pins : List (Addr × Obj)} {σ : St} {H : Hp} {s : Shared} {R : L2.It → Hp → Prop} {a : Addr} {xs : List V} (I : Inv X pins σ H s) (hq : SqT X.K H a xs) (q : R (Itt X.K a) H) : wpAny (model X.prog X.w) X.A (pyIter (.ref a)) (PIE X pins σ tg R) X.xe s := by
  obtain ⟨its, rv, p, hz⟩ := I.tuple hq
  refine wpAny_pyIter_tuple (show s.heap.IsTuple a its.toArray from p) ?_
  refine ⟨s.heap.objs.size, [s.heap.objs.size], _, _, H, rfl, I.kept (t' := s.toks) fun b o e => Heap.get?_push_of_some _ e, turn_tuple a _, ⟨_, Heap.get?_push_size _ rfl, rfl, rfl⟩, fun b hb => ?_, q⟩
  have e : b = s.heap.objs.size := by simpa using hb
  subst e
  exact I.fpOk (Nat.le_refl _) (I.hok.fresh (Nat.le_refl _))
theorem it_str {tg : Expr} {pins : List (Addr × Obj)} {σ : St} {H : Hp} {s : Shared} {R : L2.It → Hp → Prop} {x : Str} {t : Tok} (I : Inv X pins σ H s) (q : R (Its x) H) : wpAny (model X.prog X.w) X.A (pyIter (.str x t)) (PIE X pins σ tg R) X.xe s := by
  cases ha : x.cps.all (· < 128)
  · exact wpAny_pyIter_wide ha (pi_one (tk := s.toks) I _ (turn_str _ x t "str_iterator" (.inr rfl)) ⟨_, Heap.get?_push_size _ rfl, rfl, rfl⟩ q)
  · exact wpAny_pyIter_ascii ha (pi_one (tk := s.toks) I _ (turn_str _ x t "str_ascii_iterator" (.inl rfl)) ⟨_, Heap.get?_push_size _ rfl, rfl, rfl⟩ q)
theorem walks_str {K : PySem.W.Frag} {z : Str} {H1 F1 μ1} : Walks K (Its z) (chars z) (fun _ => True) H1 F1 μ1 where
  go := fun i H F μ hi g m o => by
    have hi : i < (chars z).length := hi
    unfold chars at hi
    rw [List.length_map, Array.length_toList] at hi
    exact hi
  stop := fun H F μ g m o => by
    show z.cps.size ≤ (chars z).length
    unfold chars
    rw [List.length_map, Array.length_toList]
    exact Nat.le_refl _
  yld := fun i H F μ x H' hi g m o y => by
    obtain ⟨e, c, hc, hx⟩ := y
    subst e hx
    refine ⟨.str ⟨#[c]⟩, ?_, .refl, m, .str _⟩
    unfold chars
    rw [List.getElem?_map, Array.getElem?_toList, hc]
    rfl
theorem DI.seq {tg e : Expr} {R : IK} (h : DE X EX e ρ μ fun x μ1 => seqIt x μ1 R) : DI X EX tg e ρ μ R := fun σ H F en m pins s I => by
  refine thn (h σ H F en m pins s I) fun v s1 ⟨x, H1, I1, r1, d, F1, μ1, g1, m1, rd, q⟩ => ?_
  cases rd with
  | str z =>
    obtain ⟨t, e⟩ := r1
    subst e
    exact it_str I1 ⟨_, _, F1, μ1, g1, m1, walks_str, q⟩
  | tup t rs =>
    cases r1
    exact it_tup I1 t ⟨_, _, F1, μ1, g1, m1, walks_at walk_tup rs m1 (fun H F μ g m o => (g.stay m1).tup _ _ t), q⟩
  | tpz f h c n rs =>
    cases r1
    exact it_tup I1 (.inl (.inr ⟨_, h⟩)) ⟨_, _, F1, μ1, g1, m1, walks_at walk_tup rs m1 (fun H F μ g m o => (g.stay m1).tup _ _ (.inl (.inr ⟨_, h⟩))), q⟩
  | lst f hd rs =>
    cases r1
    exact it_list I1 (.inl (.inl hd)) ⟨_, _, F1, μ1, g1, m1, walks_at walk_list rs m1 (fun H F μ g m o => sql_keep m1 g f hd), q⟩
  | lk hk rs =>
    cases r1
    have hq : ∀ H F μ, Grow H1 F1 μ1 H F μ → SqL X.K H _ _ := fun H F μ g => hk.elim (fun ⟨o, z⟩ => .inl (.inr ⟨o, (g.stay m1).lk _ _ _ z⟩)) .inr
    exact it_list I1 (hq _ _ _ .refl) ⟨_, _, F1, μ1, g1, m1, walks_at walk_list rs m1 (fun H F μ g m o => hq H F μ g), q⟩
  | ref a =>
    cases r1
    obtain ⟨l, e2, q⟩ := optD_ok (show optD (seqL μ1 (.ref a)) _ from q)
    obtain ⟨_, u, hu, vs, eu, rs⟩ := m1.at_ a _ (seqL_ref e2)
    subst eu
    refine it_list I1 (.inl (.inl hu)) ⟨_, _, F1, μ1, g1, m1, ⟨fun i H F μ hi g m o => ?_, fun H F μ g m o => ?_, fun i H F μ x H' hi g m o y => ?_⟩, q⟩
    · obtain ⟨_, u, hu, vs, eu, rs⟩ := m.at_ a _ (seqL_ref o)
      subst eu
      exact ⟨vs, vs[i]'(by rw [rs.length]; exact hi), .inl (.inl hu), by simp [show i < vs.length by rw [rs.length]; exact hi]⟩
    · obtain ⟨_, u, hu, vs, eu, rs⟩ := m.at_ a _ (seqL_ref o)
      subst eu
      exact ⟨vs, .inl (.inl hu), by rw [rs.length]; exact Nat.le_refl _⟩
    · obtain ⟨_, u, hu, vs, eu, rs⟩ := m.at_ a _ (seqL_ref o)
      subst eu
      obtain ⟨e, y⟩ := y
      subst e
      obtain ⟨d, h1, h2⟩ := rs.get' (y vs (.inl (.inl hu)))
      exact ⟨d, h1, .refl, m, h2⟩
  | _ => exact False.elim q
theorem walks_range {K : PySem.W.Frag} {lo : Int} {n : Nat} {H1 F1 μ1} : Walks K (Itr lo n) (intsR lo n) (fun _ => True) H1 F1 μ1 :=
  walks_fn walk_range (by unfold intsR; rw [List.length_map, List.length_range]) fun i H F hi => ⟨.int (lo + i), by unfold intsR; rw [List.getElem?_map, List.getElem?_range hi]; rfl, .int _⟩
theorem DI.range1 (sx : SX G X N sc) {tg a : Expr} {p pos : Pos} {R : IK} (hg : gloB sc "range" = true) (hs : noStar a = true) (h : DE X EX a ρ μ fun x μ1 => rng1 x μ1 R) : DI X EX tg (.Call (.Name "range" p) [a] [] pos) ρ μ R := fun σ H F en m => by
  refine wi_of (pi_range1 (sx.glo hg) (sx.blt _ (by decide +kernel)) (pa_cons pe_we pa_nil (star_cons hs)) (by rw [star_cons hs]; rfl)) ?_
  refine (h σ H F en m).mono fun v H1 ⟨x, F1, μ1, g1, m1, r1, q⟩ => ?_
  cases r1 with
  | int j => exact ⟨j, rfl, q.1, q.2.1, _, _, F1, μ1, g1, m1, walks_range, q.2.2⟩
  | _ => exact False.elim q
theorem DI.range2 (sx : SX G X N sc) {tg a b : Expr} {p pos : Pos} {R : IK} (hg : gloB sc "range" = true) (hs : noStar a = true) (hs2 : noStar b = true) (h : DE X EX a ρ μ fun x μ1 => DE X EX b ρ μ1 fun y μ2 => rng2 x y μ2 R) : DI X EX tg (.Call (.Name "range" p) [a, b] [] pos) ρ μ R := fun σ H F en m => by
  refine wi_of (pi_range2 (sx.glo hg) (sx.blt _ (by decide +kernel)) (pa_cons pe_we (pa_cons pe_we pa_nil (star_cons hs2)) (star_cons hs)) (by rw [star_cons hs, star_cons hs2]; rfl) (by rw [star_cons hs2]; rfl)) ?_
  refine (h σ H F en m).mono fun v H1 ⟨x, F1, μ1, g1, m1, r1, q1⟩ => ?_
  refine (q1 σ H1 F1 (en.on g1 m) m1).mono fun u H2 ⟨y, F2, μ2, g2, m2, r2, q⟩ => ?_
  cases r1 with
  | int i =>
    cases r2 with
    | int j => exact ⟨i, j, rfl, q.1, _, _, F2, μ2, g1.trans g2, m2, walks_range, q.2⟩
    | _ => exact False.elim q
  | _ => exact False.elim q

/-! ### comprehensions -/
theorem wipe_get {σ : St} : ∀ {vs : List Nat} {j : Nat}, (wipe σ vs)[j]? = if j ∈ vs ∧ j < σ.length then some none else σ[j]?
  | [], j => by simp [wipe]
  | v :: vs, j => by
    unfold wipe
    have hl := wipe_length σ vs
    by_cases hj : v = j
    · subst hj
      by_cases hlt : v < σ.length
      · rw [List.getElem?_set_self (by rw [hl]; exact hlt), if_pos ⟨by simp, hlt⟩]
      · rw [List.getElem?_eq_none (by rw [List.length_set, hl]; omega), if_neg (fun z => hlt z.2), List.getElem?_eq_none (by omega)]
    · rw [List.getElem?_set_ne hj, wipe_get]
      by_cases h : j ∈ vs ∧ j < σ.length
      · rw [if_pos h, if_pos ⟨List.mem_cons_of_mem _ h.1, h.2⟩]
      · rw [if_neg h, if_neg (fun z => h ⟨(List.mem_cons.mp z.1).resolve_left (fun e => hj e.symm), z.2⟩)]
theorem wipe_off {vs : List Nat} {σ σ' : St} (o : Off vs σ σ') : wipe σ' vs = wipe σ vs := by
  apply List.ext_getElem?
  intro j
  rw [wipe_get, wipe_get, o.1]
  by_cases h : j ∈ vs
  · by_cases hl : j < σ.length
    · rw [if_pos ⟨h, hl⟩, if_pos ⟨h, hl⟩]
    · rw [if_neg (fun z => hl z.2), if_neg (fun z => hl z.2), List.getElem?_eq_none (by rw [o.1]; omega), List.getElem?_eq_none (by omega)]
  · rw [if_neg (fun z => h z.1), if_neg (fun z => h z.1), o.2 j h]
theorem wipe_wipe {vs : List Nat} {σ : St} : wipe (wipe σ vs) vs = wipe σ vs := by
  apply List.ext_getElem?
  intro j
  rw [wipe_get, wipe_get, wipe_length]
  by_cases h : j ∈ vs ∧ j < σ.length
  · rw [if_pos h, if_pos h]
  · rw [if_neg h]
theorem REnv.wipe {K H F σ ρ} (e : REnv K H F σ ρ) : ∀ vs : List Nat, REnv K H F (L2.wipe σ vs) (wipeR ρ vs)
  | [] => e
  | v :: vs => by
    have ih := REnv.wipe e vs
    unfold L2.wipe wipeR
    refine ⟨by rw [List.length_set, List.length_set]; exact ih.len, fun i d h => ?_⟩
    by_cases hi : v = i
    · subst hi
      by_cases hl : v < (wipeR ρ vs).length
      · rw [List.getElem?_set_self hl] at h; cases h
      · rw [List.getElem?_eq_none (by rw [List.length_set]; omega)] at h; cases h
    · rw [List.getElem?_set_ne hi] at h ⊢
      exact ih.at_ i d h
def WTs (X : Cx) (ifs : List Expr) : TT := fun σ H Q => ∀ (pins : List (Addr × Obj)) (s : Shared), Inv X pins σ H s →
    wpAny (model X.prog X.w) X.A (forIn ifs true fun c r => if r = true then do let ok ← isTrue c X.env (eval c X.env); pure (ForInStep.yield ok) else pure (ForInStep.yield r)) (TP X pins σ Q) X.xe s
def DTs (X : Cx) (EX : EK) (ifs : List Expr) (ρ : Rho) (μ : Mem) (Q : Bool → Mem → Prop) : Prop := ∀ σ H F, RE X EX H F μ σ ρ → MS X.K H F μ → WTs X ifs σ H (PostT X.K H F μ Q)
theorem DTs.nil {Q : Bool → Mem → Prop} (q : Q true μ) : DTs X EX [] ρ μ Q := fun σ H F e m pins s I => pts_nil.run pins s σ H _ I ⟨F, μ, .refl, m, q⟩
theorem DTs.one {c : Expr} {Q : Bool → Mem → Prop} (h : DT X EX c ρ μ Q) : DTs X EX [c] ρ μ Q := fun σ H F e m pins s I => (pts_one pt_wt).run pins s σ H _ I (h σ H F e m)
theorem WTs.mono {ifs : List Expr} {σ H} {Q Q' : Bool → Hp → Prop} (h : WTs X ifs σ H Q) (m : ∀ v H', Q v H' → Q' v H') : WTs X ifs σ H Q' :=
  fun pins s I => thn (h pins s I) fun u s' ⟨H', I', q⟩ => ⟨H', I', m u H' q⟩

/-! ### a list that is being made beside the memory -/
section
variable {K : PySem.W.Frag} {H : Hp} {F : Addr → Prop} {p : Addr} {vs : List V} {ds : List D}
structure Bes (K : PySem.W.Frag) (H : Hp) (F : Addr → Prop) (μ : Mem) (p : Addr) (vs : List V) (ds : List D) : Prop where
  at_ : H p = some (.lst vs)
  nF : ¬ F p
  nm : μ p = none
  rd : RDs K H F vs ds
theorem Bes.grow {H' F' μ'} (b : Bes K H F μ p vs ds) (m : MS K H F μ) (g : Grow H F μ H' F' μ') : Bes K H' F' μ' p vs ds := by
  refine ⟨g.keep p _ b.at_ b.nm, fun f => ?_, ?_, b.rd.stay (g.stay m)⟩
  · rcases g.new p f with z | z | z | ⟨_, z⟩
    · exact b.nF z
    · rw [b.at_] at z; cases z
    · rw [b.nm] at z; cases z
    · rw [b.at_] at z; cases z
  · cases e : μ' p with
    | none => rfl
    | some o =>
      rcases g.dom p (by rw [e]; rfl) with z | z
      · rw [b.nm] at z; cases z
      · rw [b.at_] at z; cases z
theorem bes_stay (b : Bes K H F μ p vs ds) (ws : List V) : Stay K H F (upd H p (.lst ws)) F := by
  refine ⟨fun a xs h => ?_, fun a xs f h => ⟨f, ?_⟩, fun a o xs h => ?_⟩
  · rcases h with (h | ⟨o, h⟩) | h
    · exact .inl (.inl (by rw [upd_ne (ne_of h b.at_ (by intro z; cases z))]; exact h))
    · exact .inl (.inr ⟨o, by rw [upd_ne (ne_of h b.at_ (by intro z; cases z))]; exact h⟩)
    · exact .inr h
  · have hne : a ≠ p := fun z => by rw [z] at f; exact b.nF f
    rw [upd_ne hne]; exact h
  · rw [upd_ne (ne_of h b.at_ (by intro z; cases z))]; exact h
theorem Bes.put (b : Bes K H F μ p vs ds) (m : MS K H F μ) {ws : List V} {es : List D} (r : RDs K H F ws es) : Bes K (upd H p (.lst ws)) F μ p ws es ∧ MS K (upd H p (.lst ws)) F μ := by
  have st := bes_stay b ws
  refine ⟨⟨upd_same, b.nF, b.nm, r.stay st⟩, ⟨fun a o e => ?_, fun a f => ?_⟩⟩
  · have hne : a ≠ p := fun z => by rw [z, b.nm] at e; cases e
    obtain ⟨n, u, hu, q⟩ := m.at_ a o e
    exact ⟨n, u, by rw [upd_ne hne]; exact hu, q.stay st⟩
  · obtain ⟨xs, h⟩ := m.fin a f
    exact ⟨xs, (st.lst a xs f h).2⟩
theorem Bes.start (m : MS K H F μ) (hp : H p = none) : Bes K (upd H p (.lst [])) F μ p [] [] ∧ MS K (upd H p (.lst [])) F μ ∧ Grow H F μ (upd H p (.lst [])) F μ := by
  have nF : ¬ F p := fun f => by obtain ⟨xs, h⟩ := m.fin p f; rw [hp] at h; cases h
  have nm : μ p = none := by
    cases e : μ p with
    | none => rfl
    | some o => obtain ⟨_, u, hu, _⟩ := m.at_ p o e; rw [hp] at hu; cases hu
  have g : Grow H F μ (upd H p (.lst [])) F μ := ⟨fun a u e _ => by rw [upd_ne (ne_of_none e hp)]; exact e, fun _ f => f, fun _ f => .inl f, fun _ e => .inl e⟩
  have st := g.stay m
  refine ⟨⟨upd_same, nF, nm, .nil⟩, ⟨fun a o e => ?_, fun a f => ?_⟩, g⟩
  · obtain ⟨n, u, hu, q⟩ := m.at_ a o e
    exact ⟨n, u, by rw [upd_ne (ne_of_none hu hp)]; exact hu, q.stay st⟩
  · obtain ⟨xs, h⟩ := m.fin a f
    exact ⟨xs, (st.lst a xs f h).2⟩
/-- the list joins the memory, or is frozen -/
theorem Bes.join {z : Bool} {Q : DK} {H1 F1 μ1} (b : Bes K H F μ p vs ds) (m : MS K H F μ) (hp : H1 p = none) (g : Grow H1 F1 μ1 H F μ) (q : newL z ds μ Q) : Post K H1 F1 μ1 Q (.ref p) H := by
  cases z with
  | true =>
    have st : Stay K H F H (fun a => F a ∨ a = p) := ⟨fun _ _ h => h, fun _ _ f h => ⟨.inl f, h⟩, fun _ _ _ h => h⟩
    refine ⟨.lst ds, fun a => F a ∨ a = p, μ, ⟨g.keep, fun a f => .inl (g.fr a f), fun a f => ?_, g.dom⟩, ⟨fun a o e => ?_, fun a f => ?_⟩, .lst (.inr rfl) b.at_ (b.rd.stay st), q⟩
    · rcases f with f | f
      · exact g.new a f
      · subst f; exact .inr (.inl hp)
    · obtain ⟨n, u, hu, qq⟩ := m.at_ a o e
      exact ⟨fun z => z.elim n (fun e2 => by rw [e2, b.nm] at e; cases e), u, hu, qq.stay st⟩
    · rcases f with f | f
      · exact m.fin a f
      · subst f; exact ⟨_, b.at_⟩
  | false =>
    refine ⟨.ref p, F, mset μ p (.lst ds), ⟨g.keep, g.fr, g.new, fun a e => ?_⟩, ⟨fun a o e => ?_, m.fin⟩, .ref p, q p b.nm⟩
    · by_cases h : a = p
      · subst h; exact .inr hp
      · rw [mset_ne h] at e; exact g.dom a e
    · by_cases h : a = p
      · subst h
        rw [mset_same] at e; cases e
        exact ⟨b.nF, _, b.at_, vs, rfl, b.rd⟩
      · rw [mset_ne h] at e
        exact m.at_ a o e
end
/-- a name of a comprehension's own -/
def ownB (scope : Scope) (x : Str) : Bool := match scope.names.lookup x with
  | some .local => true
  | some .cell => true
  | _ => false
theorem relS_own {scope sc : Scope} {x : Str} : ∀ {l : List (Str × NameKind)}, (l.lookup x = some .local ∨ l.lookup x = some .cell) → (l.map fun (n, k) => if (k == .free && sc.kind == .function && sc.names.lookup n == some .cell) then (n, NameKind.cell) else (n, k)).lookup x = l.lookup x
  | [], h => by simp at h
  | (n, k) :: r, h => by
    rw [List.map_cons]
    by_cases e : x = n
    · subst e
      have hk : k = .local ∨ k = .cell := by simpa [List.lookup_cons] using h
      have hf : (k == NameKind.free) = false := by rcases hk with rfl | rfl <;> rfl
      simp [hf, List.lookup_cons]
    · have hb : (x == n) = false := by simpa using e
      rw [List.lookup_cons, hb] at h
      have ih := relS_own (scope := scope) (sc := sc) (l := r) h
      by_cases hf : (k == .free && sc.kind == .function && sc.names.lookup n == some .cell) = true
      · simp only [hf, if_true]
        rw [List.lookup_cons, hb, List.lookup_cons, hb]; exact ih
      · simp only [hf, Bool.false_eq_true, if_false]
        rw [List.lookup_cons, hb, List.lookup_cons, hb]; exact ih
theorem SX.blk (sx : SX G X N sc) (s : Shared) (H : Hp) (C : Addr) (cl : List (Str × Addr)) (fp : List Addr) (xe : Value → Shared → Prop) {scope : Scope} {own : List (Str × Nat)} (b : BlkOk N sc scope own) : SX G (blkX X s H scope (compEnvC scope cl C X.env) fp xe) N (relS scope sc) where
  hN := sx.hN
  nd := sx.nd
  esc := by
    show relS scope X.env.scope = relS scope sc
    rw [sx.esc]
  kind := b.kind
  calm := sx.calm
  un := sx.un
  gd := sx.gd
  tb := sx.tb
  rm2 := sx.rm2
  ini := sx.ini
  met := sx.met
  own := fun h => by
    have h : X.stack = compEnvC scope cl C X.env :: X.stack := h
    have := congrArg List.length h
    simp at this
  fr := sx.fr
  blt := sx.blt
  ex := sx.ex
  cst := sx.cst
  fn := sx.fn
theorem blk_own (sx : SX G X N sc) (s : Shared) (H : Hp) (C : Addr) (cl : List (Str × Addr)) (fp : List Addr) (xe : Value → Shared → Prop) {scope : Scope} (x : Str) (h : ownB scope x = true) :
    Loc (blkX X s H scope (compEnvC scope cl C X.env) fp xe).env.scope x ∧ ((blkX X s H scope (compEnvC scope cl C X.env) fp xe).fn x = true ∨ (blkX X s H scope (compEnvC scope cl C X.env) fp xe).env.scope.names.lookup x = some .local) := by
  have h2 : scope.names.lookup x = some .local ∨ scope.names.lookup x = some .cell := by
    unfold ownB at h
    split at h
    · rename_i e; exact .inl e
    · rename_i e; exact .inr e
    · cases h
  have e : (relS scope X.env.scope).names.lookup x = scope.names.lookup x := relS_own (scope := scope) (sc := X.env.scope) h2
  refine ⟨?_, ?_⟩
  · show (relS scope X.env.scope).names.lookup x = _ ∨ (relS scope X.env.scope).names.lookup x = _
    rw [e]; exact h2
  · rcases h2 with h2 | h2
    · right
      show (relS scope X.env.scope).names.lookup x = _
      rw [e]; exact h2
    · left
      show (scope.names.lookup x == some .cell) = true
      rw [h2]; rfl
/-- what a comprehension's parts want, in any block -/
structure LcOk (G : Gc) (X : Cx) (EX : EK) (N : List Str) (sc : Scope) (tg : Expr) (ifs : List Expr) (elt : Expr) (scope : Scope) (own : List (Str × Nat)) (t : T)
    (P : Rho → Mem → (Bool → Mem → Prop) → Prop) (Pe : Rho → Mem → DK → Prop) : Prop where
  blk : BlkOk N sc scope own
  slots : own.map (·.2) = t.slots
  tg : tgB N (ownB scope) t tg = true
  ifs : ∀ X', SX G X' N (relS scope sc) → ∀ ρ μ q, P ρ μ q → DTs X' EX ifs ρ μ q
  elt : ∀ X', SX G X' N (relS scope sc) → ∀ ρ μ q, Pe ρ μ q → DE X' EX elt ρ μ q
theorem lc_read (sx : SX G X N sc) {z : Bool} {elt tg iter : Expr} {ifs : List Expr} {scope : Scope} {own : List (Str × Nat)} {t : T} {P : Rho → Mem → (Bool → Mem → Prop) → Prop} {Pe : Rho → Mem → DK → Prop} {Q : DK} (L : LcOk G X EX N sc tg ifs elt scope own t P Pe)
    (h : DI X EX tg iter ρ μ fun items ok μ1 => LC items μ1 ok (fun x μ2 R => wpTg t x (wipeR ρ t.slots) μ2 fun ρ' μ3 => P ρ' μ3 fun b μ4 => if b = true then Pe ρ' μ4 fun d μ5 => R (some d) μ5 else R none μ4) fun acc μ2 => newL z acc μ2 Q)
    {σ : St} {H_ : Hp} {F : Addr → Prop} (en : RE X EX H_ F μ σ ρ) (m : MS X.K H_ F μ) :
    tLc (WI X tg iter) (fun v σ H Q => ∀ (s0 : Shared) (H0 : Hp) (C : Addr) (cl : List (Str × Addr)) (fp : List Addr) xe, TakesF (blkX X s0 H0 scope (compEnvC scope cl C X.env) fp xe) (fun cls d _ H' => Wish X.K X.mg H_ F μ EX cls d H') → WG (blkX X s0 H0 scope (compEnvC scope cl C X.env) fp xe) tg v σ H Q)
      (fun σ H Q => ∀ (s0 : Shared) (H0 : Hp) (C : Addr) (cl : List (Str × Addr)) (fp : List Addr) xe, TakesF (blkX X s0 H0 scope (compEnvC scope cl C X.env) fp xe) (fun cls d _ H' => Wish X.K X.mg H_ F μ EX cls d H') → WTs (blkX X s0 H0 scope (compEnvC scope cl C X.env) fp xe) ifs σ H Q)
      (fun σ H Q => ∀ (s0 : Shared) (H0 : Hp) (C : Addr) (cl : List (Str × Addr)) (fp : List Addr) xe, TakesF (blkX X s0 H0 scope (compEnvC scope cl C X.env) fp xe) (fun cls d _ H' => Wish X.K X.mg H_ F μ EX cls d H') → WE (blkX X s0 H0 scope (compEnvC scope cl C X.env) fp xe) elt σ H Q)
      (own.map (·.2)) σ H_ (Post X.K H_ F μ Q) := by
  rw [L.slots]
  refine (h σ H_ F en m).mono fun J H1 ⟨items, ok, F1, μ1, g1, m1, w, I, hI0, hIs, hId⟩ => fun p hp => ?_
  obtain ⟨b0, m0, g0⟩ := Bes.start m1 hp
  refine ⟨fun i k H' => k = items.length - i ∧ i ≤ items.length ∧ ∃ F' μ' vs ds, Grow H1 F1 μ1 H' F' μ' ∧ MS X.K H' F' μ' ∧ Bes X.K H' F' μ' p vs ds ∧ I (items.drop i) ds μ',
    ⟨items.length, by simp, Nat.zero_le _, F1, μ1, [], [], g0, m0, b0, hI0⟩, ?_⟩
  rintro i k H2 ⟨rfl, hi, F2, μ2, vs, ds, g2, m2, b2, hI⟩
  by_cases hlt : i < items.length
  · right
    have hd : items.drop i = items[i] :: items.drop (i + 1) := List.drop_eq_getElem_cons hlt
    rw [hd] at hI
    obtain ⟨hok, hstep⟩ := hIs _ _ _ _ hI
    refine ⟨w.go i H2 F2 μ2 hlt g2 m2 hok, fun H' => i + 1 ≤ items.length ∧ ∃ F' μ' vs ds, Grow H1 F1 μ1 H' F' μ' ∧ MS X.K H' F' μ' ∧ Bes X.K H' F' μ' p vs ds ∧ I (items.drop (i + 1)) ds μ', fun H' ⟨h1, h2⟩ => ⟨items.length - (i + 1), by omega, rfl, h1, h2⟩, fun x H3 y => ?_⟩
    obtain ⟨d, hd2, g3, m3, r3⟩ := w.yld i H2 F2 μ2 x H3 hlt g2 m2 hok y
    have ed : items[i] = d := by rw [List.getElem?_eq_getElem hlt] at hd2; exact Option.some.inj hd2
    rw [ed] at hstep
    intro s0 H0 C cl fp xe _
    have sb := sx.blk s0 H0 C cl fp xe L.blk
    have g13 := g2.trans g3
    refine (tg_ok (X := blkX X s0 H0 scope (compEnvC scope cl C X.env) fp xe) (blk_own sx s0 H0 C cl fp xe) sb.hN sb.nd sb.calm t tg L.tg x d (L2.wipe σ t.slots) H3 F2 (wipeR ρ t.slots) μ2 _ ((en.on (g1.trans g13) m).wipe _) m3 r3 hstep).mono fun σ4 H4 ⟨o4, ρ4, F4, μ4, g4, m4, en4, q4⟩ => ?_
    refine ⟨(wipe_off o4).trans wipe_wipe, fun s1 H01 C1 cl1 fp1 xe1 tk1 => ?_⟩
    have g14 := g13.trans g4
    have b4 := (b2.grow m2 g3).grow m3 g4
    refine (L.ifs _ (sx.blk s1 H01 C1 cl1 fp1 xe1 L.blk) ρ4 μ4 _ q4 σ4 H4 F4 ⟨en4, tk1.imp fun _ _ _ _ w => Wish.pre (g1.trans g14) w⟩ m4).mono fun c H5 ⟨F5, μ5, g5, m5, q5⟩ => ?_
    have b5 := b4.grow m4 g5
    cases c with
    | false =>
      rw [if_neg Bool.false_ne_true] at q5 ⊢
      exact ⟨hlt, F5, μ5, vs, ds, g14.trans g5, m5, b5, q5⟩
    | true =>
      rw [if_pos rfl] at q5 ⊢
      intro s2 H02 C2 cl2 fp2 xe2 tk2
      refine (L.elt _ (sx.blk s2 H02 C2 cl2 fp2 xe2 L.blk) ρ4 μ5 _ q5 σ4 H5 F5 ⟨en4.stay (g5.stay m4), tk2.imp fun _ _ _ _ w => Wish.pre (g1.trans (g14.trans g5)) w⟩ m5).mono fun y H6 ⟨e, F6, μ6, g6, m6, r6, hz, q6⟩ => ?_
      have b6 := b5.grow m5 g6
      obtain ⟨b7, m7⟩ := b6.put m6 (b6.rd.append (.cons r6 .nil))
      refine ⟨vs, b6.at_, by rw [b6.rd.length, line_eq]; exact hz, hlt, F6, μ6, vs ++ [y], ds ++ [e], ?_, m7, b7, q6⟩
      have g16 := (g14.trans g5).trans g6
      exact ⟨fun a u ea n => by rw [upd_ne (ne_of_none ea hp)]; exact g16.keep a u ea n, g16.fr, g16.new, g16.dom⟩
  · left
    have hi2 : i = items.length := by omega
    subst hi2
    rw [List.drop_length] at hI
    obtain ⟨hok, hq⟩ := hId _ _ hI
    exact ⟨w.stop H2 F2 μ2 g2 m2 hok, (b2.join m2 hp g2 hq).pre g1⟩
theorem DE.lc (sx : SX G X N sc) {z : Bool} {elt tg iter : Expr} {ifs : List Expr} {scope : Scope} {pos : Pos} {own : List (Str × Nat)} {t : T} {P : Rho → Mem → (Bool → Mem → Prop) → Prop} {Pe : Rho → Mem → DK → Prop} {Q : DK} (hset : isSetE iter = false) (L : LcOk G X EX N sc tg ifs elt scope own t P Pe)
    (h : DI X EX tg iter ρ μ fun items ok μ1 => LC items μ1 ok (fun x μ2 R => wpTg t x (wipeR ρ t.slots) μ2 fun ρ' μ3 => P ρ' μ3 fun b μ4 => if b = true then Pe ρ' μ4 fun d μ5 => R (some d) μ5 else R none μ4) fun acc μ2 => newL z acc μ2 Q) :
    DE X EX (.ListComp elt [⟨tg, iter, ifs, 0⟩] scope pos) ρ μ Q := fun σ H F en m => by
  have blk : BlkOk X.N X.env.scope scope own := by rw [sx.hN, sx.esc]; exact L.blk
  obtain ⟨e0, o0, L0, hst, hf0, hf⟩ := sx.fr
  exact we_of (pe_lcX (fun _ _ _ _ _ w => w) en.tk hst hf0 hf sx.calm (by rw [sx.hN]; exact sx.nd) pi_wi blk (fun s0 H0 C cl fp xe tk => ⟨fun pins s σ H v u Q I r q => q s0 H0 C cl fp xe tk pins s u I r⟩) (fun s0 H0 C cl fp xe tk => ⟨fun pins s σ H Q I q => q s0 H0 C cl fp xe tk pins s I⟩) (fun s0 H0 C cl fp xe tk => ⟨fun pins s σ H Q I q => q s0 H0 C cl fp xe tk pins s I⟩) (folded_no hset)) (lc_read sx L h en m)
end
end DL
/-! Statements. -/
namespace DL
open PySem PySem.Spec PyProof.Rows L2
section
variable {G : Gc} {X : Cx} {EX : EK} {N : List Str} {sc : Scope} {ρ : Rho} {μ : Mem}
def WS (X : Cx) (st : Stmt) : TS := fun D σ H => ∀ (pins : List (Addr × Obj)) (s : Shared), Inv X pins σ H s → wpAny (model X.prog X.w) X.A (exec st X.env) (SP X pins D) X.xe s
theorem ps_ws {st : Stmt} : PS X st (WS X st) := ⟨fun pins s σ H D I h => h pins s I⟩
theorem ws_of {st : Stmt} {t : TS} {K : Ends} {σ : St} {H : Hp} (h : PS X st t) (q : t K σ H) : WS X st K σ H := fun pins s I => h.run pins s σ H K I q
def WSs (X : Cx) (st : List Stmt) : TS := fun D σ H => ∀ (pins : List (Addr × Obj)) (s : Shared), Inv X pins σ H s → wpAny (model X.prog X.w) X.A (execs st X.env) (SP X pins D) X.xe s
theorem pss_wss {st : List Stmt} : PSs X st (WSs X st) := ⟨fun pins s σ H D I h => h pins s I⟩
theorem wss_of {st : List Stmt} {t : TS} {K : Ends} {σ : St} {H : Hp} (h : PSs X st t) (q : t K σ H) : WSs X st K σ H := fun pins s I => h.run pins s σ H K I q
/-- the ends weaker -/
structure Ends.le (K K' : Ends) : Prop where
  nx : ∀ σ H, K.nx σ H → K'.nx σ H
  rt : ∀ v H, K.rt v H → K'.rt v H
  bk : ∀ σ H, K.bk σ H → K'.bk σ H
  ct : ∀ σ H, K.ct σ H → K'.ct σ H
theorem sp_mono {pins : List (Addr × Obj)} {K K' : Ends} {f : Flow} {s' : Shared} (le : Ends.le K K') (h : SP X pins K f s') : SP X pins K' f s' := by
  cases f with
  | next => obtain ⟨σ', H', I, q⟩ := h; exact ⟨σ', H', I, le.nx _ _ q⟩
  | brk => obtain ⟨σ', H', I, q⟩ := h; exact ⟨σ', H', I, le.bk _ _ q⟩
  | cont => obtain ⟨σ', H', I, q⟩ := h; exact ⟨σ', H', I, le.ct _ _ q⟩
  | ret u => obtain ⟨v, σ', H', I, r, q⟩ := h; exact ⟨v, σ', H', I, r, le.rt _ _ q⟩
theorem WS.mono {st : Stmt} {K K' : Ends} {σ : St} {H : Hp} (h : WS X st K σ H) (le : Ends.le K K') : WS X st K' σ H := fun pins s I => thn (h pins s I) fun _ _ q => sp_mono le q
theorem WSs.mono {st : List Stmt} {K K' : Ends} {σ : St} {H : Hp} (h : WSs X st K σ H) (le : Ends.le K K') : WSs X st K' σ H := fun pins s I => thn (h pins s I) fun _ _ q => sp_mono le q
def PR (K : PySem.W.Frag) (H : Hp) (F : Addr → Prop) (μ : Mem) (Q : Rho → Mem → Prop) : St → Hp → Prop := fun σ' H' => ∃ ρ' F' μ', Grow H F μ H' F' μ' ∧ MS K H' F' μ' ∧ REnv K H' F' σ' ρ' ∧ Q ρ' μ'
theorem PR.pre {K H F μ H1 F1 μ1 Q σ' H'} (g : Grow H F μ H1 F1 μ1) (h : PR K H1 F1 μ1 Q σ' H') : PR K H F μ Q σ' H' :=
  let ⟨ρ', F', μ', g2, m, e, q⟩ := h
  ⟨ρ', F', μ', g.trans g2, m, e, q⟩
def endsOf (K : PySem.W.Frag) (H : Hp) (F : Addr → Prop) (μ : Mem) (D₀ : DEnds) : Ends := ⟨PR K H F μ D₀.nx, Post K H F μ D₀.rt, PR K H F μ D₀.bk, PR K H F μ D₀.ct⟩
theorem endsOf_le {K H F μ H1 F1 μ1} {D₀ : DEnds} (g : Grow H F μ H1 F1 μ1) : Ends.le (endsOf K H1 F1 μ1 D₀) (endsOf K H F μ D₀) := ⟨fun _ _ q => q.pre g, fun _ _ q => q.pre g, fun _ _ q => q.pre g, fun _ _ q => q.pre g⟩
def DS (X : Cx) (EX : EK) (st : Stmt) (ρ : Rho) (μ : Mem) (D₀ : DEnds) : Prop := ∀ σ H F, RE X EX H F μ σ ρ → MS X.K H F μ → WS X st (endsOf X.K H F μ D₀) σ H
def DSs (X : Cx) (EX : EK) (st : List Stmt) (ρ : Rho) (μ : Mem) (D₀ : DEnds) : Prop := ∀ σ H F, RE X EX H F μ σ ρ → MS X.K H F μ → WSs X st (endsOf X.K H F μ D₀) σ H
variable {K₀ : DEnds}
theorem DSs.nil (q : K₀.nx ρ μ) : DSs X EX [] ρ μ K₀ := fun σ H F e m => wss_of pss_nil ⟨ρ, F, μ, .refl, m, e.toREnv, q⟩
theorem DSs.one {st : Stmt} (h : DS X EX st ρ μ K₀) : DSs X EX [st] ρ μ K₀ := fun σ H F e m => wss_of (pss_one ps_ws) (h σ H F e m)
theorem DSs.cons {st : Stmt} {rest : List Stmt} (h : DS X EX st ρ μ { K₀ with nx := fun ρ' μ' => DSs X EX rest ρ' μ' K₀ }) : DSs X EX (st :: rest) ρ μ K₀ := fun σ H F e m => by
  refine wss_of (pss_cons ps_ws pss_wss) ?_
  refine (h σ H F e m).mono ⟨fun σ' H' ⟨ρ', F', μ', g, m', e', q⟩ => ?_, fun _ _ q => q, fun _ _ q => q, fun _ _ q => q⟩
  exact (q σ' H' F' (e.to g e') m').mono (endsOf_le g)
/-- an expression, then a step -/
theorem DS.ofE {st : Stmt} {ex : Expr} {R : D → Mem → Prop} (h : DE X EX ex ρ μ R) (hp : ∀ te, PE X ex te → ∃ k : V → St → Hp → Ends → Prop, PS X st (fun K σ H => te σ H fun v H1 => k v σ H1 K) ∧
    ∀ σ H1 F1 μ1 v d, RE X EX H1 F1 μ1 σ ρ → MS X.K H1 F1 μ1 → RD X.K H1 F1 v d → R d μ1 → ∀ K : Ends, Ends.le (endsOf X.K H1 F1 μ1 K₀) K → k v σ H1 K) : DS X EX st ρ μ K₀ := fun σ H F e m => by
  obtain ⟨k, hk, hr⟩ := hp _ pe_we
  refine ws_of hk ?_
  exact (h σ H F e m).mono fun v H1 ⟨d, F1, μ1, g1, m1, r1, q⟩ => hr σ H1 F1 μ1 v d (e.on g1 m) m1 r1 q _ (endsOf_le g1)
theorem DS.expr {ex : Expr} {pos : Pos} (hl : isLC ex = false) (h : DE X EX ex ρ μ fun _ μ1 => K₀.nx ρ μ1) : DS X EX (.Expr ex pos) ρ μ K₀ :=
  DS.ofE h fun te ht => ⟨fun _ σ H1 K => K.nx σ H1, ps_expr ht (swap_no hl), fun σ H1 F1 μ1 v d e m r q K le => le.nx _ _ ⟨ρ, F1, μ1, .refl, m, e.toREnv, q⟩⟩
theorem DS.ret {ex : Expr} {pos : Pos} (h : DE X EX ex ρ μ K₀.rt) : DS X EX (.Return (some ex) pos) ρ μ K₀ :=
  DS.ofE h fun te ht => ⟨fun v σ H1 K => K.rt v H1, ps_ret ht, fun σ H1 F1 μ1 v d e m r q K le => le.rt _ _ (.now m r q)⟩
theorem DS.retN {pos : Pos} (q : K₀.rt .non μ) : DS X EX (.Return none pos) ρ μ K₀ := fun σ H F e m => ws_of ps_retN (.now m .non q)
theorem DS.pass {pos : Pos} (q : K₀.nx ρ μ) : DS X EX (.Pass pos) ρ μ K₀ := fun σ H F e m => ws_of ps_pass ⟨ρ, F, μ, .refl, m, e.toREnv, q⟩
theorem DS.brk {pos : Pos} (q : K₀.bk ρ μ) : DS X EX (.Break pos) ρ μ K₀ := fun σ H F e m => ws_of ps_break ⟨ρ, F, μ, .refl, m, e.toREnv, q⟩
theorem DS.cont {pos : Pos} (q : K₀.ct ρ μ) : DS X EX (.Continue pos) ρ μ K₀ := fun σ H F e m => ws_of ps_continue ⟨ρ, F, μ, .refl, m, e.toREnv, q⟩
theorem DS.ite {t : Expr} {a b : List Stmt} {pos : Pos} (h : DT X EX t ρ μ fun c μ1 => if c = true then DSs X EX a ρ μ1 K₀ else DSs X EX b ρ μ1 K₀) : DS X EX (.If t a b pos) ρ μ K₀ := fun σ H F e m => by
  refine ws_of (ps_if pt_wt pss_wss pss_wss) ?_
  refine (h σ H F e m).mono fun c H1 ⟨F1, μ1, g1, m1, q⟩ => ?_
  cases c with
  | true =>
    rw [if_pos rfl] at q ⊢
    exact (q σ H1 F1 (e.on g1 m) m1).mono (endsOf_le g1)
  | false =>
    rw [if_neg Bool.false_ne_true] at q ⊢
    exact (q σ H1 F1 (e.on g1 m) m1).mono (endsOf_le g1)
theorem intK_ok {d : D} {k : Int → Prop} (h : intK d k) : ∃ i, d = .int i ∧ k i := by
  cases d <;> first | exact ⟨_, rfl, h⟩ | exact h.elim
theorem tLc_mono {X : Cx} {tg iter : Expr} {g : TG} {tt : TT} {te : TE} {vs : List Nat} {σ : St} {H : Hp} {Q Q' : VK} (h : tLc (WI X tg iter) g tt te vs σ H Q) (m : ∀ v H', Q v H' → Q' v H') : tLc (WI X tg iter) g tt te vs σ H Q' := by
  refine WI.mono h fun J H1 hD D hd => ?_
  obtain ⟨W, h0, hs⟩ := hD D hd
  refine ⟨W, h0, fun i k H' w => ?_⟩
  rcases hs i k H' w with ⟨a, b⟩ | c
  · exact .inl ⟨a, m _ _ b⟩
  · exact .inr c
/-- two names are stored from the right -/
def swap2B (px py : Pos) (a b : Expr) : Bool := (py.line == px.line) && (!([a, b].all (foldedForSure 8)) && !([a, b].all (constantsAlone 8)))
theorem swapped2 {X : Cx} {x y : Str} {a b : Expr} {px py pt pt2 : Pos} {kt k2 : Nat} (hk : X.env.scope.kind = .function) (hx : X.env.scope.names.lookup x = some .local) (hy : X.env.scope.names.lookup y = some .local) (hxy : x ≠ y) (sa : noStar a = true) (sb : noStar b = true) (h : swap2B px py a b = true) :
    swappedStores [.Tuple [.Name x px, .Name y py] kt pt] (.Tuple [a, b] k2 pt2) X.env = pure (some [x, y]) := by
  have kx : X.env.kindOf x = some .local := hx
  have ky : X.env.kindOf y = some .local := hy
  have hb : X.env.blockKind = .function := by unfold Env.blockKind; rw [hk]; rfl
  unfold swap2B at h
  simp only [Bool.and_eq_true, Bool.not_eq_true'] at h
  obtain ⟨h1, h2, h3⟩ := h
  have st : ([a, b].any fun | .Starred .. => true | _ => false) = false := by
    cases a <;> cases b <;> first | rfl | (cases sa; done) | (cases sb; done)
  have nd : ([x, y].eraseDups).length = 2 := by
    have e : (y == x) = false := beq_eq_false_iff_ne.mpr (fun z => hxy z.symm)
    simp [List.eraseDups_cons, e]
  have hpx : (px.line == px.line) = true := beq_self_eq_true _
  have e1 : (some NameKind.local == some NameKind.local) = true := rfl
  unfold swappedStores
  simp only [List.length_cons, List.length_nil, hb, List.filterMap_cons, List.filterMap_nil, List.head?_cons, Option.map_some, Option.getD_some, Expr.pos, kx, ky, h1, h2, h3, hpx, e1, Bool.true_and, if_true]
  refine (if_neg (by decide)).trans ((if_neg ?_).trans ((if_neg ?_).trans ((if_neg (by decide)).trans (if_neg (by decide)))))
  · intro hc
    rw [List.any_cons, List.any_cons, List.any_nil, Bool.or_false, Bool.or_eq_true] at hc
    rcases hc with hc | hc
    · cases a <;> first | (cases hc; done) | (cases sa; done)
    · cases b <;> first | (cases hc; done) | (cases sb; done)
  · rw [nd]
    decide
def two (ds : List D) (p : D → D → Prop) : Prop := match ds with
  | [x, y] => p x y
  | _ => False
/-- the names of a def that may be stored -/
theorem def_own (sx : SX G X N sc) (hf : ∀ x, X.fn x = true) (x : Str) (h : locB sc x = true) : Loc X.env.scope x ∧ (X.fn x = true ∨ X.env.scope.names.lookup x = some .local) := ⟨sx.loc h, .inl (hf x)⟩
theorem asg_k (sx : SX G X N sc) (hf : ∀ x, X.fn x = true) {tg : Expr} {t : T} (ht : tgB N (locB sc) t tg = true) {σ : St} {H : Hp} {F : Addr → Prop} {v : V} {d : D} {Q : Rho → Mem → Prop} (e : REnv X.K H F σ ρ) (m : MS X.K H F μ) (r : RD X.K H F v d) (q : wpTg t d ρ μ Q) {Z : St → Hp → Prop} (le : ∀ σ' H', PR X.K H F μ Q σ' H' → Z σ' H') : WG X tg v σ H Z :=
  (tg_ok (def_own sx hf) sx.hN sx.nd sx.calm t tg ht v d σ H F ρ μ Q e m r q).mono fun σ' H' ⟨_, ρ', F', μ', g, m', e', q'⟩ => le σ' H' ⟨ρ', F', μ', g, m', e', q'⟩
theorem DS.set (sx : SX G X N sc) (hf : ∀ x, X.fn x = true) {i : Nat} {x : Str} {ex : Expr} {p pos : Pos} (hi : N[i]? = some x) (hx : locB sc x = true) (hs : swapsWith ex (some (.Name x p)) pos.line X.env = pure false) (h : DE X EX ex ρ μ fun d μ1 => K₀.nx (ρ.set i (some d)) μ1) : DS X EX (.Assign [.Name x p] ex pos) ρ μ K₀ :=
  DS.ofE h fun te ht => ⟨fun v σ H1 K => gName i v σ H1 K.nx, ps_set (by rw [sx.hN]; exact sx.nd) (by rw [sx.hN]; exact hi) (sx.loc hx) ht hs (.inl (hf x)), fun σ H1 F1 μ1 v d e m r q K le => le.nx _ _ ⟨_, F1, μ1, .refl, m, (e.set i r).toREnv, q⟩⟩
theorem swaps_none {tg v : Expr} {env : Env} (h : isTupE v = false) : swappedStores [tg] v env = pure none := by
  cases tg <;> cases v <;> first | rfl | (cases h; done)
/-- not a tuple, or one of folded constants -/
def tupFree : Expr → Bool
  | .Tuple vs _ _ => vs.all (foldedForSure 8)
  | _ => true
theorem swaps_free {tg v : Expr} {env : Env} (h : tupFree v = true) : swappedStores [tg] v env = pure none := by
  by_cases hv : isTupE v = false
  · exact swaps_none hv
  · cases v with
    | Tuple vs k p =>
      have h : vs.all (foldedForSure 8) = true := h
      cases tg <;> first | rfl | skip
      all_goals
        unfold swappedStores
        simp only [h, if_true]
        repeat (first | rfl | split)
    | _ => exact absurd rfl hv
theorem swaps_sub {o i : Expr} {p : Pos} {v : Expr} {env : Env} : swappedStores [.Subscript o i p] v env = pure none := by
  cases v <;> rfl
theorem swaps_sole {ts : List Expr} {k : Nat} {p : Pos} {v : Expr} {l : Nat} {env : Env} : swapsWithSole [.Tuple ts k p] v l env = pure false := by
  cases v <;> rfl
theorem DS.asg (sx : SX G X N sc) (hf : ∀ x, X.fn x = true) {t : T} {ts : List Expr} {k : Nat} {p pos : Pos} {ex : Expr} (ht : tgB N (locB sc) t (.Tuple ts k p) = true) (hv : tupFree ex = true) (h : DE X EX ex ρ μ fun d μ1 => wpTg t d ρ μ1 K₀.nx) : DS X EX (.Assign [.Tuple ts k p] ex pos) ρ μ K₀ :=
  DS.ofE h fun te hte => ⟨fun v σ H1 K => WG X (.Tuple ts k p) v σ H1 K.nx, ps_asg hte pg_wg swaps_sole (swaps_free hv) rfl, fun σ H1 F1 μ1 v d e m r q K le => asg_k sx hf ht e.toREnv m r q le.nx⟩
theorem DS.aug (sx : SX G X N sc) (hf : ∀ x, X.fn x = true) {i : Nat} {x : Str} {ex : Expr} {p pos : Pos} (hi : N[i]? = some x) (hx : locB sc x = true)
    (ha : getV ρ i fun d0 => intK d0 fun a => DE X EX ex ρ μ fun d μ1 => intK d fun b => K₀.nx (ρ.set i (some (.int (a + b)))) μ1) : DS X EX (.AugAssign (.Name x p) .Add ex pos) ρ μ K₀ := fun σ H F e m => by
  obtain ⟨d0, h0, ha⟩ := getV_ok ha
  obtain ⟨a, ea, h⟩ := intK_ok ha
  subst ea
  refine ws_of (ps_aug (by rw [sx.hN]; exact sx.nd) (by rw [sx.hN]; exact hi) (sx.loc hx) pe_we ip_add (.inl (hf x))) ?_
  obtain ⟨v, hv, rv⟩ := e.at_ i _ h0
  cases rv
  refine ⟨_, hv, ?_⟩
  refine (h σ H F e m).mono fun u H1 ⟨d, F1, μ1, g1, m1, r1, q⟩ => ?_
  obtain ⟨b, eb, q⟩ := intK_ok q
  subst eb
  cases r1
  exact ⟨a, b, rfl, rfl, ⟨_, F1, μ1, g1, m1, ((e.on g1 m).set i (.int _)).toREnv, q⟩⟩
/-- name = [..] -/
theorem DS.setLc (sx : SX G X N sc) {i : Nat} {y : Str} {py : Pos} {z : Bool} {elt tg iter : Expr} {ifs : List Expr} {scope : Scope} {pos spos : Pos} {own : List (Str × Nat)} {t : T} {P : Rho → Mem → (Bool → Mem → Prop) → Prop} {Pe : Rho → Mem → DK → Prop}
    (hi : N[i]? = some y) (hy : sc.names.lookup y = some .local) (hl : (py.line == pos.line) = true) (ha : (scope.names.any fun (n, k) => n == y && (k == .local || k == .cell)) = false) (hset : isSetE iter = false) (L : LcOk G X EX N sc tg ifs elt scope own t P Pe)
    (h : DI X EX tg iter ρ μ fun items ok μ1 => LC items μ1 ok (fun x μ2 R => wpTg t x (wipeR ρ t.slots) μ2 fun ρ' μ3 => P ρ' μ3 fun b μ4 => if b = true then Pe ρ' μ4 fun d μ5 => R (some d) μ5 else R none μ4) fun acc μ2 => newL z acc μ2 fun d μ3 => K₀.nx (ρ.set i (some d)) μ3) :
    DS X EX (.Assign [.Name y py] (.ListComp elt [⟨tg, iter, ifs, 0⟩] scope pos) spos) ρ μ K₀ := fun σ H_ F en m => by
  have blk : BlkOk X.N X.env.scope scope own := by rw [sx.hN, sx.esc]; exact L.blk
  have hy2 : X.env.scope.names.lookup y = some .local := by rw [sx.esc]; exact hy
  have hk : X.env.scope.kind = .function := by rw [sx.esc]; exact sx.kind
  obtain ⟨e0, o0, L0, hst, hf0, hf⟩ := sx.fr
  refine ws_of (ps_setLcX (i := i) (fun _ _ _ _ _ w => w) en.tk hst hf0 hf sx.calm (by rw [sx.hN]; exact sx.nd) (by rw [sx.hN]; exact hi) hy2 (sw_true hk hy2 hl ha) pi_wi blk
    (g := fun v σ H Q => ∀ (s0 : Shared) (H0 : Hp) (C : Addr) (cl : List (Str × Addr)) (fp : List Addr) xe, TakesF (blkX X s0 H0 scope (compEnvC scope cl C X.env) fp xe) (fun cls d _ H' => Wish X.K X.mg H_ F μ EX cls d H') → WG (blkX X s0 H0 scope (compEnvC scope cl C X.env) fp xe) tg v σ H Q)
    (tt := fun σ H Q => ∀ (s0 : Shared) (H0 : Hp) (C : Addr) (cl : List (Str × Addr)) (fp : List Addr) xe, TakesF (blkX X s0 H0 scope (compEnvC scope cl C X.env) fp xe) (fun cls d _ H' => Wish X.K X.mg H_ F μ EX cls d H') → WTs (blkX X s0 H0 scope (compEnvC scope cl C X.env) fp xe) ifs σ H Q)
    (te := fun σ H Q => ∀ (s0 : Shared) (H0 : Hp) (C : Addr) (cl : List (Str × Addr)) (fp : List Addr) xe, TakesF (blkX X s0 H0 scope (compEnvC scope cl C X.env) fp xe) (fun cls d _ H' => Wish X.K X.mg H_ F μ EX cls d H') → WE (blkX X s0 H0 scope (compEnvC scope cl C X.env) fp xe) elt σ H Q)
    (fun s0 H0 C cl fp xe tk => ⟨fun pins s σ H v u Q I r q => q s0 H0 C cl fp xe tk pins s u I r⟩) (fun s0 H0 C cl fp xe tk => ⟨fun pins s σ H Q I q => q s0 H0 C cl fp xe tk pins s I⟩) (fun s0 H0 C cl fp xe tk => ⟨fun pins s σ H Q I q => q s0 H0 C cl fp xe tk pins s I⟩) (folded_no hset)) ?_
  have hr := lc_read (Q := fun d μ3 => K₀.nx (ρ.set i (some d)) μ3) sx L h en m
  refine tLc_mono hr fun v H' ⟨d, F', μ', g, m', r, q⟩ => ?_
  exact ⟨_, F', μ', g, m', ((en.on g m).set i r).toREnv, q⟩
/-- a, b = e, e' -/
theorem DS.par (sx : SX G X N sc) {i j : Nat} {x y : Str} {a b : Expr} {px py pt pt2 pos : Pos} {kt k2 : Nat} (hi : N[i]? = some x) (hj : N[j]? = some y) (hij : i ≠ j)
    (hx : sc.names.lookup x = some .local) (hy : sc.names.lookup y = some .local) (hxy : x ≠ y) (sa : noStar a = true) (sb : noStar b = true) (hsw : swap2B px py a b = true)
    (h : DA X EX [a, b] ρ μ fun ds μ1 => two ds fun d e => K₀.nx ((ρ.set i (some d)).set j (some e)) μ1) : DS X EX (.Assign [.Tuple [.Name x px, .Name y py] kt pt] (.Tuple [a, b] k2 pt2) pos) ρ μ K₀ := fun σ H F en m => by
  have hx2 : X.env.scope.names.lookup x = some .local := by rw [sx.esc]; exact hx
  have hy2 : X.env.scope.names.lookup y = some .local := by rw [sx.esc]; exact hy
  have hk : X.env.scope.kind = .function := by rw [sx.esc]; exact sx.kind
  refine ws_of (ps_par (i := i) (j := j) sx.calm (by rw [sx.hN]; exact sx.nd) (by rw [sx.hN]; exact hi) (by rw [sx.hN]; exact hj) hij hx2 hy2 pa_wa (swapped2 hk hx2 hy2 hxy sa sb hsw)) ?_
  refine (h σ H F en m).mono fun vs H1 ⟨ds, F1, μ1, g1, m1, r1, q⟩ => ?_
  match ds, r1, q with
  | [d, e], r1, q =>
    obtain ⟨v, u, ev, rv, ru⟩ := two_of r1
    exact ⟨v, u, ev, _, F1, μ1, g1, m1, (((en.on g1 m).set i rv).set j ru).toREnv, q⟩

/-! ### lists that change -/
theorem chg_ok {K H F} {v : V} {x : D} {f : Addr → List D → Prop} (m : MS K H F μ) (r : RD K H F v x) (h : chg x μ f) : ∃ a vs ds, v = .ref a ∧ x = .ref a ∧ H a = some (.lst vs) ∧ RDs K H F vs ds ∧ μ a = some (.lst ds) ∧ f a ds := by
  cases x with
  | ref a =>
    cases r
    obtain ⟨l, e, h⟩ := optD_ok (show optD (seqL μ (.ref a)) _ from h)
    obtain ⟨_, u, hu, vs, eu, rs⟩ := m.at_ a _ (seqL_ref e)
    subst eu
    exact ⟨a, vs, l, rfl, rfl, hu, rs, seqL_ref e, h⟩
  | _ => exact False.elim h
theorem tyV_list {K H F} {v : V} {x : D} {l : List D} (m : MS K H F μ) (r : RD K H F v x) (h : seqL μ x = some l) : tyV K "list" v H := by
  obtain ⟨a, vs, e, hs, _⟩ := seqL_rd m r h
  subst e
  exact .inl ⟨rfl, vs, hs⟩
theorem few_ok {es : List Expr} {cpos : Pos} {env : Env} (h : es.all noStar = true) (hl : es.length < 30) : ((backTo cpos (starEach es env)).all (fun x => !x.1) && (backToKw cpos (keywordEach [] env)).all (fun x => x.1.isSome)
      && decide (es.length + ([] : List Keyword).length + (if ([] : List Keyword).isEmpty then 0 else 1) < 30)) = true := by
  have a := star_any (env := env) (pos := cpos) h
  have b : (backTo cpos (starEach es env)).all (fun x => !x.1) = true := by
    rw [List.all_eq_true]
    intro x hx
    rw [List.any_eq_false] at a
    simpa using a x hx
  rw [b]
  simp only [Bool.true_and, List.length_nil, Nat.add_zero, List.isEmpty_nil, if_true]
  rw [decide_eq_true hl]
  rfl
theorem DS.app {o ex : Expr} {apos cpos pos : Pos} (hb : noSuper o = true) (hl : (apos.endLine == cpos.line) = true) (hs : noStar ex = true)
    (h : DE X EX o ρ μ fun x μ1 => (∃ l, seqL μ1 x = some l) ∧ DE X EX ex ρ μ1 fun d μ2 => chg x μ2 fun a l => l.length < 16777216 ∧ K₀.nx ρ (mset μ2 a (.lst (l ++ [d])))) : DS X EX (.Expr (.Call (.Attribute o "append" apos) [ex] [] cpos) pos) ρ μ K₀ := fun σ H F e m => by
  have hs1 : [ex].all noStar = true := by simp [hs]
  refine ws_of (ps_expr (pe_bm PySem.F.plainAttrs_list PySem.F.slot_list_append PySem.F.type_list_append mt_append pe_we (pa_cons pe_we pa_nil (star_cons hs)) (base_of hb) (few_ok hs1 (by simp)) hl (star_cons hs) (star_any rfl)) (swap_no rfl)) ?_
  refine (h σ H F e m).mono fun v H1 ⟨x, F1, μ1, g1, m1, r1, ⟨l, hl1⟩, q1⟩ => ⟨tyV_list m1 r1 hl1, ?_⟩
  refine (q1 σ H1 F1 (e.on g1 m) m1).mono fun u H2 ⟨d, F2, μ2, g2, m2, r2, q2⟩ => ?_
  obtain ⟨a, vs, ds, ev, _, ha, rs, hm, hz, q⟩ := chg_ok m2 (r1.stay (g2.stay m1)) q2
  subst ev
  obtain ⟨g3, m3⟩ := write_ref (vs := vs ++ [u]) m2 hm (rs.append (.cons r2 .nil))
  have g := (g1.trans g2).trans g3
  exact ⟨a, vs, u, rfl, rfl, ha, by rw [rs.length, line_eq]; exact hz, ρ, F2, _, g, m3, (e.on g m).toREnv, q⟩
theorem DS.ext {o ex : Expr} {apos cpos pos : Pos} (hb : noSuper o = true) (hl : (apos.endLine == cpos.line) = true) (hs : noStar ex = true)
    (h : DE X EX o ρ μ fun x μ1 => (∃ l, seqL μ1 x = some l) ∧ DE X EX ex ρ μ1 fun d μ2 => chg x μ2 fun a l => optD (seqP μ2 d) fun r => l.length + r.length ≤ 16777216 ∧ K₀.nx ρ (mset μ2 a (.lst (l ++ r)))) : DS X EX (.Expr (.Call (.Attribute o "extend" apos) [ex] [] cpos) pos) ρ μ K₀ := fun σ H F e m => by
  have hs1 : [ex].all noStar = true := by simp [hs]
  refine ws_of (ps_expr (pe_bm PySem.F.plainAttrs_list PySem.F.slot_list_extend PySem.F.type_list_extend mt_extend pe_we (pa_cons pe_we pa_nil (star_cons hs)) (base_of hb) (few_ok hs1 (by simp)) hl (star_cons hs) (star_any rfl)) (swap_no rfl)) ?_
  refine (h σ H F e m).mono fun v H1 ⟨x, F1, μ1, g1, m1, r1, ⟨l, hl1⟩, q1⟩ => ⟨tyV_list m1 r1 hl1, ?_⟩
  refine (q1 σ H1 F1 (e.on g1 m) m1).mono fun u H2 ⟨d, F2, μ2, g2, m2, r2, q2⟩ => ?_
  obtain ⟨a, vs, ds, ev, _, ha, rs, hm, q⟩ := chg_ok m2 (r1.stay (g2.stay m1)) q2
  subst ev
  obtain ⟨r, er, hz, q⟩ := optD_ok q
  obtain ⟨b, ws, eb, hb2, rs2⟩ := seqP_rd m2 r2 er
  subst eb
  obtain ⟨g3, m3⟩ := write_ref (vs := vs ++ ws) m2 hm (rs.append rs2)
  have g := (g1.trans g2).trans g3
  exact ⟨a, b, vs, ws, rfl, rfl, ha, hb2, by rw [rs.length, rs2.length, line_eq]; exact hz, ρ, F2, _, g, m3, (e.on g m).toREnv, q⟩
theorem RDs.dropLast {K H F} {vs : List V} {ds : List D} (r : RDs K H F vs ds) : RDs K H F vs.dropLast ds.dropLast := by
  rw [List.dropLast_eq_take, List.dropLast_eq_take, r.length]
  exact r.take _
theorem DS.pop {o : Expr} {apos cpos pos : Pos} (hb : noSuper o = true) (hl : (apos.endLine == cpos.line) = true)
    (h : DE X EX o ρ μ fun x μ1 => chg x μ1 fun a l => l ≠ [] ∧ K₀.nx ρ (mset μ1 a (.lst l.dropLast))) : DS X EX (.Expr (.Call (.Attribute o "pop" apos) [] [] cpos) pos) ρ μ K₀ := fun σ H F e m => by
  refine ws_of (ps_expr (pe_bm0 PySem.F.plainAttrs_list PySem.F.slot_list_pop PySem.F.type_list_pop mt_pop pe_we (base_of hb) hl) (swap_no rfl)) ?_
  refine (h σ H F e m).mono fun v H1 ⟨x, F1, μ1, g1, m1, r1, q1⟩ => ?_
  obtain ⟨a, vs, ds, ev, ex, ha, rs, hm, hne, q⟩ := chg_ok m1 r1 q1
  subst ev
  have hv : vs ≠ [] := fun z => hne ((nil_of rs).mp z)
  obtain ⟨g3, m3⟩ := write_ref (vs := vs.dropLast) m1 hm rs.dropLast
  have g := g1.trans g3
  have hl2 : vs.length - 1 < vs.length := by
    have := List.length_pos_iff.mpr hv
    omega
  exact ⟨.inl ⟨rfl, vs, .inl (.inl ha)⟩, a, vs, vs[vs.length - 1], rfl, rfl, ha, List.getElem?_eq_getElem hl2, ρ, F1, _, g, m3, (e.on g m).toREnv, q⟩
theorem DS.clear {o : Expr} {apos cpos pos : Pos} (hb : noSuper o = true) (hl : (apos.endLine == cpos.line) = true)
    (h : DE X EX o ρ μ fun x μ1 => chg x μ1 fun a _ => K₀.nx ρ (mset μ1 a (.lst []))) : DS X EX (.Expr (.Call (.Attribute o "clear" apos) [] [] cpos) pos) ρ μ K₀ := fun σ H F e m => by
  refine ws_of (ps_expr (pe_bm0 PySem.F.plainAttrs_list PySem.F.slot_list_clear PySem.F.type_list_clear mt_clear pe_we (base_of hb) hl) (swap_no rfl)) ?_
  refine (h σ H F e m).mono fun v H1 ⟨x, F1, μ1, g1, m1, r1, q1⟩ => ?_
  obtain ⟨a, vs, ds, ev, ex, ha, rs, hm, q⟩ := chg_ok m1 r1 q1
  subst ev
  obtain ⟨g3, m3⟩ := write_ref (vs := []) m1 hm .nil
  have g := g1.trans g3
  exact ⟨.inl ⟨rfl, vs, .inl (.inl ha)⟩, a, vs, rfl, rfl, ha, ρ, F1, _, g, m3, (e.on g m).toREnv, q⟩
/-- o[i] as a target -/
theorem sub_asg {o i : Expr} {p : Pos} {v : Value} {env : Env} (h : isSlice i = false) : assign (.Subscript o i p) env v = (do
      let ov ← holding [v] (eval o env)
      let iv ← holding [v, ov] (eval i env)
      standAt p
      holding [v, ov, iv] (setItem ov iv v)
      release [v, ov, iv] []) := by
  cases i <;> first | rfl | (cases h; done)
theorem set_k {σ : St} {H : Hp} {F : Addr → Prop} {o i : Expr} {v : V} {d : D} {Q : Mem → Prop} (e : RE X EX H F μ σ ρ) (m : MS X.K H F μ) (r : RD X.K H F v d)
    (h : DE X EX o ρ μ fun x μ2 => DE X EX i ρ μ2 fun k μ3 => setD x k d μ3 Q) {Z : Hp → Prop} (le : ∀ H' F' μ', Grow H F μ H' F' μ' → MS X.K H' F' μ' → Q μ' → Z H') :
    gSub (WE X o) (WE X i) rSetL v σ H fun _ H' => Z H' := by
  refine (h σ H F e m).mono fun ov H1 ⟨x, F1, μ1, g1, m1, r1, q1⟩ => ?_
  refine (q1 σ H1 F1 (e.on g1 m) m1).mono fun iv H2 ⟨k, F2, μ2, g2, m2, r2, q2⟩ => ?_
  have g12 := g1.trans g2
  obtain ⟨a, vs, ds, ev, _, ha, rs, hm, q⟩ := chg_ok m2 (r1.stay (g2.stay m1)) q2
  subst ev
  cases k with
  | int k =>
    cases r2
    obtain ⟨j, hj, q⟩ := optD_ok (show optD (ixN ds.length k) _ from q)
    obtain ⟨g3, m3⟩ := write_ref (vs := vs.set j v) m2 hm (rs.set (r.stay (g12.stay m)) j)
    exact ⟨a, vs, k, j, rfl, rfl, ha, by rw [rs.length]; exact hj, le _ F2 _ (g12.trans g3) m3 q⟩
  | _ => exact False.elim q
theorem gSub_st {to ti : TE} {v : V} {σ : St} {H : Hp} {Z : St → Hp → Prop} (h : gSub to ti rSetL v σ H fun _ H' => Z σ H') : gSub to ti rSetL v σ H Z := h
theorem DS.setIx {o i ex : Expr} {p pos : Pos} (hi : isSlice i = false) (hl : isLC ex = false)
    (h : DE X EX ex ρ μ fun d μ1 => DE X EX o ρ μ1 fun x μ2 => DE X EX i ρ μ2 fun k μ3 => setD x k d μ3 fun μ4 => K₀.nx ρ μ4) : DS X EX (.Assign [.Subscript o i p] ex pos) ρ μ K₀ :=
  DS.ofE h fun te hte => ⟨fun v σ H1 K => gSub (WE X o) (WE X i) rSetL v σ H1 K.nx, ps_asg hte (pg_sub pe_we pe_we set_list fun v => sub_asg hi) (show swapsWith ex (some (.Subscript o i p)) pos.line X.env = pure false from swap_no hl) swaps_sub rfl, fun σ H1 F1 μ1 v d e m r q K le =>
    gSub_st (set_k (Z := fun H' => K.nx σ H') e m r q fun H' F' μ' g m' q' => le.nx _ _ ⟨ρ, F', μ', g, m', (e.on g m).toREnv, q'⟩)⟩
/-- o[i], x = a pair -/
theorem DS.setIx2 (sx : SX G X N sc) (hf : ∀ x, X.fn x = true) {o i ex : Expr} {j : Nat} {y : Str} {p p2 p3 pos : Pos} {k : Nat} (hi : isSlice i = false) (hv : isTupE ex = false) (hj : N[j]? = some y) (hy : locB sc y = true)
    (h : DE X EX ex ρ μ fun d μ1 => ∃ d1 d2, d = .tup [d1, d2] ∧ DE X EX o ρ μ1 fun x μ2 => DE X EX i ρ μ2 fun k μ3 => setD x k d1 μ3 fun μ4 => K₀.nx (ρ.set j (some d2)) μ4) : DS X EX (.Assign [.Tuple [.Subscript o i p, .Name y p2] k p3] ex pos) ρ μ K₀ := by
  refine DS.ofE h fun te hte => ⟨fun v σ H1 K => gTup X.K 2 (gCons (gSub (WE X o) (WE X i) rSetL) (gCons (gName j) gNil)) v σ H1 K.nx,
    ps_asg hte (pg_tup sx.calm (pgs_cons (pg_sub pe_we pe_we set_list fun v => sub_asg hi) (pgs_cons (pg_name (by rw [sx.hN]; exact sx.nd) (by rw [sx.hN]; exact hj) (sx.loc hy) (.inl (hf y))) pgs_nil rfl) rfl) rfl rfl) swaps_sole (swaps_none hv) rfl, fun σ H1 F1 μ1 v d e m r q K le => ?_⟩
  obtain ⟨d1, d2, ed, q⟩ := q
  subst ed
  cases r with
  | tup t rs =>
    obtain ⟨v1, v2, ev, r1, r2⟩ := two_of rs
    subst ev
    refine ⟨_, _, rfl, t, rfl, v1, [v2], rfl, ?_⟩
    refine gSub_st (set_k (Z := fun H' => gCons (gName j) gNil [v2] σ H' K.nx) e m r1 q fun H' F' μ' g m' q' => ?_)
    exact ⟨v2, [], rfl, rfl, le.nx _ _ ⟨_, F', μ', g, m', ((e.on g m).set j (r2.stay (g.stay m))).toREnv, q'⟩⟩

/-! ### slots forgotten -/
theorem REnv.forget {K H F σ ρ} (e : REnv K H F σ ρ) : ∀ vs : List Nat, REnv K H F σ (wipeR ρ vs)
  | [] => e
  | v :: vs => by
    have ih := REnv.forget e vs
    unfold wipeR
    refine ⟨by rw [List.length_set]; exact ih.len, fun i d h => ?_⟩
    by_cases hi : v = i
    · subst hi
      by_cases hl : v < (wipeR ρ vs).length
      · rw [List.getElem?_set_self hl] at h; cases h
      · rw [List.getElem?_eq_none (by rw [List.length_set]; omega)] at h; cases h
    · rw [List.getElem?_set_ne hi] at h
      exact ih.at_ i d h
theorem DS.forget {st : Stmt} {vs : List Nat} (h : DS X EX st (wipeR ρ vs) μ K₀) : DS X EX st ρ μ K₀ := fun σ H F e m => h σ H F (e.to .refl (e.toREnv.forget vs)) m
theorem PR.forget {K H F μ} {vs : List Nat} {Q : Rho → Mem → Prop} {σ H'} (h : PR K H F μ (fun ρ μ => Q (wipeR ρ vs) μ) σ H') : PR K H F μ Q σ H' :=
  let ⟨ρ', F', μ', g, m, e, q⟩ := h
  ⟨_, F', μ', g, m, e.forget vs, q⟩
theorem DSs.wiped {b : List Stmt} {vs : List Nat} (h : DSs X EX b ρ μ (wipeK vs K₀)) : DSs X EX b ρ μ K₀ := fun σ H F e m =>
  (h σ H F e m).mono ⟨fun _ _ q => q.forget, fun _ _ q => q, fun _ _ q => q.forget, fun _ _ q => q.forget⟩

/-! ### loops -/
theorem DS.forW (sx : SX G X N sc) (hs : X.stack = X.env :: X.outer) (hf : ∀ x, X.fn x = true) {t : T} {tg iter : Expr} {body : List Stmt} {pos : Pos} {P : Rho → Mem → DEnds → Prop} (ht : tgB N (locB sc) t tg = true) (hset : isSetE iter = false) (hb : ∀ ρ μ K, P ρ μ K → DSs X EX body ρ μ K) (ws : List Nat)
    (h : DI X EX tg iter ρ μ fun items ok μ1 => LP items (wipeR ρ ws) μ1 ok (fun x ρ' μ' K' => wpTg t x ρ' μ' fun ρ2 μ2 => P ρ2 μ2 K') K₀) : DS X EX (.For tg iter body [] pos) ρ μ K₀ := fun σ H F e m => by
  refine ws_of (ps_for (sx.own hs) sx.calm pi_wi pg_wg pss_wss (folded_no hset)) ?_
  refine (h σ H F e m).mono fun J H1 ⟨items, ok, F1, μ1, g1, m1, w, I, hI0, hIs, hId⟩ => ?_
  refine ⟨fun i k σ' H' => k = items.length - i ∧ i ≤ items.length ∧ ∃ F' ρ' μ', Grow H1 F1 μ1 H' F' μ' ∧ MS X.K H' F' μ' ∧ REnv X.K H' F' σ' ρ' ∧ I (items.drop i) ρ' μ', ⟨items.length, by simp, Nat.zero_le _, F1, wipeR ρ ws, μ1, .refl, m1, (e.on g1 m).toREnv.forget ws, hI0⟩, ?_⟩
  rintro i k σ2 H2 ⟨rfl, hi, F2, ρ2, μ2, g2, m2, e2, hI⟩
  by_cases hlt : i < items.length
  · right
    rw [List.drop_eq_getElem_cons hlt] at hI
    obtain ⟨hok, hstep⟩ := hIs _ _ _ _ hI
    refine ⟨w.go i H2 F2 μ2 hlt g2 m2 hok, fun σ' H' => i + 1 ≤ items.length ∧ ∃ F' ρ' μ', Grow H1 F1 μ1 H' F' μ' ∧ MS X.K H' F' μ' ∧ REnv X.K H' F' σ' ρ' ∧ I (items.drop (i + 1)) ρ' μ', fun σ' H' ⟨h1, h2⟩ => ⟨items.length - (i + 1), by omega, rfl, h1, h2⟩, fun x H3 y => ?_⟩
    obtain ⟨d, hd2, g3, m3, r3⟩ := w.yld i H2 F2 μ2 x H3 hlt g2 m2 hok y
    have ed : items[i] = d := by rw [List.getElem?_eq_getElem hlt] at hd2; exact Option.some.inj hd2
    rw [ed] at hstep
    have g13 := g2.trans g3
    refine asg_k sx hf ht (e2.stay (g3.stay m2)) m3 r3 hstep fun σ4 H4 ⟨ρ4, F4, μ4, g4, m4, e4, q4⟩ => ?_
    have g14 := g13.trans g4
    refine (hb _ _ _ q4 σ4 H4 F4 (e.to (g1.trans g14) e4) m4).mono ⟨fun σ5 H5 ⟨ρ5, F5, μ5, g5, m5, e5, q5⟩ => ⟨hlt, F5, ρ5, μ5, g14.trans g5, m5, e5, q5⟩, fun v H5 q => ?_, fun σ5 H5 q => ?_, fun σ5 H5 ⟨ρ5, F5, μ5, g5, m5, e5, q5⟩ => ⟨hlt, F5, ρ5, μ5, g14.trans g5, m5, e5, q5⟩⟩
    · exact Post.pre (g1.trans g14) q
    · exact PR.pre (g1.trans g14) q
  · left
    have hi2 : i = items.length := by omega
    subst hi2
    rw [List.drop_length] at hI
    obtain ⟨hok, hq⟩ := hId _ _ hI
    exact ⟨w.stop H2 F2 μ2 g2 m2 hok, ρ2, F2, μ2, g1.trans g2, m2, e2, hq⟩
theorem DS.while_ (sx : SX G X N sc) (hs : X.stack = X.env :: X.outer) {t : Expr} {body : List Stmt} {pos : Pos} {Pt : Rho → Mem → (Bool → Mem → Prop) → Prop} {P : Rho → Mem → DEnds → Prop} (ht : ∀ ρ μ q, Pt ρ μ q → DT X EX t ρ μ q) (hb : ∀ ρ μ K, P ρ μ K → DSs X EX body ρ μ K)
    (h : LW ρ μ Pt P K₀) : DS X EX (.While t body [] pos) ρ μ K₀ := fun σ H F e m => by
  obtain ⟨I, ⟨k0, hI0⟩, hs2⟩ := h
  refine ws_of (ps_while (sx.own hs) pt_wt pss_wss) ?_
  refine ⟨fun k σ' H' => ∃ F' ρ' μ', Grow H F μ H' F' μ' ∧ MS X.K H' F' μ' ∧ REnv X.K H' F' σ' ρ' ∧ I k ρ' μ', ⟨k0, F, ρ, μ, .refl, m, e.toREnv, hI0⟩, ?_⟩
  rintro k σ2 H2 ⟨F2, ρ2, μ2, g2, m2, e2, hI⟩
  refine (ht _ _ _ (hs2 k ρ2 μ2 hI) σ2 H2 F2 (e.to g2 e2) m2).mono fun c H3 ⟨F3, μ3, g3, m3, q3⟩ => ?_
  have g13 := g2.trans g3
  cases c with
  | false =>
    rw [if_neg Bool.false_ne_true] at q3 ⊢
    exact ⟨ρ2, F3, μ3, g13, m3, e2.stay (g3.stay m2), q3⟩
  | true =>
    rw [if_pos rfl] at q3 ⊢
    have nx : ∀ σ5 H5, PR X.K H3 F3 μ3 (fun ρ μ => ∃ m', m' < k ∧ I m' ρ μ) σ5 H5 → ∃ m', m' < k ∧ ∃ F' ρ' μ', Grow H F μ H5 F' μ' ∧ MS X.K H5 F' μ' ∧ REnv X.K H5 F' σ5 ρ' ∧ I m' ρ' μ' := fun σ5 H5 ⟨ρ5, F5, μ5, g5, m5, e5, k', hk, q5⟩ => ⟨k', hk, F5, ρ5, μ5, g13.trans g5, m5, e5, q5⟩
    refine ⟨fun σ' H' => ∃ m', m' < k ∧ ∃ F' ρ' μ', Grow H F μ H' F' μ' ∧ MS X.K H' F' μ' ∧ REnv X.K H' F' σ' ρ' ∧ I m' ρ' μ', fun σ' H' z => z, ?_⟩
    refine (hb _ _ _ q3 σ2 H3 F3 (e.to g13 (e2.stay (g3.stay m2))) m3).mono ⟨nx, fun v H5 q => ?_, fun σ5 H5 q => ?_, nx⟩
    · exact Post.pre g13 q
    · exact PR.pre g13 q
end
end DL
/-! Sets of whole numbers and of texts: how many, and sorted. -/
namespace DL
open PySem PySem.Spec PyProof.Rows L2
section
variable {P : Program} {w : World} {K : Type} [DecidableEq K] (κ : KeyKind P w K)
/-- entries no two of which have a key in common -/
def Apart (l : List Value) : Prop := l.Pairwise fun u v => ∀ k, κ.is k u = true → κ.is k v = false
theorem apart_symm {u v : Value} (h : ∀ k, κ.is k u = true → κ.is k v = false) : ∀ k, κ.is k v = true → κ.is k u = false := fun k hk => by
  cases e : κ.is k u with
  | false => rfl
  | true => rw [h k e] at hk; cases hk
theorem Apart.perm {l m : List Value} (h : Apart κ l) (p : m.Perm l) : Apart κ m := p.symm.pairwise h fun q => apart_symm κ q
def vals (es : Array (Int × Value)) : List Value := es.toList.map (·.2)
/-- what a set's inside is, that holds S -/
structure Ent (es : Array (Int × Value)) (t : SetTable) (S : K → Bool) : Prop where
  el : ElemsOf κ es.toList
  ap : Apart κ (vals es)
  mem : ∀ k, S k = true ↔ ∃ e ∈ es.toList, κ.is k e.2 = true
  few : es.size < scanBound
  fit : t.fits es.size = true
  ris : Ris t.place.toList
  led : w.params.followText "set-order" = true ∨ t.led = true
def SetX (h : Heap) (a : Addr) (S : K → Bool) (n : Nat) : Prop := ∃ o es ep t, h.get? a = some o ∧ o.ExactSet ∧ o.data = .set es ep t ∧ Ent κ es t S ∧ es.size = n
variable {κ}
theorem SetX.keep {h h' : Heap} {a : Addr} {S : K → Bool} {n : Nat} (R : SetX κ h a S n) (k : ∀ o, h.get? a = some o → h'.get? a = some o) : SetX κ h' a S n := by
  obtain ⟨o, es, ep, t, ho, r⟩ := R
  exact ⟨o, es, ep, t, k o ho, r⟩
theorem Ent.turn {es fs : Array (Int × Value)} {t u : SetTable} {S : K → Bool} (n : Ent κ es t S) (p : fs.toList.Perm es.toList) (hf : u.fits fs.size = true) (hr : Ris u.place.toList) (hl : u.led = t.led) : Ent κ fs u S where
  el := n.el.perm p
  ap := n.ap.perm κ (p.map _)
  mem := fun k => (n.mem k).trans ⟨fun ⟨e, he, q⟩ => ⟨e, p.mem_iff.mpr he, q⟩, fun ⟨e, he, q⟩ => ⟨e, p.mem_iff.mp he, q⟩⟩
  few := by rw [← Array.length_toList, p.length_eq, Array.length_toList]; exact n.few
  fit := hf
  ris := hr
  led := by rw [hl]; exact n.led
variable {A : Around} {E : Value → Shared → Prop} {s : Shared} {a : Addr} {S : K → Bool} {n : Nat}
theorem x_laid {es : Array (Int × Value)} {t : SetTable} {o : Obj} {fs : Array (Int × Value)} {ep : Nat} {u : SetTable} (ho : s.heap.get? a = some o) (hx : o.ExactSet) (hd : o.data = .set fs ep u) (en : Ent κ es t S) :
    SetX κ (s.heap.update a (Obj.putSet es t)) a S es.size := ⟨{ o with data := .set es (ep + 1) t }, es, ep + 1, t, store_at ho hd, hx, rfl, en, rfl⟩
theorem x_tail {g : Bool → Sem Unit} (hg : ∀ (b : Bool) (s1 : Shared) (Q1 : Unit → Shared → Prop), Q1 () s1 → wpAny (model P w) A (g b) Q1 E s1)
    {o : Obj} {fs : Array (Int × Value)} {ep : Nat} {u : SetTable} (ho : s.heap.get? a = some o) (hx : o.ExactSet) (hd : o.data = .set fs ep u)
    {es : Array (Int × Value)} {t : SetTable} (en : Ent κ es t S) {wd : Bool} {R : Option Bool → Shared → Prop}
    (hR : ∀ h', Heap.SameBut a s.heap h' → SetX κ h' a S es.size → R (some true) { s with heap := h' }) :
    wpAny (model P w) A (do
        storeSet a es t
        if (!wd && t.tooFull) = true then do
          g (relayAll t es (SetTable.grown es.size)).2.2
          storeSet a (relayAll t es (SetTable.grown es.size)).1 (relayAll t es (SetTable.grown es.size)).2.1
          pure (some true)
        else pure (some true)) R E s := by
  have sb := Heap.SameBut.update s.heap a (Obj.putSet es t)
  refine wpAny_bind (wpAny_storeSet_of ho hd ?_ (fits_of_scanBound en.few))
  have ho2 := store_at (es' := es) (t' := t) ho hd
  split
  · have p := relayAll_perm t es (SetTable.grown es.size)
    have f := relayAll_fits t es (SetTable.grown es.size)
    have r := relayAll_ris t es (SetTable.grown es.size)
    have l := relayAll_led t es (SetTable.grown es.size)
    generalize relayAll t es (SetTable.grown es.size) = Z at p f r l ⊢
    obtain ⟨es2, t2, b2⟩ := Z
    dsimp only at p f r l ⊢
    have en2 : Ent κ es2 t2 S := en.turn p f r l
    have z : es2.size = es.size := by rw [← Array.length_toList, p.length_eq, Array.length_toList]
    refine wpAny_bind (hg _ _ _ (wpAny_bind (wpAny_storeSet_of ho2 rfl ?_ (fits_of_scanBound en2.few))))
    have q := x_laid (κ := κ) (s := { s with heap := s.heap.update a (Obj.putSet es t) }) ho2 hx rfl en2
    rw [z] at q
    exact wpAny_pure (hR _ (sb.trans (Heap.SameBut.update _ a _)) q)
  · exact wpAny_pure (hR _ sb (x_laid ho hx hd en))
theorem x_add {k : K} {x : Value} {Q : Bool → Shared → Prop} (hk : κ.is k x = true) (hsc : x.scannable = true) (R : SetX κ s.heap a S n) (room : n + 1 < scanBound)
    (hQ : ∀ h' m, Heap.SameBut a s.heap h' → SetX κ h' a (fun j => S j || decide (j = k)) m → m ≤ n + 1 → ∀ b, Q b { s with heap := h' }) :
    wpAny (model P w) A (setAddHashed a x (κ.hash k)) Q E s := by
  obtain ⟨o, es, ep, t, ho, hx, hd, en, hn⟩ := R
  unfold setAddHashed setAddHashedIn
  refine wpAny_holding (wpAny_bind (wpAny_setState_of ho hd en.fit ?_))
  dsimp only
  rw [byScan_of hsc en.few en.el]
  simp only [↓reduceIte]
  unfold setAddByScan
  refine wpAny_bind (wpAny_bind (wpAny_rule (wpAny_bind (wpAny_setScan_of hk ho hd en.fit en.el ?_))))
  cases hf : List.findIdx? (fun e => κ.is k e.2) es.toList with
  | some j =>
    dsimp only
    obtain ⟨hj, pj, _⟩ := List.findIdx?_eq_some_iff_getElem.mp hf
    have hs : S k = true := (en.mem k).mpr ⟨_, List.getElem_mem hj, pj⟩
    refine wpAny_pure (wpAny_pure (hQ s.heap n (Heap.SameBut.refl a s.heap) ⟨o, es, ep, t, ho, hx, hd, ⟨en.el, en.ap, fun i => ?_, en.few, en.fit, en.ris, en.led⟩, hn⟩ (Nat.le_succ n) _))
    rw [← en.mem i, Bool.or_eq_true, decide_eq_true_eq]
    exact ⟨fun q => q.elim id fun e => by rw [e]; exact hs, .inl⟩
  | none =>
    dsimp only
    have no : ∀ e ∈ es.toList, κ.is k e.2 = false := fun e he => by
      have c := List.findIdx?_eq_none_iff.mp hf e he
      cases q : κ.is k e.2 with
      | false => rfl
      | true => rw [q] at c; cases c
    have gv : ∀ (b : Bool) {s1 : Shared} {Q1 : Unit → Shared → Prop}, Q1 () s1 → wpAny (model P w) A (match b with | true => rule "set.scan.the-table-gave-way" | false => pure ()) Q1 E s1 := fun b s1 Q1 q => by
      cases b
      · exact wpAny_pure q
      · exact wpAny_rule q
    have pm := layNew_perm t es (κ.hash k) x
    have fm := layNew_fits t es (κ.hash k) x
    have rm := layNew_ris t es (κ.hash k) x en.ris
    have lm := layNew_led t es (κ.hash k) x
    generalize layNew t es (κ.hash k) x = Z at pm fm rm lm ⊢
    obtain ⟨fs, u, wd, gave⟩ := Z
    dsimp only at pm fm rm lm ⊢
    rw [Array.toList_push] at pm
    have z : fs.size = n + 1 := by
      rw [← Array.length_toList, pm.length_eq, List.length_append, Array.length_toList, hn]
      rfl
    have en1 : ∀ v : SetTable, v.fits fs.size = true → Ris v.place.toList → v.led = u.led → Ent κ fs v (fun j => S j || decide (j = k)) := fun v v1 v2 v3 => {
      el := (en.el.push hk hsc).perm pm
      ap := by
        have p2 := pm.map (fun e : Int × Value => e.2)
        refine Apart.perm κ ?_ p2
        rw [List.map_append]
        refine List.pairwise_append.mpr ⟨en.ap, List.pairwise_singleton _ _, fun y hy y2 hy2 i hi => ?_⟩
        obtain ⟨e, he, rfl⟩ := List.mem_map.mp hy
        rw [List.map_cons, List.map_nil, List.mem_singleton] at hy2
        subst hy2
        cases q : κ.is i y2 with
        | false => rfl
        | true =>
          have e3 := κ.inj y2 i k q hk
          subst e3
          rw [no e he] at hi
          cases hi
      mem := mem_push_iff hk en.mem pm
      few := by rw [z]; exact room
      fit := v1
      ris := v2
      led := by rw [v3, lm]; exact en.led }
    have fin : ∀ h', Heap.SameBut a s.heap h' → SetX κ h' a (fun j => S j || decide (j = k)) fs.size → Q true { s with heap := h' } := fun h' sb r => hQ h' _ sb r (by rw [z]; exact Nat.le_refl _) true
    refine wpAny_bind (gv _ ?_)
    split
    · refine wpAny_bind ?_
      rw [hashByValue_scannable 8 hsc]
      refine wpAny_pure (x_tail (fun b s1 Q1 q => ?_) ho hx hd (en1 _ ?_ ?_ ?_) fun h' sb r => ?_)
      · cases b
        · exact wpAny_pure q
        · exact wpAny_rule q
      · split
        · exact fm
        · exact SetTable.fits_plain_off fm
      · split <;> exact rm
      · split <;> rfl
      · dsimp only
        exact wpAny_pure (fin h' sb r)
    · refine wpAny_bind (wpAny_pure ?_)
      simp only [↓reduceIte]
      refine x_tail (fun b s1 Q1 q => ?_) ho hx hd (en1 _ fm rm rfl) fun h' sb r => ?_
      · cases b
        · exact wpAny_pure q
        · exact wpAny_rule q
      · dsimp only
        exact wpAny_pure (fin h' sb r)
/-- the loop that fills a set -/
theorem x_fill {I : Addr} {fp wr : List Addr} {Gn : Array GenState → Array GenState → Prop} {m : Nat} {Pv : Nat → Value → Prop} {St : Nat → Shared → Prop} {R : Result → Shared → Prop}
    (W : WalksS P w A.in1 I fp wr Gn m Pv St) (D : Addr) (hD : D ∉ fp) (ks : List K) (hm : m = ks.length) (hb : ks.length + 1 < scanBound) (hv : ∀ i v, Pv i v → ∃ k, ks[i]? = some k ∧ κ.is k v = true ∧ v.scannable = true) :
    ∀ (r i : Nat) (s : Shared), m - i = r → i ≤ m → St i s → (∃ c, c ≤ i ∧ SetX κ s.heap D (fun j => decide (j ∈ ks.take i)) c) →
      (∀ s' c, Moved (D :: wr) Gn s s' → SetX κ s'.heap D (fun j => decide (j ∈ ks)) c → R (.ok (.ret .none)) s') →
      codeAny (model P w) A (.builtin "set.update.loop" ⟨[.ref D, .ref I], []⟩) R s := by
  have nw : D ∉ wr := fun h => hD (W.sub _ h)
  have up : ∀ b ∈ wr, b ∈ D :: wr := fun b hb => List.mem_cons_of_mem _ hb
  intro r
  induction r with
  | zero =>
    intro i s hr hi st ⟨c, _, hS⟩ hR
    have e0 : i = m := by omega
    subst e0
    refine codeAny_builtin F.entry_set_update_loop ?_
    rw [Around.under_plainId F.plain_set_update_loop _]
    refine wpAny_bind (m := pyNext (.ref I)) (W.done s _ _ st fun s' mv => ?_)
    have e : ks.take i = ks := List.take_of_length_le (by omega)
    rw [e] at hS
    exact wpAny_pure (hR s' c (mv.mono up) (hS.keep fun o q => mv.heap D o nw q))
  | succ r ih =>
    intro i s hr hi st ⟨c, hc, hS⟩ hR
    have lt : i < m := by omega
    refine codeAny_builtin F.entry_set_update_loop ?_
    rw [Around.under_plainId F.plain_set_update_loop _]
    refine wpAny_bind (m := pyNext (.ref I)) (W.item i s _ _ lt st fun v s' pv st' mv => ?_)
    obtain ⟨k, hk, k1, k2⟩ := hv i v pv
    have hS' : SetX κ s'.heap D (fun j => decide (j ∈ ks.take i)) c := hS.keep fun o q => mv.heap D o nw q
    refine wpAny_bind (m := holding [v] (setAdd D v)) (wpAny_holding ?_)
    unfold setAdd
    refine wpAny_holding (wpAny_bind (κ.pyHash (k := k) k1 ?_))
    refine x_add (s := { s' with toks := s'.toks + 1 }) k1 k2 hS' (by omega) fun h' c2 sb hS2 hc2 b => ?_
    have e : (fun j => decide (j ∈ ks.take i) || decide (j = k)) = fun j => decide (j ∈ ks.take (i + 1)) := by
      funext j
      rw [List.take_add_one, hk]
      simp [List.mem_append]
    rw [e] at hS2
    refine wpAny_pure ⟨plainId_quiet F.plain_set_update_loop _, ih (i + 1) _ (by omega) lt (W.frame _ s' _ _ st' (Nat.le_succ _) fun b hb o q => ?_) ⟨c2, by omega, hS2⟩ fun s2 c3 mv2 hS3 => ?_⟩
    · rw [sb.2 b fun h : b = D => hD (by rw [← h]; exact hb)]
      exact q
    · refine hR s2 c3 (Moved.trans W.gtrans ((mv.mono up).then_heap (Nat.le_succ _) fun b o hb q => ?_) mv2) hS3
      rw [sb.2 b fun h : b = D => hb (by rw [h]; exact List.mem_cons_self)]
      exact q
theorem x_new {h : Heap} {D : Addr} {ks : List K} (ho : h.get? D = some { cls := .type "set", dict := none, data := .set #[] 0 (.fresh 0 0 (!w.params.followText "set-order")) }) : SetX κ h D (fun j => decide (j ∈ ks.take 0)) 0 :=
  ⟨_, #[], 0, _, ho, ⟨rfl, rfl, rfl⟩, rfl, ⟨fun e he => (by simp at he), List.Pairwise.nil, fun k => (by simp), by decide, by rfl, List.Pairwise.nil, by
    show _ ∨ (!w.params.followText "set-order") = true
    cases w.params.followText "set-order"
    · exact .inr rfl
    · exact .inl rfl⟩, rfl⟩
/-- set(x), x told by how it is walked -/
theorem x_call {l : Addr} {T : String} {m : Nat} {Pv : Nat → Value → Prop} {St : Nat → Heap → Prop} {oi : Obj} {ks : List K} {Q : Value → Shared → Prop}
    (hT : ∃ o, s.heap.get? l = some o ∧ o.cls = .type T) (sub1 : isSubtype (.type T) (.type "set") = pure false) (sub2 : isSubtype (.type T) (.type "frozenset") = pure false) (nd : (Value.type T == Value.type "dict") = false)
    (hi : ∀ (A2 : Around) (s2 : Shared) (Q2 : Value → Shared → Prop), (∀ b o, s.heap.get? b = some o → s2.heap.get? b = some o) → Q2 (.ref s2.heap.objs.size) { s2 with heap := s2.heap.push oi } → wpAny (model P w) A2 (pyIter (.ref l)) Q2 E s2)
    (hw : ∀ (A2 : Around), A2.handled = none → PySem.Walks P w A2 (s.heap.objs.size + 1) [s.heap.objs.size + 1, l] [s.heap.objs.size + 1] m Pv St)
    (h0 : ∀ h' : Heap, (∀ b o, s.heap.get? b = some o → h'.get? b = some o) → h'.get? (s.heap.objs.size + 1) = some oi → St 0 h') (hf : oi.isFreed = false)
    (hh : A.handled = none) (hm : m = ks.length) (hb : ks.length + 1 < scanBound) (hv : ∀ i v, Pv i v → ∃ k, ks[i]? = some k ∧ κ.is k v = true ∧ v.scannable = true)
    (h : ∀ (h' : Heap) (tk c : Nat), SetX κ h' s.heap.objs.size (fun j => decide (j ∈ ks)) c → (∀ b o, s.heap.get? b = some o → h'.get? b = some o) → Q (.ref s.heap.objs.size) { s with heap := h', toks := tk }) :
    wpAny (model P w) A (call (.type "set") [.ref l]) Q E s := by
  have fc := F.called_set
  obtain ⟨c, tl, hmro⟩ := fc.mro
  have hmade := fc.made
  have hsub := fc.sub
  refine wpAny_call (codeAny_of_tree (show wpAny _ _ (callAny (.type "set") _) _ _ _ from wpAny_pure ⟨Code.quiet_builtin _ (by decide +kernel), codeAny_builtin F.entry_type_call ?_⟩))
  rw [Around.under_plain (weight_type_call_type "set" [.ref l] []) rfl]
  have n1 := fc.notType
  have n2 := fc.canCreate
  have n3 := F.typeCall_set_1 (.ref l)
  repeat (any_goals (first | assumption | wp_step))
  have nw := code_set_led1 (P := P) (w := w) (A := A.in1) (s := s) (.ref l) (E := E) (Q₁ := fun o s1 => o = .ref s.heap.objs.size ∧ s1 = { s with heap := s.heap.push { cls := .type "set", dict := none, data := .set #[] 0 (.fresh 0 0 (!w.params.followText "set-order")) } }) ⟨rfl, rfl⟩
  refine codeAny_mono nw fun r s1 hr => ?_
  match r, hr with
  | .error e, hr => exact hr
  | .ok (.ret o), hr =>
    obtain ⟨rfl, rfl⟩ := hr
    generalize hob : ({ cls := .type "set", dict := none, data := .set #[] 0 (.fresh 0 0 (!w.params.followText "set-order")) } : Obj) = ob
    have hof : ob.isFreed = false := by subst hob; rfl
    have hoc : ob.cls = .type "set" := by subst hob; rfl
    have gS : (s.heap.push ob).get? s.heap.objs.size = some ob := Heap.get?_push_size _ hof
    have tS : Shared.TypeIs { s with heap := s.heap.push ob } (.ref s.heap.objs.size) "set" := ⟨_, gS, hoc⟩
    have l1 := fc.init.lookup
    have l2 := fc.init.bind (.ref s.heap.objs.size)
    repeat (any_goals (first | assumption | wp_step))
    refine codeAny_mono (codeAny_call_builtin (R := wants (fun v s2 => v = .none ∧ ∃ h' tk c, s2 = { s with heap := h', toks := tk } ∧ SetX κ h' s.heap.objs.size (fun j => decide (j ∈ ks)) c ∧ (∀ b o, s.heap.get? b = some o → h'.get? b = some o)) E)
      fc.init.plain F.entry_set_init (check_set_init_1 tS ?_)) fun r2 s2 hr2 => ?_
    · obtain ⟨ol, hol, hcl⟩ := hT
      have lS : l < s.heap.objs.size := Heap.lt_size hol
      have tl : Shared.TypeIs { s with heap := s.heap.push ob } (.ref l) T := ⟨ol, Heap.get?_push_of_some _ hol, hcl⟩
      have z1 : (s.heap.push ob).objs.size = s.heap.objs.size + 1 := Heap.size_push ..
      have k1 : ∀ b o, s.heap.get? b = some o → (s.heap.push ob).get? b = some o := fun b o e => Heap.get?_push_of_some _ e
      have hh3 : A.in1.in1.in1.handled = none := by simp [hh]
      subst hob
      unfold Builtin.«set.__init__» noKeywords Builtin.Frozenset.updateFrom
      generalize hPI : pyIter = PI
      wp_walk
      subst hPI
      refine hi _ _ _ k1 (wpAny_bind (wpAny_runValue ?_))
      have W := hw _ hh3
      rw [← z1] at W h0
      have kk : ∀ b o, s.heap.get? b = some o → ((s.heap.push { cls := .type "set", dict := none, data := .set #[] 0 (.fresh 0 0 (!w.params.followText "set-order")) }).push oi).get? b = some o := fun b o e => Heap.get?_push_of_some _ (k1 b o e)
      refine x_fill W.toS s.heap.objs.size ?_ ks hm hb hv (m - 0) 0 _ (by omega) (Nat.zero_le _) (h0 _ kk (Heap.get?_push_size _ hf)) ⟨0, Nat.le_refl 0, x_new (Heap.get?_push_of_some _ gS)⟩ ?_
      · rw [z1]
        simp only [List.mem_cons, List.mem_singleton, List.not_mem_nil, or_false, not_or]
        exact ⟨Nat.ne_of_lt (Nat.lt_succ_self _), Nat.ne_of_gt lS⟩
      · intro s2 c2 mv hS
        obtain ⟨h2, g2, d2, t2, o2⟩ := s2
        have q1 : g2 = s.gens := mv.gens
        have q2 : d2 = s.drawn := mv.drawn
        have q3 : o2 = s.os := mv.os
        subst q1 q2 q3
        refine wpAny_pure (show wpAny _ _ (ret Value.none) _ _ _ from wpAny_pure ⟨rfl, h2, t2, c2, rfl, hS, fun b o e => ?_⟩)
        have hlt : b < s.heap.objs.size := Heap.lt_size e
        refine mv.heap b o ?_ (kk b o e)
        rw [z1]
        simp only [List.mem_cons, List.mem_singleton, List.not_mem_nil, or_false, not_or]
        exact ⟨Nat.ne_of_lt hlt, Nat.ne_of_lt (Nat.lt_succ_of_lt hlt)⟩
    · match r2, hr2 with
      | .error e, hr2 => exact hr2
      | .ok (.ret v), hr2 =>
        obtain ⟨rfl, h', tk, c2, rfl, hS, hk⟩ := hr2
        repeat (any_goals (first | assumption | wp_step))
        exact h _ _ _ hS hk
/-- .. of a tuple, of a list -/
theorem x_of_tuple {l : Addr} {items : Array Value} {ks : List K} {Q : Value → Shared → Prop} (hl : s.heap.IsTuple l items) (hh : A.handled = none) (hb : ks.length + 1 < scanBound) (hn : items.size = ks.length)
    (hv : ∀ (i : Nat) (v : Value), items[i]? = some v → ∃ k, ks[i]? = some k ∧ κ.is k v = true ∧ v.scannable = true)
    (h : ∀ (h' : Heap) (tk c : Nat), SetX κ h' s.heap.objs.size (fun j => decide (j ∈ ks)) c → (∀ b o, s.heap.get? b = some o → h'.get? b = some o) → Q (.ref s.heap.objs.size) { s with heap := h', toks := tk }) :
    wpAny (model P w) A (call (.type "set") [.ref l]) Q E s := by
  obtain ⟨o, ho, hc, hd⟩ := id hl
  have lS : l < s.heap.objs.size := Heap.lt_size ho
  have ne : l ≠ s.heap.objs.size + 1 := Nat.ne_of_lt (Nat.lt_succ_of_lt lS)
  refine x_call (T := "tuple") (oi := { cls := .type "tuple_iterator", data := .fields #[.ref l, .int 0 0] }) ⟨o, ho, hc⟩ F.sub_tuple_set F.sub_tuple_frozenset (by decide)
    (fun A2 s2 Q2 kp q => wpAny_pyIter_tuple (items := items) ⟨o, kp l o ho, hc, hd⟩ q) (fun A2 h2 => Walks.tuple h2 _ l ne items) (fun h' kp e => ⟨⟨_, e, rfl, rfl⟩, ⟨o, kp l o ho, hc, hd⟩⟩) rfl hh hn hb hv h
theorem x_of_list {l : Addr} {items : Array Value} {ks : List K} {Q : Value → Shared → Prop} (hl : s.heap.IsList l items) (hh : A.handled = none) (hb : ks.length + 1 < scanBound) (hn : items.size = ks.length)
    (hv : ∀ (i : Nat) (v : Value), items[i]? = some v → ∃ k, ks[i]? = some k ∧ κ.is k v = true ∧ v.scannable = true)
    (h : ∀ (h' : Heap) (tk c : Nat), SetX κ h' s.heap.objs.size (fun j => decide (j ∈ ks)) c → (∀ b o, s.heap.get? b = some o → h'.get? b = some o) → Q (.ref s.heap.objs.size) { s with heap := h', toks := tk }) :
    wpAny (model P w) A (call (.type "set") [.ref l]) Q E s := by
  obtain ⟨o, ho, hc, hd⟩ := id hl
  have lS : l < s.heap.objs.size := Heap.lt_size ho
  have ne : l ≠ s.heap.objs.size + 1 := Nat.ne_of_lt (Nat.lt_succ_of_lt lS)
  refine x_call (T := "list") (oi := { cls := .type "list_iterator", data := .fields #[.ref l, .int 0 0] }) ⟨o, ho, hc⟩ F.sub_list_set F.sub_list_frozenset (by decide)
    (fun A2 s2 Q2 kp q => wpAny_pyIter_list (items := items) ⟨o, kp l o ho, hc, hd⟩ q) (fun A2 h2 => Walks.list h2 _ l ne items) (fun h' kp e => ⟨⟨_, e, rfl, rfl⟩, ⟨o, kp l o ho, hc, hd⟩⟩) rfl hh hn hb hv h
/-- sorted(a set) -/
theorem x_sorted {lt : Value → Value → Bool} {Q : Value → Shared → Prop} (O : SrtO.Swo lt) (R : SetX κ s.heap a S n) (hh : A.handled = none)
    (hS : ∀ (vs : List Value) (A2 : Around) (s2 : Shared) (b : Addr), 2 ≤ vs.length → (∀ v ∈ vs, ∃ k, κ.is k v = true) → SrtO.SortableO P w A2 s2 b vs lt)
    (hQ : ∀ s' p (out : List Value) (c : Nat), (∀ b o, s.heap.get? b = some o → s'.heap.get? b = some o) → s'.gens = s.gens → s'.os = s.os → s.heap.objs.size ≤ p → s'.heap.get? p = some (seqObj "list" out.toArray c) →
      out.length ≤ sizeLine → SrtO.Srtd lt out → (∀ v ∈ out, ∃ k, κ.is k v = true) → Apart κ out → (∀ k, S k = true ↔ ∃ v ∈ out, κ.is k v = true) → Q (.ref p) s') :
    wpAny (model P w) A (call (.builtin "sorted") [.ref a]) Q E s := by
  obtain ⟨o, es, ep, t, ho, hx, hd, en, hn⟩ := R
  refine Calls.call_function_entry kind_sorted plain_sorted entry_sorted (args_sorted1 _) ?_
  unfold Builtin.«sorted»
  refine wpAny_bind (m := checkCount "sorted" 1 1 _) (wpAny_pure (wpAny_bind ?_))
  refine collect_set (A := A.in1) hh ⟨o, ho, hx.1, hd⟩ en.fit en.few en.ris en.led fun s1 vs k1 z1 g1 o1 pm => ?_
  have few : vs.length ≤ sizeLine := by
    rw [pm.length_eq, List.length_map, Array.length_toList]
    exact fits_of_scanBound en.few
  have keyd : ∀ v ∈ vs, ∃ k, κ.is k v = true := fun v hv => by
    obtain ⟨e, he, rfl⟩ := List.mem_map.mp (pm.mem_iff.mp hv)
    obtain ⟨⟨k, hk, _⟩, _⟩ := en.el e he
    exact ⟨k, hk⟩
  refine wpAny_bind (wpAny_newList ?_ few)
  have hL : (s1.heap.push (seqObj "list" vs.toArray 0)).get? s1.heap.objs.size = some (seqObj "list" vs.toArray 0) := Heap.get?_push_size _ rfl
  refine wpAny_bind (wpAny_holding (wpAny_call_entry slot_list_sort ⟨_, hL, rfl⟩ entry_list_sort
    (SrtO.list_sort_ord (s := { s1 with heap := s1.heap.push (seqObj "list" vs.toArray 0) }) O hL few (fun h2 => hS vs _ _ _ h2 keyd) fun out h1 h2 => ⟨_, rfl, ?_⟩) (args_list_sort _)))
  obtain ⟨c, hc⟩ := sortedHeap_at (vs := vs) (out := out.toArray) hL
  have pv : out.Perm (vals es) := h2.perm.trans pm
  refine wpAny_pure ⟨_, rfl, hQ _ s1.heap.objs.size out c (fun b u e => ?_) g1 o1 z1 hc (by rw [h2.perm.length_eq]; exact few) h1 (fun v hv => keyd v (h2.perm.mem_iff.mp hv)) (en.ap.perm κ pv) fun k => ?_⟩
  · have q := k1 b u e
    have hb := Heap.lt_size q
    show (sortedHeap (s1.heap.push _) s1.heap.objs.size vs out.toArray).get? b = some u
    rw [sortedHeap_old (Nat.ne_of_lt hb) (by rw [size_push']; exact Nat.lt_succ_of_lt hb)]
    exact Heap.get?_push_of_some _ q
  · rw [en.mem k]
    constructor
    · rintro ⟨e, he, q⟩
      exact ⟨e.2, pv.mem_iff.mpr (List.mem_map.mpr ⟨e, he, rfl⟩), q⟩
    · rintro ⟨v, hv, q⟩
      obtain ⟨e, he, rfl⟩ := List.mem_map.mp (pv.mem_iff.mp hv)
      exact ⟨e, he, q⟩
end
end DL
/-! sorted(set(x)), len(set(x)): the rules. -/
namespace DL
open PySem PySem.Spec PyProof.Rows L2
/-- keys as values of the layer -/
structure KV {P : Program} {w : World} {K : Type} [DecidableEq K] (κ : KeyKind P w K) (enc : K → V) (kf : Value → K) (ltb : K → K → Bool) : Prop where
  rel : ∀ k u, RelV (enc k) u → κ.is k u = true ∧ u.scannable = true
  back : ∀ k u, κ.is k u = true → RelV (enc k) u ∧ kf u = k
  ord : SrtO.Swo fun u v => ltb (kf u) (kf v)
  sort : ∀ (vs : List Value) (A : Around) (s : Shared) (b : Addr), 2 ≤ vs.length → (∀ v ∈ vs, ∃ k, κ.is k v = true) → SrtO.SortableO P w A s b vs fun u v => ltb (kf u) (kf v)
section
variable {X : Cx} {K : Type} [DecidableEq K] {κ : KeyKind X.prog X.w K} {enc : K → V} {kf : Value → K} {ltb : K → K → Bool}
def SetO (κ : KeyKind X.prog X.w K) (a : Addr) (S : K → Bool) (n : Nat) : HO := .ext fun h => SetX κ h a S n
theorem SetO.ok {H : Hp} {h : Heap} {a : Addr} {S : K → Bool} {n : Nat} (R : SetX κ h a S n) : ObjOk X.prog X.w H h a (SetO κ a S n) := by
  have ⟨o, _, _, _, ho, _⟩ := R
  exact ⟨R, ⟨o, ho⟩, fun h1 h2 p k => SetX.keep p k⟩
theorem keys_vals (kv : KV κ enc kf ltb) : ∀ {vs : List Value}, (∀ v ∈ vs, ∃ k, κ.is k v = true) → Vals ((vs.map kf).map enc) vs
  | [], _ => .nil
  | v :: vs, h => by
    obtain ⟨k, hk⟩ := h v List.mem_cons_self
    obtain ⟨r, e⟩ := kv.back k v hk
    refine .cons ?_ (keys_vals kv fun u hu => h u (List.mem_cons_of_mem _ hu))
    rw [e]
    exact r
theorem keys_mem (kv : KV κ enc kf ltb) {vs : List Value} (h : ∀ v ∈ vs, ∃ k, κ.is k v = true) (k : K) : k ∈ vs.map kf ↔ ∃ v ∈ vs, κ.is k v = true := by
  rw [List.mem_map]
  constructor
  · rintro ⟨v, hv, e⟩
    obtain ⟨j, hj⟩ := h v hv
    have e2 := (kv.back j v hj).2
    rw [← e, e2]
    exact ⟨v, hv, hj⟩
  · rintro ⟨v, hv, hk⟩
    exact ⟨v, hv, (kv.back k v hk).2⟩
theorem keys_apart (kv : KV κ enc kf ltb) : ∀ {vs : List Value}, (∀ v ∈ vs, ∃ k, κ.is k v = true) → Apart κ vs → (vs.map kf).Nodup
  | [], _, _ => List.Pairwise.nil
  | v :: vs, h, d => by
    obtain ⟨d1, d2⟩ := List.pairwise_cons.mp d
    refine List.pairwise_cons.mpr ⟨fun k hk e => ?_, keys_apart kv (fun u hu => h u (List.mem_cons_of_mem _ hu)) d2⟩
    obtain ⟨u, hu, q⟩ := (keys_mem kv (fun u hu => h u (List.mem_cons_of_mem _ hu)) k).mp hk
    obtain ⟨j, hj⟩ := h v List.mem_cons_self
    have e2 := (kv.back j v hj).2
    have e3 : j = k := e2.symm.trans e
    rw [e3] at hj
    rw [d1 u hu k hj] at q
    cases q
/-- set(x) -/
def rSetX (κ : KeyKind X.prog X.w K) (enc : K → V) : List V → Hp → VK → Prop := fun xs H Q => ∃ (p : Addr) (ks : List K), xs = [.ref p] ∧ (SqL X.K H p (ks.map enc) ∨ SqT X.K H p (ks.map enc)) ∧ ks.length ≤ 1000 ∧
  ∀ q n, H q = none → Q (.ref q) (upd H q (SetO κ q (fun j => decide (j ∈ ks)) n))
theorem cr_setX (kv : KV κ enc kf ltb) (hc : X.calm = true) : CallR X (.type "set") (rSetX κ enc) := by
  intro pins s σ H xs us Q I r h
  obtain ⟨p, ks, rfl, hs, hl, q⟩ := h
  rw [Vals.ref1 r]
  have fin : ∀ (h' : Heap) (tk c : Nat), SetX κ h' s.heap.objs.size (fun j => decide (j ∈ ks)) c → (∀ b o, s.heap.get? b = some o → h'.get? b = some o) → EP X pins σ Q (.ref s.heap.objs.size) { s with heap := h', toks := tk } := fun h' tk c R k =>
    ⟨.ref _, _, I.laid k (Nat.le_refl _) (SetO.ok R), rfl, q _ c (I.hok.fresh (Nat.le_refl _))⟩
  have vv : ∀ {its : List Value}, Vals (ks.map enc) its → its.toArray.size = ks.length ∧ ∀ (i : Nat) (v : Value), its.toArray[i]? = some v → ∃ k, ks[i]? = some k ∧ κ.is k v = true ∧ v.scannable = true := fun {its} rv => by
    have e := rv.length
    rw [List.length_map] at e
    refine ⟨by rw [List.size_toArray, e], fun i v hv => ?_⟩
    have hv2 : its[i]? = some v := by simpa using hv
    have hi : i < ks.length := by rw [e]; exact (List.getElem?_eq_some_iff.mp hv2).1
    obtain ⟨u, hu, ru⟩ := rv.get (i := i) (x := enc ks[i]) (by simp [hi])
    rw [hv2] at hu
    cases hu
    obtain ⟨a, b⟩ := kv.rel _ _ ru
    exact ⟨_, List.getElem?_eq_getElem hi, a, b⟩
  have bd : ks.length + 1 < scanBound := by unfold scanBound; omega
  rcases hs with hs | hs
  · obtain ⟨its, rv, hl2, hz⟩ := I.list hs
    exact x_of_list hl2.isList (I.ok.hd hc) bd (vv rv).1 (vv rv).2 fin
  · obtain ⟨its, rv, pt, hz⟩ := I.tuple hs
    exact x_of_tuple (show s.heap.IsTuple p its.toArray from pt) (I.ok.hd hc) bd (vv rv).1 (vv rv).2 fin
/-- sorted(a set) -/
def rSortX (κ : KeyKind X.prog X.w K) (enc : K → V) (ltb : K → K → Bool) : List V → Hp → VK → Prop := fun xs H Q => ∃ (a : Addr) (S : K → Bool) (n : Nat), xs = [.ref a] ∧ H a = some (SetO κ a S n) ∧
  ∀ (ms : List K) q, ms.Pairwise (fun x y => ltb y x = false ∧ x ≠ y) → (∀ k, k ∈ ms ↔ S k = true) → H q = none → Q (.ref q) (upd H q (.lst (ms.map enc)))
theorem cr_sortX (kv : KV κ enc kf ltb) (hc : X.calm = true) : CallR X (.builtin "sorted") (rSortX κ enc ltb) := by
  intro pins s σ H xs us Q I r h
  obtain ⟨a, S, n, rfl, ha, q⟩ := h
  rw [Vals.ref1 r]
  have R : SetX κ s.heap a S n := (I.hok a _ ha).1
  refine x_sorted kv.ord R (I.ok.hd hc) (fun vs A2 s2 b h2 hk => kv.sort vs A2 s2 b h2 hk) fun s' p out c k1 g1 o1 hp hat hz h1 hk ap hm => ?_
  have I1 : Inv X pins σ (upd H p (.lst ((out.map kf).map enc))) { s with heap := s'.heap, toks := s'.toks } := I.laid k1 hp ⟨by simpa using hz, out, c, keys_vals kv hk, hat⟩
  refine ⟨.ref p, _, I1.call' (ch := []) (s' := s') (by rw [o1]) Un.refl I1.hok (by rw [g1]; exact I1.bare) (fun _ z => nomatch z), rfl, q (out.map kf) p ?_ (fun k => (keys_mem kv hk k).trans (hm k).symm) (I.hok.fresh hp)⟩
  have nd := keys_apart kv hk ap
  refine List.Pairwise.and (List.pairwise_map.mpr (h1.imp fun {x y} z => z)) nd
/-- len(a set) -/
def rLenX (κ : KeyKind X.prog X.w K) : List V → Hp → VK → Prop := fun xs H Q => ∃ (a : Addr) (S : K → Bool) (n : Nat), xs = [.ref a] ∧ H a = some (SetO κ a S n) ∧
  ∀ ms : List K, ms.Nodup → (∀ k, k ∈ ms ↔ S k = true) → Q (.int ms.length) H
theorem cr_lenX (kv : KV κ enc kf ltb) : CallR X (.builtin "len") (rLenX κ) := by
  intro pins s σ H xs us Q I r h
  obtain ⟨a, S, n, rfl, ha, q⟩ := h
  rw [Vals.ref1 r]
  obtain ⟨o, es, ep, t, ho, hx, hd, en, hn⟩ := (show SetX κ s.heap a S n from (I.hok a _ ha).1)
  have keyd : ∀ v ∈ vals es, ∃ k, κ.is k v = true := fun v hv => by
    obtain ⟨e, he, rfl⟩ := List.mem_map.mp hv
    obtain ⟨⟨k, hk, _⟩, _⟩ := en.el e he
    exact ⟨k, hk⟩
  have sz : ((vals es).map kf).length = es.size := by unfold vals; simp
  have few := en.few
  unfold scanBound at few
  refine call_len_set ho hx hd en.fit (by omega) ⟨.int (((vals es).map kf).length : Nat), H, I.tok _, ⟨_, by rw [sz]⟩, q _ (keys_apart kv keyd en.ap) fun k => ?_⟩
  rw [keys_mem kv keyd k, en.mem k]
  constructor
  · rintro ⟨v, hv, z⟩
    obtain ⟨e, he, rfl⟩ := List.mem_map.mp hv
    exact ⟨e, he, z⟩
  · rintro ⟨e, he, z⟩
    exact ⟨e.2, List.mem_map.mpr ⟨e, he, rfl⟩, z⟩
end
/-! ### whole numbers, texts -/
theorem kv_int (P : Program) (w : World) : KV (intKind P w) V.int SrtO.iv (fun i j => decide (i < j)) where
  rel := fun k u r => by
    obtain ⟨t, rfl⟩ := r
    exact ⟨intKind_is P w k t, rfl⟩
  back := fun k u h => by
    obtain ⟨t, rfl⟩ := Value.isInt_shape h
    exact ⟨⟨t, rfl⟩, rfl⟩
  ord := SrtO.swo_int
  sort := fun vs A s b h2 hk => by
    have hI : IntsAre vs (vs.map SrtO.iv) := SrtO.ints_iv fun v hv => by
      obtain ⟨k, h⟩ := hk v hv
      obtain ⟨t, rfl⟩ := Value.isInt_shape h
      exact ⟨k, t, rfl⟩
    exact SrtO.ints_sortable hI h2
def sv : Value → Str
  | .str x _ => x
  | _ => ⟨#[]⟩
theorem strs_sv : ∀ {vs : List Value}, (∀ v ∈ vs, ∃ x t, v = Value.str x t) → StrsAre vs (vs.map sv)
  | [], _ => .nil
  | v :: vs, h => by
    obtain ⟨x, t, e⟩ := h v List.mem_cons_self
    subst e
    exact .cons x t (strs_sv fun u hu => h u (List.mem_cons_of_mem _ hu))
def ltC (x y : Str) : Bool := decide (x.cps.toList < y.cps.toList)
theorem kv_str (P : Program) (w : World) : KV (strKind P w) V.str sv ltC where
  rel := fun k u r => by
    obtain ⟨t, rfl⟩ := r
    exact ⟨by show Value.isStrOf k (.str k t) = true; simp [Value.isStrOf], rfl⟩
  back := fun k u h => by
    obtain ⟨t, rfl⟩ := Value.isStrOf_shape h
    exact ⟨⟨t, rfl⟩, rfl⟩
  ord := by
    refine ⟨fun x y h => decide_eq_false fun z => List.lt_asymm (of_decide_eq_true h) z, fun x y z h1 h2 => decide_eq_false fun h => ?_⟩
    have a := of_decide_eq_false h1
    have b := of_decide_eq_false h2
    exact List.not_lt.mpr (List.le_trans (List.not_lt.mp a) (List.not_lt.mp b)) h
  sort := fun vs A s b h2 hk => by
    have hS : ∀ v ∈ vs, ∃ x t, v = Value.str x t := fun v hv => by
      obtain ⟨k, h⟩ := hk v hv
      obtain ⟨t, rfl⟩ := Value.isStrOf_shape h
      exact ⟨k, t, rfl⟩
    intro h' _
    refine ⟨oneType', fun Q E hq => ?_, fun p q hp hq => ?_⟩
    · match vs, hS, h2 with
      | v1 :: v2 :: r, hS, _ =>
        rw [keyKind_strs (strs_sv hS)]
        exact wpAny_pure hq
      | [], _, z => exact absurd z (by decide)
      | [v], _, z => exact absurd z (by simp)
    · obtain ⟨x, t, e⟩ := hS _ hp
      obtain ⟨y, u, f⟩ := hS _ hq
      show wpAny (model P w) A (keyLt' oneType' p.1 q.1) (fun r s' => s' = _ ∧ r = ltC (sv p.1) (sv q.1)) _ _
      rw [e, f, keyLt'_oneType]
      exact oneLt_str ⟨rfl, rfl⟩
/-! ### on data -/
section
variable {G : Gc} {X : Cx} {N : List Str} {sc : Scope} {ρ : Rho} {μ : Mem}
theorem new_obj {K : PySem.W.Frag} {H : Hp} {F : Addr → Prop} {p : Addr} {o : HO} (m : MS K H F μ) (hp : H p = none) : Grow H F μ (upd H p o) F μ ∧ MS K (upd H p o) F μ := by
  have g : Grow H F μ (upd H p o) F μ := ⟨fun a u e _ => (by rw [upd_ne (ne_of_none e hp)]; exact e), fun _ e => e, fun _ e => .inl e, fun _ e => .inl e⟩
  have st := g.stay m
  refine ⟨g, fun a o2 e => ?_, fun a f => ?_⟩
  · obtain ⟨n, u, hu, q⟩ := m.at_ a o2 e
    exact ⟨n, u, (by rw [upd_ne (ne_of_none hu hp)]; exact hu), q.stay st⟩
  · obtain ⟨vs, h⟩ := m.fin a f
    exact ⟨vs, (st.lst a vs f h).2⟩
/-- a source of keys -/
theorem src_rd {K : PySem.W.Frag} {H : Hp} {F : Addr → Prop} {vs : List V} {x : D} {l : List D} (m : MS K H F μ) (r : RDs K H F vs [x]) (e : seqA μ x = some l) : ∃ p ws, vs = [.ref p] ∧ (SqL K H p ws ∨ SqT K H p ws) ∧ RDs K H F ws l := by
  obtain ⟨v, ev, r1⟩ := one_of r
  subst ev
  obtain ⟨p, ws, e2, hs, rs⟩ := seqA_or m r1 e
  exact ⟨p, ws, by rw [e2], hs, rs⟩
def rSetA (X : Cx) : List V → Hp → VK → Prop := fun xs H Q => rSetX (X := X) (intKind X.prog X.w) V.int xs H Q ∨ rSetX (X := X) (strKind X.prog X.w) V.str xs H Q
def rSortA (X : Cx) : List V → Hp → VK → Prop := fun xs H Q => rSortX (X := X) (intKind X.prog X.w) V.int (fun i j => decide (i < j)) xs H Q ∨ rSortX (X := X) (strKind X.prog X.w) V.str ltC xs H Q
def rLenA (X : Cx) : List V → Hp → VK → Prop := fun xs H Q => rLenX (X := X) (intKind X.prog X.w) xs H Q ∨ rLenX (X := X) (strKind X.prog X.w) xs H Q
theorem cr_setA (hc : X.calm = true) : CallR X (.type "set") (rSetA X) := CallR.or (cr_setX (kv_int _ _) hc) (cr_setX (kv_str _ _) hc)
theorem cr_sortA (hc : X.calm = true) : CallR X (.builtin "sorted") (rSortA X) := CallR.or (cr_sortX (kv_int _ _) hc) (cr_sortX (kv_str _ _) hc)
theorem cr_lenA : CallR X (.builtin "len") (rLenA X) := CallR.or (cr_lenX (kv_int _ _)) (cr_lenX (kv_str _ _))
theorem boot_sorted : bootBuiltins "sorted" = some (.builtin "sorted") := by first | rfl | decide +kernel
theorem blt_in (x : Str) (h : (bltNames.any fun y => decide (y = x)) = true) : x ∈ bltNames := by
  obtain ⟨y, hy, e⟩ := List.any_eq_true.mp h
  rw [← of_decide_eq_true e]
  exact hy
theorem DE.sset (sx : SX G X N sc) {z : Bool} {a : Expr} {p p2 p3 p4 : Pos} {Q : DK} (hg : gloB sc "sorted" = true) (hg2 : gloB sc "set" = true) (hs : noStar a = true)
    (h : DE X EX a ρ μ fun x μ1 => ssetD z x μ1 Q) : DE X EX (.Call (.Name "sorted" p) [.Call (.Name "set" p2) [a] [] p3] [] p4) ρ μ Q := fun σ H F en m => by
  have hd : DA X EX [a] ρ μ fun ds μ1 => oneD ds fun x => ssetD z x μ1 Q := .cons (star_cons hs) (by
    intro σ H F en m
    refine (h σ H F en m).mono fun v H1 ⟨d, F1, μ1, g1, m1, r1, q1⟩ => ⟨d, F1, μ1, g1, m1, r1, .nil q1⟩)
  refine we_of (pe_callB (cr_sortA sx.calm) (sx.glo hg) (sx.blt _ (blt_in _ (by decide +kernel))) boot_sorted
    (pa_cons (pe_callTy (cr_setA sx.calm) (sx.glo hg2) (sx.blt _ (blt_in _ (by decide +kernel))) boot_set pa_wa (by decide) (by decide) (star_cons hs) (by rfl)) pa_nil (by rfl)) (by decide) (by decide) (by rfl) (by rfl)) ?_
  refine (hd σ H F en m).mono fun vs H1 ⟨ds, F1, μ1, g1, m1, r1, q1⟩ => ?_
  obtain ⟨x, rfl, q1⟩ := one_ds q1
  unfold ssetD at q1
  obtain ⟨l, e, hl, q1⟩ := optD_ok q1
  obtain ⟨pa, ws, rfl, hs2, rs⟩ := src_rd m1 r1 e
  rcases q1 with ⟨ns, e2, q1⟩ | ⟨ns, e2, q1⟩
  · have e3 := asInts_eq e2
    subst e3
    rw [rs.ints] at hs2
    rw [List.length_map] at hl
    refine .inl ⟨pa, ns, rfl, hs2, hl, fun b n hb => .inl ⟨b, _, n, rfl, upd_same, fun ms c h1 h2 hc => ?_⟩⟩
    obtain ⟨g2, m2⟩ := new_obj (o := SetO (X := X) (intKind X.prog X.w) b (fun j => decide (j ∈ ns)) n) m1 hb
    refine newL_ok m2 .of_ints (q1 ms (h1.imp fun {i j} q => ?_) fun k => (h2 k).trans decide_eq_true_iff) (fun v H2 pq => (pq.pre g2).pre g1) c hc
    have := of_decide_eq_false q.1
    have := q.2
    omega
  · have e3 := asStrs_eq e2
    subst e3
    rw [rs.strs] at hs2
    rw [List.length_map] at hl
    refine .inr ⟨pa, ns, rfl, hs2, hl, fun b n hb => .inr ⟨b, _, n, rfl, upd_same, fun ms c h1 h2 hc => ?_⟩⟩
    obtain ⟨g2, m2⟩ := new_obj (o := SetO (X := X) (strKind X.prog X.w) b (fun j => decide (j ∈ ns)) n) m1 hb
    refine newL_ok m2 .of_strs (q1 ms (h1.imp fun {i j} q => ?_) fun k => (h2 k).trans decide_eq_true_iff) (fun v H2 pq => (pq.pre g2).pre g1) c hc
    have a := List.not_lt.mp (of_decide_eq_false q.1)
    show i.cps.toList < j.cps.toList
    rcases Classical.em (i.cps.toList < j.cps.toList) with b | b
    · exact b
    · have e : i.cps.toList = j.cps.toList := List.le_antisymm a (List.not_lt.mp b)
      exact absurd (by cases i; cases j; congr 1; exact Array.toList_inj.mp e) q.2
theorem DE.nset (sx : SX G X N sc) {a : Expr} {p p2 p3 p4 : Pos} {Q : DK} (hg : gloB sc "len" = true) (hg2 : gloB sc "set" = true) (hs : noStar a = true)
    (h : DE X EX a ρ μ fun x μ1 => nsetD x μ1 Q) : DE X EX (.Call (.Name "len" p) [.Call (.Name "set" p2) [a] [] p3] [] p4) ρ μ Q := fun σ H F en m => by
  have hd : DA X EX [a] ρ μ fun ds μ1 => oneD ds fun x => nsetD x μ1 Q := .cons (star_cons hs) (by
    intro σ H F en m
    refine (h σ H F en m).mono fun v H1 ⟨d, F1, μ1, g1, m1, r1, q1⟩ => ⟨d, F1, μ1, g1, m1, r1, .nil q1⟩)
  refine we_of (pe_callB cr_lenA (sx.glo hg) (sx.blt _ (blt_in _ (by decide +kernel))) boot_len
    (pa_cons (pe_callTy (cr_setA sx.calm) (sx.glo hg2) (sx.blt _ (blt_in _ (by decide +kernel))) boot_set pa_wa (by decide) (by decide) (star_cons hs) (by rfl)) pa_nil (by rfl)) (by decide) (by decide) (by rfl) (by rfl)) ?_
  refine (hd σ H F en m).mono fun vs H1 ⟨ds, F1, μ1, g1, m1, r1, q1⟩ => ?_
  obtain ⟨x, rfl, q1⟩ := one_ds q1
  unfold nsetD at q1
  obtain ⟨l, e, hl, q1⟩ := optD_ok q1
  obtain ⟨pa, ws, rfl, hs2, rs⟩ := src_rd m1 r1 e
  rcases q1 with ⟨ns, e2, q1⟩ | ⟨ns, e2, q1⟩
  · have e3 := asInts_eq e2
    subst e3
    rw [rs.ints] at hs2
    rw [List.length_map] at hl
    refine .inl ⟨pa, ns, rfl, hs2, hl, fun b n hb => .inl ⟨b, _, n, rfl, upd_same, fun ms h1 h2 => ?_⟩⟩
    obtain ⟨g2, m2⟩ := new_obj (o := SetO (X := X) (intKind X.prog X.w) b (fun j => decide (j ∈ ns)) n) m1 hb
    exact Post.pre g1 (Post.pre g2 (.now m2 (.int _) (q1 ms h1 fun k => (h2 k).trans decide_eq_true_iff)))
  · have e3 := asStrs_eq e2
    subst e3
    rw [rs.strs] at hs2
    rw [List.length_map] at hl
    refine .inr ⟨pa, ns, rfl, hs2, hl, fun b n hb => .inr ⟨b, _, n, rfl, upd_same, fun ms h1 h2 => ?_⟩⟩
    obtain ⟨g2, m2⟩ := new_obj (o := SetO (X := X) (strKind X.prog X.w) b (fun j => decide (j ∈ ns)) n) m1 hb
    exact Post.pre g1 (Post.pre g2 (.now m2 (.int _) (q1 ms h1 fun k => (h2 k).trans decide_eq_true_iff)))
end
end DL
/-! enumerate(a tuple). -/
namespace DL
open PySem PySem.Spec PyProof.Rows L2
open AutoSeq1 (wpAny_loadPart')
theorem new_enumT (l : Addr) (items : Array Value) (n : Nat) (dct : Option Addr) (sl : Array (Option Value)) :
    Meets (Builtin.«enumerate.__new__» ⟨[.type "enumerate", .ref l], []⟩) (fun _ R s => s.heap.get? l = some { cls := .type "tuple", dict := dct, data := .seq items n, slots := sl } ∧
      R (.ok (.ret (.ref (s.heap.push { cls := .type "tuple_iterator", data := .fields #[.ref l, .int 0 0] }).objs.size)))
        { s with heap := (s.heap.push { cls := .type "tuple_iterator", data := .fields #[.ref l, .int 0 0] }).push { cls := .type "enumerate", data := .fields #[.none, .bool false, .ref s.heap.objs.size, rawInt 0, .none, .none] } }) :=
  .of_wp fun prog w A R s h => by
    obtain ⟨hp, g, d, tk, os⟩ := s
    obtain ⟨e, h⟩ := h
    have hsub := sub_enumerate
    have tp : Heap.IsTuple (Shared.heap ⟨hp, g, d, tk, os⟩) l items := ⟨_, e, rfl, n, rfl⟩
    wp_walk using wpAny_loadPart' e
    refine wpAny_stack_any fun st => wpAny_pure ?_
    split
    · rename_i c _ _ _ _ _
      cases (c == Value.type "enumerate")
      · wp_walk using wpAny_loadPart' e, wpAny_pyIter_tuple tp
        exact ⟨_, rfl, h⟩
      · wp_walk using wpAny_loadPart' e, wpAny_pyIter_tuple tp
        exact ⟨_, rfl, h⟩
    · wp_walk using wpAny_loadPart' e, wpAny_pyIter_tuple tp
      exact ⟨_, rfl, h⟩
section
variable {prog : Program} {w : World} {A : Around} {E : Value → Shared → Prop} {s : Shared}
theorem enumT_item {it t : Addr} {i : Nat} {items : Array Value} {x : Value} {Q : Value → Shared → Prop} (hit : s.heap.IsTupleIter it t i) (ht : s.heap.IsTuple t items) (hx : items[i]? = some x)
    (hQ : ∀ h', h'.IsTupleIter it t (i + 1) → Heap.SameBut it s.heap h' → Q x { s with heap := h' }) : wpAny (model prog w) A (Builtin.SmallTypes.nextOf (.ref it)) Q E s := by
  obtain ⟨o, ho, hc, hd⟩ := id hit
  obtain ⟨ol, hol, _, nl, hdl⟩ := ht
  unfold Builtin.SmallTypes.nextOf
  have ar := F.args_tuple_iterator_next_1 (.ref it)
  refine wpAny_bind (wpAny_callSpecial?_slot (name := Str.ofString "__next__") hit.typeIs F.slot_tuple_iterator_next (wpAny_call_entry F.slot_tuple_iterator_next hit.typeIs F.entry_tuple_iterator_next ?_ ar))
  refine wpAny_bind (m := field (.ref it) 0) (wpAny_field ho hd (x := .ref t) rfl ?_)
  show wpAny _ _ (if (Value.ref t == Value.none) = true then _ else _) _ _ _
  rw [if_neg (by exact Bool.false_ne_true)]
  refine wpAny_bind (m := field (.ref it) 1) (wpAny_field ho hd (x := .int i 0) rfl ?_)
  refine wpAny_bind (m := seqItems? (.ref t)) (wpAny_seqItems hol hdl ?_)
  simp only [Int.toNat_natCast, hx]
  refine wpAny_bind (wpAny_setField ho hd (by simp) (wpAny_pure ⟨x, rfl, wpAny_pure (hQ _ ⟨_, Heap.get?_update_self _ ho (Obj.isFreed_of_fields (Obj.data_mapFields hd _)), (Obj.cls_mapFields ..).trans hc, ?_⟩ (Heap.SameBut.update ..))⟩))
  rw [Obj.data_mapFields hd]
  simp [rawInt]
theorem enumT_end {it t : Addr} {i : Nat} {items : Array Value} {Q : Value → Shared → Prop} (hh : A.handled = none) (hit : s.heap.IsTupleIter it t i) (ht : s.heap.IsTuple t items) (hx : items[i]? = none)
    (hE : ∀ h' e, Heap.ExtBut it s.heap h' → (∃ o, h'.get? e = some o ∧ o.cls = .type "StopIteration") → E (.ref e) { s with heap := h' }) : wpAny (model prog w) A (Builtin.SmallTypes.nextOf (.ref it)) Q E s := by
  obtain ⟨o, ho, hc, hd⟩ := id hit
  obtain ⟨ol, hol, _, nl, hdl⟩ := ht
  unfold Builtin.SmallTypes.nextOf
  have ar := F.args_tuple_iterator_next_1 (.ref it)
  refine wpAny_bind (wpAny_callSpecial?_slot (name := Str.ofString "__next__") hit.typeIs F.slot_tuple_iterator_next (wpAny_call_entry F.slot_tuple_iterator_next hit.typeIs F.entry_tuple_iterator_next ?_ ar))
  refine wpAny_bind (m := field (.ref it) 0) (wpAny_field ho hd (x := .ref t) rfl ?_)
  show wpAny _ _ (if (Value.ref t == Value.none) = true then _ else _) _ _ _
  rw [if_neg (by exact Bool.false_ne_true)]
  refine wpAny_bind (m := field (.ref it) 1) (wpAny_field ho hd (x := .int i 0) rfl ?_)
  refine wpAny_bind (m := seqItems? (.ref t)) (wpAny_seqItems hol hdl ?_)
  simp only [Int.toNat_natCast, hx]
  refine wpAny_bind (wpAny_rule (wpAny_bind (wpAny_setField ho hd (by simp) ?_)))
  refine wpAny_bind (m := newExc (.type "StopIteration") []) ?_
  simp only [newExc, newTuple]
  refine wpAny_bind (wpAny_newObj_type (wpAny_bind (m := firstArgMember _ _) (wpAny_of_eq (a := Value.none) (by first | rfl | (simp only [firstArgMember]; rfl)) (wpAny_newObj_type ?_ (by size_fits)))) (by size_fits))
  simp only [raiseNew]
  refine wpAny_bind (wpAny_handled ?_)
  first | rw [show A.in1.handled = none from hh] | rw [hh]
  exact wpAny_bind (wpAny_pure (wpAny_throw (hE _ _ (((Heap.SameBut.update ..).extBut.push _).push _) ⟨_, Heap.get?_push_size _ rfl, rfl⟩)))
theorem drawsT (hh : A.handled = none) (it l : Addr) (hne : l ≠ it) (items : Array Value) : Draws prog w A it [it, l] items.size (fun i v => items[i]? = some v) (fun i h => h.IsTupleIter it l i ∧ h.IsTuple l items) where
  live := fun _ _ st => let ⟨o, ho, _⟩ := st.1; ⟨o, ho⟩
  frame := fun _ _ _ st hk => ⟨st.1.at fun o e => hk it (by simp) o e, st.2.at fun o e => hk l (by simp) o e⟩
  item := fun i s Q E hi st hQ => enumT_item st.1 st.2 (x := items[i]) (by simp [hi]) fun h' a b => hQ _ h' s.toks (by simp [hi]) ⟨a, st.2.extBut b.extBut hne⟩ b
  done := fun s Q E st hE => enumT_end hh st.1 st.2 (by simp) hE
theorem call_enumT {l : Addr} {items : Array Value} {Q : Value → Shared → Prop} (ht : s.heap.IsTuple l items)
    (h : ∀ h', IsEnum h' (s.heap.objs.size + 1) s.heap.objs.size 0 .none → h'.IsTupleIter s.heap.objs.size l 0 → (∀ b o, s.heap.get? b = some o → h'.get? b = some o) → Q (.ref (s.heap.objs.size + 1)) { s with heap := h' }) :
    wpAny (model prog w) A (call (.type "enumerate") [.ref l]) Q E s := by
  obtain ⟨⟨c, dct, dt, sl⟩, hl, hc, n, hd⟩ := ht
  replace hc : c = .type "tuple" := hc
  replace hd : dt = .seq items n := hd
  subst hc hd
  refine callType_new F.called_enumerate (by decide) (F.typeCall_enumerate_1 _) (F.newCall_enumerate_1 _) (fun obj => F.args_object_init_2 obj _) F.entry_enumerate_new (new_enumT l items n dct sl) ⟨hl, ?_⟩
  have z : (s.heap.push { cls := .type "tuple_iterator", data := .fields #[.ref l, .int 0 0] }).objs.size = s.heap.objs.size + 1 := Heap.size_push ..
  show _ ∧ _
  rw [z]
  have q := Heap.get?_push_size (s.heap.push { cls := .type "tuple_iterator", data := .fields #[.ref l, .int 0 0] }) (o := { cls := .type "enumerate", data := .fields #[.none, .bool false, .ref s.heap.objs.size, rawInt 0, .none, .none] }) rfl
  rw [z] at q
  exact ⟨⟨_, q, rfl⟩, h _ q ⟨_, Heap.get?_push_of_some _ (Heap.get?_push_size _ rfl), rfl, rfl⟩ fun b o x => Heap.get?_push_of_some _ (Heap.get?_push_of_some _ x)⟩
end
/-- its turns: the tuple's items, numbered -/
def IteT (K : PySem.W.Frag) (a : Addr) : L2.It :=
  ⟨fun i H => ∃ (xs : List V) (x : V), SqT K H a xs ∧ xs[i]? = some x, fun i H v H' => ∃ T x, v = .ref T ∧ H T = none ∧ H' = upd H T (.tup [.int (i : Nat), x]) ∧ ∀ xs, SqT K H a xs → xs[i]? = some x, fun i H => ∃ xs : List V, SqT K H a xs ∧ xs.length = i⟩
theorem turn_enumT {P : Program} {w : World} {K : PySem.W.Frag} {elts : List Expr} {kk : Nat} {tpos : Pos} (a e it : Addr) (hai : a ≠ it) :
    Turn P w K (.Tuple elts kk tpos) (IteT K a) [e, it] e (fun i h => (∃ old, IsEnum h e it ((i : Nat) : Int) old) ∧ h.IsTupleIter it a i ∧ e ≠ it) where
  mem := by simp
  obj := fun i h st b hb => by
    obtain ⟨⟨old, he⟩, ⟨o, ho, hc, hd⟩, _⟩ := st
    rcases (show b = e ∨ b = it by simpa using hb) with z | z
    · rw [z]; exact ⟨_, he, fun v q => nomatch q⟩
    · rw [z]; exact ⟨o, ho, fun v q => by rw [hd] at q; cases q⟩
  keep := fun i h h' st k => let ⟨⟨old, he⟩, hi, hne⟩ := st; ⟨⟨old, k e (by simp) _ he⟩, hi.at fun o q => k it (by simp) o q, hne⟩
  item := by
    intro X hP hw hK hc i pins s σ H E I hf st hg
    subst hP hw hK
    obtain ⟨⟨old, he⟩, hit, hne⟩ := st
    obtain ⟨xs, x, hq, hx⟩ := hg
    obtain ⟨its, rv, p, hz⟩ := I.tuple hq
    obtain ⟨u, hu, ru⟩ := rv.get hx
    have hu2 : its.toArray[i]? = some u := by simpa using hu
    have hi : i < its.toArray.size := (Array.getElem?_eq_some_iff.mp hu2).1
    have hel : e < s.heap.objs.size := Heap.lt_size he
    have hil : it < s.heap.objs.size := by obtain ⟨_, q, _⟩ := hit; exact Heap.lt_size q
    have hae : e ∉ [it, a] := fun z => by
      rcases (show e = it ∨ e = a by simpa using z) with z | z
      · exact hne z
      · obtain ⟨o, ho, hc, _⟩ := p
        rw [z] at he
        have he : s.heap.get? a = some _ := he
        rw [ho] at he
        rw [Option.some.inj he] at hc
        exact absurd (Value.type.inj hc) (by decide)
    refine wpAny_pyNext_enum_itemD (drawsT (A := X.A.in1) (I.ok.hd hc) it a hai its.toArray) he ⟨hit, p⟩ hi hne hae fun y h' tk hy ho hst hT hsz hk => ?_
    have ey : y = u := by rw [hu2] at hy; exact (Option.some.inj hy).symm
    subst ey
    refine ⟨_, rfl, wpAny_letOwnedTupleGo_enum (s := { s with heap := h', toks := tk + 1 }) ho fun h'' he' sb => ?_⟩
    have hT2 : h''.get? s.heap.objs.size = some { cls := .type "tuple", data := .seq #[.int i tk, y] } := (sb.2 _ (Nat.ne_of_gt hel)).trans hT
    have new : ObjOk X.prog X.w (upd H s.heap.objs.size (.tup [.int (i : Nat), x])) h'' s.heap.objs.size (.tup [.int (i : Nat), x]) :=
      ⟨by show 2 ≤ sizeLine; decide, [.int i tk, y], .cons ⟨_, rfl⟩ (.cons ru .nil), ⟨_, hT2, rfl, _, rfl⟩⟩
    have I1 : Inv X pins σ (upd H s.heap.objs.size (.tup [.int (i : Nat), x])) { s with heap := h'', toks := tk + 1 } :=
      I.turnedNew (ch := [e, it]) (fun b ob hb q => (sb.2 b (fun z => hb (by simp [z]))).trans (hk b ob (fun z => hb (by simp [z])) (fun z => hb (by simp [z])) q)) hf (Nat.le_refl _) new
    refine ⟨.ref s.heap.objs.size, _, I1, rfl, ⟨_, x, rfl, I.hok.fresh (Nat.le_refl _), rfl, fun ys hy => by rw [I.tuple_inj hy hq]; exact hx⟩, ⟨⟨y, ?_⟩, hst.1.at fun o q => (sb.2 it (Ne.symm hne)).trans q, hne⟩, fun b hb => ?_⟩
    · rw [show ((i + 1 : Nat) : Int) = (i : Int) + 1 by omega]
      exact he'
    · have hb' : b < s.heap.objs.size := by
        rcases (show b = e ∨ b = it by simpa using hb) with z | z
        · rw [z]; exact hel
        · rw [z]; exact hil
      rw [upd_ne (Nat.ne_of_lt hb')]
      exact (hf b hb).1
  done := by
    intro X hP hw hK hc i pins s σ H E I hf st hg
    subst hP hw hK
    obtain ⟨⟨old, he⟩, hit, hne⟩ := st
    obtain ⟨xs, hq, hx⟩ := hg
    obtain ⟨its, rv, p, hz⟩ := I.tuple hq
    obtain ⟨f0, f1, f2, f3, f4, f5⟩ := hf it (by simp)
    have hl := rv.length
    have hlt : i = its.toArray.size := by rw [List.size_toArray, ← hl, hx]
    subst hlt
    exact wpAny_pyNext_enum_endD (drawsT (A := X.A.in1) (I.ok.hd hc) it a hai its.toArray) he ⟨hit, p⟩ fun h' eb => ⟨rfl, I.turned (t' := s.toks) (fun b o hb q => eb b o hb q) f0 f1 f3 f4 f5⟩
  self := fun A i s Q E st h => let ⟨⟨_, he⟩, _⟩ := st; wpAny_pyIter_enum he h
theorem numb_len (l : List D) : (numb l).length = l.length := by unfold numb; simp
theorem numb_get {l : List D} {i : Nat} (h : i < l.length) : (numb l)[i]? = some (.tup [.int (i : Nat), l[i]]) := by
  unfold numb
  simp [h]
/-- its turns: a text's signs, numbered -/
def IteS (x : Str) : L2.It :=
  ⟨fun i _ => i < x.cps.size, fun i H v H' => ∃ T c, v = .ref T ∧ H T = none ∧ H' = upd H T (.tup [.int (i : Nat), .str ⟨#[c]⟩]) ∧ x.cps[i]? = some c, fun i _ => x.cps.size = i⟩
theorem drawsS {prog : Program} {w : World} {A : Around} (hh : A.handled = none) (it : Addr) (x : Str) (t : Tok) :
    Draws prog w A it [it] x.cps.size (fun i v => ∃ c u, x.cps[i]? = some c ∧ v = .str ⟨#[c]⟩ u) (fun i h => h.IsStrIter it (strIterType x) x t i) := by
  unfold strIterType
  cases x.cps.all (· < 128) with
  | true => exact Draws.strAscii hh it x t
  | false => exact Draws.strWide hh it x t
theorem turn_enumS {P : Program} {w : World} {K : PySem.W.Frag} {elts : List Expr} {kk : Nat} {tpos : Pos} (x : Str) (t : Tok) (e it : Addr) :
    Turn P w K (.Tuple elts kk tpos) (IteS x) [e, it] e (fun i h => (∃ old, IsEnum h e it ((i : Nat) : Int) old) ∧ h.IsStrIter it (strIterType x) x t i ∧ e ≠ it) where
  mem := by simp
  obj := fun i h st b hb => by
    obtain ⟨⟨old, he⟩, ⟨o, ho, hc, hd⟩, _⟩ := st
    rcases (show b = e ∨ b = it by simpa using hb) with z | z
    · rw [z]; exact ⟨_, he, fun v q => nomatch q⟩
    · rw [z]; exact ⟨o, ho, fun v q => by rw [hd] at q; cases q⟩
  keep := fun i h h' st k => let ⟨⟨old, he⟩, ⟨o, ho, r⟩, hne⟩ := st; ⟨⟨old, k e (by simp) _ he⟩, ⟨o, k it (by simp) o ho, r⟩, hne⟩
  item := by
    intro X hP hw hK hc i pins s σ H E I hf st hg
    subst hP hw hK
    obtain ⟨⟨old, he⟩, hit, hne⟩ := st
    have hg : i < x.cps.size := hg
    have hel : e < s.heap.objs.size := Heap.lt_size he
    have hil : it < s.heap.objs.size := by obtain ⟨_, q, _⟩ := hit; exact Heap.lt_size q
    have hae : e ∉ [it] := fun z => hne (by simpa using z)
    refine wpAny_pyNext_enum_itemD (drawsS (A := X.A.in1) (I.ok.hd hc) it x t) he hit hg hne hae fun y h' tk hy ho hst hT hsz hk => ?_
    obtain ⟨c, u, hcx, rfl⟩ := hy
    refine ⟨_, rfl, wpAny_letOwnedTupleGo_enum (s := { s with heap := h', toks := tk + 1 }) ho fun h'' he' sb => ?_⟩
    have hT2 : h''.get? s.heap.objs.size = some { cls := .type "tuple", data := .seq #[.int i tk, .str ⟨#[c]⟩ u] } := (sb.2 _ (Nat.ne_of_gt hel)).trans hT
    have new : ObjOk X.prog X.w (upd H s.heap.objs.size (.tup [.int (i : Nat), .str ⟨#[c]⟩])) h'' s.heap.objs.size (.tup [.int (i : Nat), .str ⟨#[c]⟩]) :=
      ⟨by show 2 ≤ sizeLine; decide, [.int i tk, .str ⟨#[c]⟩ u], .cons ⟨_, rfl⟩ (.cons ⟨u, rfl⟩ .nil), ⟨_, hT2, rfl, _, rfl⟩⟩
    have I1 : Inv X pins σ (upd H s.heap.objs.size (.tup [.int (i : Nat), .str ⟨#[c]⟩])) { s with heap := h'', toks := tk + 1 } :=
      I.turnedNew (ch := [e, it]) (fun b ob hb q => (sb.2 b (fun z => hb (by simp [z]))).trans (hk b ob (fun z => hb (by simp [z])) (fun z => hb (by simp [z])) q)) hf (Nat.le_refl _) new
    refine ⟨.ref s.heap.objs.size, _, I1, rfl, ⟨_, c, rfl, I.hok.fresh (Nat.le_refl _), rfl, hcx⟩, ⟨⟨.str ⟨#[c]⟩ u, ?_⟩, ?_, hne⟩, fun b hb => ?_⟩
    · rw [show ((i + 1 : Nat) : Int) = (i : Int) + 1 by omega]
      exact he'
    · obtain ⟨o, q, r⟩ := hst
      exact ⟨o, (sb.2 it (Ne.symm hne)).trans q, r⟩
    · have hb' : b < s.heap.objs.size := by
        rcases (show b = e ∨ b = it by simpa using hb) with z | z
        · rw [z]; exact hel
        · rw [z]; exact hil
      rw [upd_ne (Nat.ne_of_lt hb')]
      exact (hf b hb).1
  done := by
    intro X hP hw hK hc i pins s σ H E I hf st hg
    subst hP hw hK
    obtain ⟨⟨old, he⟩, hit, hne⟩ := st
    obtain ⟨f0, f1, f2, f3, f4, f5⟩ := hf it (by simp)
    have hg : x.cps.size = i := hg
    subst hg
    exact wpAny_pyNext_enum_endD (drawsS (A := X.A.in1) (I.ok.hd hc) it x t) he hit fun h' eb => ⟨rfl, I.turned (t' := s.toks) (fun b o hb q => eb b o hb q) f0 f1 f3 f4 f5⟩
  self := fun A i s Q E st h => let ⟨⟨_, he⟩, _⟩ := st; wpAny_pyIter_enum he h
section
variable {G : Gc} {X : Cx} {N : List Str} {sc : Scope} {ρ : Rho} {μ : Mem}
/-- enumerate(e), of a list or a tuple -/
def iEnumA (K : PySem.W.Frag) (ta : TA) : TI := fun σ H R => ta σ H fun vs H1 => (∃ a xs, vs = [.ref a] ∧ ((SqL K H1 a xs ∧ R (Ite K a) H1) ∨ (SqT K H1 a xs ∧ R (IteT K a) H1))) ∨ ∃ x, vs = [.str x] ∧ R (IteS x) H1
theorem pi_enumA {e : Expr} {ta : TA} {p pos tpos : Pos} {elts : List Expr} {kk : Nat} (hg : Gl X "enumerate") (hm : X.mg "enumerate" = none) (ha : PA X [e] ta) (hs : starEach [e] X.env = [(false, eval e X.env)] := by rfl) :
    PI X (.Tuple elts kk tpos) (.Call (.Name "enumerate" p) [e] [] pos) (iEnumA X.K ta) := by
  refine ⟨fun pins s σ H R I h => ?_⟩
  refine Call_ (ld_blt I hg hm boot_enumerate (PyProof.Rows.callWith_type1 (thn (ha.run pos pins s σ H _ I h) fun us s1 ⟨vs, H1, I1, r1, q1⟩ => ?_) hs rfl))
  have apart0 : ∀ b ∈ [s1.heap.objs.size + 1, s1.heap.objs.size], s1.heap.objs.size ≤ b := fun b hb => by
    rcases (show b = s1.heap.objs.size + 1 ∨ b = s1.heap.objs.size by simpa using hb) with z | z
    · rw [z]; exact Nat.le_add_right _ _
    · rw [z]; exact Nat.le_refl _
  rcases q1 with q1 | ⟨x, rfl, q⟩
  rotate_left
  · obtain ⟨u, rfl, t, rfl⟩ := vals1 r1
    refine call_enumerate_str fun h' he hit hsz hk => wpAny_pyIter_enum he ?_
    exact ⟨s1.heap.objs.size + 1, [s1.heap.objs.size + 1, s1.heap.objs.size], _, _, H1, rfl, I1.kept (t' := s1.toks) hk, turn_enumS x t (s1.heap.objs.size + 1) s1.heap.objs.size, ⟨⟨.none, he⟩, hit, Nat.succ_ne_self _⟩, fun b hb => I1.fpOk (apart0 b hb) (I1.hok.fresh (apart0 b hb)), q⟩
  obtain ⟨a, xs, rfl, q⟩ := q1
  rw [Vals.ref1 r1]
  have apart : ∀ b ∈ [s1.heap.objs.size + 1, s1.heap.objs.size], s1.heap.objs.size ≤ b := fun b hb => by
    rcases (show b = s1.heap.objs.size + 1 ∨ b = s1.heap.objs.size by simpa using hb) with z | z
    · rw [z]; exact Nat.le_add_right _ _
    · rw [z]; exact Nat.le_refl _
  rcases q with ⟨hq, q⟩ | ⟨hq, q⟩
  · obtain ⟨its, rv, p', hz⟩ := I1.list hq
    refine call_enumerate_list p'.isList fun h' he hit hsz hk => wpAny_pyIter_enum he ?_
    exact ⟨s1.heap.objs.size + 1, [s1.heap.objs.size + 1, s1.heap.objs.size], _, _, H1, rfl, I1.kept (t' := s1.toks) hk, turn_enum a (s1.heap.objs.size + 1) s1.heap.objs.size, ⟨⟨.none, he⟩, hit, Nat.succ_ne_self _⟩, fun b hb => I1.fpOk (apart b hb) (I1.hok.fresh (apart b hb)), q⟩
  · obtain ⟨its, rv, pt, hz⟩ := I1.tuple hq
    have hlt : a < s1.heap.objs.size := by
      obtain ⟨o, ho, _⟩ := pt
      exact Heap.lt_size ho
    refine call_enumT (show s1.heap.IsTuple a its.toArray from pt) fun h' he hit hk => wpAny_pyIter_enum he ?_
    exact ⟨s1.heap.objs.size + 1, [s1.heap.objs.size + 1, s1.heap.objs.size], _, _, H1, rfl, I1.kept (t' := s1.toks) hk, turn_enumT a (s1.heap.objs.size + 1) s1.heap.objs.size (Nat.ne_of_lt hlt), ⟨⟨.none, he⟩, hit, Nat.succ_ne_self _⟩, fun b hb => I1.fpOk (apart b hb) (I1.hok.fresh (apart b hb)), q⟩
theorem pair_new {K : PySem.W.Frag} {H : Hp} {F : Addr → Prop} {μ : Mem} {T : Addr} {i : Nat} {v : V} {d : D} (m : MS K H F μ) (hT : H T = none) (r : RD K H F v d) :
    Grow H F μ (upd H T (.tup [.int (i : Nat), v])) F μ ∧ MS K (upd H T (.tup [.int (i : Nat), v])) F μ ∧ RD K (upd H T (.tup [.int (i : Nat), v])) F (.ref T) (.tup [.int (i : Nat), d]) :=
  new_tup m hT (.cons (.int _) (.cons r .nil))
theorem walks_numL {K : PySem.W.Frag} {a : Addr} {l : List D} {ok : Mem → Prop} {H1 : Hp} {F1 : Addr → Prop} {μ1 : Mem}
    (hL : ∀ H F μ, Grow H1 F1 μ1 H F μ → MS K H F μ → ok μ → ∃ vs, SqL K H a vs ∧ RDs K H F vs l) : Walks K (Ite K a) (numb l) ok H1 F1 μ1 where
  go := fun i H F μ hi g m o => by
    obtain ⟨vs, h, r⟩ := hL H F μ g m o
    rw [numb_len] at hi
    have hv : i < vs.length := by rw [r.length]; exact hi
    exact ⟨vs, vs[i], h, List.getElem?_eq_getElem hv⟩
  stop := fun H F μ g m o => by
    obtain ⟨vs, h, r⟩ := hL H F μ g m o
    exact ⟨vs, h, by rw [numb_len, r.length]; exact Nat.le_refl _⟩
  yld := fun i H F μ x H' hi g m o y => by
    obtain ⟨vs, h, r⟩ := hL H F μ g m o
    obtain ⟨T, v, rfl, hT, rfl, hv⟩ := y
    rw [numb_len] at hi
    obtain ⟨d, h1, h2⟩ := r.get' (hv vs h)
    obtain ⟨g2, m2, r2⟩ := pair_new (i := i) m hT h2
    refine ⟨_, numb_get hi, g2, m2, ?_⟩
    rw [List.getElem?_eq_getElem hi] at h1
    rw [Option.some.inj h1]
    exact r2
theorem walks_numT {K : PySem.W.Frag} {a : Addr} {l : List D} {ok : Mem → Prop} {H1 : Hp} {F1 : Addr → Prop} {μ1 : Mem}
    (hL : ∀ H F μ, Grow H1 F1 μ1 H F μ → MS K H F μ → ok μ → ∃ vs, SqT K H a vs ∧ RDs K H F vs l) : Walks K (IteT K a) (numb l) ok H1 F1 μ1 where
  go := fun i H F μ hi g m o => by
    obtain ⟨vs, h, r⟩ := hL H F μ g m o
    rw [numb_len] at hi
    have hv : i < vs.length := by rw [r.length]; exact hi
    exact ⟨vs, vs[i], h, List.getElem?_eq_getElem hv⟩
  stop := fun H F μ g m o => by
    obtain ⟨vs, h, r⟩ := hL H F μ g m o
    exact ⟨vs, h, by rw [numb_len, r.length]⟩
  yld := fun i H F μ x H' hi g m o y => by
    obtain ⟨vs, h, r⟩ := hL H F μ g m o
    obtain ⟨T, v, rfl, hT, rfl, hv⟩ := y
    rw [numb_len] at hi
    obtain ⟨d, h1, h2⟩ := r.get' (hv vs h)
    obtain ⟨g2, m2, r2⟩ := pair_new (i := i) m hT h2
    refine ⟨_, numb_get hi, g2, m2, ?_⟩
    rw [List.getElem?_eq_getElem hi] at h1
    rw [Option.some.inj h1]
    exact r2
theorem chars_get {x : Str} {i : Nat} {c : Nat} (h : x.cps[i]? = some c) : (chars x)[i]? = some (.str ⟨#[c]⟩) := by
  unfold chars
  rw [List.getElem?_map, Array.getElem?_toList, h]
  rfl
theorem chars_len {x : Str} : (chars x).length = x.cps.size := by unfold chars; simp
theorem walks_numS {K : PySem.W.Frag} {x : Str} {H1 : Hp} {F1 : Addr → Prop} {μ1 : Mem} : Walks K (IteS x) (numb (chars x)) (fun _ => True) H1 F1 μ1 where
  go := fun i H F μ hi g m o => by
    rw [numb_len, chars_len] at hi
    exact hi
  stop := fun H F μ g m o => by
    show x.cps.size = (numb (chars x)).length
    rw [numb_len, chars_len]
  yld := fun i H F μ v H' hi g m o y => by
    obtain ⟨T, c, rfl, hT, rfl, hv⟩ := y
    rw [numb_len] at hi
    have h1 := chars_get hv
    rw [List.getElem?_eq_getElem hi] at h1
    obtain ⟨g2, m2, r2⟩ := pair_new (i := i) m hT (.str ⟨#[c]⟩)
    refine ⟨_, numb_get hi, g2, m2, ?_⟩
    rw [Option.some.inj h1]
    exact r2
theorem DI.enum (sx : SX G X N sc) {elts : List Expr} {kk : Nat} {tpos : Pos} {a : Expr} {p pos : Pos} {R : IK} (hg : gloB sc "enumerate" = true) (hs : noStar a = true) (h : DE X EX a ρ μ fun x μ1 => enumIt x μ1 R) :
    DI X EX (.Tuple elts kk tpos) (.Call (.Name "enumerate" p) [a] [] pos) ρ μ R := fun σ H F en m => by
  refine wi_of (pi_enumA (sx.glo hg) (sx.blt _ (by decide +kernel)) (pa_cons pe_we pa_nil (star_cons hs)) (by rw [star_cons hs]; rfl)) ?_
  refine (h σ H F en m).mono fun v H1 ⟨x, F1, μ1, g1, m1, r1, q⟩ => ?_
  unfold enumIt at q
  cases r1 with
  | str s => exact .inr ⟨s, rfl, _, _, F1, μ1, g1, m1, walks_numS, q⟩
  | tup t rs =>
    exact .inl ⟨_, _, rfl, .inr ⟨t, _, _, F1, μ1, g1, m1, walks_numT (fun H F μ g m o => ⟨_, (g.stay m1).tup _ _ t, rs.stay (g.stay m1)⟩), q⟩⟩
  | tpz f t _ _ rs =>
    exact .inl ⟨_, _, rfl, .inr ⟨.inl (.inr ⟨_, t⟩), _, _, F1, μ1, g1, m1, walks_numT (fun H F μ g m o => ⟨_, (g.stay m1).tup _ _ (.inl (.inr ⟨_, t⟩)), rs.stay (g.stay m1)⟩), q⟩⟩
  | lst f hd rs =>
    exact .inl ⟨_, _, rfl, .inl ⟨.inl (.inl hd), _, _, F1, μ1, g1, m1, walks_numL (fun H F μ g m o => ⟨_, sql_keep m1 g f hd, rs.stay (g.stay m1)⟩), q⟩⟩
  | lk hk rs =>
    have hq : ∀ H F μ, Grow H1 F1 μ1 H F μ → SqL X.K H _ _ := fun H F μ g => hk.elim (fun ⟨o, z⟩ => .inl (.inr ⟨o, (g.stay m1).lk _ _ _ z⟩)) .inr
    exact .inl ⟨_, _, rfl, .inl ⟨hq _ _ _ .refl, _, _, F1, μ1, g1, m1, walks_numL (fun H F μ g m o => ⟨_, hq H F μ g, rs.stay (g.stay m1)⟩), q⟩⟩
  | ref a =>
    obtain ⟨l, e2, q⟩ := optD_ok (show optD (seqL μ1 (.ref a)) _ from q)
    obtain ⟨_, u, hu, vs, eu, rs⟩ := m1.at_ a _ (seqL_ref e2)
    subst eu
    refine .inl ⟨_, _, rfl, .inl ⟨.inl (.inl hu), _, _, F1, μ1, g1, m1, walks_numL (fun H F μ g m o => ?_), q⟩⟩
    obtain ⟨_, u, hu, vs, eu, rs⟩ := m.at_ a _ (seqL_ref o)
    subst eu
    exact ⟨vs, .inl (.inl hu), rs⟩
  | _ => exact False.elim q
end
end DL
/-! zip of lists and tuples, mixed too. -/
namespace DL
open PySem PySem.Spec PyProof.Rows L2
def SqK (k : Bool) (K : PySem.W.Frag) (H : Hp) (a : Addr) (vs : List V) : Prop := match k with
  | true => SqT K H a vs
  | false => SqL K H a vs
def hIter (k : Bool) (h : Heap) (it l : Addr) (i : Nat) : Prop := match k with
  | true => h.IsTupleIter it l i
  | false => h.IsListIter it l i
def hSeq (k : Bool) (h : Heap) (l : Addr) (its : Array Value) : Prop := match k with
  | true => h.IsTuple l its
  | false => h.IsList l its
theorem hIter.has {k : Bool} {h : Heap} {it l : Addr} {i : Nat} (x : hIter k h it l i) : ∃ o, h.get? it = some o ∧ ∀ v, o.data ≠ .cell v := by
  cases k with
  | true => obtain ⟨o, e, _, d⟩ := x; exact ⟨o, e, fun v q => by rw [d] at q; cases q⟩
  | false => obtain ⟨o, e, _, d⟩ := x; exact ⟨o, e, fun v q => by rw [d] at q; cases q⟩
theorem hIter.keep {k : Bool} {h h' : Heap} {it l : Addr} {i : Nat} (x : hIter k h it l i) (q : ∀ o, h.get? it = some o → h'.get? it = some o) : hIter k h' it l i := by
  cases k with
  | true => exact Heap.IsTupleIter.at (show h.IsTupleIter it l i from x) fun o e => q o e
  | false => exact Heap.IsListIter.at (show h.IsListIter it l i from x) fun o e => q o e
theorem hSeq.has {k : Bool} {h : Heap} {l : Addr} {its : Array Value} (x : hSeq k h l its) : ∃ o, h.get? l = some o := by
  cases k with
  | true => obtain ⟨o, e, _⟩ := x; exact ⟨o, e⟩
  | false => obtain ⟨o, e, _⟩ := x; exact ⟨o, e⟩
theorem SqK.at_ {k : Bool} {X : Cx} {pins : List (Addr × Obj)} {σ : St} {H : Hp} {s : Shared} {a : Addr} {vs : List V} (I : Inv X pins σ H s) (h : SqK k X.K H a vs) : ∃ its : List Value, Vals vs its ∧ hSeq k s.heap a its.toArray := by
  cases k with
  | true => obtain ⟨its, rv, p, _⟩ := I.tuple h; exact ⟨its, rv, p⟩
  | false => obtain ⟨its, rv, p, _⟩ := I.list h; exact ⟨its, rv, p.isList⟩
theorem SqK.inj {k : Bool} {X : Cx} {pins : List (Addr × Obj)} {σ : St} {H : Hp} {s : Shared} {a : Addr} {vs ws : List V} (I : Inv X pins σ H s) (h : SqK k X.K H a vs) (g : SqK k X.K H a ws) : vs = ws := by
  cases k with
  | true => exact I.tuple_inj h g
  | false => exact I.list_inj h g
theorem drawsK (k : Bool) {prog : Program} {w : World} {A : Around} (hh : A.handled = none) (it l : Addr) (hne : l ≠ it) (items : Array Value) : Draws prog w A it [it, l] items.size (fun i v => items[i]? = some v) (fun i h => hIter k h it l i ∧ hSeq k h l items) := by
  cases k with
  | true => exact drawsT hh it l hne items
  | false => exact Draws.list hh it l hne items

theorem sepK {z TI TO i1 i2 l1 l2 : Addr} (D : ZipApart z TI TO i1 i2 l1 l2) : ZipSep2 z TI TO i1 i2 [i1, l1] [i2, l2] where
  TIz := D.TIz
  TOz := D.TOz
  TITO := D.TITO
  TIi1 := D.TIi1
  mem1 := by simp
  zf1 := fun h => by rcases (show z = i1 ∨ z = l1 by simpa using h) with e | e; exact D.i1z e.symm; exact D.l1z e.symm
  Tf1 := fun h => by rcases (show TO = i1 ∨ TO = l1 by simpa using h) with e | e; exact D.TOi1 e; exact D.l1TO e.symm
  TIi2 := D.TIi2
  mem2 := by simp
  zf2 := fun h => by rcases (show z = i2 ∨ z = l2 by simpa using h) with e | e; exact D.i2z e.symm; exact D.l2z e.symm
  Tf2 := fun h => by rcases (show TO = i2 ∨ TO = l2 by simpa using h) with e | e; exact D.TOi2 e; exact D.l2TO e.symm
  sep1_2 := fun h => by rcases (show i1 = i2 ∨ i1 = l2 by simpa using h) with e | e; exact D.i12 e; exact D.l2i1 e.symm
  sep2_1 := fun h => by rcases (show i2 = i1 ∨ i2 = l1 by simpa using h) with e | e; exact D.i12 e.symm; exact D.l1i2 e.symm
/-- the sequences at a and b as they stand at each turn, the items in new pairs -/
def ItzK (k1 k2 : Bool) (K : PySem.W.Frag) (a b : Addr) : L2.It :=
  ⟨fun i H => ∃ (xs ys : List V) (x y : V), SqK k1 K H a xs ∧ SqK k2 K H b ys ∧ xs[i]? = some x ∧ ys[i]? = some y,
    fun i H v H' => ∃ T x y, v = .ref T ∧ H T = none ∧ H' = upd H T (.tup [x, y]) ∧ (∀ xs, SqK k1 K H a xs → xs[i]? = some x) ∧ ∀ ys, SqK k2 K H b ys → ys[i]? = some y,
    fun i H => ∃ xs ys : List V, SqK k1 K H a xs ∧ SqK k2 K H b ys ∧ i = min xs.length ys.length⟩
theorem turn_zipK (k1 k2 : Bool) {P : Program} {w : World} {K : PySem.W.Frag} {elts : List Expr} {kk : Nat} {tpos : Pos} {a b z TI TO i1 i2 : Addr} (D : ZipApart z TI TO i1 i2 a b) :
    Turn P w K (.Tuple elts kk tpos) (ItzK k1 k2 K a b) [z, TI, TO, i1, i2] z (fun i h => IsZip h z TI TO .none ∧ IsPair h TI (.ref i1) (.ref i2) ∧ (∃ x y, IsPair h TO x y) ∧ hIter k1 h i1 a i ∧ hIter k2 h i2 b i) where
  mem := by simp
  obj := fun i h st c hc => by
    obtain ⟨hz, hTI, ⟨x, y, hTO⟩, x1, x2⟩ := st
    obtain ⟨o1, e1, d1⟩ := x1.has
    obtain ⟨o2, e2, d2⟩ := x2.has
    have e' : c = z ∨ c = TI ∨ c = TO ∨ c = i1 ∨ c = i2 := by simpa using hc
    rcases e' with q | q | q | q | q
    · rw [q]; exact ⟨_, hz, fun v q => nomatch q⟩
    · rw [q]; exact ⟨_, hTI, fun v q => nomatch q⟩
    · rw [q]; exact ⟨_, hTO, fun v q => nomatch q⟩
    · rw [q]; exact ⟨o1, e1, d1⟩
    · rw [q]; exact ⟨o2, e2, d2⟩
  keep := fun i h h' st k => by
    obtain ⟨hz, hTI, ⟨x, y, hTO⟩, h1, h2⟩ := st
    exact ⟨k z (by simp) _ hz, k TI (by simp) _ hTI, ⟨x, y, k TO (by simp) _ hTO⟩, h1.keep fun o q => k i1 (by simp) o q, h2.keep fun o q => k i2 (by simp) o q⟩
  item := by
    intro X hP hw hK hc i pins s σ H E I hf st hg
    subst hP hw hK
    obtain ⟨hz, hTI, ⟨x0, y0, hTO⟩, h1, h2⟩ := st
    obtain ⟨xs, ys, x, y, hqx, hqy, hx, hy⟩ := hg
    obtain ⟨its, rv, p⟩ := hqx.at_ I
    obtain ⟨its2, rv2, p2⟩ := hqy.at_ I
    obtain ⟨u, hu, ru⟩ := rv.get hx
    obtain ⟨u2, hu2, ru2⟩ := rv2.get hy
    have gu : its.toArray[i]? = some u := by simpa using hu
    have gu2 : its2.toArray[i]? = some u2 := by simpa using hu2
    have lt1 := (Array.getElem?_eq_some_iff.mp gu).1
    have lt2 := (Array.getElem?_eq_some_iff.mp gu2).1
    have hzl : z < s.heap.objs.size := Heap.lt_size hz
    refine wpAny_pyNext_zipD2_item (sepK D) (drawsK k1 (A := X.A.in1) (I.ok.hd hc) i1 a D.l1i1 its.toArray) (drawsK k2 (A := X.A.in1) (I.ok.hd hc) i2 b D.l2i2 its2.toArray) hz hTI hTO ⟨h1, p⟩ ⟨h2, p2⟩ lt1 lt2 fun y1 y2 h' tk q1 q2 z' TO' s1' s2' hT hsz hk => ?_
    have ey1 : y1 = u := by rw [gu] at q1; exact (Option.some.inj q1).symm
    have ey2 : y2 = u2 := by rw [gu2] at q2; exact (Option.some.inj q2).symm
    subst ey1 ey2
    refine ⟨_, rfl, wpAny_letOwnedTupleGo_zip (s := { s with heap := h', toks := tk }) z' fun h'' z'' sb => ?_⟩
    have hT2 : h''.get? s.heap.objs.size = some { cls := .type "tuple", data := .seq #[y1, y2] } := (sb.2 _ (Nat.ne_of_gt hzl)).trans hT
    have new : ObjOk X.prog X.w (upd H s.heap.objs.size (.tup [x, y])) h'' s.heap.objs.size (.tup [x, y]) :=
      ⟨by show 2 ≤ sizeLine; decide, [y1, y2], .cons ru (.cons ru2 .nil), ⟨_, hT2, rfl, _, rfl⟩⟩
    have I1 : Inv X pins σ (upd H s.heap.objs.size (.tup [x, y])) { s with heap := h'', toks := tk } :=
      I.turnedNew (t' := tk) (ch := [z, TI, TO, i1, i2]) (fun c o hb q => (sb.2 c (fun q' => hb (by simp [q']))).trans (hk c o (fun q' => hb (by simp [q'])) (fun q' => hb (by simp [q'])) (fun q' => hb (by simp [q'])) (fun q' => hb (by simp [q'])) q)) hf (Nat.le_refl _) new
    refine ⟨.ref s.heap.objs.size, _, I1, rfl, ⟨_, x, y, rfl, I.hok.fresh (Nat.le_refl _), rfl, fun l hl => by rw [hl.inj I hqx]; exact hx, fun l hl => by rw [hl.inj I hqy]; exact hy⟩, ⟨z'', ?_, ⟨y1, y2, ?_⟩, ?_, ?_⟩, fun c hcm => ?_⟩
    · exact (sb.2 _ D.TIz).trans (hk _ _ D.TIz D.TITO D.TIi1 D.TIi2 hTI)
    · exact (sb.2 _ D.TOz).trans TO'
    · exact s1'.1.keep fun o q => (sb.2 _ D.i1z).trans q
    · exact s2'.1.keep fun o q => (sb.2 _ D.i2z).trans q
    · have hlt : c < s.heap.objs.size := by
        have e' : c = z ∨ c = TI ∨ c = TO ∨ c = i1 ∨ c = i2 := by simpa using hcm
        rcases e' with q | q | q | q | q
        · rw [q]; exact hzl
        · rw [q]; exact Heap.lt_size hTI
        · rw [q]; exact Heap.lt_size hTO
        · rw [q]; obtain ⟨_, e1, _⟩ := h1.has; exact Heap.lt_size e1
        · rw [q]; obtain ⟨_, e2, _⟩ := h2.has; exact Heap.lt_size e2
      rw [upd_ne (Nat.ne_of_lt hlt)]
      exact (hf c hcm).1
  done := by
    intro X hP hw hK hc i pins s σ H E I hf st hg
    subst hP hw hK
    obtain ⟨hz, hTI, ⟨x0, y0, hTO⟩, h1, h2⟩ := st
    obtain ⟨xs, ys, hqx, hqy, hend⟩ := hg
    obtain ⟨its, rv, p⟩ := hqx.at_ I
    obtain ⟨its2, rv2, p2⟩ := hqy.at_ I
    have l1 := rv.length
    have l2 := rv2.length
    exact wpAny_pyNext_zipD2_end (sepK D) (drawsK k1 (A := X.A.in1) (I.ok.hd hc) i1 a D.l1i1 its.toArray) (drawsK k2 (A := X.A.in1) (I.ok.hd hc) i2 b D.l2i2 its2.toArray) hz hTI hTO ⟨h1, p⟩ ⟨h2, p2⟩ (by simp; omega) (by simp; omega) (by simp; omega) fun h' tk hk => ⟨rfl, I.turnedL (t' := tk) (ch := [z, TI, TO, i1, i2]) (fun c o hb q =>
      hk c o (fun q' => hb (by simp [q'])) (fun q' => hb (by simp [q'])) (fun q' => hb (by simp [q'])) (fun q' => hb (by simp [q'])) q) hf⟩
  self := fun A i s Q E st h => wpAny_pyIter_zip st.1 h
/-! ### zip(list, tuple) made -/
abbrev itO (k : Bool) (l : Addr) : Obj := { cls := .type (match k with | true => "tuple_iterator" | false => "list_iterator"), data := .fields #[.ref l, .int 0 0] }
abbrev zK1 (k1 : Bool) (h : Heap) (l1 : Addr) : Heap := h.push (itO k1 l1)
abbrev zK2 (k1 k2 : Bool) (h : Heap) (l1 l2 : Addr) : Heap := (zK1 k1 h l1).push (itO k2 l2)
abbrev zK3 (k1 k2 : Bool) (h : Heap) (l1 l2 : Addr) : Heap := (zK2 k1 k2 h l1 l2).push { cls := .type "tuple", data := .seq #[.ref h.objs.size, .ref (zK1 k1 h l1).objs.size] }
abbrev zK4 (k1 k2 : Bool) (h : Heap) (l1 l2 : Addr) : Heap := (zK3 k1 k2 h l1 l2).push { cls := .type "tuple", data := .seq #[.none, .none] }
abbrev zK5 (k1 k2 : Bool) (h : Heap) (l1 l2 : Addr) : Heap := (zK4 k1 k2 h l1 l2).push { cls := .type "zip", data := .fields #[.none, .bool false, .bool false, .ref (zK2 k1 k2 h l1 l2).objs.size, .ref (zK3 k1 k2 h l1 l2).objs.size] }
theorem meets_zipLT (l1 l2 : Addr) (xs ys : Array Value) :
    Meets (Builtin.«zip.__new__» ⟨[.type "zip", .ref l1, .ref l2], []⟩) (fun _ R s => s.heap.IsList l1 xs ∧ s.heap.IsTuple l2 ys ∧
      R (.ok (.ret (.ref (zK4 false true s.heap l1 l2).objs.size))) { s with heap := zK5 false true s.heap l1 l2 }) :=
  .of_wp fun prog w A R s h => by
    obtain ⟨hp, g, d, tk, os⟩ := s; obtain ⟨hl1, hl2, h⟩ := h
    have hsub := sub_zip
    have hL1 : Heap.IsList (Shared.heap ⟨hp, g, d, tk, os⟩) l1 xs := hl1
    have hL2 : Heap.IsTuple (Shared.heap ⟨hp.push { cls := .type "list_iterator", data := .fields #[.ref l1, .int 0 0] }, g, d, tk, os⟩) l2 ys := Heap.IsTuple.push hl2 _
    wp_walk using wpAny_pyIter_list hL1, wpAny_pyIter_tuple hL2
    exact ⟨_, rfl, h⟩
theorem meets_zipTL (l1 l2 : Addr) (xs ys : Array Value) :
    Meets (Builtin.«zip.__new__» ⟨[.type "zip", .ref l1, .ref l2], []⟩) (fun _ R s => s.heap.IsTuple l1 xs ∧ s.heap.IsList l2 ys ∧
      R (.ok (.ret (.ref (zK4 true false s.heap l1 l2).objs.size))) { s with heap := zK5 true false s.heap l1 l2 }) :=
  .of_wp fun prog w A R s h => by
    obtain ⟨hp, g, d, tk, os⟩ := s; obtain ⟨hl1, hl2, h⟩ := h
    have hsub := sub_zip
    have hL1 : Heap.IsTuple (Shared.heap ⟨hp, g, d, tk, os⟩) l1 xs := hl1
    have hL2 : Heap.IsList (Shared.heap ⟨hp.push { cls := .type "tuple_iterator", data := .fields #[.ref l1, .int 0 0] }, g, d, tk, os⟩) l2 ys := Heap.IsList.push hl2 _
    wp_walk using wpAny_pyIter_tuple hL1, wpAny_pyIter_list hL2
    exact ⟨_, rfl, h⟩

theorem meets_zipK (k1 k2 : Bool) (l1 l2 : Addr) (xs ys : Array Value) :
    Meets (Builtin.«zip.__new__» ⟨[.type "zip", .ref l1, .ref l2], []⟩) (fun _ R s => hSeq k1 s.heap l1 xs ∧ hSeq k2 s.heap l2 ys ∧
      R (.ok (.ret (.ref (zK4 k1 k2 s.heap l1 l2).objs.size))) { s with heap := zK5 k1 k2 s.heap l1 l2 }) := by
  cases k1 with
  | true =>
    cases k2 with
    | true => exact RZ.meets_zipT_new l1 l2 xs ys
    | false => exact meets_zipTL l1 l2 xs ys
  | false =>
    cases k2 with
    | true => exact meets_zipLT l1 l2 xs ys
    | false =>
      refine .of_wp fun prog w A R s h => ?_
      obtain ⟨hp, g, d, tk, os⟩ := s; obtain ⟨hl1, hl2, h⟩ := h
      have hsub := sub_zip
      have hL1 : Heap.IsList (Shared.heap ⟨hp, g, d, tk, os⟩) l1 xs := hl1
      have hL2 : Heap.IsList (Shared.heap ⟨hp.push { cls := .type "list_iterator", data := .fields #[.ref l1, .int 0 0] }, g, d, tk, os⟩) l2 ys := Heap.IsList.push hl2 _
      wp_walk using wpAny_pyIter_list hL1, wpAny_pyIter_list hL2
      exact ⟨_, rfl, h⟩
section
variable {prog : Program} {w : World} {A : Around} {E : Value → Shared → Prop} {s : Shared}
theorem call_zipK (k1 k2 : Bool) {l1 l2 : Addr} {xs ys : Array Value} {Q : Value → Shared → Prop} (hl1 : hSeq k1 s.heap l1 xs) (hl2 : hSeq k2 s.heap l2 ys)
    (h : ∀ h', IsZip h' (s.heap.objs.size + 4) (s.heap.objs.size + 2) (s.heap.objs.size + 3) .none → IsPair h' (s.heap.objs.size + 2) (.ref s.heap.objs.size) (.ref (s.heap.objs.size + 1)) →
      IsPair h' (s.heap.objs.size + 3) .none .none → hIter k1 h' s.heap.objs.size l1 0 → hIter k2 h' (s.heap.objs.size + 1) l2 0 →
      (∀ c o, s.heap.get? c = some o → h'.get? c = some o) → Q (.ref (s.heap.objs.size + 4)) { s with heap := h' }) :
    wpAny (model prog w) A (call (.type "zip") [.ref l1, .ref l2]) Q E s := by
  refine callType_new F.called_zip (by decide) (F.typeCall_zip_2 _ _) (F.newCall_zip_2 _ _) (fun obj => F.args_object_init_3 obj _ _) F.entry_zip_new
    (meets_zipK k1 k2 l1 l2 xs ys) ⟨hl1, hl2, ?_⟩
  have z1 : (zK1 k1 s.heap l1).objs.size = s.heap.objs.size + 1 := Heap.size_push ..
  have z2 : (zK2 k1 k2 s.heap l1 l2).objs.size = s.heap.objs.size + 2 := by rw [Heap.size_push, z1]
  have z3 : (zK3 k1 k2 s.heap l1 l2).objs.size = s.heap.objs.size + 3 := by rw [Heap.size_push, z2]
  have z4 : (zK4 k1 k2 s.heap l1 l2).objs.size = s.heap.objs.size + 4 := by rw [Heap.size_push, z3]
  have g5 : (zK5 k1 k2 s.heap l1 l2).get? (zK4 k1 k2 s.heap l1 l2).objs.size = some _ := Heap.get?_push_size _ rfl
  have g4 : (zK5 k1 k2 s.heap l1 l2).get? (zK3 k1 k2 s.heap l1 l2).objs.size = some _ := Heap.get?_push_of_some _ (Heap.get?_push_size _ rfl)
  have g3 : (zK5 k1 k2 s.heap l1 l2).get? (zK2 k1 k2 s.heap l1 l2).objs.size = some _ := Heap.get?_push_of_some _ (Heap.get?_push_of_some _ (Heap.get?_push_size _ rfl))
  have g2 : (zK5 k1 k2 s.heap l1 l2).get? (zK1 k1 s.heap l1).objs.size = some (itO k2 l2) := Heap.get?_push_of_some _ (Heap.get?_push_of_some _ (Heap.get?_push_of_some _ (Heap.get?_push_size _ rfl)))
  have g1 : (zK5 k1 k2 s.heap l1 l2).get? s.heap.objs.size = some (itO k1 l1) := Heap.get?_push_of_some _ (Heap.get?_push_of_some _ (Heap.get?_push_of_some _ (Heap.get?_push_of_some _ (Heap.get?_push_size _ rfl))))
  show _ ∧ _
  rw [z2, z3, z4] at g5
  rw [z1, z2] at g3
  rw [z3] at g4
  rw [z1] at g2
  rw [z4]
  refine ⟨⟨_, g5, rfl⟩, h _ g5 g3 g4 ?_ ?_ fun c o x =>
    Heap.get?_push_of_some _ (Heap.get?_push_of_some _ (Heap.get?_push_of_some _ (Heap.get?_push_of_some _ (Heap.get?_push_of_some _ x))))⟩
  · cases k1 with
    | true => exact ⟨_, g1, rfl, rfl⟩
    | false => exact ⟨_, g1, rfl, rfl⟩
  · cases k2 with
    | true => exact ⟨_, g2, rfl, rfl⟩
    | false => exact ⟨_, g2, rfl, rfl⟩
end
theorem hSeq.lt {k : Bool} {h : Heap} {l : Addr} {its : Array Value} (x : hSeq k h l its) : l < h.objs.size := by
  obtain ⟨o, e⟩ := x.has
  exact Heap.lt_size e
def iZipK (K : PySem.W.Frag) (ta : TA) : TI := fun σ H R => ta σ H fun vs H1 => ∃ k1 k2 a b xs ys, vs = [.ref a, .ref b] ∧ SqK k1 K H1 a xs ∧ SqK k2 K H1 b ys ∧ R (ItzK k1 k2 K a b) H1
theorem pi_zipK {X : Cx} {e e2 : Expr} {ta : TA} {p pos tpos : Pos} {elts : List Expr} {kk : Nat} (hg : Gl X "zip") (hm : X.mg "zip" = none) (ha : PA X [e, e2] ta)
    (hs : starEach [e, e2] X.env = (false, eval e X.env) :: starEach [e2] X.env := by rfl) (hpl : (backTo pos (starEach [e2] X.env)).any (·.1) = false := by rfl) :
    PI X (.Tuple elts kk tpos) (.Call (.Name "zip" p) [e, e2] [] pos) (iZipK X.K ta) := by
  refine ⟨fun pins s σ H R I h => ?_⟩
  refine Call_ (ld_blt I hg hm PyProof.Rows.boot_zip (PyProof.Rows.callWith_type1 (thn (ha.run pos pins s σ H _ I h) fun us s1 ⟨vs, H1, I1, r1, q1⟩ => ?_) hs hpl))
  obtain ⟨k1, k2, a, b, xs, ys, ex, hqx, hqy, q⟩ := q1
  subst ex
  cases r1 with
  | cons r rr =>
    cases rr with
    | cons r' rr =>
      cases rr
      cases r
      cases r'
      have fresh5 : ∀ c, c ∈ [s1.heap.objs.size + 4, s1.heap.objs.size + 2, s1.heap.objs.size + 3, s1.heap.objs.size, s1.heap.objs.size + 1] → FpOk X pins H1 c := fun c hcm => by
        have e' : c = s1.heap.objs.size + 4 ∨ c = s1.heap.objs.size + 2 ∨ c = s1.heap.objs.size + 3 ∨ c = s1.heap.objs.size ∨ c = s1.heap.objs.size + 1 := by simpa using hcm
        have hle : s1.heap.objs.size ≤ c := by omega
        exact I1.fpOk hle (I1.hok.fresh hle)
      obtain ⟨its, rv, p1⟩ := hqx.at_ I1
      obtain ⟨its2, rv2, p2⟩ := hqy.at_ I1
      refine call_zipK k1 k2 p1 p2 fun h' hz hTI hTO h1 h2 hk => wpAny_pyIter_zip hz ?_
      have I2 : Inv X pins σ H1 { s1 with heap := h' } := I1.kept (t' := s1.toks) hk
      exact ⟨s1.heap.objs.size + 4, [s1.heap.objs.size + 4, s1.heap.objs.size + 2, s1.heap.objs.size + 3, s1.heap.objs.size, s1.heap.objs.size + 1], _, _, H1, rfl, I2, turn_zipK k1 k2 (PySem.W.ktu_apart s1.heap.objs.size a b p1.lt p2.lt), ⟨hz, hTI, ⟨_, _, hTO⟩, h1, h2⟩, fresh5, q⟩
theorem pairs_len (l m : List D) : (pairs l m).length = min l.length m.length := by unfold pairs; rw [List.length_zipWith]
theorem pairs_get {l m : List D} {i : Nat} {x y : D} (h1 : l[i]? = some x) (h2 : m[i]? = some y) : (pairs l m)[i]? = some (.tup [x, y]) := by
  unfold pairs
  rw [List.getElem?_zipWith, h1, h2]
theorem walks_zipK {k1 k2 : Bool} {K : PySem.W.Frag} {a b : Addr} {l m : List D} {ok ok2 : Mem → Prop} {H1 : Hp} {F1 : Addr → Prop} {μ1 : Mem}
    (hL : ∀ H F μ, Grow H1 F1 μ1 H F μ → MS K H F μ → ok μ → ∃ vs, SqK k1 K H a vs ∧ RDs K H F vs l) (hM : ∀ H F μ, Grow H1 F1 μ1 H F μ → MS K H F μ → ok2 μ → ∃ vs, SqK k2 K H b vs ∧ RDs K H F vs m) : Walks K (ItzK k1 k2 K a b) (pairs l m) (fun μ => ok μ ∧ ok2 μ) H1 F1 μ1 where
  go := fun i H F μ hi g ms o => by
    obtain ⟨vs, h, r⟩ := hL H F μ g ms o.1
    obtain ⟨ws, h2, r2⟩ := hM H F μ g ms o.2
    rw [pairs_len] at hi
    have hv : i < vs.length := by rw [r.length]; omega
    have hw : i < ws.length := by rw [r2.length]; omega
    exact ⟨vs, ws, vs[i], ws[i], h, h2, List.getElem?_eq_getElem hv, List.getElem?_eq_getElem hw⟩
  stop := fun H F μ g ms o => by
    obtain ⟨vs, h, r⟩ := hL H F μ g ms o.1
    obtain ⟨ws, h2, r2⟩ := hM H F μ g ms o.2
    exact ⟨vs, ws, h, h2, by rw [pairs_len, r.length, r2.length]⟩
  yld := fun i H F μ x H' hi g ms o y => by
    obtain ⟨vs, h, r⟩ := hL H F μ g ms o.1
    obtain ⟨ws, h2, r2⟩ := hM H F μ g ms o.2
    obtain ⟨T, v, w, rfl, hT, rfl, hv, hw⟩ := y
    obtain ⟨d, d1, d2⟩ := r.get' (hv vs h)
    obtain ⟨e, e1, e2⟩ := r2.get' (hw ws h2)
    obtain ⟨g2, m2, r3⟩ := new_tup ms hT (.cons d2 (.cons e2 .nil))
    exact ⟨_, pairs_get d1 e1, g2, m2, r3⟩
section
variable {G : Gc} {X : Cx} {EX : EK} {N : List Str} {sc : Scope} {ρ : Rho} {μ : Mem}
/-- a sequence that stands still, at the heap's level -/
theorem still_rd {H1 : Hp} {F1 : Addr → Prop} {μ1 : Mem} {v : V} {x : D} {g : List D → (Mem → Prop) → Prop} (m1 : MS X.K H1 F1 μ1) (r : RD X.K H1 F1 v x) (h : stillIt x μ1 g) :
    ∃ k a l ok, v = .ref a ∧ (∃ vs, SqK k X.K H1 a vs) ∧ g l ok ∧ ∀ H F μ, Grow H1 F1 μ1 H F μ → MS X.K H F μ → ok μ → ∃ vs, SqK k X.K H a vs ∧ RDs X.K H F vs l := by
  unfold stillIt at h
  cases r with
  | tup t rs => exact ⟨true, _, _, _, rfl, ⟨_, t⟩, h, fun H F μ g m o => ⟨_, (g.stay m1).tup _ _ t, rs.stay (g.stay m1)⟩⟩
  | tpz f t _ _ rs => exact ⟨true, _, _, _, rfl, ⟨_, .inl (.inr ⟨_, t⟩)⟩, h, fun H F μ g m o => ⟨_, (g.stay m1).tup _ _ (.inl (.inr ⟨_, t⟩)), rs.stay (g.stay m1)⟩⟩
  | lst f hd rs => exact ⟨false, _, _, _, rfl, ⟨_, .inl (.inl hd)⟩, h, fun H F μ g m o => ⟨_, sql_keep m1 g f hd, rs.stay (g.stay m1)⟩⟩
  | lk hk rs =>
    have hq : ∀ H F μ, Grow H1 F1 μ1 H F μ → SqL X.K H _ _ := fun H F μ g => hk.elim (fun ⟨o, z⟩ => .inl (.inr ⟨o, (g.stay m1).lk _ _ _ z⟩)) .inr
    exact ⟨false, _, _, _, rfl, ⟨_, hq _ _ _ .refl⟩, h, fun H F μ g m o => ⟨_, hq H F μ g, rs.stay (g.stay m1)⟩⟩
  | ref a =>
    obtain ⟨l, e2, q⟩ := optD_ok (show optD (seqL μ1 (.ref a)) _ from h)
    obtain ⟨_, u, hu, vs, eu, rs⟩ := m1.at_ a _ (seqL_ref e2)
    subst eu
    refine ⟨false, _, _, _, rfl, ⟨_, .inl (.inl hu)⟩, q, fun H F μ g m o => ?_⟩
    obtain ⟨_, u, hu, vs, eu, rs⟩ := m.at_ a _ (seqL_ref o)
    subst eu
    exact ⟨vs, .inl (.inl hu), rs⟩
  | _ => exact False.elim h
theorem DI.zip (sx : SX G X N sc) {elts : List Expr} {kk : Nat} {tpos : Pos} {a b : Expr} {p pos : Pos} {R : IK} (hg : gloB sc "zip" = true) (hs : noStar a = true) (hs2 : noStar b = true) (h : DE X EX a ρ μ fun x μ1 => DE X EX b ρ μ1 fun y μ2 => zipIt x y μ2 R) :
    DI X EX (.Tuple elts kk tpos) (.Call (.Name "zip" p) [a, b] [] pos) ρ μ R := fun σ H F en m => by
  refine wi_of (pi_zipK (sx.glo hg) (sx.blt _ (by decide +kernel)) (pa_cons pe_we (pa_cons pe_we pa_nil (star_cons hs2)) (star_cons hs)) (star_cons hs) (by rw [star_cons hs2]; rfl)) ?_
  refine (h σ H F en m).mono fun v H1 ⟨x, F1, μ1, g1, m1, r1, q1⟩ => ?_
  refine (q1 σ H1 F1 (en.on g1 m) m1).mono fun u H2 ⟨y, F2, μ2, g2, m2, r2, q2⟩ => ?_
  obtain ⟨k1, a, l, ok, e1, ⟨vs, s1⟩, q3, w1⟩ := still_rd m2 (r1.stay (g2.stay m1)) q2
  obtain ⟨k2, b, l2, ok2, e2, ⟨ws, s2⟩, q4, w2⟩ := still_rd m2 r2 q3
  subst e1 e2
  exact ⟨k1, k2, a, b, vs, ws, rfl, s1, s2, _, _, F2, μ2, g1.trans g2, m2, walks_zipK w1 w2, q4⟩
end
end DL
/-! Exceptions: raise, try, except suites. -/
namespace DL
open PySem PySem.Spec PyProof.Rows L2
theorem b2' {a b : Bool} (h : (a && b) = true) : a = true ∧ b = true := Bool.and_eq_true_iff.mp h
def isBO' : Expr → Bool
  | .BoolOp _ _ _ => true
  | _ => false
/-! ### within a suite -/
def eName (N : List Str) (io : Option Nat) (sc : Scope) (n : Str) : Bool := (match io with
  | some i => decide (N[i]? = some n)
  | none => false) && (visB sc n && nmB n)
mutual
def chkHX (N : List Str) (io : Option Nat) (sc : Scope) : HX → Expr → Bool
  | .non, x => (match x with
    | .Constant .none _ _ => true
    | _ => false)
  | .bl b, x => (match x with
    | .Constant (.bool c) _ _ => decide (c = b)
    | _ => false)
  | .str s, x => (match x with
    | .Constant (.str t) _ _ => decide (t = s)
    | _ => false)
  | .at f, x => (match x with
    | .Attribute (.Name n _) g _ => decide (g = f) && (eName N io sc n)
    | _ => false)
  | .tup es, x => (match x with
    | .Tuple xs _ _ => decide (xs.length ≤ 100) && chkHXs N io sc es xs
    | _ => false)
  | .ite t a b, x => (match x with
    | .IfExp c l r _ => chkHT N io sc t c && (chkHX N io sc a l && chkHX N io sc b r)
    | _ => false)
def chkHXs (N : List Str) (io : Option Nat) (sc : Scope) : HXs → List Expr → Bool
  | .nil, xs => (match xs with
    | [] => true
    | _ => false)
  | .cons e es, xs => (match xs with
    | x :: r => noStar x && (chkHX N io sc e x && chkHXs N io sc es r)
    | [] => false)
def chkHT (N : List Str) (io : Option Nat) (sc : Scope) : HT → Expr → Bool
  | .isi c, x => (match x with
    | .Call (.Name g _) [.Name n _, .Name ty _] [] _ => decide (g = "isinstance") && (decide (ty = c) && (gloB sc "isinstance" && (gloB sc c && (nmB c && eName N io sc n))))
    | _ => false)
  | .not a, x => (match x with
    | .UnaryOp .Not l _ => chkHT N io sc a l
    | _ => false)
  | .and a b, x => (match x with
    | .BoolOp .And (l :: r :: rest) p => chkHT N io sc a l && (match rest with
      | [] => chkHT N io sc b r
      | t :: ts => chkHT N io sc b (.BoolOp .And (r :: t :: ts) p))
    | _ => false)
  | .or a b, x => (match x with
    | .BoolOp .Or (l :: r :: rest) p => chkHT N io sc a l && (match rest with
      | [] => chkHT N io sc b r
      | t :: ts => chkHT N io sc b (.BoolOp .Or (r :: t :: ts) p))
    | _ => false)
end
mutual
def chkH (N : List Str) (io : Option Nat) (sc : Scope) : HS → Stmt → Bool
  | .ret e, s => (match s with
    | .Return (some x) _ => chkHX N io sc e x
    | _ => false)
  | .retN, s => (match s with
    | .Return none _ => true
    | _ => false)
  | .set j e, s => (match s with
    | .Assign [.Name y _] x _ => decide (N[j]? = some y) && (locB sc y && (decide (io ≠ some j) && (!isLC x && chkHX N io sc e x)))
    | _ => false)
  | .ite t a b, s => (match s with
    | .If c l r _ => chkHT N io sc t c && (chkHs N io sc a l && chkHs N io sc b r)
    | _ => false)
def chkHs (N : List Str) (io : Option Nat) (sc : Scope) : HSs → List Stmt → Bool
  | .nil, ss => (match ss with
    | [] => true
    | _ => false)
  | .cons s ss, xs => (match xs with
    | x :: r => chkH N io sc s x && chkHs N io sc ss r
    | [] => false)
end
theorem att_get {K : PySem.W.Frag} {H : Hp} {F : Addr → Prop} : ∀ {fs : List (Str × V)} {ds : List (Str × D)} {f : Str} {d : D}, fs.map (·.1) = ds.map (·.1) → RDs K H F (fs.map (·.2)) (ds.map (·.2)) → ds.lookup f = some d → ∃ v, fs.lookup f = some v ∧ RD K H F v d
  | [], [], _, _, _, _, h => nomatch h
  | (g, v) :: fs, (g', d') :: ds, f, d, e, r, h => by
    simp only [List.map_cons, List.cons.injEq] at e
    obtain ⟨e1, e2⟩ := e
    subst e1
    rw [List.map_cons, List.map_cons] at r
    cases r with
    | cons r1 r2 =>
      rw [List.lookup_cons] at h ⊢
      split at h
      · rename_i hf
        cases h
        exact ⟨v, rfl, r1⟩
      · rename_i hf
        exact att_get e2 r2 h
  | [], _ :: _, _, _, e, _, _ => nomatch e
  | _ :: _, [], _, _, e, _, _ => nomatch e
section
variable {G : Gc} {X : Cx} {N : List Str} {sc : Scope} {a : Addr} {oe : Obj} {cls : Value} {d : Option Addr} {pn : List (Addr × Obj)} {c : Str} {io : Option Nat} {fs : List (Str × D)}
/-- isinstance of what the suite holds -/
def rIsX (K : PySem.W.Frag) (D a : Addr) (d : Option Addr) : List V → Hp → VK → Prop := fun xs H Q => ∃ (c : V) (cv : Value) (b : Bool), xs = [.ref a, c] ∧ (∀ u, RelV c u → u = cv) ∧ PySem.W.kitOne K (.ref D) cv = some b ∧ (d = none ∨ ∃ p fs, d = some p ∧ H p = some (.xd fs)) ∧ Q (.bl b) H
theorem call_isX {D : Addr} (C : ExcC X.K D) (hz : Zc (.ref D) d oe) (hf : ∃ vs, oe.data = .fields vs) : CallR (X.suite a ((a, oe) :: pn)) (.builtin "isinstance") (rIsX X.K D a d) := by
  intro pins s σ H xs us Q I r h
  obtain ⟨c, cv, b, rfl, hcv, e, hd, q⟩ := h
  cases r with
  | cons rx rr =>
    cases rr with
    | cons rt rr =>
      cases rr
      cases rx
      have ec := hcv _ rt
      subst ec
      obtain ⟨hget, _⟩ := I.pin (a, oe) (List.mem_append.mpr (.inl List.mem_cons_self))
      obtain ⟨vs, hv⟩ := hf
      have J : ∃ od, PySem.W.InstAt s.heap a oe D od := by
        obtain ⟨oc, od, oda, osl⟩ := oe
        obtain ⟨h1, h2⟩ := hz
        dsimp only at h1 h2 hv
        subst h1 h2 hv
        rcases hd with rfl | ⟨p, fs, rfl, hp⟩
        · exact ⟨none, hget, rfl, rfl, trivial⟩
        · obtain ⟨mA, hns, _⟩ := (show ObjOk X.prog X.w H s.heap p (.xd fs) from I.hok p _ hp)
          obtain ⟨od, ho, _⟩ := lookIn_ns hns
          exact ⟨some od, hget, rfl, rfl, ho⟩
      obtain ⟨od, J⟩ := J
      exact PySem.W.kia_one (kitx_excX C) I.kIn J e (fun z => nomatch z) fun tk => ⟨.bl b, H, I.kept (t' := tk) fun _ _ z => z, rfl, q⟩
/-- what holds in a suite -/
structure Su (K : PySem.W.Frag) (io : Option Nat) (a : Addr) (d : Option Addr) (fs : List (Str × D)) (σ : St) (H : Hp) (F : Addr → Prop) (ρ : Rho) (μ : Mem) : Prop where
  en : REnv K H F σ ρ
  ms : MS K H F μ
  sl : ∀ i, io = some i → σ[i]? = some (some (.ref a)) ∧ ∀ x, ρ[i]? ≠ some (some x)
  at_ : Att K H F d fs
theorem Att.on {K H F H' F' μ μ'} (h : Att K H F d fs) (g : Grow H F μ H' F' μ') (m : MS K H F μ) : Att K H' F' d fs := by
  rcases h with h | ⟨p, gs, h1, h2, h3, h4⟩
  · exact .inl h
  · refine .inr ⟨p, gs, h1, g.keep p _ h2 ?_, h3, h4.stay (g.stay m)⟩
    cases e : μ p with
    | none => rfl
    | some o =>
      obtain ⟨_, u, hu, r⟩ := m.at_ p o e
      rw [h2] at hu
      cases hu
      cases o with
      | lst l => obtain ⟨_, q, _⟩ := r; cases q
      | pot l => obtain ⟨_, _, _, q, _⟩ := r; cases q
      | obj c fs => obtain ⟨_, _, _, _, q, _⟩ := r; cases q
      | dct t l => cases t <;> (obtain ⟨_, q, _⟩ := r; cases q)
      | tab q => obtain ⟨_, q, _⟩ := r; cases q
theorem Su.on {K H F H' F' μ σ ρ} (s : Su K io a d fs σ H F ρ μ) (g : Grow H F μ H' F' μ) (m : MS K H' F' μ) : Su K io a d fs σ H' F' ρ μ := ⟨s.en.stay (g.stay s.ms), m, s.sl, s.at_.on g s.ms⟩
def PH (K : PySem.W.Frag) (H : Hp) (F : Addr → Prop) (μ : Mem) (x : D) : VK := fun v H' => ∃ F', Grow H F μ H' F' μ ∧ MS K H' F' μ ∧ RD K H' F' v x
def PHs (K : PySem.W.Frag) (H : Hp) (F : Addr → Prop) (μ : Mem) (xs : List D) : List V → Hp → Prop := fun vs H' => ∃ F', Grow H F μ H' F' μ ∧ MS K H' F' μ ∧ RDs K H' F' vs xs
theorem hXs_len : ∀ {es : HXs} {xs : List Expr} {cau : Cau} {ds : List D}, chkHXs N io sc es xs = true → hXs cau es = some ds → ds.length = xs.length
  | .nil, [], _, ds, _, h => by
    have h : some [] = some ds := h
    cases h
    rfl
  | .nil, _ :: _, _, _, h, _ => nomatch h
  | .cons _ _, [], _, _, h, _ => nomatch h
  | .cons e es, x :: xs, cau, ds, h, q => by
    obtain ⟨_, h⟩ := b2' h
    obtain ⟨_, h⟩ := b2' h
    unfold hXs at q
    split at q
    · cases e2 : hXs cau es with
      | none => rw [e2] at q; cases q
      | some l =>
        rw [e2] at q
        cases q
        rw [List.length_cons, List.length_cons, hXs_len h e2]
    · cases q

variable (sx : SX G X N sc) (hm : X.mg c = some cls) (hz : Zc cls d oe) (hf : ∃ vs, oe.data = .fields vs)
include sx hm hz hf
theorem eName_pe {n : Str} {p : Pos} (h : eName N io sc n = true) : ∃ i, io = some i ∧ PE (X.suite a ((a, oe) :: pn)) (.Name n p) (tVar i) := by
  obtain ⟨h1, h2⟩ := b2' h
  obtain ⟨h2, h3⟩ := b2' h2
  cases io with
  | none => cases h1
  | some i =>
    obtain ⟨n1, n2, _⟩ := nm3 h3
    exact ⟨i, rfl, pe_var (by show X.N[i]? = some n; rw [sx.hN]; exact of_decide_eq_true h1) (sx.vis h2) n1 n2⟩
theorem isi_we {g n ty : Str} {p p2 p3 pos : Pos} {b : Bool} {σ H F ρ μ} (h1 : gloB sc "isinstance" = true) (h2 : gloB sc ty = true) (h3 : nmB ty = true) (h4 : eName N io sc n = true) (hb : G.ex.sub c ty = some b) (su : Su X.K io a d fs σ H F ρ μ) :
    WE (X.suite a ((a, oe) :: pn)) (.Call (.Name "isinstance" p) [.Name n p2, .Name ty p3] [] pos) σ H (PH X.K H F μ (.bl b)) := by
  obtain ⟨C, cv, v, e1, e2, e3, e4, r1, r2, ec⟩ := sx.ex.sub c ty b hb
  rw [hm] at e1
  cases e1
  obtain ⟨i, ei, pn1⟩ := eName_pe (oe := oe) (a := a) (pn := pn) (p := p2) sx hm hz hf h4
  obtain ⟨n1, n2, n3⟩ := nm3 h3
  have pc : PE (X.suite a ((a, oe) :: pn)) (.Name ty p3) (tC v) := by
    rcases e2 with e2 | ⟨e2, e5, e6⟩
    · exact pe_glob (sx.glo h2) e2 r1 n1
    · exact pe_bltn (sx.glo h2) e2 e5 r1 e6 n1
  refine we_of (pe_callB (call_isX ec hz hf) (sx.glo h1) (sx.blt _ (by decide +kernel)) boot_isinstance (pa_cons pn1 (pa_cons pc pa_nil))) ?_
  refine ⟨.ref a, (su.sl i ei).1, v, cv, b, rfl, r2, e4, ?_, F, .refl, su.ms, .bl _⟩
  rcases su.at_ with ⟨h, _⟩ | ⟨p, gs, h1, h2, _⟩
  · exact .inl h
  · exact .inr ⟨p, gs, h1, h2⟩
mutual
theorem sndHX : ∀ (e : HX) (x : Expr), chkHX N io sc e x = true → ∀ dd, hX ⟨G.ex.sub c, G.ex.fld c, fs⟩ e = some dd → ∀ σ H F ρ μ, Su X.K io a d fs σ H F ρ μ → WE (X.suite a ((a, oe) :: pn)) x σ H (PH X.K H F μ dd)
  | .non, x, h, dd, q, σ, H, F, ρ, μ, su => by
    cases q
    cases x with
    | Constant k j p =>
      cases k with
      | none => exact we_of pe_non ⟨F, .refl, su.ms, .non⟩
      | _ => cases h
    | _ => cases h
  | .bl b, x, h, dd, q, σ, H, F, ρ, μ, su => by
    cases q
    cases x with
    | Constant k j p =>
      cases k with
      | bool k =>
        obtain rfl := of_decide_eq_true h
        exact we_of pe_bl ⟨F, .refl, su.ms, .bl _⟩
      | _ => cases h
    | _ => cases h
  | .str b, x, h, dd, q, σ, H, F, ρ, μ, su => by
    cases q
    cases x with
    | Constant k j p =>
      cases k with
      | str k =>
        obtain rfl := of_decide_eq_true h
        exact we_of pe_str ⟨F, .refl, su.ms, .str _⟩
      | _ => cases h
    | _ => cases h
  | .at f, x, h, dd, q, σ, H, F, ρ, μ, su => by
    have q : (if G.ex.fld c f = true then fs.lookup f else none) = some dd := q
    by_cases hff : G.ex.fld c f = true
    · rw [if_pos hff] at q
      cases x with
      | Attribute y g p =>
        cases y with
        | Name n p2 =>
          obtain ⟨h1, h2⟩ := b2' h
          obtain rfl := of_decide_eq_true h1
          obtain ⟨i, ei, pn1⟩ := eName_pe (oe := oe) (a := a) (pn := pn) (p := p2) sx hm hz hf h2
          obtain ⟨C, e1, T, hno⟩ := sx.ex.fld c g hff
          rw [hm] at e1
          cases e1
          refine we_of (pe_xf T hno hz hf pn1) ?_
          refine ⟨.ref a, (su.sl i ei).1, rfl, rfl, ?_⟩
          rcases su.at_ with ⟨_, h⟩ | ⟨p, gs, h1, h2, h3, h4⟩
          · rw [h] at q; cases q
          · obtain ⟨v, hv, rv⟩ := att_get h3 h4 q
            exact ⟨p, gs, v, h1, h2, hv, F, .refl, su.ms, rv⟩
        | _ => cases h
      | _ => cases h
    · rw [if_neg hff] at q; cases q
  | .tup es, x, h, dd, q, σ, H, F, ρ, μ, su => by
    cases x with
    | Tuple xs k p =>
      obtain ⟨h1, h2⟩ := b2' h
      have q : (hXs ⟨G.ex.sub c, G.ex.fld c, fs⟩ es).map D.tup = some dd := q
      cases e : hXs ⟨G.ex.sub c, G.ex.fld c, fs⟩ es with
      | none => rw [e] at q; cases q
      | some ds =>
        rw [e] at q
        cases q
        refine we_of (pe_tup pa_wa) ?_
        refine (sndHXs es xs h2 ds e σ H F ρ μ su).mono fun vs H1 ⟨F1, g1, m1, r1⟩ => ⟨?_, fun p hp => ?_⟩
        · rw [r1.length, hXs_len h2 e, line_eq]
          have := of_decide_eq_true h1
          omega
        · obtain ⟨g2, m2, r2⟩ := new_tup m1 hp r1
          exact ⟨F1, g1.trans g2, m2, r2⟩
    | _ => cases h
  | .ite t u v, x, h, dd, q, σ, H, F, ρ, μ, su => by
    cases x with
    | IfExp k l r p =>
      obtain ⟨h1, h2⟩ := b2' h
      obtain ⟨h2, h3⟩ := b2' h2
      refine we_of (pe_ifExp pt_wt pe_we pe_we) ?_
      unfold hX at q
      split at q
      · rename_i e
        refine (sndHT t k h1 _ e σ H F ρ μ su).mono fun w H1 ⟨ew, F1, g1, m1⟩ => ?_
        subst ew
        rw [if_pos rfl]
        exact (sndHX u l h2 _ q σ H1 F1 ρ μ (su.on g1 m1)).mono fun v H2 ⟨F2, g2, m2, r2⟩ => ⟨F2, g1.trans g2, m2, r2⟩
      · rename_i e
        refine (sndHT t k h1 _ e σ H F ρ μ su).mono fun w H1 ⟨ew, F1, g1, m1⟩ => ?_
        subst ew
        rw [if_neg Bool.false_ne_true]
        exact (sndHX v r h3 _ q σ H1 F1 ρ μ (su.on g1 m1)).mono fun v H2 ⟨F2, g2, m2, r2⟩ => ⟨F2, g1.trans g2, m2, r2⟩
      · cases q
    | _ => cases h
theorem sndHXs : ∀ (es : HXs) (xs : List Expr), chkHXs N io sc es xs = true → ∀ ds, hXs ⟨G.ex.sub c, G.ex.fld c, fs⟩ es = some ds → ∀ σ H F ρ μ, Su X.K io a d fs σ H F ρ μ → WA (X.suite a ((a, oe) :: pn)) xs σ H (PHs X.K H F μ ds)
  | .nil, xs, h, ds, q, σ, H, F, ρ, μ, su => by
    cases xs with
    | nil =>
      have q : some [] = some ds := q
      cases q
      exact wa_of pa_nil ⟨F, .refl, su.ms, .nil⟩
    | cons _ _ => cases h
  | .cons e es, xs, h, ds, q, σ, H, F, ρ, μ, su => by
    cases xs with
    | nil => cases h
    | cons x xs =>
      obtain ⟨h1, h2⟩ := b2' h
      obtain ⟨h2, h3⟩ := b2' h2
      unfold hXs at q
      split at q
      · rename_i d1 e1
        cases e2 : hXs ⟨G.ex.sub c, G.ex.fld c, fs⟩ es with
        | none => rw [e2] at q; cases q
        | some l =>
          rw [e2] at q
          cases q
          refine wa_of (pa_cons pe_we pa_wa (star_cons h1)) ?_
          refine (sndHX e x h2 _ e1 σ H F ρ μ su).mono fun v H1 ⟨F1, g1, m1, r1⟩ => ?_
          refine (sndHXs es xs h3 _ e2 σ H1 F1 ρ μ (su.on g1 m1)).mono fun vs H2 ⟨F2, g2, m2, r2⟩ => ?_
          exact ⟨F2, g1.trans g2, m2, .cons (r1.stay (g2.stay m1)) r2⟩
      · cases q
theorem sndHT : ∀ (t : HT) (x : Expr), chkHT N io sc t x = true → ∀ b, hT ⟨G.ex.sub c, G.ex.fld c, fs⟩ t = some b → ∀ σ H F ρ μ, Su X.K io a d fs σ H F ρ μ → WT (X.suite a ((a, oe) :: pn)) x σ H (fun b' H' => b' = b ∧ ∃ F', Grow H F μ H' F' μ ∧ MS X.K H' F' μ)
  | .isi ty, x, h, b, q, σ, H, F, ρ, μ, su => by
    cases x with
    | Call fn xs ks p =>
      match fn, xs, ks, h with
      | .Name g p2, [.Name n p3, .Name t2 p4], [], h =>
        obtain ⟨h1, k1⟩ := b2' h
        obtain ⟨h2, k2⟩ := b2' k1
        obtain ⟨h3, k3⟩ := b2' k2
        obtain ⟨h4, k4⟩ := b2' k3
        obtain ⟨h5, h6⟩ := b2' k4
        obtain rfl := of_decide_eq_true h1
        obtain rfl := of_decide_eq_true h2
        refine wt_of (pt_truth pe_we (plainT_ok rfl)) ?_
        refine (isi_we (fs := fs) (g := "isinstance") sx hm hz hf h3 h4 h5 h6 q su).mono fun v H1 ⟨F1, g1, m1, r1⟩ => ?_
        cases r1
        exact ⟨b, rfl, rfl, F1, g1, m1⟩
    | _ => cases h
  | .not t, x, h, b, q, σ, H, F, ρ, μ, su => by
    cases x with
    | UnaryOp op l p =>
      cases op with
      | Not =>
        have q : (hT ⟨G.ex.sub c, G.ex.fld c, fs⟩ t).map (!·) = some b := q
        cases e : hT ⟨G.ex.sub c, G.ex.fld c, fs⟩ t with
        | none => rw [e] at q; cases q
        | some v =>
          rw [e] at q
          cases q
          exact wt_of (pt_not pt_wt) ((sndHT t l h v e σ H F ρ μ su).mono fun w H1 ⟨e, q⟩ => ⟨by rw [e], q⟩)
      | _ => cases h
    | _ => cases h
  | .and t u, x, h, b, q, σ, H, F, ρ, μ, su => (sndHW (.and t u) x h b q σ H F ρ μ su (by cases x <;> first | rfl | (cases h; done))).wt
  | .or t u, x, h, b, q, σ, H, F, ρ, μ, su => (sndHW (.or t u) x h b q σ H F ρ μ su (by cases x <;> first | rfl | (cases h; done))).wt
theorem sndHW : ∀ (t : HT) (x : Expr), chkHT N io sc t x = true → ∀ b, hT ⟨G.ex.sub c, G.ex.fld c, fs⟩ t = some b → ∀ σ H F ρ μ, Su X.K io a d fs σ H F ρ μ → isBO' x = true → WW (X.suite a ((a, oe) :: pn)) x σ H (fun b' H' => b' = b ∧ ∃ F', Grow H F μ H' F' μ ∧ MS X.K H' F' μ)
  | .isi ty, x, h, b, q, σ, H, F, ρ, μ, su, hb => by
    cases x <;> first | (cases hb; done) | (cases h; done)
  | .not t, x, h, b, q, σ, H, F, ρ, μ, su, hb => by
    cases x <;> first | (cases hb; done) | (cases h; done)
  | .and t u, x, h, b, q, σ, H, F, ρ, μ, su, hb => by
    cases x with
    | BoolOp op xs p =>
      have tst : ∀ l, chkHT N io sc t l = true → ∀ (r : Expr) (rest : List Expr), (∀ b σ H F, hT ⟨G.ex.sub c, G.ex.fld c, fs⟩ u = some b → Su X.K io a d fs σ H F ρ μ → WW (X.suite a ((a, oe) :: pn)) (.BoolOp .And (r :: rest) p) σ H (fun b' H' => b' = b ∧ ∃ F', Grow H F μ H' F' μ ∧ MS X.K H' F' μ)) →
          WW (X.suite a ((a, oe) :: pn)) (.BoolOp .And (l :: r :: rest) p) σ H (fun b' H' => b' = b ∧ ∃ F', Grow H F μ H' F' μ ∧ MS X.K H' F' μ) := fun l hl r rest k => by
        refine ww_of (pw_and pt_wt pw_ww) ?_
        unfold hT at q
        split at q
        · rename_i e
          refine (sndHT t l hl _ e σ H F ρ μ su).mono fun w H1 ⟨ew, F1, g1, m1⟩ => ?_
          subst ew
          rw [if_pos rfl]
          exact (k b σ H1 F1 q (su.on g1 m1)).mono fun w H2 ⟨e2, F2, g2, m2⟩ => ⟨e2, F2, g1.trans g2, m2⟩
        · rename_i ne
          refine (sndHT t l hl _ q σ H F ρ μ su).mono fun w H1 ⟨ew, F1, g1, m1⟩ => ?_
          cases b with
          | true => exact absurd q ne
          | false =>
            subst ew
            rw [if_neg Bool.false_ne_true]
            exact ⟨rfl, F1, g1, m1⟩
      match op, xs, h with
      | .And, [l, r], h =>
        obtain ⟨h1, h2⟩ := b2' h
        exact tst l h1 r [] fun b σ H F e su => ww_of (pw_and1 pt_wt) (sndHT u r h2 b e σ H F ρ μ su)
      | .And, l :: r :: t :: ts, h =>
        obtain ⟨h1, h2⟩ := b2' h
        exact tst l h1 r (t :: ts) fun b σ H F e su => sndHW u _ h2 b e σ H F ρ μ su rfl
    | _ => cases h
  | .or t u, x, h, b, q, σ, H, F, ρ, μ, su, hb => by
    cases x with
    | BoolOp op xs p =>
      have tst : ∀ l, chkHT N io sc t l = true → ∀ (r : Expr) (rest : List Expr), (∀ b σ H F, hT ⟨G.ex.sub c, G.ex.fld c, fs⟩ u = some b → Su X.K io a d fs σ H F ρ μ → WW (X.suite a ((a, oe) :: pn)) (.BoolOp .Or (r :: rest) p) σ H (fun b' H' => b' = b ∧ ∃ F', Grow H F μ H' F' μ ∧ MS X.K H' F' μ)) →
          WW (X.suite a ((a, oe) :: pn)) (.BoolOp .Or (l :: r :: rest) p) σ H (fun b' H' => b' = b ∧ ∃ F', Grow H F μ H' F' μ ∧ MS X.K H' F' μ) := fun l hl r rest k => by
        refine ww_of (pw_or pt_wt pw_ww) ?_
        unfold hT at q
        split at q
        · rename_i e
          refine (sndHT t l hl _ e σ H F ρ μ su).mono fun w H1 ⟨ew, F1, g1, m1⟩ => ?_
          subst ew
          rw [if_neg Bool.false_ne_true]
          exact (k b σ H1 F1 q (su.on g1 m1)).mono fun w H2 ⟨e2, F2, g2, m2⟩ => ⟨e2, F2, g1.trans g2, m2⟩
        · rename_i ne
          refine (sndHT t l hl _ q σ H F ρ μ su).mono fun w H1 ⟨ew, F1, g1, m1⟩ => ?_
          cases b with
          | false => exact absurd q ne
          | true =>
            subst ew
            rw [if_pos rfl]
            exact ⟨rfl, F1, g1, m1⟩
      match op, xs, h with
      | .Or, [l, r], h =>
        obtain ⟨h1, h2⟩ := b2' h
        exact tst l h1 r [] fun b σ H F e su => ww_of (pw_or1 pt_wt) (sndHT u r h2 b e σ H F ρ μ su)
      | .Or, l :: r :: t :: ts, h =>
        obtain ⟨h1, h2⟩ := b2' h
        exact tst l h1 r (t :: ts) fun b σ H F e su => sndHW u _ h2 b e σ H F ρ μ su rfl
    | _ => cases h
end

/-- the ends of a suite -/
structure EndsH (X : Cx) (io : Option Nat) (a : Addr) (d : Option Addr) (fs : List (Str × D)) (H : Hp) (F : Addr → Prop) (μ : Mem) (K₀ : DEnds) (D : Ends) : Prop where
  nx : ∀ ρ' σ' H' F', Grow H F μ H' F' μ → Su X.K io a d fs σ' H' F' ρ' μ → K₀.nx ρ' μ → D.nx σ' H'
  rt : ∀ v x H' F', Grow H F μ H' F' μ → MS X.K H' F' μ → RD X.K H' F' v x → K₀.rt x μ → D.rt v H'
omit sx hm hz hf in
theorem EndsH.on {H F H1 F1 μ} {K₀ : DEnds} {D : Ends} (e : EndsH X io a d fs H F μ K₀ D) (g : Grow H F μ H1 F1 μ) : EndsH X io a d fs H1 F1 μ K₀ D :=
  ⟨fun ρ' σ' H' F' g2 => e.nx ρ' σ' H' F' (g.trans g2), fun v x H' F' g2 => e.rt v x H' F' (g.trans g2)⟩
variable (hfn : ∀ x, X.fn x = true)
include hfn
mutual
theorem sndHS : ∀ (s : HS) (st : Stmt), chkH N io sc s st = true → ∀ σ H F ρ μ (K₀ : DEnds) (D : Ends), wpH ⟨G.ex.sub c, G.ex.fld c, fs⟩ s ρ μ K₀ → Su X.K io a d fs σ H F ρ μ → EndsH X io a d fs H F μ K₀ D → WS (X.suite a ((a, oe) :: pn)) st D σ H
  | .ret e, st, h, σ, H, F, ρ, μ, K₀, D, w, su, en => by
    cases st with
    | Return x p =>
      cases x with
      | some x =>
        obtain ⟨dd, e1, q⟩ := optD_ok w
        refine ws_of (ps_ret pe_we) ?_
        exact (sndHX sx hm hz hf e x h dd e1 σ H F ρ μ su).mono fun v H1 ⟨F1, g1, m1, r1⟩ => en.rt _ _ _ _ g1 m1 r1 q
      | none => cases h
    | _ => cases h
  | .retN, st, h, σ, H, F, ρ, μ, K₀, D, w, su, en => by
    cases st with
    | Return x p =>
      cases x with
      | none => exact ws_of ps_retN (en.rt _ _ _ _ .refl su.ms .non w)
      | some _ => cases h
    | _ => cases h
  | .set j e, st, h, σ, H, F, ρ, μ, K₀, D, w, su, en => by
    cases st with
    | Assign ts x p =>
      match ts, h with
      | [.Name y p2], h =>
        obtain ⟨h1, k1⟩ := b2' h
        obtain ⟨h2, k2⟩ := b2' k1
        obtain ⟨h3, k3⟩ := b2' k2
        obtain ⟨h4, h5⟩ := b2' k3
        obtain ⟨dd, e1, q⟩ := optD_ok w
        have h4 : isLC x = false := by simpa using h4
        refine ws_of (ps_set (i := j) (by show X.N.Nodup; rw [sx.hN]; exact sx.nd) (by show X.N[j]? = some y; rw [sx.hN]; exact of_decide_eq_true h1) (sx.loc h2) pe_we (swap_no h4) (.inl (hfn y))) ?_
        refine (sndHX sx hm hz hf e x h5 dd e1 σ H F ρ μ su).mono fun v H1 ⟨F1, g1, m1, r1⟩ => ?_
        have su1 := su.on g1 m1
        refine en.nx _ _ _ F1 g1 ⟨su1.en.set j r1, m1, fun i ei => ?_, su1.at_⟩ q
        have hj : j ≠ i := fun z => of_decide_eq_true h3 (by rw [ei, z])
        obtain ⟨s1, s2⟩ := su1.sl i ei
        exact ⟨by rw [List.getElem?_set_ne hj]; exact s1, fun x => by rw [List.getElem?_set_ne hj]; exact s2 x⟩
    | _ => cases h
  | .ite t u v, st, h, σ, H, F, ρ, μ, K₀, D, w, su, en => by
    cases st with
    | If k l r p =>
      obtain ⟨h1, k1⟩ := b2' h
      obtain ⟨h2, h3⟩ := b2' k1
      obtain ⟨b, e1, q⟩ := optD_ok w
      refine ws_of (ps_if pt_wt pss_wss pss_wss) ?_
      refine (sndHT sx hm hz hf t k h1 b e1 σ H F ρ μ su).mono fun w H1 ⟨ew, F1, g1, m1⟩ => ?_
      subst ew
      cases w with
      | true =>
        rw [if_pos rfl] at q ⊢
        exact sndHSs u l h2 σ H1 F1 ρ μ K₀ D q (su.on g1 m1) (en.on g1)
      | false =>
        rw [if_neg Bool.false_ne_true] at q ⊢
        exact sndHSs v r h3 σ H1 F1 ρ μ K₀ D q (su.on g1 m1) (en.on g1)
    | _ => cases h
theorem sndHSs : ∀ (s : HSs) (st : List Stmt), chkHs N io sc s st = true → ∀ σ H F ρ μ (K₀ : DEnds) (D : Ends), wpHs ⟨G.ex.sub c, G.ex.fld c, fs⟩ s ρ μ K₀ → Su X.K io a d fs σ H F ρ μ → EndsH X io a d fs H F μ K₀ D → WSs (X.suite a ((a, oe) :: pn)) st D σ H
  | .nil, st, h, σ, H, F, ρ, μ, K₀, D, w, su, en => by
    cases st with
    | nil => exact wss_of pss_nil (en.nx _ _ _ _ .refl su w)
    | cons _ _ => cases h
  | .cons s ss, st, h, σ, H, F, ρ, μ, K₀, D, w, su, en => by
    cases st with
    | nil => cases h
    | cons st rest =>
      obtain ⟨h1, h2⟩ := b2' h
      refine wss_of (pss_cons ps_ws pss_wss) ?_
      refine sndHS s st h1 σ H F ρ μ { K₀ with nx := fun ρ' μ' => wpHs ⟨G.ex.sub c, G.ex.fld c, fs⟩ ss ρ' μ' K₀ } { D with nx := WSs (X.suite a ((a, oe) :: pn)) rest D } w su ⟨fun ρ' σ' H' F' g su' q => ?_, fun v x H' F' g m r q => en.rt v x H' F' g m r q⟩
      exact sndHSs ss rest h2 σ' H' F' ρ' μ K₀ D q su' (en.on g)
end
end
section
variable {G : Gc} {X : Cx} {EX : EK} {N : List Str} {sc : Scope} {ρ : Rho} {μ : Mem} {K₀ : DEnds}
theorem DS.raise (sx : SX G X N sc) {c s : Str} {j : Nat} {p p2 p3 pos : Pos} (hg : gloB sc c = true) (hn : nmB c = true) (hc : G.ex.exs c = true) (q : EX c [] μ) : DS X EX (.Raise (some (.Call (.Name c p) [.Constant (.str s) j p2] [] p3)) none pos) ρ μ K₀ := fun σ H F e m => by
  obtain ⟨C, hm, q1, q2, q3, q4⟩ := sx.ex.exs c hc
  exact ws_of (ps_raise sx.calm e.tk.takes (pmk_own PySem.F.excBase_ValueError q1 hm q2 (raises_own q3 q4) (sx.glo hg) (nm3 hn).1)) ⟨c, [], F, μ, hm, .refl, m, .inl ⟨rfl, rfl⟩, q⟩
/-- what is wished of what a try's body raises -/
def exTry (G : Gc) (EX : EK) (c : Str) (h : HSs) (n : Nat) (K₀ : DEnds) : EK := fun c' fs μ' => optD (G.ex.sub c' c) fun v => if v = true then wpHs ⟨G.ex.sub c', G.ex.fld c', fs⟩ h (List.replicate n none) μ' K₀ else EX c' fs μ'
theorem SX.tr (sx : SX G X N sc) {pn : List (Addr × Obj)} {xe : Value → Shared → Prop} (h : PassesOwn (model X.prog X.w) X.A X.env xe) : SX G (X.tr pn xe) N sc := ⟨sx.hN, sx.nd, sx.esc, sx.kind, sx.calm, sx.un, sx.gd, sx.tb, sx.rm2, sx.ini, sx.met, fun _ => h, sx.fr, sx.blt, sx.ex, sx.cst, sx.fn⟩
/-- the length of the slots is known -/
theorem takes_len {X : Cx} {W : WX} (t : L2.Takes X W) : L2.Takes X (fun c d σ H => σ.length = X.N.length → W c d σ H) := fun u s' ⟨a, B, sI, pins, σ, H, cls, d, e, I, nb, up, sky, na, os, ag, w⟩ =>
  t u s' ⟨a, B, sI, pins, σ, H, cls, d, e, I, nb, up, sky, na, os, ag, w I.len⟩
theorem blank_env {K : PySem.W.Frag} {H : Hp} {F : Addr → Prop} {σ : St} {n : Nat} (h : σ.length = n) : REnv K H F σ (List.replicate n none) := ⟨by rw [List.length_replicate]; exact h, fun i d e => by
  rw [List.getElem?_replicate] at e
  split at e <;> cases e⟩
theorem REnv.hide {K H F} {σ : St} {ρ : Rho} (e : REnv K H F σ ρ) {i : Nat} (h : ∀ x, ρ[i]? ≠ some (some x)) : REnv K H F (σ.set i none) ρ := by
  refine ⟨by rw [List.length_set]; exact e.len, fun j d q => ?_⟩
  by_cases hj : i = j
  · subst hj
    exact absurd q (h d)
  · rw [List.getElem?_set_ne hj]
    exact e.at_ j d q
def TB (X : Cx) (body : List Stmt) (W : WX) : TS := fun D σ H => ∀ pn xe, L2.Takes (X.tr pn xe) W → PassesOwn (model X.prog X.w) X.A X.env xe → WSs (X.tr pn xe) body D σ H
theorem pss_tb {X : Cx} {body : List Stmt} (W : WX) (pn : List (Addr × Obj)) (xe : Value → Shared → Prop) (tk : L2.Takes (X.tr pn xe) W) (own : PassesOwn (model X.prog X.w) X.A X.env xe) : PSs (X.tr pn xe) body (TB X body W) := ⟨fun pins s σ H D I h => h pn xe tk own pins s I⟩
def TH (X : Cx) (suite : List Stmt) (a : Addr) (cls : Value) (d : Option Addr) : TS := fun D σ H => ∀ (oe : Obj) (pn : List (Addr × Obj)), Zc cls d oe → (∃ vs, oe.data = .fields vs) → WSs (X.suite a ((a, oe) :: pn)) suite D σ H
theorem pss_th {X : Cx} {suite : List Stmt} (a : Addr) (oe : Obj) (cls : Value) (d : Option Addr) (pn : List (Addr × Obj)) (hz : Zc cls d oe) (hf : ∃ vs, oe.data = .fields vs) : PSs (X.suite a ((a, oe) :: pn)) suite (TH X suite a cls d) := ⟨fun pins s σ H D I h => h oe pn hz hf pins s I⟩
theorem pr_some {K : PySem.W.Frag} {H0 H H' : Hp} {F0 F F' : Addr → Prop} {μ0 μ : Mem} {Q : Rho → Mem → Prop} {σ : St} {ρ : Rho} (g0 : Grow H0 F0 μ0 H F μ) (g : Grow H F μ H' F' μ) (m : MS K H' F' μ) (e : REnv K H' F' σ ρ) (q : Q ρ μ) : PR K H0 F0 μ0 Q σ H' := ⟨ρ, F', μ, g0.trans g, m, e, q⟩
theorem names_of (sx : SX G X N sc) {c : Str} (hg : gloB sc c = true) (hn : nmB c = true) (hcc : (G.ex.sub c c).isSome = true) : ∃ cv, Names X c cv ∧ ∀ c' v, G.ex.sub c' c = some v → ∃ C, X.mg c' = some (.ref C) ∧ PySem.W.exmOne X.K (.ref C) cv = some v := by
  obtain ⟨b, hb⟩ := Option.isSome_iff_exists.mp hcc
  obtain ⟨C, cv, v, e1, _⟩ := sx.ex.sub c c b hb
  refine ⟨.ref C, ⟨sx.glo hg, (nm3 hn).1, .inl e1⟩, fun c' v hv => ?_⟩
  obtain ⟨C2, cv2, v2, k1, k2, k3, _⟩ := sx.ex.sub c' c v hv
  refine ⟨C2, k1, ?_⟩
  rcases k2 with k2 | ⟨k2, _⟩
  · rw [e1] at k2
    cases k2
    exact k3
  · rw [e1] at k2
    cases k2
theorem DS.tryAs (sx : SX G X N sc) (hfn : ∀ x, X.fn x = true) (hs : X.stack = X.env :: X.outer) (hf : X.env.frame = some X.env.locals) {i : Nat} {c n : Str} {body suite : List Stmt} {b₀ : Stmt} {h : HSs} {np pos pos' : Pos} (hi : N[i]? = some n) (hln : sc.names.lookup n = some .local) (hg : gloB sc c = true) (hn : nmB c = true) (ck : chkHs N (some i) sc h (b₀ :: suite) = true)
    (hb : ∀ Y, SX G Y N sc → (∀ x, Y.fn x = true) → Y.stack = Y.env :: Y.outer → Y.env.frame = some Y.env.locals → DSs Y (exTry G EX c h ρ.length K₀) body ρ μ K₀) (hcc : (G.ex.sub c c).isSome = true) :
    DS X EX (.Try body [.ExceptHandler (some (.Name c np)) (some n) (b₀ :: suite) pos'] [] [] pos) ρ μ K₀ := fun σ H F e m => by
  obtain ⟨cv, hnm, hsb⟩ := names_of sx hg hn hcc
  intro pins s I
  have hlen : ρ.length = X.N.length := by rw [← e.len]; exact I.len
  have hln2 : X.env.kindOf n = some .local := by
    show X.env.scope.names.lookup n = some .local
    rw [sx.esc]; exact hln
  refine (ws_of (ps_try_as (i := i) (ts := fun a cls d => TH X (b₀ :: suite) a cls d) hs hf (by rw [sx.hN]; exact sx.nd) (by rw [sx.hN]; exact hi) hln2 hnm e.tk.takes (fun W pn xe tk own => pss_tb W pn xe tk own) fun a oe cls d pn hz hf => pss_th a oe cls d pn hz hf) ?_) pins s I
  intro pn xe tk own
  refine hb (X.tr pn xe) (sx.tr own) hfn hs hf σ H F ⟨e.toREnv, Takes.toF hf ((takes_len tk).imp ?_)⟩ m
  rintro cls d σ' H' ⟨c', fs, F', μ', hm, g, m', at_, q⟩ hl
  obtain ⟨v, hv, q⟩ := optD_ok q
  obtain ⟨C, hC, hx⟩ := hsb c' v hv
  have hm : X.mg c' = some cls := hm
  rw [hm] at hC
  cases hC
  refine ⟨v, hx, fun ev a na => ?_, fun ev => ?_⟩
  · subst ev
    rw [if_pos rfl] at q
    intro oe pn2 hz hf2
    have hl2 : σ'.length = ρ.length := by rw [hlen]; exact hl
    have hil : i < σ'.length := by
      have := (List.getElem?_eq_some_iff.mp hi).1
      rw [hl]
      show i < X.N.length
      rw [sx.hN]
      exact this
    refine sndHSs (d := d) (oe := oe) (a := a) (pn := pn2) (io := some i) sx hm hz hf2 hfn h (b₀ :: suite) ck (σ'.set i (some (.ref a))) H' F' (List.replicate ρ.length none) μ' K₀ _ q ?_ ⟨fun ρ' σ2 H2 F2 g2 su q => ?_, fun v x H2 F2 g2 m2 r q => ?_⟩
    · have e0 : REnv X.K H' F' (σ'.set i (some (.ref a))) (List.replicate ρ.length none) := blank_env (by rw [List.length_set]; exact hl2)
      refine ⟨e0, m', fun j ej => ?_, at_⟩
      cases ej
      refine ⟨List.getElem?_set_self hil, fun x z => ?_⟩
      rw [List.getElem?_replicate] at z
      split at z <;> cases z
    · exact pr_some g g2 su.ms (su.en.hide (su.sl i rfl).2) q
    · exact ⟨x, F2, μ', g.trans g2, m2, r, q⟩
  · subst ev
    rw [if_neg Bool.false_ne_true] at q
    exact ⟨c', fs, F', μ', hm, g, m', at_, q⟩
theorem DS.try_ (sx : SX G X N sc) (hfn : ∀ x, X.fn x = true) (hs : X.stack = X.env :: X.outer) (hf : X.env.frame = some X.env.locals) {c : Str} {body suite : List Stmt} {b₀ : Stmt} {h : HSs} {np pos pos' : Pos} (hg : gloB sc c = true) (hn : nmB c = true) (ck : chkHs N none sc h (b₀ :: suite) = true)
    (hb : ∀ Y, SX G Y N sc → (∀ x, Y.fn x = true) → Y.stack = Y.env :: Y.outer → Y.env.frame = some Y.env.locals → DSs Y (exTry G EX c h ρ.length K₀) body ρ μ K₀) (hcc : (G.ex.sub c c).isSome = true) :
    DS X EX (.Try body [.ExceptHandler (some (.Name c np)) none (b₀ :: suite) pos'] [] [] pos) ρ μ K₀ := fun σ H F e m => by
  obtain ⟨cv, hnm, hsb⟩ := names_of sx hg hn hcc
  intro pins s I
  have hlen : ρ.length = X.N.length := by rw [← e.len]; exact I.len
  refine (ws_of (ps_try_only (ts := fun a cls d => TH X (b₀ :: suite) a cls d) hs hf hnm e.tk.takes (fun W pn xe tk own => pss_tb W pn xe tk own) fun a oe cls d pn hz hf => pss_th a oe cls d pn hz hf) ?_) pins s I
  intro pn xe tk own
  refine hb (X.tr pn xe) (sx.tr own) hfn hs hf σ H F ⟨e.toREnv, Takes.toF hf ((takes_len tk).imp ?_)⟩ m
  rintro cls d σ' H' ⟨c', fs, F', μ', hm, g, m', at_, q⟩ hl
  obtain ⟨v, hv, q⟩ := optD_ok q
  obtain ⟨C, hC, hx⟩ := hsb c' v hv
  have hm : X.mg c' = some cls := hm
  rw [hm] at hC
  cases hC
  refine ⟨v, hx, fun ev a na => ?_, fun ev => ?_⟩
  · subst ev
    rw [if_pos rfl] at q
    intro oe pn2 hz hf2
    have hl2 : σ'.length = ρ.length := by rw [hlen]; exact hl
    refine sndHSs (d := d) (oe := oe) (a := a) (pn := pn2) (io := none) sx hm hz hf2 hfn h (b₀ :: suite) ck σ' H' F' (List.replicate ρ.length none) μ' K₀ _ q ?_ ⟨fun ρ' σ2 H2 F2 g2 su q => ?_, fun v x H2 F2 g2 m2 r q => ?_⟩
    · exact ⟨blank_env hl2, m', fun j ej => (nomatch ej), at_⟩
    · exact pr_some g g2 su.ms su.en q
    · exact ⟨x, F2, μ', g.trans g2, m2, r, q⟩
  · subst ev
    rw [if_neg Bool.false_ne_true] at q
    exact ⟨c', fs, F', μ', hm, g, m', at_, q⟩

/-! ### further methods -/
theorem str_rd {K H F} {x : D} {v : V} (r : RD K H F v x) (hx : strIs x) : ∃ a, x = .str a ∧ v = .str a := by
  cases r <;> first | exact ⟨_, rfl, rfl⟩ | exact hx.elim
theorem sq_ok {m : Sq} {x y : D} {Q : DK} (h : sqD m x y μ Q) : ∃ a b, x = .str a ∧ y = .str b := by
  cases x with
  | str a => cases y with
    | str b => exact ⟨a, b, rfl, rfl⟩
    | _ => exact h.elim
  | _ => exact h.elim
theorem DE.sq {f : Sq} {o e : Expr} {apos pos : Pos} {Q : DK} (hb : noSuper o = true) (hl : (apos.endLine == pos.line) = true) (hs : noStar e = true)
    (h : DE X EX o ρ μ fun x μ1 => strIs x ∧ DE X EX e ρ μ1 fun d μ2 => sqD f x d μ2 Q) : DE X EX (.Call (.Attribute o f.nm apos) [e] [] pos) ρ μ Q := fun σ H F en m => by
  have ss : starEach [e] X.env = [(false, eval e X.env)] := by rw [star_cons hs]; rfl
  cases f with
  | index =>
    refine we_of (pe_m1 PySem.F.slot_str_index PySem.F.type_str_index mt_sindex pe_we pe_we ss (base_of hb) hl) ?_
    refine (h σ H F en m).mono fun v H1 ⟨x, F1, μ1, g1, m1, r1, hx, q1⟩ => ⟨(str_rd r1 hx).imp fun a h => h.2, ?_⟩
    refine (q1 σ H1 F1 (en.on g1 m) m1).mono fun u H2 ⟨y, F2, μ2, g2, m2, r2, q2⟩ => ?_
    obtain ⟨a, b, ex, ey⟩ := sq_ok q2
    subst ex ey
    cases r1
    cases r2
    obtain ⟨i, hi, q⟩ := optD_ok (show optD (Builtin.Str.occurrences a b 0 a.length 1).head? _ from q2)
    cases ho : Builtin.Str.occurrences a b 0 a.length 1 with
    | nil => rw [ho] at hi; cases hi
    | cons j rest =>
      rw [ho] at hi
      cases hi
      exact ⟨a, b, _, rest, rfl, rfl, ho, ⟨_, F2, μ2, g1.trans g2, m2, .int _, q⟩⟩
  | find =>
    refine we_of (pe_m1 PySem.F.slot_str_find PySem.F.type_str_find mt_find pe_we pe_we ss (base_of hb) hl) ?_
    refine (h σ H F en m).mono fun v H1 ⟨x, F1, μ1, g1, m1, r1, hx, q1⟩ => ⟨(str_rd r1 hx).imp fun a h => h.2, ?_⟩
    refine (q1 σ H1 F1 (en.on g1 m) m1).mono fun u H2 ⟨y, F2, μ2, g2, m2, r2, q2⟩ => ?_
    obtain ⟨a, b, ex, ey⟩ := sq_ok q2
    subst ex ey
    cases r1
    cases r2
    exact ⟨a, b, rfl, rfl, ⟨_, F2, μ2, g1.trans g2, m2, .int _, q2⟩⟩
  | count =>
    refine we_of (pe_m1 PySem.F.slot_str_count PySem.F.type_str_count mt_count pe_we pe_we ss (base_of hb) hl) ?_
    refine (h σ H F en m).mono fun v H1 ⟨x, F1, μ1, g1, m1, r1, hx, q1⟩ => ⟨(str_rd r1 hx).imp fun a h => h.2, ?_⟩
    refine (q1 σ H1 F1 (en.on g1 m) m1).mono fun u H2 ⟨y, F2, μ2, g2, m2, r2, q2⟩ => ?_
    obtain ⟨a, b, ex, ey⟩ := sq_ok q2
    subst ex ey
    cases r1
    cases r2
    exact ⟨a, b, rfl, rfl, ⟨_, F2, μ2, g1.trans g2, m2, .int _, q2⟩⟩
theorem countP_pys (x : D) : ∀ ds : List D, ((D.pys ds).countP fun z => PyData.eqv z x.py) = ds.countP fun e => e.eqv x
  | [] => rfl
  | d :: ds => by
    show ((d.py :: D.pys ds).countP _) = _
    rw [List.countP_cons, List.countP_cons, countP_pys x ds]
    rfl
theorem DE.cnt (sx : SX G X N sc) {o e : Expr} {apos cpos : Pos} {Q : DK} (hb : noSuper o = true) (hl : (apos.endLine == cpos.line) = true) (hs : noStar e = true)
    (h : DE X EX o ρ μ fun x μ1 => (∃ l, seqL μ1 x = some l) ∧ DE X EX e ρ μ1 fun d μ2 => cntD x d μ2 Q) : DE X EX (.Call (.Attribute o "count" apos) [e] [] cpos) ρ μ Q := fun σ H F en m => by
  have hs1 : [e].all noStar = true := by simp [hs]
  refine we_of (pe_bm PySem.F.plainAttrs_list PySem.F.slot_list_count PySem.F.type_list_count (mt_lcountD sx.un) pe_we (pa_cons pe_we pa_nil (star_cons hs)) (base_of hb) (few_ok hs1 (by simp)) hl (star_cons hs) (star_any rfl)) ?_
  refine (h σ H F en m).mono fun v H1 ⟨x, F1, μ1, g1, m1, r1, ⟨l, hl1⟩, q1⟩ => ⟨tyV_list m1 r1 hl1, ?_⟩
  refine (q1 σ H1 F1 (en.on g1 m) m1).mono fun u H2 ⟨d, F2, μ2, g2, m2, r2, q2⟩ => ?_
  obtain ⟨l2, hl2, o1, o2, d1, d2, q⟩ := optD_ok q2
  obtain ⟨a, vs, ev, hq, rs⟩ := seqL_rd m2 (r1.stay (g2.stay m1)) hl2
  subst ev
  refine ⟨a, u, d.py, D.pys l2, rfl, rfl, .lst hq (pys_of rs o2), py_of r2 o1, shaped_of (d := .lst l2) o2 d2, shaped_of o1 d1, ?_⟩
  rw [countP_pys]
  exact ⟨_, F2, μ2, g1.trans g2, m2, .int _, q⟩
theorem spm_ok {z : Bool} {x d k : D} {Q : DK} (h : spmD z x d k μ Q) : ∃ a b n, x = .str a ∧ d = .str b ∧ k = .int n := by
  cases x with
  | str a => cases d with
    | str b => cases k with
      | int n => exact ⟨a, b, n, rfl, rfl, rfl⟩
      | _ => exact h.elim
    | _ => exact h.elim
  | _ => exact h.elim
theorem DE.spm {z : Bool} {o a b : Expr} {apos cpos : Pos} {Q : DK} (hb : noSuper o = true) (hl : (apos.endLine == cpos.line) = true) (hs : noStar a = true) (hs2 : noStar b = true)
    (h : DE X EX o ρ μ fun x μ1 => strIs x ∧ DE X EX a ρ μ1 fun d μ2 => DE X EX b ρ μ2 fun k μ3 => spmD z x d k μ3 Q) : DE X EX (.Call (.Attribute o "split" apos) [a, b] [] cpos) ρ μ Q := fun σ H F en m => by
  have hs1 : [a, b].all noStar = true := by simp [hs, hs2]
  have hs3 : [b].all noStar = true := by simp [hs2]
  refine we_of (pe_bm (T := "str") PySem.F.plainAttrs_str PySem.F.slot_str_split PySem.F.type_str_split mt_splitMax pe_we (pa_cons pe_we (pa_cons pe_we pa_nil (star_cons hs2)) (star_cons hs)) (base_of hb) (few_ok hs1 (by simp)) hl (star_cons hs) (star_any hs3)) ?_
  refine (h σ H F en m).mono fun v H1 ⟨x, F1, μ1, g1, m1, r1, hx, q1⟩ => ?_
  obtain ⟨s, es, ev⟩ := str_rd r1 hx
  subst es ev
  refine ⟨rfl, ?_⟩
  refine (q1 σ H1 F1 (en.on g1 m) m1).mono fun u H2 ⟨d, F2, μ2, g2, m2, r2, q2⟩ => ?_
  refine (q2 σ H2 F2 (en.on (g1.trans g2) m) m2).mono fun w H3 ⟨k, F3, μ3, g3, m3, r3, q3⟩ => ?_
  obtain ⟨a, b, n, ex, ey, ez⟩ := spm_ok q3
  cases ex
  subst ey ez
  cases r2
  cases r3
  obtain ⟨q4, ⟨q5, q6⟩, q7, q8⟩ := q3
  exact ⟨s, b, n, rfl, rfl, q4, q5, q6, q7, newL_ok (Qv := Post X.K H F μ Q) m3 .of_strs q8 fun v' H' p => p.pre ((g1.trans g2).trans g3)⟩
mutual
theorem py_noDict : ∀ d : D, d.py.hasDict = false
  | .non => rfl
  | .bl _ => rfl
  | .int _ => rfl
  | .str _ => rfl
  | .tup l => pys_noDict l
  | .lst l => pys_noDict l
  | .lk l => pys_noDict l
  | .ref _ => rfl
  | .emp => rfl
  | .exc _ _ _ => rfl
  | .ins _ _ _ => rfl
  | .tpl l => pys_noDict l
  | .tpz l => pys_noDict l
theorem pys_noDict : ∀ l : List D, PyData.hasDictAll (D.pys l) = false
  | [] => rfl
  | d :: l => by
    show (d.py.hasDict || PyData.hasDictAll (D.pys l)) = false
    rw [py_noDict d, pys_noDict l]
    rfl
end
theorem DE.rpr (sx : SX G X N sc) {a : Expr} {p pos : Pos} {Q : DK} (hgd : G.grd = true) (hg : gloB sc "repr" = true) (hs : noStar a = true) (h : DE X EX a ρ μ fun x μ1 => rprD x μ1 Q) :
    DE X EX (.Call (.Name "repr" p) [a] [] pos) ρ μ Q := by
  refine DE.callB (R := fun ds μ1 => ∃ x, ds = [x] ∧ rprD x μ1 Q) (call_reprD (sx.gd hgd) sx.un) (sx.glo hg) (sx.blt _ (by decide +kernel)) (id := "repr") rfl (by decide +kernel) (by simp [hs]) (DA.cons (star_cons hs) fun σ H F en ms => (h σ H F en ms).mono fun v H' ⟨d, F', μ', g, m', r, q⟩ => ⟨d, F', μ', g, m', r, DA.nil ⟨d, rfl, q⟩⟩) fun H F μ' vs ds Qv m r q k => ?_
  obtain ⟨x, rfl, q⟩ := q
  obtain ⟨w, e, rx⟩ := one_of r
  subst e
  cases x with
  | tup l =>
    obtain ⟨q1, q2, q3, q4, q5⟩ := q
    have p1 := py_of rx q1
    cases rx with
    | tup t rs => exact ⟨_, _, rfl, p1, shaped_of q1 q2, q3, py_noDict _, q4, ⟨_, rfl⟩, k _ _ (.now m (.str _) q5)⟩
  | _ => exact q.elim
theorem last_rd {K H F} {vs : List V} {ds : List D} {d : D} (r : RDs K H F vs ds) (h : ds.getLast? = some d) : ∃ v, vs[vs.length - 1]? = some v ∧ RD K H F v d := by
  rw [List.getLast?_eq_getElem?] at h
  rw [r.length]
  exact r.get h
theorem DE.popE {o : Expr} {apos cpos : Pos} {Q : DK} (hb : noSuper o = true) (hl : (apos.endLine == cpos.line) = true)
    (h : DE X EX o ρ μ fun x μ1 => chg x μ1 fun a l => optD l.getLast? fun d => Q d (mset μ1 a (.lst l.dropLast))) : DE X EX (.Call (.Attribute o "pop" apos) [] [] cpos) ρ μ Q := fun σ H F e m => by
  refine we_of (pe_bm0 PySem.F.plainAttrs_list PySem.F.slot_list_pop PySem.F.type_list_pop mt_pop pe_we (base_of hb) hl) ?_
  refine (h σ H F e m).mono fun v H1 ⟨x, F1, μ1, g1, m1, r1, q1⟩ => ?_
  obtain ⟨a, vs, ds, ev, ex, ha, rs, hm, q⟩ := chg_ok m1 r1 q1
  subst ev
  obtain ⟨d, hd, q⟩ := optD_ok q
  obtain ⟨y, hy, ry⟩ := last_rd rs hd
  obtain ⟨g3, m3⟩ := write_ref (vs := vs.dropLast) m1 hm rs.dropLast
  have g := g1.trans g3
  exact ⟨.inl ⟨rfl, vs, .inl (.inl ha)⟩, a, vs, y, rfl, rfl, ha, hy, ⟨_, F1, _, g, m3, ry.stay (g3.stay m1), q⟩⟩
theorem RDs.eraseIdx {K H F} : ∀ {vs ds} (n : Nat), RDs K H F vs ds → RDs K H F (vs.eraseIdx n) (ds.eraseIdx n)
  | _, _, _, .nil => .nil
  | _, _, 0, .cons h r => r
  | _, _, n + 1, .cons h r => .cons h (RDs.eraseIdx n r)
theorem DE.popI {o i : Expr} {apos cpos : Pos} {Q : DK} (hb : noSuper o = true) (hl : (apos.endLine == cpos.line) = true) (hs : noStar i = true)
    (h : DE X EX o ρ μ fun x μ1 => (∃ l, seqL μ1 x = some l) ∧ DE X EX i ρ μ1 fun k μ2 => intK k fun k => chg x μ2 fun a l => (-9223372036854775808 ≤ k ∧ k < 9223372036854775808) ∧ optD (seqIndex? k l.length) fun j => optD l[j]? fun d => Q d (mset μ2 a (.lst (l.eraseIdx j)))) :
    DE X EX (.Call (.Attribute o "pop" apos) [i] [] cpos) ρ μ Q := fun σ H F e m => by
  have hs1 : [i].all noStar = true := by simp [hs]
  refine we_of (pe_bm PySem.F.plainAttrs_list PySem.F.slot_list_pop PySem.F.type_list_pop mt_popAt pe_we (pa_cons pe_we pa_nil (star_cons hs)) (base_of hb) (few_ok hs1 (by simp)) hl (star_cons hs) (star_any rfl)) ?_
  refine (h σ H F e m).mono fun v H1 ⟨x, F1, μ1, g1, m1, r1, ⟨l, hl1⟩, q1⟩ => ⟨tyV_list m1 r1 hl1, ?_⟩
  refine (q1 σ H1 F1 (e.on g1 m) m1).mono fun u H2 ⟨k, F2, μ2, g2, m2, r2, q2⟩ => ?_
  obtain ⟨k, ek, q2⟩ := intK_ok q2
  subst ek
  cases r2
  obtain ⟨a, vs, ds, ev, _, ha, rs, hm, ⟨b1, b2⟩, q⟩ := chg_ok m2 (r1.stay (g2.stay m1)) q2
  subst ev
  obtain ⟨j, hj, q⟩ := optD_ok q
  obtain ⟨d, hd, q⟩ := optD_ok q
  obtain ⟨y, hy, ry⟩ := rs.get hd
  obtain ⟨g3, m3⟩ := write_ref (vs := vs.eraseIdx j) m2 hm (rs.eraseIdx j)
  exact ⟨a, vs, k, j, y, rfl, rfl, ha, by omega, by omega, by rw [rs.length]; exact hj, hy, ⟨_, F2, _, (g1.trans g2).trans g3, m3, ry.stay (g3.stay m2), q⟩⟩
theorem DS.ins {o i ex : Expr} {apos cpos pos : Pos} (hb : noSuper o = true) (hl : (apos.endLine == cpos.line) = true) (hs : noStar i = true) (hs2 : noStar ex = true)
    (h : DE X EX o ρ μ fun x μ1 => (∃ l, seqL μ1 x = some l) ∧ DE X EX i ρ μ1 fun k μ2 => intK k fun k => DE X EX ex ρ μ2 fun d μ3 => chg x μ3 fun a l => l.length < 16777216 ∧ (0 ≤ k ∧ k < 9223372036854775808) ∧ K₀.nx ρ (mset μ3 a (.lst (l.take k.toNat ++ [d] ++ l.drop k.toNat)))) :
    DS X EX (.Expr (.Call (.Attribute o "insert" apos) [i, ex] [] cpos) pos) ρ μ K₀ := fun σ H F e m => by
  have hs1 : [i, ex].all noStar = true := by simp [hs, hs2]
  have hs3 : [ex].all noStar = true := by simp [hs2]
  refine ws_of (ps_expr (pe_bm PySem.F.plainAttrs_list PySem.F.slot_list_insert PySem.F.type_list_insert mt_insert pe_we (pa_cons pe_we (pa_cons pe_we pa_nil (star_cons hs2)) (star_cons hs)) (base_of hb) (few_ok hs1 (by simp)) hl (star_cons hs) (star_any hs3)) (swap_no rfl)) ?_
  refine (h σ H F e m).mono fun v H1 ⟨x, F1, μ1, g1, m1, r1, ⟨l, hl1⟩, q1⟩ => ⟨tyV_list m1 r1 hl1, ?_⟩
  refine (q1 σ H1 F1 (e.on g1 m) m1).mono fun u H2 ⟨k, F2, μ2, g2, m2, r2, q2⟩ => ?_
  obtain ⟨k, ek, q2⟩ := intK_ok q2
  subst ek
  cases r2
  refine (q2 σ H2 F2 (e.on (g1.trans g2) m) m2).mono fun w H3 ⟨d, F3, μ3, g3, m3, r3, q3⟩ => ?_
  obtain ⟨a, vs, ds, ev, _, ha, rs, hm, hz, ⟨b1, b2⟩, q⟩ := chg_ok m3 (r1.stay ((g2.trans g3).stay m1)) q3
  subst ev
  obtain ⟨g4, m4⟩ := write_ref (vs := vs.take k.toNat ++ [w] ++ vs.drop k.toNat) m3 hm (((rs.take _).append (.cons r3 .nil)).append (rs.drop _))
  have g := ((g1.trans g2).trans g3).trans g4
  exact ⟨a, vs, k, w, rfl, rfl, ha, by rw [rs.length, line_eq]; exact hz, b1, by omega, ρ, F3, _, g, m4, (e.on g m).toREnv, q⟩
end
end DL
/-! Exceptions as values: the rules. -/
namespace DL
open PySem PySem.Spec PyProof.Rows L2
section
variable {G : Gc} {X : Cx} {EX : EK} {N : List Str} {sc : Scope} {ρ : Rho} {μ : Mem} {K₀ : DEnds}
theorem DE.mkx1 (sx : SX G X N sc) {c : Str} {e : Expr} {p pos : Pos} {Q : DK} (h0 : G.ex.exv c = some none) (hg : gloB sc c = true) (hn : nmB c = true) (hs : noStar e = true)
    (h : DE X EX e ρ μ fun _ μ1 => Q (.exc c [] []) μ1) : DE X EX (.Call (.Name c p) [e] [] pos) ρ μ Q := fun σ H F en m => by
  obtain ⟨C, hc, hm, hk, hx⟩ := sx.ex.exv c none h0
  refine we_of (pe_exc1 PySem.F.excBase_ValueError hx hm hk (sx.glo hg) pe_we (star_cons hs) (nm3 hn).1) ?_
  refine (h σ H F en m).mono fun v H1 ⟨d, F1, μ1, g1, m1, r1, q1⟩ => fun a ha => ?_
  obtain ⟨F2, g2, m2, fa⟩ := new_fz (u := ExO (.ref C) a) m1 ha
  exact ⟨.exc c [] [], F2, μ1, g1.trans g2, m2, .exc hc (.inl ⟨fa, upd_same, rfl⟩) rfl .nil, q1⟩
theorem DE.mkx (sx : SX G X N sc) {c : Str} {e : Expr} {es : List Expr} {p pos : Pos} {Q : DK} {x : Str × Str × Option Nat} (h0 : G.ex.exv c = some (some x)) (hg : gloB sc c = true) (hn : nmB c = true) (hs : (e :: es).all noStar = true)
    (h : DA X EX (e :: es) ρ μ fun ds μ1 => mkxD c (some x) ds μ1 Q) : DE X EX (.Call (.Name c p) (e :: es) [] pos) ρ μ Q := fun σ H F en m => by
  obtain ⟨f1, f2, g⟩ := x
  obtain ⟨C, hc, hm, hk, T, fI, fd, ps, a, iC, tI, hb, ha, F1⟩ := sx.ex.exv c _ h0
  have hs2 := hs
  rw [List.all_cons, Bool.and_eq_true] at hs2
  refine we_of (pe_oexv T iC tI (F1 X.prog X.w X.base) sx.rm2 hb (passes_call en.tk.takes fun _ _ _ _ h => h.elim) (sx.glo hg) hm pa_wa (nm3 hn).1 (star_cons hs2.1) (star_any hs2.2)) ?_
  refine (h σ H F en m).mono fun vs H1 ⟨ds, F1, μ1, g1, m1, r1, q1⟩ => ?_
  match ds, r1, q1 with
  | [d1, d2], .cons (v := y1) rv1 (.cons (v := y2) rv2 .nil), ⟨gk, q⟩ =>
    have gok : a.ok y2 := by
      cases g with
      | none =>
        obtain ⟨t, rfl⟩ := ha
        exact True.intro
      | some n =>
        obtain ⟨t, rfl, rfl⟩ := ha
        cases d2 with
        | str t2 =>
          cases rv2
          exact ⟨t2, rfl, gk⟩
        | _ => exact gk.elim
    refine ⟨(by show 2 ≤ 1000; omega), fun b nb => ⟨b, y1, y2, rfl, upd_same, gok, fun dx hdx ne => ⟨rfl, ?_⟩⟩⟩
    have hdx2 : H1 dx = none := by rw [← hdx, upd_ne ne]
    have e1 : upd (upd (upd H1 b (exo b C none)) dx (exd dx [(f2, y2), (f1, y1)])) b (exo b C (some dx)) = upd (upd H1 dx (exd dx [(f2, y2), (f1, y1)])) b (exo b C (some dx)) := by
      funext z
      by_cases hz : z = b
      · subst hz; rw [upd_same, upd_same]
      · rw [upd_ne hz, upd_ne hz]
        by_cases hd : z = dx
        · subst hd; rw [upd_same, upd_same]
        · rw [upd_ne hd, upd_ne hd, upd_ne hz]
    rw [e1]
    obtain ⟨F2, g2, m2, k2⟩ := new_fz (u := exd dx [(f2, y2), (f1, y1)]) m1 hdx2
    obtain ⟨F3, g3, m3, k3⟩ := new_fz (u := exo b C (some dx)) m2 (show upd H1 dx _ b = none by rw [upd_ne (Ne.symm ne)]; exact nb)
    have st := (g2.trans g3).stay m1
    exact ⟨.exc c [f2, f1] [d2, d1], F3, μ1, (g1.trans g2).trans g3, m3, .exc hc (vs := [y2, y1]) (.inr ⟨dx, k3, g3.fr _ k2, upd_same, by rw [upd_ne ne]; exact upd_same⟩) rfl (.cons (rv2.stay st) (.cons (rv1.stay st) .nil)), q⟩
theorem DE.isx (sx : SX G X N sc) {t : Str} {a : Expr} {p p2 pos : Pos} {Q : DK} (hg : gloB sc "isinstance" = true) (hg2 : gloB sc t = true) (hn : nmB t = true) (hs : noStar a = true)
    (h : DE X EX a ρ μ fun x μ1 => isxD G.ex x t fun b => Q (.bl b) μ1) : DE X EX (.Call (.Name "isinstance" p) [a, .Name t p2] [] pos) ρ μ Q := fun σ H F en m => by
  refine we_of (pe_callB call_isV (sx.glo hg) (sx.blt _ (by decide +kernel)) boot_isinstance (pa_cons pe_we (pa_cons pe_we pa_nil) (star_cons hs)) (by decide +kernel) (by decide +kernel) (star_cons hs) (star_any rfl)) ?_
  refine (h σ H F en m).mono fun v H1 ⟨x, F1, μ1, g1, m1, r1, q⟩ => ?_
  cases x with
  | exc c ns ds =>
    obtain ⟨q0, q⟩ := q
    obtain ⟨b, hb, q⟩ := optD_ok q
    obtain ⟨C, cv, v', e1, e2, e3, e4, rv, ru, ec⟩ := sx.ex.sub c t b hb
    obtain ⟨xx, hxx⟩ := Option.isSome_iff_exists.mp q0
    obtain ⟨C2, hc, hm, _⟩ := sx.ex.exv c xx hxx
    rw [hm] at e1
    cases e1
    cases r1 with
    | exc hc' xf hl rs =>
      rw [hc] at hc'
      cases hc'
      obtain ⟨n1, n2, n3⟩ := nm3 hn
      have pc : PE X (.Name t p2) (tC v') := by
        rcases e2 with e2 | ⟨e2, e5, e6⟩
        · exact pe_glob (sx.glo hg2) e2 rv n1
        · exact pe_bltn (sx.glo hg2) e2 e5 rv e6 n1
      refine we_of pc ?_
      exact ⟨_, _, _, v', cv, b, rfl, xf.at, ec, ru, e4, ⟨_, F1, μ1, g1, m1, .bl _, q⟩⟩
  | _ => exact q.elim
theorem DS.raiseI (sx : SX G X N sc) {c : Str} {e : Expr} {es : List Expr} {p p3 pos : Pos} {x : Str × Str × Option Nat} (h0 : G.ex.exv c = some (some x)) (hg : gloB sc c = true) (hn : nmB c = true) (hs : (e :: es).all noStar = true)
    (h : DA X EX (e :: es) ρ μ fun ds μ1 => rzD x ds fun fs => EX c fs μ1) : DS X EX (.Raise (some (.Call (.Name c p) (e :: es) [] p3)) none pos) ρ μ K₀ := fun σ H F en m => by
  obtain ⟨f1, f2, g⟩ := x
  obtain ⟨C, hc, hm, hk, T, fI, fd, ps, a, iC, tI, hb, ha, F1⟩ := sx.ex.exv c _ h0
  have hs2 := hs
  rw [List.all_cons, Bool.and_eq_true] at hs2
  refine ws_of (ps_raise sx.calm en.tk.takes (pmk_oex T iC tI (F1 X.prog X.w X.base) sx.rm2 hb .nil (passes_call en.tk.takes fun _ _ _ _ h => h.elim) (sx.glo hg) hm pa_wa (nm3 hn).1 (star_cons hs2.1) (star_any hs2.2))) ?_
  refine (h σ H F en m).mono fun vs H1 ⟨ds, F1, μ1, g1, m1, r1, q1⟩ => ?_
  match ds, r1, q1 with
  | [d1, d2], .cons (v := y1) rv1 (.cons (v := y2) rv2 .nil), ⟨gk, q⟩ =>
    have gok : a.ok y2 := by
      cases g with
      | none =>
        obtain ⟨t, rfl⟩ := ha
        exact True.intro
      | some n =>
        obtain ⟨t, rfl, rfl⟩ := ha
        cases d2 with
        | str t2 =>
          cases rv2
          exact ⟨t2, rfl, gk⟩
        | _ => exact gk.elim
    refine ⟨(by show 2 ≤ 1000; omega), fun b nb => ⟨b, y1, y2, rfl, upd_same, gok, fun dx hdx ne => ⟨rfl, dx, [(f2, y2), (f1, y1)], upd_same, by rw [upd_ne ne, upd_same], ?_, ?_⟩⟩⟩
    · rw [← hdx, upd_ne ne]
    have hdx2 : H1 dx = none := by rw [← hdx, upd_ne ne]
    have e1 : upd (L2.del (upd (upd (upd H1 b (exo b C none)) dx (exd dx [(f2, y2), (f1, y1)])) b (exo b C (some dx))) b) dx (.xd [(f2, y2), (f1, y1)]) = upd H1 dx (.xd [(f2, y2), (f1, y1)]) := by
      funext z
      by_cases hd : z = dx
      · subst hd; rw [upd_same, upd_same]
      · rw [upd_ne hd, upd_ne hd]
        by_cases hz : z = b
        · subst hz; rw [L2.del_same]; exact nb.symm
        · rw [L2.del_ne hz, upd_ne hz, upd_ne hd, upd_ne hz]
    rw [e1]
    obtain ⟨F2, g2, m2, k2⟩ := new_fz (u := .xd [(f2, y2), (f1, y1)]) m1 hdx2
    have st := g2.stay m1
    exact ⟨c, [(f2, d2), (f1, d1)], F2, μ1, hm, g1.trans g2, m2, .inr ⟨dx, _, rfl, upd_same, rfl, .cons (rv2.stay st) (.cons (rv1.stay st) .nil)⟩, q⟩
end
end DL
/-! Own classes: instances made, methods called, fields read and stored; dicts stored; plain tuples. -/
namespace L2
open PySem PySem.Spec PyProof.Rows
section
variable {X : Cx} {CX : CXT} {k : Nat} {f C : Addr} {fd : FuncData} {ps : List Str} {sp : Sp} {dvs : List V} {ds : List Value} {E : XK} {x m : Str} {p pos apos : Pos} {e o : Expr} {es : List Expr} {ta : TE} {t : TA}
theorem pe_methG (he : PE X o ta) (c : Cls X.K C) (hm : Meth X.K C m f) (F : FnOk X.prog X.w X.K X.mg X.base CX k f fd ps sp) (hr : Room k X.A) (hb : Binds X.K fd ps ds) (hd : Vals dvs ds) (hx : Passes CX X E) (ha : PA X (e :: es) t)
    (hbase : attributeBase o m X.env (eval o X.env) = eval o X.env) (hline : (apos.endLine == pos.line) = true) (hst : starEach (e :: es) X.env = (false, eval e X.env) :: starEach es X.env) (hall : (backTo pos (starEach (e :: es) X.env)).any (·.1) = false) (hpl : (backTo pos (starEach es X.env)).any (·.1) = false) (hn : (e :: es).length < 30) :
    PE X (.Call (.Attribute o m apos) (e :: es) [] pos) (tMeth C m sp dvs E ta t) := by
  refine ⟨fun pins s σ H Q I h => ?_⟩
  rw [PySem.arm_eval_Call, hbase]
  refine wpAny_bind (thn (he.run pins s σ H _ I h) fun u s1 ⟨x, H1, I1, rx, a, dx, fs, ex, ea, l, q⟩ => ?_)
  subst ex
  obtain rfl : u = Value.ref a := rx
  refine wpAny_bind (wpAny_standAt ?_)
  have hform : methodCallForm ((e :: es).length + ([] : List Keyword).length) (backTo pos (starEach (e :: es) X.env)) (backToKw pos (keywordEach [] X.env)) = true := by
    unfold methodCallForm
    have h1 : (backTo pos (starEach (e :: es) X.env)).all (fun x => !x.1) = true := by
      rw [List.all_eq_true]
      intro y hy
      rw [List.any_eq_false] at hall
      have := hall y hy
      simpa using this
    have h2 : (backToKw pos (keywordEach [] X.env)) = [] := rfl
    rw [h1, h2]
    show (true && true && decide ((e :: es).length + 0 + 0 < 30)) = true
    simp only [Nat.add_zero, Bool.and_self, Bool.true_and]
    exact decide_eq_true hn
  have hpos : methodCallPos true o X.env apos pos = pure pos := by unfold methodCallPos; simp [hline]
  unfold methodCall
  rw [hform]
  refine wpAny_bind (wpAny_holding (getmeth_ok I1 ea c hm l ?_))
  refine wpAny_bind (wpAny_of_eq hpos ?_)
  show wpAny _ _ (callWith pos (Value.ref f) [.ref a] (backTo pos (starEach (e :: es) X.env)) []) _ _ _
  refine PySem.W.callWith_K (first := [.ref a]) (h₀ := X.base) I.ok.mod.kin hm.kp (thn (ha.run pos pins s1 σ H1 _ I1 q) fun us s2 ⟨vs, H2, I2, r, q2⟩ => ⟨I2.kIn, ?_⟩) hst hpl
  exact run_fn (us := .ref a :: us) (vs := .ref a :: vs) F hr hb hd hx I2 (.cons rfl r) q2
/-- e.f of an exception or of an own instance -/
def tAtA (K : PySem.W.Frag) (f : Str) (te : TE) : TE := fun σ H Q => te σ H fun x H1 => (∃ (a C : Addr) (fs : List (Str × V)) (v : V), x = .ref a ∧ XAt K H1 a C fs ∧ XfC K C ∧ PySem.W.findIn K (.ref C) f = some none ∧ fs.lookup f = some v ∧ Q v H1) ∨
  ∃ (a C dx : Addr) (fs : List (Str × V)) (v : V), x = .ref a ∧ H1 a = some (.ins C dx fs) ∧ Cls K C ∧ NoAttr K C f ∧ fs.lookup f = some v ∧ Q v H1
theorem pe_atA {te : TE} {n : Str} (he : PE X e te) (hb : attributeBase e n X.env (eval e X.env) = eval e X.env) : PE X (.Attribute e n pos) (tAtA X.K n te) := by
  refine ⟨fun pins s σ H Q I h => ?_⟩
  refine attr_of hb (thn (he.run pins s σ H _ I h) fun u s1 hh => ?_)
  obtain ⟨x, H1, I1, rx, hh⟩ := hh
  rcases hh with ⟨a, C, fs, v, ex, hx, T, hno, l, q⟩ | ⟨a, C, dx, fs, v, ex, ea, c, nn, l, q⟩
  · subst ex
    obtain rfl : u = Value.ref a := rx
    obtain ⟨ox, od, J, hd⟩ := xat_inst I1 hx
    rcases hd with rfl | ⟨p, mA, o, h1, h2, hns, hod, hr⟩
    · cases l
    · obtain ⟨u, hu, ru⟩ := RelO.some_of (v := v) (o := mA n) (by rw [← l]; exact hr n)
      obtain ⟨od2, ho2, hl⟩ := lookIn_ns hns
      rw [hod] at ho2
      cases ho2
      subst h2
      exact HandSPX.exc_get I1.kIn J T.ga T.gg T.exC (PySem.W.findObj_own T.hdC hno rfl (by rw [hl, hu])) (handed_of ru) ⟨v, H1, I1.tok _, ru, q⟩
  · subst ex
    obtain rfl : u = Value.ref a := rx
    exact getattr_ok I1 ea c nn l fun u2 s2 I2 r => ⟨v, H1, I2, r, q⟩
end
end L2
namespace DL
open PySem PySem.Spec PyProof.Rows L2
section
variable {G : Gc} {X : Cx} {EX : EK} {N : List Str} {sc : Scope} {ρ : Rho} {μ : Mem} {K₀ : DEnds}
theorem objAt_ok {a : Addr} {o : Str × List (Str × D)} (h : objAt μ a = some o) : μ a = some (.obj o.1 o.2) := by
  unfold objAt at h
  split at h
  · rename_i c fs e; cases h; exact e
  · cases h
theorem dctAt_ok {a : Addr} {o : Bool × List (List Key × D)} (h : dctAt μ a = some o) : μ a = some (.dct o.1 o.2) := by
  unfold dctAt at h
  split at h
  · rename_i c fs e; cases h; exact e
  · cases h
/-- a plain tuple shown -/
theorem DE.tpd {es : List Expr} {k : Nat} {pos : Pos} {Q : DK} (h : DA X EX es ρ μ fun ds μ1 => ds.length ≤ 16777216 ∧ Q (.tpl ds) μ1) : DE X EX (.Tuple es k pos) ρ μ Q := fun σ H F e m => by
  refine we_of (pe_tup pa_wa) ?_
  refine (h σ H F e m).mono fun vs H1 ⟨ds, F1, μ1, g1, m1, r1, hl, q⟩ => ⟨by rw [r1.length, line_eq]; exact hl, fun p hp => ?_⟩
  obtain ⟨F2, g2, m2, k2⟩ := new_fz (u := .tup vs) m1 hp
  exact ⟨.tpl ds, F2, μ1, g1.trans g2, m2, .tpl k2 upd_same (r1.stay (g2.stay m1)), q⟩
theorem restr_ok {K H F} {μ1 : Mem} (μ0 : Mem) (m : MS K H F μ1) : Grow H F μ1 H F (restr μ1 μ0) ∧ MS K H F (restr μ1 μ0) := by
  have sub : ∀ b o, restr μ1 μ0 b = some o → μ1 b = some o := fun b o e => by
    unfold restr at e
    split at e
    · exact e
    · cases e
  refine ⟨⟨fun _ _ e _ => e, fun _ e => e, fun _ e => .inl e, fun b e => ?_⟩, ⟨fun b o e => m.at_ b o (sub b o e), m.fin⟩⟩
  cases q : restr μ1 μ0 b with
  | none => rw [q] at e; cases e
  | some o => exact .inl (by rw [sub b o q]; rfl)
theorem DE.rst {a : Expr} {Q : DK} (h : DE X (fun c ds μ' => EX c ds (restr μ' μ)) a ρ μ fun x μ1 => Q x (restr μ1 μ)) : DE X EX a ρ μ Q := fun σ H F e m => by
  refine (h σ H F ⟨e.toREnv, e.tk.imp fun c d _ H' ⟨c', ds, F', μ', hm, g, ms, at_, q⟩ => let ⟨g2, m2⟩ := restr_ok μ ms; ⟨c', ds, F', _, hm, g.trans g2, m2, at_, q⟩⟩ m).mono fun v H1 ⟨x, F1, μ1, g1, m1, r1, q1⟩ => ?_
  obtain ⟨g2, m2⟩ := restr_ok μ m1
  exact ⟨x, F1, _, g1.trans g2, m2, r1, q1⟩
theorem fzo_ok {K H F} {v : V} {x : D} {Q : DK} (m : MS K H F μ) (r : RD K H F v x) (h : fzoD x μ Q) : Post K H F μ Q v H := by
  cases x with
  | ref a =>
    cases r
    obtain ⟨o, e, q⟩ := optD_ok (show optD (objAt μ a) _ from h)
    obtain ⟨F', g, m', r'⟩ := freeze_obj m (objAt_ok e)
    exact ⟨_, F', _, g, m', r', q⟩
  | _ => exact False.elim h
theorem DE.fzo {a : Expr} {Q : DK} (h : DE X EX a ρ μ fun x μ1 => fzoD x μ1 Q) : DE X EX a ρ μ Q := fun σ H F e m =>
  (h σ H F e m).mono fun v H1 ⟨x, F1, μ1, g1, m1, r1, q1⟩ => (fzo_ok m1 r1 q1).pre g1
theorem DE.mko (sx : SX G X N sc) {c f : Str} {e : Expr} {es : List Expr} {p pos : Pos} {Q : DK} (h0 : G.ex.ini c = some f) (hg : gloB sc c = true) (hn : nmB c = true) (hs : (e :: es).all noStar = true)
    (h : DA X EX (e :: es) ρ μ fun ds μ1 => ∀ p, μ1 p = none → G.fn f (.ref p :: ds) (mset μ1 p (.obj c [])) (fun v μ2 => v = .non ∧ Q (.ref p) μ2) EX) : DE X EX (.Call (.Name c p) (e :: es) [] pos) ρ μ Q := fun σ H F en m => by
  obtain ⟨C, k, fa, fd, ps, hc, hm, M, ok, room, hb⟩ := sx.ini c f h0
  have hs2 := hs
  rw [List.all_cons, Bool.and_eq_true] at hs2
  refine we_of (pe_make (E := fun cls d H' => Wish X.K X.mg H F μ EX cls d H') M ok room (sx.glo hg) hm hb .nil (passes_call en.tk.takes fun _ _ _ _ h => h) pa_wa (nm3 hn).1 (star_cons hs2.1) (star_any hs2.2)) ?_
  refine (h σ H F en m).mono fun vs H1 ⟨ds, F1, μ1, g1, m1, r1, q1⟩ => fun x dx hx hdx ne => ?_
  rw [List.append_nil]
  obtain ⟨g2, m2⟩ := new_un (u := .own x) m1 hdx
  obtain ⟨g3, m3, np⟩ := new_mo (o := .obj c []) (u := .ins C dx []) m2 (show upd H1 dx _ x = none by rw [upd_ne (Ne.symm ne)]; exact hx) ⟨C, dx, [], hc, rfl, rfl, .nil⟩
  have g := (g1.trans g2).trans g3
  refine ⟨F1, _, _, _, EX, m3, .cons (.ref x) (r1.stay ((g2.trans g3).stay m1)), q1 x np, fun v H' p => ?_, fun _ _ _ w => w.pre g⟩
  obtain ⟨d, F', μ', g4, m4, r4, e4, q4⟩ := p
  subst e4
  cases r4
  exact ⟨rfl, .ref x, F', μ', g.trans g4, m4, .ref x, q4⟩
theorem DE.meth (sx : SX G X N sc) {c mn f : Str} {o e : Expr} {es : List Expr} {apos pos : Pos} {Q : DK} (h0 : G.ex.met c mn = some f) (hbs : noSuper o = true) (hl : (apos.endLine == pos.line) = true) (hs : (e :: es).all noStar = true) (hln : (e :: es).length < 30)
    (h : DE X EX o ρ μ fun x μ1 => insRef c mn x μ1 ∧ DA X EX (e :: es) ρ μ1 fun ds μ2 => G.fn f (x :: ds) μ2 Q EX) : DE X EX (.Call (.Attribute o mn apos) (e :: es) [] pos) ρ μ Q := fun σ H F en m => by
  obtain ⟨C, k, fa, fd, ps, hc, cl, M, ok, room, hb⟩ := sx.met c mn f h0
  have hs2 := hs
  rw [List.all_cons, Bool.and_eq_true] at hs2
  refine we_of (pe_methG (E := fun cls d H' => Wish X.K X.mg H F μ EX cls d H') pe_we cl M ok room hb .nil (passes_call en.tk.takes fun _ _ _ _ h => h) pa_wa (base_of hbs) hl (star_cons hs2.1) (star_any hs) (star_any hs2.2) hln) ?_
  refine (h σ H F en m).mono fun v H1 ⟨x, F1, μ1, g1, m1, r1, hx, q1⟩ => ?_
  cases x with
  | ref a =>
    cases r1
    obtain ⟨ob, e1, e2, e3⟩ := optD_ok (show optD (objAt μ1 a) _ from hx)
    obtain ⟨n, u, hu, C2, dx, gs, hc2, eu, hk, rs⟩ := m1.at_ a _ (objAt_ok e1)
    rw [e2, hc] at hc2
    cases hc2
    subst eu
    refine ⟨a, dx, gs, rfl, hu, ?_, ?_⟩
    · cases l : gs.lookup mn with
      | none => rfl
      | some v =>
        exfalso
        have key : ∀ {gs : List (Str × V)} {fs : List (Str × D)}, gs.map (·.1) = fs.map (·.1) → fs.lookup mn = none → gs.lookup mn = none := by
          intro gs
          induction gs with
          | nil => intro fs _ _; rfl
          | cons p gs ih =>
            intro fs h1 h2
            cases fs with
            | nil => cases h1
            | cons q fs =>
              obtain ⟨p1, p2⟩ := p
              obtain ⟨q1, q2⟩ := q
              simp only [List.map_cons, List.cons.injEq] at h1
              obtain ⟨rfl, h1⟩ := h1
              rw [List.lookup_cons] at h2 ⊢
              split at h2
              · cases h2
              · exact ih h1 h2
        rw [key hk e3] at l
        cases l
    · refine (q1 σ H1 F1 (en.on g1 m) m1).mono fun vs H2 ⟨ds, F2, μ2, g2, m2, r2, q2⟩ => ?_
      rw [List.append_nil]
      have g := g1.trans g2
      exact ⟨F2, μ2, .ref a :: ds, Q, EX, m2, .cons (.ref a) r2, q2, fun v H' p => p.pre g, fun _ _ _ w => w.pre g⟩
  | _ => exact False.elim hx
theorem DE.dnw {t : Bool} {pos : Pos} {Q : DK} (h : ∀ p, μ p = none → Q (.ref p) (mset μ p (.dct t []))) : DE X EX (.Dict [] [] pos) ρ μ Q := fun σ H F en m => by
  cases t with
  | false =>
    refine we_of pe_dnewK fun p hp => ?_
    obtain ⟨g, m1, np⟩ := new_mo (o := .dct false []) (u := .dK []) m hp ⟨[], rfl, rfl, .nil⟩
    exact ⟨.ref p, F, _, g, m1, .ref p, h p np⟩
  | true =>
    refine we_of pe_dnewT fun p hp => ?_
    obtain ⟨g, m1, np⟩ := new_mo (o := .dct true []) (u := .dT []) m hp ⟨[], rfl, rfl, .nil⟩
    exact ⟨.ref p, F, _, g, m1, .ref p, h p np⟩
theorem DE.atA (sx : SX G X N sc) {f : Str} {a : Expr} {pos : Pos} {Q : DK} (hb : noSuper a = true)
    (h : DE X EX a ρ μ fun x μ1 => atxD G.ex x μ1 f fun d => Q d μ1) : DE X EX (.Attribute a f pos) ρ μ Q := fun σ H F en m => by
  refine we_of (pe_atA pe_we (base_of hb)) ?_
  refine (h σ H F en m).mono fun v H1 ⟨x, F1, μ1, g1, m1, r1, q⟩ => ?_
  cases x with
  | exc c ns ds =>
    obtain ⟨q0, hf, q⟩ := q
    obtain ⟨d, hd, q⟩ := optD_ok q
    obtain ⟨C, e1, T, hno⟩ := sx.ex.fld c f hf
    obtain ⟨xx, hxx⟩ := Option.isSome_iff_exists.mp q0
    obtain ⟨C2, hc, hm, _⟩ := sx.ex.exv c xx hxx
    rw [hm] at e1
    cases e1
    cases r1 with
    | @exc _ _ _ _ vs _ hc' xf hl rs =>
      rw [hc] at hc'
      cases hc'
      have l1 : (ns.zip vs).map (·.1) = ns := List.map_fst_zip (Nat.le_of_eq hl)
      have l2 : (ns.zip vs).map (·.2) = vs := List.map_snd_zip (Nat.le_of_eq hl.symm)
      have l3 : (ns.zip ds).map (·.1) = ns := List.map_fst_zip (by rw [hl, rs.length]; exact Nat.le_refl _)
      have l4 : (ns.zip ds).map (·.2) = ds := List.map_snd_zip (by rw [hl, rs.length]; exact Nat.le_refl _)
      obtain ⟨v, hv, rv⟩ := att_get (fs := ns.zip vs) (ds := ns.zip ds) (by rw [l1, l3]) (by rw [l2, l4]; exact rs) hd
      exact .inl ⟨_, _, _, v, rfl, xf.at, T, hno, hv, ⟨_, F1, μ1, g1, m1, rv, q⟩⟩
  | ins c ns ds =>
    obtain ⟨hf, q⟩ := q
    obtain ⟨d, hd, q⟩ := optD_ok q
    obtain ⟨C, hc, cl, na⟩ := sx.ex.fo c f hf
    cases r1 with
    | @ins _ _ _ _ _ vs _ hc' hF hu hl rs =>
      rw [hc] at hc'
      cases hc'
      have l1 : (ns.zip vs).map (·.1) = ns := List.map_fst_zip (Nat.le_of_eq hl)
      have l2 : (ns.zip vs).map (·.2) = vs := List.map_snd_zip (Nat.le_of_eq hl.symm)
      have l3 : (ns.zip ds).map (·.1) = ns := List.map_fst_zip (by rw [hl, rs.length]; exact Nat.le_refl _)
      have l4 : (ns.zip ds).map (·.2) = ds := List.map_snd_zip (by rw [hl, rs.length]; exact Nat.le_refl _)
      obtain ⟨v, hv, rv⟩ := att_get (fs := ns.zip vs) (ds := ns.zip ds) (by rw [l1, l3]) (by rw [l2, l4]; exact rs) hd
      exact .inr ⟨_, _, _, _, v, rfl, hu, cl, na, hv, ⟨_, F1, μ1, g1, m1, rv, q⟩⟩
  | ref a =>
    obtain ⟨ob, e1, hf, q⟩ := optD_ok (show optD (objAt μ1 a) _ from q)
    obtain ⟨d, hd, q⟩ := optD_ok q
    obtain ⟨C, hc, cl, na⟩ := sx.ex.fo _ f hf
    cases r1
    obtain ⟨n, u, hu, C2, dx, gs, hc2, eu, hk, rs⟩ := m1.at_ a _ (objAt_ok e1)
    rw [hc] at hc2
    cases hc2
    subst eu
    obtain ⟨v, hv, rv⟩ := att_get hk rs hd
    exact .inr ⟨a, _, dx, gs, v, rfl, hu, cl, na, hv, ⟨_, F1, μ1, g1, m1, rv, q⟩⟩
  | _ => exact q.elim
theorem tupL_rd {K H F} {v : V} {x : D} {l : List D} (r : RD K H F v x) (h : tupL x = some l) : ∃ a vs, v = .ref a ∧ SqT K H a vs ∧ RDs K H F vs l := by
  cases r with
  | tup t rs => cases h; exact ⟨_, _, rfl, t, rs⟩
  | tpl f t rs => cases h; exact ⟨_, _, rfl, .inl (.inl t), rs⟩
  | _ => cases h
theorem pl_ok {K H F} {v u : V} {x y : D} {Q : DK} {Qv : VK} (m : MS K H F μ) (r1 : RD K H F v x) (r2 : RD K H F u y) (q : plD x y μ Q) (k : ∀ v H', Post K H F μ Q v H' → Qv v H') : rAddA K v u H Qv := by
  obtain ⟨l, hl, qa⟩ := optD_ok q
  obtain ⟨l2, hl2, qb⟩ := optD_ok qa
  obtain ⟨hne, hor, hz, qc⟩ := qb
  obtain ⟨a, vs, ev, t1, s1⟩ := tupL_rd r1 hl
  obtain ⟨b, ws, eu, t2, s2⟩ := tupL_rd r2 hl2
  subst ev eu
  refine .inr (.inr (.inr (.inl ⟨a, b, vs, ws, rfl, rfl, t1, t2, ?_, fun e => ?_, fun _ e => ?_, fun _ _ => fun p hp => ?_⟩)))
  · rw [s1.length, s2.length, line_eq]; exact hz
  · subst e
    cases s1
    rcases hor with h | h
    · exact absurd rfl h
    · cases y with
      | tpl l3 =>
        cases hl2
        exact k _ _ (.now m r2 qc)
      | _ => cases h
  · subst e
    cases s2
    exact absurd rfl hne
  · obtain ⟨F2, g2, m2, k2⟩ := new_fz (u := .tup (vs ++ ws)) m hp
    exact k _ _ ⟨.tpl (l ++ l2), F2, μ, g2, m2, .tpl k2 upd_same ((s1.append s2).stay (g2.stay m)), qc⟩
theorem DE.pl {a b : Expr} {pos : Pos} {Q : DK} (h : DE X EX a ρ μ fun x μ1 => DE X EX b ρ μ1 fun y μ2 => plD x y μ2 Q) : DE X EX (.BinOp a .Add b pos) ρ μ Q :=
  DE.op2 (fun ta tb ha hb => pe_op op_addA ha hb) h fun H F μ' v u x y Qv m r1 r2 q k => pl_ok m r1 r2 q k
theorem putF_rd {K H F} {f : Str} {v : V} {d : D} (r : RD K H F v d) : ∀ {gs : List (Str × V)} {fs : List (Str × D)}, gs.map (·.1) = fs.map (·.1) → RDs K H F (gs.map (·.2)) (fs.map (·.2)) →
    (putF f v gs).map (·.1) = (putFD f d fs).map (·.1) ∧ RDs K H F ((putF f v gs).map (·.2)) ((putFD f d fs).map (·.2))
  | [], [], _, _ => ⟨rfl, .cons r .nil⟩
  | [], _ :: _, h, _ => nomatch h
  | _ :: _, [], h, _ => nomatch h
  | (g, x) :: gs, (g2, y) :: fs, h, s => by
    simp only [List.map_cons, List.cons.injEq] at h
    obtain ⟨rfl, h⟩ := h
    rw [List.map_cons, List.map_cons] at s
    cases s with
    | cons s1 s2 =>
      unfold putF putFD
      by_cases e : g = f
      · rw [if_pos e, if_pos e]
        exact ⟨by simp only [List.map_cons, h], .cons r s2⟩
      · rw [if_neg e, if_neg e]
        obtain ⟨i1, i2⟩ := putF_rd r h s2
        exact ⟨by simp only [List.map_cons, i1], .cons s1 i2⟩
theorem DS.setA (sx : SX G X N sc) {o ex : Expr} {f : Str} {p pos : Pos} (hl : isLC ex = false)
    (h : DE X EX ex ρ μ fun d μ1 => DE X EX o ρ μ1 fun x μ2 => setAD G.ex x f d μ2 fun μ3 => K₀.nx ρ μ3) : DS X EX (.Assign [.Attribute o f p] ex pos) ρ μ K₀ := fun σ H F en m => by
  refine ws_of (ps_fld pe_we pe_we (swap_no hl)) ?_
  refine (h σ H F en m).mono fun v H1 ⟨d, F1, μ1, g1, m1, r1, q1⟩ => ?_
  refine (q1 σ H1 F1 (en.on g1 m) m1).mono fun u H2 ⟨x, F2, μ2, g2, m2, r2, q2⟩ => ?_
  cases x with
  | ref a =>
    cases r2
    obtain ⟨ob, e1, hf, hz, q⟩ := optD_ok (show optD (objAt μ2 a) _ from q2)
    obtain ⟨C, hc, cl, na⟩ := sx.ex.fo _ f hf
    obtain ⟨n, u, hu, C2, dx, gs, hc2, eu, hk, rs⟩ := m2.at_ a _ (objAt_ok e1)
    rw [hc] at hc2
    cases hc2
    subst eu
    have r3 := r1.stay (g2.stay m1)
    obtain ⟨i1, i2⟩ := putF_rd (f := f) r3 hk rs
    obtain ⟨g3, m3⟩ := write_mo (o2 := .obj ob.1 (putFD f d ob.2)) (u := .ins C dx (putF f v gs)) m2 (objAt_ok e1) ⟨C, dx, _, hc, rfl, i1, i2⟩
    have g := (g1.trans g2).trans g3
    refine ⟨a, C, dx, gs, rfl, hu, cl, na, ?_, ρ, F2, _, g, m3, (en.on g m).toREnv, q⟩
    have := congrArg List.length hk
    rw [List.length_map, List.length_map] at this
    omega
  | _ => exact False.elim q2
theorem putK_rd {κ : Type} [DecidableEq κ] {K H F} (ι : κ → List Key) (inj : ∀ a b, ι a = ι b → a = b) {k : κ} {v : V} {d : D} (r : RD K H F v d) {hvs : List (κ × V)} {kvs : List (List Key × D)} (h : hvs.map (fun x => ι x.1) = kvs.map (·.1)) (s : RDs K H F (hvs.map (·.2)) (kvs.map (·.2))) :
    (putK hvs k v).map (fun x => ι x.1) = (putKD kvs (ι k) d).map (·.1) ∧ RDs K H F ((putK hvs k v).map (·.2)) ((putKD kvs (ι k) d).map (·.2)) := by
  have ea : ∀ {hvs : List (κ × V)} {kvs : List (List Key × D)}, hvs.map (fun x => ι x.1) = kvs.map (·.1) → (hvs.any fun kv => decide (kv.1 = k)) = kvs.any fun kv => decide (kv.1 = ι k) := by
    intro hvs
    induction hvs with
    | nil => intro kvs h; cases kvs with
      | nil => rfl
      | cons _ _ => cases h
    | cons p hvs ih =>
      intro kvs h
      cases kvs with
      | nil => cases h
      | cons q kvs =>
        simp only [List.map_cons, List.cons.injEq] at h
        rw [List.any_cons, List.any_cons, ih h.2, ← h.1]
        congr 1
        rw [decide_eq_decide]
        exact ⟨fun e => by rw [e], fun e => inj _ _ e⟩
  unfold putK putKD
  rw [ea h]
  split
  · have mp : ∀ {hvs : List (κ × V)} {kvs : List (List Key × D)}, hvs.map (fun x => ι x.1) = kvs.map (·.1) → RDs K H F (hvs.map (·.2)) (kvs.map (·.2)) →
        (hvs.map fun kv => if kv.1 = k then (kv.1, v) else kv).map (fun x => ι x.1) = (kvs.map fun kv => if kv.1 = ι k then (kv.1, d) else kv).map (·.1) ∧ RDs K H F ((hvs.map fun kv => if kv.1 = k then (kv.1, v) else kv).map (·.2)) ((kvs.map fun kv => if kv.1 = ι k then (kv.1, d) else kv).map (·.2)) := by
      intro hvs
      induction hvs with
      | nil => intro kvs h s; cases kvs with
        | nil => exact ⟨rfl, .nil⟩
        | cons _ _ => cases h
      | cons p hvs ih =>
        intro kvs h s
        cases kvs with
        | nil => cases h
        | cons q kvs =>
          simp only [List.map_cons, List.cons.injEq] at h
          rw [List.map_cons, List.map_cons] at s
          cases s with
          | cons s1 s2 =>
            obtain ⟨i1, i2⟩ := ih h.2 s2
            by_cases c : p.1 = k
            · have c2 : q.1 = ι k := by rw [← h.1, c]
              refine ⟨?_, ?_⟩
              · simp only [List.map_cons, if_pos c, if_pos c2, h.1]
                rw [i1]
              · simp only [List.map_cons, if_pos c, if_pos c2]
                exact .cons r i2
            · have c2 : ¬ q.1 = ι k := fun z => c (inj _ _ (by rw [h.1, z]))
              refine ⟨?_, ?_⟩
              · simp only [List.map_cons, if_neg c, if_neg c2, h.1]
                rw [i1]
              · simp only [List.map_cons, if_neg c, if_neg c2]
                exact .cons s1 i2
    exact mp h s
  · exact ⟨by rw [List.map_append, List.map_append, h]; rfl, by rw [List.map_append, List.map_append]; exact s.append (.cons r .nil)⟩
theorem keyD_rd {K H F} {v : V} {d : D} {k : Key} (r : RD K H F v d) (h : keyD d = some k) : v = kV k := by
  cases r with
  | int i => cases h; rfl
  | str s => cases h; rfl
  | _ => cases h
theorem keysD_rd {K H F} : ∀ {vs : List V} {ds : List D} {ks : List Key}, RDs K H F vs ds → keysD ds = some ks → vs = ks.map kV
  | _, _, _, .nil, h => by cases h; rfl
  | _, _, ks, .cons r s, h => by
    unfold keysD at h
    cases e : keyD _ with
    | none => rw [e] at h; cases h
    | some k =>
      rw [e] at h
      cases e2 : keysD _ with
      | none => rw [e2] at h; cases h
      | some l =>
        rw [e2] at h
        cases h
        rw [keyD_rd r e, keysD_rd s e2]
        rfl
theorem DS.setK (sx : SX G X N sc) {o i ex : Expr} {p pos : Pos} (hl : isLC ex = false)
    (h : DE X EX ex ρ μ fun d μ1 => DE X EX o ρ μ1 fun x μ2 => DE X EX i ρ μ2 fun k μ3 => setKD x k d μ3 fun μ4 => K₀.nx ρ μ4) : DS X EX (.Assign [.Subscript o i p] ex pos) ρ μ K₀ := fun σ H F en m => by
  refine ws_of (ps_dput (by have := sx.un; omega) pe_we pe_we pe_we (swap_no hl)) ?_
  refine (h σ H F en m).mono fun v H1 ⟨d, F1, μ1, g1, m1, r1, q1⟩ => ?_
  refine (q1 σ H1 F1 (en.on g1 m) m1).mono fun u H2 ⟨x, F2, μ2, g2, m2, r2, q2⟩ => ?_
  refine (q2 σ H2 F2 (en.on (g1.trans g2) m) m2).mono fun w H3 ⟨kd, F3, μ3, g3, m3, r3, q3⟩ => ?_
  cases x with
  | ref a =>
    cases r2
    obtain ⟨ob, e0, qa⟩ := optD_ok (show optD (dctAt μ3 a) _ from q3)
    obtain ⟨ks, e2, hz, qb⟩ := optD_ok qa
    obtain ⟨t, kvs⟩ := ob
    have e1 := dctAt_ok e0
    dsimp only at e1 e2 hz qb
    have rv := r1.stay ((g2.trans g3).stay m1)
    have g0 := (g1.trans g2).trans g3
    cases t with
    | false =>
      obtain ⟨n, u, hu, hvs, eu, hk, rs⟩ := m3.at_ a _ e1
      subst eu
      cases e4 : keyD kd with
      | none => rw [keyT, e4] at e2; cases e2
      | some k =>
        rw [keyT, e4] at e2
        cases e2
        obtain ⟨i1, i2⟩ := putK_rd (fun k : Key => [k]) (fun a b e => by cases e; rfl) (k := k) rv hk rs
        obtain ⟨g4, m4⟩ := write_mo (o2 := .dct false (putKD kvs [k] d)) (u := .dK (putK hvs k v)) m3 e1 ⟨_, rfl, i1, i2⟩
        have g := g0.trans g4
        have hlen := congrArg List.length hk
        rw [List.length_map, List.length_map] at hlen
        rw [keyD_rd r3 e4]
        exact ⟨a, _, rfl, DPut.k hu (by rw [line_eq]; omega), ρ, F3, _, g, m4, (en.on g m).toREnv, qb⟩
    | true =>
      obtain ⟨n, u, hu, hvs, eu, hk, rs⟩ := m3.at_ a _ e1
      subst eu
      cases kd with
      | tpl l =>
        cases r3 with
        | tpl f t s =>
          have ev := keysD_rd s e2
          subst ev
          obtain ⟨i1, i2⟩ := putK_rd (fun k : List Key => k) (fun a b e => e) (k := ks) rv hk rs
          obtain ⟨g4, m4⟩ := write_mo (o2 := .dct true (putKD kvs ks d)) (u := .dT (putK hvs ks v)) m3 e1 ⟨_, rfl, i1, i2⟩
          have g := g0.trans g4
          have hlen := congrArg List.length hk
          rw [List.length_map, List.length_map] at hlen
          exact ⟨a, _, rfl, DPut.t hu t (by rw [line_eq]; omega), ρ, F3, _, g, m4, (en.on g m).toREnv, qb⟩
      | _ => cases e2
  | _ => exact False.elim q3
/-! ### dicts read -/
theorem valK_rd {κ : Type} [DecidableEq κ] {K H F} (ι : κ → List Key) (inj : ∀ a b, ι a = ι b → a = b) {k : κ} : ∀ {hvs : List (κ × V)} {kvs : List (List Key × D)}, hvs.map (fun x => ι x.1) = kvs.map (·.1) → RDs K H F (hvs.map (·.2)) (kvs.map (·.2)) →
    (∃ v d, valV hvs k = some v ∧ valKD kvs (ι k) = some d ∧ RD K H F v d) ∨ (valV hvs k = none ∧ valKD kvs (ι k) = none)
  | [], [], _, _ => .inr ⟨rfl, rfl⟩
  | (a, v) :: hvs, (b, d) :: kvs, h, s => by
    simp only [List.map_cons, List.cons.injEq] at h
    obtain ⟨h1, h2⟩ := h
    rw [List.map_cons, List.map_cons] at s
    cases s with
    | cons r s =>
    by_cases e : a = k
    · subst e
      refine .inl ⟨v, d, valV_pos rfl, ?_, r⟩
      unfold valKD
      rw [List.find?_cons, decide_eq_true (p := b = ι a) h1.symm]
      rfl
    · have ne : ¬ b = ι k := fun z => e (inj a k (h1.trans z))
      rcases valK_rd ι inj h2 s with ⟨v2, d2, q1, q2, q3⟩ | ⟨q1, q2⟩
      · refine .inl ⟨v2, d2, (valV_neg e).trans q1, ?_, q3⟩
        unfold valKD at q2 ⊢
        rw [List.find?_cons, decide_eq_false (p := b = ι k) ne]
        exact q2
      · refine .inr ⟨(valV_neg e).trans q1, ?_⟩
        unfold valKD at q2 ⊢
        rw [List.find?_cons, decide_eq_false (p := b = ι k) ne]
        exact q2
  | [], _ :: _, h, _ => nomatch h
  | _ :: _, [], h, _ => nomatch h
theorem kx_ok {K H F} {v u : V} {x y : D} {q : Option D → Prop} (m : MS K H F μ) (r1 : RD K H F v x) (r2 : RD K H F u y) (h : kxD x y μ q) : ∃ a o, v = .ref a ∧ DGet H a u o ∧ ((∃ w d, o = some w ∧ RD K H F w d ∧ q (some d)) ∨ (o = none ∧ q none)) := by
  cases x with
  | ref a =>
    cases r1
    obtain ⟨ob, e0, qa⟩ := optD_ok (show optD (dctAt μ a) _ from h)
    obtain ⟨ks, e2, qb⟩ := optD_ok qa
    obtain ⟨t, kvs⟩ := ob
    have e1 := dctAt_ok e0
    dsimp only at e1 e2 qb
    obtain ⟨n, uo, hu, ro⟩ := m.at_ a _ e1
    cases t with
    | false =>
      obtain ⟨hvs, eu, hk, rs⟩ := ro
      subst eu
      cases e4 : keyD y with
      | none => rw [keyT, e4] at e2; cases e2
      | some k =>
        rw [keyT, e4] at e2
        cases e2
        rw [keyD_rd r2 e4]
        rcases valK_rd (fun k : Key => [k]) (fun a b e => by cases e; rfl) (k := k) hk rs with ⟨w, d, q1, q2, q3⟩ | ⟨q1, q2⟩
        · rw [q2] at qb
          exact ⟨a, _, rfl, DGet.k hu, .inl ⟨w, d, q1, q3, qb⟩⟩
        · rw [q2] at qb
          exact ⟨a, _, rfl, DGet.k hu, .inr ⟨q1, qb⟩⟩
    | true =>
      obtain ⟨hvs, eu, hk, rs⟩ := ro
      subst eu
      cases y with
      | tpl l =>
        cases r2 with
        | tpl f t s =>
          have ev := keysD_rd s e2
          subst ev
          rcases valK_rd (fun k : List Key => k) (fun a b e => e) (k := ks) hk rs with ⟨w, d, q1, q2, q3⟩ | ⟨q1, q2⟩
          · rw [q2] at qb
            exact ⟨a, _, rfl, DGet.t hu t, .inl ⟨w, d, q1, q3, qb⟩⟩
          · rw [q2] at qb
            exact ⟨a, _, rfl, DGet.t hu t, .inr ⟨q1, qb⟩⟩
      | _ => cases e2
  | _ => exact False.elim h
theorem DE.kx (sx : SX G X N sc) {o i : Expr} {pos : Pos} {Q : DK} (hb : isSlice i = false) (h : DE X EX o ρ μ fun x μ1 => DE X EX i ρ μ1 fun y μ2 => kxD x y μ2 fun v => optD v fun d => Q d μ2) : DE X EX (.Subscript o i pos) ρ μ Q := fun σ H F en m => by
  refine we_of (pe_dget (by have := sx.un; omega) pe_we pe_we (plain_ix hb)) ?_
  refine (h σ H F en m).mono fun v H1 ⟨x, F1, μ1, g1, m1, r1, q1⟩ => ?_
  refine (q1 σ H1 F1 (en.on g1 m) m1).mono fun u H2 ⟨y, F2, μ2, g2, m2, r2, q2⟩ => ?_
  obtain ⟨a, ov, ev, dg, qq⟩ := kx_ok m2 (r1.stay (g2.stay m1)) r2 q2
  rcases qq with ⟨w, d, e, rw', q⟩ | ⟨_, q⟩
  · subst e
    exact ⟨a, w, ev, dg, ⟨_, F2, μ2, g1.trans g2, m2, rw', q⟩⟩
  · exact q.elim
theorem isDct_ok {K H F} {v : V} {x : D} (m : MS K H F μ) (r : RD K H F v x) (h : isDct x μ) : ∃ a, v = .ref a ∧ IsD H a := by
  cases x with
  | ref a =>
    cases r
    obtain ⟨ob, e0, _⟩ := optD_ok (show optD (dctAt μ a) _ from h)
    obtain ⟨t, kvs⟩ := ob
    have e1 := dctAt_ok e0
    obtain ⟨n, uo, hu, ro⟩ := m.at_ a _ e1
    cases t with
    | false => obtain ⟨hvs, eu, hk, rs⟩ := ro; subst eu; exact ⟨a, rfl, .inl ⟨_, .inl hu⟩⟩
    | true => obtain ⟨hvs, eu, hk, rs⟩ := ro; subst eu; exact ⟨a, rfl, .inr ⟨_, .inl hu⟩⟩
  | _ => exact False.elim h
theorem DE.kget (sx : SX G X N sc) {o e f : Expr} {apos cpos : Pos} {Q : DK} (hb : noSuper o = true) (hl : (apos.endLine == cpos.line) = true) (hs : noStar e = true) (hs2 : noStar f = true)
    (h : DE X EX o ρ μ fun x μ1 => isDct x μ1 ∧ DE X EX e ρ μ1 fun y μ2 => DE X EX f ρ μ2 fun w μ3 => kxD x y μ3 fun v => Q (v.getD w) μ3) : DE X EX (.Call (.Attribute o "get" apos) [e, f] [] cpos) ρ μ Q := fun σ H F en m => by
  have hs1 : [e, f].all noStar = true := by simp [hs, hs2]
  have hst : starEach [e, f] X.env = [(false, eval e X.env), (false, eval f X.env)] := by rw [star_cons hs, star_cons hs2]; rfl
  refine we_of (pe_dget2 (by have := sx.un; omega) pe_we pe_we pe_we ⟨base_of hb, few_ok hs1 (by simp), hl, by rw [hst]; rfl⟩) ?_
  refine (h σ H F en m).mono fun v H1 ⟨x, F1, μ1, g1, m1, r1, hx, q1⟩ => ?_
  obtain ⟨a, ea, isd⟩ := isDct_ok m1 r1 hx
  refine ⟨a, ea, isd, ?_⟩
  refine (q1 σ H1 F1 (en.on g1 m) m1).mono fun u H2 ⟨y, F2, μ2, g2, m2, r2, q2⟩ => ?_
  refine (q2 σ H2 F2 (en.on (g1.trans g2) m) m2).mono fun z H3 ⟨w, F3, μ3, g3, m3, r3, q3⟩ => ?_
  obtain ⟨a2, ov, ev, dg, qq⟩ := kx_ok m3 (r1.stay ((g2.trans g3).stay m1)) (r2.stay (g3.stay m2)) q3
  rw [ea] at ev
  cases ev
  refine ⟨ov, dg, ?_⟩
  rcases qq with ⟨w2, d, e, rw', q⟩ | ⟨e, q⟩
  · subst e
    exact ⟨_, F3, μ3, (g1.trans g2).trans g3, m3, rw', q⟩
  · subst e
    exact ⟨_, F3, μ3, (g1.trans g2).trans g3, m3, r3, q⟩
theorem freeze_tups {K H F} (m : MS K H F μ) (P : Addr → Prop) (hP : ∀ b, P b → ∃ vs, H b = some (.tup vs)) : Grow H F μ H (fun a => F a ∨ P a) μ ∧ MS K H (fun a => F a ∨ P a) μ := by
  have st : Stay K H F H (fun a => F a ∨ P a) := ⟨fun _ _ h => h, fun _ _ f h => ⟨.inl f, h⟩, fun _ _ _ h => h⟩
  have no : ∀ a o, μ a = some o → ¬ P a := fun a o e z => by
    obtain ⟨vs, h⟩ := hP a z
    obtain ⟨n, u, hu, ro⟩ := m.at_ a o e
    rw [h] at hu
    cases hu
    cases o with
    | lst l => obtain ⟨_, z, _⟩ := ro; cases z
    | pot l => obtain ⟨_, _, _, z, _⟩ := ro; cases z
    | obj c fs => obtain ⟨_, _, _, _, z, _⟩ := ro; cases z
    | dct t kvs => cases t <;> (obtain ⟨_, z, _⟩ := ro; cases z)
    | tab q => obtain ⟨_, z, _⟩ := ro; cases z
  refine ⟨⟨fun _ _ e _ => e, fun _ f => .inl f, fun a f => f.elim .inl fun z => .inr (.inr (.inr (hP a z))), fun _ e => .inl e⟩, ⟨fun a o e => ?_, fun a f => ?_⟩⟩
  · obtain ⟨n, u, hu, ro⟩ := m.at_ a o e
    exact ⟨fun z => z.elim n (no a o e), u, hu, ro.stay st⟩
  · rcases f with f | f
    · exact m.fin a f
    · obtain ⟨vs, h⟩ := hP a f
      exact ⟨_, h⟩
theorem kV_rd {K H F} : ∀ k : Key, RD K H F (kV k) (kD k)
  | .inl i => .int i
  | .inr s => .str s
theorem kVs_rd {K H F} : ∀ ks : List Key, RDs K H F (ks.map kV) (ks.map kD)
  | [] => .nil
  | k :: ks => .cons (kV_rd k) (kVs_rd ks)
theorem keys_tpl {K H F} : ∀ {hvs : List (List Key × V)} {bs : List Addr}, IsKeys H hvs bs → (∀ b ∈ bs, F b) → RDs K H F (bs.map V.ref) (hvs.map fun kv => D.tpl (kv.1.map kD))
  | _, _, .nil, _ => .nil
  | _, _, .cons h t, hF => .cons (.tpl (hF _ List.mem_cons_self) h (kVs_rd _)) (keys_tpl t fun b hb => hF b (List.mem_cons_of_mem _ hb))
theorem keys_at {H : Hp} : ∀ {hvs : List (List Key × V)} {bs : List Addr}, IsKeys H hvs bs → ∀ b ∈ bs, ∃ vs, H b = some (.tup vs)
  | _, _, .nil, b, hb => nomatch hb
  | _, _, .cons h t, b, hb => by
    rcases List.mem_cons.mp hb with e | e
    · subst e; exact ⟨_, h⟩
    · exact keys_at t b e
theorem DE.kls (sx : SX G X N sc) {z : Bool} {a : Expr} {p pos : Pos} {Q : DK} (hg : gloB sc "list" = true) (hs : noStar a = true) (h : DE X EX a ρ μ fun x μ1 => klsD z x μ1 Q) : DE X EX (.Call (.Name "list" p) [a] [] pos) ρ μ Q := fun σ H F en m => by
  refine we_of (pe_callTy (call_list_dT sx.calm) (sx.glo hg) (sx.blt _ (by decide +kernel)) boot_list (pa_cons pe_we pa_nil (star_cons hs)) (by decide) (by decide) (star_cons hs) (by rfl)) ?_
  refine (h σ H F en m).mono fun v H1 ⟨x, F1, μ1, g1, m1, r1, q1⟩ => ?_
  cases x with
  | ref d =>
    cases r1
    obtain ⟨ob, e0, e2, qa⟩ := optD_ok (show optD (dctAt μ1 d) _ from q1)
    obtain ⟨t, kvs⟩ := ob
    have e1 := dctAt_ok e0
    dsimp only at e1 e2 qa
    subst e2
    obtain ⟨n, uo, hu, hvs, eu, hk, rs⟩ := m1.at_ d _ e1
    subst eu
    refine ⟨d, hvs, rfl, .inl hu, fun p bs hp ik => ?_⟩
    obtain ⟨g2, m2⟩ := freeze_tups m1 (fun b => b ∈ bs) (keys_at ik)
    have rk : RDs X.K H1 (fun a => F1 a ∨ a ∈ bs) (bs.map V.ref) (kvs.map fun kv => D.tpl (kv.1.map kD)) := by
      have e : (kvs.map fun kv => D.tpl (kv.1.map kD)) = hvs.map fun kv => D.tpl (kv.1.map kD) := by
        have e2 : (kvs.map (·.1)).map (fun k : List Key => D.tpl (k.map kD)) = (hvs.map (·.1)).map fun k : List Key => D.tpl (k.map kD) := by rw [hk]
        rw [List.map_map, List.map_map] at e2
        exact e2
      rw [e]
      exact keys_tpl ik fun b hb => .inr hb
    exact newL_ok (Qv := fun v H' => Post X.K H F μ Q v H') m2 rk qa (fun v H' p => p.pre (g1.trans g2)) p hp
  | _ => exact False.elim q1
/-- t.index(x), flat things -/
def rTix (K : PySem.W.Frag) : V → List V → Hp → VK → Prop := fun x xs H Q => ∃ (p : Addr) (ys : List V) (y : V) (j : Nat) (z : V), x = .ref p ∧ xs = [y] ∧ SqT K H p ys ∧ flatV y = true ∧ ys.all flatV = true ∧ ys[j]? = some z ∧ eqV z y = true ∧
  (∀ (m : Nat) (z' : V), m < j → ys[m]? = some z' → eqV z' y = false) ∧ Q (.int (j : Nat)) H
theorem mt_tixF : MtR X "tuple.index" (rTix X.K) := by
  intro pins s σ H x xs v us Q I rx rxs h
  obtain ⟨a, ys, y, j, z, rfl, rfl, hq, fy, fys, hz, hzj, hno, q⟩ := h
  cases rx
  cases rxs with
  | cons ry rt =>
    rename_i uy ut
    cases rt
    obtain ⟨its, rv, pl, hlen⟩ := I.tuple hq
    obtain ⟨⟨cls, dd, dt, sl⟩, ho, hc, n, hd⟩ := pl
    simp only at hc hd
    subst hc hd
    obtain ⟨u, hu, ru⟩ := rv.get hz
    obtain ⟨hjl, hje⟩ := List.getElem?_eq_some_iff.mp hu
    have hvl := rv.length
    have hj : j < its.toArray.size := by simpa using hjl
    refine call_meets PySem.F.slot_tuple_index ⟨_, ho, rfl⟩ PySem.F.entry_tuple_index (PySem.F.args_tuple_index_2 _ _)
      (_root_.TI.tuple_indexAt a its.toArray n dd sl uy (eqU y) j hj ?_ ?_) ⟨ho, fun u' hu' => mem_eqAt ry fy rv fys u' (by simpa using hu'), ?_⟩
    · have e1 : its.toArray[j] = u := by simpa using hje
      rw [e1, eqU_of ru (flat_at fys hz)]
      exact hzj
    · intro m hm hmj
      have hml : m < its.length := by simpa using hm
      have hmy : m < ys.length := by omega
      have hy' : ys[m]? = some ys[m] := List.getElem?_eq_getElem hmy
      obtain ⟨u2, hu2, ru2⟩ := rv.get hy'
      obtain ⟨_, hme⟩ := List.getElem?_eq_some_iff.mp hu2
      have e1 : its.toArray[m] = u2 := by simpa using hme
      rw [e1, eqU_of ru2 (flat_at fys hy')]
      exact hno m _ hmj hy'
    · exact ⟨.int (j : Nat), H, I.tok _, ⟨_, rfl⟩, q⟩
def tBMz (r : V → List V → Hp → VK → Prop) (to : TE) (t : TA) : TE := fun σ H Q => to σ H fun x H1 => (∃ p ob xs, x = .ref p ∧ H1 p = some (.frz ob (.tup xs)) ∧ ob.cls = .type "tuple" ∧ ob.dict = none) ∧ t σ H1 fun xs H2 => r x xs H2 Q
/-- a method of a plain new tuple -/
theorem pe_bmz {o e : Expr} {es : List Expr} {to : TE} {t : TA} {name : Str} {apos cpos : Pos} {id : String} {r : V → List V → Hp → VK → Prop} (slot : Slot "tuple" name id) (hty : typeOf (.builtin id) = pure (.type "method_descriptor")) (hm : MtR X id r) (ho : PE X o to) (ha : PA X (e :: es) t)
    (hbase : attributeBase o name X.env (eval o X.env) = eval o X.env)
    (hfew : ((backTo cpos (starEach (e :: es) X.env)).all (fun x => !x.1) && (backToKw cpos (keywordEach [] X.env)).all (fun x => x.1.isSome)
      && decide ((e :: es).length + ([] : List Keyword).length + (if ([] : List Keyword).isEmpty then 0 else 1) < 30)) = true)
    (hline : (apos.endLine == cpos.line) = true) (hs : starEach (e :: es) X.env = (false, eval e X.env) :: starEach es X.env) (hplain : (backTo cpos (starEach es X.env)).any (·.1) = false) :
    PE X (.Call (.Attribute o name apos) (e :: es) [] cpos) (tBMz r to t) := by
  refine ⟨fun pins s σ H Q I h => ?_⟩
  refine wpAny_Call_method_late hbase hfew hline rfl (thn (ho.run pins s σ H _ I h) fun v s1 ⟨x, H1, I1, r1, ⟨p, ob, xs, ex, hp, hc, hd⟩, q1⟩ => ?_)
  subst ex
  have r1' := r1
  cases r1
  obtain ⟨hg, _⟩ := I1.hok p _ hp
  refine ⟨"tuple", id, PySem.F.plainAttrs_tuple, slot, hty, ⟨ob, hg, hc⟩, fun a e => ?_, ?_⟩
  · cases e
    exact ⟨ob, hg, hd⟩
  have hA := ha.run cpos pins s1 σ H1 _ I1 q1
  rw [hs] at hA ⊢
  refine Calls.callWith_builtin (by show (false || (backTo cpos (starEach es X.env)).any (·.1)) = false; rw [hplain] <;> rfl) (Calls.evalArgs_plain ?_)
  exact thn hA fun us s2 ⟨vs, H2, I2, r2, q2⟩ => hm pins s2 σ H2 _ vs _ us Q I2 r1' r2 q2
theorem DE.tix {o e : Expr} {apos cpos : Pos} {Q : DK} (hb : noSuper o = true) (hl : (apos.endLine == cpos.line) = true) (hs : noStar e = true)
    (h : DE X EX o ρ μ fun x μ1 => isTp x ∧ DE X EX e ρ μ1 fun d μ2 => tixD x d μ2 Q) : DE X EX (.Call (.Attribute o "index" apos) [e] [] cpos) ρ μ Q := fun σ H F en m => by
  have hs1 : [e].all noStar = true := by simp [hs]
  refine we_of (pe_bmz PySem.F.slot_tuple_index PySem.F.type_tuple_index mt_tixF pe_we (pa_cons pe_we pa_nil (star_cons hs)) (base_of hb) (few_ok hs1 (by simp)) hl (star_cons hs) (star_any rfl)) ?_
  refine (h σ H F en m).mono fun v H1 ⟨x, F1, μ1, g1, m1, r1, hx, q1⟩ => ?_
  cases x with
  | tpz l =>
    cases r1 with
    | @tpz a ob vs _ f hp hc hd rs =>
      refine ⟨⟨a, ob, vs, rfl, hp, hc, hd⟩, ?_⟩
      refine (q1 σ H1 F1 (en.on g1 m) m1).mono fun u H2 ⟨d, F2, μ2, g2, m2, r2, q2⟩ => ?_
      obtain ⟨f1, f2, q3⟩ := (show d.flat = true ∧ l.all D.flat = true ∧ _ from q2)
      obtain ⟨j, ej, q⟩ := optD_ok q3
      have hq : SqT X.K H2 a vs := (g2.stay m1).tup _ _ (.inl (.inr ⟨_, hp⟩))
      have rs := rs.stay (g2.stay m1)
      obtain ⟨hj, hpj, hno⟩ := List.findIdx?_eq_some_iff_getElem.mp ej
      have hvl := rs.length
      have hz : vs[j]? = some vs[j] := List.getElem?_eq_getElem (by omega)
      have at_ : ∀ (m : Nat) (z : V), vs[m]? = some z → ∃ dz, l[m]? = some dz ∧ eqV z u = dz.eqv d := fun m z hz => by
        obtain ⟨dz, h1, h2⟩ := rs.get' hz
        exact ⟨dz, h1, eqV_D h2 r2 (List.all_eq_true.mp f2 _ (List.mem_of_getElem? h1)) f1⟩
      refine ⟨a, vs, u, j, vs[j], rfl, rfl, hq, flat_V r2 f1, flats_V rs f2, hz, ?_, fun m z' hm hz' => ?_, ?_⟩
      · obtain ⟨dz, h1, h2⟩ := at_ j _ hz
        rw [List.getElem?_eq_getElem hj] at h1
        cases h1
        rw [h2]
        exact hpj
      · obtain ⟨dz, h1, h2⟩ := at_ m _ hz'
        rw [List.getElem?_eq_getElem (by omega)] at h1
        cases h1
        rw [h2]
        have := hno m hm
        simpa using this
      · exact ⟨_, F2, μ2, g1.trans g2, m2, .int _, q⟩
  | _ => exact False.elim hx
/-- tuple(list): a plain new one -/
def kTz (K : PySem.W.Frag) (x : V) (H : Hp) (Q : VK) : Prop :=
  ∃ p xs, x = .ref p ∧ SqL K H p xs ∧ ∀ q ob, H q = none → ob.cls = .type "tuple" → ob.dict = none → Q (.ref q) (upd H q (.frz ob (.tup xs)))
theorem rl_tz (pins : List (Addr × Obj)) (s : Shared) (σ : L2.St) (H : Hp) (x : V) (v : Value) (Q : VK) (I : Inv X pins σ H s) (r : RelV x v) (h : kTz X.K x H Q) :
    wpAny (model X.prog X.w) X.A (call (.type "tuple") [v]) (EP X pins σ Q) X.xe s := by
  obtain ⟨p, xs, rfl, hs, q⟩ := h
  obtain rfl : v = .ref p := r
  obtain ⟨its, rv, pl, hz⟩ := I.list hs
  refine call_tuple_list pl.isList (fun h' hk => ?_) (by rw [List.size_toArray, ← rv.length]; exact hz)
  have I1 : Inv X pins σ H { s with heap := h' } := I.kept (t' := s.toks) hk
  have I2 : Inv X pins σ (upd H h'.objs.size (.frz { cls := .type "tuple", data := .seq its.toArray } (.tup xs))) { s with heap := h'.push { cls := .type "tuple", data := .seq its.toArray } } :=
    I1.laid (t' := s.toks) (fun b o e => Heap.get?_push_of_some _ e) (Nat.le_refl _) (show ObjOk X.prog X.w _ _ _ (.frz _ (.tup xs)) from ⟨Heap.get?_push_size _ rfl, hz, its, rv, IsTup.new _ _⟩)
  exact ⟨.ref h'.objs.size, _, I2, rfl, q _ _ (I1.hok.fresh (Nat.le_refl _)) rfl rfl⟩
theorem DE.tzn (sx : SX G X N sc) {a : Expr} {p pos : Pos} {Q : DK} (hg : gloB sc "tuple" = true) (hs : noStar a = true) (h : DE X EX a ρ μ fun x μ1 => tznD x μ1 Q) : DE X EX (.Call (.Name "tuple" p) [a] [] pos) ρ μ Q := fun σ H F en m => by
  have na := star_cons (es := []) (env := X.env) hs
  have pe : PE X (.Call (.Name "tuple" p) [a] [] pos) (tThen (WE X a) (kTz X.K)) := by
    refine ⟨fun pins s σ H Q I h => ?_⟩
    exact Call_ (ld_blt I (sx.glo hg) (sx.blt _ (by decide +kernel)) boot_tuple (PyProof.Rows.callWith_type1 (one_arg pe_we I h (fun v s2 x H2 I2 r q => rl_tz pins s2 σ H2 x v Q I2 r q) na) na))
  refine we_of pe ?_
  refine (h σ H F en m).mono fun v H1 ⟨x, F1, μ1, g1, m1, r1, q1⟩ => ?_
  obtain ⟨l, e, q⟩ := optD_ok q1
  obtain ⟨b, vs, ev, hs2, rs⟩ := seqL_rd m1 r1 e
  refine ⟨b, vs, ev, hs2, fun qa ob hq hc hd => ?_⟩
  obtain ⟨F2, g2, m2, k2⟩ := new_fz (u := .frz ob (.tup vs)) m1 hq
  exact ⟨.tpz l, F2, μ1, g1.trans g2, m2, .tpz k2 upd_same hc hd (rs.stay (g2.stay m1)), q⟩
theorem lrg_ok {z : Bool} {x y : D} {Q : DK} (h : lrgD z x y μ Q) : ∃ i j, x = .int i ∧ y = .int j ∧ RgOk i j ∧ newL z ((List.range (j - i).toNat).map fun k => .int (i + (k : Nat))) μ Q := by
  cases x with
  | int i => cases y with
    | int j => exact ⟨i, j, rfl, rfl, h⟩
    | _ => exact h.elim
  | _ => exact h.elim
theorem rg_rd {K H F} (i : Int) : ∀ ks : List Nat, RDs K H F (ks.map fun k => V.int (i + (k : Nat))) (ks.map fun k => D.int (i + (k : Nat)))
  | [] => .nil
  | k :: ks => .cons (.int _) (rg_rd i ks)
theorem DE.lrg (sx : SX G X N sc) {z : Bool} {a b : Expr} {p p2 p3 pos : Pos} {Q : DK} (hg : gloB sc "list" = true) (hg2 : gloB sc "range" = true) (hs : noStar a = true) (hs2 : noStar b = true)
    (h : DE X EX a ρ μ fun x μ1 => DE X EX b ρ μ1 fun y μ2 => lrgD z x y μ2 Q) : DE X EX (.Call (.Name "list" p) [.Call (.Name "range" p2) [a, b] [] p3] [] pos) ρ μ Q := fun σ H F en m => by
  refine we_of (pe_listRg sx.calm (sx.glo hg) (sx.blt _ (by decide +kernel)) (prg_2 (sx.glo hg2) (sx.blt _ (by decide +kernel)) pe_we pe_we (by rw [star_cons hs, star_cons hs2]) (by rw [star_cons hs2]) (by rw [star_cons hs2]; rfl)) (star_cons (by rfl))) ?_
  refine (h σ H F en m).mono fun v H1 ⟨x, F1, μ1, g1, m1, r1, q1⟩ => ?_
  refine (q1 σ H1 F1 (en.on g1 m) m1).mono fun u H2 ⟨y, F2, μ2, g2, m2, r2, q2⟩ => ?_
  obtain ⟨i, j, ex, ey, ok, q⟩ := lrg_ok q2
  subst ex ey
  cases r1
  cases r2
  exact ⟨i, j, rfl, rfl, ok, newL_ok (Qv := fun v H' => Post X.K H F μ Q v H') m2 (rg_rd i _) q fun v H' p => p.pre (g1.trans g2)⟩
end
end DL
/-! sorted(l, key=lambda row: row[column - 1], reverse=b) by data. -/
namespace DL
open PySem PySem.Spec PyProof.Rows L2
/-! ### the text looked at -/
structure SkV where
  fn : Str
  e : Expr
  row : Str
  col : Str
  scope : Scope
  b : Bool
def skBody : Expr → Option (Str × Str)
  | .Subscript (.Name row _) (.BinOp (.Name col _) .Sub (.Constant (.int n) _ _) _) _ => if n = 1 then some (row, col) else none
  | _ => none
def skLam : Keyword → Option (Str × Str × Scope)
  | ⟨some k, .Lambda ⟨[], [⟨r, none, _⟩], none, [], [], none, []⟩ body scope _, _⟩ => if k = "key" then (match skBody body with
    | some (row, col) => if r = row then some (row, col, scope) else none
    | none => none) else none
  | _ => none
def skRev : List Keyword → Option Bool
  | [] => some false
  | [⟨some k, .Constant (.bool b) _ _, _⟩] => if k = "reverse" then some b else none
  | _ => none
def skOf : Expr → Option SkV
  | .Call (.Name f _) [e] (k :: ks) _ => (match skLam k with
    | some (row, col, scope) => (match skRev ks with
      | some b => some ⟨f, e, row, col, scope, b⟩
      | none => none)
    | none => none)
  | _ => none
theorem skBody_ok {x : Expr} {row col : Str} (h : skBody x = some (row, col)) : ∃ p1 p2 p3 p4 p5 j, x = SkL.keyB row col p1 p2 p3 p4 p5 j := by
  unfold skBody at h
  split at h
  · split at h
    · rename_i hn
      cases h
      subst hn
      exact ⟨_, _, _, _, _, _, rfl⟩
    · cases h
  · cases h
theorem skLam_ok {k : Keyword} {row col : Str} {scope : Scope} (h : skLam k = some (row, col, scope)) : ∃ p1 p2 p3 p4 p5 j ap lpos kpos, k = ⟨some "key", .Lambda ⟨[], [⟨row, none, ap⟩], none, [], [], none, []⟩ (SkL.keyB row col p1 p2 p3 p4 p5 j) scope lpos, kpos⟩ := by
  unfold skLam at h
  split at h
  · split at h
    · rename_i hk
      split at h
      · rename_i hb
        split at h
        · rename_i hr
          cases h
          subst hr hk
          obtain ⟨p1, p2, p3, p4, p5, j, rfl⟩ := skBody_ok hb
          exact ⟨p1, p2, p3, p4, p5, j, _, _, _, rfl⟩
        · cases h
      · cases h
    · cases h
  · cases h
theorem skRev_ok {ks : List Keyword} {b : Bool} (h : skRev ks = some b) : (ks = [] ∧ b = false) ∨ ∃ k p kp, ks = [⟨some "reverse", .Constant (.bool b) k p, kp⟩] := by
  unfold skRev at h
  split at h
  · cases h; exact .inl ⟨rfl, rfl⟩
  · split at h
    · rename_i hk
      cases h
      subst hk
      exact .inr ⟨_, _, _, rfl⟩
    · cases h
  · cases h
theorem skOf_ok {x : Expr} {v : SkV} (h : skOf x = some v) : ∃ p pos p1 p2 p3 p4 p5 j ap lpos kpos ks, x = .Call (.Name v.fn p) [v.e] (⟨some "key", .Lambda ⟨[], [⟨v.row, none, ap⟩], none, [], [], none, []⟩ (SkL.keyB v.row v.col p1 p2 p3 p4 p5 j) v.scope lpos, kpos⟩ :: ks) pos ∧
    ((ks = [] ∧ v.b = false) ∨ ∃ k p kp, ks = [⟨some "reverse", .Constant (.bool v.b) k p, kp⟩]) := by
  unfold skOf at h
  split at h
  · split at h
    · rename_i hl
      split at h
      · rename_i hr
        cases h
        obtain ⟨p1, p2, p3, p4, p5, j, ap, lpos, kpos, rfl⟩ := skLam_ok hl
        exact ⟨_, _, p1, p2, p3, p4, p5, j, ap, lpos, kpos, _, rfl, skRev_ok hr⟩
      · cases h
    · cases h
  · cases h
def lamRB (sc scope : Scope) (row col : Str) : Bool := decide (scope.kind = .function) && (!scope.isCoroutine && (!scope.isGenerator && (scope.names.all (fun y => !decide (y.2 = .cell)) && (decide (scope.names.lookup row = some .local) && (decide (scope.names.lookup col = some .free) &&
  (scope.names.all (fun y => !decide (y.2 = .free) || (decide (sc.names.lookup y.1 = some .cell) || decide (sc.names.lookup y.1 = some .free))) && (!(row == ("__debug__" : Str)) && (!(col == ("__debug__" : Str)) && !(col == ("__classdict__" : Str))))))))))
theorem bn' {a : Bool} (h : (!a) = true) : a = false := by cases a <;> first | rfl | cases h
theorem lamRB_ok {sc scope : Scope} {row col : Str} (h : lamRB sc scope row col = true) : SkL.LamR sc scope row col := by
  obtain ⟨h1, h⟩ := b2' h
  obtain ⟨h2, h⟩ := b2' h
  obtain ⟨h3, h⟩ := b2' h
  obtain ⟨h4, h⟩ := b2' h
  obtain ⟨h5, h⟩ := b2' h
  obtain ⟨h6, h⟩ := b2' h
  obtain ⟨h7, h⟩ := b2' h
  obtain ⟨h8, h⟩ := b2' h
  obtain ⟨h9, h10⟩ := b2' h
  refine ⟨of_decide_eq_true h1, bn' h2, bn' h3, fun y hy e => ?_, of_decide_eq_true h5, of_decide_eq_true h6, fun y hy e => ?_, bn' h8, bn' h9, bn' h10⟩
  · have q := List.all_eq_true.mp h4 y hy
    rw [decide_eq_true e] at q
    cases q
  · have q := List.all_eq_true.mp h7 y hy
    rw [decide_eq_true e, Bool.not_true, Bool.false_or, Bool.or_eq_true, decide_eq_true_eq, decide_eq_true_eq] at q
    exact q
/-! ### the items -/
section
variable {K : PySem.W.Frag} {H : Hp} {F : Addr → Prop}
theorem RDs.atI {vs : List V} {ds : List D} {i : Int} {d : D} (r : RDs K H F vs ds) (h : atI ds i = some d) : ∃ v, L2.atI vs i = some v ∧ RD K H F v d := by
  unfold L2.atI at h ⊢
  rw [r.length]
  cases e : ixN ds.length i with
  | none => rw [e] at h; cases h
  | some j =>
    rw [e] at h
    exact r.get h
theorem kyD_rd {v : V} {y d : D} {n : Int} (r : RD K H F v y) (h : kyD n y = d) (nd : d ≠ .non) : ∃ t vs z, v = .ref t ∧ SqT K H t vs ∧ L2.atI vs (n - 1) = some z ∧ RD K H F z d := by
  have key : ∀ (ds : List D) (vs : List V), RDs K H F vs ds → (atI ds (n - 1)).getD .non = d → ∃ z, L2.atI vs (n - 1) = some z ∧ RD K H F z d := fun ds vs rs e => by
    cases e2 : atI ds (n - 1) with
    | none => rw [e2] at e; exact absurd e.symm nd
    | some d2 =>
      rw [e2] at e
      have e : d2 = d := e
      subst e
      exact rs.atI e2
  cases r with
  | tup ht rs => obtain ⟨z, h1, h2⟩ := key _ _ rs h; exact ⟨_, _, z, rfl, ht, h1, h2⟩
  | tpl f ht rs => obtain ⟨z, h1, h2⟩ := key _ _ rs h; exact ⟨_, _, z, rfl, .inl (.inl ht), h1, h2⟩
  | tpz f ht _ _ rs => obtain ⟨z, h1, h2⟩ := key _ _ rs h; exact ⟨_, _, z, rfl, .inl (.inr ⟨_, ht⟩), h1, h2⟩
  | _ => exact absurd h.symm nd
theorem RDs.zip {vs : List V} {ds : List D} (r : RDs K H F vs ds) : ∀ p ∈ vs.zip ds, RD K H F p.1 p.2 := by
  intro p hp
  obtain ⟨i, hi⟩ := List.getElem?_of_mem hp
  rw [List.getElem?_zip_eq_some] at hi
  obtain ⟨v, h1, h2⟩ := r.get hi.2
  rw [hi.1] at h1
  cases h1
  exact h2
theorem RDs.of_pairs : ∀ {l : List (V × D)}, (∀ p ∈ l, RD K H F p.1 p.2) → RDs K H F (l.map (·.1)) (l.map (·.2))
  | [], _ => .nil
  | p :: l, h => .cons (h p List.mem_cons_self) (RDs.of_pairs fun q hq => h q (List.mem_cons_of_mem _ hq))
end
theorem kyLe_data {b : Bool} {d e : D} (h : (∃ i j, d = .int i ∧ e = .int j) ∨ ∃ x y, d = .str x ∧ e = .str y) : PySem.W.dataLe b (fun y : V × PyData => y.2) (v, d.py) (u, e.py) = kyLe b d e := by
  rcases h with ⟨i, j, rfl, rfl⟩ | ⟨x, y, rfl, rfl⟩
  · cases b with
    | false => exact congrFun (congrFun (PySem.W.dataLe_int (β := Int) id) i) j
    | true => exact congrFun (congrFun (PySem.W.dataGe_int (β := Int) id) i) j
  · cases b with
    | false => exact congrFun (congrFun (PySem.W.dataLe_str (β := Str) id) x) y
    | true => exact congrFun (congrFun (PySem.W.dataGe_str (β := Str) id) x) y
theorem mset_same_eq {μ : Mem} {P : Addr} {o : MO} (h : μ P = some o) : mset μ P o = μ := by
  funext c
  unfold mset
  split
  · rename_i e; rw [e, h]
  · rfl
section
variable {G : Gc} {X : Cx} {EX : EK} {N : List Str} {sc : Scope} {ρ : Rho} {μ : Mem}
/-- behind the lambda's making -/
theorem made_ok {K : PySem.W.Frag} {H : Hp} {F : Addr → Prop} {P c' : Addr} {q : Str} {ps : Array Value} {H2 : Hp} (m : MS K H F μ) (hP : μ P = some (.tab q)) (hH : H P = some (.tbl ps)) (hk : ∀ (pos : Pos) (cv : Value), codeAmong pos ps.toList = some cv → ∃ c, cv = .ref c ∧ F c ∧ H c = some (LamX.CodeO c q))
    (h : SkL.Made H P q ps c' H2) : ∃ F2, Grow H F μ H2 F2 μ ∧ MS K H2 F2 μ ∧ H2 c' = some (LamX.CodeO c' q) := by
  cases h with
  | old h => exact ⟨F, .refl, m, h⟩
  | new ps' hn ne ht hk' =>
    obtain ⟨F1, g1, m1, f1⟩ := new_fz (u := LamX.CodeO c' q) m hn
    have ro : RO K (upd H c' (LamX.CodeO c' q)) F1 (.tab q) (.tbl ps') := by
      refine ⟨ps', rfl, ht, fun pos cv hc => ?_⟩
      rcases hk' pos cv hc with z | ⟨pos2, z⟩
      · exact ⟨c', z, f1, upd_same⟩
      · obtain ⟨c, e1, e2, e3⟩ := hk pos2 cv z
        exact ⟨c, e1, g1.fr c e2, by rw [upd_ne (ne_of_none e3 hn)]; exact e3⟩
    obtain ⟨g2, m2⟩ := write_mo m1 hP ro
    rw [mset_same_eq hP] at g2 m2
    have e : upd (upd H c' (LamX.CodeO c' q)) P (.tbl ps') = upd (upd H P (.tbl ps')) c' (LamX.CodeO c' q) := by
      funext b
      unfold upd
      by_cases h1 : b = P
      · rw [if_pos h1, if_neg (fun z => ne (z.symm.trans h1)), if_pos h1]
      · rw [if_neg h1, if_neg h1]
    rw [e] at g2 m2
    exact ⟨F1, g1.trans g2, m2, upd_same⟩
theorem sk_pairs {K : PySem.W.Frag} {H : Hp} {F : Addr → Prop} {vs : List V} {l : List D} {n : Int} {b : Bool} (r : RDs K H F vs l) (hk : kyI n l ∨ kyS n l) :
    ∃ ys : List (V × PyData), ys.map (·.1) = vs ∧ (∀ y ∈ ys, ∃ t ws z, y.1 = .ref t ∧ SqT K H t ws ∧ L2.atI ws (n - 1) = some z ∧ SkL.KeyV z y.2) ∧ PySem.W.AllAlike (ys.map (·.2)) ∧ PySem.W.Sortable (ys.map (·.2)) ∧
      RDs K H F ((ys.mergeSort (PySem.W.dataLe b fun y : V × PyData => y.2)).map (·.1)) (l.mergeSort fun u v => kyLe b (kyD n u) (kyD n v)) := by
  let f : V × D → V × PyData := fun p => (p.1, (kyD n p.2).py)
  have hz := r.zip
  have hl := r.length
  have m1 : (vs.zip l).map (·.1) = vs := List.map_fst_zip (by omega)
  have m2 : (vs.zip l).map (·.2) = l := List.map_snd_zip (by omega)
  have mem2 : ∀ p ∈ vs.zip l, p.2 ∈ l := fun p hp => (List.of_mem_zip hp).2
  have same : ∀ p ∈ vs.zip l, ∀ p' ∈ vs.zip l, (∃ i j, kyD n p.2 = .int i ∧ kyD n p'.2 = .int j) ∨ ∃ x y, kyD n p.2 = .str x ∧ kyD n p'.2 = .str y := fun p hp p' hp' => by
    rcases hk with h | h
    · obtain ⟨i, hi⟩ := h _ (mem2 p hp)
      obtain ⟨j, hj⟩ := h _ (mem2 p' hp')
      exact .inl ⟨i, j, hi, hj⟩
    · obtain ⟨i, hi⟩ := h _ (mem2 p hp)
      obtain ⟨j, hj⟩ := h _ (mem2 p' hp')
      exact .inr ⟨i, j, hi, hj⟩
  refine ⟨(vs.zip l).map f, ?_, fun y hy => ?_, fun d hd d' hd' => ?_, ?_, ?_⟩
  · rw [List.map_map]
    exact m1
  · obtain ⟨p, hp, rfl⟩ := List.mem_map.mp hy
    have rd := hz p hp
    rcases same p hp p hp with ⟨i, _, hi, _⟩ | ⟨x, _, hx, _⟩
    · obtain ⟨t, ws, z, e1, e2, e3, e4⟩ := kyD_rd rd hi (by intro z; cases z)
      cases e4
      exact ⟨t, ws, _, e1, e2, e3, by show SkL.KeyV _ (kyD n p.2).py; rw [hi]; exact .int i⟩
    · obtain ⟨t, ws, z, e1, e2, e3, e4⟩ := kyD_rd rd hx (by intro z; cases z)
      cases e4
      exact ⟨t, ws, _, e1, e2, e3, by show SkL.KeyV _ (kyD n p.2).py; rw [hx]; exact .str x⟩
  · obtain ⟨y, hy, rfl⟩ := List.mem_map.mp hd
    obtain ⟨y', hy', rfl⟩ := List.mem_map.mp hd'
    obtain ⟨p, hp, rfl⟩ := List.mem_map.mp hy
    obtain ⟨p', hp', rfl⟩ := List.mem_map.mp hy'
    show PySem.W.alike (kyD n p.2).py (kyD n p'.2).py = true
    rcases same p hp p' hp' with ⟨i, j, h1, h2⟩ | ⟨x, y, h1, h2⟩
    · rw [h1, h2]; rfl
    · rw [h1, h2]; rfl
  · refine .inr fun d hd => ?_
    obtain ⟨y, hy, rfl⟩ := List.mem_map.mp hd
    obtain ⟨p, hp, rfl⟩ := List.mem_map.mp hy
    show (kyD n p.2).py ≠ .none ∧ ∀ xs, (kyD n p.2).py ≠ .tuple xs
    rcases same p hp p hp with ⟨i, _, h1, _⟩ | ⟨x, _, h1, _⟩
    · rw [h1]; exact ⟨fun z => (by cases z), fun _ z => (by cases z)⟩
    · rw [h1]; exact ⟨fun z => (by cases z), fun _ z => (by cases z)⟩
  · let R : V × D → V × D → Bool := fun p p' => kyLe b (kyD n p.2) (kyD n p'.2)
    have e1 : ((vs.zip l).mergeSort R).map f = ((vs.zip l).map f).mergeSort (PySem.W.dataLe b fun y : V × PyData => y.2) := PySem.W.sort_maps f fun p hp p' hp' => (kyLe_data (same p hp p' hp')).symm
    have e2 : ((vs.zip l).mergeSort R).map (·.2) = l.mergeSort fun u v => kyLe b (kyD n u) (kyD n v) := by
      rw [PySem.W.sort_maps (s := fun u v => kyLe b (kyD n u) (kyD n v)) Prod.snd (fun _ _ _ _ => rfl), m2]
    rw [← e1, ← e2, List.map_map]
    exact RDs.of_pairs fun p hp => hz p ((List.mergeSort_perm _ _).mem_iff.mp hp)
theorem DE.skey (sx : SX G X N sc) {z b : Bool} {i : Nat} {x : Expr} {v : SkV} {Q : DK} (hv : skOf x = some v) (hf : v.fn = "sorted") (hrow : v.row = "row") (hg : gloB sc "sorted" = true) (hs : noStar v.e = true) (hb : v.b = b) (hN : N[i]? = some v.col) (hl : lamRB sc v.scope v.row v.col = true)
    (h : DE X EX v.e ρ μ fun x μ1 => getV ρ i fun c => skD G.tb z b x c μ1 Q) : DE X EX x ρ μ Q := fun σ H F en m => by
  have L := lamRB_ok hl
  have hd : DA X EX [v.e] ρ μ fun ds μ1 => oneD ds fun x => getV ρ i fun c => skD G.tb z b x c μ1 Q := .cons (star_cons hs) (by
    intro σ H F en m
    refine (h σ H F en m).mono fun v H1 ⟨d, F1, μ1, g1, m1, r1, q1⟩ => ⟨d, F1, μ1, g1, m1, r1, .nil q1⟩)
  obtain ⟨p, pos, p1, p2, p3, p4, p5, j, ap, lpos, kpos, ks, ex, hks⟩ := skOf_ok hv
  subst ex
  -- the lambda's making, whatever comes behind
  have main : ∀ (zs0 : List V) (tk : TA), (∀ (H1 : Hp) (Q' : List V → Hp → Prop), (∃ (P : Addr) (ps : Array Value), H1 P = some (.tbl ps) ∧ SkL.TabOk H1 (SkL.lamQ X) ps ∧ G.tb = some (P, SkL.lamQ X) ∧
        ∀ (f c' : Addr) (pm ctv : Value) (H2 : Hp), SkL.Made H1 P (SkL.lamQ X) ps c' H2 → H2 f = none → Q' (.ref f :: zs0) (upd H2 f (SkL.LamO f (SkL.lamObj X ⟨[], [⟨v.row, none, ap⟩], none, [], [], none, []⟩ (SkL.keyB v.row v.col p1 p2 p3 p4 p5 j) v.scope pm c' ctv)))) → tk σ H1 Q') →
      WA X [v.e] σ H fun vs H1 => tk σ H1 fun zs H2 => SkL.rSk X i v.row v.col p1 p2 p3 p4 p5 j ⟨[], [⟨v.row, none, ap⟩], none, [], [], none, []⟩ v.scope b zs0 σ vs zs H2 (Post X.K H F μ Q) := fun zs0 tk htk => by
    refine (hd σ H F en m).mono fun vs H1 ⟨ds, F1, μ1, g1, m1, r1, q1⟩ => ?_
    obtain ⟨x, rfl, q1⟩ := one_ds q1
    obtain ⟨u, rfl, ru⟩ := one_of r1
    obtain ⟨c, hc, q1⟩ := getV_ok q1
    unfold skD at q1
    obtain ⟨⟨P, q⟩, etb, eP, q1⟩ := optD_ok q1
    obtain ⟨l, el, q1⟩ := optD_ok q1
    obtain ⟨cd, _, _, eq0⟩ := sx.tb P q etb
    have eq1 : q = SkL.lamQ X := eq0
    subst eq1
    obtain ⟨vc, hvc, rvc⟩ := (en.on g1 m).toREnv.at_ i c hc
    cases c with
    | int n =>
      cases rvc
      obtain ⟨kk, q1⟩ := q1
      obtain ⟨nF, ut, hut, ps, rfl, ht, hcodes⟩ := m1.at_ P _ eP
      refine htk H1 _ ⟨P, ps, hut, ⟨ht, fun pos cv hcv => let ⟨c0, y1, _, y2⟩ := hcodes pos cv hcv; ⟨c0, y1, y2⟩⟩, etb, fun f c' pm ctv H2 made nf => ?_⟩
      obtain ⟨F2, g2, m2, hc2⟩ := made_ok m1 eP hut hcodes made
      obtain ⟨g3, m3⟩ := new_un (u := SkL.LamO f (SkL.lamObj X ⟨[], [⟨v.row, none, ap⟩], none, [], [], none, []⟩ (SkL.keyB v.row v.col p1 p2 p3 p4 p5 j) v.scope pm c' ctv)) m2 nf
      have g := g2.trans g3
      have r3 := ru.stay (g.stay m1)
      obtain ⟨a, ws, ea, sl, rs⟩ := seqL_rd m3 r3 el
      subst ea
      obtain ⟨ys, e1, items, al, so, rsort⟩ := sk_pairs (b := b) rs kk
      have cf : c' ≠ f := fun z => by rw [z, nf] at hc2; cases hc2
      refine ⟨f, a, c', pm, ctv, n, ys, rfl, rfl, upd_same, by rw [upd_ne cf]; exact hc2, by rw [e1]; exact sl, hvc, items, al, so, ?_⟩
      exact newL_ok m3 rsort q1 fun v H' pq => (pq.pre g).pre g1
    | _ => exact q1.elim
  have hbind : ∀ (q : Str) (cl : List (Str × Addr)) (pm cv ctv u : Value), bindArgs (PySem.W.kla_fn "<lambda>" q ⟨[], [⟨v.row, none, ap⟩], none, [], [], none, []⟩ (SkL.keyB v.row v.col p1 p2 p3 p4 p5 j) v.scope cl pm cv ctv) ⟨[u], []⟩ = pure [(v.row, u)] := fun _ _ _ _ _ _ => by rw [hrow]; rfl
  have he : backTo pos (starEach [v.e] X.env) = (false, eval v.e X.env) :: backTo pos (starEach [] X.env) := by rw [star_cons hs]; rfl
  have hm : X.mg v.fn = none := by rw [hf]; exact sx.blt _ (by decide +kernel)
  have gl : Gl X v.fn := by rw [hf]; exact sx.glo hg
  have hN2 : X.N[i]? = some v.col := by rw [sx.hN]; exact hN
  have L2 : SkL.LamR X.env.scope v.scope v.row v.col := by rw [sx.esc]; exact L
  have hfree : X.Ok → ∀ y ∈ v.scope.names, y.2 = .free → ∃ c, X.env.cells.lookup y.1 = some c := fun ok y hy e => by
    rcases L2.free y hy e with k | k
    · exact ok.has _ (.inl k)
    · exact ok.has _ (.inr k)
  rcases hks with ⟨rfl, eb⟩ | ⟨k, rp, kp, rfl⟩
  · obtain rfl : false = b := by rw [← eb, hb]
    cases etb : G.tb with
    | none => exact we_of (SkL.pe_sk1 (tk := fun _ _ _ => False) hf gl hm pa_wa ⟨fun _ _ _ _ _ _ _ z => z.elim⟩ hN2 L2 hbind sx.rm2 he) (main [] (fun _ _ _ => False) fun H1 Q' ⟨P, ps, _, _, z, _⟩ => by rw [etb] at z; cases z)
    | some t =>
      obtain ⟨P, q⟩ := t
      obtain ⟨cd, hcode, TB, eq0⟩ := sx.tb P q etb
      refine we_of (SkL.pe_sk1 hf gl hm pa_wa (pk_cons (SkL.pe_lamV TB hcode rfl hfree) pk_nil) hN2 L2 hbind sx.rm2 he) (main [] _ fun H1 Q' ⟨P2, ps, hP, tab, z, kk⟩ => ?_)
      rw [etb] at z
      cases z
      exact ⟨ps, hP, tab, fun f c' pm ctv H2 made nf => kk f c' pm ctv H2 made nf⟩
  · subst hb
    cases etb : G.tb with
    | none => exact we_of (SkL.pe_sk2 (tk := fun _ _ _ => False) hf gl hm pa_wa ⟨fun _ _ _ _ _ _ _ z => z.elim⟩ hN2 L2 hbind sx.rm2 he) (main [.bl v.b] (fun _ _ _ => False) fun H1 Q' ⟨P, ps, _, _, z, _⟩ => by rw [etb] at z; cases z)
    | some t =>
      obtain ⟨P, q⟩ := t
      obtain ⟨cd, hcode, TB, eq0⟩ := sx.tb P q etb
      refine we_of (SkL.pe_sk2 hf gl hm pa_wa (pk_cons (SkL.pe_lamV TB hcode rfl hfree) (pk_cons pe_bl pk_nil)) hN2 L2 hbind sx.rm2 he) (main [.bl v.b] _ fun H1 Q' ⟨P2, ps, hP, tab, z, kk⟩ => ?_)
      rw [etb] at z
      cases z
      exact ⟨ps, hP, tab, fun f c' pm ctv H2 made nf => kk f c' pm ctv H2 made nf⟩
end
end DL
/-! for x in reversed(a list or a tuple). -/
namespace DL
open PySem PySem.Spec PyProof.Rows L2
section
variable {G : Gc} {X : Cx} {N : List Str} {sc : Scope} {ρ : Rho} {μ : Mem}
theorem rev_get {α : Type} {l : List α} {i : Nat} (h : i < l.length) : l.reverse[i]? = l[l.length - 1 - i]? := List.getElem?_reverse h
theorem walks_revL {K : PySem.W.Frag} {a : Addr} {l : List D} {n : Nat} (hn : n = l.length) {ok : Mem → Prop} {H1 : Hp} {F1 : Addr → Prop} {μ1 : Mem}
    (hL : ∀ H F μ, Grow H1 F1 μ1 H F μ → MS K H F μ → ok μ → ∃ vs, SqL K H a vs ∧ RDs K H F vs l) : Walks K (Itv K a n) l.reverse ok H1 F1 μ1 where
  go := fun i H F μ hi g m o => by
    obtain ⟨vs, h, r⟩ := hL H F μ g m o
    rw [List.length_reverse] at hi
    have hv : n - 1 - i < vs.length := by rw [r.length]; omega
    exact ⟨by omega, vs, vs[n - 1 - i], h, List.getElem?_eq_getElem hv⟩
  stop := fun H F μ g m o => by
    show n ≤ l.reverse.length
    rw [List.length_reverse, hn]
    exact Nat.le_refl _
  yld := fun i H F μ x H' hi g m o y => by
    obtain ⟨vs, h, r⟩ := hL H F μ g m o
    obtain ⟨rfl, hv⟩ := y
    rw [List.length_reverse] at hi
    obtain ⟨d, h1, h2⟩ := r.get' (hv vs h)
    exact ⟨d, by rw [rev_get hi, ← hn]; exact h1, .refl, m, h2⟩
theorem walks_revT {K : PySem.W.Frag} {a : Addr} {l : List D} {n : Nat} (hn : n = l.length) {ok : Mem → Prop} {H1 : Hp} {F1 : Addr → Prop} {μ1 : Mem}
    (hL : ∀ H F μ, Grow H1 F1 μ1 H F μ → MS K H F μ → ok μ → ∃ vs, SqT K H a vs ∧ RDs K H F vs l) : Walks K (RT.ItvT K a n) l.reverse ok H1 F1 μ1 where
  go := fun i H F μ hi g m o => by
    obtain ⟨vs, h, r⟩ := hL H F μ g m o
    rw [List.length_reverse] at hi
    have hv : n - 1 - i < vs.length := by rw [r.length]; omega
    exact ⟨by omega, vs, vs[n - 1 - i], h, List.getElem?_eq_getElem hv⟩
  stop := fun H F μ g m o => by
    show n ≤ l.reverse.length
    rw [List.length_reverse, hn]
    exact Nat.le_refl _
  yld := fun i H F μ x H' hi g m o y => by
    obtain ⟨vs, h, r⟩ := hL H F μ g m o
    obtain ⟨rfl, hv⟩ := y
    rw [List.length_reverse] at hi
    obtain ⟨d, h1, h2⟩ := r.get' (hv vs h)
    exact ⟨d, by rw [rev_get hi, ← hn]; exact h1, .refl, m, h2⟩
theorem DI.rev (sx : SX G X N sc) {tg a : Expr} {p pos : Pos} {R : IK} (hg : gloB sc "reversed" = true) (hs : noStar a = true) (h : DE X EX a ρ μ fun x μ1 => revIt x μ1 R) :
    DI X EX tg (.Call (.Name "reversed" p) [a] [] pos) ρ μ R := fun σ H F en m => by
  refine wi_of (RT.pi_revA (sx.glo hg) (sx.blt _ (by decide +kernel)) pe_we (star_cons hs)) ?_
  refine (h σ H F en m).mono fun v H1 ⟨x, F1, μ1, g1, m1, r1, q⟩ => ?_
  unfold revIt at q
  cases r1 with
  | tup t rs =>
    exact ⟨_, _, rfl, .inr ⟨t, _, _, F1, μ1, g1, m1, walks_revT rs.length (fun H F μ g m o => ⟨_, (g.stay m1).tup _ _ t, rs.stay (g.stay m1)⟩), q⟩⟩
  | tpz f t _ _ rs =>
    exact ⟨_, _, rfl, .inr ⟨.inl (.inr ⟨_, t⟩), _, _, F1, μ1, g1, m1, walks_revT rs.length (fun H F μ g m o => ⟨_, (g.stay m1).tup _ _ (.inl (.inr ⟨_, t⟩)), rs.stay (g.stay m1)⟩), q⟩⟩
  | lst f hd rs =>
    exact ⟨_, _, rfl, .inl ⟨.inl (.inl hd), _, _, F1, μ1, g1, m1, walks_revL rs.length (fun H F μ g m o => ⟨_, sql_keep m1 g f hd, rs.stay (g.stay m1)⟩), q⟩⟩
  | lk hk rs =>
    have hq : ∀ H F μ, Grow H1 F1 μ1 H F μ → SqL X.K H _ _ := fun H F μ g => hk.elim (fun ⟨o, z⟩ => .inl (.inr ⟨o, (g.stay m1).lk _ _ _ z⟩)) .inr
    exact ⟨_, _, rfl, .inl ⟨hq _ _ _ .refl, _, _, F1, μ1, g1, m1, walks_revL rs.length (fun H F μ g m o => ⟨_, hq H F μ g, rs.stay (g.stay m1)⟩), q⟩⟩
  | ref a =>
    obtain ⟨l, e2, q⟩ := optD_ok (show optD (seqL μ1 (.ref a)) _ from q)
    obtain ⟨_, u, hu, vs, eu, rs⟩ := m1.at_ a _ (seqL_ref e2)
    subst eu
    refine ⟨_, _, rfl, .inl ⟨.inl (.inl hu), _, _, F1, μ1, g1, m1, walks_revL rs.length (fun H F μ g m o => ?_), q⟩⟩
    obtain ⟨_, u, hu, vs, eu, rs⟩ := m.at_ a _ (seqL_ref o)
    subst eu
    exact ⟨vs, .inl (.inl hu), rs⟩
  | _ => exact False.elim q
end
end DL
/-! How a program lies over the syntax; what it wants is enough. -/
namespace DL
open PySem PySem.Spec PyProof.Rows L2
def ownOf (N : List Str) (t : T) : List (Str × Nat) := t.slots.map fun i => (N.getD i Str.empty, i)
theorem ownOf_slots (N : List Str) (t : T) : (ownOf N t).map (·.2) = t.slots := by
  unfold ownOf
  rw [List.map_map]
  exact List.map_id' _
theorem DE.emp {X : Cx} {EX : EK} {ρ : Rho} {μ : Mem} {pos : Pos} {Q : DK} (q : Q .emp μ) : DE X EX (.Dict [] [] pos) ρ μ Q := fun σ H F e m => we_of pe_dnewK fun d hd => by
  obtain ⟨F', g, m', f⟩ := new_fz (u := .dK []) m hd
  exact ⟨.emp, F', μ, g, m', .emp f upd_same, q⟩
mutual
def chkE (has : Str → Bool) (N : List Str) : E → Scope → Expr → Bool
  | .v i, sc, x => (match x with
    | .Name n _ => decide (N[i]? = some n) && (visB sc n && nmB n)
    | _ => false)
  | .g g, sc, x => (match x with
    | .Name n _ => decide (n = g) && (gloB sc g && nmB g)
    | _ => false)
  | .non, _, x => (match x with
    | .Constant .none _ _ => true
    | _ => false)
  | .bl b, _, x => (match x with
    | .Constant (.bool c) _ _ => decide (c = b)
    | _ => false)
  | .int i, _, x => (match x with
    | .Constant (.int j) _ _ => decide (j = i)
    | _ => false)
  | .str s, _, x => (match x with
    | .Constant (.str t) _ _ => decide (t = s)
    | _ => false)
  | .bin _ o a b, sc, x => (match x with
    | .BinOp l op r _ => decide (op = o.op) && (chkE has N a sc l && chkE has N b sc r)
    | _ => false)
  | .neg a, sc, x => (match x with
    | .UnaryOp .USub l _ => chkE has N a sc l
    | _ => false)
  | .cmp o a b, sc, x => (match x with
    | .Compare l [op] [r] _ => decide (op = o.op) && (!isSetE r && (chkE has N a sc l && chkE has N b sc r))
    | _ => false)
  | .chain o o' a b c, sc, x => (match x with
    | .Compare l [op, op'] [r, t] _ => decide (op = o.op) && (decide (op' = o'.op) && (!isSetE t && (chkE has N a sc l && (chkE has N b sc r && chkE has N c sc t))))
    | _ => false)
  | .and a b, sc, x => (match x with
    | .BoolOp .And (l :: r :: rest) p => chkE has N a sc l && (match rest with
      | [] => chkE has N b sc r
      | t :: ts => chkE has N b sc (.BoolOp .And (r :: t :: ts) p))
    | _ => false)
  | .or a b, sc, x => (match x with
    | .BoolOp .Or (l :: r :: rest) p => chkE has N a sc l && (match rest with
      | [] => chkE has N b sc r
      | t :: ts => chkE has N b sc (.BoolOp .Or (r :: t :: ts) p))
    | _ => false)
  | .not a, sc, x => (match x with
    | .UnaryOp .Not l _ => chkE has N a sc l
    | _ => false)
  | .ite t a b, sc, x => (match x with
    | .IfExp c l r _ => chkT has N t sc c && (chkE has N a sc l && chkE has N b sc r)
    | _ => false)
  | .tup es, sc, x => (match x with
    | .Tuple xs _ _ => chkEs has N es sc xs
    | _ => false)
  | .lst _ es, sc, x => (match x with
    | .List xs _ => chkEs has N es sc xs
    | _ => false)
  | .ix a i, sc, x => (match x with
    | .Subscript l r _ => !isSlice r && (chkE has N a sc l && chkE has N i sc r)
    | _ => false)
  | .sl _ a lo hi, sc, x => (match x with
    | .Subscript l (.Slice u v none _) _ => chkE has N a sc l && (chkO has N lo sc u && chkO has N hi sc v)
    | _ => false)
  | .lc _ t it cs elt, sc, x => (match x with
    | .ListComp el [⟨tg, iter, ifs, k⟩] scope _ => decide (k = 0) && (!isSetE iter && (chkI has N it tg sc iter && (tgB N (ownB scope) t tg && (blkC N sc scope (ownOf N t) && (chkTs has N cs (relS scope sc) ifs && chkE has N elt (relS scope sc) el)))))
    | _ => false)
  | .call f es, sc, x => (match x with
    | .Call (.Name g _) xs [] _ => decide (g = f) && (has f && (gloB sc f && (nmB f && chkEs has N es sc xs)))
    | _ => false)
  | .bi _ f es, sc, x => (match x with
    | .Call (.Name g _) (y :: ys) [] _ => decide (g = f.nm) && (gloB sc f.nm && chkEs has N es sc (y :: ys))
    | _ => false)
  | .isi a t, sc, x => (match x with
    | .Call (.Name g _) [y, .Name ty _] [] _ => decide (g = "isinstance") && (decide (ty = t.nm) && (gloB sc "isinstance" && (gloB sc t.nm && (noStar y && chkE has N a sc y))))
    | _ => false)
  | .mkx1 c a, sc, x => (match x with
    | .Call (.Name g _) [y] [] _ => decide (g = c) && (gloB sc c && (nmB c && (noStar y && chkE has N a sc y)))
    | _ => false)
  | .mkx c es, sc, x => (match x with
    | .Call (.Name g _) (y :: ys) [] _ => decide (g = c) && (gloB sc c && (nmB c && chkEs has N es sc (y :: ys)))
    | _ => false)
  | .isx a c, sc, x => (match x with
    | .Call (.Name g _) [y, .Name ty _] [] _ => decide (g = "isinstance") && (decide (ty = c) && (gloB sc "isinstance" && (gloB sc c && (nmB c && (noStar y && chkE has N a sc y)))))
    | _ => false)
  | .atx a f, sc, x => (match x with
    | .Attribute y g _ => decide (g = f) && (noSuper y && chkE has N a sc y)
    | _ => false)
  | .rst a, sc, x => chkE has N a sc x
  | .fzo a, sc, x => chkE has N a sc x
  | .tpd es, sc, x => (match x with
    | .Tuple xs _ _ => chkEs has N es sc xs
    | _ => false)
  | .pl a b, sc, x => (match x with
    | .BinOp l .Add r _ => chkE has N a sc l && chkE has N b sc r
    | _ => false)
  | .mko c es, sc, x => (match x with
    | .Call (.Name g _) (y :: ys) [] _ => decide (g = c) && (gloB sc c && (nmB c && chkEs has N es sc (y :: ys)))
    | _ => false)
  | .meth _ m o es, sc, x => (match x with
    | .Call (.Attribute y nm apos) (z :: zs) [] cpos => decide (nm = m) && (noSuper y && ((apos.endLine == cpos.line) && (decide ((z :: zs).length < 30) && (chkE has N o sc y && chkEs has N es sc (z :: zs)))))
    | _ => false)
  | .dnw _, _, x => (match x with
    | .Dict [] [] _ => true
    | _ => false)
  | .kx o k, sc, x => (match x with
    | .Subscript y i _ => !isSlice i && (chkE has N o sc y && chkE has N k sc i)
    | _ => false)
  | .kget o k d, sc, x => (match x with
    | .Call (.Attribute y nm apos) [u, w] [] cpos => decide (nm = "get") && (noSuper y && ((apos.endLine == cpos.line) && (noStar u && (noStar w && (chkE has N o sc y && (chkE has N k sc u && chkE has N d sc w))))))
    | _ => false)
  | .tix o e, sc, x => (match x with
    | .Call (.Attribute y nm apos) [w] [] cpos => decide (nm = "index") && (noSuper y && ((apos.endLine == cpos.line) && (noStar w && (chkE has N o sc y && chkE has N e sc w))))
    | _ => false)
  | .skey _ b a i, sc, x => (match skOf x with
    | some v => decide (v.fn = "sorted") && (decide (v.row = "row") && (gloB sc "sorted" && (noStar v.e && (decide (v.b = b) && (decide (N[i]? = some v.col) && (lamRB sc v.scope v.row v.col && chkE has N a sc v.e))))))
    | none => false)
  | .lrg _ a b, sc, x => (match x with
    | .Call (.Name g _) [.Call (.Name g2 _) [y, w] [] _] [] _ => decide (g = "list") && (decide (g2 = "range") && (gloB sc "list" && (gloB sc "range" && (noStar y && (noStar w && (chkE has N a sc y && chkE has N b sc w))))))
    | _ => false)
  | .tzn a, sc, x => (match x with
    | .Call (.Name g _) [y] [] _ => decide (g = "tuple") && (gloB sc "tuple" && (noStar y && chkE has N a sc y))
    | _ => false)
  | .kls _ a, sc, x => (match x with
    | .Call (.Name g _) [y] [] _ => decide (g = "list") && (gloB sc "list" && (noStar y && chkE has N a sc y))
    | _ => false)
  | .mt _ m o e, sc, x => (match x with
    | .Call (.Attribute y nm apos) [w] [] cpos => decide (nm = m.nm) && (noSuper y && ((apos.endLine == cpos.line) && (noStar w && (chkE has N o sc y && chkE has N e sc w))))
    | _ => false)
  | .emp, _, x => (match x with
    | .Dict [] [] _ => true
    | _ => false)
  | .sq m o e, sc, x => (match x with
    | .Call (.Attribute y nm apos) [w] [] cpos => decide (nm = m.nm) && (noSuper y && ((apos.endLine == cpos.line) && (noStar w && (chkE has N o sc y && chkE has N e sc w))))
    | _ => false)
  | .popE o, sc, x => (match x with
    | .Call (.Attribute y nm apos) [] [] cpos => decide (nm = "pop") && (noSuper y && ((apos.endLine == cpos.line) && chkE has N o sc y))
    | _ => false)
  | .popI o i, sc, x => (match x with
    | .Call (.Attribute y nm apos) [w] [] cpos => decide (nm = "pop") && (noSuper y && ((apos.endLine == cpos.line) && (noStar w && (chkE has N o sc y && chkE has N i sc w))))
    | _ => false)
  | .cnt o e, sc, x => (match x with
    | .Call (.Attribute y nm apos) [w] [] cpos => decide (nm = "count") && (noSuper y && ((apos.endLine == cpos.line) && (noStar w && (chkE has N o sc y && chkE has N e sc w))))
    | _ => false)
  | .spm _ o a b, sc, x => (match x with
    | .Call (.Attribute y nm apos) [u, w] [] cpos => decide (nm = "split") && (noSuper y && ((apos.endLine == cpos.line) && (noStar u && (noStar w && (chkE has N o sc y && (chkE has N a sc u && chkE has N b sc w))))))
    | _ => false)
  | .rpr a, sc, x => (match x with
    | .Call (.Name g _) [y] [] _ => decide (g = "repr") && (gloB sc "repr" && (noStar y && chkE has N a sc y))
    | _ => false)
  | .fz a, sc, x => chkE has N a sc x
  | .pt a, sc, x => chkE has N a sc x
  | .drop _ a, sc, x => chkE has N a sc x
  | .lax _ a, sc, x => chkE has N a sc x
  | .shut _ a, sc, x => chkE has N a sc x
  | .sset _ a, sc, x => (match x with
    | .Call (.Name g _) [.Call (.Name g2 _) [y] [] _] [] _ => decide (g = "sorted") && (decide (g2 = "set") && (gloB sc "sorted" && (gloB sc "set" && (noStar y && chkE has N a sc y))))
    | _ => false)
  | .nset a, sc, x => (match x with
    | .Call (.Name g _) [.Call (.Name g2 _) [y] [] _] [] _ => decide (g = "len") && (decide (g2 = "set") && (gloB sc "len" && (gloB sc "set" && (noStar y && chkE has N a sc y))))
    | _ => false)
def chkEs (has : Str → Bool) (N : List Str) : Es → Scope → List Expr → Bool
  | .nil, _, xs => (match xs with
    | [] => true
    | _ => false)
  | .cons e es, sc, xs => (match xs with
    | x :: r => noStar x && (chkE has N e sc x && chkEs has N es sc r)
    | [] => false)
  | .rep2 a l o y z, sc, xs => (match xs with
    | [.BinOp b .Add (.Constant (.str l') _ _) _, .Call (.Attribute c nm apos) [.Constant (.str y') _ _, .Constant (.str z') _ _] [] cpos] =>
      decide (l' = l) && (decide (nm = "replace") && (decide (y' = y) && (decide (z' = z) && (!(y == z) && (noSuper c && ((apos.endLine == cpos.line) && (chkE has N a sc b && chkE has N o sc c)))))))
    | _ => false)
def chkO (has : Str → Bool) (N : List Str) : Eo → Scope → Option Expr → Bool
  | .no, _, x => x.isNone
  | .one e, sc, x => (match x with
    | some y => chkE has N e sc y
    | none => false)
def chkT (has : Str → Bool) (N : List Str) : Te → Scope → Expr → Bool
  | .val e, sc, x => plainT x && chkE has N e sc x
  | .cm o a b, sc, x => (match x with
    | .Compare l [op] [r] _ => decide (op = o.op) && (!isSetE r && (chkE has N a sc l && chkE has N b sc r))
    | _ => false)
  | .and a b, sc, x => (match x with
    | .BoolOp .And (l :: r :: rest) p => chkT has N a sc l && (match rest with
      | [] => chkT has N b sc r
      | t :: ts => chkT has N b sc (.BoolOp .And (r :: t :: ts) p))
    | _ => false)
  | .or a b, sc, x => (match x with
    | .BoolOp .Or (l :: r :: rest) p => chkT has N a sc l && (match rest with
      | [] => chkT has N b sc r
      | t :: ts => chkT has N b sc (.BoolOp .Or (r :: t :: ts) p))
    | _ => false)
  | .not a, sc, x => (match x with
    | .UnaryOp .Not l _ => chkT has N a sc l
    | _ => false)
def chkTs (has : Str → Bool) (N : List Str) : Tes → Scope → List Expr → Bool
  | .nil, _, xs => (match xs with
    | [] => true
    | _ => false)
  | .one t, sc, xs => (match xs with
    | [x] => chkT has N t sc x
    | _ => false)
def chkI (has : Str → Bool) (N : List Str) : It → Expr → Scope → Expr → Bool
  | .seq e, _, sc, x => chkE has N e sc x
  | .range1 a, _, sc, x => (match x with
    | .Call (.Name g _) [y] [] _ => decide (g = "range") && (gloB sc "range" && (noStar y && chkE has N a sc y))
    | _ => false)
  | .range2 a b, _, sc, x => (match x with
    | .Call (.Name g _) [y, w] [] _ => decide (g = "range") && (gloB sc "range" && (noStar y && (noStar w && (chkE has N a sc y && chkE has N b sc w))))
    | _ => false)
  | .enum a, tg, sc, x => isTupE tg && (match x with
    | .Call (.Name g _) [y] [] _ => decide (g = "enumerate") && (gloB sc "enumerate" && (noStar y && chkE has N a sc y))
    | _ => false)
  | .zip a b, tg, sc, x => isTupE tg && (match x with
    | .Call (.Name g _) [y, w] [] _ => decide (g = "zip") && (gloB sc "zip" && (noStar y && (noStar w && (chkE has N a sc y && chkE has N b sc w))))
    | _ => false)
  | .rev a, _, sc, x => (match x with
    | .Call (.Name g _) [y] [] _ => decide (g = "reversed") && (gloB sc "reversed" && (noStar y && chkE has N a sc y))
    | _ => false)
end
theorem b2 {a b : Bool} (h : (a && b) = true) : a = true ∧ b = true := Bool.and_eq_true_iff.mp h
theorem bn {a : Bool} (h : (!a) = true) : a = false := by cases a <;> first | rfl | cases h
theorem chkEs_star {has : Str → Bool} {N : List Str} {sc : Scope} : ∀ {es : Es} {xs : List Expr}, chkEs has N es sc xs = true → xs.all noStar = true
  | .nil, [], _ => rfl
  | .nil, _ :: _, h => nomatch h
  | .cons e es, [], h => nomatch h
  | .cons e es, x :: xs, h => by
    obtain ⟨h1, h2⟩ := b2 (show (noStar x && (chkE has N e sc x && chkEs has N es sc xs)) = true from h)
    rw [List.all_cons, h1, chkEs_star (b2 h2).2]
    rfl
  | .rep2 a l o y z, xs, h => by
    simp only [chkEs] at h
    split at h
    · rfl
    · cases h
def isBO : Expr → Bool
  | .BoolOp _ _ _ => true
  | _ => false
theorem truD_mono {x : D} {μ : Mem} {q q' : Bool → Prop} (h : truD x μ q) (m : ∀ b, q b → q' b) : truD x μ q' := by
  cases x with
  | emp => exact False.elim h
  | exc _ _ _ => exact False.elim h
  | ins _ _ _ => exact False.elim h
  | str s => exact ⟨h.1, m _ h.2⟩
  | ref a =>
    obtain ⟨l, e, h⟩ := optD_ok (show optD (seqL μ (.ref a)) _ from h)
    show optD (seqL μ (.ref a)) _
    rw [e]
    exact m _ h
  | _ => exact m _ h
theorem eqD_mono {x y : D} {μ : Mem} {q q' : Bool → Prop} (h : eqD x y μ q) (m : ∀ b, q b → q' b) : eqD x y μ q' := by
  unfold eqD at h ⊢
  split at h
  · exact m _ h
  · exact m _ h
  · exact ⟨h.1, h.2.1, h.2.2.1, h.2.2.2.1, m _ h.2.2.2.2⟩
theorem ltD_mono {p : Int → Int → Bool} {ps : Str → Str → Bool} {x y : D} {q q' : Bool → Prop} (h : ltD p ps x y q) (m : ∀ b, q b → q' b) : ltD p ps x y q' := by
  cases x with
  | str i =>
    cases y with
    | str j => exact m _ h
    | _ => exact False.elim h
  | int i =>
    cases y with
    | int j => exact m _ h
    | _ => exact False.elim h
  | _ => exact False.elim h
theorem isD_mono {y : D} {q q' : Prop} (h : isD y q) (m : q → q') : isD y q' := by
  cases y <;> first | exact m h | exact False.elim h
theorem inD_mono {x y : D} {μ : Mem} {q q' : Bool → Prop} (h : inD x y μ q) (m : ∀ b, q b → q' b) : inD x y μ q' := by
  have gen : (optD (seqL μ y) fun l => x.ok = true ∧ D.oks l = true ∧ x.dep ≤ 64 ∧ D.deps l < 64 ∧ q (l.any fun e => e.eqv x)) → (optD (seqL μ y) fun l => x.ok = true ∧ D.oks l = true ∧ x.dep ≤ 64 ∧ D.deps l < 64 ∧ q' (l.any fun e => e.eqv x)) := fun h => by
    obtain ⟨l, e, h1, h2, h3, h4, h5⟩ := optD_ok h
    rw [e]
    exact ⟨h1, h2, h3, h4, m _ h5⟩
  cases y with
  | str z =>
    cases x with
    | str c =>
      have h : (match c.cps.toList with
        | [n] => q (decide (n ∈ z.cps.toList))
        | _ => False) := h
      show (match c.cps.toList with
        | [n] => q' (decide (n ∈ z.cps.toList))
        | _ => False)
      split at h
      · exact m _ h
      · exact False.elim h
    | _ => exact False.elim h
  | tup l => exact ⟨h.1, h.2.1, m _ h.2.2⟩
  | tpz l => exact ⟨h.1, h.2.1, m _ h.2.2⟩
  | _ => exact gen h
theorem cmpD_mono {o : Cm} {x y : D} {μ : Mem} {q q' : Bool → Prop} (h : cmpD o x y μ q) (m : ∀ b, q b → q' b) : cmpD o x y μ q' := by
  cases o with
  | eq => exact eqD_mono h m
  | ne => exact eqD_mono (q := fun b => q (!b)) h fun b => m (!b)
  | lt => exact ltD_mono (q := q) h m
  | le => exact ltD_mono (q := q) h m
  | gt => exact ltD_mono (q := q) h m
  | ge => exact ltD_mono (q := q) h m
  | is => exact isD_mono (q := q x.isNon) h (m _)
  | isnot => exact isD_mono (q := q (!x.isNon)) h (m _)
  | inn => exact inD_mono (q := q) h m
  | notin => exact inD_mono (q := fun b => q (!b)) h fun b => m (!b)
  | eqn =>
    obtain ⟨l, e1, h⟩ := optD_ok (show optD (seqL μ x) _ from h)
    obtain ⟨l2, e2, e3, h⟩ := optD_ok h
    show optD (seqL μ x) _
    rw [e1]
    show optD (seqL μ y) _
    rw [e2]
    exact ⟨e3, m _ h⟩
theorem DE.mono {X : Cx} {EX : EK} {e : Expr} {ρ : Rho} {μ : Mem} {Q Q' : DK} (h : DE X EX e ρ μ Q) (m : ∀ d μ', Q d μ' → Q' d μ') : DE X EX e ρ μ Q' := fun σ H F en ms => (h σ H F en ms).mono fun v H' ⟨d, F', μ', g, m', r, q⟩ => ⟨d, F', μ', g, m', r, m d μ' q⟩
theorem DA.mono {X : Cx} {EX : EK} {e : List Expr} {ρ : Rho} {μ : Mem} {Q Q' : List D → Mem → Prop} (h : DA X EX e ρ μ Q) (m : ∀ d μ', Q d μ' → Q' d μ') : DA X EX e ρ μ Q' := fun σ H F en ms => (h σ H F en ms).mono fun v H' ⟨d, F', μ', g, m', r, q⟩ => ⟨d, F', μ', g, m', r, m d μ' q⟩
theorem DT.mono {X : Cx} {EX : EK} {e : Expr} {ρ : Rho} {μ : Mem} {Q Q' : Bool → Mem → Prop} (h : DT X EX e ρ μ Q) (m : ∀ d μ', Q d μ' → Q' d μ') : DT X EX e ρ μ Q' := fun σ H F en ms => (h σ H F en ms).mono fun v H' ⟨F', μ', g, m', q⟩ => ⟨F', μ', g, m', m v μ' q⟩
theorem DO.mono {X : Cx} {EX : EK} {e : Option Expr} {ρ : Rho} {μ : Mem} {Q Q' : Option Int → Mem → Prop} (h : DO X EX e ρ μ Q) (m : ∀ d μ', Q d μ' → Q' d μ') : DO X EX e ρ μ Q' := fun σ H F en ms => (h σ H F en ms).mono fun v H' ⟨F', μ', g, m', q⟩ => ⟨F', μ', g, m', m v μ' q⟩
theorem DI.mono {X : Cx} {EX : EK} {tg e : Expr} {ρ : Rho} {μ : Mem} {R R' : IK} (h : DI X EX tg e ρ μ R) (m : ∀ i o μ', R i o μ' → R' i o μ') : DI X EX tg e ρ μ R' := fun σ H F en ms => (h σ H F en ms).mono fun J H' ⟨i, o, F', μ', g, m', w, q⟩ => ⟨i, o, F', μ', g, m', w, m i o μ' q⟩
section
variable {G : Gc}
mutual
theorem sndE : ∀ (e : E) (X : Cx) (N : List Str) (sc : Scope), SX G X N sc → ∀ x, chkE G.has N e sc x = true → ∀ ρ μ Q EX, wp G e ρ μ Q EX → DE X EX x ρ μ Q
  | .v i, X, N, sc, sx, x, h, ρ, μ, Q, EX, w => by
    cases x with
    | Name n p =>
      obtain ⟨h1, h2⟩ := b2 h
      obtain ⟨h2, h3⟩ := b2 h2
      obtain ⟨d, hd, w⟩ := getV_ok w
      exact DE.v sx (of_decide_eq_true h1) h2 h3 hd w
    | _ => cases h
  | .g g, X, N, sc, sx, x, h, ρ, μ, Q, EX, w => by
    cases x with
    | Name n p =>
      obtain ⟨h1, h2⟩ := b2 h
      obtain ⟨h2, h3⟩ := b2 h2
      obtain rfl := of_decide_eq_true h1
      obtain ⟨d, hd, w⟩ := optD_ok w
      exact DE.g sx h2 h3 hd w
    | _ => cases h
  | .non, X, N, sc, sx, x, h, ρ, μ, Q, EX, w => by
    cases x with
    | Constant c k p =>
      cases c with
      | none => exact DE.c pe_non (fun _ _ => .non) w
      | _ => cases h
    | _ => cases h
  | .bl b, X, N, sc, sx, x, h, ρ, μ, Q, EX, w => by
    cases x with
    | Constant c k p =>
      cases c with
      | bool c =>
        obtain rfl := of_decide_eq_true h
        exact DE.c pe_bl (fun _ _ => .bl _) w
      | _ => cases h
    | _ => cases h
  | .int i, X, N, sc, sx, x, h, ρ, μ, Q, EX, w => by
    cases x with
    | Constant c k p =>
      cases c with
      | int c =>
        obtain rfl := of_decide_eq_true h
        exact DE.c pe_int (fun _ _ => .int _) w
      | _ => cases h
    | _ => cases h
  | .str s, X, N, sc, sx, x, h, ρ, μ, Q, EX, w => by
    cases x with
    | Constant c k p =>
      cases c with
      | str c =>
        obtain rfl := of_decide_eq_true h
        exact DE.c pe_str (fun _ _ => .str _) w
      | _ => cases h
    | _ => cases h
  | .bin z o a b, X, N, sc, sx, x, h, ρ, μ, Q, EX, w => by
    cases x with
    | BinOp l op r p =>
      obtain ⟨h1, h2⟩ := b2 h
      obtain ⟨h2, h3⟩ := b2 h2
      obtain rfl := of_decide_eq_true h1
      exact DE.bin ((sndE a X N sc sx l h2 ρ μ _ _ w).mono fun d μ1 w => sndE b X N sc sx r h3 ρ μ1 _ _ w)
    | _ => cases h
  | .neg a, X, N, sc, sx, x, h, ρ, μ, Q, EX, w => by
    cases x with
    | UnaryOp op l p =>
      cases op with
      | USub => exact DE.neg (sndE a X N sc sx l h ρ μ _ _ w)
      | _ => cases h
    | _ => cases h
  | .cmp o a b, X, N, sc, sx, x, h, ρ, μ, Q, EX, w => by
    cases x with
    | Compare l ops rs p =>
      match ops, rs, h with
      | [op], [r], h =>
        obtain ⟨h1, h2⟩ := b2 h
        obtain ⟨h2, h3⟩ := b2 h2
        obtain ⟨h3, h4⟩ := b2 h3
        obtain rfl := of_decide_eq_true h1
        exact DE.cmp sx (bn h2) ((sndE a X N sc sx l h3 ρ μ _ _ w).mono fun d μ1 w => sndE b X N sc sx r h4 ρ μ1 _ _ w)
    | _ => cases h
  | .chain o o' a b c, X, N, sc, sx, x, h, ρ, μ, Q, EX, w => by
    cases x with
    | Compare l ops rs p =>
      match ops, rs, h with
      | [op, op'], [r, t], h =>
        obtain ⟨h1, h2⟩ := b2 h
        obtain ⟨h2, h3⟩ := b2 h2
        obtain ⟨h3, h4⟩ := b2 h3
        obtain ⟨h4, h5⟩ := b2 h4
        obtain ⟨h5, h6⟩ := b2 h5
        obtain rfl := of_decide_eq_true h1
        obtain rfl := of_decide_eq_true h2
        refine DE.chain sx ((sndE a X N sc sx l h4 ρ μ _ _ w).mono fun d μ1 w => (sndE b X N sc sx r h5 ρ μ1 _ _ w).mono fun e μ2 w => ?_) fun ta tb tc ha hb hc => pe_chain (op_cm sx.un o) (op_cm sx.un o') ha hb hc (mark_no (bn h3))
        refine cmpD_mono w fun k w => ?_
        cases k with
        | true =>
          rw [if_pos rfl] at w ⊢
          exact sndE c X N sc sx t h6 ρ μ2 _ _ w
        | false => exact w
    | _ => cases h
  | .and a b, X, N, sc, sx, x, h, ρ, μ, Q, EX, w => by
    cases x with
    | BoolOp op xs p =>
      match op, xs, h with
      | .And, [l, r], h =>
        obtain ⟨h1, h2⟩ := b2 h
        refine DE.and ((sndE a X N sc sx l h1 ρ μ _ _ w).mono fun d μ1 w => truD_mono w fun c w => ?_)
        cases c with
        | true =>
          rw [if_pos rfl] at w ⊢
          exact DE.one (sndE b X N sc sx r h2 ρ μ1 _ _ w)
        | false => exact w
      | .And, l :: r :: t :: ts, h =>
        obtain ⟨h1, h2⟩ := b2 h
        refine DE.and ((sndE a X N sc sx l h1 ρ μ _ _ w).mono fun d μ1 w => truD_mono w fun c w => ?_)
        cases c with
        | true =>
          rw [if_pos rfl] at w ⊢
          exact sndE b X N sc sx _ h2 ρ μ1 _ _ w
        | false => exact w
    | _ => cases h
  | .or a b, X, N, sc, sx, x, h, ρ, μ, Q, EX, w => by
    cases x with
    | BoolOp op xs p =>
      match op, xs, h with
      | .Or, [l, r], h =>
        obtain ⟨h1, h2⟩ := b2 h
        refine DE.or ((sndE a X N sc sx l h1 ρ μ _ _ w).mono fun d μ1 w => truD_mono w fun c w => ?_)
        cases c with
        | false =>
          rw [if_neg Bool.false_ne_true] at w ⊢
          exact DE.one (sndE b X N sc sx r h2 ρ μ1 _ _ w)
        | true => exact w
      | .Or, l :: r :: t :: ts, h =>
        obtain ⟨h1, h2⟩ := b2 h
        refine DE.or ((sndE a X N sc sx l h1 ρ μ _ _ w).mono fun d μ1 w => truD_mono w fun c w => ?_)
        cases c with
        | false =>
          rw [if_neg Bool.false_ne_true] at w ⊢
          exact sndE b X N sc sx _ h2 ρ μ1 _ _ w
        | true => exact w
    | _ => cases h
  | .not a, X, N, sc, sx, x, h, ρ, μ, Q, EX, w => by
    cases x with
    | UnaryOp op l p =>
      cases op with
      | Not => exact DE.not (sndE a X N sc sx l h ρ μ _ _ w)
      | _ => cases h
    | _ => cases h
  | .ite t a b, X, N, sc, sx, x, h, ρ, μ, Q, EX, w => by
    cases x with
    | IfExp c l r p =>
      obtain ⟨h1, h2⟩ := b2 h
      obtain ⟨h2, h3⟩ := b2 h2
      refine DT.ite ((sndT t X N sc sx c h1 ρ μ _ _ w).mono fun k μ1 w => ?_)
      cases k with
      | true =>
        rw [if_pos rfl] at w ⊢
        exact sndE a X N sc sx l h2 ρ μ1 _ _ w
      | false =>
        rw [if_neg Bool.false_ne_true] at w ⊢
        exact sndE b X N sc sx r h3 ρ μ1 _ _ w
    | _ => cases h
  | .tup es, X, N, sc, sx, x, h, ρ, μ, Q, EX, w => by
    cases x with
    | Tuple xs k p => exact DE.tup (sndEs es X N sc sx xs h ρ μ _ _ w)
    | _ => cases h
  | .lst z es, X, N, sc, sx, x, h, ρ, μ, Q, EX, w => by
    cases x with
    | List xs p => exact DE.lst (sndEs es X N sc sx xs h ρ μ _ _ w)
    | _ => cases h
  | .ix a i, X, N, sc, sx, x, h, ρ, μ, Q, EX, w => by
    cases x with
    | Subscript l r p =>
      obtain ⟨h1, h2⟩ := b2 h
      obtain ⟨h2, h3⟩ := b2 h2
      exact DE.ix (bn h1) ((sndE a X N sc sx l h2 ρ μ _ _ w).mono fun d μ1 w => sndE i X N sc sx r h3 ρ μ1 _ _ w)
    | _ => cases h
  | .sl z a lo hi, X, N, sc, sx, x, h, ρ, μ, Q, EX, w => by
    cases x with
    | Subscript l r p =>
      cases r with
      | Slice u v st p2 =>
        cases st with
        | none =>
          obtain ⟨h1, h2⟩ := b2 h
          obtain ⟨h2, h3⟩ := b2 h2
          exact DE.sl ((sndE a X N sc sx l h1 ρ μ _ _ w).mono fun d μ1 w => (sndO lo X N sc sx u h2 ρ μ1 _ _ w).mono fun i μ2 w => sndO hi X N sc sx v h3 ρ μ2 _ _ w)
        | some _ => cases h
      | _ => cases h
    | _ => cases h
  | .lc z t it cs elt, X, N, sc, sx, x, h, ρ, μ, Q, EX, w => by
    cases x with
    | ListComp el gs scope p =>
      match gs, h with
      | [⟨tg, iter, ifs, k⟩], h =>
        obtain ⟨h1, h2⟩ := b2 h
        obtain ⟨h2, h3⟩ := b2 h2
        obtain ⟨h3, h4⟩ := b2 h3
        obtain ⟨h4, h5⟩ := b2 h4
        obtain ⟨h5, h6⟩ := b2 h5
        obtain ⟨h6, h7⟩ := b2 h6
        obtain rfl := of_decide_eq_true h1
        refine DE.lc sx (bn h2) (own := ownOf N t) ⟨blkOk_by h5, ownOf_slots N t, h4, fun X' sx' ρ' μ' q w => sndTs cs X' N _ sx' ifs h6 ρ' μ' q _ w, fun X' sx' ρ' μ' q w => sndE elt X' N _ sx' el h7 ρ' μ' q _ w⟩ (sndI it X N sc sx tg iter h3 ρ μ _ _ w)
      | [], h => cases h
      | _ :: _ :: _, h => simp [chkE] at h
    | _ => cases h
  | .call f es, X, N, sc, sx, x, h, ρ, μ, Q, EX, w => by
    cases x with
    | Call fn xs ks p =>
      match fn, ks, h with
      | .Name g p2, [], h =>
        obtain ⟨h1, k2⟩ := b2 h
        obtain ⟨h2, k3⟩ := b2 k2
        obtain ⟨h3, k4⟩ := b2 k3
        obtain ⟨h4, h5⟩ := b2 k4
        obtain rfl := of_decide_eq_true h1
        have hs := chkEs_star h5
        have ih := sndEs es X N sc sx xs h5 ρ μ _ _ w
        cases xs with
        | nil =>
          cases es with
          | nil => exact DE.call0 sx h2 h3 h4 w
          | cons _ _ => cases h5
          | rep2 _ _ _ _ _ => cases h5
        | cons x xs => exact DE.call sx h2 h3 h4 hs ih
    | _ => cases h
  | .bi z f es, X, N, sc, sx, x, h, ρ, μ, Q, EX, w => by
    cases x with
    | Call fn xs ks p =>
      match fn, xs, ks, h with
      | .Name g p2, y :: ys, [], h =>
        obtain ⟨h1, h2⟩ := b2 h
        obtain ⟨h2, h3⟩ := b2 h2
        obtain rfl := of_decide_eq_true h1
        exact DE.bi sx h2 (chkEs_star h3) (sndEs es X N sc sx (y :: ys) h3 ρ μ _ _ w)
    | _ => cases h
  | .isi a t, X, N, sc, sx, x, h, ρ, μ, Q, EX, w => by
    cases x with
    | Call fn xs ks p =>
      match fn, xs, ks, h with
      | .Name g p2, [y, .Name ty p3], [], h =>
        obtain ⟨h1, h2⟩ := b2 h
        obtain ⟨h2, h3⟩ := b2 h2
        obtain ⟨h3, h4⟩ := b2 h3
        obtain ⟨h4, h5⟩ := b2 h4
        obtain ⟨h5, h6⟩ := b2 h5
        obtain rfl := of_decide_eq_true h1
        obtain rfl := of_decide_eq_true h2
        exact DE.isi sx h3 h4 h5 (sndE a X N sc sx y h6 ρ μ _ _ w)
    | _ => cases h
  | .mkx1 c a, X, N, sc, sx, x, h, ρ, μ, Q, EX, w => by
    cases x with
    | Call fn xs ks p =>
      match fn, xs, ks, h with
      | .Name g p2, [y], [], h =>
        obtain ⟨h1, h2⟩ := b2 h
        obtain ⟨h2, h3⟩ := b2 h2
        obtain ⟨h3, h4⟩ := b2 h3
        obtain ⟨h4, h5⟩ := b2 h4
        obtain rfl := of_decide_eq_true h1
        exact DE.mkx1 sx w.1 h2 h3 h4 (sndE a X N sc sx y h5 ρ μ _ _ w.2)
    | _ => cases h
  | .mkx c es, X, N, sc, sx, x, h, ρ, μ, Q, EX, w => by
    cases x with
    | Call fn xs ks p =>
      match fn, xs, ks, h with
      | .Name g p2, y :: ys, [], h =>
        obtain ⟨h1, h2⟩ := b2 h
        obtain ⟨h2, h3⟩ := b2 h2
        obtain ⟨h3, h4⟩ := b2 h3
        obtain rfl := of_decide_eq_true h1
        obtain ⟨xx, e1, w⟩ := optD_ok w
        obtain ⟨xy, e2, w⟩ := optD_ok w
        subst e2
        exact DE.mkx sx e1 h2 h3 (chkEs_star h4) (sndEs es X N sc sx (y :: ys) h4 ρ μ _ _ w)
    | _ => cases h
  | .isx a c, X, N, sc, sx, x, h, ρ, μ, Q, EX, w => by
    cases x with
    | Call fn xs ks p =>
      match fn, xs, ks, h with
      | .Name g p2, [y, .Name ty p3], [], h =>
        obtain ⟨h1, k2⟩ := b2 h
        obtain ⟨h2, k3⟩ := b2 k2
        obtain ⟨h3, k4⟩ := b2 k3
        obtain ⟨h4, k5⟩ := b2 k4
        obtain ⟨h5, k6⟩ := b2 k5
        obtain ⟨h6, h7⟩ := b2 k6
        have e1 := of_decide_eq_true h1
        have e2 := of_decide_eq_true h2
        subst e1
        subst e2
        exact DE.isx sx h3 h4 h5 h6 (sndE a X N sc sx y h7 ρ μ _ _ w)
    | _ => cases h
  | .atx a f, X, N, sc, sx, x, h, ρ, μ, Q, EX, w => by
    cases x with
    | Attribute y g p =>
      obtain ⟨h1, k2⟩ := b2 h
      obtain ⟨h2, h3⟩ := b2 k2
      obtain rfl := of_decide_eq_true h1
      exact DE.atA sx h2 (sndE a X N sc sx _ h3 ρ μ _ _ w)
    | _ => cases h
  | .rst a, X, N, sc, sx, x, h, ρ, μ, Q, EX, w => DE.rst (sndE a X N sc sx x h ρ μ _ _ w)
  | .fzo a, X, N, sc, sx, x, h, ρ, μ, Q, EX, w => DE.fzo (sndE a X N sc sx x h ρ μ _ _ w)
  | .tpd es, X, N, sc, sx, x, h, ρ, μ, Q, EX, w => by
    cases x with
    | Tuple xs k p => exact DE.tpd (sndEs es X N sc sx xs h ρ μ _ _ w)
    | _ => cases h
  | .pl a b, X, N, sc, sx, x, h, ρ, μ, Q, EX, w => by
    cases x with
    | BinOp l op r p =>
      cases op with
      | Add =>
        obtain ⟨h1, h2⟩ := b2 h
        exact DE.pl ((sndE a X N sc sx l h1 ρ μ _ _ w).mono fun x μ1 w1 => sndE b X N sc sx r h2 ρ μ1 _ _ w1)
      | _ => cases h
    | _ => cases h
  | .mko c es, X, N, sc, sx, x, h, ρ, μ, Q, EX, w => by
    cases x with
    | Call fn xs ks p =>
      match fn, xs, ks, h with
      | .Name g p2, y :: ys, [], h =>
        obtain ⟨h1, k2⟩ := b2 h
        obtain ⟨h2, k3⟩ := b2 k2
        obtain ⟨h3, h4⟩ := b2 k3
        obtain rfl := of_decide_eq_true h1
        obtain ⟨f, e1, w⟩ := optD_ok w
        exact DE.mko sx e1 h2 h3 (chkEs_star h4) (sndEs es X N sc sx (y :: ys) h4 ρ μ _ _ w)
    | _ => cases h
  | .meth c m o es, X, N, sc, sx, x, h, ρ, μ, Q, EX, w => by
    cases x with
    | Call fn xs ks p =>
      match fn, xs, ks, h with
      | .Attribute y nm apos, z :: zs, [], h =>
        obtain ⟨h1, k2⟩ := b2 h
        obtain ⟨h2, k3⟩ := b2 k2
        obtain ⟨h3, k4⟩ := b2 k3
        obtain ⟨h4, k5⟩ := b2 k4
        obtain ⟨h5, h6⟩ := b2 k5
        obtain rfl := of_decide_eq_true h1
        obtain ⟨f, e1, w⟩ := optD_ok w
        exact DE.meth sx e1 h2 h3 (chkEs_star h6) (of_decide_eq_true h4) ((sndE o X N sc sx y h5 ρ μ _ _ w).mono fun x μ1 w1 => ⟨w1.1, sndEs es X N sc sx (z :: zs) h6 ρ μ1 _ _ w1.2⟩)
    | _ => cases h
  | .dnw t, X, N, sc, sx, x, h, ρ, μ, Q, EX, w => by
    cases x with
    | Dict ks vs p =>
      match ks, vs, h with
      | [], [], _ => exact DE.dnw w
    | _ => cases h
  | .kx o k, X, N, sc, sx, x, h, ρ, μ, Q, EX, w => by
    cases x with
    | Subscript y i p =>
      obtain ⟨h1, h2⟩ := b2 h
      obtain ⟨h2, h3⟩ := b2 h2
      exact DE.kx sx (bn h1) ((sndE o X N sc sx y h2 ρ μ _ _ w).mono fun d μ1 w => sndE k X N sc sx i h3 ρ μ1 _ _ w)
    | _ => cases h
  | .kget o k d, X, N, sc, sx, x, h, ρ, μ, Q, EX, w => by
    cases x with
    | Call fn xs ks p =>
      match fn, xs, ks, h with
      | .Attribute y nm apos, [u, v], [], h =>
        obtain ⟨h1, h2⟩ := b2 h
        obtain ⟨h2, h3⟩ := b2 h2
        obtain ⟨h3, h4⟩ := b2 h3
        obtain ⟨h4, h5⟩ := b2 h4
        obtain ⟨h5, h6⟩ := b2 h5
        obtain ⟨h6, h7⟩ := b2 h6
        obtain ⟨h7, h8⟩ := b2 h7
        obtain rfl := of_decide_eq_true h1
        exact DE.kget sx h2 h3 h4 h5 ((sndE o X N sc sx y h6 ρ μ _ _ w).mono fun x μ1 w => ⟨w.1, (sndE k X N sc sx u h7 ρ μ1 _ _ w.2).mono fun y2 μ2 w => sndE d X N sc sx v h8 ρ μ2 _ _ w⟩)
    | _ => cases h
  | .tix o e, X, N, sc, sx, x, h, ρ, μ, Q, EX, w => by
    cases x with
    | Call fn xs ks p =>
      match fn, xs, ks, h with
      | .Attribute y nm apos, [v], [], h =>
        obtain ⟨h1, h2⟩ := b2 h
        obtain ⟨h2, h3⟩ := b2 h2
        obtain ⟨h3, h4⟩ := b2 h3
        obtain ⟨h4, h5⟩ := b2 h4
        obtain ⟨h5, h6⟩ := b2 h5
        obtain rfl := of_decide_eq_true h1
        exact DE.tix h2 h3 h4 ((sndE o X N sc sx y h5 ρ μ _ _ w).mono fun d μ1 w => ⟨w.1, sndE e X N sc sx v h6 ρ μ1 _ _ w.2⟩)
    | _ => cases h
  | .skey z b a i, X, N, sc, sx, x, h, ρ, μ, Q, EX, w => by
    cases hv : skOf x with
    | none =>
      have h : (match skOf x with
        | some v => decide (v.fn = "sorted") && (decide (v.row = "row") && (gloB sc "sorted" && (noStar v.e && (decide (v.b = b) && (decide (N[i]? = some v.col) && (lamRB sc v.scope v.row v.col && chkE G.has N a sc v.e))))))
        | none => false) = true := h
      rw [hv] at h
      cases h
    | some v =>
      have h : (match skOf x with
        | some v => decide (v.fn = "sorted") && (decide (v.row = "row") && (gloB sc "sorted" && (noStar v.e && (decide (v.b = b) && (decide (N[i]? = some v.col) && (lamRB sc v.scope v.row v.col && chkE G.has N a sc v.e))))))
        | none => false) = true := h
      rw [hv] at h
      obtain ⟨h1, h⟩ := b2 h
      obtain ⟨h2, h⟩ := b2 h
      obtain ⟨h3, h⟩ := b2 h
      obtain ⟨h4, h⟩ := b2 h
      obtain ⟨h5, h⟩ := b2 h
      obtain ⟨h6, h⟩ := b2 h
      obtain ⟨h7, h8⟩ := b2 h
      exact DE.skey sx hv (of_decide_eq_true h1) (of_decide_eq_true h2) h3 h4 (of_decide_eq_true h5) (of_decide_eq_true h6) h7 (sndE a X N sc sx v.e h8 ρ μ _ _ w)
  | .lrg z a b, X, N, sc, sx, x, h, ρ, μ, Q, EX, w => by
    cases x with
    | Call fn xs ks p =>
      match fn, xs, ks, h with
      | .Name g p2, [.Call (.Name g2 p3) [y, v] [] p4], [], h =>
        obtain ⟨h1, h2⟩ := b2 h
        obtain ⟨h2, h3⟩ := b2 h2
        obtain ⟨h3, h4⟩ := b2 h3
        obtain ⟨h4, h5⟩ := b2 h4
        obtain ⟨h5, h6⟩ := b2 h5
        obtain ⟨h6, h7⟩ := b2 h6
        obtain ⟨h7, h8⟩ := b2 h7
        obtain rfl := of_decide_eq_true h1
        obtain rfl := of_decide_eq_true h2
        exact DE.lrg sx h3 h4 h5 h6 ((sndE a X N sc sx y h7 ρ μ _ _ w).mono fun x μ1 w => sndE b X N sc sx v h8 ρ μ1 _ _ w)
    | _ => cases h
  | .tzn a, X, N, sc, sx, x, h, ρ, μ, Q, EX, w => by
    cases x with
    | Call fn xs ks p =>
      match fn, xs, ks, h with
      | .Name g p2, [y], [], h =>
        obtain ⟨h1, h2⟩ := b2 h
        obtain ⟨h2, h3⟩ := b2 h2
        obtain ⟨h3, h4⟩ := b2 h3
        obtain rfl := of_decide_eq_true h1
        exact DE.tzn sx h2 h3 (sndE a X N sc sx y h4 ρ μ _ _ w)
    | _ => cases h
  | .kls z a, X, N, sc, sx, x, h, ρ, μ, Q, EX, w => by
    cases x with
    | Call fn xs ks p =>
      match fn, xs, ks, h with
      | .Name g p2, [y], [], h =>
        obtain ⟨h1, h2⟩ := b2 h
        obtain ⟨h2, h3⟩ := b2 h2
        obtain ⟨h3, h4⟩ := b2 h3
        obtain rfl := of_decide_eq_true h1
        exact DE.kls sx h2 h3 (sndE a X N sc sx y h4 ρ μ _ _ w)
    | _ => cases h
  | .mt z m o e, X, N, sc, sx, x, h, ρ, μ, Q, EX, w => by
    cases x with
    | Call fn xs ks p =>
      match fn, xs, ks, h with
      | .Attribute y nm apos, [v], [], h =>
        obtain ⟨h1, h2⟩ := b2 h
        obtain ⟨h2, h3⟩ := b2 h2
        obtain ⟨h3, h4⟩ := b2 h3
        obtain ⟨h4, h5⟩ := b2 h4
        obtain ⟨h5, h6⟩ := b2 h5
        obtain rfl := of_decide_eq_true h1
        exact DE.mt h2 h3 h4 ((sndE o X N sc sx y h5 ρ μ _ _ w).mono fun d μ1 w => ⟨w.1, sndE e X N sc sx v h6 ρ μ1 _ _ w.2⟩)
    | _ => cases h
  | .emp, X, N, sc, sx, x, h, ρ, μ, Q, EX, w => by
    cases x with
    | Dict ks vs p =>
      match ks, vs, h with
      | [], [], _ => exact DE.emp w
    | _ => cases h
  | .sq m o e, X, N, sc, sx, x, h, ρ, μ, Q, EX, w => by
    cases x with
    | Call fn xs ks p =>
      match fn, xs, ks, h with
      | .Attribute y nm apos, [v], [], h =>
        obtain ⟨h1, h2⟩ := b2 h
        obtain ⟨h2, h3⟩ := b2 h2
        obtain ⟨h3, h4⟩ := b2 h3
        obtain ⟨h4, h5⟩ := b2 h4
        obtain ⟨h5, h6⟩ := b2 h5
        obtain rfl := of_decide_eq_true h1
        exact DE.sq h2 h3 h4 ((sndE o X N sc sx y h5 ρ μ _ _ w).mono fun d μ1 w => ⟨w.1, sndE e X N sc sx v h6 ρ μ1 _ _ w.2⟩)
    | _ => cases h
  | .popE o, X, N, sc, sx, x, h, ρ, μ, Q, EX, w => by
    cases x with
    | Call fn xs ks p =>
      match fn, xs, ks, h with
      | .Attribute y nm apos, [], [], h =>
        obtain ⟨h1, h2⟩ := b2 h
        obtain ⟨h2, h3⟩ := b2 h2
        obtain ⟨h3, h4⟩ := b2 h3
        obtain rfl := of_decide_eq_true h1
        exact DE.popE h2 h3 (sndE o X N sc sx y h4 ρ μ _ _ w)
    | _ => cases h
  | .popI o i, X, N, sc, sx, x, h, ρ, μ, Q, EX, w => by
    cases x with
    | Call fn xs ks p =>
      match fn, xs, ks, h with
      | .Attribute y nm apos, [v], [], h =>
        obtain ⟨h1, h2⟩ := b2 h
        obtain ⟨h2, h3⟩ := b2 h2
        obtain ⟨h3, h4⟩ := b2 h3
        obtain ⟨h4, h5⟩ := b2 h4
        obtain ⟨h5, h6⟩ := b2 h5
        obtain rfl := of_decide_eq_true h1
        refine DE.popI h2 h3 h4 ((sndE o X N sc sx y h5 ρ μ _ _ w).mono fun d μ1 w => ⟨w.1, (sndE i X N sc sx v h6 ρ μ1 _ _ w.2).mono fun k μ2 w => w⟩)
    | _ => cases h
  | .cnt o e, X, N, sc, sx, x, h, ρ, μ, Q, EX, w => by
    cases x with
    | Call fn xs ks p =>
      match fn, xs, ks, h with
      | .Attribute y nm apos, [v], [], h =>
        obtain ⟨h1, h2⟩ := b2 h
        obtain ⟨h2, h3⟩ := b2 h2
        obtain ⟨h3, h4⟩ := b2 h3
        obtain ⟨h4, h5⟩ := b2 h4
        obtain ⟨h5, h6⟩ := b2 h5
        obtain rfl := of_decide_eq_true h1
        exact DE.cnt sx h2 h3 h4 ((sndE o X N sc sx y h5 ρ μ _ _ w).mono fun d μ1 w => ⟨w.1, sndE e X N sc sx v h6 ρ μ1 _ _ w.2⟩)
    | _ => cases h
  | .spm z o a b, X, N, sc, sx, x, h, ρ, μ, Q, EX, w => by
    cases x with
    | Call fn xs ks p =>
      match fn, xs, ks, h with
      | .Attribute y nm apos, [u, v], [], h =>
        obtain ⟨h1, h2⟩ := b2 h
        obtain ⟨h2, h3⟩ := b2 h2
        obtain ⟨h3, h4⟩ := b2 h3
        obtain ⟨h4, h5⟩ := b2 h4
        obtain ⟨h5, h6⟩ := b2 h5
        obtain ⟨h6, h7⟩ := b2 h6
        obtain ⟨h7, h8⟩ := b2 h7
        obtain rfl := of_decide_eq_true h1
        exact DE.spm h2 h3 h4 h5 ((sndE o X N sc sx y h6 ρ μ _ _ w).mono fun d μ1 w => ⟨w.1, (sndE a X N sc sx u h7 ρ μ1 _ _ w.2).mono fun k μ2 w => sndE b X N sc sx v h8 ρ μ2 _ _ w⟩)
    | _ => cases h
  | .rpr a, X, N, sc, sx, x, h, ρ, μ, Q, EX, w => by
    cases x with
    | Call fn xs ks p =>
      match fn, xs, ks, h with
      | .Name g p2, [y], [], h =>
        obtain ⟨h1, h2⟩ := b2 h
        obtain ⟨h2, h3⟩ := b2 h2
        obtain ⟨h3, h4⟩ := b2 h3
        obtain rfl := of_decide_eq_true h1
        exact DE.rpr sx w.1 h2 h3 (sndE a X N sc sx y h4 ρ μ _ _ w.2)
    | _ => cases h
  | .fz a, X, N, sc, sx, x, h, ρ, μ, Q, EX, w => DE.fz (sndE a X N sc sx x h ρ μ _ _ w)
  | .drop is a, X, N, sc, sx, x, h, ρ, μ, Q, EX, w => DE.drop (sndE a X N sc sx x h ρ μ _ _ w)
  | .lax is a, X, N, sc, sx, x, h, ρ, μ, Q, EX, w => DE.lax (sndE a X N sc sx x h ρ μ _ _ w)
  | .pt a, X, N, sc, sx, x, h, ρ, μ, Q, EX, w => DE.pt (sndE a X N sc sx x h ρ μ _ _ w)
  | .shut i a, X, N, sc, sx, x, h, ρ, μ, Q, EX, w => DE.shut (i := i) (sndE a X N sc sx x h ρ μ _ _ w)
  | .sset z a, X, N, sc, sx, x, h, ρ, μ, Q, EX, w => by
    cases x with
    | Call fn xs ks p =>
      match fn, xs, ks, h with
      | .Name g p2, [.Call (.Name g2 p3) [y] [] p4], [], h =>
        obtain ⟨h1, h2⟩ := b2 h
        obtain ⟨h2, h3⟩ := b2 h2
        obtain ⟨h3, h4⟩ := b2 h3
        obtain ⟨h4, h5⟩ := b2 h4
        obtain ⟨h5, h6⟩ := b2 h5
        obtain rfl := of_decide_eq_true h1
        obtain rfl := of_decide_eq_true h2
        exact DE.sset sx h3 h4 h5 (sndE a X N sc sx y h6 ρ μ _ _ w)
    | _ => cases h
  | .nset a, X, N, sc, sx, x, h, ρ, μ, Q, EX, w => by
    cases x with
    | Call fn xs ks p =>
      match fn, xs, ks, h with
      | .Name g p2, [.Call (.Name g2 p3) [y] [] p4], [], h =>
        obtain ⟨h1, h2⟩ := b2 h
        obtain ⟨h2, h3⟩ := b2 h2
        obtain ⟨h3, h4⟩ := b2 h3
        obtain ⟨h4, h5⟩ := b2 h4
        obtain ⟨h5, h6⟩ := b2 h5
        obtain rfl := of_decide_eq_true h1
        obtain rfl := of_decide_eq_true h2
        exact DE.nset sx h3 h4 h5 (sndE a X N sc sx y h6 ρ μ _ _ w)
    | _ => cases h
theorem sndEs : ∀ (es : Es) (X : Cx) (N : List Str) (sc : Scope), SX G X N sc → ∀ xs, chkEs G.has N es sc xs = true → ∀ ρ μ Q EX, wps G es ρ μ Q EX → DA X EX xs ρ μ Q
  | .nil, X, N, sc, sx, xs, h, ρ, μ, Q, EX, w => by
    cases xs with
    | nil => exact DA.nil w
    | cons _ _ => cases h
  | .cons e es, X, N, sc, sx, xs, h, ρ, μ, Q, EX, w => by
    cases xs with
    | nil => cases h
    | cons x xs =>
      obtain ⟨h1, h2⟩ := b2 h
      obtain ⟨h2, h3⟩ := b2 h2
      exact DA.cons (star_cons h1) ((sndE e X N sc sx x h2 ρ μ _ _ w).mono fun d μ1 w => sndEs es X N sc sx xs h3 ρ μ1 _ _ w)
  | .rep2 a l o y z, X, N, sc, sx, xs, h, ρ, μ, Q, EX, w => by
    simp only [chkEs] at h
    split at h
    · obtain ⟨h1, h2⟩ := b2 h
      obtain ⟨h2, h3⟩ := b2 h2
      obtain ⟨h3, h4⟩ := b2 h3
      obtain ⟨h4, h5⟩ := b2 h4
      obtain ⟨h5, h6⟩ := b2 h5
      obtain ⟨h6, h7⟩ := b2 h6
      obtain ⟨h7, h8⟩ := b2 h7
      obtain ⟨h8, h9⟩ := b2 h8
      have e1 := of_decide_eq_true h1
      have e2 := of_decide_eq_true h2
      have e3 := of_decide_eq_true h3
      have e4 := of_decide_eq_true h4
      subst e1 e2 e3 e4
      exact DA.rep2 (by simpa using h5) h6 h7 ((sndE a X N sc sx _ h8 ρ μ _ _ w).mono fun x μ1 ⟨hx, w⟩ => ⟨hx, sndE o X N sc sx _ h9 ρ μ1 _ _ w⟩)
    · cases h
theorem sndO : ∀ (e : Eo) (X : Cx) (N : List Str) (sc : Scope), SX G X N sc → ∀ x, chkO G.has N e sc x = true → ∀ ρ μ Q EX, wpO G e ρ μ Q EX → DO X EX x ρ μ Q
  | .no, X, N, sc, sx, x, h, ρ, μ, Q, EX, w => by
    cases x with
    | none => exact DO.no w
    | some _ => cases h
  | .one e, X, N, sc, sx, x, h, ρ, μ, Q, EX, w => by
    cases x with
    | none => cases h
    | some y => exact DO.one (sndE e X N sc sx y h ρ μ _ _ w)
theorem sndT : ∀ (t : Te) (X : Cx) (N : List Str) (sc : Scope), SX G X N sc → ∀ x, chkT G.has N t sc x = true → ∀ ρ μ Q EX, wpT G t ρ μ Q EX → DT X EX x ρ μ Q
  | .val e, X, N, sc, sx, x, h, ρ, μ, Q, EX, w => by
    obtain ⟨h1, h2⟩ := b2 h
    exact DT.val h1 (sndE e X N sc sx x h2 ρ μ _ _ w)
  | .cm o a b, X, N, sc, sx, x, h, ρ, μ, Q, EX, w => by
    cases x with
    | Compare l ops rs p =>
      match ops, rs, h with
      | [op], [r], h =>
        obtain ⟨h1, h2⟩ := b2 h
        obtain ⟨h2, h3⟩ := b2 h2
        obtain ⟨h3, h4⟩ := b2 h3
        obtain rfl := of_decide_eq_true h1
        exact DT.cmp sx (bn h2) ((sndE a X N sc sx l h3 ρ μ _ _ w).mono fun d μ1 w => sndE b X N sc sx r h4 ρ μ1 _ _ w)
    | _ => cases h
  | .and a b, X, N, sc, sx, x, h, ρ, μ, Q, EX, w => (sndW (.and a b) X N sc sx x h ρ μ Q _ w (by cases x <;> first | rfl | (cases h; done))).dt
  | .or a b, X, N, sc, sx, x, h, ρ, μ, Q, EX, w => (sndW (.or a b) X N sc sx x h ρ μ Q _ w (by cases x <;> first | rfl | (cases h; done))).dt
  | .not a, X, N, sc, sx, x, h, ρ, μ, Q, EX, w => by
    cases x with
    | UnaryOp op l p =>
      cases op with
      | Not => exact DT.not (sndT a X N sc sx l h ρ μ _ _ w)
      | _ => cases h
    | _ => cases h
theorem sndTs : ∀ (t : Tes) (X : Cx) (N : List Str) (sc : Scope), SX G X N sc → ∀ xs, chkTs G.has N t sc xs = true → ∀ ρ μ Q EX, wpTs G t ρ μ Q EX → DTs X EX xs ρ μ Q
  | .nil, X, N, sc, sx, xs, h, ρ, μ, Q, EX, w => by
    cases xs with
    | nil => exact DTs.nil w
    | cons _ _ => cases h
  | .one t, X, N, sc, sx, xs, h, ρ, μ, Q, EX, w => by
    match xs, h with
    | [x], h => exact DTs.one (sndT t X N sc sx x h ρ μ _ _ w)
theorem sndI : ∀ (t : It) (X : Cx) (N : List Str) (sc : Scope), SX G X N sc → ∀ tg x, chkI G.has N t tg sc x = true → ∀ ρ μ R EX, wpI G t ρ μ R EX → DI X EX tg x ρ μ R
  | .seq e, X, N, sc, sx, tg, x, h, ρ, μ, R, EX, w => DI.seq (sndE e X N sc sx x h ρ μ _ _ w)
  | .range1 a, X, N, sc, sx, tg, x, h, ρ, μ, R, EX, w => by
    cases x with
    | Call fn xs ks p =>
      match fn, xs, ks, h with
      | .Name g p2, [y], [], h =>
        obtain ⟨h1, h2⟩ := b2 h
        obtain ⟨h2, h3⟩ := b2 h2
        obtain ⟨h3, h4⟩ := b2 h3
        obtain rfl := of_decide_eq_true h1
        exact DI.range1 sx h2 h3 (sndE a X N sc sx y h4 ρ μ _ _ w)
    | _ => cases h
  | .range2 a b, X, N, sc, sx, tg, x, h, ρ, μ, R, EX, w => by
    cases x with
    | Call fn xs ks p =>
      match fn, xs, ks, h with
      | .Name g p2, [y, v], [], h =>
        obtain ⟨h1, h2⟩ := b2 h
        obtain ⟨h2, h3⟩ := b2 h2
        obtain ⟨h3, h4⟩ := b2 h3
        obtain ⟨h4, h5⟩ := b2 h4
        obtain ⟨h5, h6⟩ := b2 h5
        obtain rfl := of_decide_eq_true h1
        exact DI.range2 sx h2 h3 h4 ((sndE a X N sc sx y h5 ρ μ _ _ w).mono fun d μ1 w => sndE b X N sc sx v h6 ρ μ1 _ _ w)
    | _ => cases h
  | .enum a, X, N, sc, sx, tg, x, h, ρ, μ, R, EX, w => by
    obtain ⟨h0, h⟩ := b2 h
    cases tg with
    | Tuple elts k tp =>
      cases x with
      | Call fn xs ks p =>
        match fn, xs, ks, h with
        | .Name g p2, [y], [], h =>
          obtain ⟨h1, h2⟩ := b2 h
          obtain ⟨h2, h3⟩ := b2 h2
          obtain ⟨h3, h4⟩ := b2 h3
          obtain rfl := of_decide_eq_true h1
          exact DI.enum sx h2 h3 (sndE a X N sc sx y h4 ρ μ _ _ w)
      | _ => cases h
    | _ => cases h0
  | .zip a b, X, N, sc, sx, tg, x, h, ρ, μ, R, EX, w => by
    obtain ⟨h0, h⟩ := b2 h
    cases tg with
    | Tuple elts k tp =>
      cases x with
      | Call fn xs ks p =>
        match fn, xs, ks, h with
        | .Name g p2, [y, v], [], h =>
          obtain ⟨h1, h2⟩ := b2 h
          obtain ⟨h2, h3⟩ := b2 h2
          obtain ⟨h3, h4⟩ := b2 h3
          obtain ⟨h4, h5⟩ := b2 h4
          obtain ⟨h5, h6⟩ := b2 h5
          obtain rfl := of_decide_eq_true h1
          exact DI.zip sx h2 h3 h4 ((sndE a X N sc sx y h5 ρ μ _ _ w).mono fun d μ1 w => sndE b X N sc sx v h6 ρ μ1 _ _ w)
      | _ => cases h
    | _ => cases h0
  | .rev a, X, N, sc, sx, tg, x, h, ρ, μ, R, EX, w => by
    cases x with
    | Call fn xs ks p =>
      match fn, xs, ks, h with
      | .Name g p2, [y], [], h =>
        obtain ⟨h1, h2⟩ := b2 h
        obtain ⟨h2, h3⟩ := b2 h2
        obtain ⟨h3, h4⟩ := b2 h3
        obtain rfl := of_decide_eq_true h1
        exact DI.rev sx h2 h3 (sndE a X N sc sx y h4 ρ μ _ _ w)
    | _ => cases h

theorem sndW : ∀ (t : Te) (X : Cx) (N : List Str) (sc : Scope), SX G X N sc → ∀ x, chkT G.has N t sc x = true → ∀ ρ μ Q EX, wpT G t ρ μ Q EX → isBO x = true → DW X EX x ρ μ Q
  | .val e, X, N, sc, sx, x, h, ρ, μ, Q, EX, w, hb => by
    obtain ⟨h1, h2⟩ := b2 h
    cases x <;> first | (cases hb; done) | (cases h1; done)
  | .cm o a b, X, N, sc, sx, x, h, ρ, μ, Q, EX, w, hb => by
    cases x <;> first | (cases hb; done) | (cases h; done)
  | .not a, X, N, sc, sx, x, h, ρ, μ, Q, EX, w, hb => by
    cases x <;> first | (cases hb; done) | (cases h; done)
  | .and a b, X, N, sc, sx, x, h, ρ, μ, Q, EX, w, hb => by
    cases x with
    | BoolOp op xs p =>
      match op, xs, h with
      | .And, [l, r], h =>
        obtain ⟨h1, h2⟩ := b2 h
        refine DW.and ((sndT a X N sc sx l h1 ρ μ _ _ w).mono fun c μ1 w => ?_)
        cases c with
        | true =>
          rw [if_pos rfl] at w ⊢
          exact DW.one (sndT b X N sc sx r h2 ρ μ1 _ _ w)
        | false => exact w
      | .And, l :: r :: t :: ts, h =>
        obtain ⟨h1, h2⟩ := b2 h
        refine DW.and ((sndT a X N sc sx l h1 ρ μ _ _ w).mono fun c μ1 w => ?_)
        cases c with
        | true =>
          rw [if_pos rfl] at w ⊢
          exact sndW b X N sc sx _ h2 ρ μ1 _ _ w rfl
        | false => exact w
    | _ => cases h
  | .or a b, X, N, sc, sx, x, h, ρ, μ, Q, EX, w, hb => by
    cases x with
    | BoolOp op xs p =>
      match op, xs, h with
      | .Or, [l, r], h =>
        obtain ⟨h1, h2⟩ := b2 h
        refine DW.or ((sndT a X N sc sx l h1 ρ μ _ _ w).mono fun c μ1 w => ?_)
        cases c with
        | false =>
          rw [if_neg Bool.false_ne_true] at w ⊢
          exact DW.one (sndT b X N sc sx r h2 ρ μ1 _ _ w)
        | true => exact w
      | .Or, l :: r :: t :: ts, h =>
        obtain ⟨h1, h2⟩ := b2 h
        refine DW.or ((sndT a X N sc sx l h1 ρ μ _ _ w).mono fun c μ1 w => ?_)
        cases c with
        | false =>
          rw [if_neg Bool.false_ne_true] at w ⊢
          exact sndW b X N sc sx _ h2 ρ μ1 _ _ w rfl
        | true => exact w
    | _ => cases h
end
end
end DL
/-! Three names stored at once. -/
namespace DL
open PySem PySem.Spec PyProof.Rows L2
def swap3B (px py pz : Pos) (a b c : Expr) : Bool := (py.line == px.line) && ((pz.line == px.line) && (!([a, b, c].all (foldedForSure 8)) && !([a, b, c].all (constantsAlone 8))))
theorem swapped3 {X : Cx} {x y z : Str} {a b c : Expr} {px py pz pt pt2 : Pos} {kt k2 : Nat} (hk : X.env.scope.kind = .function) (hx : X.env.scope.names.lookup x = some .local) (hy : X.env.scope.names.lookup y = some .local) (hz : X.env.scope.names.lookup z = some .local)
    (hxy : x ≠ y) (hxz : x ≠ z) (hyz : y ≠ z) (sa : noStar a = true) (sb : noStar b = true) (sc : noStar c = true) (h : swap3B px py pz a b c = true) :
    swappedStores [.Tuple [.Name x px, .Name y py, .Name z pz] kt pt] (.Tuple [a, b, c] k2 pt2) X.env = pure (some [x, y, z]) := by
  have kx : X.env.kindOf x = some .local := hx
  have ky : X.env.kindOf y = some .local := hy
  have kz : X.env.kindOf z = some .local := hz
  have hb : X.env.blockKind = .function := by unfold Env.blockKind; rw [hk]; rfl
  unfold swap3B at h
  simp only [Bool.and_eq_true, Bool.not_eq_true'] at h
  obtain ⟨h1, h2, h3, h4⟩ := h
  have nd : ([x, y, z].eraseDups).length = 3 := by
    have e : (y == x) = false := beq_eq_false_iff_ne.mpr (fun q => hxy q.symm)
    have e2 : (z == x) = false := beq_eq_false_iff_ne.mpr (fun q => hxz q.symm)
    have e3 : (z == y) = false := beq_eq_false_iff_ne.mpr (fun q => hyz q.symm)
    simp [List.eraseDups_cons, e, e2, e3]
  have hpx : (px.line == px.line) = true := beq_self_eq_true _
  have e1 : (some NameKind.local == some NameKind.local) = true := rfl
  unfold swappedStores
  simp only [List.length_cons, List.length_nil, hb, List.filterMap_cons, List.filterMap_nil, List.head?_cons, Option.map_some, Option.getD_some, Expr.pos, kx, ky, kz, h1, h2, h3, h4, hpx, e1, Bool.true_and, if_true]
  refine (if_neg (by decide)).trans ((if_neg ?_).trans ((if_neg ?_).trans ((if_neg (by decide)).trans (if_neg (by decide)))))
  · intro hc
    rw [List.any_cons, List.any_cons, List.any_cons, List.any_nil, Bool.or_false, Bool.or_eq_true, Bool.or_eq_true] at hc
    rcases hc with hc | hc | hc
    · cases a <;> first | (cases hc; done) | (cases sa; done)
    · cases b <;> first | (cases hc; done) | (cases sb; done)
    · cases c <;> first | (cases hc; done) | (cases sc; done)
  · rw [nd]
    decide
section
variable {G : Gc} {X : Cx} {EX : EK} {N : List Str} {sc : Scope} {ρ : Rho} {μ : Mem} {K₀ : DEnds}
def three (ds : List D) (p : D → D → D → Prop) : Prop := match ds with
  | [x, y, z] => p x y z
  | _ => False
theorem DS.par3 (sx : SX G X N sc) {i j l : Nat} {x y z : Str} {a b c : Expr} {px py pz pt pt2 pos : Pos} {kt k2 : Nat} (hi : N[i]? = some x) (hj : N[j]? = some y) (hl : N[l]? = some z) (hij : i ≠ j) (hil : i ≠ l) (hjl : j ≠ l)
    (hx : sc.names.lookup x = some .local) (hy : sc.names.lookup y = some .local) (hz : sc.names.lookup z = some .local) (hxy : x ≠ y) (hxz : x ≠ z) (hyz : y ≠ z) (sa : noStar a = true) (sb : noStar b = true) (s3 : noStar c = true) (hsw : swap3B px py pz a b c = true)
    (h : DA X EX [a, b, c] ρ μ fun ds μ1 => three ds fun d e f => K₀.nx (((ρ.set i (some d)).set j (some e)).set l (some f)) μ1) : DS X EX (.Assign [.Tuple [.Name x px, .Name y py, .Name z pz] kt pt] (.Tuple [a, b, c] k2 pt2) pos) ρ μ K₀ := fun σ H F en m => by
  have hx2 : X.env.scope.names.lookup x = some .local := by rw [sx.esc]; exact hx
  have hy2 : X.env.scope.names.lookup y = some .local := by rw [sx.esc]; exact hy
  have hz2 : X.env.scope.names.lookup z = some .local := by rw [sx.esc]; exact hz
  have hk : X.env.scope.kind = .function := by rw [sx.esc]; exact sx.kind
  refine ws_of (L2.ps_par3 (i := i) (j := j) (l := l) sx.calm (by rw [sx.hN]; exact sx.nd) (by rw [sx.hN]; exact hi) (by rw [sx.hN]; exact hj) (by rw [sx.hN]; exact hl) hij hil hjl hx2 hy2 hz2 pa_wa (swapped3 hk hx2 hy2 hz2 hxy hxz hyz sa sb s3 hsw)) ?_
  refine (h σ H F en m).mono fun vs H1 ⟨ds, F1, μ1, g1, m1, r1, q⟩ => ?_
  match ds, r1, q with
  | [d, e, f], .cons rv (.cons ru (.cons rw' .nil)), q =>
    exact ⟨_, _, _, rfl, _, F1, μ1, g1, m1, ((((en.on g1 m).set i rv).set j ru).set l rw').toREnv, q⟩
end
end DL
/-! Statements over the syntax. -/
namespace DL
open PySem PySem.Spec PyProof.Rows L2
def onV {A : Type} (o : Option A) (f : A → Bool) : Bool := match o with
  | some a => f a
  | none => false
theorem onV_ok {A : Type} {o : Option A} {f : A → Bool} (h : onV o f = true) : ∃ a, o = some a ∧ f a = true := by
  cases o with
  | none => exact nomatch h
  | some a => exact ⟨a, rfl, h⟩
structure vSet_t where
  y_ : Str
  py_ : Pos
  ex_ : Expr
  sp_ : Pos
def vSet : Stmt → Option vSet_t
  | .Assign [.Name y py] ex sp => some ⟨y, py, ex, sp⟩
  | _ => none
theorem vSet_ok {x0 : Stmt} {a : vSet_t} (h : vSet x0 = some a) : x0 = .Assign [.Name a.y_ a.py_] a.ex_ a.sp_ := by
  unfold vSet at h
  split at h
  · cases h; rfl
  · cases h
structure vAsg_t where
  ts_ : List Expr
  k_ : Nat
  p_ : Pos
  ex_ : Expr
  sp_ : Pos
def vAsg : Stmt → Option vAsg_t
  | .Assign [.Tuple ts k p] ex sp => some ⟨ts, k, p, ex, sp⟩
  | _ => none
theorem vAsg_ok {x0 : Stmt} {a : vAsg_t} (h : vAsg x0 = some a) : x0 = .Assign [.Tuple a.ts_ a.k_ a.p_] a.ex_ a.sp_ := by
  unfold vAsg at h
  split at h
  · cases h; rfl
  · cases h
structure vSub_t where
  x_ : Expr
  y_ : Expr
  p_ : Pos
  ex_ : Expr
  sp_ : Pos
def vSub : Stmt → Option vSub_t
  | .Assign [.Subscript x y p] ex sp => some ⟨x, y, p, ex, sp⟩
  | _ => none
theorem vSub_ok {x0 : Stmt} {a : vSub_t} (h : vSub x0 = some a) : x0 = .Assign [.Subscript a.x_ a.y_ a.p_] a.ex_ a.sp_ := by
  unfold vSub at h
  split at h
  · cases h; rfl
  · cases h
structure vAug_t where
  x_ : Str
  p_ : Pos
  ex_ : Expr
  sp_ : Pos
def vAug : Stmt → Option vAug_t
  | .AugAssign (.Name x p) .Add ex sp => some ⟨x, p, ex, sp⟩
  | _ => none
theorem vAug_ok {x0 : Stmt} {a : vAug_t} (h : vAug x0 = some a) : x0 = .AugAssign (.Name a.x_ a.p_) .Add a.ex_ a.sp_ := by
  unfold vAug at h
  split at h
  · cases h; rfl
  · cases h
structure vExp_t where
  ex_ : Expr
  sp_ : Pos
def vExp : Stmt → Option vExp_t
  | .Expr ex sp => some ⟨ex, sp⟩
  | _ => none
theorem vExp_ok {x0 : Stmt} {a : vExp_t} (h : vExp x0 = some a) : x0 = .Expr a.ex_ a.sp_ := by
  unfold vExp at h
  split at h
  · cases h; rfl
  · cases h
structure vRet_t where
  ex_ : Expr
  sp_ : Pos
def vRet : Stmt → Option vRet_t
  | .Return (some ex) sp => some ⟨ex, sp⟩
  | _ => none
theorem vRet_ok {x0 : Stmt} {a : vRet_t} (h : vRet x0 = some a) : x0 = .Return (some a.ex_) a.sp_ := by
  unfold vRet at h
  split at h
  · cases h; rfl
  · cases h
structure vRetN_t where
  sp_ : Pos
def vRetN : Stmt → Option vRetN_t
  | .Return none sp => some ⟨sp⟩
  | _ => none
theorem vRetN_ok {x0 : Stmt} {a : vRetN_t} (h : vRetN x0 = some a) : x0 = .Return none a.sp_ := by
  unfold vRetN at h
  split at h
  · cases h; rfl
  · cases h
structure vRzI_t where
  c_ : Str
  p_ : Pos
  e_ : Expr
  es_ : List Expr
  p3_ : Pos
  sp_ : Pos
def vRzI : Stmt → Option vRzI_t
  | .Raise (some (.Call (.Name c p) (e :: es) [] p3)) none sp => some ⟨c, p, e, es, p3, sp⟩
  | _ => none
theorem vRzI_ok {x0 : Stmt} {a : vRzI_t} (h : vRzI x0 = some a) : x0 = .Raise (some (.Call (.Name a.c_ a.p_) (a.e_ :: a.es_) [] a.p3_)) none a.sp_ := by
  unfold vRzI at h
  split at h
  · cases h; rfl
  · cases h
structure vAtt_t where
  x_ : Expr
  f_ : Str
  p_ : Pos
  ex_ : Expr
  sp_ : Pos
def vAtt : Stmt → Option vAtt_t
  | .Assign [.Attribute x f p] ex sp => some ⟨x, f, p, ex, sp⟩
  | _ => none
theorem vAtt_ok {x0 : Stmt} {a : vAtt_t} (h : vAtt x0 = some a) : x0 = .Assign [.Attribute a.x_ a.f_ a.p_] a.ex_ a.sp_ := by
  unfold vAtt at h
  split at h
  · cases h; rfl
  · cases h
structure vIf_t where
  ex_ : Expr
  u_ : List Stmt
  v_ : List Stmt
  sp_ : Pos
def vIf : Stmt → Option vIf_t
  | .If ex u v sp => some ⟨ex, u, v, sp⟩
  | _ => none
theorem vIf_ok {x0 : Stmt} {a : vIf_t} (h : vIf x0 = some a) : x0 = .If a.ex_ a.u_ a.v_ a.sp_ := by
  unfold vIf at h
  split at h
  · cases h; rfl
  · cases h
structure vFor_t where
  tg_ : Expr
  iter_ : Expr
  body_ : List Stmt
  sp_ : Pos
def vFor : Stmt → Option vFor_t
  | .For tg iter body [] sp => some ⟨tg, iter, body, sp⟩
  | _ => none
theorem vFor_ok {x0 : Stmt} {a : vFor_t} (h : vFor x0 = some a) : x0 = .For a.tg_ a.iter_ a.body_ [] a.sp_ := by
  unfold vFor at h
  split at h
  · cases h; rfl
  · cases h
structure vWh_t where
  ex_ : Expr
  body_ : List Stmt
  sp_ : Pos
def vWh : Stmt → Option vWh_t
  | .While ex body [] sp => some ⟨ex, body, sp⟩
  | _ => none
theorem vWh_ok {x0 : Stmt} {a : vWh_t} (h : vWh x0 = some a) : x0 = .While a.ex_ a.body_ [] a.sp_ := by
  unfold vWh at h
  split at h
  · cases h; rfl
  · cases h
structure vPass_t where
  sp_ : Pos
def vPass : Stmt → Option vPass_t
  | .Pass sp => some ⟨sp⟩
  | _ => none
theorem vPass_ok {x0 : Stmt} {a : vPass_t} (h : vPass x0 = some a) : x0 = .Pass a.sp_ := by
  unfold vPass at h
  split at h
  · cases h; rfl
  · cases h
structure vBrk_t where
  sp_ : Pos
def vBrk : Stmt → Option vBrk_t
  | .Break sp => some ⟨sp⟩
  | _ => none
theorem vBrk_ok {x0 : Stmt} {a : vBrk_t} (h : vBrk x0 = some a) : x0 = .Break a.sp_ := by
  unfold vBrk at h
  split at h
  · cases h; rfl
  · cases h
structure vCont_t where
  sp_ : Pos
def vCont : Stmt → Option vCont_t
  | .Continue sp => some ⟨sp⟩
  | _ => none
theorem vCont_ok {x0 : Stmt} {a : vCont_t} (h : vCont x0 = some a) : x0 = .Continue a.sp_ := by
  unfold vCont at h
  split at h
  · cases h; rfl
  · cases h
structure vNms_t where
  x_ : Str
  px_ : Pos
  y_ : Str
  py_ : Pos
def vNms : List Expr → Option vNms_t
  | [.Name x px, .Name y py] => some ⟨x, px, y, py⟩
  | _ => none
theorem vNms_ok {x0 : List Expr} {a : vNms_t} (h : vNms x0 = some a) : x0 = [.Name a.x_ a.px_, .Name a.y_ a.py_] := by
  unfold vNms at h
  split at h
  · cases h; rfl
  · cases h
structure vNms3_t where
  x_ : Str
  px_ : Pos
  y_ : Str
  py_ : Pos
  z_ : Str
  pz_ : Pos
def vNms3 : List Expr → Option vNms3_t
  | [.Name x px, .Name y py, .Name z pz] => some ⟨x, px, y, py, z, pz⟩
  | _ => none
theorem vNms3_ok {x0 : List Expr} {a : vNms3_t} (h : vNms3 x0 = some a) : x0 = [.Name a.x_ a.px_, .Name a.y_ a.py_, .Name a.z_ a.pz_] := by
  unfold vNms3 at h
  split at h
  · cases h; rfl
  · cases h
structure vTup3_t where
  u_ : Expr
  v_ : Expr
  w_ : Expr
  k2_ : Nat
  p2_ : Pos
def vTup3 : Expr → Option vTup3_t
  | .Tuple [u, v, w] k2 p2 => some ⟨u, v, w, k2, p2⟩
  | _ => none
theorem vTup3_ok {x0 : Expr} {a : vTup3_t} (h : vTup3 x0 = some a) : x0 = .Tuple [a.u_, a.v_, a.w_] a.k2_ a.p2_ := by
  unfold vTup3 at h
  split at h
  · cases h; rfl
  · cases h
structure vSubNm_t where
  x_ : Expr
  y_ : Expr
  p_ : Pos
  v_ : Str
  p2_ : Pos
def vSubNm : List Expr → Option vSubNm_t
  | [.Subscript x y p, .Name v p2] => some ⟨x, y, p, v, p2⟩
  | _ => none
theorem vSubNm_ok {x0 : List Expr} {a : vSubNm_t} (h : vSubNm x0 = some a) : x0 = [.Subscript a.x_ a.y_ a.p_, .Name a.v_ a.p2_] := by
  unfold vSubNm at h
  split at h
  · cases h; rfl
  · cases h
structure vTup2_t where
  u_ : Expr
  v_ : Expr
  k2_ : Nat
  p2_ : Pos
def vTup2 : Expr → Option vTup2_t
  | .Tuple [u, v] k2 p2 => some ⟨u, v, k2, p2⟩
  | _ => none
theorem vTup2_ok {x0 : Expr} {a : vTup2_t} (h : vTup2 x0 = some a) : x0 = .Tuple [a.u_, a.v_] a.k2_ a.p2_ := by
  unfold vTup2 at h
  split at h
  · cases h; rfl
  · cases h
structure vMeth_t where
  x_ : Expr
  nm_ : Str
  apos_ : Pos
  args_ : List Expr
  cpos_ : Pos
def vMeth : Expr → Option vMeth_t
  | .Call (.Attribute x nm apos) args [] cpos => some ⟨x, nm, apos, args, cpos⟩
  | _ => none
theorem vMeth_ok {x0 : Expr} {a : vMeth_t} (h : vMeth x0 = some a) : x0 = .Call (.Attribute a.x_ a.nm_ a.apos_) a.args_ [] a.cpos_ := by
  unfold vMeth at h
  split at h
  · cases h; rfl
  · cases h
structure vOne_t where
  x_ : Expr
def vOne : List Expr → Option vOne_t
  | [x] => some ⟨x⟩
  | _ => none
theorem vOne_ok {x0 : List Expr} {a : vOne_t} (h : vOne x0 = some a) : x0 = [a.x_] := by
  unfold vOne at h
  split at h
  · cases h; rfl
  · cases h
structure vTwo_t where
  x_ : Expr
  y_ : Expr
def vTwo : List Expr → Option vTwo_t
  | [x, y] => some ⟨x, y⟩
  | _ => none
theorem vTwo_ok {x0 : List Expr} {a : vTwo_t} (h : vTwo x0 = some a) : x0 = [a.x_, a.y_] := by
  unfold vTwo at h
  split at h
  · cases h; rfl
  · cases h
def vNil : List Expr → Option Unit
  | [] => some ()
  | _ => none
theorem vNil_ok {x0 : List Expr} {a : Unit} (h : vNil x0 = some a) : x0 = [] := by
  unfold vNil at h
  split at h
  · rfl
  · cases h
structure vLC_t where
  el_ : Expr
  tg_ : Expr
  iter_ : Expr
  ifs_ : List Expr
  k_ : Int
  scope_ : Scope
  pos_ : Pos
def vLC : Expr → Option vLC_t
  | .ListComp el [⟨tg, iter, ifs, k⟩] scope pos => some ⟨el, tg, iter, ifs, k, scope, pos⟩
  | _ => none
theorem vLC_ok {x0 : Expr} {a : vLC_t} (h : vLC x0 = some a) : x0 = .ListComp a.el_ [⟨a.tg_, a.iter_, a.ifs_, a.k_⟩] a.scope_ a.pos_ := by
  unfold vLC at h
  split at h
  · cases h; rfl
  · cases h
structure vRaise_t where
  c_ : Str
  p_ : Pos
  s_ : Str
  j_ : Nat
  p2_ : Pos
  p3_ : Pos
  sp_ : Pos
def vRaise : Stmt → Option vRaise_t
  | .Raise (some (.Call (.Name c p) [.Constant (.str s) j p2] [] p3)) none sp => some ⟨c, p, s, j, p2, p3, sp⟩
  | _ => none
theorem vRaise_ok {x0 : Stmt} {a : vRaise_t} (h : vRaise x0 = some a) : x0 = .Raise (some (.Call (.Name a.c_ a.p_) [.Constant (.str a.s_) a.j_ a.p2_] [] a.p3_)) none a.sp_ := by
  unfold vRaise at h
  split at h
  · cases h; rfl
  · cases h
structure vTry_t where
  body_ : List Stmt
  c_ : Str
  np_ : Pos
  n_ : Option Str
  b0_ : Stmt
  suite_ : List Stmt
  p2_ : Pos
  sp_ : Pos
def vTry : Stmt → Option vTry_t
  | .Try body [.ExceptHandler (some (.Name c np)) n (b₀ :: suite) p2] [] [] sp => some ⟨body, c, np, n, b₀, suite, p2, sp⟩
  | _ => none
theorem vTry_ok {x0 : Stmt} {a : vTry_t} (h : vTry x0 = some a) : x0 = .Try a.body_ [.ExceptHandler (some (.Name a.c_ a.np_)) a.n_ (a.b0_ :: a.suite_) a.p2_] [] [] a.sp_ := by
  unfold vTry at h
  split at h
  · cases h; rfl
  · cases h
def lcClean (y : Str) (scope : Scope) : Bool := !(scope.names.any fun (n, k) => n == y && (k == .local || k == .cell))
def isLocal (sc : Scope) (y : Str) : Bool := match sc.names.lookup y with
  | some .local => true
  | _ => false
theorem isLocal_ok {sc : Scope} {y : Str} (h : isLocal sc y = true) : sc.names.lookup y = some .local := by
  unfold isLocal at h
  split at h
  · assumption
  · cases h
def isCell (sc : Scope) (y : Str) : Bool := match sc.names.lookup y with
  | some .cell => true
  | _ => false
theorem isCell_ok {sc : Scope} {y : Str} (h : isCell sc y = true) : sc.names.lookup y = some .cell := by
  unfold isCell at h
  split at h
  · assumption
  · cases h
/-- the value may be stored in the plain way -/
def setB (sc : Scope) (y : Str) (e : Expr) : Bool := !isLC e || isCell sc y
def chkSet (has : Str → Bool) (N : List Str) (sc : Scope) (e : E) (y : Str) (py : Pos) (ex : Expr) : Bool :=
  if setB sc y ex = true then chkE has N e sc ex else (match e with
    | .lc z t it cs elt => onV (vLC ex) fun a => isLocal sc y && ((py.line == a.pos_.line) && (lcClean y a.scope_ && (decide (a.k_ = 0) && (!isSetE a.iter_ && (chkI has N it a.tg_ sc a.iter_ && (tgB N (ownB a.scope_) t a.tg_ && (blkC N sc a.scope_ (ownOf N t) && (chkTs has N cs (relS a.scope_ sc) a.ifs_ && chkE has N elt (relS a.scope_ sc) a.el_))))))))
    | _ => false)
def chkM (f : Str) (sc : Scope) (st : Stmt) (k : vMeth_t → Bool) : Bool := onV (vExp st) fun a => onV (vMeth a.ex_) fun b => decide (b.nm_ = f) && (noSuper b.x_ && ((b.apos_.endLine == b.cpos_.line) && k b))
def isGh : S → Bool
  | .opn _ => true
  | .drp _ => true
  | _ => false
mutual
def chkS (has : Str → Bool) (N : List Str) : S → Scope → Stmt → Bool
  | .set i e, sc, st => onV (vSet st) fun a => decide (N[i]? = some a.y_) && (locB sc a.y_ && chkSet has N sc e a.y_ a.py_ a.ex_)
  | .asg t e, sc, st => onV (vAsg st) fun a => tgB N (locB sc) t (.Tuple a.ts_ a.k_ a.p_) && (tupFree a.ex_ && chkE has N e sc a.ex_)
  | .par3 i j l a b e, sc, st => onV (vAsg st) fun c => onV (vNms3 c.ts_) fun n => onV (vTup3 c.ex_) fun d =>
      decide (N[i]? = some n.x_) && (decide (N[j]? = some n.y_) && (decide (N[l]? = some n.z_) && (decide (i ≠ j) && (decide (i ≠ l) && (decide (j ≠ l) && (isLocal sc n.x_ && (isLocal sc n.y_ && (isLocal sc n.z_ && (decide (n.x_ ≠ n.y_) && (decide (n.x_ ≠ n.z_) && (decide (n.y_ ≠ n.z_) && (noStar d.u_ && (noStar d.v_ && (noStar d.w_ && (swap3B n.px_ n.py_ n.pz_ d.u_ d.v_ d.w_ && (chkE has N a sc d.u_ && (chkE has N b sc d.v_ && chkE has N e sc d.w_)))))))))))))))))
  | .par i j a b, sc, st => onV (vAsg st) fun c => onV (vNms c.ts_) fun n => onV (vTup2 c.ex_) fun d =>
      decide (N[i]? = some n.x_) && (decide (N[j]? = some n.y_) && (decide (i ≠ j) && (isLocal sc n.x_ && (isLocal sc n.y_ && (decide (n.x_ ≠ n.y_) && (noStar d.u_ && (noStar d.v_ && (swap2B n.px_ n.py_ d.u_ d.v_ && (chkE has N a sc d.u_ && chkE has N b sc d.v_)))))))))
  | .setIx o i e, sc, st => onV (vSub st) fun a => !isSlice a.y_ && (!isLC a.ex_ && (chkE has N e sc a.ex_ && (chkE has N o sc a.x_ && chkE has N i sc a.y_)))
  | .setIx2 o i j e, sc, st => onV (vAsg st) fun c => onV (vSubNm c.ts_) fun a => !isSlice a.y_ && (!isTupE c.ex_ && (decide (N[j]? = some a.v_) && (locB sc a.v_ && (chkE has N e sc c.ex_ && (chkE has N o sc a.x_ && chkE has N i sc a.y_)))))
  | .aug i o e, sc, st => onV (vAug st) fun a => decide (o = .add) && (decide (N[i]? = some a.x_) && (locB sc a.x_ && chkE has N e sc a.ex_))
  | .expr e, sc, st => onV (vExp st) fun a => !isLC a.ex_ && chkE has N e sc a.ex_
  | .app o e, sc, st => chkM "append" sc st fun b => onV (vOne b.args_) fun c => noStar c.x_ && (chkE has N o sc b.x_ && chkE has N e sc c.x_)
  | .ext o e, sc, st => chkM "extend" sc st fun b => onV (vOne b.args_) fun c => noStar c.x_ && (chkE has N o sc b.x_ && chkE has N e sc c.x_)
  | .ins o i e, sc, st => chkM "insert" sc st fun b => onV (vTwo b.args_) fun c => noStar c.x_ && (noStar c.y_ && (chkE has N o sc b.x_ && (chkE has N i sc c.x_ && chkE has N e sc c.y_)))
  | .pop o, sc, st => chkM "pop" sc st fun b => onV (vNil b.args_) fun _ => chkE has N o sc b.x_
  | .clear o, sc, st => chkM "clear" sc st fun b => onV (vNil b.args_) fun _ => chkE has N o sc b.x_
  | .ret e, sc, st => onV (vRet st) fun a => chkE has N e sc a.ex_
  | .retN, _, st => onV (vRetN st) fun _ => true
  | .ite t a b, sc, st => onV (vIf st) fun c => chkT has N t sc c.ex_ && (chkSs has N a sc c.u_ && chkSs has N b sc c.v_)
  | .for_ _ t it b, sc, st => onV (vFor st) fun c => tgB N (locB sc) t c.tg_ && (!isSetE c.iter_ && (chkI has N it c.tg_ sc c.iter_ && chkSs has N b sc c.body_))
  | .while_ _ t b, sc, st => onV (vWh st) fun c => chkT has N t sc c.ex_ && chkSs has N b sc c.body_
  | .pass, _, st => onV (vPass st) fun _ => true
  | .brk, _, st => onV (vBrk st) fun _ => true
  | .cont, _, st => onV (vCont st) fun _ => true
  | .never, _, _ => true
  | .opn _, _, _ => false
  | .drp _, _, _ => false
  | .setA o f e, sc, st => onV (vAtt st) fun a => decide (a.f_ = f) && (!isLC a.ex_ && (chkE has N e sc a.ex_ && chkE has N o sc a.x_))
  | .setK o i e, sc, st => onV (vSub st) fun a => !isLC a.ex_ && (chkE has N e sc a.ex_ && (chkE has N o sc a.x_ && chkE has N i sc a.y_))
  | .raise c _, sc, st => onV (vRaise st) fun a => decide (a.c_ = c) && (gloB sc c && nmB c)
  | .raiseI c es, sc, st => onV (vRzI st) fun a => decide (a.c_ = c) && (gloB sc c && (nmB c && chkEs has N es sc (a.e_ :: a.es_)))
  | .tryAs b c i h, sc, st => onV (vTry st) fun a => decide (a.c_ = c) && (gloB sc c && (nmB c && (onV a.n_ fun n => decide (N[i]? = some n) && (isLocal sc n && (chkHs N (some i) sc h (a.b0_ :: a.suite_) && chkSs has N b sc a.body_)))))
  | .try_ b c h, sc, st => onV (vTry st) fun a => decide (a.c_ = c) && (gloB sc c && (nmB c && (a.n_.isNone && (chkHs N none sc h (a.b0_ :: a.suite_) && chkSs has N b sc a.body_))))
def chkSs (has : Str → Bool) (N : List Str) : Ss → Scope → List Stmt → Bool
  | .nil, _, xs => xs.isEmpty
  | .cons s ss, sc, xs => if isGh s = true then chkSs has N ss sc xs else onV xs.head? fun x => chkS has N s sc x && chkSs has N ss sc xs.tail
end
end DL
/-! What statements want is enough. -/
namespace DL
open PySem PySem.Spec PyProof.Rows L2
section
variable {G : Gc}
theorem swap_cell {v : Expr} {y : Str} {p : Pos} {l : Nat} {env : Env} (h : env.scope.names.lookup y = some .cell) : swapsWith v (some (.Name y p)) l env = pure false := by
  have k : env.kindOf y = some .cell := h
  have e : (some NameKind.cell == some NameKind.local) = false := rfl
  cases v <;> first | rfl | (unfold swapsWith; simp only [k, e, Bool.and_false, Bool.false_and]) | (unfold swapsWith; simp only [k, e, Bool.and_false, Bool.false_and]; rfl)
theorem setB_ok {X : Cx} {N : List Str} {sc : Scope} (sx : SX G X N sc) {y : Str} {p : Pos} {ex : Expr} {l : Nat} (h : setB sc y ex = true) : swapsWith ex (some (.Name y p)) l X.env = pure false := by
  unfold setB at h
  rw [Bool.or_eq_true] at h
  rcases h with h | h
  · exact swap_no (bn h)
  · exact swap_cell (by rw [sx.esc]; exact isCell_ok h)
theorem getV_of : ∀ {ρ : Rho} {i : Nat} {k : D → Prop} {d : D}, ρ[i]? = some (some d) → k d → getV ρ i k
  | some _ :: _, 0, k, d, h, q => by cases h; exact q
  | none :: _, 0, k, d, h, q => by cases h
  | o :: r, i + 1, k, d, h, q => getV_of (ρ := r) (i := i) (by rw [List.getElem?_cons_succ] at h; exact h) q
theorem DS.monoN {X : Cx} {EX : EK} {st : Stmt} {ρ : Rho} {μ : Mem} {K : DEnds} {P Q : Rho → Mem → Prop} (h : DS X EX st ρ μ { K with nx := P }) (m : ∀ ρ μ, P ρ μ → Q ρ μ) : DS X EX st ρ μ { K with nx := Q } := fun σ H F e ms =>
  (h σ H F e ms).mono ⟨fun _ _ ⟨ρ', F', μ', g, m', e', q⟩ => ⟨ρ', F', μ', g, m', e', m _ _ q⟩, fun _ _ q => q, fun _ _ q => q, fun _ _ q => q⟩
theorem chkM_ok {f : Str} {sc : Scope} {st : Stmt} {k : vMeth_t → Bool} (h : chkM f sc st k = true) : ∃ (a : vExp_t) (b : vMeth_t), st = .Expr (.Call (.Attribute b.x_ f b.apos_) b.args_ [] b.cpos_) a.sp_ ∧ True ∧ noSuper b.x_ = true ∧ (b.apos_.endLine == b.cpos_.line) = true ∧ k b = true := by
  obtain ⟨a, ha, h⟩ := onV_ok h
  obtain ⟨b, hb, h⟩ := onV_ok h
  obtain ⟨a1, h⟩ := b2 h
  obtain ⟨a2, h⟩ := b2 h
  obtain ⟨a3, h⟩ := b2 h
  have e0 := of_decide_eq_true a1
  have e := vExp_ok ha
  rw [vMeth_ok hb, e0] at e
  exact ⟨a, b, e, trivial, a2, a3, h⟩
theorem sndSet {X : Cx} {N : List Str} {sc : Scope} (sx : SX G X N sc) (hf : ∀ x, X.fn x = true) {i : Nat} {e : E} {y : Str} {py sp : Pos} {ex : Expr} {ρ : Rho} {μ : Mem} {K : DEnds} {EX : EK} (h1 : N[i]? = some y) (h2 : locB sc y = true) (h3 : chkSet G.has N sc e y py ex = true) (w : wpS G (.set i e) ρ μ K EX) :
    DS X EX (.Assign [.Name y py] ex sp) ρ μ K := by
  unfold chkSet at h3
  split at h3
  · rename_i hs
    exact DS.set sx hf h1 h2 (setB_ok sx hs) (sndE e X N sc sx ex h3 ρ μ _ _ w)
  · cases e with
    | lc z t it cs elt =>
      obtain ⟨a, ha, h3⟩ := onV_ok h3
      obtain rfl := vLC_ok ha
      obtain ⟨a1, h3⟩ := b2 h3
      obtain ⟨a2, h3⟩ := b2 h3
      obtain ⟨a3, h3⟩ := b2 h3
      obtain ⟨a4, h3⟩ := b2 h3
      obtain ⟨a5, h3⟩ := b2 h3
      obtain ⟨a6, h3⟩ := b2 h3
      obtain ⟨a7, h3⟩ := b2 h3
      obtain ⟨a8, h3⟩ := b2 h3
      obtain ⟨a9, h3⟩ := b2 h3
      rw [of_decide_eq_true a4]
      exact DS.setLc sx h1 (isLocal_ok a1) a2 (bn a3) (bn a5) (own := ownOf N t)
        ⟨blkOk_by a8, ownOf_slots N t, a7, fun X' sx' ρ' μ' q w => sndTs cs X' N _ sx' _ a9 ρ' μ' q _ w, fun X' sx' ρ' μ' q w => sndE elt X' N _ sx' _ h3 ρ' μ' q _ w⟩ (sndI it X N sc sx _ _ a6 ρ μ _ _ w)
    | _ => cases h3
theorem chkSs_no {has : Str → Bool} {N : List Str} {s : S} {ss : Ss} {sc : Scope} {xs : List Stmt} (gh : isGh s = false) (h : chkSs has N (.cons s ss) sc xs = true) : ∃ x r, xs = x :: r ∧ chkS has N s sc x = true ∧ chkSs has N ss sc r = true := by
  have h : (if isGh s = true then chkSs has N ss sc xs else onV xs.head? fun x => chkS has N s sc x && chkSs has N ss sc xs.tail) = true := h
  rw [if_neg (by rw [gh]; decide)] at h
  cases xs with
  | nil => cases h
  | cons x r => exact ⟨x, r, rfl, (b2 h).1, (b2 h).2⟩
theorem chkSs_gh {has : Str → Bool} {N : List Str} {s : S} {ss : Ss} {sc : Scope} {xs : List Stmt} (gh : isGh s = true) (h : chkSs has N (.cons s ss) sc xs = true) : chkSs has N ss sc xs = true := by
  have h : (if isGh s = true then chkSs has N ss sc xs else onV xs.head? fun x => chkS has N s sc x && chkSs has N ss sc xs.tail) = true := h
  rw [if_pos gh] at h
  exact h
theorem DSs.opn {X : Cx} {EX : EK} {st : List Stmt} {ρ : Rho} {μ : Mem} {K : DEnds} {i : Nat} {P : Mem → Prop} (h : getV ρ i fun y => openD y μ P) (k : ∀ μ', P μ' → DSs X EX st ρ μ' K) : DSs X EX st ρ μ K := fun σ H F e m => by
  obtain ⟨y, _, h⟩ := getV_ok h
  obtain ⟨a, r, ey, em, h⟩ := openD_ok h
  obtain ⟨p, q, ⟨b1, b2, b3⟩, g, m2⟩ := open_pot m em
  exact (k _ (h p q b1 b2 b3) σ H F (e.on g m) m2).mono (endsOf_le g)
theorem DSs.drp {X : Cx} {EX : EK} {st : List Stmt} {ρ : Rho} {μ : Mem} {K : DEnds} {is : List Nat} (h : DSs X EX st ρ (dropM ρ is μ) K) : DSs X EX st ρ μ K := fun σ H F e m => by
  obtain ⟨g, m2⟩ := drop_ok (ρ := ρ) is m
  exact (h σ H F (e.on g m) m2).mono (endsOf_le g)
mutual
theorem sndS (N : List Str) (sc : Scope) : ∀ (s : S) (X : Cx) (sx : SX G X N sc) (hf : ∀ x, X.fn x = true) (fr : X.stack = X.env :: X.outer ∧ X.env.frame = some X.env.locals) (st : Stmt), chkS G.has N s sc st = true → ∀ ρ μ K EX, wpS G s ρ μ K EX → DS X EX st ρ μ K
  | .set i e, X, sx, hf, fr, st, h, ρ, μ, K, EX, w => by
    obtain ⟨a, ha, h⟩ := onV_ok h
    obtain rfl := vSet_ok ha
    obtain ⟨h1, h2⟩ := b2 h
    obtain ⟨h2, h3⟩ := b2 h2
    exact sndSet sx hf (of_decide_eq_true h1) h2 h3 w
  | .asg t e, X, sx, hf, fr, st, h, ρ, μ, K, EX, w => by
    obtain ⟨a, ha, h⟩ := onV_ok h
    obtain rfl := vAsg_ok ha
    obtain ⟨h1, h2⟩ := b2 h
    obtain ⟨h2, h3⟩ := b2 h2
    exact DS.asg sx hf h1 h2 (sndE e X N sc sx _ h3 ρ μ _ _ w)
  | .par3 i j l a b e, X, sx, hf, fr, st, h, ρ, μ, K, EX, w => by
    obtain ⟨c, hc, h⟩ := onV_ok h
    obtain ⟨n, hn, h⟩ := onV_ok h
    obtain ⟨d, hd, h⟩ := onV_ok h
    rw [vAsg_ok hc, vNms3_ok hn, vTup3_ok hd]
    obtain ⟨a1, h⟩ := b2 h
    obtain ⟨a2, h⟩ := b2 h
    obtain ⟨a3, h⟩ := b2 h
    obtain ⟨a4, h⟩ := b2 h
    obtain ⟨a5, h⟩ := b2 h
    obtain ⟨a6, h⟩ := b2 h
    obtain ⟨a7, h⟩ := b2 h
    obtain ⟨a8, h⟩ := b2 h
    obtain ⟨a9, h⟩ := b2 h
    obtain ⟨c1, h⟩ := b2 h
    obtain ⟨c2, h⟩ := b2 h
    obtain ⟨c3, h⟩ := b2 h
    obtain ⟨c4, h⟩ := b2 h
    obtain ⟨c5, h⟩ := b2 h
    obtain ⟨c6, h⟩ := b2 h
    obtain ⟨c7, h⟩ := b2 h
    obtain ⟨b1, h⟩ := b2 h
    obtain ⟨b3, b4⟩ := b2 h
    refine DS.par3 sx (of_decide_eq_true a1) (of_decide_eq_true a2) (of_decide_eq_true a3) (of_decide_eq_true a4) (of_decide_eq_true a5) (of_decide_eq_true a6) (isLocal_ok a7) (isLocal_ok a8) (isLocal_ok a9) (of_decide_eq_true c1) (of_decide_eq_true c2) (of_decide_eq_true c3) c4 c5 c6 c7 ?_
    refine DA.cons (star_cons c4) ((sndE a X N sc sx _ b1 ρ μ _ _ w).mono fun d μ1 w => ?_)
    refine DA.cons (star_cons c5) ((sndE b X N sc sx _ b3 ρ μ1 _ _ w).mono fun d2 μ2 w => ?_)
    refine DA.cons (star_cons c6) ((sndE e X N sc sx _ b4 ρ μ2 _ _ w).mono fun d3 μ3 w => ?_)
    exact DA.nil w
  | .par i j a b, X, sx, hf, fr, st, h, ρ, μ, K, EX, w => by
    obtain ⟨c, hc, h⟩ := onV_ok h
    obtain ⟨n, hn, h⟩ := onV_ok h
    obtain ⟨d, hd, h⟩ := onV_ok h
    rw [vAsg_ok hc, vNms_ok hn, vTup2_ok hd]
    obtain ⟨a1, h⟩ := b2 h
    obtain ⟨a2, h⟩ := b2 h
    obtain ⟨a3, h⟩ := b2 h
    obtain ⟨a4, h⟩ := b2 h
    obtain ⟨a5, h⟩ := b2 h
    obtain ⟨a6, h⟩ := b2 h
    obtain ⟨a7, h⟩ := b2 h
    obtain ⟨a8, h⟩ := b2 h
    obtain ⟨a9, h⟩ := b2 h
    obtain ⟨b1, b3⟩ := b2 h
    refine DS.par sx (of_decide_eq_true a1) (of_decide_eq_true a2) (of_decide_eq_true a3) (isLocal_ok a4) (isLocal_ok a5) (of_decide_eq_true a6) a7 a8 a9 ?_
    refine DA.cons (star_cons a7) ((sndE a X N sc sx _ b1 ρ μ _ _ w).mono fun d μ1 w => ?_)
    refine DA.cons (star_cons a8) ((sndE b X N sc sx _ b3 ρ μ1 _ _ w).mono fun d2 μ2 w => ?_)
    exact DA.nil w
  | .setIx o i e, X, sx, hf, fr, st, h, ρ, μ, K, EX, w => by
    obtain ⟨a, ha, h⟩ := onV_ok h
    obtain rfl := vSub_ok ha
    obtain ⟨a1, h⟩ := b2 h
    obtain ⟨a3, h⟩ := b2 h
    obtain ⟨a4, h⟩ := b2 h
    obtain ⟨a5, a6⟩ := b2 h
    exact DS.setIx (bn a1) (bn a3) ((sndE e X N sc sx _ a4 ρ μ _ _ w).mono fun d μ1 w => (sndE o X N sc sx _ a5 ρ μ1 _ _ w).mono fun d2 μ2 w => sndE i X N sc sx _ a6 ρ μ2 _ _ w)
  | .setIx2 o i j e, X, sx, hf, fr, st, h, ρ, μ, K, EX, w => by
    obtain ⟨c, hc, h⟩ := onV_ok h
    obtain ⟨a, ha, h⟩ := onV_ok h
    rw [vAsg_ok hc, vSubNm_ok ha]
    obtain ⟨a1, h⟩ := b2 h
    obtain ⟨a2, h⟩ := b2 h
    obtain ⟨a3, h⟩ := b2 h
    obtain ⟨a4, h⟩ := b2 h
    obtain ⟨a5, h⟩ := b2 h
    obtain ⟨a6, a7⟩ := b2 h
    refine DS.setIx2 sx hf (bn a1) (bn a2) (of_decide_eq_true a3) a4 ((sndE e X N sc sx _ a5 ρ μ _ _ w).mono fun d μ1 w => ?_)
    match d, w with
    | .tup [d1, d2], w => exact ⟨d1, d2, rfl, (sndE o X N sc sx _ a6 ρ μ1 _ _ w).mono fun d2 μ2 w => sndE i X N sc sx _ a7 ρ μ2 _ _ w⟩
  | .aug i o e, X, sx, hf, fr, st, h, ρ, μ, K, EX, w => by
    obtain ⟨a, ha, h⟩ := onV_ok h
    obtain rfl := vAug_ok ha
    obtain ⟨a1, h⟩ := b2 h
    obtain ⟨a2, h⟩ := b2 h
    obtain ⟨a3, a4⟩ := b2 h
    refine DS.aug sx hf (of_decide_eq_true a2) a3 ?_
    obtain ⟨d, hd, w⟩ := getV_ok w
    obtain ⟨i0, e0, w⟩ := intK_ok w
    refine getV_of hd ?_
    subst e0
    exact sndE e X N sc sx _ a4 ρ μ _ _ w
  | .expr e, X, sx, hf, fr, st, h, ρ, μ, K, EX, w => by
    obtain ⟨a, ha, h⟩ := onV_ok h
    obtain rfl := vExp_ok ha
    obtain ⟨a1, h⟩ := b2 h
    exact DS.expr (bn a1) (sndE e X N sc sx _ h ρ μ _ _ w)
  | .app o e, X, sx, hf, fr, st, h, ρ, μ, K, EX, w => by
    obtain ⟨a, b, e1, e2, a2, a3, h⟩ := chkM_ok (sc := sc) h
    obtain ⟨c, hc, h⟩ := onV_ok h
    rw [e1, vOne_ok hc]
    obtain ⟨a4, h⟩ := b2 h
    obtain ⟨a5, a6⟩ := b2 h
    exact DS.app a2 a3 a4 ((sndE o X N sc sx _ a5 ρ μ _ _ w).mono fun d μ1 w => ⟨w.1, sndE e X N sc sx _ a6 ρ μ1 _ _ w.2⟩)
  | .ext o e, X, sx, hf, fr, st, h, ρ, μ, K, EX, w => by
    obtain ⟨a, b, e1, e2, a2, a3, h⟩ := chkM_ok (sc := sc) h
    obtain ⟨c, hc, h⟩ := onV_ok h
    rw [e1, vOne_ok hc]
    obtain ⟨a4, h⟩ := b2 h
    obtain ⟨a5, a6⟩ := b2 h
    exact DS.ext a2 a3 a4 ((sndE o X N sc sx _ a5 ρ μ _ _ w).mono fun d μ1 w => ⟨w.1, sndE e X N sc sx _ a6 ρ μ1 _ _ w.2⟩)
  | .ins o i e, X, sx, hf, fr, st, h, ρ, μ, K, EX, w => by
    obtain ⟨a, b, e1, e2, a2, a3, h⟩ := chkM_ok (sc := sc) h
    obtain ⟨c, hc, h⟩ := onV_ok h
    rw [e1, vTwo_ok hc]
    obtain ⟨a4, h⟩ := b2 h
    obtain ⟨a5, h⟩ := b2 h
    obtain ⟨a6, h⟩ := b2 h
    obtain ⟨a7, a8⟩ := b2 h
    refine DS.ins a2 a3 a4 a5 ((sndE o X N sc sx _ a6 ρ μ _ _ w).mono fun d μ1 w => ⟨w.1, (sndE i X N sc sx _ a7 ρ μ1 _ _ w.2).mono fun k μ2 w => ?_⟩)
    obtain ⟨i0, e0, w⟩ := intK_ok w
    subst e0
    exact sndE e X N sc sx _ a8 ρ μ2 _ _ w
  | .pop o, X, sx, hf, fr, st, h, ρ, μ, K, EX, w => by
    obtain ⟨a, b, e1, e2, a2, a3, h⟩ := chkM_ok (sc := sc) h
    obtain ⟨c, hc, h⟩ := onV_ok h
    rw [e1, vNil_ok hc]
    exact DS.pop a2 a3 (sndE o X N sc sx _ h ρ μ _ _ w)
  | .clear o, X, sx, hf, fr, st, h, ρ, μ, K, EX, w => by
    obtain ⟨a, b, e1, e2, a2, a3, h⟩ := chkM_ok (sc := sc) h
    obtain ⟨c, hc, h⟩ := onV_ok h
    rw [e1, vNil_ok hc]
    exact DS.clear a2 a3 (sndE o X N sc sx _ h ρ μ _ _ w)
  | .ret e, X, sx, hf, fr, st, h, ρ, μ, K, EX, w => by
    obtain ⟨a, ha, h⟩ := onV_ok h
    obtain rfl := vRet_ok ha
    exact DS.ret (sndE e X N sc sx _ h ρ μ _ _ w)
  | .retN, X, sx, hf, fr, st, h, ρ, μ, K, EX, w => by
    obtain ⟨a, ha, h⟩ := onV_ok h
    obtain rfl := vRetN_ok ha
    exact DS.retN w
  | .ite t a b, X, sx, hf, fr, st, h, ρ, μ, K, EX, w => by
    obtain ⟨c, hc, h⟩ := onV_ok h
    obtain rfl := vIf_ok hc
    obtain ⟨a1, h⟩ := b2 h
    obtain ⟨a2, a3⟩ := b2 h
    refine DS.ite ((sndT t X N sc sx _ a1 ρ μ _ _ w).mono fun c μ1 w => ?_)
    cases c with
    | true =>
      rw [if_pos rfl] at w ⊢
      exact sndSs N sc a X sx hf fr _ a2 ρ μ1 K _ w
    | false =>
      rw [if_neg Bool.false_ne_true] at w ⊢
      exact sndSs N sc b X sx hf fr _ a3 ρ μ1 K _ w
  | .for_ ws t it b, X, sx, hf, fr, st, h, ρ, μ, K, EX, w => by
    obtain ⟨c, hc, h⟩ := onV_ok h
    obtain rfl := vFor_ok hc
    obtain ⟨a1, h⟩ := b2 h
    obtain ⟨a2, h⟩ := b2 h
    obtain ⟨a3, a4⟩ := b2 h
    exact DS.forW sx fr.1 hf (P := fun ρ μ K => wpSs G b ρ μ (wipeK ws K) EX) a1 (bn a2) (fun ρ μ K q => (sndSs N sc b X sx hf fr _ a4 ρ μ _ _ q).wiped) ws (sndI it X N sc sx _ _ a3 ρ μ _ _ w)
  | .while_ ws t b, X, sx, hf, fr, st, h, ρ, μ, K, EX, w => by
    obtain ⟨c, hc, h⟩ := onV_ok h
    obtain rfl := vWh_ok hc
    obtain ⟨a1, a2⟩ := b2 h
    exact DS.forget (vs := ws) (DS.while_ sx fr.1 (Pt := fun ρ μ q => wpT G t ρ μ q EX) (P := fun ρ μ K => wpSs G b ρ μ (wipeK ws K) EX) (fun ρ μ q w => sndT t X N sc sx _ a1 ρ μ _ _ w) (fun ρ μ K q => (sndSs N sc b X sx hf fr _ a2 ρ μ _ _ q).wiped) w)
  | .pass, X, sx, hf, fr, st, h, ρ, μ, K, EX, w => by
    obtain ⟨a, ha, h⟩ := onV_ok h
    obtain rfl := vPass_ok ha
    exact DS.pass w
  | .brk, X, sx, hf, fr, st, h, ρ, μ, K, EX, w => by
    obtain ⟨a, ha, h⟩ := onV_ok h
    obtain rfl := vBrk_ok ha
    exact DS.brk w
  | .cont, X, sx, hf, fr, st, h, ρ, μ, K, EX, w => by
    obtain ⟨a, ha, h⟩ := onV_ok h
    obtain rfl := vCont_ok ha
    exact DS.cont w
  | .never, X, sx, hf, fr, st, h, ρ, μ, K, EX, w => False.elim w
  | .opn i, X, sx, hf, fr, st, h, ρ, μ, K, EX, w => nomatch h
  | .drp i, X, sx, hf, fr, st, h, ρ, μ, K, EX, w => nomatch h
  | .setA o f e, X, sx, hf, fr, st, h, ρ, μ, K, EX, w => by
    obtain ⟨a, ha, h⟩ := onV_ok h
    obtain rfl := vAtt_ok ha
    obtain ⟨a1, h⟩ := b2 h
    obtain ⟨a3, h⟩ := b2 h
    obtain ⟨a4, a5⟩ := b2 h
    obtain rfl := of_decide_eq_true a1
    exact DS.setA sx (bn a3) ((sndE e X N sc sx _ a4 ρ μ _ _ w).mono fun d μ1 w => sndE o X N sc sx _ a5 ρ μ1 _ _ w)
  | .setK o i e, X, sx, hf, fr, st, h, ρ, μ, K, EX, w => by
    obtain ⟨a, ha, h⟩ := onV_ok h
    obtain rfl := vSub_ok ha
    obtain ⟨a3, h⟩ := b2 h
    obtain ⟨a4, h⟩ := b2 h
    obtain ⟨a5, a6⟩ := b2 h
    exact DS.setK sx (bn a3) ((sndE e X N sc sx _ a4 ρ μ _ _ w).mono fun d μ1 w => (sndE o X N sc sx _ a5 ρ μ1 _ _ w).mono fun d2 μ2 w => sndE i X N sc sx _ a6 ρ μ2 _ _ w)
  | .raise c s, X, sx, hf, fr, st, h, ρ, μ, K, EX, w => by
    obtain ⟨a, ha, h⟩ := onV_ok h
    obtain rfl := vRaise_ok ha
    obtain ⟨a1, h⟩ := b2 h
    obtain ⟨a2, a3⟩ := b2 h
    obtain rfl := of_decide_eq_true a1
    exact DS.raise sx a2 a3 w.1 w.2
  | .raiseI c es, X, sx, hf, fr, st, h, ρ, μ, K, EX, w => by
    obtain ⟨a, ha, h⟩ := onV_ok h
    obtain rfl := vRzI_ok ha
    obtain ⟨a1, h⟩ := b2 h
    obtain ⟨a2, h⟩ := b2 h
    obtain ⟨a3, a4⟩ := b2 h
    obtain rfl := of_decide_eq_true a1
    obtain ⟨xx, e1, w⟩ := optD_ok w
    obtain ⟨xy, e2, w⟩ := optD_ok w
    subst e2
    exact DS.raiseI sx e1 a2 a3 (chkEs_star a4) (sndEs es X N sc sx (a.e_ :: a.es_) a4 ρ μ _ _ w)
  | .tryAs b c i hs, X, sx, hf, fr, st, h, ρ, μ, K, EX, w => by
    obtain ⟨a, ha, h⟩ := onV_ok h
    obtain ⟨a1, h⟩ := b2 h
    obtain ⟨a2, h⟩ := b2 h
    obtain ⟨a3, h⟩ := b2 h
    obtain ⟨n, hn, h⟩ := onV_ok h
    obtain ⟨a4, h⟩ := b2 h
    obtain ⟨a5, h⟩ := b2 h
    obtain ⟨a6, a7⟩ := b2 h
    rw [vTry_ok ha, of_decide_eq_true a1, hn]
    exact DS.tryAs sx hf fr.1 fr.2 (of_decide_eq_true a4) (isLocal_ok a5) a2 a3 a6 (fun Y sy hy h1 h2 => sndSs N sc b Y sy hy ⟨h1, h2⟩ _ a7 ρ μ K _ w.2) w.1
  | .try_ b c hs, X, sx, hf, fr, st, h, ρ, μ, K, EX, w => by
    obtain ⟨a, ha, h⟩ := onV_ok h
    obtain ⟨a1, h⟩ := b2 h
    obtain ⟨a2, h⟩ := b2 h
    obtain ⟨a3, h⟩ := b2 h
    obtain ⟨a4, h⟩ := b2 h
    obtain ⟨a6, a7⟩ := b2 h
    have hn : a.n_ = none := by
      cases e : a.n_ with
      | none => rfl
      | some _ => rw [e] at a4; cases a4
    rw [vTry_ok ha, of_decide_eq_true a1, hn]
    exact DS.try_ sx hf fr.1 fr.2 a2 a3 a6 (fun Y sy hy h1 h2 => sndSs N sc b Y sy hy ⟨h1, h2⟩ _ a7 ρ μ K _ w.2) w.1
theorem sndSs (N : List Str) (sc : Scope) : ∀ (s : Ss) (X : Cx) (sx : SX G X N sc) (hf : ∀ x, X.fn x = true) (fr : X.stack = X.env :: X.outer ∧ X.env.frame = some X.env.locals) (st : List Stmt), chkSs G.has N s sc st = true → ∀ ρ μ K EX, wpSs G s ρ μ K EX → DSs X EX st ρ μ K
  | .nil, X, sx, hf, fr, st, h, ρ, μ, K, EX, w => by
    cases st with
    | nil => exact DSs.nil w
    | cons _ _ => cases h
  | .cons s .nil, X, sx, hf, fr, st, h, ρ, μ, K, EX, w => by
    cases gh : isGh s with
    | true =>
      have h := chkSs_gh gh h
      cases s with
      | opn i => exact DSs.opn (i := i) w fun μ' q => sndSs N sc .nil X sx hf fr st h ρ μ' K _ q
      | drp is => exact DSs.drp (is := is) (sndSs N sc .nil X sx hf fr st h ρ _ K _ w)
      | _ => cases gh
    | false =>
      obtain ⟨x, r, e, h1, h2⟩ := chkSs_no gh h
      rw [e]
      cases r with
      | nil => exact DSs.one (sndS N sc s X sx hf fr x h1 ρ μ K _ w)
      | cons _ _ => cases h2
  | .cons s (.cons t ss), X, sx, hf, fr, st, h, ρ, μ, K, EX, w => by
    cases gh : isGh s with
    | true =>
      have h := chkSs_gh gh h
      cases s with
      | opn i => exact DSs.opn (i := i) w fun μ' q => sndSs N sc (.cons t ss) X sx hf fr st h ρ μ' K _ q
      | drp is => exact DSs.drp (is := is) (sndSs N sc (.cons t ss) X sx hf fr st h ρ _ K _ w)
      | _ => cases gh
    | false =>
      obtain ⟨x, r, e, h1, h2⟩ := chkSs_no gh h
      rw [e]
      refine DSs.cons ?_
      exact (sndS N sc s X sx hf fr x h1 ρ μ _ _ w).monoN fun ρ' μ' q => sndSs N sc (.cons t ss) X sx hf fr r h2 ρ' μ' K _ q
end
end
end DL
/-! A program: its defs keep their promises, level by level. -/
namespace DL
open PySem PySem.Spec PyProof.Rows L2
structure DefD where
  name : Str
  st : Stmt
  N : List Str
  ps : List Str
  body : Ss
  spec : Nat → FSpec
def startR (N : List Str) (ds : List D) : Rho := ds.map some ++ List.replicate (N.length - ds.length) none
def specOf : List DefD → Nat → Str → FSpec
  | [], _, _ => fun _ _ _ _ => False
  | d :: r, n, f => if d.name = f then d.spec n else specOf r n f
/-- a def that is a method (its name has a point in it) -/
def isMs (_ex : ExI) (_defs : List DefD) (f : Str) : Bool := f.cps.any (· == 46)
def gcOf (defs : List DefD) (cst : Str → Option D) (ex : ExI) (n : Nat) : Gc where
  has := fun f => !(isMs ex defs f) && defs.any fun d => decide (d.name = f)
  fn := specOf defs n
  cst := cst
  ex := ex
/-- the table of the def x -/
def lamT (ex : ExI) (x : Str) : Option (Addr × Str) := if ex.lam = some x then ex.tab else none
theorem lamT_none {ex : ExI} {x : Str} (h : ex.lam = none) : lamT ex x = none := by unfold lamT; rw [h]; exact if_neg (fun z => nomatch z)
theorem lamT_ne {ex : ExI} {x y : Str} (h : ex.lam = some y) (ne : decide (y = x) = false) : lamT ex x = none := by
  unfold lamT
  rw [h]
  exact if_neg (fun z => of_decide_eq_false ne (Option.some.inj z))
def gcD (defs : List DefD) (cst : Str → Option D) (ex : ExI) (n : Nat) (x : Str) : Gc := { gcOf defs cst ex n with tb := lamT ex x }
/-- where the table stands -/
def TbOk (K : PySem.W.Frag) (mg : Str → Option Value) (base : Heap) (defs : List DefD) (ex : ExI) : Prop := ∀ P q, ex.tab = some (P, q) → (∃ c, LamX.TabB base mg c P ∧ ∀ d ∈ defs, ex.lam = some d.name → q = d.name ++ ".<locals>." ++ "<lambda>" ∧ ∀ x f fd, mg d.name = some (.ref f) → Fun K x d.name d.st f fd → fd.code = .ref c) ∧ (∀ c f, ex.ini c = some f → ex.lam ≠ some f) ∧ ∀ c m f, ex.met c m = some f → ex.lam ≠ some f
/-- the def that makes lambdas is the one that its name names -/
def LamAt (mg : Str → Option Value) (ex : ExI) (x : Str) (f : Addr) : Prop := ∀ P q, ex.tab = some (P, q) → ex.lam = some x → mg x = some (.ref f)
/-- a def's scope, looked at -/
def scopeB (N P : List Str) (sc : Scope) : Bool := (match sc.kind with | .function => true | _ => false) && (!sc.isCoroutine && (!sc.isGenerator && (decide N.Nodup && (decide (N.take P.length = P) && (P.all (fun x => locB sc x) && sc.names.all fun y => match y.2 with | .free => false | _ => true)))))
theorem scopeB_ok {N P : List Str} {sc : Scope} (h : scopeB N P sc = true) : FnScope N P sc := by
  obtain ⟨h1, h⟩ := b2 h
  obtain ⟨h2, h⟩ := b2 h
  obtain ⟨h3, h⟩ := b2 h
  obtain ⟨h4, h⟩ := b2 h
  obtain ⟨h5, h⟩ := b2 h
  obtain ⟨h6, h7⟩ := b2 h
  refine ⟨?_, bn h2, bn h3, of_decide_eq_true h4, of_decide_eq_true h5, fun x hx => ?_, fun y hy e => ?_⟩
  · split at h1
    · assumption
    · cases h1
  · have q := List.all_eq_true.mp h6 x hx
    unfold locB at q
    split at q
    · exact .inl (by assumption)
    · exact .inr (by assumption)
    · cases q
  · have q := List.all_eq_true.mp h7 y hy
    rw [e] at q
    cases q
def chkD (has : Str → Bool) (d : DefD) : Bool := scopeB d.N d.ps (defScope d.st) && (decide (d.ps.length ≤ d.N.length) && chkSs has d.N d.body (defScope d.st) (defBody d.st))
theorem start_env {K : PySem.W.Frag} {H : Hp} {F : Addr → Prop} {N : List Str} {vs : List V} {ds : List D} (r : RDs K H F vs ds) : REnv K H F (L2.start N vs) (startR N ds) := by
  refine ⟨by unfold L2.start startR; simp [r.length], fun i d h => ?_⟩
  unfold startR at h
  by_cases hi : i < ds.length
  · rw [List.getElem?_append_left (by rw [List.length_map]; exact hi), List.getElem?_map] at h
    cases e : ds[i]? with
    | none => rw [e] at h; cases h
    | some d2 =>
      rw [e] at h
      cases h
      obtain ⟨v, h1, h2⟩ := r.get e
      refine ⟨v, ?_, h2⟩
      unfold L2.start
      rw [List.getElem?_append_left (by rw [List.length_map, r.length]; exact hi), List.getElem?_map, h1]
      rfl
  · rw [List.getElem?_append_right (by rw [List.length_map]; omega)] at h
    rw [List.getElem?_replicate] at h
    split at h
    · cases h
    · cases h
/-- what stands behind the top: the def's place -/
def At (K : PySem.W.Frag) (mg : Str → Option Value) (d : DefD) (f : Addr) (fd : FuncData) : Prop := Fun K d.name d.name d.st f fd ∧ mg d.name = some (.ref f) ∧ Binds K fd d.ps []
structure Top (P : Program) (w : World) (K : PySem.W.Frag) (mg : Str → Option Value) (defs : List DefD) (cst : Str → Option D) (ex : ExI) : Prop where
  at_ : ∀ d ∈ defs, isMs ex defs d.name = false → ∃ f fd, At K mg d f fd
  ini : ∀ c f, ex.ini c = some f → (defs.any fun d => decide (d.name = f)) = true ∧ ∀ d ∈ defs, d.name = f → ∃ C fa fd, PySem.W.nsIn K mainGlobals c = some (some (.ref C)) ∧ mg c = some (.ref C) ∧ Mk K C fa ∧ Fun K "__init__" d.name d.st fa fd ∧ Binds K fd d.ps []
  met : ∀ c m f, ex.met c m = some f → (defs.any fun d => decide (d.name = f)) = true ∧ ∀ d ∈ defs, d.name = f → ∃ C fa fd, PySem.W.nsIn K mainGlobals c = some (some (.ref C)) ∧ Cls K C ∧ Meth K C m fa ∧ Fun K m d.name d.st fa fd ∧ Binds K fd d.ps []
  blt : ∀ x, x ∈ bltNames → mg x = none
  cs : ∀ x d, cst x = some d → ∃ v u, mg x = some u ∧ RelV v u ∧ ∀ H F, RD K H F v d
  exo : ExOk ex K mg
  chk : ∀ n, defs.all (chkD (gcOf defs cst ex n).has) = true
/-- each body does what its promise says, if the calls do so at the level below -/
def Keeps (defs : List DefD) (cst : Str → Option D) (ex : ExI) : Prop := ∀ d ∈ defs, (∀ ds μ Q X, ¬ d.spec 0 ds μ Q X) ∧
  ∀ n ds μ Q X, d.spec (n + 1) ds μ Q X → ds.length = d.ps.length ∧ wpSs (gcD defs cst ex n d.name) d.body (startR d.N ds) μ { nx := fun _ μ' => Q .non μ', rt := Q } X
theorem specOf_mem : ∀ {defs : List DefD} {n : Nat} {f : Str}, (defs.any fun d => decide (d.name = f)) = true → ∃ d ∈ defs, d.name = f ∧ specOf defs n f = d.spec n
  | [], n, f, h => nomatch h
  | d :: r, n, f, h => by
    by_cases e : d.name = f
    · exact ⟨d, List.mem_cons_self, e, by unfold specOf; rw [if_pos e]⟩
    · rw [List.any_cons, decide_eq_false e, Bool.false_or] at h
      obtain ⟨d2, h1, h2, h3⟩ := specOf_mem (n := n) h
      exact ⟨d2, List.mem_cons_of_mem _ h1, h2, by unfold specOf; rw [if_neg e]; exact h3⟩
section
variable {P : Program} {w : World} {K : PySem.W.Frag} {mg : Str → Option Value} {base : Heap} {defs : List DefD} {cst : Str → Option D} {ex : ExI}
theorem defs_ok (T : Top P w K mg defs cst ex) (tbk : TbOk K mg base defs ex) (kp : Keeps defs cst ex) : ∀ n : Nat, ∀ d ∈ defs, ∀ x f fd, LamAt mg ex d.name f → Fun K x d.name d.st f fd → FnOk P w K mg base (L2.CX P w) (2 * n + 2) f fd d.ps (spOf K mg (d.spec n))
  | 0, d, hd, x, f, fd, la, F => by
    have no : ∀ vs H Q E, ¬ spOf K mg (d.spec 0) vs H Q E := fun vs H Q E ⟨_, _, _, _, _, _, _, s, _⟩ => (kp d hd).1 _ _ _ _ s
    exact ⟨fun vs H Q E h => absurd h (no vs H Q E), fun A outer s H args us vs Q E _ _ _ _ h => absurd h (no vs H Q E)⟩
  | n + 1, d, hd, x, f, fd, la, F => by
    rw [show 2 * (n + 1) + 2 = (2 * n + 3) + 1 by omega]
    obtain ⟨c1, c2⟩ := b2 (List.all_eq_true.mp (T.chk n) d hd)
    obtain ⟨c2, c3⟩ := b2 c2
    have sc := scopeB_ok c1
    have F0 := F
    obtain ⟨oc, od, kV, doc, pm, an, cdv, ct, osl, rfl, lk, hcd⟩ := F.ex
    refine fn_of lk hcd sc (fun vs H Q E h => ?_) (fun A outer s H vs Q E hr h => ?_)
    · obtain ⟨F1, μ, ds, Qd, EXd, m, r, sp, k, ke⟩ := h
      rw [r.length]
      exact ((kp d hd).2 n ds μ Qd EXd sp).1
    · obtain ⟨F1, μ, ds, Qd, EXd, m, r, sp, k, ke⟩ := h
      have hw := ((kp d hd).2 n ds μ Qd EXd sp).2
      let X := cxOf (L2.CX P w) P w K mg base d.N d.name (defScope d.st) f cdv A outer s H E
      have tk : L2.Takes X (fun cls d _ H => E cls d H) := takes_of rfl rfl rfl rfl
      have sx : SX (gcD defs cst ex n d.name) X d.N (defScope d.st) := {
        hN := rfl
        nd := sc.nd
        esc := rfl
        kind := sc.kind
        calm := rfl
        un := by have := hr.un; show (A.deeper _).units + 65 < cLine; omega
        gd := fun h => (nomatch (show false = true from h))
        tb := fun P0 q0 h0 => by
          have h0 : lamT ex d.name = some (P0, q0) := h0
          unfold lamT at h0
          by_cases hl : ex.lam = some d.name
          · rw [if_pos hl] at h0
            obtain ⟨⟨c, tb, k⟩, _, _⟩ := tbk P0 q0 h0
            obtain ⟨e1, e2⟩ := k d hd hl
            exact ⟨c, e2 _ _ _ (la P0 q0 h0 hl) F0, tb, e1⟩
          · rw [if_neg hl] at h0
            cases h0
        rm2 := hr.mono (by omega)
        own := fun _ => passes_of rfl
        fr := ⟨_, _, _, rfl, rfl, rfl⟩
        blt := T.blt
        ex := T.exo
        cst := T.cs
        ini := fun c g hg => by
          obtain ⟨a1, a2⟩ := T.ini c g hg
          obtain ⟨d2, h1, h2, h3⟩ := specOf_mem (n := n) a1
          obtain ⟨C, fa, fd2, hc, hm, M, F2, hb⟩ := a2 d2 h1 h2
          refine ⟨C, 2 * n + 2, fa, fd2, d2.ps, hc, hm, M, ?_, hr, hb⟩
          show FnOk P w K mg base (L2.CX P w) (2 * n + 2) fa fd2 d2.ps (spOf K mg (specOf defs n g))
          rw [h3]
          exact defs_ok T tbk kp n d2 h1 _ fa fd2 (fun P0 q0 h0 hl => absurd (by rw [hl, h2]) ((tbk P0 q0 h0).2.1 c g hg)) F2
        met := fun c mn g hg => by
          obtain ⟨a1, a2⟩ := T.met c mn g hg
          obtain ⟨d2, h1, h2, h3⟩ := specOf_mem (n := n) a1
          obtain ⟨C, fa, fd2, hc, cl, M, F2, hb⟩ := a2 d2 h1 h2
          refine ⟨C, 2 * n + 2, fa, fd2, d2.ps, hc, cl, M, ?_, hr.mono (by omega), hb⟩
          show FnOk P w K mg base (L2.CX P w) (2 * n + 2) fa fd2 d2.ps (spOf K mg (specOf defs n g))
          rw [h3]
          exact defs_ok T tbk kp n d2 h1 _ fa fd2 (fun P0 q0 h0 hl => absurd (by rw [hl, h2]) ((tbk P0 q0 h0).2.2 c mn g hg)) F2
        fn := fun g hg => by
          obtain ⟨g1, g2⟩ := b2 hg
          obtain ⟨d2, h1, h2, h3⟩ := specOf_mem (n := n) g2
          obtain ⟨f2, fd2, at2⟩ := T.at_ d2 h1 (by rw [h2]; exact bn g1)
          refine ⟨2 * n + 2, f2, fd2, d2.ps, ?_, hr.mono (by omega), by rw [← h2]; exact at2.2.1, at2.1.kp, at2.2.2⟩
          have ih := defs_ok T tbk kp n d2 h1 _ f2 fd2 (fun _ _ _ _ => at2.2.1) at2.1
          show FnOk P w K mg base (L2.CX P w) (2 * n + 2) f2 fd2 d2.ps (spOf K mg (specOf defs n g))
          rw [h3]
          exact ih }
      have sd := sndSs d.N (defScope d.st) d.body X sx (fun _ => rfl) ⟨rfl, rfl⟩ (defBody d.st) c3 (startR d.N ds) μ _ _ hw
      refine ⟨_, pss_wss, ?_⟩
      refine (sd (L2.start d.N vs) H F1 ⟨start_env r, (Takes.toF rfl tk).imp fun cls dd _ H' q => ke cls dd H' q⟩ m).mono ⟨fun σ' H' ⟨ρ', F', μ', g, m', e', q⟩ => k _ _ ⟨_, F', μ', g, m', .non, q⟩, fun v H' q => k _ _ q, fun σ' H' q => ?_, fun σ' H' q => ?_⟩
      · obtain ⟨_, _, _, _, _, _, q⟩ := q
        exact q.elim
      · obtain ⟨_, _, _, _, _, _, q⟩ := q
        exact q.elim
end
end DL
/-! What a program wants, reckoned; loops, comprehensions. -/
namespace DL
open PySem PySem.Spec PyProof.Rows L2
section
variable {G : Gc} {ρ r : Rho} {μ : Mem} {Q : DK} {X : EK} {K : DEnds} {q : Bool → Prop}
/-! ### expressions -/
theorem w_v {i : Nat} : wp G (.v i) ρ μ Q X = getV ρ i fun d => Q d μ := rfl
theorem g_z {d : D} {k : D → Prop} : getV (some d :: r) 0 k = k d := rfl
theorem g_s {o : Option D} {i : Nat} {k : D → Prop} : getV (o :: r) (i + 1) k = getV r i k := rfl
theorem w_g {x : Str} : wp G (.g x) ρ μ Q X = optD (G.cst x) fun d => Q d μ := rfl
theorem w_rep2 {a : E} {l : Str} {o : E} {y z : Str} {Q : List D → Mem → Prop} : wps G (.rep2 a l o y z) ρ μ Q X = wp G a ρ μ (fun x μ1 => addOk x l ∧ wp G o ρ μ1 (fun v μ2 => rep2D x l v y z fun ds => Q ds μ2) X) X := rfl
theorem ad_s {s l : Str} : addOk (.str s) l = (s.length + l.length ≤ 16777216) := rfl
theorem r2_s {s l t y z : Str} {q : List D → Prop} : rep2D (.str s) l (.str t) y z q = (t.length + (t.length + 1) * z.length ≤ 16777216 ∧ q [.str (s ++ l), .str (Txt.replace t y z)]) := rfl
theorem w_non : wp G .non ρ μ Q X = Q .non μ := rfl
theorem w_bl {b : Bool} : wp G (.bl b) ρ μ Q X = Q (.bl b) μ := rfl
theorem w_int {i : Int} : wp G (.int i) ρ μ Q X = Q (.int i) μ := rfl
theorem w_str {s : Str} : wp G (.str s) ρ μ Q X = Q (.str s) μ := rfl
theorem w_bin {z : Bool} {o : Op2} {a b : E} : wp G (.bin z o a b) ρ μ Q X = wp G a ρ μ (fun x μ1 => wp G b ρ μ1 (fun y μ2 => binD z o x y μ2 Q) X) X := rfl
theorem w_neg {a : E} : wp G (.neg a) ρ μ Q X = wp G a ρ μ (fun x μ1 => intK x fun i => Q (.int (-i)) μ1) X := rfl
theorem w_cmp {o : Cm} {a b : E} : wp G (.cmp o a b) ρ μ Q X = wp G a ρ μ (fun x μ1 => wp G b ρ μ1 (fun y μ2 => cmpD o x y μ2 fun c => Q (.bl c) μ2) X) X := rfl
theorem w_chain {o o' : Cm} {a b c : E} : wp G (.chain o o' a b c) ρ μ Q X = wp G a ρ μ (fun x μ1 => wp G b ρ μ1 (fun y μ2 => cmpD o x y μ2 fun k =>
      if k = true then wp G c ρ μ2 (fun z μ3 => cmpD o' y z μ3 fun k' => Q (.bl k') μ3) X else Q (.bl false) μ2) X) X := rfl
theorem w_and {a b : E} : wp G (.and a b) ρ μ Q X = wp G a ρ μ (fun x μ1 => truD x μ1 fun c => if c = true then wp G b ρ μ1 Q X else Q x μ1) X := rfl
theorem w_or {a b : E} : wp G (.or a b) ρ μ Q X = wp G a ρ μ (fun x μ1 => truD x μ1 fun c => if c = true then Q x μ1 else wp G b ρ μ1 Q X) X := rfl
theorem w_not {a : E} : wp G (.not a) ρ μ Q X = wp G a ρ μ (fun x μ1 => truD x μ1 fun c => Q (.bl (!c)) μ1) X := rfl
theorem w_ite {t : Te} {a b : E} : wp G (.ite t a b) ρ μ Q X = wpT G t ρ μ (fun c μ1 => if c = true then wp G a ρ μ1 Q X else wp G b ρ μ1 Q X) X := rfl
theorem w_tup {es : Es} : wp G (.tup es) ρ μ Q X = wps G es ρ μ (fun ds μ1 => ds.length ≤ 16777216 ∧ Q (.tup ds) μ1) X := rfl
theorem w_lst {z : Bool} {es : Es} : wp G (.lst z es) ρ μ Q X = wps G es ρ μ (fun ds μ1 => ds.length ≤ 16777216 ∧ newL z ds μ1 Q) X := rfl
theorem w_ix {a i : E} : wp G (.ix a i) ρ μ Q X = wp G a ρ μ (fun x μ1 => wp G i ρ μ1 (fun y μ2 => ixD x y μ2 Q) X) X := rfl
theorem w_sl {z : Bool} {a : E} {lo hi : Eo} : wp G (.sl z a lo hi) ρ μ Q X = wp G a ρ μ (fun x μ1 => wpO G lo ρ μ1 (fun l μ2 => wpO G hi ρ μ2 (fun h μ3 => slD z x l h μ3 Q) X) X) X := rfl
theorem w_lc {z : Bool} {tg : T} {it : It} {cs : Tes} {elt : E} : wp G (.lc z tg it cs elt) ρ μ Q X = wpI G it ρ μ (fun items ok μ1 => LC items μ1 ok (fun x μ2 R =>
      wpTg tg x (wipeR ρ tg.slots) μ2 fun ρ' μ3 => wpTs G cs ρ' μ3 (fun b μ4 => if b = true then wp G elt ρ' μ4 (fun d μ5 => R (some d) μ5) X else R none μ4) X)
      fun acc μ2 => newL z acc μ2 Q) X := rfl
theorem w_call {f : Str} {es : Es} : wp G (.call f es) ρ μ Q X = wps G es ρ μ (fun ds μ1 => G.fn f ds μ1 Q X) X := rfl
theorem w_bi {z : Bool} {f : Bi} {es : Es} : wp G (.bi z f es) ρ μ Q X = wps G es ρ μ (fun ds μ1 => biD z f ds μ1 Q) X := rfl
theorem w_isi {a : E} {t : Ty} : wp G (.isi a t) ρ μ Q X = wp G a ρ μ (fun x μ1 => isiOk x μ1 ∧ Q (.bl (isiD x t)) μ1) X := rfl
theorem w_mt {z : Bool} {m : Mt} {o e : E} : wp G (.mt z m o e) ρ μ Q X = wp G o ρ μ (fun x μ1 => strIs x ∧ wp G e ρ μ1 (fun d μ2 => mtD z m x [d] μ2 Q) X) X := rfl
theorem w_sq {m : Sq} {o e : E} : wp G (.sq m o e) ρ μ Q X = wp G o ρ μ (fun x μ1 => strIs x ∧ wp G e ρ μ1 (fun d μ2 => sqD m x d μ2 Q) X) X := rfl
theorem w_popE {o : E} : wp G (.popE o) ρ μ Q X = wp G o ρ μ (fun x μ1 => chg x μ1 fun a l => optD l.getLast? fun d => Q d (mset μ1 a (.lst l.dropLast))) X := rfl
theorem w_popI {o i : E} : wp G (.popI o i) ρ μ Q X = wp G o ρ μ (fun x μ1 => (∃ l, seqL μ1 x = some l) ∧ wp G i ρ μ1 (fun k μ2 => intK k fun k => chg x μ2 fun a l => (-9223372036854775808 ≤ k ∧ k < 9223372036854775808) ∧ optD (seqIndex? k l.length) fun j => optD l[j]? fun d => Q d (mset μ2 a (.lst (l.eraseIdx j)))) X) X := rfl
theorem w_mkx1 {c : Str} {a : E} : wp G (.mkx1 c a) ρ μ Q X = (G.ex.exv c = some none ∧ wp G a ρ μ (fun _ μ1 => Q (.exc c [] []) μ1) X) := rfl
theorem w_mkx {c : Str} {es : Es} : wp G (.mkx c es) ρ μ Q X = optD (G.ex.exv c) fun x => optD x fun y => wps G es ρ μ (fun ds μ1 => mkxD c (some y) ds μ1 Q) X := rfl
theorem w_isx {a : E} {t : Str} : wp G (.isx a t) ρ μ Q X = wp G a ρ μ (fun x μ1 => isxD G.ex x t fun b => Q (.bl b) μ1) X := rfl
theorem w_atx {a : E} {f : Str} : wp G (.atx a f) ρ μ Q X = wp G a ρ μ (fun x μ1 => atxD G.ex x μ1 f fun d => Q d μ1) X := rfl
theorem w_rst {a : E} : wp G (.rst a) ρ μ Q X = wp G a ρ μ (fun x μ1 => Q x (restr μ1 μ)) (fun c ds μ' => X c ds (restr μ' μ)) := rfl
theorem w_fzo {a : E} : wp G (.fzo a) ρ μ Q X = wp G a ρ μ (fun x μ1 => fzoD x μ1 Q) X := rfl
theorem w_tpd {es : Es} : wp G (.tpd es) ρ μ Q X = wps G es ρ μ (fun ds μ1 => ds.length ≤ 16777216 ∧ Q (.tpl ds) μ1) X := rfl
theorem w_pl {a b : E} : wp G (.pl a b) ρ μ Q X = wp G a ρ μ (fun x μ1 => wp G b ρ μ1 (fun y μ2 => plD x y μ2 Q) X) X := rfl
theorem w_kx {o k : E} : wp G (.kx o k) ρ μ Q X = wp G o ρ μ (fun x μ1 => wp G k ρ μ1 (fun y μ2 => kxD x y μ2 fun v => optD v fun d => Q d μ2) X) X := rfl
theorem w_kget {o k d : E} : wp G (.kget o k d) ρ μ Q X = wp G o ρ μ (fun x μ1 => isDct x μ1 ∧ wp G k ρ μ1 (fun y μ2 => wp G d ρ μ2 (fun w μ3 => kxD x y μ3 fun v => Q (v.getD w) μ3) X) X) X := rfl
theorem w_tix {o e : E} : wp G (.tix o e) ρ μ Q X = wp G o ρ μ (fun x μ1 => isTp x ∧ wp G e ρ μ1 (fun d μ2 => tixD x d μ2 Q) X) X := rfl
theorem w_tzn {a : E} : wp G (.tzn a) ρ μ Q X = wp G a ρ μ (fun x μ1 => tznD x μ1 Q) X := rfl
theorem w_skey {z b : Bool} {a : E} {i : Nat} : wp G (.skey z b a i) ρ μ Q X = wp G a ρ μ (fun x μ1 => getV ρ i fun c => skD G.tb z b x c μ1 Q) X := rfl
theorem w_lrg {z : Bool} {a b : E} : wp G (.lrg z a b) ρ μ Q X = wp G a ρ μ (fun x μ1 => wp G b ρ μ1 (fun y μ2 => lrgD z x y μ2 Q) X) X := rfl
theorem w_kls {z : Bool} {o : E} : wp G (.kls z o) ρ μ Q X = wp G o ρ μ (fun x μ1 => klsD z x μ1 Q) X := rfl
theorem w_mko {c : Str} {es : Es} : wp G (.mko c es) ρ μ Q X = optD (G.ex.ini c) fun f => wps G es ρ μ (fun ds μ1 => ∀ p, μ1 p = none → G.fn f (.ref p :: ds) (mset μ1 p (.obj c [])) (fun v μ2 => v = .non ∧ Q (.ref p) μ2) X) X := rfl
theorem w_meth {c m : Str} {o : E} {es : Es} : wp G (.meth c m o es) ρ μ Q X = optD (G.ex.met c m) fun f => wp G o ρ μ (fun x μ1 => insRef c m x μ1 ∧ wps G es ρ μ1 (fun ds μ2 => G.fn f (x :: ds) μ2 Q X) X) X := rfl
theorem w_dnw {t : Bool} : wp G (.dnw t) ρ μ Q X = ∀ p, μ p = none → Q (.ref p) (mset μ p (.dct t [])) := rfl
theorem s_setA {o : E} {f : Str} {e : E} : wpS G (.setA o f e) ρ μ K X = wp G e ρ μ (fun d μ1 => wp G o ρ μ1 (fun x μ2 => setAD G.ex x f d μ2 fun μ3 => K.nx ρ μ3) X) X := rfl
theorem s_setK {o i e : E} : wpS G (.setK o i e) ρ μ K X = wp G e ρ μ (fun d μ1 => wp G o ρ μ1 (fun x μ2 => wp G i ρ μ2 (fun k μ3 => setKD x k d μ3 fun μ4 => K.nx ρ μ4) X) X) X := rfl
theorem ob_s {c : Str} {fs : List (Str × D)} {p : Addr} : objAt (mset μ p (.obj c fs)) p = some (c, fs) := by unfold objAt; rw [mset_same]
theorem dc_s {t : Bool} {l : List (List Key × D)} {p : Addr} : dctAt (mset μ p (.dct t l)) p = some (t, l) := by unfold dctAt; rw [mset_same]
theorem at_r {ex : ExI} {p : Addr} {f : Str} {q : D → Prop} : atxD ex (.ref p) μ f q = optD (objAt μ p) fun o => ex.fo o.1 f = true ∧ optD (o.2.lookup f) q := rfl
theorem at_i {ex : ExI} {c f : Str} {ns : List Str} {ds : List D} {q : D → Prop} : atxD ex (.ins c ns ds) μ f q = (ex.fo c f = true ∧ optD ((ns.zip ds).lookup f) q) := rfl
theorem sA_r {ex : ExI} {p : Addr} {f : Str} {d : D} {k : Mem → Prop} : setAD ex (.ref p) f d μ k = optD (objAt μ p) fun o => ex.fo o.1 f = true ∧ o.2.length < 1000 ∧ k (mset μ p (.obj o.1 (putFD f d o.2))) := rfl
theorem sK_r {p : Addr} {kd d : D} {k : Mem → Prop} : setKD (.ref p) kd d μ k = optD (dctAt μ p) fun o => optD (keyT o.1 kd) fun ks => o.2.length < 16777216 ∧ k (mset μ p (.dct o.1 (putKD o.2 ks d))) := rfl
theorem fo_r {p : Addr} : fzoD (.ref p) μ Q = optD (objAt μ p) fun o => Q (.ins o.1 (o.2.map (·.1)) (o.2.map (·.2))) (mdel μ p) := rfl
theorem mkx_2 {c f1 f2 : Str} {g : Option Nat} {d1 d2 : D} : mkxD c (some (f1, f2, g)) [d1, d2] μ Q = (gOk g d2 ∧ Q (.exc c [f2, f1] [d2, d1]) μ) := rfl
theorem gok_n {d : D} : gOk none d = True := rfl
theorem gok_s {n : Nat} {t : Str} : gOk (some n) (.str t) = (n + t.length ≤ sizeLine) := rfl
theorem isx_e {ex : ExI} {c t : Str} {ns : List Str} {ds : List D} : isxD ex (.exc c ns ds) t q = ((ex.exv c).isSome = true ∧ optD (ex.sub c t) q) := rfl
theorem atx_e {ex : ExI} {c f : Str} {ns : List Str} {ds : List D} {q : D → Prop} : atxD ex (.exc c ns ds) μ f q = ((ex.exv c).isSome = true ∧ ex.fld c f = true ∧ optD ((ns.zip ds).lookup f) q) := rfl
theorem w_emp : wp G .emp ρ μ Q X = Q .emp μ := rfl
theorem w_fz {a : E} : wp G (.fz a) ρ μ Q X = wp G a ρ μ (fun x μ1 => fzD x μ1 Q) X := rfl
theorem w_sset {z : Bool} {a : E} : wp G (.sset z a) ρ μ Q X = wp G a ρ μ (fun x μ1 => ssetD z x μ1 Q) X := rfl
theorem w_nset {a : E} : wp G (.nset a) ρ μ Q X = wp G a ρ μ (fun x μ1 => nsetD x μ1 Q) X := rfl
theorem w_pt {a : E} : wp G (.pt a) ρ μ Q X = wp G a ρ μ (fun x μ1 => shutD x μ1 fun μ2 => Q x μ2) X := rfl
theorem w_shut {i : Nat} {a : E} : wp G (.shut i a) ρ μ Q X = wp G a ρ μ (fun x μ1 => getV ρ i fun y => shutD y μ1 fun μ2 => Q x μ2) X := rfl
theorem w_drop {is : List Nat} {a : E} : wp G (.drop is a) ρ μ Q X = wp G a ρ μ (fun x μ1 => Q x (dropM ρ is μ1)) X := rfl
theorem w_nil {Q : List D → Mem → Prop} : wps G .nil ρ μ Q X = Q [] μ := rfl
theorem w_cons {e : E} {es : Es} {Q : List D → Mem → Prop} : wps G (.cons e es) ρ μ Q X = wp G e ρ μ (fun d μ1 => wps G es ρ μ1 (fun ds μ2 => Q (d :: ds) μ2) X) X := rfl
theorem w_no {Q : Option Int → Mem → Prop} : wpO G .no ρ μ Q X = Q none μ := rfl
theorem w_one {e : E} {Q : Option Int → Mem → Prop} : wpO G (.one e) ρ μ Q X = wp G e ρ μ (fun d μ1 => parD d fun i => Q i μ1) X := rfl
theorem t_val {e : E} {Q : Bool → Mem → Prop} : wpT G (.val e) ρ μ Q X = wp G e ρ μ (fun x μ1 => truD x μ1 fun c => Q c μ1) X := rfl
theorem t_cm {o : Cm} {a b : E} {Q : Bool → Mem → Prop} : wpT G (.cm o a b) ρ μ Q X = wp G a ρ μ (fun x μ1 => wp G b ρ μ1 (fun y μ2 => cmpD o x y μ2 fun c => Q c μ2) X) X := rfl
theorem t_and {a b : Te} {Q : Bool → Mem → Prop} : wpT G (.and a b) ρ μ Q X = wpT G a ρ μ (fun c μ1 => if c = true then wpT G b ρ μ1 Q X else Q false μ1) X := rfl
theorem t_or {a b : Te} {Q : Bool → Mem → Prop} : wpT G (.or a b) ρ μ Q X = wpT G a ρ μ (fun c μ1 => if c = true then Q true μ1 else wpT G b ρ μ1 Q X) X := rfl
theorem t_not {a : Te} {Q : Bool → Mem → Prop} : wpT G (.not a) ρ μ Q X = wpT G a ρ μ (fun c μ1 => Q (!c) μ1) X := rfl
theorem t_nil {Q : Bool → Mem → Prop} : wpTs G .nil ρ μ Q X = Q true μ := rfl
theorem t_one {t : Te} {Q : Bool → Mem → Prop} : wpTs G (.one t) ρ μ Q X = wpT G t ρ μ Q X := rfl
theorem i_seq {e : E} {R : List D → (Mem → Prop) → Mem → Prop} : wpI G (.seq e) ρ μ R X = wp G e ρ μ (fun x μ1 => seqIt x μ1 R) X := rfl
theorem i_range1 {a : E} {R : List D → (Mem → Prop) → Mem → Prop} : wpI G (.range1 a) ρ μ R X = wp G a ρ μ (fun x μ1 => rng1 x μ1 R) X := rfl
theorem i_range2 {a b : E} {R : List D → (Mem → Prop) → Mem → Prop} : wpI G (.range2 a b) ρ μ R X = wp G a ρ μ (fun x μ1 => wp G b ρ μ1 (fun y μ2 => rng2 x y μ2 R) X) X := rfl
theorem i_enum {a : E} {R : List D → (Mem → Prop) → Mem → Prop} : wpI G (.enum a) ρ μ R X = wp G a ρ μ (fun x μ1 => enumIt x μ1 R) X := rfl
theorem i_zip {a b : E} {R : List D → (Mem → Prop) → Mem → Prop} : wpI G (.zip a b) ρ μ R X = wp G a ρ μ (fun x μ1 => wp G b ρ μ1 (fun y μ2 => zipIt x y μ2 R) X) X := rfl
theorem i_rev {a : E} {R : List D → (Mem → Prop) → Mem → Prop} : wpI G (.rev a) ρ μ R X = wp G a ρ μ (fun x μ1 => revIt x μ1 R) X := rfl
/-! ### statements -/
theorem s_nil : wpSs G .nil ρ μ K X = K.nx ρ μ := rfl
theorem s_one {s : S} : wpSs G (.cons s .nil) ρ μ K X = wpS G s ρ μ K X := rfl
theorem s_cons {s s' : S} {ss : Ss} : wpSs G (.cons s (.cons s' ss)) ρ μ K X = wpS G s ρ μ ⟨fun ρ' μ' => wpSs G (.cons s' ss) ρ' μ' K X, K.rt, K.bk, K.ct⟩ X := rfl
theorem s_set {i : Nat} {e : E} : wpS G (.set i e) ρ μ K X = wp G e ρ μ (fun d μ1 => K.nx (ρ.set i (some d)) μ1) X := rfl
theorem s_asg {t : T} {e : E} : wpS G (.asg t e) ρ μ K X = wp G e ρ μ (fun d μ1 => wpTg t d ρ μ1 K.nx) X := rfl
theorem s_par3 {i j l : Nat} {a b c : E} : wpS G (.par3 i j l a b c) ρ μ K X = wp G a ρ μ (fun x μ1 => wp G b ρ μ1 (fun y μ2 => wp G c ρ μ2 (fun z μ3 => K.nx (((ρ.set i (some x)).set j (some y)).set l (some z)) μ3) X) X) X := rfl
theorem s_par {i j : Nat} {a b : E} : wpS G (.par i j a b) ρ μ K X = wp G a ρ μ (fun x μ1 => wp G b ρ μ1 (fun y μ2 => K.nx ((ρ.set i (some x)).set j (some y)) μ2) X) X := rfl
theorem s_setIx {o i e : E} : wpS G (.setIx o i e) ρ μ K X = wp G e ρ μ (fun d μ1 => wp G o ρ μ1 (fun x μ2 => wp G i ρ μ2 (fun k μ3 => setD x k d μ3 fun μ4 => K.nx ρ μ4) X) X) X := rfl
def tup2 (d : D) (k : D → D → Prop) : Prop := match d with
  | .tup [a, b] => k a b
  | _ => False
theorem s_setIx2 {o i e : E} {j : Nat} : wpS G (.setIx2 o i j e) ρ μ K X = wp G e ρ μ (fun d μ1 => tup2 d fun d1 d2 => wp G o ρ μ1 (fun x μ2 => wp G i ρ μ2 (fun k μ3 => setD x k d1 μ3 fun μ4 => K.nx (ρ.set j (some d2)) μ4) X) X) X := rfl
theorem tup2_ok {a b : D} {k : D → D → Prop} : tup2 (.tup [a, b]) k = k a b := rfl
theorem s_aug {i : Nat} {o : Op2} {e : E} : wpS G (.aug i o e) ρ μ K X = getV ρ i fun x => intK x fun a => wp G e ρ μ (fun y μ1 => intK y fun b => K.nx (ρ.set i (some (.int (a + b)))) μ1) X := rfl
theorem s_expr {e : E} : wpS G (.expr e) ρ μ K X = wp G e ρ μ (fun _ μ1 => K.nx ρ μ1) X := rfl
theorem s_app {o e : E} : wpS G (.app o e) ρ μ K X = wp G o ρ μ (fun x μ1 => (∃ l, seqL μ1 x = some l) ∧ wp G e ρ μ1 (fun d μ2 => chg x μ2 fun a l => l.length < 16777216 ∧ K.nx ρ (mset μ2 a (.lst (l ++ [d])))) X) X := rfl
theorem s_pop {o : E} : wpS G (.pop o) ρ μ K X = wp G o ρ μ (fun x μ1 => chg x μ1 fun a l => l ≠ [] ∧ K.nx ρ (mset μ1 a (.lst l.dropLast))) X := rfl
theorem s_ins {o i e : E} : wpS G (.ins o i e) ρ μ K X = wp G o ρ μ (fun x μ1 => (∃ l, seqL μ1 x = some l) ∧ wp G i ρ μ1 (fun k μ2 => intK k fun k => wp G e ρ μ2 (fun d μ3 => chg x μ3 fun a l => l.length < 16777216 ∧ (0 ≤ k ∧ k < 9223372036854775808) ∧ K.nx ρ (mset μ3 a (.lst (l.take k.toNat ++ [d] ++ l.drop k.toNat)))) X) X) X := rfl
theorem s_raiseI {c : Str} {es : Es} : wpS G (.raiseI c es) ρ μ K X = optD (G.ex.exv c) fun x => optD x fun y => wps G es ρ μ (fun ds μ1 => rzD y ds fun fs => X c fs μ1) X := rfl
theorem rz_2 {f1 f2 : Str} {g : Option Nat} {d1 d2 : D} {q : List (Str × D) → Prop} : rzD (f1, f2, g) [d1, d2] q = (gOk g d2 ∧ q [(f2, d2), (f1, d1)]) := rfl
theorem s_raise {c s : Str} : wpS G (.raise c s) ρ μ K X = (G.ex.exs c = true ∧ X c [] μ) := rfl
theorem s_tryAs {b : Ss} {c : Str} {i : Nat} {h : HSs} : wpS G (.tryAs b c i h) ρ μ K X = ((G.ex.sub c c).isSome = true ∧ wpSs G b ρ μ K fun c' fs μ' => optD (G.ex.sub c' c) fun v => if v = true then wpHs ⟨G.ex.sub c', G.ex.fld c', fs⟩ h (blankR ρ) μ' K else X c' fs μ') := rfl
theorem s_try {b : Ss} {c : Str} {h : HSs} : wpS G (.try_ b c h) ρ μ K X = ((G.ex.sub c c).isSome = true ∧ wpSs G b ρ μ K fun c' fs μ' => optD (G.ex.sub c' c) fun v => if v = true then wpHs ⟨G.ex.sub c', G.ex.fld c', fs⟩ h (blankR ρ) μ' K else X c' fs μ') := rfl
theorem sq_x {a b : Str} : sqD .index (.str a) (.str b) μ Q = optD (Builtin.Str.occurrences a b 0 a.length 1).head? fun i => Q (.int (i : Nat)) μ := rfl
theorem sq_f {a b : Str} : sqD .find (.str a) (.str b) μ Q = Q (.int (Txt.find a b)) μ := rfl
theorem sq_c {a b : Str} : sqD .count (.str a) (.str b) μ Q = Q (.int (Txt.count a b)) μ := rfl
theorem s_ext {o e : E} : wpS G (.ext o e) ρ μ K X = wp G o ρ μ (fun x μ1 => (∃ l, seqL μ1 x = some l) ∧ wp G e ρ μ1 (fun d μ2 => chg x μ2 fun a l => optD (seqP μ2 d) fun r => l.length + r.length ≤ 16777216 ∧ K.nx ρ (mset μ2 a (.lst (l ++ r)))) X) X := rfl
theorem s_clear {o : E} : wpS G (.clear o) ρ μ K X = wp G o ρ μ (fun x μ1 => chg x μ1 fun a _ => K.nx ρ (mset μ1 a (.lst []))) X := rfl
theorem s_ret {e : E} : wpS G (.ret e) ρ μ K X = wp G e ρ μ K.rt X := rfl
theorem s_retN : wpS G .retN ρ μ K X = K.rt .non μ := rfl
theorem s_ite {t : Te} {a b : Ss} : wpS G (.ite t a b) ρ μ K X = wpT G t ρ μ (fun c μ1 => if c = true then wpSs G a ρ μ1 K X else wpSs G b ρ μ1 K X) X := rfl
theorem s_for {ws : List Nat} {t : T} {it : It} {b : Ss} : wpS G (.for_ ws t it b) ρ μ K X = wpI G it ρ μ (fun items ok μ1 => LP items (wipeR ρ ws) μ1 ok (fun x ρ' μ' K' => wpTg t x ρ' μ' fun ρ2 μ2 => wpSs G b ρ2 μ2 (wipeK ws K') X) K) X := rfl
theorem s_while {ws : List Nat} {t : Te} {b : Ss} : wpS G (.while_ ws t b) ρ μ K X = LW (wipeR ρ ws) μ (fun ρ' μ' q => wpT G t ρ' μ' q X) (fun ρ' μ' K' => wpSs G b ρ' μ' (wipeK ws K') X) K := rfl
theorem s_pass : wpS G .pass ρ μ K X = K.nx ρ μ := rfl
theorem s_brk : wpS G .brk ρ μ K X = K.bk ρ μ := rfl
theorem s_cont : wpS G .cont ρ μ K X = K.ct ρ μ := rfl
theorem s_opn {i : Nat} : wpS G (.opn i) ρ μ K X = getV ρ i fun y => openD y μ fun μ2 => K.nx ρ μ2 := rfl
theorem s_drp {is : List Nat} : wpS G (.drp is) ρ μ K X = K.nx ρ (dropM ρ is μ) := rfl
/-! ### targets -/
theorem tg_v {i : Nat} {d : D} {k : Rho → Mem → Prop} : wpTg (.v i) d ρ μ k = k (ρ.set i (some d)) μ := rfl
theorem tg_lst {ts : Ts} {ds : List D} {k : Rho → Mem → Prop} : wpTg (.tup ts) (.lst ds) ρ μ k = wpTgs ts ds ρ μ k := rfl
theorem d_muls {z : Bool} {s : Str} {k : Int} {Q : DK} : binD z .mul (.str s) (.int k) μ Q = ((0 ≤ k ∧ k ≤ 1) ∧ Q (.str (if k = 1 then s else ⟨#[]⟩)) μ) := rfl
theorem w_lax {is : List Nat} {a : E} : wp G (.lax is a) ρ μ Q X = wp G a ρ μ Q (fun c ds μ' => X c ds (dropM ρ is μ')) := rfl
theorem w_cnt {o e : E} : wp G (.cnt o e) ρ μ Q X = wp G o ρ μ (fun x μ1 => (∃ l, seqL μ1 x = some l) ∧ wp G e ρ μ1 (fun d μ2 => cntD x d μ2 Q) X) X := rfl
theorem w_spm {z : Bool} {o a b : E} : wp G (.spm z o a b) ρ μ Q X = wp G o ρ μ (fun x μ1 => strIs x ∧ wp G a ρ μ1 (fun d μ2 => wp G b ρ μ2 (fun k μ3 => spmD z x d k μ3 Q) X) X) X := rfl
theorem w_rpr {a : E} : wp G (.rpr a) ρ μ Q X = (G.grd = true ∧ wp G a ρ μ (fun x μ1 => rprD x μ1 Q) X) := rfl
theorem sp_m {z : Bool} {a b : Str} {k : Int} : spmD z (.str a) (.str b) (.int k) μ Q = ((b.length == 0) = false ∧ (-(2 ^ 63) ≤ k ∧ k < 2 ^ 63) ∧ a.length + 2 ≤ 16777216 ∧ newL z ((Txt.splitMax a b k).map D.str) μ Q) := rfl
theorem rp_t {l : List D} : rprD (.tup l) μ Q = ((D.tup l).ok = true ∧ (D.tup l).dep ≤ 64 ∧ (D.tup l).py.showable = true ∧ (D.tup l).py.shown.length ≤ 16777216 ∧ Q (.str (D.tup l).py.shown) μ) := rfl
theorem tg_tup {ts : Ts} {ds : List D} {k : Rho → Mem → Prop} : wpTg (.tup ts) (.tup ds) ρ μ k = wpTgs ts ds ρ μ k := rfl
theorem tg_nil {ds : List D} {k : Rho → Mem → Prop} : wpTgs .nil ds ρ μ k = (ds = [] ∧ k ρ μ) := rfl
theorem tg_cons {t : T} {ts : Ts} {d : D} {ds : List D} {k : Rho → Mem → Prop} : wpTgs (.cons t ts) (d :: ds) ρ μ k = wpTg t d ρ μ fun ρ' μ' => wpTgs ts ds ρ' μ' k := rfl
theorem wr_nil : wipeR ρ [] = ρ := rfl
theorem wr_cons {v : Nat} {vs : List Nat} : wipeR ρ (v :: vs) = (wipeR ρ vs).set v none := rfl
theorem sl_v {i : Nat} : T.slots (.v i) = [i] := rfl
theorem sl_tup {ts : Ts} : T.slots (.tup ts) = Ts.slots ts := rfl
theorem sl_nil : Ts.slots .nil = [] := rfl
theorem sl_cons {t : T} {ts : Ts} : Ts.slots (.cons t ts) = T.slots t ++ Ts.slots ts := rfl
theorem wk_nx {ws : List Nat} : (wipeK ws K).nx ρ μ = K.nx (wipeR ρ ws) μ := rfl
theorem wk_ct {ws : List Nat} : (wipeK ws K).ct ρ μ = K.ct (wipeR ρ ws) μ := rfl
theorem wk_bk {ws : List Nat} : (wipeK ws K).bk ρ μ = K.bk (wipeR ρ ws) μ := rfl
theorem wk_rt {ws : List Nat} {d : D} : (wipeK ws K).rt d μ = K.rt d μ := rfl
theorem ls_z {o x : Option D} : (o :: r).set 0 x = x :: r := rfl
theorem ls_s {o x : Option D} {i : Nat} : (o :: r).set (i + 1) x = o :: r.set i x := rfl
/-! ### data -/
theorem d_addi {z : Bool} {i j : Int} : binD z .add (.int i) (.int j) μ Q = Q (.int (i + j)) μ := rfl
theorem d_adds {z : Bool} {i j : Str} : binD z .add (.str i) (.str j) μ Q = (i.length + j.length ≤ 16777216 ∧ Q (.str (i ++ j)) μ) := rfl
theorem d_addt {z : Bool} {i j : List D} : binD z .add (.tup i) (.tup j) μ Q = (i.length + j.length ≤ 16777216 ∧ Q (.tup (i ++ j)) μ) := rfl
theorem d_addl {z : Bool} {i : List D} {y : D} : binD z .add (.lst i) y μ Q = optD (seqP μ y) fun b => i.length + b.length ≤ 16777216 ∧ newL z (i ++ b) μ Q := rfl
theorem d_addr {z : Bool} {a : Addr} {y : D} : binD z .add (.ref a) y μ Q = optD (seqP μ (.ref a)) fun i => optD (seqP μ y) fun b => i.length + b.length ≤ 16777216 ∧ newL z (i ++ b) μ Q := rfl
theorem d_sub {z : Bool} {i j : Int} : binD z .sub (.int i) (.int j) μ Q = Q (.int (i - j)) μ := by
  show (True ∧ Q (.int (i - j)) μ) = _
  simp
theorem d_mul {z : Bool} {i j : Int} : binD z .mul (.int i) (.int j) μ Q = (((-18446744073709551616 < i ∧ i < 18446744073709551616) ∨ (-18446744073709551616 < j ∧ j < 18446744073709551616)) ∧ Q (.int (i * j)) μ) := rfl
theorem d_fdiv {z : Bool} {i j : Int} : binD z .fdiv (.int i) (.int j) μ Q = ((0 < j ∧ j < 1073741824) ∧ Q (.int (i / j)) μ) := rfl
theorem d_mod {z : Bool} {i j : Int} : binD z .mod (.int i) (.int j) μ Q = (0 < j ∧ Q (.int (i % j)) μ) := rfl
theorem d_pow {z : Bool} {i j : Int} : binD z .pow (.int i) (.int j) μ Q = ((0 ≤ j ∧ j ≤ 1000000 ∧ -18446744073709551616 < i ∧ i < 18446744073709551616) ∧ Q (.int (i ^ j.toNat)) μ) := by
  show ((0 ≤ j ∧ j ≤ 1000000 ∧ i.natAbs < 2 ^ 64) ∧ _) = _
  apply propext
  constructor
  · rintro ⟨⟨a, b, c⟩, q⟩
    exact ⟨⟨a, b, by omega, by omega⟩, q⟩
  · rintro ⟨⟨a, b, c, d⟩, q⟩
    exact ⟨⟨a, b, by omega⟩, q⟩
theorem n_t {ds : List D} : newL true ds μ Q = Q (.lst ds) μ := rfl
theorem n_f {ds : List D} : newL false ds μ Q = ∀ p, μ p = none → Q (.ref p) (mset μ p (.lst ds)) := rfl
theorem sl_lst {l : List D} : seqL μ (.lst l) = some l := rfl
theorem sl_lk {l : List D} : seqL μ (.lk l) = some l := rfl
theorem sp_lst {l : List D} : seqP μ (.lst l) = some l := rfl
theorem sa_lst {l : List D} : seqA μ (.lst l) = some l := rfl
theorem sa_lk {l : List D} : seqA μ (.lk l) = some l := rfl
theorem sa_tup {l : List D} : seqA μ (.tup l) = some l := rfl
theorem sa_tpl {l : List D} : seqA μ (.tpl l) = some l := rfl
theorem sa_tpz {l : List D} : seqA μ (.tpz l) = some l := rfl
theorem sl_ref {p : Addr} {l : List D} : seqL (mset μ p (.lst l)) (.ref p) = some l := by unfold seqL; simp only [mset_same]
theorem sp_ref {p : Addr} {l : List D} : seqP (mset μ p (.lst l)) (.ref p) = some l := by unfold seqP; simp only [mset_same]
theorem sa_ref {p : Addr} {l : List D} : seqA (mset μ p (.lst l)) (.ref p) = some l := sl_ref
theorem d_mull {z : Bool} {a : List D} {k : Int} {Q : DK} : binD z .mul (.lst a) (.int k) μ Q = (0 ≤ k ∧ k ≤ 1000 ∧ a.length ≤ 1000 ∧ Q (.lst (List.replicate k.toNat a).flatten) μ) := rfl
theorem d_mult {z : Bool} {a : List D} {k : Int} {Q : DK} : binD z .mul (.tup a) (.int k) μ Q = (a ≠ [] ∧ 0 ≤ k ∧ k ≤ 1000 ∧ a.length ≤ 1000 ∧ Q (.tup (List.replicate k.toNat a).flatten) μ) := rfl
theorem c_eqi {i j : Int} : cmpD .eq (.int i) (.int j) μ q = q (decide (i = j)) := rfl
theorem c_eqs {i j : Str} : cmpD .eq (.str i) (.str j) μ q = q (decide (i = j)) := rfl
theorem c_nei {i j : Int} : cmpD .ne (.int i) (.int j) μ q = q (!decide (i = j)) := rfl
theorem c_nes {i j : Str} : cmpD .ne (.str i) (.str j) μ q = q (!decide (i = j)) := rfl
theorem c_lt {i j : Int} : cmpD .lt (.int i) (.int j) μ q = q (decide (i < j)) := rfl
theorem c_le {i j : Int} : cmpD .le (.int i) (.int j) μ q = q (decide (i ≤ j)) := rfl
theorem c_gt {i j : Int} : cmpD .gt (.int i) (.int j) μ q = q (decide (j < i)) := rfl
theorem c_ge {i j : Int} : cmpD .ge (.int i) (.int j) μ q = q (decide (j ≤ i)) := rfl
theorem c_lts {i j : Str} : cmpD .lt (.str i) (.str j) μ q = q (decide (i.cps.toList < j.cps.toList)) := rfl
theorem c_les {i j : Str} : cmpD .le (.str i) (.str j) μ q = q (!decide (j.cps.toList < i.cps.toList)) := rfl
theorem c_gts {i j : Str} : cmpD .gt (.str i) (.str j) μ q = q (decide (j.cps.toList < i.cps.toList)) := rfl
theorem c_ges {i j : Str} : cmpD .ge (.str i) (.str j) μ q = q (!decide (i.cps.toList < j.cps.toList)) := rfl
theorem c_is {x : D} : cmpD .is x .non μ q = q x.isNon := rfl
theorem c_isnot {x : D} : cmpD .isnot x .non μ q = q (!x.isNon) := rfl
theorem n_non : D.isNon .non = true := rfl
theorem n_int {i : Int} : D.isNon (.int i) = false := rfl
theorem n_str {i : Str} : D.isNon (.str i) = false := rfl
theorem n_bl {i : Bool} : D.isNon (.bl i) = false := rfl
theorem n_tup {i : List D} : D.isNon (.tup i) = false := rfl
theorem n_lst {i : List D} : D.isNon (.lst i) = false := rfl
theorem n_ref {i : Addr} : D.isNon (.ref i) = false := rfl
theorem u_bl {b : Bool} : truD (.bl b) μ q = q b := rfl
theorem u_int {i : Int} : truD (.int i) μ q = q (i != 0) := rfl
theorem u_non : truD .non μ q = q false := rfl
theorem u_tup {l : List D} : truD (.tup l) μ q = q (!l.isEmpty) := rfl
theorem u_lst {l : List D} : truD (.lst l) μ q = q (!l.isEmpty) := rfl
theorem x_t {l : List D} {k : Int} : ixD (.tup l) (.int k) μ Q = optD (atI l k) fun d => Q d μ := rfl
theorem x_tz {l : List D} {k : Int} : ixD (.tpz l) (.int k) μ Q = optD (atI l k) fun d => Q d μ := rfl
theorem x_tp {l : List D} {k : Int} : ixD (.tpl l) (.int k) μ Q = optD (atI l k) fun d => Q d μ := rfl
theorem x_l {l : List D} {k : Int} : ixD (.lst l) (.int k) μ Q = optD (atI l k) fun d => Q d μ := rfl
theorem x_lk {l : List D} {k : Int} : ixD (.lk l) (.int k) μ Q = optD (atI l k) fun d => Q d μ := rfl
theorem x_r {a : Addr} {k : Int} : ixD (.ref a) (.int k) μ Q = optD (seqL μ (.ref a)) fun l => optD (atI l k) fun d => Q d μ := rfl
theorem x_s {s : Str} {k : Int} : ixD (.str s) (.int k) μ Q = (s.length ≤ 16777216 ∧ optD (atI s.cps.toList k) fun c => Q (.str ⟨#[c]⟩) μ) := rfl
theorem a_nat {A : Type} {l : List A} {k : Int} (h0 : 0 ≤ k) : atI l k = l[k.toNat]? := by
  unfold atI ixN
  rw [if_pos h0]
  split
  · rfl
  · rename_i h
    rw [List.getElem?_eq_none (by omega)]
    rfl
theorem a_0 {A : Type} {a : A} {l : List A} : atI (a :: l) 0 = some a := a_nat (by decide)
theorem a_1 {A : Type} {a b : A} {l : List A} : atI (a :: b :: l) 1 = some b := a_nat (by decide)
theorem a_2 {A : Type} {a b c : A} {l : List A} : atI (a :: b :: c :: l) 2 = some c := a_nat (by decide)
theorem a_3 {A : Type} {a b c d : A} {l : List A} : atI (a :: b :: c :: d :: l) 3 = some d := a_nat (by decide)
theorem a_m1 {A : Type} {l : List A} : atI l (-1) = l.getLast? := by
  unfold atI ixN
  rw [if_neg (by decide)]
  cases l with
  | nil => rfl
  | cons a r =>
    rw [if_pos (by simp only [List.length_cons]; omega), List.getLast?_eq_getElem?]
    show (a :: r)[_]? = _
    congr 1
    simp only [List.length_cons]
    omega
theorem z_r {a : Addr} : fzD (.ref a) μ Q = optD (seqL μ (.ref a)) fun l => Q (.lst l) (mdel μ a) := rfl
theorem ik {i : Int} {k : Int → Prop} : intK (.int i) k = k i := rfl
theorem pk {i : Int} {k : Option Int → Prop} : parD (.int i) k = k (some i) := rfl
theorem l_s {s : Str} : biD true .len [.str s] μ Q = (s.length ≤ 16777216 ∧ Q (.int s.length) μ) := rfl
theorem l_t {l : List D} : biD true .len [.tup l] μ Q = Q (.int l.length) μ := rfl
theorem l_l {l : List D} : biD true .len [.lst l] μ Q = Q (.int l.length) μ := rfl
theorem l_lk {l : List D} : biD true .len [.lk l] μ Q = Q (.int l.length) μ := rfl
theorem l_r {a : Addr} : biD true .len [.ref a] μ Q = optD (seqL μ (.ref a)) fun l => Q (.int l.length) μ := rfl
theorem b_tuple {z : Bool} {x : D} : biD z .tuple [x] μ Q = optD (seqA μ x) fun l => Q (.tup l) μ := rfl
theorem b_listt {z : Bool} {l : List D} : biD z .list [.tup l] μ Q = newL z l μ Q := rfl
theorem b_listl {z : Bool} {l : List D} : biD z .list [.lst l] μ Q = newL z l μ Q := rfl
theorem b_listk {z : Bool} {l : List D} : biD z .list [.lk l] μ Q = newL z l μ Q := rfl
theorem b_listr {z : Bool} {a : Addr} : biD z .list [.ref a] μ Q = optD (seqL μ (.ref a)) fun l => newL z l μ Q := rfl
theorem b_lists {z : Bool} {s : Str} : biD z .list [.str s] μ Q = (s.length ≤ 16777216 ∧ newL z (chars s) μ Q) := rfl
theorem b_inti {z : Bool} {i : Int} : biD z .int [.int i] μ Q = Q (.int i) μ := rfl
theorem b_intb {z : Bool} {b : Bool} : biD z .int [.bl b] μ Q = Q (.int (if b then 1 else 0)) μ := rfl
theorem b_abs {z : Bool} {i : Int} : biD z .abs [.int i] μ Q = Q (.int (if i < 0 then -i else i)) μ := rfl
theorem b_max {z : Bool} {i j : Int} : biD z .max [.int i, .int j] μ Q = Q (.int (if decide (j > i) = true then j else i)) μ := rfl
theorem b_min {z : Bool} {i j : Int} : biD z .min [.int i, .int j] μ Q = Q (.int (if decide (j < i) = true then j else i)) μ := rfl
theorem b_divmod {z : Bool} {i j : Int} : biD z .divmod [.int i, .int j] μ Q = ((0 < j ∧ j ≤ 2 ^ 256) ∧ Q (.tup [.int (i / j), .int (i % j)]) μ) := rfl
theorem b_str {z : Bool} {i : Int} : biD z .str [.int i] μ Q = (i.natAbs.log2 < 1920 ∧ Q (.str (toString i)) μ) := rfl
theorem b_strn {z : Bool} : biD z .str [.non] μ Q = Q (.str "None") μ := rfl
theorem b_strs {z : Bool} {i : Str} : biD z .str [.str i] μ Q = Q (.str i) μ := rfl
theorem b_any {z : Bool} {x : D} : biD z .any [x] μ Q = optD (seqL μ x) fun l => optD (asBls l) fun bs => Q (.bl (bs.any id)) μ := rfl
theorem b_all {z : Bool} {x : D} : biD z .all [x] μ Q = optD (seqL μ x) fun l => optD (asBls l) fun bs => Q (.bl (bs.all id)) μ := rfl
theorem b_sum {z : Bool} {x : D} : biD z .sum [x] μ Q = optD (seqL μ x) fun l => optD (asInts l) fun bs => Q (.int bs.sum) μ := rfl
theorem q_tz {l : List D} {R : List D → (Mem → Prop) → Mem → Prop} : seqIt (.tpz l) μ R = R l (fun _ => True) μ := rfl
theorem q_t {l : List D} {R : List D → (Mem → Prop) → Mem → Prop} : seqIt (.tup l) μ R = R l (fun _ => True) μ := rfl
theorem q_l {l : List D} {R : List D → (Mem → Prop) → Mem → Prop} : seqIt (.lst l) μ R = R l (fun _ => True) μ := rfl
theorem q_lk {l : List D} {R : List D → (Mem → Prop) → Mem → Prop} : seqIt (.lk l) μ R = R l (fun _ => True) μ := rfl
theorem q_s {l : Str} {R : List D → (Mem → Prop) → Mem → Prop} : seqIt (.str l) μ R = R (chars l) (fun _ => True) μ := rfl
theorem q_r {a : Addr} {R : List D → (Mem → Prop) → Mem → Prop} : seqIt (.ref a) μ R = optD (seqL μ (.ref a)) fun l => R l (fun μ' => seqL μ' (.ref a) = some l) μ := rfl
theorem r_1 {j : Int} {R : List D → (Mem → Prop) → Mem → Prop} : rng1 (.int j) μ R = (-(2 ^ 62) ≤ j ∧ j < 2 ^ 62 ∧ R (intsR 0 j.toNat) (fun _ => True) μ) := rfl
theorem r_2 {i j : Int} {R : List D → (Mem → Prop) → Mem → Prop} : rng2 (.int i) (.int j) μ R = ((-(2 ^ 62) ≤ i ∧ i < 2 ^ 62 ∧ -(2 ^ 62) ≤ j ∧ j < 2 ^ 62) ∧ R (intsR i (j - i).toNat) (fun _ => True) μ) := rfl
theorem m_join {z : Bool} {a : Str} {y : D} : mtD z .join (.str a) [y] μ Q = optD (seqA μ y) fun l => optD (asStrs l) fun ys => (ys.map fun x => x.length).sum + ys.length * a.length ≤ 16777216 ∧ Q (.str (Txt.join a ys)) μ := rfl
theorem m_split {z : Bool} {a b : Str} : mtD z .split (.str a) [.str b] μ Q = ((b.length == 0) = false ∧ a.length + 2 ≤ 16777216 ∧ newL z ((Txt.split a b).map D.str) μ Q) := rfl
theorem st_is {a : Str} : strIs (.str a) = True := rfl
theorem ch_r {a : Addr} {f : Addr → List D → Prop} : chg (.ref a) μ f = optD (seqL μ (.ref a)) fun l => f a l := rfl
theorem set_r {a : Addr} {k : Int} {e : D} {f : Mem → Prop} : setD (.ref a) (.int k) e μ f = optD (seqL μ (.ref a)) fun l => optD (ixN l.length k) fun j => f (mset μ a (.lst (l.set j e))) := rfl
theorem dr_nil : dropM ρ [] μ = μ := rfl
theorem dr_cons {i : Nat} {is : List Nat} : dropM ρ (i :: is) μ = dropM ρ is (mdelO μ (refAt ρ i)) := rfl
theorem md_s {a : Addr} : mdelO μ (some a) = mdel μ a := rfl
theorem md_n : mdelO μ none = μ := rfl
theorem ra_s {o : Option D} {i : Nat} : refAt (o :: r) (i + 1) = refAt r i := by
  cases o with
  | none => rfl
  | some d => cases d <;> rfl
theorem ra_r {a : Addr} : refAt (some (.ref a) :: r) 0 = some a := rfl
theorem ra_n : refAt (none :: r) 0 = none := rfl
end
/-! ### pots -/
def potAt (μ : Mem) (a : Addr) : Prop := ∃ l, μ a = some (.pot l)
theorem potAt_lst {μ : Mem} {a p : Addr} {l : List D} (h : potAt μ a) (hp : μ p = none) : potAt (mset μ p (.lst l)) a := by
  obtain ⟨r, h⟩ := h
  refine ⟨r, ?_⟩
  rw [mset_ne (fun e => by rw [e, hp] at h; cases h)]
  exact h
theorem potAt_new {μ : Mem} {a : Addr} {l : List D} : potAt (mset μ a (.pot l)) a := ⟨l, mset_same⟩
/-! ### loops -/
section
variable {ρ : Rho} {μ : Mem} {K : DEnds} {ok : Mem → Prop} {step : D → Rho → Mem → DEnds → Prop}
/-- a loop over items that are told by a list: a state, where it stands in slots and memory, and what holds of it -/
theorem LP_ty {A S : Type} (l : List A) (g : A → D) (r : S → Rho) (m : S → Mem) (P : List A → S → Prop) (s0 : S) (hr : r s0 = ρ) (hm : m s0 = μ) (h0 : P [] s0)
    (hs : ∀ done a rest s, l = done ++ a :: rest → P done s → ok (m s) ∧ ∀ N : Rho → Mem → Prop, (∀ s', P (done ++ [a]) s' → N (r s') (m s')) → step (g a) (r s) (m s) ⟨N, K.rt, K.nx, N⟩)
    (hd : ∀ s, P l s → ok (m s) ∧ K.nx (r s) (m s)) : LP (l.map g) ρ μ ok step K := by
  refine ⟨fun its ρ' μ' => ∃ done rest s, l = done ++ rest ∧ its = rest.map g ∧ r s = ρ' ∧ m s = μ' ∧ P done s, ⟨[], l, s0, rfl, rfl, hr, hm, h0⟩, ?_, ?_⟩
  · rintro x xs ρ' μ' ⟨done, rest, s, e1, e2, e3, e4, hp⟩
    cases rest with
    | nil => cases e2
    | cons a rest =>
      cases e2
      subst e3 e4
      obtain ⟨h1, h2⟩ := hs done a rest s e1 hp
      exact ⟨h1, h2 _ fun s' hp' => ⟨done ++ [a], rest, s', by rw [e1]; simp, rfl, rfl, rfl, hp'⟩⟩
  · rintro ρ' μ' ⟨done, rest, s, e1, e2, e3, e4, hp⟩
    cases rest with
    | cons a rest => cases e2
    | nil =>
      rw [List.append_nil] at e1
      subst e1 e3 e4
      exact hd s hp
/-- a loop that only looks: nothing is carried -/
theorem LP_look {A : Type} (l : List A) (g : A → D) (P : List A → Prop) (h0 : P [])
    (hs : ∀ done a rest, l = done ++ a :: rest → P done → ok μ ∧ ∀ N : Rho → Mem → Prop, (P (done ++ [a]) → N ρ μ) → step (g a) ρ μ ⟨N, K.rt, K.nx, N⟩)
    (hd : P l → ok μ ∧ K.nx ρ μ) : LP (l.map g) ρ μ ok step K :=
  LP_ty l g (fun _ : Unit => ρ) (fun _ => μ) (fun d _ => P d) () rfl rfl h0 (fun done a rest _ e p => ⟨(hs done a rest e p).1, fun N hN => (hs done a rest e p).2 N (hN ())⟩) fun _ p => hd p
end
/-! ### comprehensions -/
section
variable {μ : Mem} {ok : Mem → Prop} {step : D → Mem → (Option D → Mem → Prop) → Prop} {Q : List D → Mem → Prop}
/-- each item gives what a function says -/
theorem LC_fn {A : Type} (l : List A) (g : A → D) (f : A → Option D) (hl : l.length ≤ 16777216) (hok : ok μ) (hs : ∀ a ∈ l, ∀ R : Option D → Mem → Prop, R (f a) μ → step (g a) μ R) (hd : Q (l.filterMap f) μ) : LC (l.map g) μ ok step Q := by
  refine ⟨fun its acc μ' => μ' = μ ∧ ∃ done rest, l = done ++ rest ∧ its = rest.map g ∧ acc = done.filterMap f, ⟨rfl, [], l, rfl, rfl, rfl⟩, ?_, ?_⟩
  · rintro x xs acc μ' ⟨rfl, done, rest, e1, e2, e3⟩
    cases rest with
    | nil => cases e2
    | cons a rest =>
      cases e2
      refine ⟨hok, hs a (by rw [e1]; simp) _ ?_⟩
      cases e : f a with
      | none => exact ⟨rfl, done ++ [a], rest, by rw [e1]; simp, rfl, by rw [e3, List.filterMap_append]; simp [e]⟩
      | some d =>
        refine ⟨?_, rfl, done ++ [a], rest, by rw [e1]; simp, rfl, by rw [e3, List.filterMap_append]; simp [e]⟩
        have h1 : acc.length ≤ done.length := by rw [e3]; exact List.length_filterMap_le _ _
        have h2 : l.length = done.length + (rest.length + 1) := by rw [e1, List.length_append, List.length_cons]
        omega
  · rintro acc μ' ⟨rfl, done, rest, e1, e2, e3⟩
    cases rest with
    | cons a rest => cases e2
    | nil =>
      rw [List.append_nil] at e1
      subst e1 e3
      exact ⟨hok, hd⟩
/-- .. a map -/
theorem LC_map {A : Type} (l : List A) (g : A → D) (f : A → D) (hl : l.length ≤ 16777216) (hok : ok μ) (hs : ∀ a ∈ l, ∀ R : Option D → Mem → Prop, R (some (f a)) μ → step (g a) μ R) (hd : Q (l.map f) μ) : LC (l.map g) μ ok step Q :=
  LC_fn l g (fun a => some (f a)) hl hok hs (by rw [List.filterMap_eq_map']; exact hd)
inductive All2 {A B : Type} (P : A → B → Prop) : List A → List B → Prop
  | nil : All2 P [] []
  | cons {a : A} {b : B} {l : List A} {m : List B} : P a b → All2 P l m → All2 P (a :: l) (b :: m)
theorem All2.snoc {A B : Type} {P : A → B → Prop} {a : A} {b : B} (h : P a b) : ∀ {l : List A} {m : List B}, All2 P l m → All2 P (l ++ [a]) (m ++ [b])
  | _, _, .nil => .cons h .nil
  | _, _, .cons p q => .cons p (All2.snoc h q)
theorem All2.length {A B : Type} {P : A → B → Prop} : ∀ {l : List A} {m : List B}, All2 P l m → m.length = l.length
  | _, _, .nil => rfl
  | _, _, .cons _ q => by rw [List.length_cons, List.length_cons, q.length]
theorem All2.all {A B : Type} {P : A → B → Prop} {R : B → Prop} (h : ∀ a b, P a b → R b) : ∀ {l : List A} {m : List B}, All2 P l m → ∀ b ∈ m, R b
  | _, _, .nil, b, hb => by cases hb
  | _, _, .cons p q, b, hb => by
    cases hb with
    | head => exact h _ _ p
    | tail _ hb => exact All2.all h q b hb
theorem all2_ex {A B C : Type} {P : A → B → Prop} {R : C → Prop} (f : C → B) (h : ∀ a b, P a b → ∃ c, b = f c ∧ R c) : ∀ {l : List A} {m : List B}, All2 P l m → ∃ cs : List C, m = cs.map f ∧ cs.length = l.length ∧ ∀ c ∈ cs, R c
  | _, _, .nil => ⟨[], rfl, rfl, fun c hc => by cases hc⟩
  | _, _, .cons p q => by
    obtain ⟨c, e, hc⟩ := h _ _ p
    obtain ⟨cs, e2, e3, h2⟩ := all2_ex f h q
    refine ⟨c :: cs, by rw [e, e2]; rfl, by simp [e3], fun x hx => ?_⟩
    cases hx with
    | head => exact hc
    | tail _ hx => exact h2 x hx
/-- each item gives something of which P holds -/
theorem LC_rel {A : Type} (l : List A) (g : A → D) (P : A → D → Prop) (hl : l.length ≤ 16777216) (hok : ok μ) (hs : ∀ a ∈ l, ∀ R : Option D → Mem → Prop, (∀ d, P a d → R (some d) μ) → step (g a) μ R) (hd : ∀ ds, All2 P l ds → Q ds μ) : LC (l.map g) μ ok step Q := by
  refine ⟨fun its acc μ' => μ' = μ ∧ ∃ done rest, l = done ++ rest ∧ its = rest.map g ∧ All2 P done acc, ⟨rfl, [], l, rfl, rfl, .nil⟩, ?_, ?_⟩
  · rintro x xs acc μ' ⟨rfl, done, rest, e1, e2, e3⟩
    cases rest with
    | nil => cases e2
    | cons a rest =>
      cases e2
      refine ⟨hok, hs a (by rw [e1]; simp) _ fun d hp => ⟨?_, rfl, done ++ [a], rest, by rw [e1]; simp, rfl, e3.snoc hp⟩⟩
      have h1 := e3.length
      have h2 : l.length = done.length + (rest.length + 1) := by rw [e1, List.length_append, List.length_cons]
      omega
  · rintro acc μ' ⟨rfl, done, rest, e1, e2, e3⟩
    cases rest with
    | cons a rest => cases e2
    | nil =>
      rw [List.append_nil] at e1
      subst e1
      exact ⟨hok, hd acc e3⟩
end
end DL
/-! Equality of data. -/
namespace DL
open PySem PySem.Spec PyProof.Rows L2
mutual
/-- truths as numbers, lists all alike -/
def D.nrm : D → D
  | .non => .non
  | .bl b => .int (if b then 1 else 0)
  | .int i => .int i
  | .str s => .str s
  | .tup l => .tup (D.nrms l)
  | .lst l => .lst (D.nrms l)
  | .lk l => .lst (D.nrms l)
  | .ref _ => .non
  | .emp => .non
  | .exc _ _ _ => .non
  | .ins _ _ _ => .non
  | .tpl l => .tup (D.nrms l)
  | .tpz l => .tup (D.nrms l)
def D.nrms : List D → List D
  | [] => []
  | d :: ds => d.nrm :: D.nrms ds
end
mutual
theorem eqv_nrm : ∀ x y : D, D.eqv x y = true ↔ x.nrm = y.nrm
  | .non, y => by cases y <;> simp [D.eqv, D.py, D.nrm, PyData.eqv]
  | .ref _, y => by cases y <;> simp [D.eqv, D.py, D.nrm, PyData.eqv]
  | .emp, y => by cases y <;> simp [D.eqv, D.py, D.nrm, PyData.eqv]
  | .exc _ _ _, y => by cases y <;> simp [D.eqv, D.py, D.nrm, PyData.eqv]
  | .ins _ _ _, y => by cases y <;> simp [D.eqv, D.py, D.nrm, PyData.eqv]
  | .tpl l, y => by
    cases y with
    | tup m =>
      simp only [D.eqv, D.py, D.nrm, PyData.eqv]
      rw [eqvs_nrm l m]
      simp
    | tpl m =>
      simp only [D.eqv, D.py, D.nrm, PyData.eqv]
      rw [eqvs_nrm l m]
      simp
    | tpz m =>
      simp only [D.eqv, D.py, D.nrm, PyData.eqv]
      rw [eqvs_nrm l m]
      simp
    | _ => simp [D.eqv, D.py, D.nrm, PyData.eqv]
  | .tpz l, y => by
    cases y with
    | tup m =>
      simp only [D.eqv, D.py, D.nrm, PyData.eqv]
      rw [eqvs_nrm l m]
      simp
    | tpl m =>
      simp only [D.eqv, D.py, D.nrm, PyData.eqv]
      rw [eqvs_nrm l m]
      simp
    | tpz m =>
      simp only [D.eqv, D.py, D.nrm, PyData.eqv]
      rw [eqvs_nrm l m]
      simp
    | _ => simp [D.eqv, D.py, D.nrm, PyData.eqv]
  | .bl b, y => by cases y <;> simp [D.eqv, D.py, D.nrm, PyData.eqv] <;> (rename_i c; cases b <;> cases c <;> simp)
  | .int i, y => by cases y <;> simp [D.eqv, D.py, D.nrm, PyData.eqv]
  | .str s, y => by cases y <;> simp [D.eqv, D.py, D.nrm, PyData.eqv]
  | .tup l, y => by
    cases y with
    | tup m =>
      simp only [D.eqv, D.py, D.nrm, PyData.eqv]
      rw [eqvs_nrm l m]
      simp
    | tpl m =>
      simp only [D.eqv, D.py, D.nrm, PyData.eqv]
      rw [eqvs_nrm l m]
      simp
    | tpz m =>
      simp only [D.eqv, D.py, D.nrm, PyData.eqv]
      rw [eqvs_nrm l m]
      simp
    | _ => simp [D.eqv, D.py, D.nrm, PyData.eqv]
  | .lst l, y => by
    cases y with
    | lst m =>
      simp only [D.eqv, D.py, D.nrm, PyData.eqv]
      rw [eqvs_nrm l m]
      simp
    | lk m =>
      simp only [D.eqv, D.py, D.nrm, PyData.eqv]
      rw [eqvs_nrm l m]
      simp
    | _ => simp [D.eqv, D.py, D.nrm, PyData.eqv]
  | .lk l, y => by
    cases y with
    | lst m =>
      simp only [D.eqv, D.py, D.nrm, PyData.eqv]
      rw [eqvs_nrm l m]
      simp
    | lk m =>
      simp only [D.eqv, D.py, D.nrm, PyData.eqv]
      rw [eqvs_nrm l m]
      simp
    | _ => simp [D.eqv, D.py, D.nrm, PyData.eqv]
theorem eqvs_nrm : ∀ l m : List D, PyData.eqvAll (D.pys l) (D.pys m) = true ↔ D.nrms l = D.nrms m
  | [], [] => by simp [D.pys, D.nrms, PyData.eqvAll]
  | [], _ :: _ => by simp [D.pys, D.nrms, PyData.eqvAll]
  | _ :: _, [] => by simp [D.pys, D.nrms, PyData.eqvAll]
  | x :: l, y :: m => by
    have h1 := eqv_nrm x y
    have h2 := eqvs_nrm l m
    simp only [D.pys, D.nrms, PyData.eqvAll, Bool.and_eq_true, List.cons.injEq]
    exact ⟨fun ⟨a, b⟩ => ⟨h1.mp a, h2.mp b⟩, fun ⟨a, b⟩ => ⟨h1.mpr a, h2.mpr b⟩⟩
end
/-- two things of a kind that data tells apart -/
structure Plain {A : Type} (e : A → D) (P : A → Prop) (n : Nat) : Prop where
  ok : ∀ a, P a → (e a).ok = true
  dep : ∀ a, P a → (e a).dep ≤ n
  inj : ∀ a b, P a → P b → (e a).nrm = (e b).nrm → a = b
  still : ∀ a μ, P a → res μ (e a) = e a
theorem Plain.eqv {A : Type} [DecidableEq A] {e : A → D} {P : A → Prop} {n : Nat} (p : Plain e P n) {a b : A} (ha : P a) (hb : P b) : (e a).eqv (e b) = decide (a = b) := by
  by_cases h : a = b
  · subst h
    rw [decide_eq_true rfl]
    exact (eqv_nrm _ _).mpr rfl
  · rw [decide_eq_false h]
    cases q : (e a).eqv (e b) with
    | false => rfl
    | true => exact absurd (p.inj a b ha hb ((eqv_nrm _ _).mp q)) h
theorem eqD_gen {x y : D} {μ : Mem} {q : Bool → Prop} (h : (res μ x).ok = true ∧ (res μ y).ok = true ∧ (res μ x).dep ≤ 64 ∧ (res μ y).dep ≤ 64 ∧ q ((res μ x).eqv (res μ y))) : eqD x y μ q := by
  cases x with
  | int i =>
    cases y with
    | int j =>
      have h := h.2.2.2.2
      have e : (res μ (.int i)).eqv (res μ (.int j)) = decide (i = j) := by
        rw [Bool.eq_iff_iff, eqv_nrm]
        simp [res, D.nrm]
      rw [e] at h
      exact h
    | _ => exact h
  | str i =>
    cases y with
    | str j =>
      have h := h.2.2.2.2
      have e : (res μ (.str i)).eqv (res μ (.str j)) = decide (i = j) := by
        rw [Bool.eq_iff_iff, eqv_nrm]
        simp [res, D.nrm]
      rw [e] at h
      exact h
    | _ => exact h
  | _ => exact h
/-- == of two things of one kind -/
theorem Plain.eq {A : Type} [DecidableEq A] {e : A → D} {P : A → Prop} {n : Nat} (p : Plain e P n) (hn : n ≤ 64) {a b : A} {μ : Mem} {q : Bool → Prop} (ha : P a) (hb : P b) (h : q (decide (a = b))) : cmpD .eq (e a) (e b) μ q := by
  refine eqD_gen ?_
  rw [p.still a μ ha, p.still b μ hb]
  exact ⟨p.ok a ha, p.ok b hb, Nat.le_trans (p.dep a ha) hn, Nat.le_trans (p.dep b hb) hn, by rw [p.eqv ha hb]; exact h⟩
theorem Plain.ne {A : Type} [DecidableEq A] {e : A → D} {P : A → Prop} {n : Nat} (p : Plain e P n) (hn : n ≤ 64) {a b : A} {μ : Mem} {q : Bool → Prop} (ha : P a) (hb : P b) (h : q (!decide (a = b))) : cmpD .ne (e a) (e b) μ q :=
  Plain.eq (q := fun b => q (!b)) p hn ha hb h
theorem Plain.map {A : Type} {e : A → D} {P : A → Prop} {n : Nat} (p : Plain e P n) (l : List A) (h : ∀ a ∈ l, P a) : D.oks (l.map e) = true ∧ D.deps (l.map e) ≤ n := by
  induction l with
  | nil => exact ⟨rfl, Nat.zero_le _⟩
  | cons a l ih =>
    obtain ⟨h1, h2⟩ := ih fun b hb => h b (List.mem_cons_of_mem _ hb)
    have ha := h a List.mem_cons_self
    refine ⟨?_, ?_⟩
    · show ((e a).ok && D.oks (l.map e)) = true
      rw [p.ok a ha, h1]
      rfl
    · show max (e a).dep (D.deps (l.map e)) ≤ n
      have := p.dep a ha
      omega
theorem Plain.mapInj {A : Type} {e : A → D} {P : A → Prop} {n : Nat} (p : Plain e P n) : ∀ (l m : List A), (∀ a ∈ l, P a) → (∀ a ∈ m, P a) → D.nrms (l.map e) = D.nrms (m.map e) → l = m
  | [], [], _, _, _ => rfl
  | [], b :: m, _, _, h => by simp [D.nrms] at h
  | a :: l, [], _, _, h => by simp [D.nrms] at h
  | a :: l, b :: m, h1, h2, h => by
    simp only [List.map_cons, D.nrms, List.cons.injEq] at h
    rw [p.inj a b (h1 a List.mem_cons_self) (h2 b List.mem_cons_self) h.1, Plain.mapInj p l m (fun c hc => h1 c (List.mem_cons_of_mem _ hc)) (fun c hc => h2 c (List.mem_cons_of_mem _ hc)) h.2]
/-- a tuple, a list of such -/
theorem Plain.tup {A : Type} {e : A → D} {P : A → Prop} {n : Nat} (p : Plain e P n) : Plain (fun l : List A => D.tup (l.map e)) (fun l => ∀ a ∈ l, P a) (n + 1) where
  ok := fun l h => (p.map l h).1
  dep := fun l h => Nat.succ_le_succ (p.map l h).2
  inj := fun l m h1 h2 h => by
    simp only [D.nrm, D.tup.injEq] at h
    exact p.mapInj l m h1 h2 h
  still := fun l μ h => rfl
theorem Plain.lst {A : Type} {e : A → D} {P : A → Prop} {n : Nat} (p : Plain e P n) : Plain (fun l : List A => D.lst (l.map e)) (fun l => ∀ a ∈ l, P a) (n + 1) where
  ok := fun l h => (p.map l h).1
  dep := fun l h => Nat.succ_le_succ (p.map l h).2
  inj := fun l m h1 h2 h => by
    simp only [D.nrm, D.lst.injEq] at h
    exact p.mapInj l m h1 h2 h
  still := fun l μ h => rfl
theorem plainInt : Plain D.int (fun _ => True) 0 where
  ok := fun _ _ => rfl
  dep := fun _ _ => Nat.le_refl _
  inj := fun a b _ _ h => by simpa [D.nrm] using h
  still := fun _ _ _ => rfl
theorem plainBl : Plain D.bl (fun _ => True) 0 where
  ok := fun _ _ => rfl
  dep := fun _ _ => Nat.le_refl _
  inj := fun a b _ _ h => by
    simp only [D.nrm, D.int.injEq] at h
    cases a <;> cases b <;> first | rfl | (simp at h; done)
  still := fun _ _ _ => rfl
def StrOk (s : Str) : Prop := (D.str s).ok = true
/-- .. by a map into another kind -/
theorem Plain.of {A B : Type} {e : A → D} {P : A → Prop} {n : Nat} (p : Plain e P n) (f : B → A) (hf : ∀ a b, f a = f b → a = b) {Q : B → Prop} (hq : ∀ b, Q b → P (f b)) : Plain (fun b => e (f b)) Q n where
  ok := fun b h => p.ok _ (hq b h)
  dep := fun b h => p.dep _ (hq b h)
  inj := fun a b ha hb h => hf a b (p.inj _ _ (hq a ha) (hq b hb) h)
  still := fun b μ h => p.still _ μ (hq b h)
theorem Plain.pair {A B : Type} {e : A → D} {P : A → Prop} {n : Nat} {f : B → D} {Q : B → Prop} {m : Nat} (p : Plain e P n) (q : Plain f Q m) : Plain (fun x : A × B => D.tup [e x.1, f x.2]) (fun x => P x.1 ∧ Q x.2) (max n m + 1) where
  ok := fun x h => by
    show ((e x.1).ok && ((f x.2).ok && true)) = true
    rw [p.ok _ h.1, q.ok _ h.2]; rfl
  dep := fun x h => by
    show max (e x.1).dep (max (f x.2).dep 0) + 1 ≤ _
    have := p.dep _ h.1
    have := q.dep _ h.2
    omega
  inj := fun x y hx hy h => by
    simp only [D.nrm, D.nrms, D.tup.injEq, List.cons.injEq, and_true] at h
    exact Prod.ext (p.inj _ _ hx.1 hy.1 h.1) (q.inj _ _ hx.2 hy.2 h.2)
  still := fun x μ h => rfl
/-- is a list empty? -/
theorem ne_nil {l : List D} {μ : Mem} {q : Bool → Prop} (ok : D.oks l = true) (dep : D.deps l < 64) (h : q (!l.isEmpty)) : cmpD .ne (.lst l) (.lst []) μ q := by
  refine eqD_gen (x := .lst l) (y := .lst []) (q := fun b => q (!b)) ⟨ok, rfl, dep, by show (0 : Nat) + 1 ≤ 64; decide, ?_⟩
  have e : (D.lst l).eqv (.lst []) = l.isEmpty := by
    rw [Bool.eq_iff_iff, eqv_nrm]
    cases l <;> simp [D.nrm, D.nrms]
  show q (!(D.lst l).eqv (.lst []))
  rw [e]
  exact h
theorem eq_nilT {l : List D} {μ : Mem} {q : Bool → Prop} (ok : D.oks l = true) (dep : D.deps l < 64) (h : q (l.isEmpty)) : cmpD .eq (.tup l) (.tup []) μ q := by
  refine eqD_gen (x := .tup l) (y := .tup []) ⟨ok, rfl, dep, by show (0 : Nat) + 1 ≤ 64; decide, ?_⟩
  have e : (D.tup l).eqv (.tup []) = l.isEmpty := by
    rw [Bool.eq_iff_iff, eqv_nrm]
    cases l <;> simp [D.nrm, D.nrms]
  show q ((D.tup l).eqv (.tup []))
  rw [e]
  exact h
theorem ne_nilR {l : List D} {a : Addr} {μ : Mem} {q : Bool → Prop} (ok : D.oks l = true) (dep : D.deps l < 64) (h : q (!l.isEmpty)) : cmpD .ne (.ref a) (.lst []) (mset μ a (.lst l)) q := by
  have e0 : res (mset μ a (.lst l)) (.ref a) = .lst l := by unfold res; simp only [mset_same]
  refine eqD_gen (x := .ref a) (y := .lst []) (q := fun b => q (!b)) ?_
  rw [e0]
  refine ⟨ok, rfl, dep, by show (0 : Nat) + 1 ≤ 64; decide, ?_⟩
  have e : (D.lst l).eqv (.lst []) = l.isEmpty := by
    rw [Bool.eq_iff_iff, eqv_nrm]
    cases l <;> simp [D.nrm, D.nrms]
  show q (!(D.lst l).eqv (.lst []))
  rw [e]
  exact h
theorem e_wn : decide ((⟨#[119]⟩ : Str) = ⟨#[110]⟩) = false := by decide +kernel
theorem ixN_0 {n : Nat} : ixN (n + 1) 0 = some 0 := by
  unfold ixN
  rw [if_pos (by decide), if_pos (by omega)]
  rfl
theorem ixN_1 {n : Nat} : ixN (n + 1 + 1) 1 = some 1 := by
  unfold ixN
  rw [if_pos (by decide), if_pos (by omega)]
  rfl
theorem sh_new {μ : Mem} {a : Addr} {p q : Int} {r : List D} {k : Mem → Prop} : shutD (.ref a) (mset μ a (.lst (.int p :: .int q :: r))) k = ((0 ≤ p ∧ 0 ≤ q ∧ q < 2147483648) ∧ k (mset μ a (.pot r))) := by
  show (optD (seqL (mset μ a (.lst (.int p :: .int q :: r))) (.ref a)) _) = _
  rw [sl_ref]
  simp only [optD_some, mset_mset]
theorem at2 {A : Type} {a b : A} {v : Int} {P : A → Prop} (h0 : 0 ≤ v) (h1 : v ≤ 1) (ha : v = 0 → P a) (hb : v = 1 → P b) : optD (atI [a, b] v) P := by
  have e : v = 0 ∨ v = 1 := by omega
  rcases e with e | e <;> subst e
  · rw [a_0]; exact ha rfl
  · rw [a_1]; exact hb rfl
/-- any item of a list, by a place in it -/
theorem at_any {A : Type} {l : List A} {v : Int} {P : A → Prop} (h0 : 0 ≤ v) (h1 : v < l.length) (h : ∀ a ∈ l, P a) : optD (atI l v) P := by
  rw [a_nat h0, List.getElem?_eq_getElem (by omega)]
  exact h _ (List.getElem_mem _)
/-! ### words -/
def IsWord (s : Str) : Prop := 1 ≤ s.length ∧ s.length ≤ 8 ∧ ∀ c ∈ s.cps.toList, 97 ≤ c ∧ c ≤ 122
theorem word_ok {s : Str} (h : IsWord s) : StrOk s := by
  show s.cps.all (· < 0x110000) = true
  rw [← Array.all_toList, List.all_eq_true]
  intro c hc
  have := (h.2.2 c hc).2
  simp
  omega
/-! ### lists that change, at their ends -/
theorem last_in {A : Type} {l : List A} {x : A} : (l ++ [x]).getLast? = some x := List.getLast?_concat
theorem ixN_m1 {n : Nat} : ixN (n + 1) (-1) = some n := by
  unfold ixN
  rw [if_neg (by decide), if_pos (by omega)]
  congr 1
  omega
theorem ixN_last {l : List D} {x : D} : ixN (l ++ [x]).length (-1) = some l.length := by
  rw [List.length_append]
  exact ixN_m1
theorem set_len {l : List D} {x e : D} : (l ++ [x]).set l.length e = l ++ [e] := by
  rw [List.set_append_right _ _ (Nat.le_refl _), Nat.sub_self]
  rfl
end DL
/-! The end: a program's defs stand in the written part; its law is called. -/
namespace DL
open PySem PySem.Spec PyProof.Rows L2
/-- a promise that holds from a level on -/
def lvS (k : Nat) (S : FSpec) : Nat → FSpec := fun n ds μ Q X => k ≤ n ∧ S ds μ Q X
theorem specOf_at : ∀ {defs : List DefD} (nd : (defs.map (·.name)).Nodup) {d : DefD} (h : d ∈ defs) (n : Nat), specOf defs n d.name = d.spec n
  | [], _, d, h, n => nomatch h
  | e :: r, nd, d, h, n => by
    rw [List.map_cons] at nd
    obtain ⟨n1, n2⟩ := List.nodup_cons.mp nd
    unfold specOf
    rcases List.mem_cons.mp h with q | q
    · subst q
      rw [if_pos rfl]
    · have ne : ¬ e.name = d.name := fun z => n1 (by rw [z]; exact List.mem_map.mpr ⟨d, q, rfl⟩)
      rw [if_neg ne]
      exact specOf_at n2 q n
theorem fn_raw {defs : List DefD} {cst : Str → Option D} {ex : ExI} (nd : (defs.map (·.name)).Nodup) (i : Nat) {d : DefD} (hi : defs[i]? = some d) (n : Nat) : (gcOf defs cst ex n).fn d.name = d.spec n := specOf_at nd (List.mem_of_getElem? hi) n
theorem fn_at {defs : List DefD} {cst : Str → Option D} {ex : ExI} (nd : (defs.map (·.name)).Nodup) (i : Nat) {d : DefD} (hi : defs[i]? = some d) {k : Nat} {S : FSpec} (hs : d.spec = lvS k S) {n : Nat} (h : k ≤ n) : (gcOf defs cst ex n).fn d.name = S := by
  rw [fn_raw nd i hi n, hs]
  funext ds μ Q X
  exact propext ⟨fun q => q.2, fun q => ⟨h, q⟩⟩
/-- a def as the written part holds it -/
structure KDef (K : PySem.W.Frag) (x : Str) (st : Stmt) : Prop where
  ex : ∃ (f : Addr) (oc : Value) (od an : Option Addr) (sl : Array (Option Value)) (kV dc pm cd ct : Value), PySem.W.nsIn K mainGlobals x = some (some (.ref f)) ∧
    K.lookup f = some ⟨oc, od, .func (PySem.W.fnOf x x (defArgs st) (defBody st) (defScope st) .none kV dc pm an cd ct), sl⟩ ∧ PySem.W.codeIn K cd x = true ∧ PySem.W.keepIn K (.ref f) = true
theorem kd {K : PySem.W.Frag} (x : Str) (st : Stmt) {f : Addr} {oc : Value} {od an : Option Addr} {sl : Array (Option Value)} {kV dc pm cd ct : Value} (a : PySem.W.nsIn K mainGlobals x = some (some (.ref f)))
    (l : K.lookup f = some ⟨oc, od, .func (PySem.W.fnOf x x (defArgs st) (defBody st) (defScope st) .none kV dc pm an cd ct), sl⟩) (c : PySem.W.codeIn K cd x = true) (k : PySem.W.keepIn K (.ref f) = true) : KDef K x st := ⟨f, oc, od, an, sl, kV, dc, pm, cd, ct, a, l, c, k⟩
def noPt (f : Str) : Bool := !f.cps.any (· == 46)
def KDefs (K : PySem.W.Frag) (l : List DefD) : Prop := ∀ d ∈ l, noPt d.name = true → KDef K d.name d.st
theorem kcons {K : PySem.W.Frag} {d : DefD} {l : List DefD} (h : KDef K d.name d.st) (r : KDefs K l) : KDefs K (d :: l) := fun e he hn => by
  rcases List.mem_cons.mp he with q | q
  · rw [q]; exact h
  · exact r e q hn
theorem knil {K : PySem.W.Frag} : KDefs K [] := fun e he => nomatch he
def KNone (K : PySem.W.Frag) (l : List Str) : Prop := ∀ x ∈ l, PySem.W.nsIn K mainGlobals x = some none
theorem zcons {K : PySem.W.Frag} {x : Str} {l : List Str} (h : PySem.W.nsIn K mainGlobals x = some none) (r : KNone K l) : KNone K (x :: l) := fun e he => by
  rcases List.mem_cons.mp he with q | q
  · rw [q]; exact h
  · exact r e q
theorem znil {K : PySem.W.Frag} : KNone K [] := fun e he => nomatch he
/-- how arguments bind -/
def Bd (d : DefD) : Prop := ∀ (kV doc pm : Value) (an : Option Addr) (cdv ct : Value) (us : List Value), us.length = d.ps.length → bindArgs (PySem.W.fnOf d.name d.name (defArgs d.st) (defBody d.st) (defScope d.st) .none kV doc pm an cdv ct) ⟨us, []⟩ = pure (d.ps.zip us)
def Bds (l : List DefD) : Prop := ∀ d ∈ l, Bd d
theorem bcons {d : DefD} {l : List DefD} (h : Bd d) (r : Bds l) : Bds (d :: l) := fun e he => by
  rcases List.mem_cons.mp he with q | q
  · rw [q]; exact h
  · exact r e q
theorem bnil : Bds [] := fun e he => nomatch he
/-- one def keeps its promise -/
def Keep1 (defs : List DefD) (cst : Str → Option D) (ex : ExI) (d : DefD) : Prop := (∀ ds μ Q X, ¬ d.spec 0 ds μ Q X) ∧ ∀ n ds μ Q X, d.spec (n + 1) ds μ Q X → ds.length = d.ps.length ∧ wpSs (gcOf defs cst ex n) d.body (startR d.N ds) μ { nx := fun _ μ' => Q .non μ', rt := Q } X
/-- .. the def that makes lambdas, too -/
def KeepT (defs : List DefD) (cst : Str → Option D) (ex : ExI) (d : DefD) : Prop := (∀ ds μ Q X, ¬ d.spec 0 ds μ Q X) ∧ ∀ n ds μ Q X, d.spec (n + 1) ds μ Q X → ds.length = d.ps.length ∧ wpSs (gcD defs cst ex n d.name) d.body (startR d.N ds) μ { nx := fun _ μ' => Q .non μ', rt := Q } X
def KeepL (defs : List DefD) (cst : Str → Option D) (ex : ExI) (l : List DefD) : Prop := ∀ d ∈ l, KeepT defs cst ex d
theorem keepT_of {defs : List DefD} {cst : Str → Option D} {ex : ExI} {d : DefD} (hl : lamT ex d.name = none) (h : Keep1 defs cst ex d) : KeepT defs cst ex d := ⟨h.1, fun n ds μ Q X s => by
  have e : gcD defs cst ex n d.name = gcOf defs cst ex n := by unfold gcD; rw [hl]; rfl
  rw [e]
  exact h.2 n ds μ Q X s⟩
theorem pconsT {defs : List DefD} {cst : Str → Option D} {ex : ExI} {d : DefD} {l : List DefD} (h : KeepT defs cst ex d) (r : KeepL defs cst ex l) : KeepL defs cst ex (d :: l) := fun e he => by
  rcases List.mem_cons.mp he with q | q
  · rw [q]; exact h
  · exact r e q
theorem pcons {defs : List DefD} {cst : Str → Option D} {ex : ExI} {d : DefD} {l : List DefD} (h : Keep1 defs cst ex d) (r : KeepL defs cst ex l) (hl : lamT ex d.name = none := by first | exact lamT_none rfl | exact lamT_ne rfl (by decide +kernel)) : KeepL defs cst ex (d :: l) := fun e he => by
  rcases List.mem_cons.mp he with q | q
  · rw [q]; exact keepT_of hl h
  · exact r e q
theorem pnil {defs : List DefD} {cst : Str → Option D} {ex : ExI} : KeepL defs cst ex [] := fun e he => nomatch he
theorem keep_lv {defs : List DefD} {cst : Str → Option D} {ex : ExI} {d : DefD} {k : Nat} {S : FSpec} (hs : d.spec = lvS (k + 1) S)
    (h : ∀ n ds μ Q X, k ≤ n → S ds μ Q X → ds.length = d.ps.length ∧ wpSs (gcOf defs cst ex n) d.body (startR d.N ds) μ { nx := fun _ μ' => Q .non μ', rt := Q } X) : Keep1 defs cst ex d := by
  refine ⟨fun ds μ Q X q => ?_, fun n ds μ Q X q => ?_⟩
  · rw [hs] at q
    exact absurd q.1 (by omega)
  · rw [hs] at q
    exact h n ds μ Q X (by have := q.1; omega) q.2
section
variable {P : Program} {w : World} {K : PySem.W.Frag} {mg : Str → Option Value} {defs : List DefD} {cst : Str → Option D} {ex : ExI}
/-- one class of exceptions as the written part holds it -/
structure KCls (K : PySem.W.Frag) (x : Str) (C : Addr) : Prop where
  at_ : PySem.W.nsIn K mainGlobals x = some (some (.ref C))
  bs : PySem.W.subIn K (.ref C) (.type "BaseException") = some true
  ty : PySem.W.typeIn K (.ref C) = some (.type "type")
  cl : PySem.W.isClsIn K C = true
end
end DL
namespace DL
open PySem PySem.Spec PyProof.Rows L2
def b32_cells_of : Ss := (.cons (.ret (.bi true .tuple (.cons (.lc true (.v 2) (.seq (.v 1)) .nil (.ix (.v 0) (.bin true .sub (.v 2) (.int 1)))) .nil))) .nil)
def b32_with_cell : Ss := (.cons (.ret (.bin true .add (.bin true .add (.sl true (.v 0) .no (.one (.bin true .sub (.v 1) (.int 1)))) (.tup (.cons (.v 2) .nil))) (.sl true (.v 0) (.one (.v 1)) .no))) .nil)
def b32_paired : Ss := (.cons (.for_ [2] (.v 2) (.seq (.v 0)) (.cons (.ite (.cm .eq (.ix (.v 2) (.int 0)) (.v 1)) (.cons (.ret (.v 2)) .nil) .nil) .nil)) (.cons (.ret .non) .nil))
def b32_one_row : Ss := (.cons (.set 3 (.ix (.v 0) (.int 0))) (.cons (.ite (.cm .eq (.v 3) (.str ⟨#[107, 101, 101, 112]⟩)) (.cons (.ret (.sl true (.lst true (.cons (.v 1) .nil)) .no (.one (.bi true .int (.cons (.call "has" (.cons (.ix (.v 0) (.int 2)) (.cons (.ix (.v 1) (.bin true .sub (.ix (.v 0) (.int 1)) (.int 1))) .nil))) .nil))))) .nil) .nil) (.cons (.ite (.cm .eq (.v 3) (.str ⟨#[115, 97, 109, 101]⟩)) (.cons (.ret (.sl true (.lst true (.cons (.v 1) .nil)) .no (.one (.bi true .int (.cons (.cmp .eq (.ix (.v 1) (.bin true .sub (.ix (.v 0) (.int 1)) (.int 1))) (.ix (.v 1) (.bin true .sub (.ix (.v 0) (.int 2)) (.int 1)))) .nil))))) .nil) .nil) (.cons (.ite (.cm .eq (.v 3) (.str ⟨#[99, 117, 116]⟩)) (.cons (.ret (.lst true (.cons (.call "cells_of" (.cons (.v 1) (.cons (.ix (.v 0) (.int 1)) .nil))) .nil))) .nil) .nil) (.cons (.set 4 (.call "paired" (.cons (.ix (.v 0) (.int 2)) (.cons (.ix (.v 1) (.bin true .sub (.ix (.v 0) (.int 1)) (.int 1))) .nil)))) (.cons (.ite (.and (.cm .is (.v 4) .non) (.cm .eq (.v 3) (.str ⟨#[109, 117, 115, 116]⟩))) (.cons (.raiseI "Falls" (.cons (.v 2) (.cons (.v 1) .nil))) .nil) .nil) (.cons (.ite (.cm .is (.v 4) .non) (.cons (.ret (.lst true (.cons (.v 1) .nil))) .nil) .nil) (.cons (.ret (.lst true (.cons (.call "with_cell" (.cons (.v 1) (.cons (.ix (.v 0) (.int 1)) (.cons (.ix (.v 4) (.int 1)) .nil)))) .nil))) .nil))))))))
def b32_next_state : Ss := (.cons (.set 3 .non) (.cons (.for_ [4, 5, 6] (.tup (.cons (.v 4) (.cons (.v 5) (.cons (.v 6) .nil)))) (.seq (.v 0)) (.cons (.ite (.and (.cm .eq (.v 4) (.v 1)) (.cm .eq (.v 5) (.v 2))) (.cons (.ret (.v 6)) .nil) .nil) (.cons (.ite (.and (.cm .eq (.v 4) (.v 1)) (.cm .is (.v 5) .non)) (.cons (.set 3 (.v 6)) .nil) .nil) .nil))) (.cons (.ret (.v 3)) .nil)))
def b32_walked : Ss := (.cons (.set 4 (.ix (.v 1) (.int 0))) (.cons (.set 5 (.lst false .nil)) (.cons (.for_ [6] (.v 6) (.seq (.v 2)) (.cons (.set 4 (.call "next_state" (.cons (.ix (.v 0) (.int 3)) (.cons (.v 4) (.cons (.ix (.v 6) (.bin true .sub (.ix (.v 0) (.int 1)) (.int 1))) .nil))))) (.cons (.ite (.cm .is (.v 4) .non) (.cons (.raiseI "Falls" (.cons (.v 3) (.cons (.v 6) .nil))) .nil) .nil) (.cons (.app (.v 5) (.bin true .add (.v 6) (.tup (.cons (.v 4) .nil)))) .nil)))) (.cons (.ret (.tup (.cons (.tup (.cons (.v 4) .nil)) (.cons (.fz (.v 5)) .nil)))) .nil))))
def b32_sorted_rows : Ss := (.cons (.set 2 (.bi true .list (.cons (.v 0) .nil))) (.cons (.for_ [3, 4] (.tup (.cons (.v 3) (.cons (.v 4) .nil))) (.rev (.v 1)) (.cons (.ite (.val (.v 4)) (.cons (.set 2 (.skey true true (.v 2) 3)) .nil) (.cons (.set 2 (.skey true false (.v 2) 3)) .nil)) .nil)) (.cons (.ret (.v 2)) .nil)))
def b32_apart_fed : Ss := (.cons (.set 2 (.lst false .nil)) (.cons (.for_ [3] (.v 3) (.seq (.v 1)) (.cons (.ite (.cm .ne (.v 0) (.tup (.cons (.v 3) .nil))) (.cons (.app (.v 2) (.v 3)) .nil) .nil) (.cons (.set 0 (.tup (.cons (.v 3) .nil))) .nil))) (.cons (.ret (.tup (.cons (.v 0) (.cons (.fz (.v 2)) .nil)))) .nil)))
def b32_stretch_row : Ss := (.cons (.ret (.lc true (.tup (.cons (.v 1) (.cons (.v 2) .nil))) (.seq (.sl true (.lst true (.cons (.v 0) .nil)) .no (.one (.bi true .len (.cons (.v 0) .nil))))) .nil (.bin true .add (.v 1) (.tup (.cons (.v 2) .nil))))) .nil)
def b32_stretches_fed : Ss := (.cons (.set 3 (.lst false .nil)) (.cons (.for_ [4, 5, 6] (.v 4) (.seq (.v 2)) (.cons (.set 5 (.call "cells_of" (.cons (.v 4) (.cons (.ix (.v 0) (.int 1)) .nil)))) (.cons (.set 6 (.int 1)) (.cons (.ite (.cm .eq (.ix (.v 0) (.int 0)) (.str ⟨#[115, 117, 109]⟩)) (.cons (.set 6 (.ix (.v 4) (.bin true .sub (.ix (.v 0) (.int 2)) (.int 1)))) .nil) .nil) (.cons (.ite (.and (.cm .ne (.v 1) (.tup .nil)) (.cm .eq (.ix (.v 1) (.int 0)) (.v 5))) (.cons (.set 1 (.tup (.cons (.v 5) (.cons (.bin true .add (.ix (.v 1) (.int 1)) (.v 6)) .nil)))) .nil) (.cons (.ext (.v 3) (.call "stretch_row" (.cons (.v 1) .nil))) (.cons (.set 1 (.tup (.cons (.v 5) (.cons (.v 6) .nil)))) .nil))) .nil))))) (.cons (.ret (.tup (.cons (.v 1) (.cons (.fz (.v 3)) .nil)))) .nil)))
def b32_numbered : Ss := (.cons (.set 2 (.lc true (.tup (.cons (.v 3) (.cons (.v 4) .nil))) (.enum (.v 1)) .nil (.bin true .add (.v 4) (.tup (.cons (.bin true .add (.ix (.v 0) (.int 0)) (.v 3)) .nil))))) (.cons (.ret (.tup (.cons (.tup (.cons (.bin true .add (.ix (.v 0) (.int 0)) (.bi true .len (.cons (.v 1) .nil))) .nil)) (.cons (.v 2) .nil)))) .nil))
def b32_first_state : Ss := (.cons (.set 1 (.ix (.v 0) (.int 0))) (.cons (.ite (.cm .eq (.v 1) (.str ⟨#[119, 97, 108, 107]⟩)) (.cons (.ret (.tup (.cons (.ix (.v 0) (.int 2)) .nil))) .nil) .nil) (.cons (.ite (.cm .eq (.v 1) (.str ⟨#[115, 111, 114, 116]⟩)) (.cons (.ret (.tup (.cons (.tup .nil) .nil))) .nil) .nil) (.cons (.ite (.cm .eq (.v 1) (.str ⟨#[110, 117, 109, 98, 101, 114]⟩)) (.cons (.ret (.tup (.cons (.int 1) .nil))) .nil) .nil) (.cons (.ite (.cm .eq (.v 1) (.str ⟨#[102, 105, 114, 115, 116]⟩)) (.cons (.ret (.tup (.cons (.ix (.v 0) (.int 1)) .nil))) .nil) .nil) (.cons (.ret (.tup .nil)) .nil))))))
def b32_machine_fed : Ss := (.cons (.set 4 (.ix (.v 0) (.int 0))) (.cons (.ite (.cm .eq (.v 4) (.str ⟨#[119, 97, 108, 107]⟩)) (.cons (.ret (.drop [5] (.call "walked" (.cons (.v 0) (.cons (.v 1) (.cons (.v 2) (.cons (.v 3) .nil))))))) .nil) .nil) (.cons (.ite (.cm .eq (.v 4) (.str ⟨#[115, 111, 114, 116]⟩)) (.cons (.ret (.drop [5] (.tup (.cons (.tup (.cons (.bin true .add (.ix (.v 1) (.int 0)) (.bi true .tuple (.cons (.v 2) .nil))) .nil)) (.cons (.lst true .nil) .nil))))) .nil) .nil) (.cons (.ite (.cm .eq (.v 4) (.str ⟨#[97, 112, 97, 114, 116]⟩)) (.cons (.ret (.drop [5] (.call "apart_fed" (.cons (.v 1) (.cons (.v 2) .nil))))) .nil) .nil) (.cons (.ite (.or (.cm .eq (.v 4) (.str ⟨#[99, 111, 117, 110, 116]⟩)) (.cm .eq (.v 4) (.str ⟨#[115, 117, 109]⟩))) (.cons (.ret (.drop [5] (.call "stretches_fed" (.cons (.v 0) (.cons (.v 1) (.cons (.v 2) .nil)))))) .nil) .nil) (.cons (.ite (.cm .eq (.v 4) (.str ⟨#[110, 117, 109, 98, 101, 114]⟩)) (.cons (.ret (.drop [5] (.call "numbered" (.cons (.v 1) (.cons (.v 2) .nil))))) .nil) .nil) (.cons (.ite (.cm .eq (.v 4) (.str ⟨#[102, 105, 114, 115, 116]⟩)) (.cons (.set 5 (.sl false (.v 2) .no (.one (.ix (.v 1) (.int 0))))) (.cons (.ret (.tup (.cons (.tup (.cons (.bin true .sub (.ix (.v 1) (.int 0)) (.bi true .len (.cons (.v 5) .nil))) .nil)) (.cons (.fz (.v 5)) .nil)))) .nil)) .nil) (.cons (.set 5 (.lst false .nil)) (.cons (.for_ [6] (.v 6) (.seq (.v 2)) (.cons (.ext (.v 5) (.call "one_row" (.cons (.v 0) (.cons (.v 6) (.cons (.v 3) .nil))))) .nil)) (.cons (.ret (.tup (.cons (.tup .nil) (.cons (.fz (.v 5)) .nil)))) .nil))))))))))
def b32_machine_rest : Ss := (.cons (.ite (.cm .eq (.ix (.v 0) (.int 0)) (.str ⟨#[115, 111, 114, 116]⟩)) (.cons (.ret (.call "sorted_rows" (.cons (.ix (.v 1) (.int 0)) (.cons (.ix (.v 0) (.int 1)) .nil)))) .nil) .nil) (.cons (.ite (.or (.cm .eq (.ix (.v 0) (.int 0)) (.str ⟨#[99, 111, 117, 110, 116]⟩)) (.cm .eq (.ix (.v 0) (.int 0)) (.str ⟨#[115, 117, 109]⟩))) (.cons (.ret (.call "stretch_row" (.cons (.v 1) .nil))) .nil) .nil) (.cons (.ret (.lst true .nil)) .nil)))
def b32_met : Ss := (.cons (.set 3 (.lst false .nil)) (.cons (.for_ [4, 5] (.v 4) (.seq (.v 1)) (.cons (.for_ [5] (.v 5) (.seq (.v 2)) (.cons (.ite (.cm .eq (.ix (.v 4) (.bin true .sub (.ix (.v 0) (.int 1)) (.int 1))) (.ix (.v 5) (.bin true .sub (.ix (.v 0) (.int 2)) (.int 1)))) (.cons (.app (.v 3) (.bin true .add (.bin true .add (.v 4) (.sl true (.v 5) .no (.one (.bin true .sub (.ix (.v 0) (.int 2)) (.int 1))))) (.sl true (.v 5) (.one (.ix (.v 0) (.int 2))) .no))) .nil) .nil) .nil)) .nil)) (.cons (.ret (.fz (.v 3))) .nil)))
def b32_told_by : Ss := (.cons (.ite (.cm .notin (.ix (.v 0) (.int 0)) (.g "BRANCHED")) (.cons (.asg (.tup (.cons (.v 5) (.cons (.v 6) .nil))) (.call "machine_fed" (.cons (.v 0) (.cons (.call "first_state" (.cons (.v 0) .nil)) (.cons (.v 1) (.cons (.v 2) .nil)))))) (.cons (.ret (.bin true .add (.v 6) (.call "machine_rest" (.cons (.v 0) (.cons (.v 5) .nil))))) .nil)) .nil) (.cons (.set 3 (.call "told_behind" (.cons (.ix (.v 0) (.neg (.int 2))) (.cons (.v 1) (.cons (.pl (.v 2) (.tpd (.cons (.int 0) .nil))) .nil))))) (.cons (.set 4 (.call "told_behind" (.cons (.ix (.v 0) (.neg (.int 1))) (.cons (.v 1) (.cons (.pl (.v 2) (.tpd (.cons (.int 1) .nil))) .nil))))) (.cons (.ite (.cm .eq (.ix (.v 0) (.int 0)) (.str ⟨#[98, 111, 116, 104]⟩)) (.cons (.ret (.bin true .add (.v 3) (.v 4))) .nil) .nil) (.cons (.ret (.call "met" (.cons (.v 0) (.cons (.v 3) (.cons (.v 4) .nil))))) .nil)))))
def b32_told_behind : Ss := (.cons (.for_ [3, 4] (.tup (.cons (.v 3) (.cons (.v 4) .nil))) (.enum (.v 0)) (.cons (.set 1 (.call "told_by" (.cons (.v 4) (.cons (.v 1) (.cons (.bin true .add (.v 2) (.tup (.cons (.v 3) .nil))) .nil))))) .nil)) (.cons (.ret (.v 1)) .nil))
def b32_told : Ss := (.cons (.ret (.call "told_behind" (.cons (.v 0) (.cons (.bi true .list (.cons (.v 1) .nil)) (.cons (.tup .nil) .nil))))) .nil)
def b32_l_pot : Ss := (.cons (.set 2 (.call "_law_cell_at" (.cons (.v 0) (.cons (.v 1) .nil)))) (.cons (.ret (.pt (.lst false (.cons (.bi true .max (.cons (.int 0) (.cons (.bin true .sub (.v 2) (.bin true .pow (.int 10) (.int 18))) .nil))) (.cons (.bin true .add (.bin true .mod (.bin true .add (.bin true .add (.bi true .abs (.cons (.v 2) .nil)) (.bin true .mul (.int 7919) (.v 1))) (.int 3)) (.int 2147483629)) (.int 1)) (.cons (.int 20) .nil)))))) .nil))
def b32_l_cell : Ss := (.cons (.set 2 (.call "_law_draw" (.cons (.v 0) (.cons (.int 9) .nil)))) (.cons (.ite (.cm .eq (.v 1) (.str ⟨#[119]⟩)) (.cons (.set 3 (.str ⟨#[97, 98, 99, 100, 101, 102, 103, 104, 105, 106, 107, 108, 109, 110, 111, 112, 113, 114, 115, 116, 117, 118, 119, 120, 121, 122]⟩)) (.cons (.ite (.cm .lt (.v 2) (.int 8)) (.cons (.ret (.ix (.lst true (.cons (.str ⟨#[97]⟩) (.cons (.str ⟨#[98]⟩) (.cons (.str ⟨#[97, 98]⟩) (.cons (.str ⟨#[99]⟩) .nil))))) (.bin true .mod (.v 2) (.int 4)))) .nil) .nil) (.cons (.ret (.mt true .join (.str ⟨#[]⟩) (.lc true (.v 4) (.range1 (.bin true .add (.int 1) (.call "_law_draw" (.cons (.v 0) (.cons (.int 8) .nil))))) .nil (.ix (.v 3) (.call "_law_draw" (.cons (.v 0) (.cons (.int 26) .nil))))))) .nil))) .nil) (.cons (.ite (.cm .lt (.v 2) (.int 8)) (.cons (.ret (.bin true .sub (.bin true .mod (.v 2) (.int 5)) (.int 1))) .nil) .nil) (.cons (.ret (.bin true .add (.bin true .sub (.call "_law_draw" (.cons (.v 0) (.cons (.bin true .sub (.bin true .mul (.int 2) (.bin true .pow (.int 10) (.int 60))) (.int 1)) .nil))) (.bin true .pow (.int 10) (.int 60))) (.int 1))) .nil))))
def b32_l_head : Ss := (.cons (.ret (.lc true (.v 1) (.range1 (.bin true .add (.int 1) (.call "_law_draw" (.cons (.v 0) (.cons (.int 6) .nil))))) .nil (.ix (.lst true (.cons (.str ⟨#[110]⟩) (.cons (.str ⟨#[119]⟩) .nil))) (.call "_law_draw" (.cons (.v 0) (.cons (.int 2) .nil)))))) .nil)
def b32_l_rows : Ss := (.cons (.set 3 (.lst false .nil)) (.cons (.for_ [4, 5] (.v 4) (.range1 (.call "_law_draw" (.cons (.v 0) (.cons (.bin true .add (.v 2) (.int 1)) .nil)))) (.cons (.ite (.and (.cm .ne (.v 3) (.lst true .nil)) (.cm .eq (.call "_law_draw" (.cons (.v 0) (.cons (.int 3) .nil))) (.int 0))) (.cons (.app (.v 3) (.ix (.v 3) (.call "_law_draw" (.cons (.v 0) (.cons (.bi true .len (.cons (.v 3) .nil)) .nil))))) .nil) (.cons (.app (.v 3) (.bi true .tuple (.cons (.lc true (.v 5) (.seq (.v 1)) .nil (.call "_law_cell" (.cons (.v 0) (.cons (.v 5) .nil)))) .nil))) .nil)) .nil)) (.cons (.ret (.fz (.v 3))) .nil)))
def b32_l_columns : Ss := (.cons (.ret (.bi true .tuple (.cons (.lc true (.v 4) (.range1 (.bin true .add (.v 2) (.call "_law_draw" (.cons (.v 0) (.cons (.bin true .add (.bin true .sub (.v 3) (.v 2)) (.int 1)) .nil))))) .nil (.bin true .add (.int 1) (.call "_law_draw" (.cons (.v 0) (.cons (.v 1) .nil))))) .nil))) .nil)
def b32_l_is_before : Ss := (.cons (.for_ [3, 4] (.tup (.cons (.v 3) (.cons (.v 4) .nil))) (.seq (.v 2)) (.cons (.ite (.cm .ne (.ix (.v 0) (.bin true .sub (.v 3) (.int 1))) (.ix (.v 1) (.bin true .sub (.v 3) (.int 1)))) (.cons (.ret (.cmp .ne (.cmp .lt (.ix (.v 0) (.bin true .sub (.v 3) (.int 1))) (.ix (.v 1) (.bin true .sub (.v 3) (.int 1)))) (.v 4))) .nil) .nil) .nil)) (.cons (.ret (.bl false)) .nil))
def b32_l_sorted : Ss := (.cons (.set 2 (.lst false .nil)) (.cons (.for_ [3, 4] (.v 3) (.seq (.v 0)) (.cons (.set 4 (.bi true .len (.cons (.v 2) .nil))) (.cons (.while_ [] (.and (.cm .gt (.v 4) (.int 0)) (.val (.call "_law_is_before" (.cons (.v 3) (.cons (.ix (.v 2) (.bin true .sub (.v 4) (.int 1))) (.cons (.v 1) .nil)))))) (.cons (.set 4 (.bin true .sub (.v 4) (.int 1))) .nil)) (.cons (.ins (.v 2) (.v 4) (.v 3)) .nil)))) (.cons (.ret (.fz (.v 2))) .nil)))
def b32_l_folded : Ss := (.cons (.set 2 (.lst false .nil)) (.cons (.for_ [3, 4, 6] (.v 3) (.seq (.v 1)) (.cons (.set 4 (.bi true .tuple (.cons (.lc true (.v 6) (.seq (.ix (.v 0) (.int 1))) .nil (.ix (.v 3) (.bin true .sub (.v 6) (.int 1)))) .nil))) (.cons (.ite (.or (.cm .eqn (.v 2) (.lst true .nil)) (.cm .ne (.ix (.ix (.v 2) (.neg (.int 1))) (.int 0)) (.v 4))) (.cons (.app (.v 2) (.tup (.cons (.v 4) (.cons (.lst false .nil) .nil)))) .nil) .nil) (.cons (.app (.ix (.ix (.v 2) (.neg (.int 1))) (.int 1)) (.v 3)) .nil)))) (.cons (.ite (.cm .eq (.ix (.v 0) (.int 0)) (.str ⟨#[99, 111, 117, 110, 116]⟩)) (.cons (.ret (.drop [2] (.lc true (.tup (.cons (.v 4) (.cons (.v 5) .nil))) (.seq (.v 2)) .nil (.bin true .add (.v 4) (.tup (.cons (.bi true .len (.cons (.v 5) .nil)) .nil)))))) .nil) .nil) (.cons (.ret (.drop [2] (.lc true (.tup (.cons (.v 4) (.cons (.v 5) .nil))) (.seq (.v 2)) .nil (.bin true .add (.v 4) (.tup (.cons (.bi true .sum (.cons (.lc true (.v 3) (.seq (.v 5)) .nil (.ix (.v 3) (.bin true .sub (.ix (.v 0) (.int 2)) (.int 1)))) .nil)) .nil)))))) .nil))))
def b32_l_worker : Ss := (.cons (.set 2 (.call "_law_draw" (.cons (.v 0) (.cons (.int 8) .nil)))) (.cons (.set 3 (.bi true .len (.cons (.v 1) .nil))) (.cons (.set 4 (.lc true (.v 7) (.range1 (.v 3)) (.one (.cm .ne (.ix (.v 1) (.v 7)) (.str ⟨#[119]⟩))) (.bin true .add (.v 7) (.int 1)))) (.cons (.ite (.cm .lt (.v 2) (.int 2)) (.cons (.ret (.tup (.cons (.tup (.cons (.str ⟨#[115, 111, 114, 116]⟩) (.cons (.call "_law_order" (.cons (.v 0) (.cons (.v 3) .nil))) .nil))) (.cons (.v 1) .nil)))) .nil) .nil) (.cons (.ite (.cm .eq (.v 2) (.int 2)) (.cons (.set 5 (.call "_law_columns" (.cons (.v 0) (.cons (.v 3) (.cons (.int 0) (.cons (.int 5) .nil)))))) (.cons (.ret (.tup (.cons (.tup (.cons (.str ⟨#[99, 111, 117, 110, 116]⟩) (.cons (.v 5) .nil))) (.cons (.bin true .add (.lc true (.v 8) (.seq (.v 5)) .nil (.ix (.v 1) (.bin true .sub (.v 8) (.int 1)))) (.lst true (.cons (.str ⟨#[116]⟩) .nil))) .nil)))) .nil)) .nil) (.cons (.ite (.and (.cm .eq (.v 2) (.int 3)) (.cm .ne (.v 4) (.lst true .nil))) (.cons (.set 5 (.call "_law_columns" (.cons (.v 0) (.cons (.v 3) (.cons (.int 0) (.cons (.int 5) .nil)))))) (.cons (.set 6 (.tup (.cons (.str ⟨#[115, 117, 109]⟩) (.cons (.v 5) (.cons (.ix (.v 4) (.call "_law_draw" (.cons (.v 0) (.cons (.bi true .len (.cons (.v 4) .nil)) .nil)))) .nil))))) (.cons (.ret (.tup (.cons (.v 6) (.cons (.bin true .add (.lc true (.v 8) (.seq (.v 5)) .nil (.ix (.v 1) (.bin true .sub (.v 8) (.int 1)))) (.lst true (.cons (.str ⟨#[116]⟩) .nil))) .nil)))) .nil))) .nil) (.cons (.ite (.and (.cm .eq (.v 2) (.int 4)) (.cm .lt (.v 3) (.int 6))) (.cons (.ret (.tup (.cons (.tup (.cons (.str ⟨#[110, 117, 109, 98, 101, 114]⟩) .nil)) (.cons (.bin true .add (.v 1) (.lst true (.cons (.str ⟨#[116]⟩) .nil))) .nil)))) .nil) .nil) (.cons (.ite (.cm .eq (.v 2) (.int 5)) (.cons (.ret (.tup (.cons (.tup (.cons (.str ⟨#[102, 105, 114, 115, 116]⟩) (.cons (.ix (.lst true (.cons (.call "_law_draw" (.cons (.v 0) (.cons (.int 4) .nil))) (.cons (.call "_law_draw" (.cons (.v 0) (.cons (.int 61) .nil))) .nil))) (.call "_law_draw" (.cons (.v 0) (.cons (.int 2) .nil)))) .nil))) (.cons (.v 1) .nil)))) .nil) .nil) (.cons (.ite (.cm .eq (.v 2) (.int 6)) (.cons (.set 5 (.call "_law_columns" (.cons (.v 0) (.cons (.v 3) (.cons (.int 1) (.cons (.int 6) .nil)))))) (.cons (.ret (.tup (.cons (.tup (.cons (.str ⟨#[99, 117, 116]⟩) (.cons (.v 5) .nil))) (.cons (.lc true (.v 8) (.seq (.v 5)) .nil (.ix (.v 1) (.bin true .sub (.v 8) (.int 1)))) .nil)))) .nil)) .nil) (.cons (.ret (.tup (.cons (.tup (.cons (.str ⟨#[97, 112, 97, 114, 116]⟩) .nil)) (.cons (.v 1) .nil)))) .nil))))))))))
def b32_l_due : Ss := (.cons (.ite (.cm .eq (.ix (.v 0) (.int 0)) (.str ⟨#[115, 111, 114, 116]⟩)) (.cons (.ret (.call "_law_sorted" (.cons (.v 1) (.cons (.ix (.v 0) (.int 1)) .nil)))) .nil) .nil) (.cons (.ite (.cm .eq (.ix (.v 0) (.int 0)) (.str ⟨#[97, 112, 97, 114, 116]⟩)) (.cons (.ret (.lc true (.tup (.cons (.v 3) (.cons (.v 2) .nil))) (.enum (.v 1)) (.one (.or (.cm .eq (.v 3) (.int 0)) (.cm .ne (.ix (.v 1) (.bin true .sub (.v 3) (.int 1))) (.v 2)))) (.v 2))) .nil) .nil) (.cons (.ite (.cm .inn (.ix (.v 0) (.int 0)) (.lst true (.cons (.str ⟨#[99, 111, 117, 110, 116]⟩) (.cons (.str ⟨#[115, 117, 109]⟩) .nil)))) (.cons (.ret (.rst (.call "_law_folded" (.cons (.v 0) (.cons (.v 1) .nil))))) .nil) .nil) (.cons (.ite (.cm .eq (.ix (.v 0) (.int 0)) (.str ⟨#[110, 117, 109, 98, 101, 114]⟩)) (.cons (.ret (.lc true (.tup (.cons (.v 3) (.cons (.v 2) .nil))) (.enum (.v 1)) .nil (.bin true .add (.v 2) (.tup (.cons (.bin true .add (.v 3) (.int 1)) .nil))))) .nil) .nil) (.cons (.ite (.cm .eq (.ix (.v 0) (.int 0)) (.str ⟨#[102, 105, 114, 115, 116]⟩)) (.cons (.ret (.sl true (.v 1) .no (.one (.ix (.v 0) (.int 1))))) .nil) .nil) (.cons (.ret (.lc true (.v 2) (.seq (.v 1)) .nil (.bi true .tuple (.cons (.lc true (.v 4) (.seq (.ix (.v 0) (.int 1))) .nil (.ix (.v 2) (.bin true .sub (.v 4) (.int 1)))) .nil)))) .nil))))))
def b32_law : Ss := (.cons (.for_ [1, 2, 3, 4, 5, 6, 7, 8, 9, 10, 11] (.v 1) (.range1 (.bin true .add (.int 2) (.bi true .min (.cons (.int 5) (.cons (.bi true .len (.cons (.v 0) .nil)) .nil))))) (.cons (.set 2 (.call "_law_pot" (.cons (.v 0) (.cons (.v 1) .nil)))) (.cons (.set 3 (.call "_law_head" (.cons (.v 2) .nil))) (.cons (.set 4 (.call "_law_rows" (.cons (.v 2) (.cons (.v 3) (.cons (.int 60) .nil))))) (.cons (.par3 7 8 9 (.bi true .list (.cons (.v 4) .nil)) (.tup .nil) (.bi true .list (.cons (.v 4) .nil))) (.cons (.for_ [5, 10] (.v 5) (.range1 (.call "_law_draw" (.cons (.v 2) (.cons (.int 13) .nil)))) (.cons (.asg (.tup (.cons (.v 10) (.cons (.v 3) .nil))) (.call "_law_worker" (.cons (.v 2) (.cons (.v 3) .nil)))) (.cons (.set 8 (.bin true .add (.v 8) (.tup (.cons (.v 10) .nil)))) (.cons (.set 9 (.call "_law_due" (.cons (.v 10) (.cons (.v 9) .nil)))) .nil)))) (.cons (.set 6 (.call "told" (.cons (.v 8) (.cons (.v 7) .nil)))) (.cons (.ite (.or (.cm .ne (.v 6) (.v 9)) (.or (.cm .ne (.v 7) (.v 4)) (.val (.bi true .any (.cons (.lc true (.v 11) (.seq (.v 6)) .nil (.isi (.ix (.v 11) (.neg (.int 1))) .bool)) .nil))))) (.cons (.ret (.bl false)) .nil) .nil) .nil)))))))) (.cons (.ret (.bl true)) .nil))
end DL
/-! Sets of whole numbers by spans: what is in them, when two are one. -/
namespace SM
abbrev OI := Option Int
abbrev Span := OI × OI
def geL : OI → Int → Bool
  | none, _ => true
  | some a, x => decide (a ≤ x)
def leH : OI → Int → Bool
  | none, _ => true
  | some b, x => decide (x ≤ b)
def inS (s : Span) (x : Int) : Bool := geL s.1 x && leH s.2 x
def mem (l : List Span) (x : Int) : Bool := l.any fun s => inS s x
def leL : OI → OI → Prop
  | none, _ => True
  | some _, none => False
  | some b, some a => b ≤ a
def leS : Span → Prop
  | (some a, some c) => a ≤ c
  | _ => True
def up (c : OI) (k : Int) : OI := c.map (· + k)
/-- rising from b on, a number between two -/
def Cn : OI → List Span → Prop
  | _, [] => True
  | b, s :: r => leL b s.1 ∧ leS s ∧ (match s.2 with
    | none => r = []
    | some c => Cn (some (c + 2)) r)
abbrev Can (l : List Span) : Prop := Cn none l
theorem mem_cons (s : Span) (l : List Span) (x : Int) : mem (s :: l) x = (inS s x || mem l x) := rfl
theorem leL_geL {b a : OI} {x : Int} (h : leL b a) (g : geL a x = true) : geL b x = true := by
  cases b <;> cases a <;> simp_all [leL, geL]
  omega
theorem leL_trans {a b c : OI} (h : leL a b) (g : leL b c) : leL a c := by
  cases a <;> cases b <;> cases c <;> simp_all [leL]
  omega
theorem leL_refl (a : OI) : leL a a := by cases a <;> simp [leL]
theorem Cn.mono {a b : OI} {l : List Span} (h : leL a b) (c : Cn b l) : Cn a l := by
  cases l with
  | nil => trivial
  | cons s r => exact ⟨leL_trans h c.1, c.2⟩
/-- what is in lies from b on -/
theorem Cn.ge : ∀ {l : List Span} {b : OI} {x : Int}, Cn b l → mem l x = true → geL b x = true
  | [], b, x, _, h => nomatch h
  | (lo, hi) :: r, b, x, c, h => by
    rw [mem_cons, Bool.or_eq_true] at h
    obtain ⟨c1, c2, c3⟩ := c
    rcases h with h | h
    · unfold inS at h
      rw [Bool.and_eq_true] at h
      exact leL_geL c1 h.1
    · cases hi with
      | none =>
        have c3 : r = [] := c3
        subst c3
        cases h
      | some c =>
        have c3 : Cn (some (c + 2)) r := c3
        have q := Cn.ge c3 h
        simp only [geL, decide_eq_true_eq] at q
        cases b with
        | none => rfl
        | some b =>
          cases lo with
          | none => exact c1.elim
          | some a =>
            have c1 : b ≤ a := c1
            have c2 : a ≤ c := c2
            simp only [geL, decide_eq_true_eq]
            omega
theorem Cn.not {l : List Span} {b x : Int} (c : Cn (some b) l) (h : x < b) : mem l x = false := by
  cases e : mem l x with
  | false => rfl
  | true =>
    have q := c.ge e
    simp only [geL, decide_eq_true_eq] at q
    omega
theorem Cn.some_in {s : Span} {r : List Span} {b : OI} (c : Cn b (s :: r)) : ∃ x, inS s x = true := by
  obtain ⟨lo, hi⟩ := s
  obtain ⟨_, c2, _⟩ := c
  cases lo with
  | none =>
    cases hi with
    | none => exact ⟨0, rfl⟩
    | some c => exact ⟨c, by simp [inS, geL, leH]⟩
  | some a =>
    cases hi with
    | none => exact ⟨a, by simp [inS, geL, leH]⟩
    | some c =>
      have c2 : a ≤ c := c2
      exact ⟨a, by simp [inS, geL, leH]; exact c2⟩
/-- behind its first span -/
theorem Cn.tail_in {s : Span} {r : List Span} {b : OI} (c : Cn b (s :: r)) {x : Int} (h : mem r x = true) : ∃ k, s.2 = some k ∧ k + 2 ≤ x := by
  obtain ⟨lo, hi⟩ := s
  obtain ⟨_, _, c3⟩ := c
  cases hi with
  | none =>
    have c3 : r = [] := c3
    subst c3
    cases h
  | some k =>
    have c3 : Cn (some (k + 2)) r := c3
    have q := c3.ge h
    simp only [geL, decide_eq_true_eq] at q
    exact ⟨k, rfl, q⟩
/-- the two have the same low end -/
theorem low_le {s s' : Span} {r r' : List Span} {b b' : OI} (c : Cn b (s :: r)) (c' : Cn b' (s' :: r')) (h : ∀ x, mem (s :: r) x = true → mem (s' :: r') x = true) : leL s'.1 s.1 := by
  have low : ∀ x, mem (s' :: r') x = true → geL s'.1 x = true := fun x hx => Cn.ge (b := s'.1) (show Cn s'.1 (s' :: r') from ⟨leL_refl _, c'.2⟩) hx
  have here : ∀ x, inS s x = true → geL s'.1 x = true := fun x hx => low x (h x (by rw [mem_cons, hx]; rfl))
  obtain ⟨x, hx⟩ := c.some_in
  obtain ⟨lo, hi⟩ := s
  obtain ⟨lo', hi'⟩ := s'
  cases lo' with
  | none => trivial
  | some a' =>
    cases lo with
    | none =>
      have h1 : leH hi x = true := by
        unfold inS at hx
        rw [Bool.and_eq_true] at hx
        exact hx.2
      have q := here (min x (a' - 1)) (by
        simp only [inS, geL, Bool.true_and]
        cases hi with
        | none => rfl
        | some c =>
          simp only [leH, decide_eq_true_eq] at h1 ⊢
          omega)
      simp only [geL, decide_eq_true_eq] at q
      omega
    | some a =>
      have q := here a (by
        simp only [inS, geL, decide_true, Bool.true_and, Int.le_refl]
        cases hi with
        | none => rfl
        | some c =>
          simp only [inS, geL, leH, Bool.and_eq_true, decide_eq_true_eq] at hx ⊢
          omega)
      simp only [geL, decide_eq_true_eq] at q
      exact q
theorem leL_anti {a b : OI} (h : leL a b) (g : leL b a) : a = b := by
  cases a <;> cases b <;> simp_all [leL]
  omega
/-- .. and the same high end -/
theorem high_le {lo hi hi' : OI} {r r' : List Span} {b b' : OI} (c : Cn b ((lo, hi) :: r)) (c' : Cn b' ((lo, hi') :: r')) (h : ∀ x, mem ((lo, hi) :: r) x = true → mem ((lo, hi') :: r') x = true) : ∀ k', hi' = some k' → ∃ k, hi = some k ∧ k ≤ k' := by
  rintro k' rfl
  have no : ∀ x, mem ((lo, some k') :: r') x = true → x ≠ k' + 1 := fun x hx e => by
    rw [mem_cons, Bool.or_eq_true] at hx
    rcases hx with hx | hx
    · simp only [inS, leH, Bool.and_eq_true, decide_eq_true_eq] at hx
      omega
    · obtain ⟨k, e2, q⟩ := c'.tail_in hx
      cases e2
      omega
  have lk : geL lo (k' + 1) = true := by
    cases lo with
    | none => rfl
    | some a =>
      have q : a ≤ k' := c'.2.1
      simp only [geL, decide_eq_true_eq]
      omega
  cases hi with
  | none =>
    exact absurd rfl (no (k' + 1) (h _ (by rw [mem_cons]; simp [inS, lk, leH])))
  | some k =>
    refine ⟨k, rfl, ?_⟩
    by_cases q : k ≤ k'
    · exact q
    · exact absurd rfl (no (k' + 1) (h _ (by rw [mem_cons]; simp only [inS, lk, leH, Bool.true_and, Bool.or_eq_true, decide_eq_true_eq]; left; omega)))
/-- two that have the same numbers are one -/
theorem Cn.uniq : ∀ {l l' : List Span} {b b' : OI}, Cn b l → Cn b' l' → (∀ x, mem l x = mem l' x) → l = l'
  | [], [], _, _, _, _, _ => rfl
  | [], s :: r, _, _, _, c', h => by
    obtain ⟨x, hx⟩ := c'.some_in
    have q := h x
    rw [mem_cons, hx] at q
    cases q
  | s :: r, [], _, _, c, _, h => by
    obtain ⟨x, hx⟩ := c.some_in
    have q := h x
    rw [mem_cons, hx] at q
    cases q
  | (lo, hi) :: r, (lo', hi') :: r', b, b', c, c', h => by
    have e1 : lo' = lo := leL_anti (low_le c c' fun x hx => by rw [← h]; exact hx) (low_le c' c fun x hx => by rw [h]; exact hx)
    subst e1
    have e2 : hi = hi' := by
      have u := high_le c c' fun x hx => by rw [← h]; exact hx
      have v := high_le c' c fun x hx => by rw [h]; exact hx
      cases hi with
      | none =>
        cases hi' with
        | none => rfl
        | some k' => obtain ⟨k, e, _⟩ := u k' rfl; cases e
      | some k =>
        obtain ⟨k', e, q⟩ := v k rfl
        subst e
        obtain ⟨k2, e, q2⟩ := u k' rfl
        cases e
        congr 1
        omega
    subst e2
    have e3 : r = r' := by
      cases hi with
      | none =>
        have a1 : r = [] := c.2.2
        have a2 : r' = [] := c'.2.2
        rw [a1, a2]
      | some k =>
        have a1 : Cn (some (k + 2)) r := c.2.2
        have a2 : Cn (some (k + 2)) r' := c'.2.2
        refine Cn.uniq a1 a2 fun x => ?_
        have q := h x
        rw [mem_cons, mem_cons] at q
        cases i : inS (lo', some k) x with
        | false => rw [i] at q; exact q
        | true =>
          have hx : x ≤ k := by
            unfold inS at i
            simp only [leH, Bool.and_eq_true, decide_eq_true_eq] at i
            exact i.2
          rw [a1.not (by omega), a2.not (by omega)]
    rw [e3]
/-! ### all others -/
def byd : OI → List Span → List Span
  | s, [] => [(s, none)]
  | s, (lo, hi) :: r => (match lo with
    | some a => [(s, some (a - 1))]
    | none => []) ++ (match hi with
    | some h => byd (some (h + 1)) r
    | none => [])
/-! ### what two have in common -/
def later (a b : OI) : OI := match a, b with
  | none, b => b
  | some a, none => some a
  | some a, some b => if a < b then some b else some a
def sooner (a b : OI) : OI := match a, b with
  | none, b => b
  | some a, none => some a
  | some a, some b => if b < a then some b else some a
def okS (s : Span) : Bool := match s with
  | (some a, some b) => decide (a ≤ b)
  | _ => true
def isect (s t : Span) : Option Span := if okS (later s.1 t.1, sooner s.2 t.2) = true then some (later s.1 t.1, sooner s.2 t.2) else none
def row (s : Span) (m : List Span) : List Span := m.filterMap fun t => isect s t
def cmn (l m : List Span) : List Span := l.flatMap fun s => row s m
/-- all high ends are at most h -/
def Under (h : OI) (l : List Span) : Prop := match h with
  | none => True
  | some h => ∀ s ∈ l, ∃ c, s.2 = some c ∧ c ≤ h
theorem Cn.app {p : OI} {c : Int} : ∀ {l m : List Span}, Cn p l → Under (some c) l → Cn (some (c + 2)) m → leL p (some (c + 2)) → Cn p (l ++ m)
  | [], m, _, _, hm, h => hm.mono h
  | (lo, hi) :: l, m, hl, hu, hm, h => by
    obtain ⟨h1, h2, h3⟩ := hl
    obtain ⟨k, e, hk⟩ := hu (lo, hi) List.mem_cons_self
    simp only at e
    subst e
    have h3 : Cn (some (k + 2)) l := h3
    refine ⟨h1, h2, ?_⟩
    exact Cn.app h3 (fun s hs => hu s (List.mem_cons_of_mem _ hs)) hm (by show k + 2 ≤ c + 2; omega)
theorem Cn.last_new {lo : OI} {c b : Int} {hi : OI} (h : c + 2 ≤ b) (hs : leS (some b, hi)) : ∀ {f : List Span} {p : OI}, Cn p (f ++ [(lo, some c)]) → Cn p (f ++ [(lo, some c)] ++ [(some b, hi)])
  | [], p, ⟨h1, h2, _⟩ => ⟨h1, h2, h, hs, by cases hi <;> first | rfl | trivial⟩
  | (a, d) :: f, p, ⟨h1, h2, h3⟩ => by
    refine ⟨h1, h2, ?_⟩
    cases d with
    | none => exact absurd h3 (by simp)
    | some d => exact Cn.last_new h hs (f := f) h3
/-- drawn so far: the last end is c -/
def Grown (c : Int) (f : List Span) : Prop := ∃ f0 a, f = f0 ++ [(some a, some c)] ∧ Can f
theorem Grown.one (c : Int) : Grown c [(some c, some c)] := ⟨[], c, rfl, trivial, Int.le_refl c, trivial⟩
theorem Grown.new {c d : Int} {f : List Span} (g : Grown c f) (h : c + 2 ≤ d) : Grown d (f ++ [(some d, some d)]) := by
  obtain ⟨f0, a, rfl, h2⟩ := g
  exact ⟨f0 ++ [(some a, some c)], d, rfl, Cn.last_new h (show leS (some d, some d) from Int.le_refl d) h2⟩
end SM
/-! Sets of words; sets as data; what two sets make. -/
namespace DL
open PySem PySem.Spec PyProof.Rows L2
open SM (Span OI mem Can Cn byd cmn)
abbrev Srt (l : List Str) : Prop := l.Pairwise ltS
def inW (b : Bool) (l : List Str) (x : Str) : Bool := decide (x ∈ l) == b
/-! ### sets -/
inductive SetV where
  | n (l : List Span)
  | w (b : Bool) (l : List Str)
def SetV.ok : SetV → Prop
  | .n l => Can l
  | .w _ l => Srt l ∧ ∀ x ∈ l, D.ok (.str x) = true
def SetV.size : SetV → Nat
  | .n l => l.length
  | .w _ l => l.length
def truth (way : Int) (a b : Bool) : Bool := if way = 0 then a && b else if way = 1 then a || b else a && !b
def isNone : SetV → Bool
  | .n l => l.isEmpty
  | .w b l => b && l.isEmpty
/-! ### equality of sets as data -/
end DL
namespace DL
open PySem PySem.Spec PyProof.Rows L2
/-- _law_cell_at: _law_script, _law_k -/
def b_l_cell_at : Ss := (.cons (.ite (.cm .lt (.v 1) (.bi true .len (.cons (.v 0) .nil))) (.cons (.ret (.ix (.v 0) (.v 1))) .nil) .nil) (.cons (.ret (.int 0)) .nil))
/-- _law_draw: _law_pot_here, _law_many, _law_digit -/
def b_l_draw : Ss := (.cons (.opn 0) (.cons (.ite (.cm .gt (.ix (.v 0) (.int 0)) (.int 0)) (.cons (.setIx2 (.v 0) (.int 0) 2 (.bi true .divmod (.cons (.ix (.v 0) (.int 0)) (.cons (.v 1) .nil)))) (.cons (.ret (.shut 0 (.v 2))) .nil)) .nil) (.cons (.setIx (.v 0) (.int 1) (.bin true .mod (.bin true .add (.bin true .mul (.ix (.v 0) (.int 1)) (.int 48271)) (.int 11)) (.int 2147483647))) (.cons (.ret (.shut 0 (.bin true .mod (.bin true .fdiv (.bin true .mod (.bin true .mul (.ix (.v 0) (.int 1)) (.ix (.v 0) (.int 1))) (.int 2147483629)) (.int 3)) (.v 1)))) .nil))))
end DL
namespace DL
open PySem PySem.Spec PyProof.Rows L2
open SM (Span OI mem Can Cn byd cmn)
local macro_rules | `(tactic| walk_at "w") => `(tactic| simp only [↓w_v, ↓g_z, ↓g_s, ↓w_g, ↓w_non, ↓w_bl, ↓w_int, ↓w_str, ↓w_bin, ↓w_neg, ↓w_cmp, ↓w_chain, ↓w_and, ↓w_or, ↓w_not, ↓w_ite, ↓w_tup, ↓w_lst, ↓w_ix, ↓w_sl, ↓w_lc, ↓w_call, ↓w_bi, ↓w_isi, ↓w_mt, ↓w_fz, ↓w_sset, ↓w_nset, ↓w_pt, ↓w_shut, ↓w_drop, ↓w_nil, ↓w_cons, ↓w_no, ↓w_one,
  ↓t_val, ↓t_cm, ↓t_and, ↓t_or, ↓t_not, ↓t_nil, ↓t_one, ↓i_seq, ↓i_range1, ↓i_range2, ↓i_enum, ↓i_zip, ↓i_rev, ↓s_nil, ↓s_one, ↓s_cons, ↓s_set, ↓s_asg, ↓s_par, ↓s_setIx, ↓s_setIx2, ↓tup2_ok, ↓s_aug, ↓s_expr, ↓s_app, ↓s_pop, ↓s_ext, ↓s_clear, ↓s_ret, ↓s_retN, ↓s_ite, ↓s_for, ↓s_while, ↓s_pass, ↓s_brk, ↓s_cont, ↓s_opn, ↓s_drp,
  ↓tg_v, ↓tg_tup, ↓tg_nil, ↓tg_cons, ↓wr_nil, ↓wr_cons, sl_v, sl_tup, sl_nil, sl_cons, ↓wk_nx, ↓wk_ct, ↓wk_bk, ↓wk_rt, ls_z, ls_s,
  ↓d_addi, ↓d_adds, ↓d_addt, ↓d_addl, ↓d_addr, ↓d_sub, ↓d_mul, ↓d_fdiv, ↓d_mod, ↓d_pow, ↓n_t, ↓n_f, sl_lst, sl_lk, sp_lst, sa_lst, sa_lk, sa_tup, sl_ref, sp_ref, sa_ref, ↓c_eqi, ↓c_eqs, ↓c_nei, ↓c_nes, ↓c_lt, ↓c_le, ↓c_gt, ↓c_ge, ↓c_is, ↓c_isnot, n_non, n_int, n_str, n_bl, n_tup, n_lst, n_ref, ↓u_bl, ↓u_int, ↓u_non, ↓u_tup, ↓u_lst,
  ↓x_t, ↓x_l, ↓x_lk, ↓x_r, ↓x_s, a_0, a_1, a_2, a_3, a_m1, last_in, ixN_last, set_len, ixN_m1, ↓z_r, ↓ik, ↓pk, ↓l_s, ↓l_t, ↓l_l, ↓l_lk, ↓l_r, ↓b_tuple, ↓b_listt, ↓b_listl, ↓b_listk, ↓b_listr, ↓b_lists, ↓b_inti, ↓b_intb, ↓b_abs, ↓b_max, ↓b_min, ↓b_divmod, ↓b_str, ↓b_strs, ↓b_any, ↓b_all, ↓b_sum, ↓q_t, ↓q_l, ↓q_lk, ↓q_s, ↓q_r, ↓r_1, ↓r_2, ↓m_join, ↓m_split, ↓st_is, ↓ch_r, ↓set_r, ↓dr_nil, ↓dr_cons, md_s, md_n, ra_s, ra_r, ra_n, mset_mset,
  optD_some, optD_none, Bool.not_true, Bool.not_false, if_true, if_false, Bool.false_eq_true, List.cons_append, List.nil_append, List.length_cons, List.length_nil, Nat.reduceAdd, Nat.reduceLeDiff, true_and, and_true, and_self, decide_true, decide_false, Option.some.injEq, exists_eq', exists_eq, exists_eq_left, exists_eq_left', reduceIte, List.replicate, Nat.reduceSub, List.map_cons, List.map_nil, potAt_new, Int.reduceToNat, Int.reducePow, Int.reduceLT, Int.reduceLE, Int.reduceNeg, Int.reduceAdd, Int.reduceSub, Int.reduceMul, Int.reduceEq, Nat.reducePow, Nat.reduceLT, Nat.reduceMul, or_true, true_or, false_or, or_false, and_false, false_and, e_wn, ixN_0, ixN_1, ↓sh_new, List.set_cons_zero, List.set_cons_succ, eq_self, decide_true])

/-! ### the program's defs over sets -/
abbrev Ends0 (Q : DK) : DEnds := { nx := fun _ μ => Q .non μ, rt := Q }
section
variable {G : Gc} {μ : Mem} {Q : DK} {X : EK}
theorem asInts_map (l : List Int) : asInts (l.map D.int) = some l := by
  induction l with
  | nil => rfl
  | cons a l ih => show (asInts (l.map D.int)).map _ = _; rw [ih]; rfl
theorem asStrs_map (l : List Str) : asStrs (l.map D.str) = some l := by
  induction l with
  | nil => rfl
  | cons a l ih => show (asStrs (l.map D.str)).map _ = _; rw [ih]; rfl
end
end DL
namespace DL
open PySem PySem.Spec PyProof.Rows L2
open SM (Span OI mem Can Cn byd cmn)
local macro_rules | `(tactic| walk_at "w") => `(tactic| simp only [↓w_v, ↓g_z, ↓g_s, ↓w_g, ↓w_non, ↓w_bl, ↓w_int, ↓w_str, ↓w_bin, ↓w_neg, ↓w_cmp, ↓w_chain, ↓w_and, ↓w_or, ↓w_not, ↓w_ite, ↓w_tup, ↓w_lst, ↓w_ix, ↓w_sl, ↓w_lc, ↓w_call, ↓w_bi, ↓w_isi, ↓w_mt, ↓w_fz, ↓w_sset, ↓w_nset, ↓w_pt, ↓w_shut, ↓w_drop, ↓w_nil, ↓w_cons, ↓w_no, ↓w_one,
  ↓t_val, ↓t_cm, ↓t_and, ↓t_or, ↓t_not, ↓t_nil, ↓t_one, ↓i_seq, ↓i_range1, ↓i_range2, ↓i_enum, ↓i_zip, ↓i_rev, ↓s_nil, ↓s_one, ↓s_cons, ↓s_set, ↓s_asg, ↓s_par, ↓s_setIx, ↓s_setIx2, ↓tup2_ok, ↓s_aug, ↓s_expr, ↓s_app, ↓s_pop, ↓s_ext, ↓s_clear, ↓s_ret, ↓s_retN, ↓s_ite, ↓s_for, ↓s_while, ↓s_pass, ↓s_brk, ↓s_cont, ↓s_opn, ↓s_drp,
  ↓tg_v, ↓tg_tup, ↓tg_nil, ↓tg_cons, ↓wr_nil, ↓wr_cons, sl_v, sl_tup, sl_nil, sl_cons, ↓wk_nx, ↓wk_ct, ↓wk_bk, ↓wk_rt, ls_z, ls_s,
  ↓d_addi, ↓d_adds, ↓d_addt, ↓d_addl, ↓d_addr, ↓d_sub, ↓d_mul, ↓d_fdiv, ↓d_mod, ↓d_pow, ↓n_t, ↓n_f, sl_lst, sl_lk, sp_lst, sa_lst, sa_lk, sa_tup, sl_ref, sp_ref, sa_ref, ↓c_eqi, ↓c_eqs, ↓c_nei, ↓c_nes, ↓c_lt, ↓c_le, ↓c_gt, ↓c_ge, ↓c_is, ↓c_isnot, n_non, n_int, n_str, n_bl, n_tup, n_lst, n_ref, ↓u_bl, ↓u_int, ↓u_non, ↓u_tup, ↓u_lst,
  ↓x_t, ↓x_l, ↓x_lk, ↓x_r, ↓x_s, a_0, a_1, a_2, a_3, a_m1, last_in, ixN_last, set_len, ixN_m1, ↓z_r, ↓ik, ↓pk, ↓l_s, ↓l_t, ↓l_l, ↓l_lk, ↓l_r, ↓b_tuple, ↓b_listt, ↓b_listl, ↓b_listk, ↓b_listr, ↓b_lists, ↓b_inti, ↓b_intb, ↓b_abs, ↓b_max, ↓b_min, ↓b_divmod, ↓b_str, ↓b_strs, ↓b_any, ↓b_all, ↓b_sum, ↓q_t, ↓q_l, ↓q_lk, ↓q_s, ↓q_r, ↓r_1, ↓r_2, ↓m_join, ↓m_split, ↓st_is, ↓ch_r, ↓set_r, ↓dr_nil, ↓dr_cons, md_s, md_n, ra_s, ra_r, ra_n, mset_mset,
  optD_some, optD_none, Bool.not_true, Bool.not_false, if_true, if_false, Bool.false_eq_true, List.cons_append, List.nil_append, List.length_cons, List.length_nil, Nat.reduceAdd, Nat.reduceLeDiff, true_and, and_true, and_self, decide_true, decide_false, Option.some.injEq, exists_eq', exists_eq, exists_eq_left, exists_eq_left', reduceIte, List.replicate, Nat.reduceSub, List.map_cons, List.map_nil, potAt_new, Int.reduceToNat, Int.reducePow, Int.reduceLT, Int.reduceLE, Int.reduceNeg, Int.reduceAdd, Int.reduceSub, Int.reduceMul, Int.reduceEq, Nat.reducePow, Nat.reduceLT, Nat.reduceMul, or_true, true_or, false_or, or_false, and_false, false_and, e_wn, ixN_0, ixN_1, ↓sh_new, List.set_cons_zero, List.set_cons_succ, eq_self, decide_true])
/-! ### the law's own defs: draws -/
section
variable {G : Gc} {μ : Mem} {Q : DK} {X : EK}
/-- the script, as it is handed on -/
def eScript (ns : List Int) : D := .lk (ns.map .int)
def S_cell_at : FSpec := fun ds μ Q _ => ∃ (ns : List Int) (k : Int), ds = [eScript ns, .int k] ∧ 0 ≤ k ∧ ∀ c, Q (.int c) μ
theorem wp_cell_at {ns : List Int} {k : Int} (hk : 0 ≤ k) (h : ∀ c, Q (.int c) μ) : wpSs G b_l_cell_at [some (eScript ns), some (.int k)] μ (Ends0 Q) X := by
  unfold b_l_cell_at
  simp only [eScript]
  walk_at "w"
  split <;> rename_i c
  · simp only [List.length_map, decide_eq_true_eq] at c
    rw [a_nat hk, List.getElem?_map, List.getElem?_eq_getElem (by omega)]
    exact h _
  · exact h _
def S_draw : FSpec := fun ds μ Q _ => ∃ (a : Addr) (m : Int), ds = [.ref a, .int m] ∧ potAt μ a ∧ (0 < m ∧ m ≤ 2 ^ 256) ∧ ∀ r, 0 ≤ r → r < m → Q (.int r) μ
theorem wp_draw {a : Addr} {m : Int} (hp : potAt μ a) (hm : 0 < m ∧ m ≤ 2 ^ 256) (h : ∀ r, 0 ≤ r → r < m → Q (.int r) μ) : wpSs G b_l_draw [some (.ref a), some (.int m), none] μ (Ends0 Q) X := by
  obtain ⟨l, hl⟩ := hp
  have back : mset μ a (.pot l) = μ := by
    funext b
    unfold mset
    split <;> rename_i e
    · rw [e, hl]
    · rfl
  unfold b_l_draw
  walk_at "w"
  unfold openD potOf
  simp only [hl, optD_some]
  intro p q p0 q0 q1
  walk_at "w"
  split <;> rename_i c
  · simp only [decide_eq_true_eq] at c
    refine ⟨hm, ⟨Int.ediv_nonneg p0 (by omega), q0, q1⟩, ?_⟩
    rw [back]
    exact h _ (Int.emod_nonneg _ (by omega)) (Int.emod_lt_of_pos _ hm.1)
  · have z0 : 0 ≤ (q * 48271 + 11) % 2147483647 := Int.emod_nonneg _ (by decide)
    have z1 : (q * 48271 + 11) % 2147483647 < 2147483647 := Int.emod_lt_of_pos _ (by decide)
    refine ⟨.inl ⟨by omega, by omega⟩, hm.1, ⟨p0, z0, by omega⟩, ?_⟩
    rw [back]
    exact h _ (Int.emod_nonneg _ (by omega)) (Int.emod_lt_of_pos _ hm.1)
def letters : List Nat := [97, 98, 99, 100, 101, 102, 103, 104, 105, 106, 107, 108, 109, 110, 111, 112, 113, 114, 115, 116, 117, 118, 119, 120, 121, 122]
theorem letters_in : ∀ c ∈ letters, 97 ≤ c ∧ c ≤ 122 := by decide
/-- signs put together -/
theorem join_signs (cs : List Nat) : Txt.join ⟨#[]⟩ (cs.map fun c => (⟨#[c]⟩ : Str)) = ⟨cs.toArray⟩ := by
  open TL PySem.StrLaws in
  have e : tl (Txt.join ⟨#[]⟩ (cs.map fun c => (⟨#[c]⟩ : Str))) = cs := by
    rw [join_eq, tl_join]
    have : ∀ l : List (List Nat), joinL (tl ⟨#[]⟩) l = l.flatten := by
      intro l
      induction l with
      | nil => rfl
      | cons p r ih =>
        cases r with
        | nil => simp [joinL]
        | cons q r =>
          show p ++ ([] ++ joinL (tl ⟨#[]⟩) (q :: r)) = _
          rw [ih]
          simp
    rw [this, List.map_map]
    induction cs with
    | nil => rfl
    | cons c cs ih =>
      rw [List.map_cons, List.flatten_cons, ih]
      rfl
  have e2 : ∀ s : Str, s = ⟨(tl s).toArray⟩ := fun s => rfl
  rw [e2 (Txt.join _ _), e]
end
end DL
/-! Cells, and whether a set has them; another cell of a set. -/
namespace DL
open PySem PySem.Spec PyProof.Rows L2
open SM (Span OI mem Can Cn byd cmn inS)
section
variable {μ : Mem} {Q : DK}
theorem k_tup {z : Bool} {l : List D} {lo hi : Option Int} : slD z (.tup l) lo hi μ Q = Q (.tup (cutD l lo hi)) μ := rfl
theorem k_tpz {z : Bool} {l : List D} {lo hi : Option Int} : slD z (.tpz l) lo hi μ Q = Q (.tup (cutD l lo hi)) μ := rfl
theorem k_tpl {z : Bool} {l : List D} {lo hi : Option Int} : slD z (.tpl l) lo hi μ Q = Q (.tpl (cutD l lo hi)) μ := rfl
theorem k_lst {z : Bool} {l : List D} {lo hi : Option Int} : slD z (.lst l) lo hi μ Q = newL z (cutD l lo hi) μ Q := rfl
theorem k_lk {z : Bool} {l : List D} {lo hi : Option Int} : slD z (.lk l) lo hi μ Q = newL z (cutD l lo hi) μ Q := rfl
theorem k_str {z : Bool} {s : Str} {lo hi : Option Int} : slD z (.str s) lo hi μ Q = (s.length ≤ 16777216 ∧ Q (.str (cutS s lo hi)) μ) := rfl
theorem e_nw : decide ((⟨#[110]⟩ : Str) = ⟨#[119]⟩) = false := by decide +kernel
end
inductive Cell where
  | i (n : Int)
  | s (x : Str)
  deriving DecidableEq
def eCell : Cell → D
  | .i n => .int n
  | .s x => .str x
def isLow (n : Nat) : Bool := decide (97 ≤ n ∧ n ≤ 122)
def wordB (x : Str) : Bool := decide (1 ≤ x.length) && (decide (x.length ≤ 8) && x.cps.toList.all isLow)
def hasC (a : SetV) (c : Cell) : Bool := match a, c with
  | .n l, .i x => mem l x
  | .w b l, .s x => wordB x && inW b l x
  | _, _ => false
def twoIn (s : Span) : List Int := match s with
  | (some a, _) => [a, a + 1]
  | (none, some b) => [b, b - 1]
  | (none, none) => [0, 1]
def abc : List Nat := [97, 98, 99, 100, 101, 102, 103, 104, 105, 106, 107, 108, 109, 110, 111, 112, 113, 114, 115, 116, 117, 118, 119, 120, 121, 122]
def ones : List Str := abc.map fun c => ⟨#[c]⟩
def twos : List Str := abc.map fun c => ⟨#[97, c]⟩
def someWords (n : Nat) : List Str := if n ≤ 26 then ones else ones ++ twos
def cands : SetV → List Cell
  | .n l => (l.flatMap twoIn).map .i
  | .w true l => l.map .s
  | .w false l => (someWords (l.length + 2)).map .s
def another (a : SetV) (c : Option Cell) : Option Cell := (cands a).find? fun x => !decide (some x = c) && hasC a x
/-! ### all sorts -/
/-- words of the alphabet -/
def SetV.words : SetV → Prop
  | .n _ => True
  | .w _ l => (∀ x ∈ l, wordB x = true) ∧ l.length ≤ 50
end DL
/-! k32, the plain law: rows sorted, told apart, counted, summed, numbered, cut. No program in sight. -/
namespace DL
namespace P32
open PySem PySem.W
abbrev Rw := List Cell
def ceLe : Cell → Cell → Bool
  | .i a, .i b => decide (a ≤ b)
  | .s x, .s y => decide (x.cps.toList ≤ y.cps.toList)
  | .i _, .s _ => true
  | .s _, .i _ => false
theorem nle_total (a b : List Nat) : a ≤ b ∨ b ≤ a := List.le_total a b
theorem nle_trans {a b c : List Nat} (h : a ≤ b) (k : b ≤ c) : a ≤ c := List.le_trans h k
theorem nle_anti {a b : List Nat} (h : a ≤ b) (k : b ≤ a) : a = b := List.le_antisymm h k
theorem ceLe_total : TotalLe ceLe where
  trans := fun a b c h k => by
    cases a <;> cases b <;> cases c <;> simp only [ceLe, decide_eq_true_eq] at h k ⊢ <;> first | omega | exact nle_trans h k | (cases h; done) | (cases k; done)
  total := fun a b => by
    cases a <;> cases b <;> simp only [ceLe, decide_eq_true_eq] <;> first | omega | exact nle_total _ _ | exact .inl trivial | exact .inr trivial | simp
theorem str_ext {x y : Str} (h : x.cps.toList = y.cps.toList) : x = y := by
  cases x; cases y
  congr 1
  exact Array.toList_inj.mp h
theorem ceLe_anti {a b : Cell} (h : ceLe a b = true) (k : ceLe b a = true) : a = b := by
  cases a <;> cases b <;> simp only [ceLe, decide_eq_true_eq] at h k <;> first | (cases h; done) | (cases k; done) | skip
  · rw [show _ = _ from Int.le_antisymm h k]
  · rw [str_ext (nle_anti h k)]
/-- the cell of a column (from 1) -/
def colAt (r : Rw) (c : Int) : Cell := r.getD (c - 1).toNat (.i 0)
/-- a place of an order: a column, and whether it falls -/
abbrev Ky := Int × Bool
def keLe (k : Ky) (a b : Rw) : Bool := if k.2 = true then ceLe (colAt b k.1) (colAt a k.1) else ceLe (colAt a k.1) (colAt b k.1)
theorem keLe_total (k : Ky) : TotalLe (keLe k) where
  trans := fun a b c h1 h2 => by
    unfold keLe at *
    by_cases e : k.2 = true
    · rw [if_pos e] at *; exact ceLe_total.trans _ _ _ h2 h1
    · rw [if_neg e] at *; exact ceLe_total.trans _ _ _ h1 h2
  total := fun a b => by
    unfold keLe
    by_cases e : k.2 = true
    · rw [if_pos e, if_pos e]; exact (ceLe_total.total _ _)
    · rw [if_neg e, if_neg e]; exact ceLe_total.total _ _
def lex2 (le1 le2 : Rw → Rw → Bool) (a b : Rw) : Bool := le1 a b && (!le1 b a || le2 a b)
theorem lex2_total {le1 le2 : Rw → Rw → Bool} (t1 : TotalLe le1) (t2 : TotalLe le2) : TotalLe (lex2 le1 le2) where
  trans := fun a b c h k => by
    unfold lex2 at *
    simp only [Bool.and_eq_true, Bool.or_eq_true, Bool.not_eq_true'] at *
    obtain ⟨h1, h2⟩ := h
    obtain ⟨k1, k2⟩ := k
    refine ⟨t1.trans _ _ _ h1 k1, ?_⟩
    cases q : le1 c a with
    | false => exact .inl rfl
    | true =>
      have e1 : le1 b a = true := t1.trans _ _ _ k1 q
      have e2 : le1 c b = true := t1.trans _ _ _ q h1
      rcases h2 with z | z
      · rw [z] at e1; cases e1
      · rcases k2 with y | y
        · rw [y] at e2; cases e2
        · exact .inr (t2.trans _ _ _ z y)
  total := fun a b => by
    unfold lex2
    cases p : le1 a b <;> cases q : le1 b a
    · rcases t1.total a b with z | z
      · rw [p] at z; cases z
      · rw [q] at z; cases z
    · right; rfl
    · left; rfl
    · simp only [Bool.not_true, Bool.false_or, Bool.true_and]
      exact t2.total a b
theorem rank2 {le1 le2 : Rw → Rw → Bool} (c x : Rw) : sameRank (lex2 le1 le2) c x = (sameRank le1 c x && sameRank le2 c x) := by
  unfold sameRank lex2
  cases le1 c x <;> cases le1 x c <;> cases le2 c x <;> cases le2 x c <;> rfl
theorem sort_twice {le1 le2 : Rw → Rw → Bool} (t1 : TotalLe le1) (t2 : TotalLe le2) (l : List Rw) : (l.mergeSort le2).mergeSort le1 = l.mergeSort (lex2 le1 le2) := by
  refine sort_unique (lex2_total t1 t2) ?_ fun c => ?_
  · rw [List.pairwise_iff_forall_sublist]
    intro a b hab
    have p1 := List.pairwise_iff_forall_sublist.mp (sort_pairwise t1 (l.mergeSort le2)) hab
    unfold lex2
    rw [p1]
    cases q : le1 b a with
    | false => rfl
    | true =>
      have e1 : sameRank le1 a a = true := sameRank_self t1 a
      have e2 : sameRank le1 a b = true := by unfold sameRank; rw [p1, q]; rfl
      have hf : [a, b].Sublist (((l.mergeSort le2).mergeSort le1).filter (sameRank le1 a)) := by
        have := hab.filter (sameRank le1 a)
        rw [List.filter_cons_of_pos e1, List.filter_cons_of_pos e2] at this
        exact this
      rw [sort_stable t1] at hf
      have := List.pairwise_iff_forall_sublist.mp (sort_pairwise t2 l) (hf.trans List.filter_sublist)
      rw [this]
      rfl
  · have f : ∀ m : List Rw, m.filter (sameRank (lex2 le1 le2) c) = (m.filter (sameRank le2 c)).filter (sameRank le1 c) := fun m => by
      rw [List.filter_filter]
      exact List.filter_congr fun x _ => rank2 c x
    have g : ∀ m : List Rw, m.filter (sameRank (lex2 le1 le2) c) = (m.filter (sameRank le1 c)).filter (sameRank le2 c) := fun m => by
      rw [List.filter_filter]
      exact List.filter_congr fun x _ => (rank2 c x).trans (Bool.and_comm _ _)
    rw [g, sort_stable t1, ← g, f, sort_stable t2, ← f]
def lexLe : List Ky → Rw → Rw → Bool
  | [] => fun _ _ => true
  | k :: ks => lex2 (keLe k) (lexLe ks)
theorem lexLe_total : ∀ ks : List Ky, TotalLe (lexLe ks)
  | [] => ⟨fun _ _ _ _ _ => rfl, fun _ _ => .inl rfl⟩
  | k :: ks => lex2_total (keLe_total k) (lexLe_total ks)
/-- the program's way: one column after the other, from the last to the first -/
def sortsR (rows : List Rw) : List Ky → List Rw
  | [] => rows
  | k :: ks => (sortsR rows ks).mergeSort (keLe k)
theorem sort_true (l : List Rw) : l.mergeSort (fun _ _ => true) = l := by
  refine (sort_unique (le := fun _ _ => true) ⟨fun _ _ _ _ _ => rfl, fun _ _ => .inl rfl⟩ ?_ fun c => rfl).symm
  induction l with
  | nil => exact .nil
  | cons a l ih => exact .cons (fun _ _ => rfl) ih
theorem sortsR_eq (rows : List Rw) : ∀ ks : List Ky, sortsR rows ks = rows.mergeSort (lexLe ks)
  | [] => (sort_true rows).symm
  | k :: ks => by
    show (sortsR rows ks).mergeSort (keLe k) = rows.mergeSort (lex2 (keLe k) (lexLe ks))
    rw [sortsR_eq rows ks, sort_twice (keLe_total k) (lexLe_total ks)]
/-- the law's way: is one before the other? -/
def before (a b : Rw) : List Ky → Bool
  | [] => false
  | k :: ks => if colAt a k.1 = colAt b k.1 then before a b ks else (ceLe (colAt a k.1) (colAt b k.1) != k.2)
theorem ce_lt {x y : Cell} (h : x ≠ y) : ceLe x y = !ceLe y x := by
  cases p : ceLe x y <;> cases q : ceLe y x <;> first | rfl | skip
  · rcases ceLe_total.total x y with z | z
    · rw [p] at z; cases z
    · rw [q] at z; cases z
  · exact absurd (ceLe_anti p q) h
theorem before_iff (a b : Rw) : ∀ ks : List Ky, before a b ks = !lexLe ks b a
  | [] => rfl
  | (c, f) :: ks => by
    unfold before lexLe lex2 keLe
    by_cases e : colAt a c = colAt b c
    · rw [if_pos e, before_iff a b ks]
      have r : ceLe (colAt b c) (colAt b c) = true := (ceLe_total.total _ _).elim id id
      cases f <;> simp [e, r]
    · rw [if_neg e]
      have h1 := ce_lt e
      cases f
      · simp only [Bool.false_eq_true, if_false]
        rw [h1]
        cases ceLe (colAt b c) (colAt a c) <;> simp
      · simp only [if_true]
        rw [h1]
        cases ceLe (colAt b c) (colAt a c) <;> simp
/-- one more row: put in behind those that it is not before -/
theorem sort_snoc {le : Rw → Rw → Bool} (t : TotalLe le) {l A B : List Rw} {x : Rw} (h : l.mergeSort le = A ++ B) (hA : ∀ a, A.getLast? = some a → le a x = true) (hB : ∀ b ∈ B, le b x = false) : (l ++ [x]).mergeSort le = A ++ x :: B := by
  have pw := sort_pairwise t l
  rw [h] at pw
  obtain ⟨pA, pB, pAB⟩ := List.pairwise_append.mp pw
  have hA' : ∀ a ∈ A, le a x = true := fun a ha => by
    rcases List.eq_nil_or_concat A with e | ⟨A2, z, e⟩
    · rw [e] at ha; cases ha
    · have ez := hA z (by rw [e]; simp)
      have e : A = A2 ++ [z] := by rw [e]; simp
      rw [e] at ha pA
      rcases List.mem_append.mp ha with q | q
      · exact t.trans _ _ _ ((List.pairwise_append.mp pA).2.2 a q z (List.mem_singleton.mpr rfl)) ez
      · rw [List.mem_singleton.mp q]; exact ez
  refine (sort_unique t ?_ fun c => ?_).symm
  · refine List.pairwise_append.mpr ⟨pA, .cons (fun b hb => ?_) pB, fun a ha b hb => ?_⟩
    · rcases t.total x b with z | z
      · exact z
      · rw [hB b hb] at z; cases z
    · rcases List.mem_cons.mp hb with z | z
      · rw [z]; exact hA' a ha
      · exact pAB a ha b z
  · have st := sort_stable t l c
    rw [h] at st
    rw [List.filter_append, List.filter_append, ← st, List.filter_append, List.append_assoc]
    congr 1
    by_cases q : sameRank le c x = true
    · have none : B.filter (sameRank le c) = [] := by
        rw [List.filter_eq_nil_iff]
        intro b hb z
        unfold sameRank at q z
        rw [Bool.and_eq_true] at q z
        have := t.trans _ _ _ z.2 q.1
        rw [hB b hb] at this
        cases this
      rw [List.filter_cons_of_pos q, none, List.filter_cons_of_pos q]
      rfl
    · rw [List.filter_cons_of_neg q, List.filter_cons_of_neg q]
      simp
/-! ### told apart -/
def apS : List Rw → Option Rw → List Rw
  | [], _ => []
  | r :: rs, o => if o = some r then apS rs (some r) else r :: apS rs (some r)
def apart (rows : List Rw) : List Rw := apS rows none
theorem apS_snoc : ∀ (l : List Rw) (o : Option Rw) (r : Rw), apS (l ++ [r]) o = apS l o ++ if (l.getLast?.or o) = some r then [] else [r]
  | [], o, r => by
    show (if o = some r then ([] : List Rw) else [r]) = _
    rw [List.getLast?_nil, Option.none_or]
    rfl
  | a :: l, o, r => by
    have ih := apS_snoc l (some a) r
    have e : (a :: l).getLast?.or o = l.getLast?.or (some a) := by
      rw [List.getLast?_cons]
      cases l.getLast? <;> rfl
    rw [e]
    show (if o = some a then apS (l ++ [r]) (some a) else a :: apS (l ++ [r]) (some a)) = (if o = some a then apS l (some a) else a :: apS l (some a)) ++ _
    rw [ih]
    split <;> rfl
theorem apart_snoc (l : List Rw) (r : Rw) : apart (l ++ [r]) = apart l ++ if l.getLast? = some r then [] else [r] := by
  unfold apart
  rw [apS_snoc]
  simp
theorem apart_len (l : List Rw) : (apart l).length ≤ l.length := by
  suffices ∀ (l : List Rw) o, (apS l o).length ≤ l.length from this l none
  intro l
  induction l with
  | nil => intro o; exact Nat.le_refl _
  | cons a l ih =>
    intro o
    unfold apS
    split
    · exact Nat.le_succ_of_le (ih _)
    · exact Nat.succ_le_succ (ih _)
theorem apart_mem {l : List Rw} {r : Rw} (h : r ∈ apart l) : r ∈ l := by
  suffices ∀ (l : List Rw) o, r ∈ apS l o → r ∈ l from this l none h
  intro l
  induction l with
  | nil => intro o h; cases h
  | cons a l ih =>
    intro o h
    unfold apS at h
    split at h
    · exact List.mem_cons_of_mem _ (ih _ h)
    · rcases List.mem_cons.mp h with z | z
      · rw [z]; exact List.mem_cons_self
      · exact List.mem_cons_of_mem _ (ih _ z)
/-! ### stretches -/
abbrev Str1 := Rw × List Rw
abbrev Sts := List Str1 × Option Str1
def cellsOf (cols : List Int) (r : Rw) : Rw := cols.map (colAt r)
def stS (cols : List Int) (s : Sts) (r : Rw) : Sts := match s.2 with
  | none => (s.1, some (cellsOf cols r, [r]))
  | some p => if p.1 = cellsOf cols r then (s.1, some (p.1, p.2 ++ [r])) else (s.1 ++ [p], some (cellsOf cols r, [r]))
def sts (cols : List Int) (rows : List Rw) : Sts := rows.foldl (stS cols) ([], none)
theorem sts_snoc (cols : List Int) (l : List Rw) (r : Rw) : sts cols (l ++ [r]) = stS cols (sts cols l) r := by
  unfold sts
  rw [List.foldl_append]
  rfl
def Sts.all (s : Sts) : List Str1 := s.1 ++ s.2.toList
def intOf : Cell → Int
  | .i n => n
  | .s _ => 0
/-- how many, or a column's sum (column 0: how many) -/
def valOf (c : Option Int) (rs : List Rw) : Int := match c with
  | none => (rs.length : Nat)
  | some c => (rs.map fun r => intOf (colAt r c)).sum
def outOf (c : Option Int) (p : Str1) : Rw := p.1 ++ [.i (valOf c p.2)]
def folded (cols : List Int) (c : Option Int) (rows : List Rw) : List Rw := (sts cols rows).all.map (outOf c)
theorem valOf_one (c : Option Int) (r : Rw) : valOf c [r] = match c with | none => 1 | some c => intOf (colAt r c) := by
  cases c with
  | none => rfl
  | some c => show intOf (colAt r c) + 0 = intOf (colAt r c); omega
theorem valOf_snoc (c : Option Int) (rs : List Rw) (r : Rw) : valOf c (rs ++ [r]) = valOf c rs + valOf c [r] := by
  cases c with
  | none => show ((rs ++ [r]).length : Int) = _ + 1; simp; rfl
  | some c => simp [valOf]
theorem sts_len (cols : List Int) (rows : List Rw) : (sts cols rows).all.length ≤ rows.length := by
  suffices ∀ (l : List Rw) (s : Sts), (l.foldl (stS cols) s).all.length ≤ s.all.length + l.length by
    have := this rows ([], none)
    simpa [sts, Sts.all] using this
  intro l
  induction l with
  | nil => intro s; exact Nat.le_refl _
  | cons a l ih =>
    intro s
    refine Nat.le_trans (ih (stS cols s a)) ?_
    have : (stS cols s a).all.length ≤ s.all.length + 1 := by
      obtain ⟨t, o⟩ := s
      cases o with
      | none => simp [stS, Sts.all]
      | some p =>
        show (Sts.all (if p.1 = cellsOf cols a then (t, some (p.1, p.2 ++ [a])) else (t ++ [p], some (cellsOf cols a, [a])))).length ≤ _
        split <;> simp [Sts.all]
    simp only [List.length_cons]
    omega
/-! ### workers -/
inductive Wk where
  | sort (o : List Ky)
  | apart
  | count (cs : List Int)
  | sum (cs : List Int) (c : Int)
  | number
  | first (n : Int)
  | cut (cs : List Int)
def numb1 (k : Nat) : List Rw → List Rw
  | [] => []
  | r :: rs => (r ++ [.i ((k : Nat) : Int)]) :: numb1 (k + 1) rs
def due : Wk → List Rw → List Rw
  | .sort o, rows => rows.mergeSort (lexLe o)
  | .apart, rows => apart rows
  | .count cs, rows => folded cs none rows
  | .sum cs c, rows => folded cs (some c) rows
  | .number, rows => numb1 1 rows
  | .first n, rows => rows.take n.toNat
  | .cut cs, rows => rows.map (cellsOf cs)
/-- a head: is each column of words? -/
abbrev HdB := List Bool
def TyC (b : Bool) (c : Cell) : Prop := match c with
  | .i _ => b = false
  | .s x => b = true ∧ IsWord x
def RowOk (h : HdB) (r : Rw) : Prop := r.length = h.length ∧ ∀ k : Nat, k < h.length → TyC (h.getD k false) (r.getD k (.i 0))
def RowsOk (h : HdB) (rows : List Rw) : Prop := ∀ r ∈ rows, RowOk h r
def hdAt (h : HdB) (c : Int) : Bool := h.getD (c - 1).toNat false
def InH (h : HdB) (c : Int) : Prop := 1 ≤ c ∧ c ≤ (h.length : Nat)
theorem RowOk.at {h : HdB} {r : Rw} (p : RowOk h r) {c : Int} (q : InH h c) : TyC (hdAt h c) (colAt r c) := p.2 _ (by have := q.1; have := q.2; omega)
def WkOk (h : HdB) : Wk → Prop
  | .sort o => ∀ k ∈ o, InH h k.1
  | .apart => True
  | .count cs => cs.length ≤ 5 ∧ ∀ c ∈ cs, InH h c
  | .sum cs c => (cs.length ≤ 5 ∧ ∀ c ∈ cs, InH h c) ∧ InH h c ∧ hdAt h c = false
  | .number => h.length < 6
  | .first n => 0 ≤ n ∧ n ≤ 60
  | .cut cs => (1 ≤ cs.length ∧ cs.length ≤ 6) ∧ ∀ c ∈ cs, InH h c
def hdBehind (h : HdB) : Wk → HdB
  | .sort _ => h
  | .apart => h
  | .count cs => cs.map (hdAt h) ++ [false]
  | .sum cs _ => cs.map (hdAt h) ++ [false]
  | .number => h ++ [false]
  | .first _ => h
  | .cut cs => cs.map (hdAt h)
theorem ok_cells {h : HdB} {r : Rw} (p : RowOk h r) {cs : List Int} (q : ∀ c ∈ cs, InH h c) : RowOk (cs.map (hdAt h)) (cellsOf cs r) := by
  refine ⟨by simp [cellsOf], fun k hk => ?_⟩
  rw [List.length_map] at hk
  unfold cellsOf
  rw [List.getD_eq_getElem?_getD, List.getD_eq_getElem?_getD, List.getElem?_map, List.getElem?_map, List.getElem?_eq_getElem hk]
  exact p.at (q _ (List.getElem_mem hk))
theorem ok_snoc {h : HdB} {r : Rw} (p : RowOk h r) (n : Int) : RowOk (h ++ [false]) (r ++ [.i n]) := by
  refine ⟨by simp [p.1], fun k hk => ?_⟩
  rw [List.length_append, List.length_singleton] at hk
  rw [List.getD_eq_getElem?_getD, List.getD_eq_getElem?_getD]
  by_cases e : k < h.length
  · rw [List.getElem?_append_left e, List.getElem?_append_left (by rw [p.1]; exact e), ← List.getD_eq_getElem?_getD, ← List.getD_eq_getElem?_getD]
    exact p.2 k e
  · have e2 : k = h.length := by omega
    subst e2
    rw [List.getElem?_append_right (Nat.le_refl _), List.getElem?_append_right (by rw [p.1]; exact Nat.le_refl _), p.1, Nat.sub_self]
    rfl
/-- the stretches' keys are cells of rows that were handed in -/
theorem sts_keys (cols : List Int) (rows : List Rw) : ∀ p ∈ (sts cols rows).all, (∃ r ∈ rows, p.1 = cellsOf cols r) ∧ ∀ r ∈ p.2, r ∈ rows := by
  suffices ∀ (n : Nat) (l : List Rw), l.length = n → ∀ p ∈ (sts cols l).all, (∃ r ∈ l, p.1 = cellsOf cols r) ∧ ∀ r ∈ p.2, r ∈ l from this _ rows rfl
  intro n
  induction n with
  | zero =>
    intro l hl p hp
    rw [List.length_eq_zero_iff.mp hl] at hp
    cases hp
  | succ n ih =>
    intro l hl p hp
    rcases List.eq_nil_or_concat l with e | ⟨l2, r, e⟩
    · rw [e] at hl; cases hl
    · have e : l = l2 ++ [r] := by rw [e]; simp
      subst e
      have ih := ih l2 (by simpa using hl)
      have up : ∀ q ∈ (sts cols l2).all, (∃ r' ∈ l2 ++ [r], q.1 = cellsOf cols r') ∧ ∀ r' ∈ q.2, r' ∈ l2 ++ [r] := fun q hq => by
        obtain ⟨⟨r1, h1, h2⟩, h3⟩ := ih q hq
        exact ⟨⟨r1, List.mem_append_left _ h1, h2⟩, fun x hx => List.mem_append_left _ (h3 x hx)⟩
      have new : (∃ r' ∈ l2 ++ [r], (cellsOf cols r, [r]).1 = cellsOf cols r') ∧ ∀ r' ∈ (cellsOf cols r, [r]).2, r' ∈ l2 ++ [r] := ⟨⟨r, by simp, rfl⟩, fun x hx => by rw [List.mem_singleton.mp hx]; simp⟩
      rw [sts_snoc] at hp
      revert hp up
      rcases sts cols l2 with ⟨t, o⟩
      intro hp up
      cases o with
      | none =>
        rcases List.mem_append.mp (show p ∈ t ++ [(cellsOf cols r, [r])] from hp) with z | z
        · exact up p (List.mem_append_left _ z)
        · rw [List.mem_singleton.mp z]; exact new
      | some q =>
        have hp : p ∈ Sts.all (if q.1 = cellsOf cols r then (t, some (q.1, q.2 ++ [r])) else (t ++ [q], some (cellsOf cols r, [r]))) := hp
        split at hp
        · rcases List.mem_append.mp (show p ∈ t ++ [(q.1, q.2 ++ [r])] from hp) with z | z
          · exact up p (List.mem_append_left _ z)
          · rw [List.mem_singleton.mp z]
            obtain ⟨h1, h2⟩ := up q (List.mem_append_right _ (by simp))
            exact ⟨h1, fun x hx => by
              rcases List.mem_append.mp hx with y | y
              · exact h2 x y
              · rw [List.mem_singleton.mp y]; simp⟩
        · rcases List.mem_append.mp (show p ∈ (t ++ [q]) ++ [(cellsOf cols r, [r])] from hp) with z | z
          · exact up p (by simpa [Sts.all] using z)
          · rw [List.mem_singleton.mp z]; exact new
theorem numb1_mem : ∀ (l : List Rw) (k : Nat) (r : Rw), r ∈ numb1 k l → ∃ r0 ∈ l, ∃ n : Int, r = r0 ++ [.i n]
  | [], _, _, h => nomatch h
  | a :: l, k, r, h => by
    rcases List.mem_cons.mp h with z | z
    · exact ⟨a, List.mem_cons_self, _, z⟩
    · obtain ⟨r0, h1, h2⟩ := numb1_mem l (k + 1) r z
      exact ⟨r0, List.mem_cons_of_mem _ h1, h2⟩
theorem numb1_len : ∀ (l : List Rw) (k : Nat), (numb1 k l).length = l.length
  | [], _ => rfl
  | a :: l, k => by show (numb1 (k + 1) l).length + 1 = l.length + 1; rw [numb1_len l]
theorem folded_ok {h : HdB} {rows : List Rw} (p : RowsOk h rows) {cs : List Int} (q : ∀ c ∈ cs, InH h c) (c : Option Int) : RowsOk (cs.map (hdAt h) ++ [false]) (folded cs c rows) := fun r hr => by
  obtain ⟨s, hs, e⟩ := List.mem_map.mp hr
  subst e
  obtain ⟨⟨r0, h1, h2⟩, _⟩ := sts_keys cs rows s hs
  unfold outOf
  rw [h2]
  exact ok_snoc (ok_cells (p r0 h1) q) _
theorem due_ok {h : HdB} {rows : List Rw} (p : RowsOk h rows) : ∀ {w : Wk}, WkOk h w → RowsOk (hdBehind h w) (due w rows)
  | .sort o, _ => fun r hr => p r (List.mem_mergeSort.mp hr)
  | .apart, _ => fun r hr => p r (apart_mem hr)
  | .count cs, q => folded_ok p q.2 none
  | .sum cs c, q => folded_ok p q.1.2 (some c)
  | .number, _ => fun r hr => by
    obtain ⟨r0, h1, n, e⟩ := numb1_mem rows 1 r hr
    subst e
    exact ok_snoc (p r0 h1) n
  | .first n, _ => fun r hr => p r (List.mem_of_mem_take hr)
  | .cut cs, q => fun r hr => by
    obtain ⟨r0, h1, e⟩ := List.mem_map.mp hr
    subst e
    exact ok_cells (p r0 h1) q.2
theorem due_len (w : Wk) (rows : List Rw) : (due w rows).length ≤ rows.length := by
  cases w with
  | sort o => exact Nat.le_of_eq (List.length_mergeSort _)
  | apart => exact apart_len rows
  | count cs => show ((sts cs rows).all.map _).length ≤ _; rw [List.length_map]; exact sts_len cs rows
  | sum cs c => show ((sts cs rows).all.map _).length ≤ _; rw [List.length_map]; exact sts_len cs rows
  | number => exact Nat.le_of_eq (numb1_len rows 1)
  | first n => show (rows.take _).length ≤ _; rw [List.length_take]; omega
  | cut cs => show (rows.map _).length ≤ _; rw [List.length_map]; exact Nat.le_refl _
theorem hdBehind_pos {h : HdB} (p : 1 ≤ h.length) : ∀ {w : Wk}, WkOk h w → 1 ≤ (hdBehind h w).length
  | .sort o, _ => p
  | .apart, _ => p
  | .count cs, _ => by show 1 ≤ (cs.map _ ++ [false]).length; simp
  | .sum cs c, _ => by show 1 ≤ (cs.map _ ++ [false]).length; simp
  | .number, _ => by show 1 ≤ (h ++ [false]).length; simp
  | .first n, _ => p
  | .cut cs, q => by show 1 ≤ (cs.map _).length; rw [List.length_map]; exact q.1.1
theorem hdBehind_le {h : HdB} (p : h.length ≤ 6) : ∀ {w : Wk}, WkOk h w → (hdBehind h w).length ≤ 6
  | .sort o, _ => p
  | .apart, _ => p
  | .count cs, q => by show (cs.map _ ++ [false]).length ≤ 6; simp; exact q.1
  | .sum cs c, q => by show (cs.map _ ++ [false]).length ≤ 6; simp; exact q.1.1
  | .number, q => by show (h ++ [false]).length ≤ 6; rw [List.length_append]; exact q
  | .first n, _ => p
  | .cut cs, q => by show (cs.map _).length ≤ 6; rw [List.length_map]; exact q.1.2
theorem numb1_zip : ∀ (l : List Rw) (k j : Nat) (d : Int), (k : Int) = d + j → numb1 k l = (l.zipIdx j).map fun p => p.1 ++ [.i (d + (p.2 : Nat))]
  | [], _, _, _, _ => rfl
  | a :: l, k, j, d, h => by
    rw [List.zipIdx_cons, List.map_cons, ← numb1_zip l (k + 1) (j + 1) d (by omega), ← h]
    rfl
/-- the stretches as they stand while rows are fed: their keys -/
theorem sts_some {cols : List Int} {rows : List Rw} {p : Str1} (h : (sts cols rows).2 = some p) : (∃ r ∈ rows, p.1 = cellsOf cols r) ∧ ∀ r ∈ p.2, r ∈ rows := sts_keys cols rows p (List.mem_append_right _ (by rw [h]; simp))
theorem sts_len1 (cols : List Int) (rows : List Rw) : (sts cols rows).1.length ≤ rows.length := by
  have := sts_len cols rows
  unfold Sts.all at this
  rw [List.length_append] at this
  omega
end P32
end DL
namespace DL
open PySem PySem.Spec PyProof.Rows L2
local macro_rules | `(tactic| walk_at "w") => `(tactic| simp only [↓w_skey, ↓s_par3, ↓w_rst, ↓w_fzo, ↓w_tpd, ↓w_pl, ↓w_mko, ↓w_kx, ↓w_kget, ↓w_kls, ↓w_tix, ↓w_lrg, ↓w_tzn, ↓x_tp, sa_tpl, ↓k_tpl, ↓x_tz, sa_tpz, ↓k_tpz, ↓w_meth, ↓w_dnw, ↓s_setA, ↓s_setK, ↓s_raiseI, rz_2, ob_s, dc_s, ↓at_r, ↓at_i, ↓sA_r, ↓sK_r, ↓fo_r, ↓w_mkx1, ↓w_mkx, ↓w_isx, ↓w_atx, mkx_2, gok_n, gok_s, ↓isx_e, ↓atx_e, ↓w_v, ↓g_z, ↓g_s, ↓w_g, ↓w_non, ↓w_bl, ↓w_int, ↓w_str, ↓w_bin, ↓w_neg, ↓w_cmp, ↓w_chain, ↓w_and, ↓w_or, ↓w_not, ↓w_ite, ↓w_tup, ↓w_lst, ↓w_ix, ↓w_sl, ↓w_lc, ↓w_call, ↓w_bi, ↓w_isi, ↓w_mt, ↓w_fz, ↓w_emp, ↓w_sq, ↓sq_x, ↓sq_f, ↓sq_c, ↓w_popE, ↓w_popI, ↓w_sset, ↓w_nset, ↓w_pt, ↓w_shut, ↓w_drop, ↓w_nil, ↓w_cons, ↓w_rep2, ad_s, ↓r2_s, ↓d_mull, ↓d_mult, ↓w_no, ↓w_one, ↓d_muls, ↓w_cnt, ↓w_spm, ↓w_rpr, ↓w_lax, ↓sp_m, ↓rp_t, ↓tg_lst,
  ↓t_val, ↓t_cm, ↓t_and, ↓t_or, ↓t_not, ↓t_nil, ↓t_one, ↓i_seq, ↓i_range1, ↓i_range2, ↓i_enum, ↓i_zip, ↓i_rev, ↓s_nil, ↓s_one, ↓s_cons, ↓s_set, ↓s_asg, ↓s_par, ↓s_setIx, ↓s_setIx2, ↓tup2_ok, ↓s_aug, ↓s_expr, ↓s_app, ↓s_pop, ↓s_ins, ↓s_raise, ↓s_tryAs, ↓s_try, ↓s_ext, ↓s_clear, ↓s_ret, ↓s_retN, ↓s_ite, ↓s_for, ↓s_while, ↓s_pass, ↓s_brk, ↓s_cont, ↓s_opn, ↓s_drp,
  ↓tg_v, ↓tg_tup, ↓tg_nil, ↓tg_cons, ↓wr_nil, ↓wr_cons, sl_v, sl_tup, sl_nil, sl_cons, ↓wk_nx, ↓wk_ct, ↓wk_bk, ↓wk_rt, ls_z, ls_s,
  ↓d_addi, ↓d_adds, ↓d_addt, ↓d_addl, ↓d_addr, ↓d_sub, ↓d_mul, ↓d_fdiv, ↓d_mod, ↓d_pow, ↓n_t, ↓n_f, sl_lst, sl_lk, sp_lst, sa_lst, sa_lk, sa_tup, sl_ref, sp_ref, sa_ref, ↓c_eqi, ↓c_eqs, ↓c_nei, ↓c_nes, ↓c_lt, ↓c_le, ↓c_gt, ↓c_ge, ↓c_lts, ↓c_les, ↓c_gts, ↓c_ges, ↓c_is, ↓c_isnot, n_non, n_int, n_str, n_bl, n_tup, n_lst, n_ref, ↓u_bl, ↓u_int, ↓u_non, ↓u_tup, ↓u_lst,
  ↓x_t, ↓x_l, ↓x_lk, ↓x_r, ↓x_s, a_0, a_1, a_2, a_3, a_m1, last_in, ixN_last, set_len, ixN_m1, ↓z_r, ↓ik, ↓pk, ↓l_s, ↓l_t, ↓l_l, ↓l_lk, ↓l_r, ↓b_tuple, ↓b_listt, ↓b_listl, ↓b_listk, ↓b_listr, ↓b_lists, ↓b_inti, ↓b_intb, ↓b_abs, ↓b_max, ↓b_min, ↓b_divmod, ↓b_str, ↓b_strs, ↓b_strn, ↓b_any, ↓b_all, ↓b_sum, isiOk, isiD, ↓k_tup, ↓k_lst, ↓k_lk, ↓k_str, e_nw, ↓q_t, ↓q_tz, ↓q_l, ↓q_lk, ↓q_s, ↓q_r, ↓r_1, ↓r_2, ↓m_join, ↓m_split, ↓st_is, ↓ch_r, ↓set_r, ↓dr_nil, ↓dr_cons, md_s, md_n, ra_s, ra_r, ra_n, mset_mset,
  optD_some, optD_none, Bool.not_true, Bool.not_false, if_true, if_false, Bool.false_eq_true, List.cons_append, List.nil_append, List.length_cons, List.length_nil, Nat.reduceAdd, Nat.reduceLeDiff, true_and, and_true, and_self, decide_true, decide_false, Option.some.injEq, exists_eq', exists_eq, exists_eq_left, exists_eq_left', reduceIte, List.replicate, Nat.reduceSub, List.map_cons, List.map_nil, potAt_new, Int.reduceToNat, Int.reducePow, Int.reduceLT, Int.reduceLE, Int.reduceNeg, Int.reduceAdd, Int.reduceSub, Int.reduceMul, Int.reduceEq, Nat.reducePow, Nat.reduceLT, Nat.reduceMul, or_true, true_or, false_or, or_false, and_false, false_and, e_wn, ixN_0, ixN_1, ↓sh_new, List.set_cons_zero, List.set_cons_succ, eq_self, decide_true])
open P32
/-! ### k32: the program, walked -/
def eR (r : Rw) : D := .tup (r.map eCell)
def eRs (l : List Rw) : D := .lst (l.map eR)
def eCo (cs : List Int) : D := .tup (cs.map .int)
def eKy (k : Ky) : D := .tup [.int k.1, .bl k.2]
def eOrd (o : List Ky) : D := .tup (o.map eKy)
def wdOf : P32.Wk → Str
  | .sort _ => ⟨#[115, 111, 114, 116]⟩
  | .apart => ⟨#[97, 112, 97, 114, 116]⟩
  | .count _ => ⟨#[99, 111, 117, 110, 116]⟩
  | .sum _ _ => ⟨#[115, 117, 109]⟩
  | .number => ⟨#[110, 117, 109, 98, 101, 114]⟩
  | .first _ => ⟨#[102, 105, 114, 115, 116]⟩
  | .cut _ => ⟨#[99, 117, 116]⟩
def restOf : P32.Wk → List D
  | .sort o => [eOrd o]
  | .apart => []
  | .count cs => [eCo cs]
  | .sum cs c => [eCo cs, .int c]
  | .number => []
  | .first n => [.int n]
  | .cut cs => [eCo cs]
def eW (w : P32.Wk) : D := .tup (.str (wdOf w) :: restOf w)
def CellK (c : Cell) : Prop := match c with
  | .i _ => True
  | .s x => IsWord x
def RowK (r : Rw) : Prop := ∀ c ∈ r, CellK c
theorem plainCellK : Plain eCell CellK 0 where
  ok := fun c h => by
    cases c with
    | i n => rfl
    | s x => exact word_ok h
  dep := fun c h => by cases c <;> exact Nat.le_refl _
  inj := fun a b _ _ h => by cases a <;> cases b <;> simp [eCell, D.nrm] at h <;> subst h <;> rfl
  still := fun c μ _ => by cases c <;> rfl
theorem plainRow : Plain eR RowK 1 := plainCellK.tup
theorem ty_k {b : Bool} {c : Cell} (h : TyC b c) : CellK c := by
  cases c with
  | i n => trivial
  | s x => exact h.2
theorem rowk {h : HdB} {r : Rw} (p : RowOk h r) : RowK r := fun c hc => by
  obtain ⟨k, hk, e⟩ := List.mem_iff_getElem.mp hc
  have := p.2 k (by rw [← p.1]; exact hk)
  rw [List.getD_eq_getElem?_getD, List.getD_eq_getElem?_getD, List.getElem?_eq_getElem hk] at this
  rw [← e]
  exact ty_k this
theorem cells_k {h : HdB} {r : Rw} (p : RowOk h r) {cs : List Int} (q : ∀ c ∈ cs, InH h c) : RowK (cellsOf cs r) := rowk (ok_cells p q)
theorem row_at {h : HdB} {r : Rw} (p : RowOk h r) {c : Int} (q : InH h c) {g : D → Prop} (k : g (eCell (colAt r c))) : optD (atI (r.map eCell) (c - 1)) g := by
  have q1 := q.1
  have q2 := q.2
  have hl : (c - 1).toNat < r.length := by rw [p.1]; omega
  rw [a_nat (by omega), List.getElem?_map, List.getElem?_eq_getElem hl]
  have e : r[(c - 1).toNat] = colAt r c := by
    unfold colAt
    rw [List.getD_eq_getElem?_getD, List.getElem?_eq_getElem hl]
    rfl
  rw [e]
  exact k
section
variable {G : Gc} {μ : Mem} {Q : DK} {X : EK}
theorem rv_t {l : List D} {R : List D → (Mem → Prop) → Mem → Prop} : revIt (.tup l) μ R = R l.reverse (fun _ => True) μ := rfl
def S32_cells_of : FSpec := fun ds μ Q _ => ∃ (h : HdB) (r : Rw) (cs : List Int), ds = [eR r, eCo cs] ∧ RowOk h r ∧ (∀ c ∈ cs, InH h c) ∧ cs.length ≤ 6 ∧ Q (eR (cellsOf cs r)) μ
theorem wp32_cells_of {h : HdB} {r : Rw} {cs : List Int} (p : RowOk h r) (q : ∀ c ∈ cs, InH h c) (hl : cs.length ≤ 6) (k : Q (eR (cellsOf cs r)) μ) : wpSs G b32_cells_of [some (eR r), some (eCo cs), none] μ (Ends0 Q) X := by
  unfold b32_cells_of eCo eR
  walk_at "w"
  refine LC_map cs .int (fun c => eCell (colAt r c)) (by omega) trivial (fun c hc R hR => ?_) ?_
  · try walk_at "w"
    exact row_at p (q c hc) hR
  · have e : cs.map (fun c => eCell (colAt r c)) = (cellsOf cs r).map eCell := by unfold cellsOf; rw [List.map_map]; rfl
    rw [e]
    exact k
/-- rows sorted, one column after the other -/
def S32_sorted_rows (P : Addr) (tq : Str) : FSpec := fun ds μ Q _ => ∃ (h : HdB) (rows : List Rw) (o : List Ky), ds = [.tup (rows.map eR), eOrd o] ∧ μ P = some (.tab tq) ∧ RowsOk h rows ∧ (∀ k ∈ o, InH h k.1) ∧ Q (eRs (rows.mergeSort (lexLe o))) μ
theorem ky_at {h : HdB} {r : Rw} (p : RowOk h r) {c : Int} (q : InH h c) : kyD c (eR r) = eCell (colAt r c) := by
  have h := row_at p q (g := fun d => d = eCell (colAt r c)) rfl
  show (atI (r.map eCell) (c - 1)).getD .non = _
  cases e : atI (r.map eCell) (c - 1) with
  | none => rw [e] at h; exact h.elim
  | some d => rw [e] at h; exact h
theorem ky_le {b : Bool} {x y : Cell} {t : Bool} (h1 : TyC t x) (h2 : TyC t y) : kyLe b (eCell x) (eCell y) = if b = true then ceLe y x else ceLe x y := by
  cases x <;> cases y <;> first | rfl | (cases h1.1.symm.trans h2; done) | (cases h1.symm.trans h2.1; done)
theorem sk_rows {z b : Bool} {h : HdB} {rows : List Rw} {c : Int} {P : Addr} {tq : Str} (hT : μ P = some (.tab tq)) (p : RowsOk h rows) (q : InH h c) (k : newL z ((rows.mergeSort (keLe (c, b))).map eR) μ Q) : skD (some (P, tq)) z b (eRs rows) (.int c) μ Q := by
  refine ⟨hT, ?_⟩
  show (kyI c (rows.map eR) ∨ kyS c (rows.map eR)) ∧ newL z ((rows.map eR).mergeSort fun u v => kyLe b (kyD c u) (kyD c v)) μ Q
  refine ⟨?_, ?_⟩
  · cases e : hdAt h c with
    | false =>
      refine .inl fun y hy => ?_
      obtain ⟨r, hr, rfl⟩ := List.mem_map.mp hy
      rw [ky_at (p r hr) q]
      have t := (p r hr).at q
      rw [e] at t
      cases w : colAt r c with
      | i n => exact ⟨n, rfl⟩
      | s x => rw [w] at t; cases t.1
    | true =>
      refine .inr fun y hy => ?_
      obtain ⟨r, hr, rfl⟩ := List.mem_map.mp hy
      rw [ky_at (p r hr) q]
      have t := (p r hr).at q
      rw [e] at t
      cases w : colAt r c with
      | i n => rw [w] at t; cases t
      | s x => exact ⟨x, rfl⟩
  · rw [← PySem.W.sort_maps eR (r := keLe (c, b)) (s := fun u v => kyLe b (kyD c u) (kyD c v))]
    · exact k
    · intro r1 h1 r2 h2
      show keLe (c, b) r1 r2 = kyLe b (kyD c (eR r1)) (kyD c (eR r2))
      rw [ky_at (p r1 h1) q, ky_at (p r2 h2) q, ky_le ((p r1 h1).at q) ((p r2 h2).at q)]
      rfl
theorem wp32_sorted_rows {P : Addr} {tq : Str} (hG : G.tb = some (P, tq)) {h : HdB} {rows : List Rw} {o : List Ky} (hT : μ P = some (.tab tq)) (p : RowsOk h rows) (q : ∀ k ∈ o, InH h k.1) (k : Q (eRs (rows.mergeSort (lexLe o))) μ) : wpSs G b32_sorted_rows [some (.tup (rows.map eR)), some (eOrd o), none, none, none] μ (Ends0 Q) X := by
  unfold b32_sorted_rows eOrd
  walk_at "w"
  rw [rv_t, ← List.map_reverse]
  refine LP_ty o.reverse eKy (fun s : List Ky => [some (.tup (rows.map eR)), some (.tup (o.map eKy)), some (eRs (sortsR rows s)), none, none]) (fun _ => μ) (fun done s => s = done.reverse) [] rfl rfl rfl (fun done a rest s e hs => ⟨trivial, fun N hN => ?_⟩) (fun s hs => ⟨trivial, ?_⟩)
  · subst hs
    have ha : InH h a.1 := q a (by rw [← List.mem_reverse, e]; simp)
    have pr : RowsOk h (sortsR rows done.reverse) := fun r hr => by
      rw [sortsR_eq] at hr
      exact p r (List.mem_mergeSort.mp hr)
    have fin := hN (done ++ [a]).reverse rfl
    rw [List.reverse_append] at fin
    obtain ⟨c, b⟩ := a
    unfold eKy
    walk_at "w"
    rw [hG]
    cases b with
    | true =>
      rw [if_pos rfl]
      refine sk_rows hT pr ha ?_
      walk_at "w"
      exact fin
    | false =>
      rw [if_neg (by decide)]
      refine sk_rows hT pr ha ?_
      walk_at "w"
      exact fin
  · subst hs
    rw [List.reverse_reverse]
    walk_at "w"
    rw [sortsR_eq]
    exact k
end
end DL
namespace DL
open PySem PySem.Spec PyProof.Rows L2
def b71_l_unlike : Ss := (.cons (.set 2 (.lrg false (.int 1) (.bin true .add (.v 1) (.int 1)))) (.cons (.set 3 (.lst false .nil)) (.cons (.for_ [4] (.v 4) (.range1 (.bin true .add (.int 1) (.call "_law_draw" (.cons (.v 0) (.cons (.v 1) .nil))))) (.cons (.app (.v 3) (.tup (.cons (.popI (.v 2) (.call "_law_draw" (.cons (.v 0) (.cons (.bi true .len (.cons (.v 2) .nil)) .nil)))) (.cons (.cmp .eq (.call "_law_draw" (.cons (.v 0) (.cons (.int 2) .nil))) (.int 1)) .nil)))) .nil)) (.cons (.ret (.drop [2, 3] (.bi true .tuple (.cons (.v 3) .nil)))) .nil))))
end DL
namespace DL
open PySem PySem.Spec PyProof.Rows L2
local macro_rules | `(tactic| walk_at "w") => `(tactic| simp only [↓w_skey, ↓s_par3, ↓w_rst, ↓w_fzo, ↓w_tpd, ↓w_pl, ↓w_mko, ↓w_kx, ↓w_kget, ↓w_kls, ↓w_tix, ↓w_lrg, ↓w_tzn, ↓x_tp, sa_tpl, ↓k_tpl, ↓x_tz, sa_tpz, ↓k_tpz, ↓w_meth, ↓w_dnw, ↓s_setA, ↓s_setK, ↓s_raiseI, rz_2, ob_s, dc_s, ↓at_r, ↓at_i, ↓sA_r, ↓sK_r, ↓fo_r, ↓w_mkx1, ↓w_mkx, ↓w_isx, ↓w_atx, mkx_2, gok_n, gok_s, ↓isx_e, ↓atx_e, ↓w_v, ↓g_z, ↓g_s, ↓w_g, ↓w_non, ↓w_bl, ↓w_int, ↓w_str, ↓w_bin, ↓w_neg, ↓w_cmp, ↓w_chain, ↓w_and, ↓w_or, ↓w_not, ↓w_ite, ↓w_tup, ↓w_lst, ↓w_ix, ↓w_sl, ↓w_lc, ↓w_call, ↓w_bi, ↓w_isi, ↓w_mt, ↓w_fz, ↓w_emp, ↓w_sq, ↓sq_x, ↓sq_f, ↓sq_c, ↓w_popE, ↓w_popI, ↓w_sset, ↓w_nset, ↓w_pt, ↓w_shut, ↓w_drop, ↓w_nil, ↓w_cons, ↓w_rep2, ad_s, ↓r2_s, ↓d_mull, ↓d_mult, ↓w_no, ↓w_one, ↓d_muls, ↓w_cnt, ↓w_spm, ↓w_rpr, ↓w_lax, ↓sp_m, ↓rp_t, ↓tg_lst,
  ↓t_val, ↓t_cm, ↓t_and, ↓t_or, ↓t_not, ↓t_nil, ↓t_one, ↓i_seq, ↓i_range1, ↓i_range2, ↓i_enum, ↓i_zip, ↓i_rev, ↓s_nil, ↓s_one, ↓s_cons, ↓s_set, ↓s_asg, ↓s_par, ↓s_setIx, ↓s_setIx2, ↓tup2_ok, ↓s_aug, ↓s_expr, ↓s_app, ↓s_pop, ↓s_ins, ↓s_raise, ↓s_tryAs, ↓s_try, ↓s_ext, ↓s_clear, ↓s_ret, ↓s_retN, ↓s_ite, ↓s_for, ↓s_while, ↓s_pass, ↓s_brk, ↓s_cont, ↓s_opn, ↓s_drp,
  ↓tg_v, ↓tg_tup, ↓tg_nil, ↓tg_cons, ↓wr_nil, ↓wr_cons, sl_v, sl_tup, sl_nil, sl_cons, ↓wk_nx, ↓wk_ct, ↓wk_bk, ↓wk_rt, ls_z, ls_s,
  ↓d_addi, ↓d_adds, ↓d_addt, ↓d_addl, ↓d_addr, ↓d_sub, ↓d_mul, ↓d_fdiv, ↓d_mod, ↓d_pow, ↓n_t, ↓n_f, sl_lst, sl_lk, sp_lst, sa_lst, sa_lk, sa_tup, sl_ref, sp_ref, sa_ref, ↓c_eqi, ↓c_eqs, ↓c_nei, ↓c_nes, ↓c_lt, ↓c_le, ↓c_gt, ↓c_ge, ↓c_lts, ↓c_les, ↓c_gts, ↓c_ges, ↓c_is, ↓c_isnot, n_non, n_int, n_str, n_bl, n_tup, n_lst, n_ref, ↓u_bl, ↓u_int, ↓u_non, ↓u_tup, ↓u_lst,
  ↓x_t, ↓x_l, ↓x_lk, ↓x_r, ↓x_s, a_0, a_1, a_2, a_3, a_m1, last_in, ixN_last, set_len, ixN_m1, ↓z_r, ↓ik, ↓pk, ↓l_s, ↓l_t, ↓l_l, ↓l_lk, ↓l_r, ↓b_tuple, ↓b_listt, ↓b_listl, ↓b_listk, ↓b_listr, ↓b_lists, ↓b_inti, ↓b_intb, ↓b_abs, ↓b_max, ↓b_min, ↓b_divmod, ↓b_str, ↓b_strs, ↓b_strn, ↓b_any, ↓b_all, ↓b_sum, isiOk, isiD, ↓k_tup, ↓k_lst, ↓k_lk, ↓k_str, e_nw, ↓q_t, ↓q_tz, ↓q_l, ↓q_lk, ↓q_s, ↓q_r, ↓r_1, ↓r_2, ↓m_join, ↓m_split, ↓st_is, ↓ch_r, ↓set_r, ↓dr_nil, ↓dr_cons, md_s, md_n, ra_s, ra_r, ra_n, mset_mset,
  optD_some, optD_none, Bool.not_true, Bool.not_false, if_true, if_false, Bool.false_eq_true, List.cons_append, List.nil_append, List.length_cons, List.length_nil, Nat.reduceAdd, Nat.reduceLeDiff, true_and, and_true, and_self, decide_true, decide_false, Option.some.injEq, exists_eq', exists_eq, exists_eq_left, exists_eq_left', reduceIte, List.replicate, Nat.reduceSub, List.map_cons, List.map_nil, potAt_new, Int.reduceToNat, Int.reducePow, Int.reduceLT, Int.reduceLE, Int.reduceNeg, Int.reduceAdd, Int.reduceSub, Int.reduceMul, Int.reduceEq, Nat.reducePow, Nat.reduceLT, Nat.reduceMul, or_true, true_or, false_or, or_false, and_false, false_and, e_wn, ixN_0, ixN_1, ↓sh_new, List.set_cons_zero, List.set_cons_succ, eq_self, decide_true])
open P32
/-! ### k32: the law's draws -/
theorem mset_com32 {μ : Mem} {a b : Addr} {x y : MO} (h : a ≠ b) : mset (mset μ a x) b y = mset (mset μ b y) a x := by
  funext c
  unfold mset
  by_cases e1 : c = b
  · have e2 : c ≠ a := fun z => h (z.symm.trans e1)
    rw [if_pos e1, if_neg e2, if_pos e1]
  · rw [if_neg e1]
    by_cases e2 : c = a
    · rw [if_pos e2, if_pos e2]
    · rw [if_neg e2, if_neg e2, if_neg e1]
theorem erase_map32 {A B : Type} (g : A → B) : ∀ (l : List A) (j : Nat), (l.map g).eraseIdx j = (l.eraseIdx j).map g
  | [], j => rfl
  | a :: l, 0 => rfl
  | a :: l, j + 1 => by rw [List.map_cons, List.eraseIdx_cons_succ, List.eraseIdx_cons_succ, List.map_cons, erase_map32 g l j]
theorem seq_of32 {M : Mem} {p : Addr} {l : List D} (h : M p = some (.lst l)) : seqL M (.ref p) = some l := by
  show (match M p with | some (.lst l) => some l | _ => none) = some l
  rw [h]
def isWd (s : Str) : Bool := decide (s = ⟨#[119]⟩)
def eHs (hs : List Str) : D := .lst (hs.map .str)
section
variable {G : Gc} {μ : Mem} {Q : DK} {X : EK}
def S32_pot : FSpec := fun ds μ Q _ => ∃ (ns : List Int) (k : Int), ds = [eScript ns, .int k] ∧ 0 ≤ k ∧ k ≤ 1000 ∧ ∀ p, μ p = none → Q (.ref p) (mset μ p (.pot [.int 20]))
theorem wp32_pot (h1 : G.fn "_law_cell_at" = S_cell_at) {ns : List Int} {k : Int} (hk : 0 ≤ k) (hk2 : k ≤ 1000) (h : ∀ p, μ p = none → Q (.ref p) (mset μ p (.pot [.int 20]))) : wpSs G b32_l_pot [some (eScript ns), some (.int k), none] μ (Ends0 Q) X := by
  unfold b32_l_pot
  walk_at "w"
  simp only [h1]
  refine ⟨ns, k, rfl, hk, fun c => ?_⟩
  walk_at "w"
  refine fun p hp => ⟨⟨?_, ?_, ?_⟩, h p hp⟩
  · split <;> rename_i e
    · simp only [decide_eq_true_eq] at e; omega
    · exact Int.le_refl _
  · omega
  · omega
def S32_cell : FSpec := fun ds μ Q _ => ∃ (a : Addr) (s : Str), ds = [.ref a, .str s] ∧ potAt μ a ∧ ∀ c : Cell, TyC (isWd s) c → Q (eCell c) μ
theorem wp32_cell (h0 : G.fn "_law_draw" = S_draw) {a : Addr} {s : Str} (hp : potAt μ a) (h : ∀ c : Cell, TyC (isWd s) c → Q (eCell c) μ) : wpSs G b32_l_cell [some (.ref a), some (.str s), none, none, none] μ (Ends0 Q) X := by
  unfold b32_l_cell
  walk_at "w"
  simp only [h0]
  refine ⟨a, 9, rfl, hp, ⟨by decide, by decide⟩, fun u u0 u1 => ?_⟩
  try walk_at "w"
  by_cases es : s = ⟨#[119]⟩
  · have hw : isWd s = true := decide_eq_true es
    rw [hw] at h
    rw [decide_eq_true es, if_pos rfl]
    by_cases u8 : u < 8
    · rw [decide_eq_true u8, if_pos rfl]
      try walk_at "w"
      refine at_any (l := [D.str ⟨#[97]⟩, .str ⟨#[98]⟩, .str ⟨#[97, 98]⟩, .str ⟨#[99]⟩]) (Int.emod_nonneg _ (by decide)) (Int.emod_lt_of_pos _ (by decide)) fun d hd => ?_
      simp only [List.mem_cons, List.not_mem_nil, or_false] at hd
      rcases hd with rfl | rfl | rfl | rfl
      · exact h (.s ⟨#[97]⟩) ⟨rfl, by decide, by decide, by decide⟩
      · exact h (.s ⟨#[98]⟩) ⟨rfl, by decide, by decide, by decide⟩
      · exact h (.s ⟨#[97, 98]⟩) ⟨rfl, by decide, by decide, by decide⟩
      · exact h (.s ⟨#[99]⟩) ⟨rfl, by decide, by decide, by decide⟩
    · rw [decide_eq_false u8, if_neg (by decide)]
      try walk_at "w"
      refine ⟨a, 8, rfl, hp, ⟨by decide, by decide⟩, fun t t0 t1 => ?_⟩
      try walk_at "w"
      refine ⟨by omega, by omega, ?_⟩
      refine LC_rel (List.range (1 + t).toNat) _ (fun _ d => ∃ c ∈ letters, d = .str ⟨#[c]⟩) (by rw [List.length_range]; omega) trivial (fun x hx R hR => ?_) fun ds hds => ?_
      · refine ⟨a, 26, rfl, hp, ⟨by decide, by decide⟩, fun t t0 t1 => ?_⟩
        try walk_at "w"
        refine ⟨by decide, at_any t0 (show t < (letters.length : Int) from t1) fun c hc => ?_⟩
        exact hR _ ⟨c, hc, rfl⟩
      · obtain ⟨cs, e1, e2, e3⟩ := all2_ex (fun c : Nat => D.str ⟨#[c]⟩) (R := fun c => c ∈ letters) (fun _ b ⟨c, hc, e⟩ => ⟨c, e, hc⟩) hds
        rw [List.length_range] at e2
        have e4 : ds = (cs.map fun c => (⟨#[c]⟩ : Str)).map D.str := by rw [e1, List.map_map]; rfl
        rw [e4, asStrs_map, optD_some, join_signs, List.map_map]
        have e5 : ∀ l : List Nat, (l.map ((fun x : Str => x.length) ∘ fun c => (⟨#[c]⟩ : Str))).sum = l.length := fun l => by
          induction l with
          | nil => rfl
          | cons c l ih => rw [List.map_cons, List.sum_cons, ih, List.length_cons]; show 1 + _ = _; omega
        refine ⟨by rw [e5, show (⟨#[]⟩ : Str).length = 0 from rfl]; omega, h (.s ⟨cs.toArray⟩) ⟨rfl, ?_, ?_, fun c hc => ?_⟩⟩
        · show 1 ≤ cs.toArray.size
          simp; omega
        · show cs.toArray.size ≤ 8
          simp; omega
        · exact letters_in c (e3 c (by simpa using hc))
  · have hw : isWd s = false := decide_eq_false es
    rw [hw] at h
    rw [decide_eq_false es, if_neg (by decide)]
    by_cases u8 : u < 8
    · rw [decide_eq_true u8, if_pos rfl]
      try walk_at "w"
      exact h (.i _) rfl
    · rw [decide_eq_false u8, if_neg (by decide)]
      try walk_at "w"
      refine ⟨a, _, rfl, hp, ⟨by decide, by decide⟩, fun t t0 t1 => ?_⟩
      try walk_at "w"
      exact h (.i _) rfl
def S32_head : FSpec := fun ds μ Q _ => ∃ a : Addr, ds = [.ref a] ∧ potAt μ a ∧ ∀ hs : List Str, 1 ≤ hs.length → hs.length ≤ 6 → Q (eHs hs) μ
theorem wp32_head (h0 : G.fn "_law_draw" = S_draw) {a : Addr} (hp : potAt μ a) (h : ∀ hs : List Str, 1 ≤ hs.length → hs.length ≤ 6 → Q (eHs hs) μ) : wpSs G b32_l_head [some (.ref a), none] μ (Ends0 Q) X := by
  unfold b32_l_head
  walk_at "w"
  simp only [h0]
  refine ⟨a, 6, rfl, hp, ⟨by decide, by decide⟩, fun t t0 t1 => ?_⟩
  try walk_at "w"
  refine ⟨by omega, by omega, ?_⟩
  refine LC_rel (List.range (1 + t).toNat) _ (fun _ d => ∃ s : Str, d = .str s) (by rw [List.length_range]; omega) trivial (fun x hx R hR => ?_) fun ds hds => ?_
  · try walk_at "w"
    refine ⟨a, 2, rfl, hp, ⟨by decide, by decide⟩, fun t t0 t1 => ?_⟩
    try walk_at "w"
    exact at2 t0 (by omega) (fun _ => hR _ ⟨_, rfl⟩) fun _ => hR _ ⟨_, rfl⟩
  · obtain ⟨cs, e1, e2, _⟩ := all2_ex (fun s : Str => D.str s) (R := fun _ => True) (fun _ b ⟨c, e⟩ => ⟨c, e, trivial⟩) hds
    rw [List.length_range] at e2
    rw [e1]
    exact h cs (by omega) (by omega)
theorem wp32_order (h0 : G.fn "_law_draw" = S_draw) {a : Addr} {w : Int} (hp : potAt μ a) (w1 : 1 ≤ w) (w2 : w ≤ 6) (h : ∀ o : List (Int × Bool), o.length ≤ 6 → (∀ p ∈ o, 1 ≤ p.1 ∧ p.1 ≤ w) → Q (.tup (o.map eKy)) μ) :
    wpSs G b71_l_unlike [some (.ref a), some (.int w), none, none, none] μ (Ends0 Q) X := by
  unfold b71_l_unlike
  walk_at "w"
  simp only [h0]
  refine ⟨RgOk.of_le (by omega) (by omega) (by omega) (by omega), fun p hq => ?_⟩
  try walk_at "w"
  intro q hq2
  have qa : q ≠ p := fun e => by rw [e, mset_same] at hq2; cases hq2
  have hq3 : μ q = none := by rw [mset_ne qa] at hq2; exact hq2
  have pot1 : ∀ l l2, potAt (mset (mset μ p (.lst l)) q (.lst l2)) a := fun l l2 => potAt_lst (potAt_lst hp hq) (by rw [mset_ne qa]; exact hq3)
  try walk_at "w"
  refine ⟨a, w, rfl, pot1 _ _, ⟨by omega, by omega⟩, fun u u0 u1 => ?_⟩
  try walk_at "w"
  refine ⟨by omega, by omega, ?_⟩
  have e0 : ((List.range (w + 1 - 1).toNat).map fun k => D.int (1 + (k : Nat))) = ((List.range w.toNat).map fun k => (1 : Int) + (k : Nat)).map .int := by
    rw [List.map_map, show w + 1 - 1 = w by omega]
    rfl
  rw [e0]
  refine LP_ty (List.range (1 + u).toNat) (fun k => D.int (0 + (k : Nat))) (fun _ : List Int × List (Int × Bool) => [some (.ref a), some (.int w), some (.ref p), some (.ref q), none]) (fun s => mset (mset μ p (.lst (s.1.map .int))) q (.lst (s.2.map eKy)))
    (fun done s => (s.2.length = done.length ∧ s.1.length + done.length = w.toNat) ∧ (∀ x ∈ s.1, 1 ≤ x ∧ x ≤ w) ∧ ∀ x ∈ s.2, 1 ≤ x.1 ∧ x.1 ≤ w) ((List.range w.toNat).map fun k => (1 : Int) + (k : Nat), []) rfl rfl ⟨⟨rfl, by rw [List.length_map, List.length_range]; rfl⟩, (fun x hx => by
      obtain ⟨k, hk, rfl⟩ := List.mem_map.mp hx
      rw [List.mem_range] at hk
      omega), fun x hx => nomatch hx⟩ ?_ ?_
  · rintro done k rest ⟨L, f⟩ e ⟨⟨hl, hl2⟩, hg, hg2⟩
    dsimp only at hl hl2 hg hg2
    have ld : done.length + 1 ≤ w.toNat := by
      have := congrArg List.length e
      simp only [List.length_range, List.length_append, List.length_cons] at this
      omega
    have sp : ∀ (L : List Int) (F : List D), seqL (mset (mset μ p (.lst (L.map .int))) q (.lst F)) (.ref p) = some (L.map .int) := fun L F => seq_of32 (by rw [mset_ne (Ne.symm qa), mset_same])
    refine ⟨trivial, fun N hN => ?_⟩
    try walk_at "w"
    refine ⟨⟨_, sp _ _⟩, ?_⟩
    rw [sp, optD_some]
    refine ⟨a, ((L.map D.int).length : Nat), rfl, pot1 _ _, ⟨by rw [List.length_map]; omega, by rw [List.length_map]; omega⟩, fun v v0 v1 => ?_⟩
    rw [List.length_map] at v1
    show optD (seqL (mset (mset μ p (.lst (L.map .int))) q (.lst (f.map eKy))) (.ref p)) _
    rw [sp, optD_some]
    refine ⟨⟨by omega, by omega⟩, ?_⟩
    have hv : v.toNat < L.length := by omega
    have e1 : seqIndex? v (L.map D.int).length = some v.toNat := by
      rw [List.length_map]
      simp only [seqIndex?]
      rw [if_neg (show ¬ v < 0 by omega)]
      exact if_pos (by rw [Bool.and_eq_true, decide_eq_true_eq, decide_eq_true_eq]; exact ⟨by omega, by omega⟩)
    rw [e1, optD_some, List.getElem?_map, List.getElem?_eq_getElem hv, Option.map_some, optD_some]
    have em : mset (mset (mset μ p (.lst (L.map .int))) q (.lst (f.map eKy))) p (.lst ((L.map D.int).eraseIdx v.toNat)) = mset (mset μ p (.lst ((L.eraseIdx v.toNat).map .int))) q (.lst (f.map eKy)) := by
      rw [mset_com32 qa, mset_mset, erase_map32]
    rw [em]
    refine ⟨a, 2, rfl, pot1 _ _, ⟨by decide, by decide⟩, fun x x0 x1 => ?_⟩
    try walk_at "w"
    refine ⟨by rw [List.length_map]; omega, ?_⟩
    try rw [mset_mset]
    have mm := hg _ (List.getElem_mem hv)
    have q := hN (L.eraseIdx v.toNat, f ++ [(L[v.toNat], decide (x = 1))]) ⟨⟨by simp [hl], by rw [List.length_eraseIdx_of_lt hv, List.length_append, List.length_singleton]; omega⟩, fun y hy => hg y (List.mem_of_mem_eraseIdx hy), fun y hy => by
      rcases List.mem_append.mp hy with z | z
      · exact hg2 y z
      · rw [List.mem_singleton.mp z]; exact mm⟩
    dsimp only at q
    rw [List.map_append] at q
    exact q
  · rintro ⟨L, f⟩ ⟨⟨hl, hl2⟩, hg, hg2⟩
    dsimp only at hl hl2 hg hg2
    rw [List.length_range] at hl
    refine ⟨trivial, ?_⟩
    try walk_at "w"
    rw [mset_com32 (Ne.symm qa), mdel_mset (by rw [mset_ne (Ne.symm qa)]; exact hq), mdel_mset hq3]
    exact h f (by omega) hg2
def S32_order : FSpec := fun ds μ Q _ => ∃ (a : Addr) (w : Int), ds = [.ref a, .int w] ∧ potAt μ a ∧ 1 ≤ w ∧ w ≤ 6 ∧ ∀ o : List (Int × Bool), o.length ≤ 6 → (∀ p ∈ o, 1 ≤ p.1 ∧ p.1 ≤ w) → Q (.tup (o.map eKy)) μ
def S32_columns : FSpec := fun ds μ Q _ => ∃ (a : Addr) (w lo hi : Int), ds = [.ref a, .int w, .int lo, .int hi] ∧ potAt μ a ∧ (1 ≤ w ∧ w ≤ 6) ∧ (0 ≤ lo ∧ lo ≤ hi ∧ hi ≤ 6) ∧ ∀ cs : List Int, lo ≤ (cs.length : Nat) → (cs.length : Nat) ≤ hi → (∀ c ∈ cs, 1 ≤ c ∧ c ≤ w) → Q (eCo cs) μ
theorem wp32_columns (h0 : G.fn "_law_draw" = S_draw) {a : Addr} {w lo hi : Int} (hp : potAt μ a) (hw : 1 ≤ w ∧ w ≤ 6) (hb : 0 ≤ lo ∧ lo ≤ hi ∧ hi ≤ 6) (h : ∀ cs : List Int, lo ≤ (cs.length : Nat) → (cs.length : Nat) ≤ hi → (∀ c ∈ cs, 1 ≤ c ∧ c ≤ w) → Q (eCo cs) μ) : wpSs G b32_l_columns [some (.ref a), some (.int w), some (.int lo), some (.int hi), none] μ (Ends0 Q) X := by
  unfold b32_l_columns
  walk_at "w"
  simp only [h0]
  refine ⟨a, _, rfl, hp, ⟨by omega, by omega⟩, fun t t0 t1 => ?_⟩
  try walk_at "w"
  refine ⟨by omega, by omega, ?_⟩
  refine LC_rel (List.range (lo + t).toNat) _ (fun _ d => ∃ c : Int, d = .int c ∧ 1 ≤ c ∧ c ≤ w) (by rw [List.length_range]; omega) trivial (fun x hx R hR => ?_) fun ds hds => ?_
  · try walk_at "w"
    refine ⟨a, w, rfl, hp, ⟨by omega, by omega⟩, fun t t0 t1 => ?_⟩
    try walk_at "w"
    exact hR _ ⟨_, rfl, by omega, by omega⟩
  · obtain ⟨cs, e1, e2, e3⟩ := all2_ex (fun c : Int => D.int c) (R := fun c => 1 ≤ c ∧ c ≤ w) (fun _ b ⟨c, e, q⟩ => ⟨c, e, q⟩) hds
    rw [List.length_range] at e2
    rw [e1]
    try walk_at "w"
    exact h cs (by omega) (by omega) e3
end
end DL
namespace DL
open PySem PySem.Spec PyProof.Rows L2
local macro_rules | `(tactic| walk_at "w") => `(tactic| simp only [↓w_skey, ↓s_par3, ↓w_rst, ↓w_fzo, ↓w_tpd, ↓w_pl, ↓w_mko, ↓w_kx, ↓w_kget, ↓w_kls, ↓w_tix, ↓w_lrg, ↓w_tzn, ↓x_tp, sa_tpl, ↓k_tpl, ↓x_tz, sa_tpz, ↓k_tpz, ↓w_meth, ↓w_dnw, ↓s_setA, ↓s_setK, ↓s_raiseI, rz_2, ob_s, dc_s, ↓at_r, ↓at_i, ↓sA_r, ↓sK_r, ↓fo_r, ↓w_mkx1, ↓w_mkx, ↓w_isx, ↓w_atx, mkx_2, gok_n, gok_s, ↓isx_e, ↓atx_e, ↓w_v, ↓g_z, ↓g_s, ↓w_g, ↓w_non, ↓w_bl, ↓w_int, ↓w_str, ↓w_bin, ↓w_neg, ↓w_cmp, ↓w_chain, ↓w_and, ↓w_or, ↓w_not, ↓w_ite, ↓w_tup, ↓w_lst, ↓w_ix, ↓w_sl, ↓w_lc, ↓w_call, ↓w_bi, ↓w_isi, ↓w_mt, ↓w_fz, ↓w_emp, ↓w_sq, ↓sq_x, ↓sq_f, ↓sq_c, ↓w_popE, ↓w_popI, ↓w_sset, ↓w_nset, ↓w_pt, ↓w_shut, ↓w_drop, ↓w_nil, ↓w_cons, ↓w_rep2, ad_s, ↓r2_s, ↓d_mull, ↓d_mult, ↓w_no, ↓w_one, ↓d_muls, ↓w_cnt, ↓w_spm, ↓w_rpr, ↓w_lax, ↓sp_m, ↓rp_t, ↓tg_lst,
  ↓t_val, ↓t_cm, ↓t_and, ↓t_or, ↓t_not, ↓t_nil, ↓t_one, ↓i_seq, ↓i_range1, ↓i_range2, ↓i_enum, ↓i_zip, ↓i_rev, ↓s_nil, ↓s_one, ↓s_cons, ↓s_set, ↓s_asg, ↓s_par, ↓s_setIx, ↓s_setIx2, ↓tup2_ok, ↓s_aug, ↓s_expr, ↓s_app, ↓s_pop, ↓s_ins, ↓s_raise, ↓s_tryAs, ↓s_try, ↓s_ext, ↓s_clear, ↓s_ret, ↓s_retN, ↓s_ite, ↓s_for, ↓s_while, ↓s_pass, ↓s_brk, ↓s_cont, ↓s_opn, ↓s_drp,
  ↓tg_v, ↓tg_tup, ↓tg_nil, ↓tg_cons, ↓wr_nil, ↓wr_cons, sl_v, sl_tup, sl_nil, sl_cons, ↓wk_nx, ↓wk_ct, ↓wk_bk, ↓wk_rt, ls_z, ls_s,
  ↓d_addi, ↓d_adds, ↓d_addt, ↓d_addl, ↓d_addr, ↓d_sub, ↓d_mul, ↓d_fdiv, ↓d_mod, ↓d_pow, ↓n_t, ↓n_f, sl_lst, sl_lk, sp_lst, sa_lst, sa_lk, sa_tup, sl_ref, sp_ref, sa_ref, ↓c_eqi, ↓c_eqs, ↓c_nei, ↓c_nes, ↓c_lt, ↓c_le, ↓c_gt, ↓c_ge, ↓c_lts, ↓c_les, ↓c_gts, ↓c_ges, ↓c_is, ↓c_isnot, n_non, n_int, n_str, n_bl, n_tup, n_lst, n_ref, ↓u_bl, ↓u_int, ↓u_non, ↓u_tup, ↓u_lst,
  ↓x_t, ↓x_l, ↓x_lk, ↓x_r, ↓x_s, a_0, a_1, a_2, a_3, a_m1, last_in, ixN_last, set_len, ixN_m1, ↓z_r, ↓ik, ↓pk, ↓l_s, ↓l_t, ↓l_l, ↓l_lk, ↓l_r, ↓b_tuple, ↓b_listt, ↓b_listl, ↓b_listk, ↓b_listr, ↓b_lists, ↓b_inti, ↓b_intb, ↓b_abs, ↓b_max, ↓b_min, ↓b_divmod, ↓b_str, ↓b_strs, ↓b_strn, ↓b_any, ↓b_all, ↓b_sum, isiOk, isiD, ↓k_tup, ↓k_lst, ↓k_lk, ↓k_str, e_nw, ↓q_t, ↓q_tz, ↓q_l, ↓q_lk, ↓q_s, ↓q_r, ↓r_1, ↓r_2, ↓m_join, ↓m_split, ↓st_is, ↓ch_r, ↓set_r, ↓dr_nil, ↓dr_cons, md_s, md_n, ra_s, ra_r, ra_n, mset_mset,
  optD_some, optD_none, Bool.not_true, Bool.not_false, if_true, if_false, Bool.false_eq_true, List.cons_append, List.nil_append, List.length_cons, List.length_nil, Nat.reduceAdd, Nat.reduceLeDiff, true_and, and_true, and_self, decide_true, decide_false, Option.some.injEq, exists_eq', exists_eq, exists_eq_left, exists_eq_left', reduceIte, List.replicate, Nat.reduceSub, List.map_cons, List.map_nil, potAt_new, Int.reduceToNat, Int.reducePow, Int.reduceLT, Int.reduceLE, Int.reduceNeg, Int.reduceAdd, Int.reduceSub, Int.reduceMul, Int.reduceEq, Nat.reducePow, Nat.reduceLT, Nat.reduceMul, or_true, true_or, false_or, or_false, and_false, false_and, e_wn, ixN_0, ixN_1, ↓sh_new, List.set_cons_zero, List.set_cons_succ, eq_self, decide_true])
open P32
/-! ### k32: machines fed -/
theorem mdel_new {μ : Mem} {a : Addr} {o : MO} (h : μ a = none) : mdel (mset μ a o) a = μ := by
  funext b
  unfold mdel mset
  split <;> rename_i e
  · rw [e, h]
  · rfl
section
variable {G : Gc} {μ : Mem} {Q : DK} {X : EK}
/-- the state of `apart`: the last row, if there is one -/
def eSo (o : Option Rw) : D := .tup (o.toList.map eR)
def S32_apart_fed : FSpec := fun ds μ Q _ => ∃ (h : HdB) (rows : List Rw), ds = [.tup [], eRs rows] ∧ RowsOk h rows ∧ rows.length ≤ 60 ∧ Q (.tup [eSo rows.getLast?, eRs (apart rows)]) μ
theorem wp32_apart_fed {h : HdB} {rows : List Rw} (p : RowsOk h rows) (hl : rows.length ≤ 60) (k : Q (.tup [eSo rows.getLast?, eRs (apart rows)]) μ) : wpSs G b32_apart_fed [some (.tup []), some (eRs rows), none, none] μ (Ends0 Q) X := by
  unfold b32_apart_fed eRs
  walk_at "w"
  intro a ha
  refine LP_ty rows eR (fun s : List Rw => [some (eSo s.getLast?), some (.lst (rows.map eR)), some (.ref a), none]) (fun s => mset μ a (.lst ((apart s).map eR))) (fun done s => s = done) [] rfl rfl rfl (fun done r rest s e hs => ⟨trivial, fun N hN => ?_⟩) (fun s hs => ⟨trivial, ?_⟩)
  · subst hs
    have fin := hN (s ++ [r]) rfl
    rw [apart_snoc, List.getLast?_concat] at fin
    have hr : RowK r := rowk (p r (by rw [e]; simp))
    have hs : ∀ x ∈ s.getLast?.toList, RowK x := fun x hx => by
      have : s.getLast? = some x := by simpa using hx
      exact rowk (p x (by rw [e]; exact List.mem_append_left _ (List.mem_of_getLast? this)))
    have sl : s.length ≤ 60 := by have := congrArg List.length e; simp at this; omega
    have al := apart_len s
    unfold eSo
    walk_at "w"
    refine Plain.ne plainRow.tup (by decide) (a := s.getLast?.toList) (b := [r]) hs (fun x hx => by rw [List.mem_singleton.mp hx]; exact hr) ?_
    by_cases c : s.getLast? = some r
    · rw [decide_eq_true (show s.getLast?.toList = [r] by rw [c]; rfl)]
      rw [if_pos c, List.append_nil] at fin
      walk_at "w"
      exact fin
    · rw [decide_eq_false (show ¬ s.getLast?.toList = [r] from fun z => c (by
        cases q : s.getLast? with
        | none => rw [q] at z; cases z
        | some y => rw [q] at z; cases z; rfl))]
      rw [if_neg c, List.map_append] at fin
      walk_at "w"
      rw [List.length_map]
      exact ⟨by omega, fin⟩
  · subst hs
    walk_at "w"
    rw [mdel_new ha]
    exact k
/-- the state of stretches -/
def eSt (c : Option Int) (o : Option Str1) : D := match o with
  | none => .tup []
  | some p => .tup [eR p.1, .int (valOf c p.2)]
def S32_stretch_row : FSpec := fun ds μ Q _ => ∃ (c : Option Int) (o : Option Str1), ds = [eSt c o] ∧ (∀ p, o = some p → p.1.length ≤ 6) ∧ Q (eRs (o.toList.map (outOf c))) μ
theorem wp32_stretch_row {c : Option Int} {o : Option Str1} (hl : ∀ p, o = some p → p.1.length ≤ 6) (k : Q (eRs (o.toList.map (outOf c))) μ) : wpSs G b32_stretch_row [some (eSt c o), none, none] μ (Ends0 Q) X := by
  unfold b32_stretch_row
  cases o with
  | none =>
    unfold eSt
    walk_at "w"
    refine LC_map ([] : List Unit) (fun _ => .non) (fun _ => .non) (by decide) trivial (fun a ha => nomatch ha) ?_
    exact k
  | some p =>
    unfold eSt
    walk_at "w"
    refine LC_map [p] (fun p => .tup [eR p.1, .int (valOf c p.2)]) (fun p => eR (outOf c p)) (by show 1 ≤ 16777216; decide) trivial (fun a ha R hR => ?_) ?_
    · have := hl a (by rw [List.mem_singleton.mp ha])
      unfold eR
      walk_at "w"
      rw [List.length_map]
      refine ⟨by omega, ?_⟩
      unfold outOf eR at hR
      rw [List.map_append] at hR
      exact hR
    · exact k

def rowLen {h : HdB} {r : Rw} (p : RowOk h r) (q : h.length ≤ 6) : r.length ≤ 6 := by rw [p.1]; exact q
theorem stOk {h : HdB} {rows : List Rw} (p : RowsOk h rows) {cs : List Int} (q : ∀ c ∈ cs, InH h c) {s : Str1} (e : (sts cs rows).2 = some s) : RowK s.1 ∧ s.1.length = cs.length := by
  obtain ⟨⟨r, h1, h2⟩, _⟩ := sts_some e
  rw [h2]
  exact ⟨cells_k (p r h1) q, by simp [cellsOf]⟩
/-- count or sum -/
def wkS (c : Option Int) (cs : List Int) : P32.Wk := match c with
  | none => .count cs
  | some c => .sum cs c
def fedS (c : Option Int) (cs : List Int) (rows : List Rw) : D := .tup [eSt c (sts cs rows).2, eRs ((sts cs rows).1.map (outOf c))]
def S32_stretches_fed : FSpec := fun ds μ Q _ => ∃ (h : HdB) (rows : List Rw) (c : Option Int) (cs : List Int), ds = [eW (wkS c cs), .tup [], eRs rows] ∧ RowsOk h rows ∧ rows.length ≤ 60 ∧ cs.length ≤ 5 ∧ (∀ c ∈ cs, InH h c) ∧ (∀ x, c = some x → InH h x ∧ hdAt h x = false) ∧ Q (fedS c cs rows) μ
theorem int_at {h : HdB} {r : Rw} (p : RowOk h r) {c : Int} (q : InH h c) (t : hdAt h c = false) : eCell (colAt r c) = .int (intOf (colAt r c)) := by
  have := p.at q
  rw [t] at this
  cases e : colAt r c with
  | i n => rfl
  | s x => rw [e] at this; cases this.1
def eStP (c : Option Int) (cells : Rw) (more : Int) (o : Option Str1) : D := match o with
  | none => .tup []
  | some s => .tup [eR cells, .int (P32.valOf c s.2 + more)]
theorem turn32 {done : List Rw} {r : Rw} {c : Option Int} {cs : List Int} {a : Addr} {W R : D}
    {N : Rho → Mem → Prop} (fin : N [some W, some (eSt c (stS cs (sts cs done) r).2), some R, some (.ref a), none, none, none] (mset μ a (.lst (((stS cs (sts cs done) r).1.map (outOf c)).map eR)))) :
    (if (sts cs done).2.any (fun s => decide (s.1 = cellsOf cs r)) = true then N [some W, some (eStP c (cellsOf cs r) (P32.valOf c [r]) (sts cs done).2), some R, some (.ref a), none, none, none] (mset μ a (.lst (((sts cs done).1.map (outOf c)).map eR)))
      else N [some W, some (.tup [eR (cellsOf cs r), .int (P32.valOf c [r])]), some R, some (.ref a), none, none, none] (mset μ a (.lst (((sts cs done).1.map (outOf c)).map eR ++ ((sts cs done).2.toList.map (outOf c)).map eR)))) := by
  revert fin
  rcases sts cs done with ⟨t, o⟩
  cases o with
  | none =>
    intro fin
    rw [if_neg (by simp)]
    simpa [stS, eSt] using fin
  | some s =>
    intro fin
    by_cases z : s.1 = cellsOf cs r
    · rw [if_pos (by simp [z])]
      simp only [stS, if_pos z] at fin
      simp only [eSt, valOf_snoc] at fin
      rw [← z]
      exact fin
    · rw [if_neg (by simp [z])]
      simp only [stS, if_neg z, eSt] at fin
      simpa using fin
theorem tail32 {c : Option Int} {o : Option Str1} {T : List Str1} {W R : D} {a : Addr} {more : Int} {cells : Rw} (so : ∀ x, o = some x → RowK x.1 ∧ x.1.length ≤ 5) (ck : RowK cells) (l1 : T.length ≤ 60) {N : Rho → Mem → Prop}
    (fin : if o.any (fun s => decide (s.1 = cells)) = true then N [some W, some (eStP c cells more o), some R, some (.ref a), none, none, none] (mset μ a (.lst ((T.map (outOf c)).map eR)))
      else N [some W, some (.tup [eR cells, .int more]), some R, some (.ref a), none, none, none] (mset μ a (.lst ((T.map (outOf c)).map eR ++ (o.toList.map (outOf c)).map eR)))) :
    cmpD .ne (eSt c o) (.tup []) (mset μ a (.lst ((T.map (outOf c)).map eR))) fun b => if b = true then ixD (eSt c o) (.int 0) (mset μ a (.lst ((T.map (outOf c)).map eR))) fun x μ1 => cmpD .eq x (eR cells) μ1 fun b =>
        if b = true then ixD (eSt c o) (.int 1) μ1 fun x μ1 => binD true .add x (.int more) μ1 fun d μ1 => N [some W, some (.tup [eR cells, d]), some R, some (.ref a), none, none, none] μ1
        else (∃ l, seqL μ1 (.ref a) = some l) ∧ S32_stretch_row [eSt c o] μ1 (fun d μ2 => optD (seqL μ2 (.ref a)) fun l => optD (seqP μ2 d) fun r1 => l.length + r1.length ≤ 16777216 ∧ N [some W, some (.tup [eR cells, .int more]), some R, some (.ref a), none, none, none] (mset μ2 a (.lst (l ++ r1)))) X
      else S32_stretch_row [eSt c o] (mset μ a (.lst ((T.map (outOf c)).map eR))) (fun d μ2 => optD (seqL μ2 (.ref a)) fun l => optD (seqP μ2 d) fun r1 => l.length + r1.length ≤ 16777216 ∧ N [some W, some (.tup [eR cells, .int more]), some R, some (.ref a), none, none, none] (mset μ2 a (.lst (l ++ r1)))) X := by
  have els : (∀ p, o = some p → p.1.length ≤ 6) → o.any (fun s => decide (s.1 = cells)) = false → (∃ l, seqL (mset μ a (.lst ((T.map (outOf c)).map eR))) (.ref a) = some l) ∧ S32_stretch_row [eSt c o] (mset μ a (.lst ((T.map (outOf c)).map eR))) (fun d μ2 => optD (seqL μ2 (.ref a)) fun l => optD (seqP μ2 d) fun r1 => l.length + r1.length ≤ 16777216 ∧ N [some W, some (.tup [eR cells, .int more]), some R, some (.ref a), none, none, none] (mset μ2 a (.lst (l ++ r1)))) X := fun hp hn => by
    rw [hn, if_neg (by decide)] at fin
    refine ⟨⟨_, sl_ref⟩, c, o, rfl, hp, ?_⟩
    show optD (seqL _ _) _
    rw [sl_ref, optD_some]
    show optD (seqP _ (D.lst _)) _
    rw [sp_lst, optD_some, mset_mset, List.length_map, List.length_map, List.length_map, List.length_map]
    refine ⟨?_, fin⟩
    have : o.toList.length ≤ 1 := by cases o <;> simp
    omega
  cases o with
  | none =>
    refine eq_nilT (l := []) rfl (by decide) ?_
    show if (!true) = true then _ else _
    rw [if_neg (by decide)]
    exact (els (fun p hp => nomatch hp) rfl).2
  | some s =>
    obtain ⟨k1, k2⟩ := so s rfl
    refine eq_nilT (l := [eR s.1, .int (P32.valOf c s.2)]) ?_ ?_ ?_
    · show ((eR s.1).ok && (true && true)) = true
      rw [plainRow.ok _ k1]; rfl
    · show max (eR s.1).dep (max 0 0) < 64
      have := plainRow.dep _ k1
      omega
    show if (!false) = true then _ else _
    rw [if_pos (by decide)]
    show ixD (.tup [eR s.1, .int (P32.valOf c s.2)]) _ _ _
    walk_at "w"
    refine Plain.eq plainRow (by decide) k1 ck ?_
    by_cases z : s.1 = cells
    · rw [decide_eq_true z, if_pos rfl]
      rw [if_pos (by simp [z])] at fin
      show ixD (.tup [eR s.1, .int (P32.valOf c s.2)]) _ _ _
      walk_at "w"
      exact fin
    · rw [decide_eq_false z, if_neg (by decide)]
      exact (els (fun p hp => by cases hp; omega) (by simp [z])).2
theorem wp32_stretches_fed (h1 : G.fn "cells_of" = S32_cells_of) (h2 : G.fn "stretch_row" = S32_stretch_row) {h : HdB} {rows : List Rw} {c : Option Int} {cs : List Int} (p : RowsOk h rows) (hl : rows.length ≤ 60) (cl : cs.length ≤ 5) (q : ∀ c ∈ cs, InH h c) (t : ∀ x, c = some x → InH h x ∧ hdAt h x = false) (k : Q (fedS c cs rows) μ) :
    wpSs G b32_stretches_fed [some (eW (wkS c cs)), some (.tup []), some (eRs rows), none, none, none, none] μ (Ends0 Q) X := by
  unfold b32_stretches_fed eRs
  walk_at "w"
  intro a ha
  refine LP_ty rows eR (fun s : List Rw => [some (eW (wkS c cs)), some (eSt c (sts cs s).2), some (.lst (rows.map eR)), some (.ref a), none, none, none]) (fun s => mset μ a (.lst (((sts cs s).1.map (outOf c)).map eR))) (fun done s => s = done) [] rfl rfl rfl (fun done r rest s e hs => ⟨trivial, fun N hN => ?_⟩) (fun s hs => ⟨trivial, ?_⟩)
  · subst hs
    have fin := hN (s ++ [r]) rfl
    rw [sts_snoc] at fin
    have fin := turn32 fin
    have hr : RowOk h r := p r (by rw [e]; simp)
    have ps : RowsOk h s := fun x hx => p x (by rw [e]; exact List.mem_append_left _ hx)
    have ck : RowK (cellsOf cs r) := cells_k hr q
    have sl : s.length ≤ 60 := by have := congrArg List.length e; simp at this; omega
    have so : ∀ x, (sts cs s).2 = some x → RowK x.1 ∧ x.1.length ≤ 5 := fun x hx => ⟨(stOk ps q hx).1, by rw [(stOk ps q hx).2]; exact cl⟩
    have l1 : (sts cs s).1.length ≤ 60 := Nat.le_trans (sts_len1 cs s) sl
    cases c with
    | none =>
      rw [show P32.valOf none [r] = 1 from rfl] at fin
      have e0 : eW (wkS none cs) = .tup [.str ⟨#[99, 111, 117, 110, 116]⟩, eCo cs] := rfl
      rw [e0] at fin ⊢
      walk_at "w"
      simp only [h1, h2]
      refine ⟨h, r, cs, rfl, hr, q, by omega, ?_⟩
      walk_at "w"
      rw [if_neg (by decide)]
      exact tail32 (X := X) so ck l1 fin
    | some c =>
      rw [show P32.valOf (some c) [r] = intOf (colAt r c) from valOf_one (some c) r] at fin
      obtain ⟨t1, t2⟩ := t c rfl
      have e0 : eW (wkS (some c) cs) = .tup [.str ⟨#[115, 117, 109]⟩, eCo cs, .int c] := rfl
      rw [e0] at fin ⊢
      walk_at "w"
      simp only [h1, h2]
      refine ⟨h, r, cs, rfl, hr, q, by omega, ?_⟩
      walk_at "w"
      try rw [if_pos (by decide)]
      show optD (atI (r.map eCell) (c - 1)) _
      refine row_at hr t1 ?_
      rw [int_at hr t1 t2]
      try walk_at "w"
      exact tail32 (X := X) so ck l1 fin
  · subst hs
    walk_at "w"
    rw [mdel_new ha]
    exact k
theorem enum_l32 {l : List D} {R : List D → (Mem → Prop) → Mem → Prop} : enumIt (.lst l) μ R = R (numb l) (fun _ => True) μ := rfl
theorem numb_zip {A : Type} (l : List A) (e : A → D) : numb (l.map e) = l.zipIdx.map fun p => .tup [.int ((p.2 : Nat) : Int), e p.1] := by
  unfold numb
  apply List.ext_getElem
  · simp
  · intro i h1 h2
    simp
def S32_numbered : FSpec := fun ds μ Q _ => ∃ (h : HdB) (rows : List Rw), ds = [.tup [.int 1], eRs rows] ∧ RowsOk h rows ∧ rows.length ≤ 60 ∧ h.length ≤ 6 ∧ Q (.tup [.tup [.int (1 + (rows.length : Nat))], eRs (numb1 1 rows)]) μ
theorem wp32_numbered {h : HdB} {rows : List Rw} (p : RowsOk h rows) (hl : rows.length ≤ 60) (hh : h.length ≤ 6) (k : Q (.tup [.tup [.int (1 + (rows.length : Nat))], eRs (numb1 1 rows)]) μ) : wpSs G b32_numbered [some (.tup [.int 1]), some (eRs rows), none, none, none] μ (Ends0 Q) X := by
  unfold b32_numbered eRs
  walk_at "w"
  rw [enum_l32, numb_zip]
  refine LC_map rows.zipIdx _ (fun x => eR (x.1 ++ [.i (1 + (x.2 : Nat))])) (by simp; omega) trivial (fun x hx R hR => ?_) ?_
  · have hm : x.1 ∈ rows := by
      obtain ⟨i, hi, e⟩ := List.mem_iff_getElem.mp hx
      rw [List.getElem_zipIdx] at e
      rw [← e]
      exact List.getElem_mem _
    have := rowLen (p x.1 hm) hh
    unfold eR at hR ⊢
    walk_at "w"
    rw [List.length_map]
    refine ⟨by omega, ?_⟩
    rw [List.map_append] at hR
    exact hR
  · rw [numb1_zip rows 1 0 1 rfl] at k
    unfold eRs at k
    rw [List.map_map] at k
    try walk_at "w"
    try rw [List.length_map]
    exact k
/-! ### machines -/
def fstS : P32.Wk → D
  | .sort _ => .tup [.tup []]
  | .number => .tup [.int 1]
  | .first n => .tup [.int n]
  | _ => .tup []
def S32_first_state : FSpec := fun ds μ Q _ => ∃ w : P32.Wk, ds = [eW w] ∧ Q (fstS w) μ
theorem wp32_first_state {w : P32.Wk} (k : Q (fstS w) μ) : wpSs G b32_first_state [some (eW w), none] μ (Ends0 Q) X := by
  unfold b32_first_state
  cases w <;> (simp only [eW, wdOf, restOf]; walk_at "w"; simp only [fstS] at k; first | exact k | (repeat (first | rw [if_neg (by decide)] | rw [if_pos (by decide)])) <;> exact k)
end
end DL
namespace DL
open PySem PySem.Spec PyProof.Rows L2
local macro_rules | `(tactic| walk_at "w") => `(tactic| simp only [↓w_skey, ↓s_par3, ↓w_rst, ↓w_fzo, ↓w_tpd, ↓w_pl, ↓w_mko, ↓w_kx, ↓w_kget, ↓w_kls, ↓w_tix, ↓w_lrg, ↓w_tzn, ↓x_tp, sa_tpl, ↓k_tpl, ↓x_tz, sa_tpz, ↓k_tpz, ↓w_meth, ↓w_dnw, ↓s_setA, ↓s_setK, ↓s_raiseI, rz_2, ob_s, dc_s, ↓at_r, ↓at_i, ↓sA_r, ↓sK_r, ↓fo_r, ↓w_mkx1, ↓w_mkx, ↓w_isx, ↓w_atx, mkx_2, gok_n, gok_s, ↓isx_e, ↓atx_e, ↓w_v, ↓g_z, ↓g_s, ↓w_g, ↓w_non, ↓w_bl, ↓w_int, ↓w_str, ↓w_bin, ↓w_neg, ↓w_cmp, ↓w_chain, ↓w_and, ↓w_or, ↓w_not, ↓w_ite, ↓w_tup, ↓w_lst, ↓w_ix, ↓w_sl, ↓w_lc, ↓w_call, ↓w_bi, ↓w_isi, ↓w_mt, ↓w_fz, ↓w_emp, ↓w_sq, ↓sq_x, ↓sq_f, ↓sq_c, ↓w_popE, ↓w_popI, ↓w_sset, ↓w_nset, ↓w_pt, ↓w_shut, ↓w_drop, ↓w_nil, ↓w_cons, ↓w_rep2, ad_s, ↓r2_s, ↓d_mull, ↓d_mult, ↓w_no, ↓w_one, ↓d_muls, ↓w_cnt, ↓w_spm, ↓w_rpr, ↓w_lax, ↓sp_m, ↓rp_t, ↓tg_lst,
  ↓t_val, ↓t_cm, ↓t_and, ↓t_or, ↓t_not, ↓t_nil, ↓t_one, ↓i_seq, ↓i_range1, ↓i_range2, ↓i_enum, ↓i_zip, ↓i_rev, ↓s_nil, ↓s_one, ↓s_cons, ↓s_set, ↓s_asg, ↓s_par, ↓s_setIx, ↓s_setIx2, ↓tup2_ok, ↓s_aug, ↓s_expr, ↓s_app, ↓s_pop, ↓s_ins, ↓s_raise, ↓s_tryAs, ↓s_try, ↓s_ext, ↓s_clear, ↓s_ret, ↓s_retN, ↓s_ite, ↓s_for, ↓s_while, ↓s_pass, ↓s_brk, ↓s_cont, ↓s_opn, ↓s_drp,
  ↓tg_v, ↓tg_tup, ↓tg_nil, ↓tg_cons, ↓wr_nil, ↓wr_cons, sl_v, sl_tup, sl_nil, sl_cons, ↓wk_nx, ↓wk_ct, ↓wk_bk, ↓wk_rt, ls_z, ls_s,
  ↓d_addi, ↓d_adds, ↓d_addt, ↓d_addl, ↓d_addr, ↓d_sub, ↓d_mul, ↓d_fdiv, ↓d_mod, ↓d_pow, ↓n_t, ↓n_f, sl_lst, sl_lk, sp_lst, sa_lst, sa_lk, sa_tup, sl_ref, sp_ref, sa_ref, ↓c_eqi, ↓c_eqs, ↓c_nei, ↓c_nes, ↓c_lt, ↓c_le, ↓c_gt, ↓c_ge, ↓c_lts, ↓c_les, ↓c_gts, ↓c_ges, ↓c_is, ↓c_isnot, n_non, n_int, n_str, n_bl, n_tup, n_lst, n_ref, ↓u_bl, ↓u_int, ↓u_non, ↓u_tup, ↓u_lst,
  ↓x_t, ↓x_l, ↓x_lk, ↓x_r, ↓x_s, a_0, a_1, a_2, a_3, a_m1, last_in, ixN_last, set_len, ixN_m1, ↓z_r, ↓ik, ↓pk, ↓l_s, ↓l_t, ↓l_l, ↓l_lk, ↓l_r, ↓b_tuple, ↓b_listt, ↓b_listl, ↓b_listk, ↓b_listr, ↓b_lists, ↓b_inti, ↓b_intb, ↓b_abs, ↓b_max, ↓b_min, ↓b_divmod, ↓b_str, ↓b_strs, ↓b_strn, ↓b_any, ↓b_all, ↓b_sum, isiOk, isiD, ↓k_tup, ↓k_lst, ↓k_lk, ↓k_str, e_nw, ↓q_t, ↓q_tz, ↓q_l, ↓q_lk, ↓q_s, ↓q_r, ↓r_1, ↓r_2, ↓m_join, ↓m_split, ↓st_is, ↓ch_r, ↓set_r, ↓dr_nil, ↓dr_cons, md_s, md_n, ra_s, ra_r, ra_n, mset_mset,
  optD_some, optD_none, Bool.not_true, Bool.not_false, if_true, if_false, Bool.false_eq_true, List.cons_append, List.nil_append, List.length_cons, List.length_nil, Nat.reduceAdd, Nat.reduceLeDiff, true_and, and_true, and_self, decide_true, decide_false, Option.some.injEq, exists_eq', exists_eq, exists_eq_left, exists_eq_left', reduceIte, List.replicate, Nat.reduceSub, List.map_cons, List.map_nil, potAt_new, Int.reduceToNat, Int.reducePow, Int.reduceLT, Int.reduceLE, Int.reduceNeg, Int.reduceAdd, Int.reduceSub, Int.reduceMul, Int.reduceEq, Nat.reducePow, Nat.reduceLT, Nat.reduceMul, or_true, true_or, false_or, or_false, and_false, false_and, e_wn, ixN_0, ixN_1, ↓sh_new, List.set_cons_zero, List.set_cons_succ, eq_self, decide_true])
open P32
/-! ### k32: the law's own sort -/
theorem LW_st32 {ρ : Rho} {μ : Mem} {K : DEnds} {S : Type} {test : Rho → Mem → (Bool → Mem → Prop) → Prop} {body : Rho → Mem → DEnds → Prop} (r : S → Rho) (m : S → Mem) (P : S → Prop) (size : S → Nat) (s0 : S) (hr : r s0 = ρ) (hm : m s0 = μ) (h0 : P s0)
    (hs : ∀ s, P s → ∀ q : Bool → Mem → Prop, (∀ b μ', (if b = true then ∀ N : Rho → Mem → Prop, (∀ s', size s' < size s → P s' → N (r s') (m s')) → body (r s) μ' ⟨N, K.rt, K.nx, N⟩ else K.nx (r s) μ') → q b μ') → test (r s) (m s) q) : LW ρ μ test body K := by
  refine ⟨fun n ρ' μ' => ∃ s, r s = ρ' ∧ m s = μ' ∧ P s ∧ size s = n, ⟨size s0, s0, hr, hm, h0, rfl⟩, ?_⟩
  rintro n ρ' μ' ⟨s, rfl, rfl, hp, rfl⟩
  refine hs s hp _ fun b μ' h => ?_
  cases b with
  | true =>
    rw [if_pos rfl] at h ⊢
    exact h _ fun s' hl hp' => ⟨size s', hl, s', rfl, rfl, hp', rfl⟩
  | false => exact h
section
variable {G : Gc} {μ : Mem} {Q : DK} {X : EK}
def S32_is_before : FSpec := fun ds μ Q _ => ∃ (h : HdB) (a b : Rw) (o : List Ky), ds = [eR a, eR b, eOrd o] ∧ RowOk h a ∧ RowOk h b ∧ (∀ k ∈ o, InH h k.1) ∧ Q (.bl (before a b o)) μ
theorem cell_lt {t : Bool} {x y : Cell} (h1 : TyC t x) (h2 : TyC t y) (ne : x ≠ y) {q : Bool → Prop} (k : q (ceLe x y)) : cmpD .lt (eCell x) (eCell y) μ q := by
  cases x with
  | i m =>
    cases y with
    | i n =>
      show q (decide (m < n))
      have e : ceLe (.i m) (.i n) = decide (m < n) := by
        show decide (m ≤ n) = _
        have : m ≠ n := fun z => ne (by rw [z])
        by_cases c : m < n
        · rw [decide_eq_true c, decide_eq_true (by omega)]
        · rw [decide_eq_false c, decide_eq_false (by omega)]
      rw [← e]; exact k
    | s y => cases h1.symm.trans h2.1
  | s x =>
    cases y with
    | i n => cases h1.1.symm.trans h2
    | s y =>
      show q (decide (x.cps.toList < y.cps.toList))
      have e : ceLe (.s x) (.s y) = decide (x.cps.toList < y.cps.toList) := by
        show decide (x.cps.toList ≤ y.cps.toList) = _
        by_cases c : x.cps.toList < y.cps.toList
        · rw [decide_eq_true c, decide_eq_true (List.le_of_lt c)]
        · rw [decide_eq_false c, decide_eq_false (fun z => ?_)]
          rcases List.le_total y.cps.toList x.cps.toList with w | w
          · exact ne (by rw [P32.str_ext (nle_anti z w)])
          · exact ne (by rw [P32.str_ext (nle_anti z (List.not_lt.mp c))])
      rw [← e]; exact k
theorem wp32_is_before {h : HdB} {a b : Rw} {o : List Ky} (pa : RowOk h a) (pb : RowOk h b) (q : ∀ k ∈ o, InH h k.1) (k : Q (.bl (before a b o)) μ) : wpSs G b32_l_is_before [some (eR a), some (eR b), some (eOrd o), none, none] μ (Ends0 Q) X := by
  unfold b32_l_is_before eOrd
  walk_at "w"
  refine LP_look o eKy (fun done => before a b o = before a b (o.drop done.length)) rfl (fun done z rest e hp => ⟨trivial, fun N hN => ?_⟩) fun hp => ⟨trivial, ?_⟩
  · have hz : InH h z.1 := q z (by rw [e]; simp)
    have e2 : o.drop done.length = z :: rest := by rw [e]; simp
    have e3 : o.drop (done ++ [z]).length = rest := by rw [e]; simp
    rw [e2] at hp
    rw [e3] at hN
    obtain ⟨c, f⟩ := z
    unfold eKy
    unfold eR at *
    walk_at "w"
    refine row_at pa hz ?_
    walk_at "w"
    refine row_at pb hz ?_
    have ta := pa.at hz
    have tb := pb.at hz
    refine Plain.ne plainCellK (by decide) (ty_k ta) (ty_k tb) ?_
    rw [show before a b ((c, f) :: rest) = if colAt a c = colAt b c then before a b rest else (ceLe (colAt a c) (colAt b c) != f) from rfl] at hp
    by_cases x : colAt a c = colAt b c
    · rw [if_pos x] at hp
      rw [decide_eq_true x]
      walk_at "w"
      exact hN hp
    · rw [if_neg x] at hp
      rw [decide_eq_false x]
      walk_at "w"
      refine row_at pa hz ?_
      walk_at "w"
      refine row_at pb hz ?_
      refine cell_lt ta tb x ?_
      walk_at "w"
      refine Plain.ne plainBl (by decide) trivial trivial ?_
      rw [hp] at k
      have e : (!decide (ceLe (colAt a c) (colAt b c) = f)) = (ceLe (colAt a c) (colAt b c) != f) := by cases ceLe (colAt a c) (colAt b c) <;> cases f <;> rfl
      rw [e]
      exact k
  · rw [List.drop_eq_nil_of_le (Nat.le_refl _)] at hp
    rw [hp] at k
    walk_at "w"
    exact k
def S32_sorted : FSpec := fun ds μ Q _ => ∃ (h : HdB) (rows : List Rw) (o : List Ky), ds = [eRs rows, eOrd o] ∧ RowsOk h rows ∧ rows.length ≤ 60 ∧ (∀ k ∈ o, InH h k.1) ∧ Q (eRs (rows.mergeSort (lexLe o))) μ
theorem wp32_sorted (h1 : G.fn "_law_is_before" = S32_is_before) {h : HdB} {rows : List Rw} {o : List Ky} (p : RowsOk h rows) (hl : rows.length ≤ 60) (q : ∀ k ∈ o, InH h k.1) (k : Q (eRs (rows.mergeSort (lexLe o))) μ) : wpSs G b32_l_sorted [some (eRs rows), some (eOrd o), none, none, none] μ (Ends0 Q) X := by
  unfold b32_l_sorted eRs
  walk_at "w"
  intro a ha
  have tl := lexLe_total o
  refine LP_ty rows eR (fun _ : List Rw => [some (.lst (rows.map eR)), some (eOrd o), some (.ref a), none, none]) (fun s => mset μ a (.lst ((s.mergeSort (lexLe o)).map eR))) (fun done s => s = done) [] rfl (by rw [List.mergeSort_nil]; rfl) rfl (fun done r rest s e hs => ⟨trivial, fun N hN => ?_⟩) (fun s hs => ⟨trivial, ?_⟩)
  · subst hs
    have fin := hN (s ++ [r]) rfl
    have hr : RowOk h r := p r (by rw [e]; simp)
    have sl : s.length ≤ 60 := by have := congrArg List.length e; simp at this; omega
    have ps : RowsOk h (s.mergeSort (lexLe o)) := fun x hx => p x (by rw [e]; exact List.mem_append_left _ (List.mem_mergeSort.mp hx))
    have ll : (s.mergeSort (lexLe o)).length = s.length := List.length_mergeSort _
    have cut : ∀ A B : List Rw, s.mergeSort (lexLe o) = A ++ B → (∀ x, A.getLast? = some x → lexLe o x r = true) → (∀ b ∈ B, lexLe o b r = false) → (s ++ [r]).mergeSort (lexLe o) = A ++ r :: B := fun A B h1 h2 h3 => sort_snoc tl h1 h2 h3
    revert fin ps ll cut
    generalize s.mergeSort (lexLe o) = L
    intro fin ps ll cut
    walk_at "w"
    rw [List.length_map]
    refine LW_st32 (fun n : Nat => [some (.lst (rows.map eR)), some (eOrd o), some (.ref a), some (eR r), some (.int (n : Nat))]) (fun _ => mset μ a (.lst (L.map eR))) (fun n => n ≤ L.length ∧ ∀ b ∈ L.drop n, lexLe o b r = false) (fun n => n) L.length rfl rfl ⟨Nat.le_refl _, fun b hb => by rw [List.drop_length] at hb; cases hb⟩ (fun n hn q0 hq => ?_)
    obtain ⟨hn, hB⟩ := hn
    have done : (∀ x, (L.take n).getLast? = some x → lexLe o x r = true) → N [some (.lst (rows.map eR)), some (eOrd o), some (.ref a), none, none] (mset μ a (.lst ((L.map eR).take n ++ [eR r] ++ (L.map eR).drop n))) := fun hA => by
      rw [cut (L.take n) (L.drop n) (List.take_append_drop n L).symm hA hB] at fin
      rw [List.map_append, List.map_cons, List.map_take, List.map_drop] at fin
      simpa using fin
    have stop : (∀ x, (L.take n).getLast? = some x → lexLe o x r = true) → q0 false (mset μ a (.lst (L.map eR))) := fun hA => by
      refine hq false _ ?_
      rw [if_neg (by decide)]
      walk_at "w"
      rw [List.length_map]
      refine ⟨by omega, ⟨by omega, by omega⟩, ?_⟩
      have := done hA
      simpa using this
    walk_at "w"
    by_cases n0 : n = 0
    · subst n0
      rw [decide_eq_false (by omega), if_neg (by decide)]
      exact stop fun x hx => nomatch hx
    · have nl : n - 1 < L.length := by omega
      have hb : RowOk h L[n - 1] := ps _ (List.getElem_mem nl)
      rw [decide_eq_true (by omega), if_pos rfl]
      simp only [h1]
      have e1 : ((n : Nat) : Int) - 1 = ((n - 1 : Nat) : Int) := by omega
      rw [e1, a_nat (by omega), Int.toNat_natCast, List.getElem?_map, List.getElem?_eq_getElem nl, Option.map_some, optD_some]
      refine ⟨h, r, L[n - 1], o, rfl, hr, hb, q, ?_⟩
      rw [before_iff]
      have lastN : (L.take n).getLast? = some L[n - 1] := by
        rw [List.getLast?_take, if_neg n0, List.getElem?_eq_getElem nl]
        rfl
      walk_at "w"
      cases c : lexLe o L[n - 1] r with
      | true =>
        exact stop fun x hx => by rw [lastN] at hx; cases hx; exact c
      | false =>
        refine hq true _ ?_
        rw [if_pos rfl]
        intro N2 hN2
        walk_at "w"
        rw [e1]
        refine hN2 (n - 1) (by omega) ⟨by omega, fun b hb => ?_⟩
        rw [List.drop_eq_getElem_cons nl] at hb
        rcases List.mem_cons.mp hb with z | z
        · rw [z]; exact c
        · rw [show n - 1 + 1 = n by omega] at z
          exact hB b z
  · subst hs
    walk_at "w"
    rw [mdel_new ha]
    exact k
end
end DL
namespace DL
open PySem PySem.Spec PyProof.Rows L2
local macro_rules | `(tactic| walk_at "w") => `(tactic| simp only [↓w_skey, ↓s_par3, ↓w_rst, ↓w_fzo, ↓w_tpd, ↓w_pl, ↓w_mko, ↓w_kx, ↓w_kget, ↓w_kls, ↓w_tix, ↓w_lrg, ↓w_tzn, ↓x_tp, sa_tpl, ↓k_tpl, ↓x_tz, sa_tpz, ↓k_tpz, ↓w_meth, ↓w_dnw, ↓s_setA, ↓s_setK, ↓s_raiseI, rz_2, ob_s, dc_s, ↓at_r, ↓at_i, ↓sA_r, ↓sK_r, ↓fo_r, ↓w_mkx1, ↓w_mkx, ↓w_isx, ↓w_atx, mkx_2, gok_n, gok_s, ↓isx_e, ↓atx_e, ↓w_v, ↓g_z, ↓g_s, ↓w_g, ↓w_non, ↓w_bl, ↓w_int, ↓w_str, ↓w_bin, ↓w_neg, ↓w_cmp, ↓w_chain, ↓w_and, ↓w_or, ↓w_not, ↓w_ite, ↓w_tup, ↓w_lst, ↓w_ix, ↓w_sl, ↓w_lc, ↓w_call, ↓w_bi, ↓w_isi, ↓w_mt, ↓w_fz, ↓w_emp, ↓w_sq, ↓sq_x, ↓sq_f, ↓sq_c, ↓w_popE, ↓w_popI, ↓w_sset, ↓w_nset, ↓w_pt, ↓w_shut, ↓w_drop, ↓w_nil, ↓w_cons, ↓w_rep2, ad_s, ↓r2_s, ↓d_mull, ↓d_mult, ↓w_no, ↓w_one, ↓d_muls, ↓w_cnt, ↓w_spm, ↓w_rpr, ↓w_lax, ↓sp_m, ↓rp_t, ↓tg_lst,
  ↓t_val, ↓t_cm, ↓t_and, ↓t_or, ↓t_not, ↓t_nil, ↓t_one, ↓i_seq, ↓i_range1, ↓i_range2, ↓i_enum, ↓i_zip, ↓i_rev, ↓s_nil, ↓s_one, ↓s_cons, ↓s_set, ↓s_asg, ↓s_par, ↓s_setIx, ↓s_setIx2, ↓tup2_ok, ↓s_aug, ↓s_expr, ↓s_app, ↓s_pop, ↓s_ins, ↓s_raise, ↓s_tryAs, ↓s_try, ↓s_ext, ↓s_clear, ↓s_ret, ↓s_retN, ↓s_ite, ↓s_for, ↓s_while, ↓s_pass, ↓s_brk, ↓s_cont, ↓s_opn, ↓s_drp,
  ↓tg_v, ↓tg_tup, ↓tg_nil, ↓tg_cons, ↓wr_nil, ↓wr_cons, sl_v, sl_tup, sl_nil, sl_cons, ↓wk_nx, ↓wk_ct, ↓wk_bk, ↓wk_rt, ls_z, ls_s,
  ↓d_addi, ↓d_adds, ↓d_addt, ↓d_addl, ↓d_addr, ↓d_sub, ↓d_mul, ↓d_fdiv, ↓d_mod, ↓d_pow, ↓n_t, ↓n_f, sl_lst, sl_lk, sp_lst, sa_lst, sa_lk, sa_tup, sl_ref, sp_ref, sa_ref, ↓c_eqi, ↓c_eqs, ↓c_nei, ↓c_nes, ↓c_lt, ↓c_le, ↓c_gt, ↓c_ge, ↓c_lts, ↓c_les, ↓c_gts, ↓c_ges, ↓c_is, ↓c_isnot, n_non, n_int, n_str, n_bl, n_tup, n_lst, n_ref, ↓u_bl, ↓u_int, ↓u_non, ↓u_tup, ↓u_lst,
  ↓x_t, ↓x_l, ↓x_lk, ↓x_r, ↓x_s, a_0, a_1, a_2, a_3, a_m1, last_in, ixN_last, set_len, ixN_m1, ↓z_r, ↓ik, ↓pk, ↓l_s, ↓l_t, ↓l_l, ↓l_lk, ↓l_r, ↓b_tuple, ↓b_listt, ↓b_listl, ↓b_listk, ↓b_listr, ↓b_lists, ↓b_inti, ↓b_intb, ↓b_abs, ↓b_max, ↓b_min, ↓b_divmod, ↓b_str, ↓b_strs, ↓b_strn, ↓b_any, ↓b_all, ↓b_sum, isiOk, isiD, ↓k_tup, ↓k_lst, ↓k_lk, ↓k_str, e_nw, ↓q_t, ↓q_tz, ↓q_l, ↓q_lk, ↓q_s, ↓q_r, ↓r_1, ↓r_2, ↓m_join, ↓m_split, ↓st_is, ↓ch_r, ↓set_r, ↓dr_nil, ↓dr_cons, md_s, md_n, ra_s, ra_r, ra_n, mset_mset,
  optD_some, optD_none, Bool.not_true, Bool.not_false, if_true, if_false, Bool.false_eq_true, List.cons_append, List.nil_append, List.length_cons, List.length_nil, Nat.reduceAdd, Nat.reduceLeDiff, true_and, and_true, and_self, decide_true, decide_false, Option.some.injEq, exists_eq', exists_eq, exists_eq_left, exists_eq_left', reduceIte, List.replicate, Nat.reduceSub, List.map_cons, List.map_nil, potAt_new, Int.reduceToNat, Int.reducePow, Int.reduceLT, Int.reduceLE, Int.reduceNeg, Int.reduceAdd, Int.reduceSub, Int.reduceMul, Int.reduceEq, Nat.reducePow, Nat.reduceLT, Nat.reduceMul, or_true, true_or, false_or, or_false, and_false, false_and, e_wn, ixN_0, ixN_1, ↓sh_new, List.set_cons_zero, List.set_cons_succ, eq_self, decide_true])
open P32
/-! ### k32: stretches by the law's way: lists that grow within a list -/
abbrev SA := Str1 × Addr
def eSA (x : SA) : D := .tup [eR x.1.1, .ref x.2]
structure FM (μ : Mem) (q : Addr) (S : List SA) (M : Mem) : Prop where
  qv : M q = some (.lst (S.map eSA))
  bv : ∀ x ∈ S, M x.2 = some (.lst (x.1.2.map eR))
  bq : ∀ x ∈ S, x.2 ≠ q
  nd : (S.map (·.2)).Nodup
  old : ∀ a, (μ a).isSome = true → M a = μ a
  mq : μ q = none
  mb : ∀ x ∈ S, μ x.2 = none
theorem FM.new {μ : Mem} {q p : Addr} {S : List SA} {M : Mem} (f : FM μ q S M) (hp : M p = none) (k : Rw) : FM μ q (S ++ [((k, []), p)]) (mset (mset M p (.lst [])) q (.lst (S.map eSA ++ [.tup [eR k, .ref p]]))) := by
  have pq : p ≠ q := fun z => by rw [z, f.qv] at hp; cases hp
  have pS : ∀ x ∈ S, x.2 ≠ p := fun x hx z => by
    have := f.bv x hx
    rw [z, hp] at this
    cases this
  have mp : μ p = none := by
    cases c : μ p with
    | none => rfl
    | some o =>
      have := f.old p (by rw [c]; rfl)
      rw [hp, c] at this
      cases this
  refine ⟨?_, fun x hx => ?_, fun x hx => ?_, ?_, fun a ha => ?_, f.mq, fun x hx => ?_⟩
  · rw [mset_same, List.map_append]; rfl
  · rcases List.mem_append.mp hx with z | z
    · rw [mset_ne (f.bq x z), mset_ne (pS x z)]
      exact f.bv x z
    · rw [List.mem_singleton.mp z]
      rw [mset_ne pq, mset_same]
      rfl
  · rcases List.mem_append.mp hx with z | z
    · exact f.bq x z
    · rw [List.mem_singleton.mp z]; exact pq
  · rw [List.map_append]
    refine List.nodup_append.mpr ⟨f.nd, by simp, fun a ha b hb => ?_⟩
    obtain ⟨x, hx, e⟩ := List.mem_map.mp ha
    rw [List.mem_singleton.mp hb, ← e]
    exact pS x hx
  · have aq : a ≠ q := fun z => by rw [z, f.mq] at ha; cases ha
    have ap : a ≠ p := fun z => by rw [z, mp] at ha; cases ha
    rw [mset_ne aq, mset_ne ap]
    exact f.old a ha
  · rcases List.mem_append.mp hx with z | z
    · exact f.mb x z
    · rw [List.mem_singleton.mp z]; exact mp
theorem FM.push {μ : Mem} {q b : Addr} {S : List SA} {k : Rw} {rs : List Rw} {M : Mem} (f : FM μ q (S ++ [((k, rs), b)]) M) (r : Rw) : FM μ q (S ++ [((k, rs ++ [r]), b)]) (mset M b (.lst (rs.map eR ++ [eR r]))) := by
  have hb : ((k, rs), b) ∈ S ++ [((k, rs), b)] := by simp
  have bq := f.bq _ hb
  have mb := f.mb _ hb
  have nd := f.nd
  rw [List.map_append] at nd
  have nb : ∀ x ∈ S, x.2 ≠ b := fun x hx => (List.nodup_append.mp nd).2.2 x.2 (List.mem_map_of_mem hx) b (by simp)
  refine ⟨?_, fun x hx => ?_, fun x hx => ?_, ?_, fun a ha => ?_, f.mq, fun x hx => ?_⟩
  · rw [mset_ne (Ne.symm bq), f.qv, List.map_append, List.map_append]; rfl
  · rcases List.mem_append.mp hx with z | z
    · rw [mset_ne (nb x z)]
      exact f.bv x (List.mem_append_left _ z)
    · rw [List.mem_singleton.mp z, mset_same, List.map_append]
      rfl
  · rcases List.mem_append.mp hx with z | z
    · exact f.bq x (List.mem_append_left _ z)
    · rw [List.mem_singleton.mp z]; exact bq
  · rw [List.map_append]; exact nd
  · have ab : a ≠ b := fun z => by rw [z] at ha; rw [show μ b = none from mb] at ha; cases ha
    rw [mset_ne ab]
    exact f.old a ha
  · rcases List.mem_append.mp hx with z | z
    · exact f.mb x (List.mem_append_left _ z)
    · rw [List.mem_singleton.mp z]; exact mb
theorem sts_ws (cs : List Int) (rows : List Rw) (h : (sts cs rows).2 = none) : rows = [] ∧ (sts cs rows).1 = [] := by
  rcases List.eq_nil_or_concat rows with e | ⟨l, r, e⟩
  · subst e; exact ⟨rfl, rfl⟩
  · have e : rows = l ++ [r] := by rw [e]; simp
    subst e
    rw [sts_snoc] at h
    revert h
    rcases sts cs l with ⟨t, o⟩
    intro h
    cases o with
    | none => cases h
    | some p =>
      have h : (if p.1 = cellsOf cs r then ((t, some (p.1, p.2 ++ [r])) : Sts) else (t ++ [p], some (cellsOf cs r, [r]))).2 = none := h
      split at h <;> cases h
theorem sts_tot (cs : List Int) (rows : List Rw) : ((sts cs rows).all.map fun p => p.2.length).sum = rows.length := by
  suffices ∀ (l : List Rw) (s : Sts), (((l.foldl (stS cs) s).all).map fun p => p.2.length).sum = ((s.all).map fun p => p.2.length).sum + l.length by
    have := this rows ([], none)
    simpa [sts, Sts.all] using this
  intro l
  induction l with
  | nil => intro s; rfl
  | cons x l ih =>
    intro s
    rw [List.foldl_cons, ih]
    have : ((stS cs s x).all.map fun p => p.2.length).sum = (s.all.map fun p => p.2.length).sum + 1 := by
      obtain ⟨t, o⟩ := s
      cases o with
      | none => simp [stS, Sts.all]
      | some p =>
        show ((Sts.all (if p.1 = cellsOf cs x then (t, some (p.1, p.2 ++ [x])) else (t ++ [p], some (cellsOf cs x, [x])))).map fun p => p.2.length).sum = _
        split <;> simp [Sts.all] <;> omega
    rw [this, List.length_cons]
    omega
theorem sum_mem {A : Type} (f : A → Nat) : ∀ {l : List A} {x : A}, x ∈ l → f x ≤ (l.map f).sum
  | y :: l, x, h => by
    rw [List.map_cons, List.sum_cons]
    rcases List.mem_cons.mp h with z | z
    · rw [z]; omega
    · have := sum_mem f z; omega
theorem sts_rl {cs : List Int} {rows : List Rw} {p : Str1} (h : (sts cs rows).2 = some p) (hl : rows.length ≤ 60) : p.2.length ≤ 60 := by
  have m : p ∈ (sts cs rows).all := List.mem_append_right _ (by rw [h]; simp)
  have := sum_mem (fun p : Str1 => p.2.length) m
  rw [sts_tot] at this
  omega
theorem last_sa {S : List SA} {T : List Str1} {p : Str1} (h : S.map (·.1) = T ++ [p]) : ∃ S0 b, S = S0 ++ [(p, b)] ∧ S0.map (·.1) = T := by
  rcases List.eq_nil_or_concat S with e | ⟨S0, x, e⟩
  · subst e
    have := congrArg List.length h
    simp at this
  · have e : S = S0 ++ [x] := by rw [e]; simp
    subst e
    rw [List.map_append] at h
    obtain ⟨e1, e2⟩ := List.append_inj' h rfl
    refine ⟨S0, x.2, ?_, e1⟩
    have : x.1 = p := by simpa using e2
    rw [← this]
section
variable {G : Gc} {μ : Mem} {Q : DK} {X : EK}
theorem seq_m {M : Mem} {a : Addr} {l : List D} (h : M a = some (.lst l)) : seqL M (.ref a) = some l := by
  show (match M a with | some (.lst l) => some l | _ => none) = some l
  rw [h]
def S32_folded : FSpec := fun ds μ Q _ => ∃ (h : HdB) (rows : List Rw) (c : Option Int) (cs : List Int), ds = [eW (wkS c cs), eRs rows] ∧ RowsOk h rows ∧ rows.length ≤ 60 ∧ cs.length ≤ 5 ∧ (∀ c ∈ cs, InH h c) ∧ (∀ x, c = some x → InH h x ∧ hdAt h x = false) ∧ ∀ M : Mem, (∀ a, (μ a).isSome = true → M a = μ a) → Q (eRs (folded cs c rows)) M
theorem wp32_folded {h : HdB} {rows : List Rw} {c : Option Int} {cs : List Int} (p : RowsOk h rows) (hl : rows.length ≤ 60) (cl : cs.length ≤ 5) (q : ∀ c ∈ cs, InH h c) (t : ∀ x, c = some x → InH h x ∧ hdAt h x = false) (k : ∀ M : Mem, (∀ a, (μ a).isSome = true → M a = μ a) → Q (eRs (folded cs c rows)) M) :
    wpSs G b32_l_folded [some (eW (wkS c cs)), some (eRs rows), none, none, none, none, none] μ (Ends0 Q) X := by
  unfold b32_l_folded eRs
  have e0 : ∃ t, eW (wkS c cs) = .tup (.str (wdOf (wkS c cs)) :: .tup (cs.map .int) :: t) := by cases c <;> exact ⟨_, rfl⟩
  obtain ⟨t0, e0⟩ := e0
  walk_at "w"
  intro a ha
  refine LP_ty rows eR (fun _ : List SA × Mem => [some (eW (wkS c cs)), some (.lst (rows.map eR)), some (.ref a), none, none, none, none]) (fun s => s.2) (fun done s => s.1.map (·.1) = (sts cs done).all ∧ FM μ a s.1 s.2) ([], mset μ a (.lst [])) rfl rfl
    ⟨rfl, ⟨mset_same, fun x hx => (nomatch hx), fun x hx => (nomatch hx), List.nodup_nil, fun b hb => mset_ne (fun z => by rw [z, ha] at hb; cases hb), ha, fun x hx => (nomatch hx)⟩⟩ (fun done r rest s e hs => ⟨trivial, fun N hN => ?_⟩) (fun s hs => ⟨trivial, ?_⟩)
  · obtain ⟨S, M⟩ := s
    obtain ⟨hS, f⟩ := hs
    have hS : S.map (·.1) = (sts cs done).all := hS
    have f : FM μ a S M := f
    have hr : RowOk h r := p r (by rw [e]; simp)
    have ps : RowsOk h done := fun x hx => p x (by rw [e]; exact List.mem_append_left _ hx)
    have ck : RowK (cellsOf cs r) := cells_k hr q
    have sl : done.length ≤ 60 := by have := congrArg List.length e; simp at this; omega
    have Sl : S.length ≤ 60 := by
      have := congrArg List.length hS
      rw [List.length_map] at this
      have := sts_len cs done
      omega
    have so : ∀ x, (sts cs done).2 = some x → RowK x.1 := fun x hx => (stOk ps q hx).1
    have fin : ∀ S2 M2, S2.map (·.1) = (stS cs (sts cs done) r).all → FM μ a S2 M2 → N [some (eW (wkS c cs)), some (.lst (rows.map eR)), some (.ref a), none, none, none, none] M2 := fun S2 M2 g1 g2 => hN (S2, M2) ⟨by rw [sts_snoc]; exact g1, g2⟩
    have pushed : ∀ S0 k0 rs b M2, FM μ a (S0 ++ [((k0, rs), b)]) M2 → rs.length ≤ 60 → (S0 ++ [((k0, rs ++ [r]), b)]).map (·.1) = (stS cs (sts cs done) r).all →
        (∃ l, seqL M2 (.ref b) = some l) ∧ optD (seqL M2 (.ref b)) fun l => l.length < 16777216 ∧ N [some (eW (wkS c cs)), some (.lst (rows.map eR)), some (.ref a), none, none, none, none] (mset M2 b (.lst (l ++ [eR r]))) := fun S0 k0 rs b M2 f2 rl g => by
      have hb := f2.bv ((k0, rs), b) (by simp)
      refine ⟨⟨_, seq_m hb⟩, ?_⟩
      rw [seq_m hb, optD_some, List.length_map]
      exact ⟨show rs.length < 16777216 by omega, fin _ _ g (f2.push r)⟩
    have grow : (S ++ [((cellsOf cs r, [r]), a)]).map (·.1) = (stS cs (sts cs done) r).all → (∃ l, seqL M (.ref a) = some l) ∧ ∀ pp : Addr, M pp = none → optD (seqL (mset M pp (.lst [])) (.ref a)) fun l => l.length < 16777216 ∧
        (∃ l1, seqL (mset (mset M pp (.lst [])) a (.lst (l ++ [.tup [eR (cellsOf cs r), .ref pp]]))) (.ref pp) = some l1) ∧ optD (seqL (mset (mset M pp (.lst [])) a (.lst (l ++ [.tup [eR (cellsOf cs r), .ref pp]]))) (.ref pp)) fun l1 => l1.length < 16777216 ∧
          N [some (eW (wkS c cs)), some (.lst (rows.map eR)), some (.ref a), none, none, none, none] (mset (mset (mset M pp (.lst [])) a (.lst (l ++ [.tup [eR (cellsOf cs r), .ref pp]]))) pp (.lst (l1 ++ [eR r]))) := fun g => by
      refine ⟨⟨_, seq_m f.qv⟩, fun pp hp => ?_⟩
      have pa : pp ≠ a := fun z => by rw [z, f.qv] at hp; cases hp
      have f2 := f.new hp (cellsOf cs r)
      rw [seq_m (show (mset M pp (.lst [])) a = some (.lst (S.map eSA)) from (mset_ne (Ne.symm pa)).trans f.qv), optD_some, List.length_map]
      refine ⟨by omega, pushed S (cellsOf cs r) [] pp _ f2 (by simp) ?_⟩
      rw [List.map_append] at g ⊢
      exact g
    rw [e0] at pushed grow
    walk_at "w"
    rw [e0]
    walk_at "w"
    refine LC_map cs .int (fun c => eCell (colAt r c)) (by omega) trivial (fun c hc R hR => ?_) ?_
    · try walk_at "w"
      exact row_at hr (q c hc) hR
    have ek : cs.map (fun c => eCell (colAt r c)) = (cellsOf cs r).map eCell := by unfold cellsOf; rw [List.map_map]; rfl
    rw [ek]
    try walk_at "w"
    show optD (seqL M (.ref a)) fun l => optD (seqL M (.lst [])) fun m => m = [] ∧ _
    rw [seq_m f.qv, optD_some]
    refine ⟨rfl, ?_⟩
    cases ho : (sts cs done).2 with
    | none =>
      have h0 := sts_ws cs done ho
      have hn : S = [] := by
        have : (sts cs done).all = [] := by unfold Sts.all; rw [ho, h0.2]; rfl
        rw [this] at hS
        exact List.map_eq_nil_iff.mp hS
      have g : (S ++ [((cellsOf cs r, [r]), a)]).map (·.1) = (stS cs (sts cs done) r).all := by
        rw [hn]
        unfold stS Sts.all
        rw [ho, h0.2]
        rfl
      rw [if_pos (by rw [hn]; rfl)]
      exact ⟨⟨_, rfl⟩, (grow g).2⟩
    | some pz =>
      have ha2 : (sts cs done).all = (sts cs done).1 ++ [pz] := by unfold Sts.all; rw [ho]; rfl
      rw [ha2] at hS
      obtain ⟨S0, b, eS, eT⟩ := last_sa hS
      obtain ⟨k0, rs⟩ := pz
      have kk : RowK k0 := so _ ho
      have rl : rs.length ≤ 60 := by
        have m := sts_keys cs done (k0, rs) (by rw [ha2]; simp)
        exact sts_rl ho sl
      have lastD : (S.map eSA).getLast? = some (.tup [eR k0, .ref b]) := by
        rw [eS, List.map_append, List.map_singleton, List.getLast?_concat]
        rfl
      have ne : (S.map eSA).isEmpty = false := by rw [eS, List.map_append]; simp
      rw [ne, if_neg (by decide), optD_some, lastD, optD_some]
      walk_at "w"
      refine Plain.ne plainRow (by decide) kk ck ?_
      by_cases z : k0 = cellsOf cs r
      · rw [decide_eq_true z]
        walk_at "w"
        try rw [seq_m f.qv, optD_some]
        try rw [lastD, optD_some]
        walk_at "w"
        rw [eS] at f
        refine pushed S0 k0 rs b M f rl ?_
        unfold stS Sts.all
        rw [ho, List.map_append, eT]
        show _ = Sts.all (if k0 = cellsOf cs r then ((sts cs done).1, some (k0, rs ++ [r])) else _)
        rw [if_pos z]
        rfl
      · rw [decide_eq_false z]
        walk_at "w"
        suffices gg : (S ++ [((cellsOf cs r, [r]), a)]).map (·.1) = (stS cs (sts cs done) r).all by
          first | exact grow gg | exact ⟨⟨_, rfl⟩, (grow gg).2⟩ | exact (grow gg).2
        unfold stS
        rw [ho, List.map_append, hS]
        show _ = Sts.all (if k0 = cellsOf cs r then _ else ((sts cs done).1 ++ [(k0, rs)], some (cellsOf cs r, [r])))
        rw [if_neg z]
        rfl
  · obtain ⟨S, M⟩ := s
    obtain ⟨hS, f⟩ := hs
    have hS : S.map (·.1) = (sts cs rows).all := hS
    have f : FM μ a S M := f
    have Sl : S.length ≤ 60 := by
      have := congrArg List.length hS
      rw [List.length_map] at this
      have := sts_len cs rows
      omega
    have kM : Q (eRs (folded cs c rows)) (mdel M a) := k _ fun b hb => by
      have ba : b ≠ a := fun z => by rw [z, ha] at hb; cases hb
      unfold mdel
      rw [if_neg ba]
      exact f.old b hb
    have ef : folded cs c rows = S.map fun x => outOf c x.1 := by
      unfold folded
      rw [← hS, List.map_map]
      rfl
    have memS : ∀ x ∈ S, x.1.1.length ≤ 5 ∧ ∀ r ∈ x.1.2, r ∈ rows := fun x hx => by
      have m : x.1 ∈ (sts cs rows).all := by rw [← hS]; exact List.mem_map_of_mem hx
      obtain ⟨⟨r0, h1, h2⟩, h3⟩ := sts_keys cs rows x.1 m
      refine ⟨by rw [h2]; simpa [cellsOf] using cl, h3⟩
    rw [ef] at kM
    unfold eRs at kM
    rw [List.map_map] at kM
    cases c with
    | none =>
      have e1 : eW (wkS none cs) = .tup [.str ⟨#[99, 111, 117, 110, 116]⟩, eCo cs] := rfl
      rw [e1]
      walk_at "w"
      rw [seq_m f.qv, optD_some]
      refine LC_map S eSA (fun x => eR (outOf none x.1)) (by omega) (seq_m f.qv) (fun x hx R hR => ?_) ?_
      · obtain ⟨m1, m2⟩ := memS x hx
        obtain ⟨⟨k0, rs⟩, b⟩ := x
        unfold eSA eR
        walk_at "w"
        rw [seq_m (f.bv _ hx), optD_some]
        rw [List.length_map, List.length_map]
        have m1 : k0.length ≤ 5 := m1
        refine ⟨by omega, ?_⟩
        unfold outOf eR at hR
        rw [List.map_append] at hR
        exact hR
      · try walk_at "w"
        exact kM
    | some c =>
      obtain ⟨t1, t2⟩ := t c rfl
      have e1 : eW (wkS (some c) cs) = .tup [.str ⟨#[115, 117, 109]⟩, eCo cs, .int c] := rfl
      rw [e1]
      walk_at "w"
      rw [if_neg (by decide)]
      rw [seq_m f.qv, optD_some]
      refine LC_map S eSA (fun x => eR (outOf (some c) x.1)) (by omega) (seq_m f.qv) (fun x hx R hR => ?_) ?_
      · obtain ⟨m1, m2⟩ := memS x hx
        have rl : x.1.2.length ≤ 60 := by
          have m : x.1 ∈ (sts cs rows).all := by rw [← hS]; exact List.mem_map_of_mem hx
          have := sum_mem (fun p : Str1 => p.2.length) m
          rw [sts_tot] at this
          omega
        obtain ⟨⟨k0, rs⟩, b⟩ := x
        have rl : rs.length ≤ 60 := rl
        have m2 : ∀ r ∈ rs, r ∈ rows := m2
        have m1 : k0.length ≤ 5 := m1
        unfold eSA eR
        walk_at "w"
        show optD (seqL M (.ref b)) _
        rw [seq_m (f.bv _ hx), optD_some]
        refine LC_map rs eR (fun r => .int (intOf (colAt r c))) (by omega) (seq_m (f.bv _ hx)) (fun r hr R2 hR2 => ?_) ?_
        · unfold eR
          walk_at "w"
          refine row_at (p r (m2 r hr)) t1 ?_
          rw [int_at (p r (m2 r hr)) t1 t2]
          exact hR2
        · have ei : rs.map (fun r => D.int (intOf (colAt r c))) = (rs.map fun r => intOf (colAt r c)).map D.int := by rw [List.map_map]; rfl
          rw [ei]
          try walk_at "w"
          rw [asInts_map, optD_some]
          rw [List.length_map]
          refine ⟨by omega, ?_⟩
          unfold outOf eR at hR
          rw [List.map_append] at hR
          exact hR
      · try walk_at "w"
        exact kM
end
end DL
namespace DL
open PySem PySem.Spec PyProof.Rows L2
local macro_rules | `(tactic| walk_at "w") => `(tactic| simp only [↓w_skey, ↓s_par3, ↓w_rst, ↓w_fzo, ↓w_tpd, ↓w_pl, ↓w_mko, ↓w_kx, ↓w_kget, ↓w_kls, ↓w_tix, ↓w_lrg, ↓w_tzn, ↓x_tp, sa_tpl, ↓k_tpl, ↓x_tz, sa_tpz, ↓k_tpz, ↓w_meth, ↓w_dnw, ↓s_setA, ↓s_setK, ↓s_raiseI, rz_2, ob_s, dc_s, ↓at_r, ↓at_i, ↓sA_r, ↓sK_r, ↓fo_r, ↓w_mkx1, ↓w_mkx, ↓w_isx, ↓w_atx, mkx_2, gok_n, gok_s, ↓isx_e, ↓atx_e, ↓w_v, ↓g_z, ↓g_s, ↓w_g, ↓w_non, ↓w_bl, ↓w_int, ↓w_str, ↓w_bin, ↓w_neg, ↓w_cmp, ↓w_chain, ↓w_and, ↓w_or, ↓w_not, ↓w_ite, ↓w_tup, ↓w_lst, ↓w_ix, ↓w_sl, ↓w_lc, ↓w_call, ↓w_bi, ↓w_isi, ↓w_mt, ↓w_fz, ↓w_emp, ↓w_sq, ↓sq_x, ↓sq_f, ↓sq_c, ↓w_popE, ↓w_popI, ↓w_sset, ↓w_nset, ↓w_pt, ↓w_shut, ↓w_drop, ↓w_nil, ↓w_cons, ↓w_rep2, ad_s, ↓r2_s, ↓d_mull, ↓d_mult, ↓w_no, ↓w_one, ↓d_muls, ↓w_cnt, ↓w_spm, ↓w_rpr, ↓w_lax, ↓sp_m, ↓rp_t, ↓tg_lst,
  ↓t_val, ↓t_cm, ↓t_and, ↓t_or, ↓t_not, ↓t_nil, ↓t_one, ↓i_seq, ↓i_range1, ↓i_range2, ↓i_enum, ↓i_zip, ↓i_rev, ↓s_nil, ↓s_one, ↓s_cons, ↓s_set, ↓s_asg, ↓s_par, ↓s_setIx, ↓s_setIx2, ↓tup2_ok, ↓s_aug, ↓s_expr, ↓s_app, ↓s_pop, ↓s_ins, ↓s_raise, ↓s_tryAs, ↓s_try, ↓s_ext, ↓s_clear, ↓s_ret, ↓s_retN, ↓s_ite, ↓s_for, ↓s_while, ↓s_pass, ↓s_brk, ↓s_cont, ↓s_opn, ↓s_drp,
  ↓tg_v, ↓tg_tup, ↓tg_nil, ↓tg_cons, ↓wr_nil, ↓wr_cons, sl_v, sl_tup, sl_nil, sl_cons, ↓wk_nx, ↓wk_ct, ↓wk_bk, ↓wk_rt, ls_z, ls_s,
  ↓d_addi, ↓d_adds, ↓d_addt, ↓d_addl, ↓d_addr, ↓d_sub, ↓d_mul, ↓d_fdiv, ↓d_mod, ↓d_pow, ↓n_t, ↓n_f, sl_lst, sl_lk, sp_lst, sa_lst, sa_lk, sa_tup, sl_ref, sp_ref, sa_ref, ↓c_eqi, ↓c_eqs, ↓c_nei, ↓c_nes, ↓c_lt, ↓c_le, ↓c_gt, ↓c_ge, ↓c_lts, ↓c_les, ↓c_gts, ↓c_ges, ↓c_is, ↓c_isnot, n_non, n_int, n_str, n_bl, n_tup, n_lst, n_ref, ↓u_bl, ↓u_int, ↓u_non, ↓u_tup, ↓u_lst,
  ↓x_t, ↓x_l, ↓x_lk, ↓x_r, ↓x_s, a_0, a_1, a_2, a_3, a_m1, last_in, ixN_last, set_len, ixN_m1, ↓z_r, ↓ik, ↓pk, ↓l_s, ↓l_t, ↓l_l, ↓l_lk, ↓l_r, ↓b_tuple, ↓b_listt, ↓b_listl, ↓b_listk, ↓b_listr, ↓b_lists, ↓b_inti, ↓b_intb, ↓b_abs, ↓b_max, ↓b_min, ↓b_divmod, ↓b_str, ↓b_strs, ↓b_strn, ↓b_any, ↓b_all, ↓b_sum, isiOk, isiD, ↓k_tup, ↓k_lst, ↓k_lk, ↓k_str, e_nw, ↓q_t, ↓q_tz, ↓q_l, ↓q_lk, ↓q_s, ↓q_r, ↓r_1, ↓r_2, ↓m_join, ↓m_split, ↓st_is, ↓ch_r, ↓set_r, ↓dr_nil, ↓dr_cons, md_s, md_n, ra_s, ra_r, ra_n, mset_mset,
  optD_some, optD_none, Bool.not_true, Bool.not_false, if_true, if_false, Bool.false_eq_true, List.cons_append, List.nil_append, List.length_cons, List.length_nil, Nat.reduceAdd, Nat.reduceLeDiff, true_and, and_true, and_self, decide_true, decide_false, Option.some.injEq, exists_eq', exists_eq, exists_eq_left, exists_eq_left', reduceIte, List.replicate, Nat.reduceSub, List.map_cons, List.map_nil, potAt_new, Int.reduceToNat, Int.reducePow, Int.reduceLT, Int.reduceLE, Int.reduceNeg, Int.reduceAdd, Int.reduceSub, Int.reduceMul, Int.reduceEq, Nat.reducePow, Nat.reduceLT, Nat.reduceMul, or_true, true_or, false_or, or_false, and_false, false_and, e_wn, ixN_0, ixN_1, ↓sh_new, List.set_cons_zero, List.set_cons_succ, eq_self, decide_true])
open P32
/-! ### k32: told -/
section
variable {G : Gc} {μ : Mem} {Q : DK} {X : EK}
theorem cut_to32 {l : List D} {k : Int} (h : 0 ≤ k) : cutD l none (some k) = l.take k.toNat := by
  unfold cutD
  have e0 : HT.sIx l.length 0 none = 0 := rfl
  have e1 : HT.sIx l.length l.length (some k) = min k.toNat l.length := by
    unfold HT.sIx
    simp only
    split <;> omega
  rw [e0, e1, List.drop_zero, Nat.sub_zero]
  by_cases c : k.toNat ≤ l.length
  · rw [Nat.min_eq_left c]
  · rw [Nat.min_eq_right (by omega), List.take_of_length_le (Nat.le_refl _), List.take_of_length_le (by omega)]
def S32_one_row : FSpec := fun ds μ Q _ => ∃ (h : HdB) (r : Rw) (cs : List Int) (x : D), ds = [eW (.cut cs), eR r, x] ∧ RowOk h r ∧ (∀ c ∈ cs, InH h c) ∧ cs.length ≤ 6 ∧ Q (eRs [cellsOf cs r]) μ
theorem wp32_one_row (h1 : G.fn "cells_of" = S32_cells_of) {h : HdB} {r : Rw} {cs : List Int} {x : D} (p : RowOk h r) (q : ∀ c ∈ cs, InH h c) (hl : cs.length ≤ 6) (k : Q (eRs [cellsOf cs r]) μ) : wpSs G b32_one_row [some (eW (.cut cs)), some (eR r), some x, none, none] μ (Ends0 Q) X := by
  unfold b32_one_row
  have e0 : eW (.cut cs) = .tup [.str ⟨#[99, 117, 116]⟩, eCo cs] := rfl
  rw [e0]
  walk_at "w"
  rw [if_neg (by decide), if_neg (by decide)]
  simp only [h1]
  refine ⟨h, r, cs, rfl, p, q, hl, ?_⟩
  try walk_at "w"
  exact k
def fedSt : P32.Wk → List Rw → D
  | .sort _, rows => .tup [.tup (rows.map eR)]
  | .apart, rows => eSo rows.getLast?
  | .count cs, rows => eSt none (sts cs rows).2
  | .sum cs c, rows => eSt (some c) (sts cs rows).2
  | .number, rows => .tup [.int (1 + (rows.length : Nat))]
  | .first n, rows => .tup [.int (n - ((rows.take n.toNat).length : Nat))]
  | .cut _, _ => .tup []
def fedOut : P32.Wk → List Rw → List Rw
  | .sort _, _ => []
  | .apart, rows => apart rows
  | .count cs, rows => (sts cs rows).1.map (outOf none)
  | .sum cs c, rows => (sts cs rows).1.map (outOf (some c))
  | .number, rows => numb1 1 rows
  | .first n, rows => rows.take n.toNat
  | .cut cs, rows => rows.map (cellsOf cs)
def restOut : P32.Wk → List Rw → List Rw
  | .sort o, rows => rows.mergeSort (lexLe o)
  | .count cs, rows => (sts cs rows).2.toList.map (outOf none)
  | .sum cs c, rows => (sts cs rows).2.toList.map (outOf (some c))
  | _, _ => []
theorem due_is (w : P32.Wk) (rows : List Rw) : fedOut w rows ++ restOut w rows = due w rows := by
  cases w <;> simp [fedOut, restOut, due, folded, Sts.all]
def S32_machine_fed : FSpec := fun ds μ Q _ => ∃ (h : HdB) (w : P32.Wk) (rows : List Rw) (x : D), ds = [eW w, fstS w, eRs rows, x] ∧ WkOk h w ∧ RowsOk h rows ∧ rows.length ≤ 60 ∧ h.length ≤ 6 ∧ Q (.tup [fedSt w rows, eRs (fedOut w rows)]) μ
theorem wp32_machine_fed (h1 : G.fn "apart_fed" = S32_apart_fed) (h2 : G.fn "stretches_fed" = S32_stretches_fed) (h3 : G.fn "numbered" = S32_numbered) (h4 : G.fn "one_row" = S32_one_row) {h : HdB} {w : P32.Wk} {rows : List Rw} {x : D} (hw : WkOk h w) (p : RowsOk h rows) (hl : rows.length ≤ 60) (hh : h.length ≤ 6) (k : Q (.tup [fedSt w rows, eRs (fedOut w rows)]) μ) :
    wpSs G b32_machine_fed [some (eW w), some (fstS w), some (eRs rows), some x, none, none, none] μ (Ends0 Q) X := by
  unfold b32_machine_fed
  cases w with
  | sort o =>
    have e0 : eW (.sort o) = .tup [.str ⟨#[115, 111, 114, 116]⟩, eOrd o] := rfl
    have e1 : fstS (.sort o) = .tup [.tup []] := rfl
    rw [e0, e1]
    walk_at "w"
    rw [if_neg (by decide)]
    show optD (seqA μ (eRs rows)) _
    unfold eRs at *
    walk_at "w"
    rw [List.length_map]
    exact ⟨by omega, k⟩
  | apart =>
    have e0 : eW .apart = .tup [.str ⟨#[97, 112, 97, 114, 116]⟩] := rfl
    have e1 : fstS .apart = .tup [] := rfl
    rw [e0, e1]
    walk_at "w"
    rw [if_neg (by decide), if_neg (by decide)]
    simp only [h1]
    exact ⟨h, rows, rfl, p, hl, k⟩
  | count cs =>
    have e0 : eW (.count cs) = .tup [.str ⟨#[99, 111, 117, 110, 116]⟩, eCo cs] := rfl
    have e1 : fstS (.count cs) = .tup [] := rfl
    rw [e0, e1]
    walk_at "w"
    rw [if_neg (by decide), if_neg (by decide), if_neg (by decide)]
    simp only [h2]
    exact ⟨h, rows, none, cs, rfl, p, hl, hw.1, hw.2, fun x z => (nomatch z), k⟩
  | sum cs c =>
    have e0 : eW (.sum cs c) = .tup [.str ⟨#[115, 117, 109]⟩, eCo cs, .int c] := rfl
    have e1 : fstS (.sum cs c) = .tup [] := rfl
    rw [e0, e1]
    walk_at "w"
    rw [if_neg (by decide), if_neg (by decide), if_neg (by decide), if_neg (by decide)]
    simp only [h2]
    exact ⟨h, rows, some c, cs, rfl, p, hl, hw.1.1, hw.1.2, fun x z => by cases z; exact hw.2, k⟩
  | number =>
    have e0 : eW .number = .tup [.str ⟨#[110, 117, 109, 98, 101, 114]⟩] := rfl
    have e1 : fstS .number = .tup [.int 1] := rfl
    rw [e0, e1]
    walk_at "w"
    rw [if_neg (by decide), if_neg (by decide), if_neg (by decide), if_neg (by decide), if_neg (by decide)]
    simp only [h3]
    exact ⟨h, rows, rfl, p, hl, hh, k⟩
  | first n =>
    have e0 : eW (.first n) = .tup [.str ⟨#[102, 105, 114, 115, 116]⟩, .int n] := rfl
    have e1 : fstS (.first n) = .tup [.int n] := rfl
    rw [e0, e1]
    unfold eRs at *
    walk_at "w"
    rw [if_neg (by decide), if_neg (by decide), if_neg (by decide), if_neg (by decide), if_neg (by decide), if_neg (by decide)]
    intro a ha
    rw [cut_to32 hw.1]
    try walk_at "w"
    rw [mdel_new ha, ← List.map_take, List.length_map]
    exact k
  | cut cs =>
    have e0 : eW (.cut cs) = .tup [.str ⟨#[99, 117, 116]⟩, eCo cs] := rfl
    have e1 : fstS (.cut cs) = .tup [] := rfl
    rw [e0, e1]
    unfold eRs at *
    walk_at "w"
    rw [if_neg (by decide), if_neg (by decide), if_neg (by decide), if_neg (by decide), if_neg (by decide), if_neg (by decide), if_neg (by decide)]
    intro a ha
    refine LP_ty rows eR (fun _ : List Rw => [some (.tup [.str ⟨#[99, 117, 116]⟩, eCo cs]), some (.tup []), some (.lst (rows.map eR)), some x, some (.str ⟨#[99, 117, 116]⟩), some (.ref a), none]) (fun s => mset μ a (.lst ((s.map (cellsOf cs)).map eR))) (fun done s => s = done) [] rfl rfl rfl (fun done r rest s e hs => ⟨trivial, fun N hN => ?_⟩) (fun s hs => ⟨trivial, ?_⟩)
    · subst hs
      have fin := hN (s ++ [r]) rfl
      have hr : RowOk h r := p r (by rw [e]; simp)
      have sl : s.length ≤ 60 := by have := congrArg List.length e; simp at this; omega
      walk_at "w"
      simp only [h4]
      refine ⟨h, r, cs, x, rfl, hr, hw.2, hw.1.2, ?_⟩
      unfold eRs
      walk_at "w"
      rw [List.length_map, List.length_map]
      refine ⟨by omega, ?_⟩
      rw [List.map_append, List.map_append] at fin
      exact fin
    · subst hs
      walk_at "w"
      rw [mdel_new ha]
      exact k
def S32_machine_rest (P : Addr) (tq : Str) : FSpec := fun ds μ Q _ => ∃ (h : HdB) (w : P32.Wk) (rows : List Rw), ds = [eW w, fedSt w rows] ∧ μ P = some (.tab tq) ∧ WkOk h w ∧ RowsOk h rows ∧ Q (eRs (restOut w rows)) μ
theorem wp32_machine_rest {P : Addr} {tq : Str} (h1 : G.fn "sorted_rows" = S32_sorted_rows P tq) (h2 : G.fn "stretch_row" = S32_stretch_row) {h : HdB} {w : P32.Wk} {rows : List Rw} (hT : μ P = some (.tab tq)) (hw : WkOk h w) (p : RowsOk h rows) (k : Q (eRs (restOut w rows)) μ) :
    wpSs G b32_machine_rest [some (eW w), some (fedSt w rows)] μ (Ends0 Q) X := by
  unfold b32_machine_rest
  have so : ∀ {cs : List Int}, cs.length ≤ 5 → (∀ c ∈ cs, InH h c) → ∀ x, (sts cs rows).2 = some x → x.1.length ≤ 6 := fun {cs} l q x hx => by rw [(stOk p q hx).2]; omega
  cases w with
  | sort o =>
    have e0 : eW (.sort o) = .tup [.str ⟨#[115, 111, 114, 116]⟩, eOrd o] := rfl
    have e1 : fedSt (.sort o) rows = .tup [.tup (rows.map eR)] := rfl
    rw [e0, e1]
    walk_at "w"
    simp only [h1]
    exact ⟨h, rows, o, rfl, hT, p, hw, k⟩
  | apart =>
    have e0 : eW .apart = .tup [.str ⟨#[97, 112, 97, 114, 116]⟩] := rfl
    rw [e0]
    walk_at "w"
    rw [if_neg (by decide), if_neg (by decide), if_neg (by decide)]
    exact k
  | count cs =>
    have e0 : eW (.count cs) = .tup [.str ⟨#[99, 111, 117, 110, 116]⟩, eCo cs] := rfl
    rw [e0]
    walk_at "w"
    rw [if_neg (by decide)]
    simp only [h2]
    exact ⟨none, (sts cs rows).2, rfl, so hw.1 hw.2, k⟩
  | sum cs c =>
    have e0 : eW (.sum cs c) = .tup [.str ⟨#[115, 117, 109]⟩, eCo cs, .int c] := rfl
    rw [e0]
    walk_at "w"
    rw [if_neg (by decide), if_neg (by decide)]
    simp only [h2]
    exact ⟨some c, (sts cs rows).2, rfl, so hw.1.1 hw.1.2, k⟩
  | number =>
    have e0 : eW .number = .tup [.str ⟨#[110, 117, 109, 98, 101, 114]⟩] := rfl
    rw [e0]
    walk_at "w"
    rw [if_neg (by decide), if_neg (by decide), if_neg (by decide)]
    exact k
  | first n =>
    have e0 : eW (.first n) = .tup [.str ⟨#[102, 105, 114, 115, 116]⟩, .int n] := rfl
    rw [e0]
    walk_at "w"
    rw [if_neg (by decide), if_neg (by decide), if_neg (by decide)]
    exact k
  | cut cs =>
    have e0 : eW (.cut cs) = .tup [.str ⟨#[99, 117, 116]⟩, eCo cs] := rfl
    rw [e0]
    walk_at "w"
    rw [if_neg (by decide), if_neg (by decide), if_neg (by decide)]
    exact k
end
end DL
namespace DL
open PySem PySem.Spec PyProof.Rows L2
local macro_rules | `(tactic| walk_at "w") => `(tactic| simp only [↓w_skey, ↓s_par3, ↓w_rst, ↓w_fzo, ↓w_tpd, ↓w_pl, ↓w_mko, ↓w_kx, ↓w_kget, ↓w_kls, ↓w_tix, ↓w_lrg, ↓w_tzn, ↓x_tp, sa_tpl, ↓k_tpl, ↓x_tz, sa_tpz, ↓k_tpz, ↓w_meth, ↓w_dnw, ↓s_setA, ↓s_setK, ↓s_raiseI, rz_2, ob_s, dc_s, ↓at_r, ↓at_i, ↓sA_r, ↓sK_r, ↓fo_r, ↓w_mkx1, ↓w_mkx, ↓w_isx, ↓w_atx, mkx_2, gok_n, gok_s, ↓isx_e, ↓atx_e, ↓w_v, ↓g_z, ↓g_s, ↓w_g, ↓w_non, ↓w_bl, ↓w_int, ↓w_str, ↓w_bin, ↓w_neg, ↓w_cmp, ↓w_chain, ↓w_and, ↓w_or, ↓w_not, ↓w_ite, ↓w_tup, ↓w_lst, ↓w_ix, ↓w_sl, ↓w_lc, ↓w_call, ↓w_bi, ↓w_isi, ↓w_mt, ↓w_fz, ↓w_emp, ↓w_sq, ↓sq_x, ↓sq_f, ↓sq_c, ↓w_popE, ↓w_popI, ↓w_sset, ↓w_nset, ↓w_pt, ↓w_shut, ↓w_drop, ↓w_nil, ↓w_cons, ↓w_rep2, ad_s, ↓r2_s, ↓d_mull, ↓d_mult, ↓w_no, ↓w_one, ↓d_muls, ↓w_cnt, ↓w_spm, ↓w_rpr, ↓w_lax, ↓sp_m, ↓rp_t, ↓tg_lst,
  ↓t_val, ↓t_cm, ↓t_and, ↓t_or, ↓t_not, ↓t_nil, ↓t_one, ↓i_seq, ↓i_range1, ↓i_range2, ↓i_enum, ↓i_zip, ↓i_rev, ↓s_nil, ↓s_one, ↓s_cons, ↓s_set, ↓s_asg, ↓s_par, ↓s_setIx, ↓s_setIx2, ↓tup2_ok, ↓s_aug, ↓s_expr, ↓s_app, ↓s_pop, ↓s_ins, ↓s_raise, ↓s_tryAs, ↓s_try, ↓s_ext, ↓s_clear, ↓s_ret, ↓s_retN, ↓s_ite, ↓s_for, ↓s_while, ↓s_pass, ↓s_brk, ↓s_cont, ↓s_opn, ↓s_drp,
  ↓tg_v, ↓tg_tup, ↓tg_nil, ↓tg_cons, ↓wr_nil, ↓wr_cons, sl_v, sl_tup, sl_nil, sl_cons, ↓wk_nx, ↓wk_ct, ↓wk_bk, ↓wk_rt, ls_z, ls_s,
  ↓d_addi, ↓d_adds, ↓d_addt, ↓d_addl, ↓d_addr, ↓d_sub, ↓d_mul, ↓d_fdiv, ↓d_mod, ↓d_pow, ↓n_t, ↓n_f, sl_lst, sl_lk, sp_lst, sa_lst, sa_lk, sa_tup, sl_ref, sp_ref, sa_ref, ↓c_eqi, ↓c_eqs, ↓c_nei, ↓c_nes, ↓c_lt, ↓c_le, ↓c_gt, ↓c_ge, ↓c_lts, ↓c_les, ↓c_gts, ↓c_ges, ↓c_is, ↓c_isnot, n_non, n_int, n_str, n_bl, n_tup, n_lst, n_ref, ↓u_bl, ↓u_int, ↓u_non, ↓u_tup, ↓u_lst,
  ↓x_t, ↓x_l, ↓x_lk, ↓x_r, ↓x_s, a_0, a_1, a_2, a_3, a_m1, last_in, ixN_last, set_len, ixN_m1, ↓z_r, ↓ik, ↓pk, ↓l_s, ↓l_t, ↓l_l, ↓l_lk, ↓l_r, ↓b_tuple, ↓b_listt, ↓b_listl, ↓b_listk, ↓b_listr, ↓b_lists, ↓b_inti, ↓b_intb, ↓b_abs, ↓b_max, ↓b_min, ↓b_divmod, ↓b_str, ↓b_strs, ↓b_strn, ↓b_any, ↓b_all, ↓b_sum, isiOk, isiD, ↓k_tup, ↓k_lst, ↓k_lk, ↓k_str, e_nw, ↓q_t, ↓q_tz, ↓q_l, ↓q_lk, ↓q_s, ↓q_r, ↓r_1, ↓r_2, ↓m_join, ↓m_split, ↓st_is, ↓ch_r, ↓set_r, ↓dr_nil, ↓dr_cons, md_s, md_n, ra_s, ra_r, ra_n, mset_mset,
  optD_some, optD_none, Bool.not_true, Bool.not_false, if_true, if_false, Bool.false_eq_true, List.cons_append, List.nil_append, List.length_cons, List.length_nil, Nat.reduceAdd, Nat.reduceLeDiff, true_and, and_true, and_self, decide_true, decide_false, Option.some.injEq, exists_eq', exists_eq, exists_eq_left, exists_eq_left', reduceIte, List.replicate, Nat.reduceSub, List.map_cons, List.map_nil, potAt_new, Int.reduceToNat, Int.reducePow, Int.reduceLT, Int.reduceLE, Int.reduceNeg, Int.reduceAdd, Int.reduceSub, Int.reduceMul, Int.reduceEq, Nat.reducePow, Nat.reduceLT, Nat.reduceMul, or_true, true_or, false_or, or_false, and_false, false_and, e_wn, ixN_0, ixN_1, ↓sh_new, List.set_cons_zero, List.set_cons_succ, eq_self, decide_true])
open P32
/-! ### k32: told by a pipe -/
def sBoth32 : Str := ⟨#[98, 111, 116, 104]⟩
def sMeet32 : Str := ⟨#[109, 101, 101, 116]⟩
def brTup32 : D := .tup [.str sBoth32, .str sMeet32]
section
variable {G : Gc} {μ : Mem} {Q : DK} {X : EK}
theorem in_words32 {x : Str} {l : List Str} {q : Bool → Prop} (h : q (l.any fun y => decide (y = x))) : cmpD .inn (.str x) (.tup (l.map D.str)) μ q := by
  have e : ∀ l : List Str, ((l.map D.str).any fun e => e.eqv (.str x)) = l.any fun y => decide (y = x) := by
    intro l
    induction l with
    | nil => rfl
    | cons y l ih =>
      rw [List.map_cons, List.any_cons, List.any_cons, ih]
      congr 1
  have f : ∀ l : List Str, (l.map D.str).all D.flat = true := by
    intro l
    induction l with
    | nil => rfl
    | cons y l ih => rw [List.map_cons, List.all_cons, ih]; rfl
  exact ⟨rfl, f l, by rw [e]; exact h⟩
theorem not_br0 : ∀ x ∈ [(⟨#[115, 111, 114, 116]⟩ : Str), ⟨#[97, 112, 97, 114, 116]⟩, ⟨#[99, 111, 117, 110, 116]⟩, ⟨#[115, 117, 109]⟩, ⟨#[110, 117, 109, 98, 101, 114]⟩, ⟨#[102, 105, 114, 115, 116]⟩, ⟨#[99, 117, 116]⟩], ([sBoth32, sMeet32].any fun y => decide (y = x)) = false := by decide
theorem not_br (w : P32.Wk) : ([sBoth32, sMeet32].any fun y => decide (y = wdOf w)) = false := not_br0 _ (by cases w <;> simp [wdOf])
def S32_told_by (P : Addr) (tq : Str) : FSpec := fun ds μ Q _ => ∃ (h : HdB) (w : P32.Wk) (rows : List Rw) (x : D), ds = [eW w, eRs rows, x] ∧ μ P = some (.tab tq) ∧ WkOk h w ∧ RowsOk h rows ∧ rows.length ≤ 60 ∧ h.length ≤ 6 ∧ Q (eRs (due w rows)) μ
theorem wp32_told_by {P : Addr} {tq : Str} (hb : G.cst "BRANCHED" = some brTup32) (h1 : G.fn "first_state" = S32_first_state) (h2 : G.fn "machine_fed" = S32_machine_fed) (h3 : G.fn "machine_rest" = S32_machine_rest P tq) {h : HdB} {w : P32.Wk} {rows : List Rw} {x : D} (hT : μ P = some (.tab tq)) (hw : WkOk h w) (p : RowsOk h rows) (hl : rows.length ≤ 60) (hh : h.length ≤ 6) (k : Q (eRs (due w rows)) μ) :
    wpSs G b32_told_by [some (eW w), some (eRs rows), some x, none, none, none, none] μ (Ends0 Q) X := by
  unfold b32_told_by
  have e0 : ∃ t, eW w = .tup (.str (wdOf w) :: t) := ⟨_, rfl⟩
  obtain ⟨t, et⟩ := e0
  walk_at "w"
  simp only [hb, h1, h2, h3, optD_some]
  rw [et]
  walk_at "w"
  refine in_words32 (l := [sBoth32, sMeet32]) (q := fun b => if (!b) = true then _ else _) ?_
  rw [not_br]
  walk_at "w"
  rw [← et]
  refine ⟨w, rfl, ?_⟩
  refine ⟨h, w, rows, x, rfl, hw, p, hl, hh, ?_⟩
  walk_at "w"
  refine ⟨h, w, rows, rfl, hT, hw, p, ?_⟩
  have l1 : (fedOut w rows ++ restOut w rows).length ≤ rows.length := by rw [due_is]; exact due_len w rows
  rw [List.length_append] at l1
  unfold eRs
  walk_at "w"
  rw [List.length_map, List.length_map]
  refine ⟨by omega, ?_⟩
  rw [← due_is] at k
  unfold eRs at k
  rw [List.map_append] at k
  exact k
def dueAll (ws : List P32.Wk) (rows : List Rw) : List Rw := ws.foldl (fun r w => due w r) rows
def hdAll (h : HdB) (ws : List P32.Wk) : HdB := ws.foldl hdBehind h
theorem dueAll_snoc (ws : List P32.Wk) (w : P32.Wk) (rows : List Rw) : dueAll (ws ++ [w]) rows = due w (dueAll ws rows) := by unfold dueAll; rw [List.foldl_append]; rfl
theorem hdAll_snoc (h : HdB) (ws : List P32.Wk) (w : P32.Wk) : hdAll h (ws ++ [w]) = hdBehind (hdAll h ws) w := by unfold hdAll; rw [List.foldl_append]; rfl
def PipeOk32 (h : HdB) (ws : List P32.Wk) : Prop := ∀ done w rest, ws = done ++ w :: rest → WkOk (hdAll h done) w
theorem pipe_snoc {h : HdB} {ws : List P32.Wk} {w : P32.Wk} (p : PipeOk32 h ws) (q : WkOk (hdAll h ws) w) : PipeOk32 h (ws ++ [w]) := fun done x rest e => by
  rcases List.eq_nil_or_concat rest with z | ⟨r2, y, z⟩
  · subst z
    have := List.append_inj' (show ws ++ [w] = done ++ [x] from e) rfl
    obtain ⟨e1, e2⟩ := this
    cases e2
    rw [← e1]
    exact q
  · have z : rest = r2 ++ [y] := by rw [z]; simp
    subst z
    have := List.append_inj' (show ws ++ [w] = (done ++ x :: r2) ++ [y] from by rw [e]; simp) rfl
    exact p done x r2 this.1
/-- what is known of rows on their way through a pipe -/
structure Way (h : HdB) (ws : List P32.Wk) (rows : List Rw) : Prop where
  ok : RowsOk (hdAll h ws) (dueAll ws rows)
  len : (dueAll ws rows).length ≤ 60
  h1 : 1 ≤ (hdAll h ws).length
  h6 : (hdAll h ws).length ≤ 6
theorem Way.snoc {h : HdB} {ws : List P32.Wk} {rows : List Rw} (p : Way h ws rows) {w : P32.Wk} (q : WkOk (hdAll h ws) w) : Way h (ws ++ [w]) rows where
  ok := by rw [dueAll_snoc, hdAll_snoc]; exact due_ok p.ok q
  len := by rw [dueAll_snoc]; exact Nat.le_trans (due_len w _) p.len
  h1 := by rw [hdAll_snoc]; exact hdBehind_pos p.h1 q
  h6 := by rw [hdAll_snoc]; exact hdBehind_le p.h6 q
def ePp (ws : List P32.Wk) : D := .tup (ws.map eW)
theorem enum_t32 {l : List D} {R : List D → (Mem → Prop) → Mem → Prop} : enumIt (.tup l) μ R = R (numb l) (fun _ => True) μ := rfl
theorem zip_done {A : Type} {l : List A} {done : List (A × Nat)} {z : A × Nat} {rest : List (A × Nat)} (e : l.zipIdx = done ++ z :: rest) : l = done.map (·.1) ++ z.1 :: rest.map (·.1) := by
  have := congrArg (List.map (·.1)) e
  rw [List.map_append, List.map_cons] at this
  rw [← this]
  simp
def S32_told_behind (P : Addr) (tq : Str) : FSpec := fun ds μ Q _ => ∃ (h : HdB) (ws : List P32.Wk) (rows : List Rw), ds = [ePp ws, eRs rows, .tup []] ∧ μ P = some (.tab tq) ∧ PipeOk32 h ws ∧ Way h [] rows ∧ Q (eRs (dueAll ws rows)) μ
theorem wp32_told_behind {P : Addr} {tq : Str} (h1 : G.fn "told_by" = S32_told_by P tq) {h : HdB} {ws : List P32.Wk} {rows : List Rw} (hT : μ P = some (.tab tq)) (p : PipeOk32 h ws) (q : Way h [] rows) (k : Q (eRs (dueAll ws rows)) μ) :
    wpSs G b32_told_behind [some (ePp ws), some (eRs rows), some (.tup []), none, none] μ (Ends0 Q) X := by
  unfold b32_told_behind ePp
  walk_at "w"
  rw [enum_t32, numb_zip]
  refine LP_ty ws.zipIdx (fun p => .tup [.int ((p.2 : Nat) : Int), eW p.1]) (fun s : List P32.Wk => [some (.tup (ws.map eW)), some (eRs (dueAll s rows)), some (.tup []), none, none]) (fun _ => μ) (fun done s => s = done.map (·.1) ∧ Way h s rows) [] rfl rfl ⟨rfl, q⟩ (fun done z rest s e hs => ⟨trivial, fun N hN => ?_⟩) (fun s hs => ⟨trivial, ?_⟩)
  · obtain ⟨hs, wy⟩ := hs
    subst hs
    have hz := p _ _ _ (zip_done e)
    have fin := hN ((done ++ [z]).map (·.1)) ⟨rfl, by rw [List.map_append]; exact wy.snoc hz⟩
    rw [List.map_append] at fin
    rw [List.map_cons, List.map_nil, dueAll_snoc] at fin
    walk_at "w"
    simp only [h1]
    refine ⟨_, z.1, _, _, rfl, hT, hz, wy.ok, wy.len, wy.h6, ?_⟩
    try walk_at "w"
    exact fin
  · obtain ⟨hs, _⟩ := hs
    subst hs
    walk_at "w"
    rw [show ws.zipIdx.map (·.1) = ws by simp]
    exact k
def S32_told (P : Addr) (tq : Str) : FSpec := fun ds μ Q _ => ∃ (h : HdB) (ws : List P32.Wk) (rows : List Rw), ds = [ePp ws, eRs rows] ∧ μ P = some (.tab tq) ∧ PipeOk32 h ws ∧ Way h [] rows ∧ Q (eRs (dueAll ws rows)) μ
theorem wp32_told {P : Addr} {tq : Str} (h1 : G.fn "told_behind" = S32_told_behind P tq) {h : HdB} {ws : List P32.Wk} {rows : List Rw} (hT : μ P = some (.tab tq)) (p : PipeOk32 h ws) (q : Way h [] rows) (k : Q (eRs (dueAll ws rows)) μ) :
    wpSs G b32_told [some (ePp ws), some (eRs rows)] μ (Ends0 Q) X := by
  unfold b32_told
  walk_at "w"
  simp only [h1]
  show S32_told_behind P tq [ePp ws, eRs rows, D.tup []] μ Q X
  exact ⟨h, ws, rows, rfl, hT, p, q, k⟩
end
end DL
namespace DL
open PySem PySem.Spec PyProof.Rows L2
local macro_rules | `(tactic| walk_at "w") => `(tactic| simp only [↓w_skey, ↓s_par3, ↓w_rst, ↓w_fzo, ↓w_tpd, ↓w_pl, ↓w_mko, ↓w_kx, ↓w_kget, ↓w_kls, ↓w_tix, ↓w_lrg, ↓w_tzn, ↓x_tp, sa_tpl, ↓k_tpl, ↓x_tz, sa_tpz, ↓k_tpz, ↓w_meth, ↓w_dnw, ↓s_setA, ↓s_setK, ↓s_raiseI, rz_2, ob_s, dc_s, ↓at_r, ↓at_i, ↓sA_r, ↓sK_r, ↓fo_r, ↓w_mkx1, ↓w_mkx, ↓w_isx, ↓w_atx, mkx_2, gok_n, gok_s, ↓isx_e, ↓atx_e, ↓w_v, ↓g_z, ↓g_s, ↓w_g, ↓w_non, ↓w_bl, ↓w_int, ↓w_str, ↓w_bin, ↓w_neg, ↓w_cmp, ↓w_chain, ↓w_and, ↓w_or, ↓w_not, ↓w_ite, ↓w_tup, ↓w_lst, ↓w_ix, ↓w_sl, ↓w_lc, ↓w_call, ↓w_bi, ↓w_isi, ↓w_mt, ↓w_fz, ↓w_emp, ↓w_sq, ↓sq_x, ↓sq_f, ↓sq_c, ↓w_popE, ↓w_popI, ↓w_sset, ↓w_nset, ↓w_pt, ↓w_shut, ↓w_drop, ↓w_nil, ↓w_cons, ↓w_rep2, ad_s, ↓r2_s, ↓d_mull, ↓d_mult, ↓w_no, ↓w_one, ↓d_muls, ↓w_cnt, ↓w_spm, ↓w_rpr, ↓w_lax, ↓sp_m, ↓rp_t, ↓tg_lst,
  ↓t_val, ↓t_cm, ↓t_and, ↓t_or, ↓t_not, ↓t_nil, ↓t_one, ↓i_seq, ↓i_range1, ↓i_range2, ↓i_enum, ↓i_zip, ↓i_rev, ↓s_nil, ↓s_one, ↓s_cons, ↓s_set, ↓s_asg, ↓s_par, ↓s_setIx, ↓s_setIx2, ↓tup2_ok, ↓s_aug, ↓s_expr, ↓s_app, ↓s_pop, ↓s_ins, ↓s_raise, ↓s_tryAs, ↓s_try, ↓s_ext, ↓s_clear, ↓s_ret, ↓s_retN, ↓s_ite, ↓s_for, ↓s_while, ↓s_pass, ↓s_brk, ↓s_cont, ↓s_opn, ↓s_drp,
  ↓tg_v, ↓tg_tup, ↓tg_nil, ↓tg_cons, ↓wr_nil, ↓wr_cons, sl_v, sl_tup, sl_nil, sl_cons, ↓wk_nx, ↓wk_ct, ↓wk_bk, ↓wk_rt, ls_z, ls_s,
  ↓d_addi, ↓d_adds, ↓d_addt, ↓d_addl, ↓d_addr, ↓d_sub, ↓d_mul, ↓d_fdiv, ↓d_mod, ↓d_pow, ↓n_t, ↓n_f, sl_lst, sl_lk, sp_lst, sa_lst, sa_lk, sa_tup, sl_ref, sp_ref, sa_ref, ↓c_eqi, ↓c_eqs, ↓c_nei, ↓c_nes, ↓c_lt, ↓c_le, ↓c_gt, ↓c_ge, ↓c_lts, ↓c_les, ↓c_gts, ↓c_ges, ↓c_is, ↓c_isnot, n_non, n_int, n_str, n_bl, n_tup, n_lst, n_ref, ↓u_bl, ↓u_int, ↓u_non, ↓u_tup, ↓u_lst,
  ↓x_t, ↓x_l, ↓x_lk, ↓x_r, ↓x_s, a_0, a_1, a_2, a_3, a_m1, last_in, ixN_last, set_len, ixN_m1, ↓z_r, ↓ik, ↓pk, ↓l_s, ↓l_t, ↓l_l, ↓l_lk, ↓l_r, ↓b_tuple, ↓b_listt, ↓b_listl, ↓b_listk, ↓b_listr, ↓b_lists, ↓b_inti, ↓b_intb, ↓b_abs, ↓b_max, ↓b_min, ↓b_divmod, ↓b_str, ↓b_strs, ↓b_strn, ↓b_any, ↓b_all, ↓b_sum, isiOk, isiD, ↓k_tup, ↓k_lst, ↓k_lk, ↓k_str, e_nw, ↓q_t, ↓q_tz, ↓q_l, ↓q_lk, ↓q_s, ↓q_r, ↓r_1, ↓r_2, ↓m_join, ↓m_split, ↓st_is, ↓ch_r, ↓set_r, ↓dr_nil, ↓dr_cons, md_s, md_n, ra_s, ra_r, ra_n, mset_mset,
  optD_some, optD_none, Bool.not_true, Bool.not_false, if_true, if_false, Bool.false_eq_true, List.cons_append, List.nil_append, List.length_cons, List.length_nil, Nat.reduceAdd, Nat.reduceLeDiff, true_and, and_true, and_self, decide_true, decide_false, Option.some.injEq, exists_eq', exists_eq, exists_eq_left, exists_eq_left', reduceIte, List.replicate, Nat.reduceSub, List.map_cons, List.map_nil, potAt_new, Int.reduceToNat, Int.reducePow, Int.reduceLT, Int.reduceLE, Int.reduceNeg, Int.reduceAdd, Int.reduceSub, Int.reduceMul, Int.reduceEq, Nat.reducePow, Nat.reduceLT, Nat.reduceMul, or_true, true_or, false_or, or_false, and_false, false_and, e_wn, ixN_0, ixN_1, ↓sh_new, List.set_cons_zero, List.set_cons_succ, eq_self, decide_true])
open P32
/-! ### k32: rows and workers drawn -/
section
variable {G : Gc} {μ : Mem} {Q : DK} {X : EK}
def hOf (hs : List Str) : HdB := hs.map isWd
theorem hOf_at (hs : List Str) (c : Int) : hdAt (hOf hs) c = isWd (hs.getD (c - 1).toNat ⟨#[]⟩) := by
  unfold hdAt hOf
  rw [List.getD_eq_getElem?_getD, List.getD_eq_getElem?_getD, List.getElem?_map]
  cases hs[(c - 1).toNat]? with
  | none => decide
  | some s => rfl
theorem hOf_len (hs : List Str) : (hOf hs).length = hs.length := List.length_map _
theorem row_of : ∀ {hs : List Str} {ds : List D}, All2 (fun x d => ∃ c, d = eCell c ∧ TyC (isWd x) c) hs ds → ∃ r : Rw, ds = r.map eCell ∧ RowOk (hOf hs) r
  | _, _, .nil => ⟨[], rfl, rfl, fun k hk => absurd hk (Nat.not_lt_zero _)⟩
  | _, _, .cons (a := x) p q => by
    obtain ⟨c, e, hc⟩ := p
    obtain ⟨r, e2, h1, h2⟩ := row_of q
    refine ⟨c :: r, by rw [e, e2]; rfl, by show r.length + 1 = _ + 1; rw [h1]; rfl, fun k hk => ?_⟩
    cases k with
    | zero => exact hc
    | succ k => exact h2 k (Nat.lt_of_succ_lt_succ hk)
def S32_rows : FSpec := fun ds μ Q _ => ∃ (a : Addr) (hs : List Str), ds = [.ref a, eHs hs, .int 60] ∧ potAt μ a ∧ hs.length ≤ 6 ∧ ∀ rows : List Rw, RowsOk (hOf hs) rows → rows.length ≤ 60 → Q (eRs rows) μ
theorem wp32_rows (h0 : G.fn "_law_draw" = S_draw) (h1 : G.fn "_law_cell" = S32_cell) {a : Addr} {hs : List Str} (hp : potAt μ a) (hl : hs.length ≤ 6) (k : ∀ rows : List Rw, RowsOk (hOf hs) rows → rows.length ≤ 60 → Q (eRs rows) μ) : wpSs G b32_l_rows [some (.ref a), some (eHs hs), some (.int 60), none, none, none] μ (Ends0 Q) X := by
  unfold b32_l_rows
  walk_at "w"
  simp only [h0, h1]
  intro q hq
  have pot1 : ∀ l, potAt (mset μ q (.lst l)) a := fun l => potAt_lst hp hq
  refine ⟨a, 61, rfl, pot1 _, ⟨by decide, by decide⟩, fun t t0 t1 => ?_⟩
  try walk_at "w"
  refine ⟨by omega, by omega, ?_⟩
  refine LP_ty (List.range t.toNat) (fun i => D.int (0 + (i : Nat))) (fun _ : List Rw => [some (.ref a), some (eHs hs), some (.int 60), some (.ref q), none, none]) (fun s => mset μ q (.lst (s.map eR))) (fun done s => s.length = done.length ∧ RowsOk (hOf hs) s) [] rfl rfl ⟨rfl, fun r hr => (nomatch hr)⟩ (fun done i rest s e hs2 => ⟨trivial, fun N hN => ?_⟩) (fun s hs2 => ⟨trivial, ?_⟩)
  · obtain ⟨e1, e2⟩ := hs2
    have dl : done.length < 60 := by
      have := congrArg List.length e
      simp at this
      omega
    have add : ∀ r : Rw, RowOk (hOf hs) r → N [some (.ref a), some (eHs hs), some (.int 60), some (.ref q), none, none] (mset μ q (.lst (s.map eR ++ [eR r]))) := fun r hr => by
      have := hN (s ++ [r]) ⟨by simp [e1], fun x hx => by
        rcases List.mem_append.mp hx with z | z
        · exact e2 x z
        · rw [List.mem_singleton.mp z]; exact hr⟩
      rw [List.map_append] at this
      exact this
    have new : LC (hs.map .str) (mset μ q (.lst (s.map eR))) (fun _ => True) (fun x μ2 R => S32_cell [D.ref a, x] μ2 (fun d μ5 => R (some d) μ5) X) fun acc μ2 => optD (seqL μ2 (.ref q)) fun l => l.length < 16777216 ∧ N [some (.ref a), some (eHs hs), some (.int 60), some (.ref q), none, none] (mset μ2 q (.lst (l ++ [.tup acc]))) := by
      refine LC_rel hs .str (fun x d => ∃ c, d = eCell c ∧ TyC (isWd x) c) (by omega) trivial (fun x hx R hR => ?_) fun ds hds => ?_
      · exact ⟨a, x, rfl, pot1 _, fun c hc => hR _ ⟨c, rfl, hc⟩⟩
      · have : ∃ r : Rw, ds = r.map eCell ∧ RowOk (hOf hs) r := row_of hds
        obtain ⟨r, e3, hr⟩ := this
        rw [e3, sl_ref, optD_some, List.length_map, mset_mset]
        exact ⟨by omega, add r hr⟩
    walk_at "w"
    have pk : ∀ r ∈ s, RowK r := fun r hr => rowk (e2 r hr)
    have pm := plainRow.map s pk
    refine ne_nilR pm.1 (by have := pm.2; omega) ?_
    by_cases sn : s = []
    · rw [show (s.map eR).isEmpty = true by rw [sn]; rfl, if_neg (by decide)]
      exact new
    · have sp : 0 < s.length := List.length_pos_iff.mpr sn
      rw [show (s.map eR).isEmpty = false by cases s with | nil => exact absurd rfl sn | cons x y => rfl, if_pos (by decide)]
      refine ⟨a, 3, rfl, pot1 _, ⟨by decide, by decide⟩, fun u u0 u1 => ?_⟩
      try walk_at "w"
      by_cases uz : u = 0
      · rw [decide_eq_true uz, if_pos rfl]
        try rw [sl_ref, optD_some]
        refine ⟨a, _, rfl, pot1 _, ⟨by rw [List.length_map]; omega, by rw [List.length_map]; omega⟩, fun v v0 v1 => ?_⟩
        rw [List.length_map] at v1
        show optD (seqA _ (D.ref q)) _
        rw [show seqA (mset μ q (.lst (s.map eR))) (.ref q) = some (s.map eR) from sl_ref, optD_some]
        rw [a_nat v0, List.getElem?_map, List.getElem?_eq_getElem (by omega), Option.map_some, optD_some]
        show optD (seqL _ _) _
        rw [sl_ref, optD_some, List.length_map, mset_mset]
        exact ⟨by omega, add _ (e2 _ (List.getElem_mem _))⟩
      · rw [decide_eq_false uz, if_neg (by decide)]
        exact new
  · obtain ⟨e1, e2⟩ := hs2
    rw [List.length_range] at e1
    walk_at "w"
    rw [mdel_new hq]
    exact k s e2 (by omega)

/-! ### a worker -/
def numsOf (hs : List Str) : List Int := (List.range hs.length).filterMap fun k => if (!decide (hs.getD k ⟨#[]⟩ = ⟨#[119]⟩)) = true then some (0 + (k : Nat) + 1) else none
theorem nums_len (hs : List Str) : (numsOf hs).length ≤ hs.length := by
  unfold numsOf
  refine Nat.le_trans (List.length_filterMap_le _ _) ?_
  rw [List.length_range]
  exact Nat.le_refl _
theorem nums_mem {hs : List Str} {c : Int} (h : c ∈ numsOf hs) : InH (hOf hs) c ∧ hdAt (hOf hs) c = false := by
  obtain ⟨k, hk, e⟩ := List.mem_filterMap.mp h
  rw [List.mem_range] at hk
  split at e
  · rename_i w
    cases e
    refine ⟨⟨by omega, by rw [hOf_len]; omega⟩, ?_⟩
    rw [hOf_at, show (0 + (k : Int) + 1 - 1).toNat = k by omega]
    exact decide_eq_false (by simpa using w)
  · cases e
theorem hs_at {hs : List Str} {c : Int} (h1 : 1 ≤ c) (h2 : c ≤ (hs.length : Nat)) {g : D → Prop} (k : g (.str (hs.getD (c - 1).toNat ⟨#[]⟩))) : optD (atI (hs.map D.str) (c - 1)) g := by
  have hl : (c - 1).toNat < hs.length := by omega
  rw [a_nat (by omega), List.getElem?_map, List.getElem?_eq_getElem hl]
  rw [List.getD_eq_getElem?_getD, List.getElem?_eq_getElem hl] at k
  exact k
def S32_worker : FSpec := fun ds μ Q _ => ∃ (a : Addr) (hs : List Str), ds = [.ref a, eHs hs] ∧ potAt μ a ∧ 1 ≤ hs.length ∧ hs.length ≤ 6 ∧ ∀ (w : P32.Wk) (hs2 : List Str), WkOk (hOf hs) w → hOf hs2 = hdBehind (hOf hs) w → Q (.tup [eW w, eHs hs2]) μ
theorem lc_heads {hs : List Str} {cs : List Int} (hl : cs.length ≤ 6) (hc : ∀ c ∈ cs, 1 ≤ c ∧ c ≤ (hs.length : Nat)) {Q' : List D → Mem → Prop} (k : Q' ((cs.map fun c => hs.getD (c - 1).toNat ⟨#[]⟩).map D.str) μ) :
    seqIt (eCo cs) μ fun items ok μ1 => LC items μ1 ok (fun x μ2 R => binD true .sub x (.int 1) μ2 fun y μ2 => ixD (.lst (hs.map D.str)) y μ2 fun d μ5 => R (some d) μ5) Q' := by
  unfold eCo
  rw [q_t]
  refine LC_map cs .int (fun c => D.str (hs.getD (c - 1).toNat ⟨#[]⟩)) (by omega) trivial (fun c h R hR => ?_) ?_
  · rw [d_sub]
    obtain ⟨h1, h2⟩ := hc c h
    exact hs_at h1 h2 hR
  · rw [List.map_map] at k
    exact k
theorem hOf_cols (hs : List Str) (cs : List Int) : hOf (cs.map fun c => hs.getD (c - 1).toNat ⟨#[]⟩) = cs.map (hdAt (hOf hs)) := by
  unfold hOf
  rw [List.map_map]
  exact List.map_congr_left fun c _ => (hOf_at hs c).symm
theorem hOf_t (hs : List Str) : hOf (hs ++ [⟨#[116]⟩]) = hOf hs ++ [false] := by
  unfold hOf
  rw [List.map_append]
  congr 1
theorem wp32_worker (h0 : G.fn "_law_draw" = S_draw) (h1 : G.fn "_law_order" = S32_order) (h2 : G.fn "_law_columns" = S32_columns) {a : Addr} {hs : List Str} (hp : potAt μ a) (l1 : 1 ≤ hs.length) (l6 : hs.length ≤ 6) (k : ∀ (w : P32.Wk) (hs2 : List Str), WkOk (hOf hs) w → hOf hs2 = hdBehind (hOf hs) w → Q (.tup [eW w, eHs hs2]) μ) :
    wpSs G b32_l_worker [some (.ref a), some (eHs hs), none, none, none, none, none, none, none] μ (Ends0 Q) X := by
  have inH : ∀ c : Int, 1 ≤ c → c ≤ (hs.length : Nat) → InH (hOf hs) c := fun c a b => ⟨a, by rw [hOf_len]; exact b⟩
  have kApart := k .apart hs trivial rfl
  unfold b32_l_worker
  walk_at "w"
  simp only [h0, h1, h2]
  refine ⟨a, 8, rfl, hp, ⟨by decide, by decide⟩, fun u u0 u1 => ?_⟩
  unfold eHs
  try walk_at "w"
  rw [List.length_map]
  refine ⟨by omega, by omega, ?_⟩
  rw [Int.toNat_natCast]
  unfold intsR
  refine LC_fn (List.range hs.length) (fun k => .int (0 + (k : Nat))) (fun k => if (!decide (hs.getD k ⟨#[]⟩ = ⟨#[119]⟩)) = true then some (.int (0 + (k : Nat) + 1)) else none) (by rw [List.length_range]; omega) trivial (fun k hk R hR => ?_) ?_
  · try walk_at "w"
    have hk := List.mem_range.mp hk
    have := hs_at (hs := hs) (c := 1 + (k : Nat)) (g := fun d => cmpD .ne d (.str ⟨#[119]⟩) μ fun c => if c = true then R (some (.int (0 + (k : Nat) + 1))) μ else R none μ) (by omega) (by omega) (by
      rw [show (1 + (k : Int) - 1).toNat = k by omega, c_nes]
      split
      · rename_i z
        rw [if_pos z] at hR
        exact hR
      · rename_i z
        rw [if_neg z] at hR
        exact hR)
    rw [show (1 + (k : Int)) - 1 = 0 + (k : Nat) by omega] at this
    exact this
  have en : ((List.range hs.length).filterMap fun k : Nat => if (!decide (hs.getD k ⟨#[]⟩ = ⟨#[119]⟩)) = true then some (D.int (0 + (k : Nat) + 1)) else none) = (numsOf hs).map .int := by
    unfold numsOf
    rw [List.map_filterMap]
    congr 1
    funext k
    split <;> rfl
  rw [en]
  try walk_at "w"
  have cases8 : u < 2 ∨ u = 2 ∨ u = 3 ∨ u = 4 ∨ u = 5 ∨ u = 6 ∨ u = 7 := by omega
  rcases cases8 with h | rfl | rfl | rfl | rfl | rfl | rfl
  · rw [decide_eq_true h, if_pos rfl]
    exact ⟨a, (hs.length : Nat), rfl, hp, by omega, by omega, fun o o1 o2 => k (.sort o) hs (fun y hy => inH _ (o2 y hy).1 (o2 y hy).2) rfl⟩
  · rw [if_neg (by decide), if_pos (by decide)]
    refine ⟨a, (hs.length : Nat), 0, 5, rfl, hp, ⟨by omega, by omega⟩, ⟨by decide, by decide, by decide⟩, fun cs c1 c2 c3 => ?_⟩
    refine lc_heads (by omega) c3 ?_
    have fin := k (.count cs) (cs.map (fun c => hs.getD (c - 1).toNat ⟨#[]⟩) ++ [⟨#[116]⟩]) ⟨by omega, fun c hc => inH c (c3 c hc).1 (c3 c hc).2⟩ (by rw [hOf_t, hOf_cols]; rfl)
    unfold eHs at fin
    rw [List.map_append] at fin
    refine ⟨by rw [List.length_map, List.length_map]; omega, fin⟩
  · rw [if_neg (by decide), if_neg (by decide), if_pos (by decide)]
    have pm := plainInt.map (numsOf hs) fun _ _ => trivial
    refine ne_nil pm.1 (by have := pm.2; omega) ?_
    have nl := nums_len hs
    by_cases nz : numsOf hs = []
    · rw [nz]
      rw [show (List.map D.int []).isEmpty = true from rfl, if_neg (by decide)]
      rw [if_neg (by decide), if_neg (by decide), if_neg (by decide)]
      exact kApart
    · have np : 0 < (numsOf hs).length := List.length_pos_iff.mpr nz
      rw [show ((numsOf hs).map D.int).isEmpty = false by cases h : numsOf hs with | nil => exact absurd h nz | cons x y => rfl, if_pos (by decide)]
      refine ⟨a, (hs.length : Nat), 0, 5, rfl, hp, ⟨by omega, by omega⟩, ⟨by decide, by decide, by decide⟩, fun cs c1 c2 c3 => ?_⟩
      rw [List.length_map]
      refine ⟨a, ((numsOf hs).length : Nat), rfl, hp, ⟨by omega, by omega⟩, fun v v0 v1 => ?_⟩
      have hv : v.toNat < (numsOf hs).length := by omega
      show optD (atI ((numsOf hs).map D.int) v) _
      rw [a_nat v0, List.getElem?_map, List.getElem?_eq_getElem hv, Option.map_some, optD_some]
      have nm := nums_mem (List.getElem_mem hv)
      revert nm
      generalize (numsOf hs)[v.toNat] = c0
      intro nm
      refine lc_heads (by omega) c3 ?_
      have fin := k (.sum cs c0) (cs.map (fun c => hs.getD (c - 1).toNat ⟨#[]⟩) ++ [⟨#[116]⟩]) ⟨⟨by omega, fun c hc => inH c (c3 c hc).1 (c3 c hc).2⟩, nm⟩ (by rw [hOf_t, hOf_cols]; rfl)
      unfold eHs at fin
      rw [List.map_append] at fin
      refine ⟨by rw [List.length_map, List.length_map]; omega, fin⟩
  · rw [if_neg (by decide), if_neg (by decide), if_neg (by decide)]
    by_cases w6 : (hs.length : Int) < 6
    · rw [decide_eq_true w6]
      have fin := k .number (hs ++ [⟨#[116]⟩]) (show (hOf hs).length < 6 by rw [hOf_len]; omega) (hOf_t hs)
      unfold eHs at fin
      rw [List.map_append] at fin
      simp only [decide_true, if_true]
      exact ⟨by omega, fin⟩
    · rw [decide_eq_false w6]
      simp only [decide_true, decide_false, if_true, Bool.false_eq_true, if_false]
      first | exact kApart | (simp; exact kApart) | (rw [if_neg (by decide), if_neg (by decide)]; exact kApart)
  · rw [if_neg (by decide), if_neg (by decide), if_neg (by decide), if_neg (by decide)]
    try rw [if_pos (by decide)]
    refine ⟨a, 4, rfl, hp, ⟨by decide, by decide⟩, fun x x0 x1 => ?_⟩
    refine ⟨a, 61, rfl, hp, ⟨by decide, by decide⟩, fun y y0 y1 => ?_⟩
    refine ⟨a, 2, rfl, hp, ⟨by decide, by decide⟩, fun z z0 z1 => ?_⟩
    show optD (atI [D.int x, D.int y] z) _
    exact at2 z0 (by omega) (fun _ => k (.first x) hs ⟨x0, by omega⟩ rfl) fun _ => k (.first y) hs ⟨y0, by omega⟩ rfl
  · rw [if_neg (by decide), if_neg (by decide), if_neg (by decide), if_neg (by decide)]
    try rw [if_neg (by decide)]
    try rw [if_pos (by decide)]
    refine ⟨a, (hs.length : Nat), 1, 6, rfl, hp, ⟨by omega, by omega⟩, ⟨by decide, by decide, by decide⟩, fun cs c1 c2 c3 => ?_⟩
    refine lc_heads (by omega) c3 ?_
    have fin := k (.cut cs) (cs.map (fun c => hs.getD (c - 1).toNat ⟨#[]⟩)) ⟨⟨by omega, by omega⟩, fun c hc => inH c (c3 c hc).1 (c3 c hc).2⟩ (by rw [hOf_cols]; rfl)
    exact fin
  · rw [if_neg (by decide), if_neg (by decide), if_neg (by decide), if_neg (by decide), if_neg (by decide), if_neg (by decide)]
    exact kApart
end
end DL
namespace DL
open PySem PySem.Spec PyProof.Rows L2
local macro_rules | `(tactic| walk_at "w") => `(tactic| simp only [↓w_skey, ↓s_par3, ↓w_rst, ↓w_fzo, ↓w_tpd, ↓w_pl, ↓w_mko, ↓w_kx, ↓w_kget, ↓w_kls, ↓w_tix, ↓w_lrg, ↓w_tzn, ↓x_tp, sa_tpl, ↓k_tpl, ↓x_tz, sa_tpz, ↓k_tpz, ↓w_meth, ↓w_dnw, ↓s_setA, ↓s_setK, ↓s_raiseI, rz_2, ob_s, dc_s, ↓at_r, ↓at_i, ↓sA_r, ↓sK_r, ↓fo_r, ↓w_mkx1, ↓w_mkx, ↓w_isx, ↓w_atx, mkx_2, gok_n, gok_s, ↓isx_e, ↓atx_e, ↓w_v, ↓g_z, ↓g_s, ↓w_g, ↓w_non, ↓w_bl, ↓w_int, ↓w_str, ↓w_bin, ↓w_neg, ↓w_cmp, ↓w_chain, ↓w_and, ↓w_or, ↓w_not, ↓w_ite, ↓w_tup, ↓w_lst, ↓w_ix, ↓w_sl, ↓w_lc, ↓w_call, ↓w_bi, ↓w_isi, ↓w_mt, ↓w_fz, ↓w_emp, ↓w_sq, ↓sq_x, ↓sq_f, ↓sq_c, ↓w_popE, ↓w_popI, ↓w_sset, ↓w_nset, ↓w_pt, ↓w_shut, ↓w_drop, ↓w_nil, ↓w_cons, ↓w_rep2, ad_s, ↓r2_s, ↓d_mull, ↓d_mult, ↓w_no, ↓w_one, ↓d_muls, ↓w_cnt, ↓w_spm, ↓w_rpr, ↓w_lax, ↓sp_m, ↓rp_t, ↓tg_lst,
  ↓t_val, ↓t_cm, ↓t_and, ↓t_or, ↓t_not, ↓t_nil, ↓t_one, ↓i_seq, ↓i_range1, ↓i_range2, ↓i_enum, ↓i_zip, ↓i_rev, ↓s_nil, ↓s_one, ↓s_cons, ↓s_set, ↓s_asg, ↓s_par, ↓s_setIx, ↓s_setIx2, ↓tup2_ok, ↓s_aug, ↓s_expr, ↓s_app, ↓s_pop, ↓s_ins, ↓s_raise, ↓s_tryAs, ↓s_try, ↓s_ext, ↓s_clear, ↓s_ret, ↓s_retN, ↓s_ite, ↓s_for, ↓s_while, ↓s_pass, ↓s_brk, ↓s_cont, ↓s_opn, ↓s_drp,
  ↓tg_v, ↓tg_tup, ↓tg_nil, ↓tg_cons, ↓wr_nil, ↓wr_cons, sl_v, sl_tup, sl_nil, sl_cons, ↓wk_nx, ↓wk_ct, ↓wk_bk, ↓wk_rt, ls_z, ls_s,
  ↓d_addi, ↓d_adds, ↓d_addt, ↓d_addl, ↓d_addr, ↓d_sub, ↓d_mul, ↓d_fdiv, ↓d_mod, ↓d_pow, ↓n_t, ↓n_f, sl_lst, sl_lk, sp_lst, sa_lst, sa_lk, sa_tup, sl_ref, sp_ref, sa_ref, ↓c_eqi, ↓c_eqs, ↓c_nei, ↓c_nes, ↓c_lt, ↓c_le, ↓c_gt, ↓c_ge, ↓c_lts, ↓c_les, ↓c_gts, ↓c_ges, ↓c_is, ↓c_isnot, n_non, n_int, n_str, n_bl, n_tup, n_lst, n_ref, ↓u_bl, ↓u_int, ↓u_non, ↓u_tup, ↓u_lst,
  ↓x_t, ↓x_l, ↓x_lk, ↓x_r, ↓x_s, a_0, a_1, a_2, a_3, a_m1, last_in, ixN_last, set_len, ixN_m1, ↓z_r, ↓ik, ↓pk, ↓l_s, ↓l_t, ↓l_l, ↓l_lk, ↓l_r, ↓b_tuple, ↓b_listt, ↓b_listl, ↓b_listk, ↓b_listr, ↓b_lists, ↓b_inti, ↓b_intb, ↓b_abs, ↓b_max, ↓b_min, ↓b_divmod, ↓b_str, ↓b_strs, ↓b_strn, ↓b_any, ↓b_all, ↓b_sum, isiOk, isiD, ↓k_tup, ↓k_lst, ↓k_lk, ↓k_str, e_nw, ↓q_t, ↓q_tz, ↓q_l, ↓q_lk, ↓q_s, ↓q_r, ↓r_1, ↓r_2, ↓m_join, ↓m_split, ↓st_is, ↓ch_r, ↓set_r, ↓dr_nil, ↓dr_cons, md_s, md_n, ra_s, ra_r, ra_n, mset_mset,
  optD_some, optD_none, Bool.not_true, Bool.not_false, if_true, if_false, Bool.false_eq_true, List.cons_append, List.nil_append, List.length_cons, List.length_nil, Nat.reduceAdd, Nat.reduceLeDiff, true_and, and_true, and_self, decide_true, decide_false, Option.some.injEq, exists_eq', exists_eq, exists_eq_left, exists_eq_left', reduceIte, List.replicate, Nat.reduceSub, List.map_cons, List.map_nil, potAt_new, Int.reduceToNat, Int.reducePow, Int.reduceLT, Int.reduceLE, Int.reduceNeg, Int.reduceAdd, Int.reduceSub, Int.reduceMul, Int.reduceEq, Nat.reducePow, Nat.reduceLT, Nat.reduceMul, or_true, true_or, false_or, or_false, and_false, false_and, e_wn, ixN_0, ixN_1, ↓sh_new, List.set_cons_zero, List.set_cons_succ, eq_self, decide_true])
open P32
/-! ### k32: what is due, the law -/
section
variable {G : Gc} {μ : Mem} {Q : DK} {X : EK}
theorem in_words32M {x : Str} {l : List Str} {q : Bool → Prop} (hx : (D.str x).ok = true) (hl : D.oks (l.map D.str) = true) (h : q (l.any fun y => decide (y = x))) : cmpD .inn (.str x) (.lst (l.map D.str)) μ q := by
  have e : ∀ l : List Str, ((l.map D.str).any fun e => e.eqv (.str x)) = l.any fun y => decide (y = x) := by
    intro l
    induction l with
    | nil => rfl
    | cons y l ih =>
      rw [List.map_cons, List.any_cons, List.any_cons, ih]
      congr 1
  have d : ∀ l : List Str, D.deps (l.map D.str) = 0 := by
    intro l
    induction l with
    | nil => rfl
    | cons y l ih =>
      show max 0 (D.deps (l.map D.str)) = 0
      rw [ih]
      rfl
  have z : (optD (seqL μ (.lst (l.map D.str))) fun l => (D.str x).ok = true ∧ D.oks l = true ∧ (D.str x).dep ≤ 64 ∧ D.deps l < 64 ∧ q (l.any fun e => e.eqv (.str x))) → cmpD .inn (.str x) (.lst (l.map D.str)) μ q := fun h => h
  refine z ?_
  rw [show seqL μ (.lst (l.map D.str)) = some (l.map D.str) from rfl, optD_some]
  refine ⟨hx, hl, Nat.zero_le _, ?_, ?_⟩
  · rw [d]; omega
  · rw [e]; exact h
/-- in ['count', 'sum'] -/
theorem in_words32L {x : Str} {q : Bool → Prop} (h : q (([⟨#[99, 111, 117, 110, 116]⟩, ⟨#[115, 117, 109]⟩] : List Str).any fun y => decide (y = x))) (hx : (D.str x).ok = true := by decide +kernel) : cmpD .inn (.str x) (.lst [.str ⟨#[99, 111, 117, 110, 116]⟩, .str ⟨#[115, 117, 109]⟩]) μ q :=
  in_words32M (l := [⟨#[99, 111, 117, 110, 116]⟩, ⟨#[115, 117, 109]⟩]) hx (by decide +kernel) h
theorem apart_zip (rows : List Rw) : ∀ (n : Nat) (l rest : List Rw), l.length = n → rows = l ++ rest → (l.zipIdx.filterMap fun x => if (decide (x.2 = 0) || !decide (rows.getD (x.2 - 1) [] = x.1)) = true then some x.1 else none) = apart l := by
  intro n
  induction n with
  | zero =>
    intro l rest hl _
    rw [List.length_eq_zero_iff.mp hl]
    rfl
  | succ n ih =>
    intro l rest hl e
    rcases List.eq_nil_or_concat l with z | ⟨l2, r, z⟩
    · rw [z] at hl; cases hl
    · have z : l = l2 ++ [r] := by rw [z]; simp
      subst z
      have ll : l2.length = n := by simpa using hl
      rw [List.zipIdx_append, List.filterMap_append, ih l2 (r :: rest) ll (by rw [e]; simp), apart_snoc]
      congr 1
      show (List.filterMap _ [(r, 0 + l2.length)]) = _
      rw [Nat.zero_add]
      rcases List.eq_nil_or_concat l2 with y | ⟨l3, s, y⟩
      · subst y
        rfl
      · have y : l2 = l3 ++ [s] := by rw [y]; simp
        have len : l2.length = l3.length + 1 := by rw [y]; simp
        have g : rows.getD (l2.length - 1) [] = s := by
          rw [e, y, List.getD_eq_getElem?_getD]
          simp
        have lst : l2.getLast? = some s := by rw [y]; simp
        have nz : decide (l2.length = 0) = false := decide_eq_false (by omega)
        rw [lst]
        simp only [List.filterMap_cons, List.filterMap_nil, nz, g, Bool.false_or]
        by_cases c : s = r
        · subst c
          simp
        · rw [decide_eq_false c, if_neg (fun z => c (Option.some.inj z))]
          rfl
def S32_due : FSpec := fun ds μ Q _ => ∃ (h : HdB) (w : P32.Wk) (rows : List Rw), ds = [eW w, eRs rows] ∧ WkOk h w ∧ RowsOk h rows ∧ rows.length ≤ 60 ∧ h.length ≤ 6 ∧ Q (eRs (due w rows)) μ
theorem restr_old {M : Mem} (h : ∀ a, (μ a).isSome = true → M a = μ a) : restr M μ = μ := by
  funext a
  unfold restr
  split
  · exact h a (by assumption)
  · rename_i z
    cases e : μ a with
    | none => rfl
    | some o => rw [e] at z; exact absurd rfl z
theorem wp32_due (h1 : G.fn "_law_sorted" = S32_sorted) (h2 : G.fn "_law_folded" = S32_folded) {h : HdB} {w : P32.Wk} {rows : List Rw} (hw : WkOk h w) (p : RowsOk h rows) (hl : rows.length ≤ 60) (hh : h.length ≤ 6) (k : Q (eRs (due w rows)) μ) : wpSs G b32_l_due [some (eW w), some (eRs rows), none, none, none] μ (Ends0 Q) X := by
  unfold b32_l_due
  cases w with
  | sort o =>
    have e0 : eW (.sort o) = .tup [.str ⟨#[115, 111, 114, 116]⟩, eOrd o] := rfl
    rw [e0]
    walk_at "w"
    simp only [h1]
    exact ⟨h, rows, o, rfl, p, hl, hw, k⟩
  | apart =>
    have e0 : eW .apart = .tup [.str ⟨#[97, 112, 97, 114, 116]⟩] := rfl
    rw [e0]
    unfold eRs
    walk_at "w"
    rw [if_neg (by decide), enum_l32, numb_zip]
    refine LC_fn rows.zipIdx _ (fun x => if (decide (x.2 = 0) || !decide (rows.getD (x.2 - 1) [] = x.1)) = true then some (eR x.1) else none) (by simp; omega) trivial (fun x hx R hR => ?_) ?_
    · obtain ⟨i, hi, ex⟩ := List.mem_iff_getElem.mp hx
      rw [List.getElem_zipIdx] at ex
      rw [List.length_zipIdx] at hi
      subst ex
      have k1 : RowK rows[i] := rowk (p _ (List.getElem_mem hi))
      dsimp only at hR ⊢
      rw [Nat.zero_add] at hR ⊢
      walk_at "w"
      by_cases i0 : i = 0
      · have i0' : ((i : Nat) : Int) = 0 := by omega
        rw [decide_eq_true i0', if_pos rfl]
        rw [decide_eq_true i0] at hR
        exact hR
      · have i0' : ¬ ((i : Nat) : Int) = 0 := by omega
        rw [decide_eq_false i0', if_neg (by decide)]
        rw [decide_eq_false i0, Bool.false_or] at hR
        have e1 : ((i : Nat) : Int) - 1 = ((i - 1 : Nat) : Int) := by omega
        have hi2 : i - 1 < rows.length := by omega
        rw [e1, a_nat (by omega), Int.toNat_natCast, List.getElem?_map, List.getElem?_eq_getElem hi2, Option.map_some, optD_some]
        rw [List.getD_eq_getElem?_getD, List.getElem?_eq_getElem hi2] at hR
        refine Plain.ne plainRow (by decide) (rowk (p _ (List.getElem_mem hi2))) k1 ?_
        split
        · rename_i z
          rw [if_pos (by simpa using z)] at hR
          exact hR
        · rename_i z
          rw [if_neg (by simpa using z)] at hR
          exact hR
    · have ea : (rows.zipIdx.filterMap fun x => if (decide (x.2 = 0) || !decide (rows.getD (x.2 - 1) [] = x.1)) = true then some (eR x.1) else none) = (apart rows).map eR := by
        rw [← apart_zip rows rows.length rows [] rfl (by simp), List.map_filterMap]
        congr 1
        funext x
        split <;> rfl
      rw [ea]
      try walk_at "w"
      exact k
  | count cs =>
    have e0 : eW (.count cs) = .tup [.str ⟨#[99, 111, 117, 110, 116]⟩, eCo cs] := rfl
    rw [e0]
    walk_at "w"
    rw [if_neg (by decide), if_neg (by decide)]
    refine in_words32L ?_
    rw [if_pos (by decide)]
    simp only [h2]
    refine ⟨h, rows, none, cs, rfl, p, hl, hw.1, hw.2, fun x z => (nomatch z), fun M hM => ?_⟩
    try walk_at "w"
    rw [restr_old hM]
    exact k
  | sum cs c =>
    have e0 : eW (.sum cs c) = .tup [.str ⟨#[115, 117, 109]⟩, eCo cs, .int c] := rfl
    rw [e0]
    walk_at "w"
    rw [if_neg (by decide), if_neg (by decide)]
    refine in_words32L ?_
    rw [if_pos (by decide)]
    simp only [h2]
    refine ⟨h, rows, some c, cs, rfl, p, hl, hw.1.1, hw.1.2, fun x z => by cases z; exact hw.2, fun M hM => ?_⟩
    try walk_at "w"
    rw [restr_old hM]
    exact k
  | number =>
    have e0 : eW .number = .tup [.str ⟨#[110, 117, 109, 98, 101, 114]⟩] := rfl
    rw [e0]
    unfold eRs
    walk_at "w"
    rw [if_neg (by decide), if_neg (by decide)]
    refine in_words32L ?_
    rw [if_neg (by decide)]
    rw [enum_l32, numb_zip]
    refine LC_map rows.zipIdx _ (fun x => eR (x.1 ++ [.i (1 + (x.2 : Nat))])) (by simp; omega) trivial (fun x hx R hR => ?_) ?_
    · have hm : x.1 ∈ rows := by
        obtain ⟨i, hi, e⟩ := List.mem_iff_getElem.mp hx
        rw [List.getElem_zipIdx] at e
        rw [← e]
        exact List.getElem_mem _
      have := rowLen (p x.1 hm) hh
      unfold eR at hR ⊢
      walk_at "w"
      rw [List.length_map]
      refine ⟨by omega, ?_⟩
      rw [List.map_append] at hR
      rw [show ((x.2 : Nat) : Int) + 1 = 1 + (x.2 : Nat) by omega]
      exact hR
    · have k : Q (eRs (numb1 1 rows)) μ := k
      rw [numb1_zip rows 1 0 1 rfl] at k
      unfold eRs at k
      rw [List.map_map] at k
      try walk_at "w"
      exact k
  | first n =>
    have e0 : eW (.first n) = .tup [.str ⟨#[102, 105, 114, 115, 116]⟩, .int n] := rfl
    rw [e0]
    unfold eRs
    walk_at "w"
    rw [if_neg (by decide), if_neg (by decide)]
    refine in_words32L ?_
    rw [if_neg (by decide), if_neg (by decide)]
    rw [cut_to32 hw.1, ← List.map_take]
    try walk_at "w"
    exact k
  | cut cs =>
    have e0 : eW (.cut cs) = .tup [.str ⟨#[99, 117, 116]⟩, eCo cs] := rfl
    rw [e0]
    unfold eRs
    walk_at "w"
    rw [if_neg (by decide), if_neg (by decide)]
    refine in_words32L ?_
    rw [if_neg (by decide), if_neg (by decide), if_neg (by decide)]
    refine LC_map rows eR (fun r => eR (cellsOf cs r)) (by omega) trivial (fun r hr R hR => ?_) ?_
    · unfold eR eCo
      walk_at "w"
      refine LC_map cs .int (fun c => eCell (colAt r c)) (by have := hw.1.2; omega) trivial (fun c hc R2 hR2 => ?_) ?_
      · try walk_at "w"
        exact row_at (p r hr) (hw.2 c hc) hR2
      · have e : cs.map (fun c => eCell (colAt r c)) = (cellsOf cs r).map eCell := by unfold cellsOf; rw [List.map_map]; rfl
        rw [e]
        try walk_at "w"
        exact hR
    · have k : Q (eRs (rows.map (cellsOf cs))) μ := k
      unfold eRs at k
      rw [List.map_map] at k
      try walk_at "w"
      exact k
end
end DL
namespace DL
open PySem PySem.Spec PyProof.Rows L2
local macro_rules | `(tactic| walk_at "w") => `(tactic| simp only [↓w_skey, ↓s_par3, ↓w_rst, ↓w_fzo, ↓w_tpd, ↓w_pl, ↓w_mko, ↓w_kx, ↓w_kget, ↓w_kls, ↓w_tix, ↓w_lrg, ↓w_tzn, ↓x_tp, sa_tpl, ↓k_tpl, ↓x_tz, sa_tpz, ↓k_tpz, ↓w_meth, ↓w_dnw, ↓s_setA, ↓s_setK, ↓s_raiseI, rz_2, ob_s, dc_s, ↓at_r, ↓at_i, ↓sA_r, ↓sK_r, ↓fo_r, ↓w_mkx1, ↓w_mkx, ↓w_isx, ↓w_atx, mkx_2, gok_n, gok_s, ↓isx_e, ↓atx_e, ↓w_v, ↓g_z, ↓g_s, ↓w_g, ↓w_non, ↓w_bl, ↓w_int, ↓w_str, ↓w_bin, ↓w_neg, ↓w_cmp, ↓w_chain, ↓w_and, ↓w_or, ↓w_not, ↓w_ite, ↓w_tup, ↓w_lst, ↓w_ix, ↓w_sl, ↓w_lc, ↓w_call, ↓w_bi, ↓w_isi, ↓w_mt, ↓w_fz, ↓w_emp, ↓w_sq, ↓sq_x, ↓sq_f, ↓sq_c, ↓w_popE, ↓w_popI, ↓w_sset, ↓w_nset, ↓w_pt, ↓w_shut, ↓w_drop, ↓w_nil, ↓w_cons, ↓w_rep2, ad_s, ↓r2_s, ↓d_mull, ↓d_mult, ↓w_no, ↓w_one, ↓d_muls, ↓w_cnt, ↓w_spm, ↓w_rpr, ↓w_lax, ↓sp_m, ↓rp_t, ↓tg_lst,
  ↓t_val, ↓t_cm, ↓t_and, ↓t_or, ↓t_not, ↓t_nil, ↓t_one, ↓i_seq, ↓i_range1, ↓i_range2, ↓i_enum, ↓i_zip, ↓i_rev, ↓s_nil, ↓s_one, ↓s_cons, ↓s_set, ↓s_asg, ↓s_par, ↓s_setIx, ↓s_setIx2, ↓tup2_ok, ↓s_aug, ↓s_expr, ↓s_app, ↓s_pop, ↓s_ins, ↓s_raise, ↓s_tryAs, ↓s_try, ↓s_ext, ↓s_clear, ↓s_ret, ↓s_retN, ↓s_ite, ↓s_for, ↓s_while, ↓s_pass, ↓s_brk, ↓s_cont, ↓s_opn, ↓s_drp,
  ↓tg_v, ↓tg_tup, ↓tg_nil, ↓tg_cons, ↓wr_nil, ↓wr_cons, sl_v, sl_tup, sl_nil, sl_cons, ↓wk_nx, ↓wk_ct, ↓wk_bk, ↓wk_rt, ls_z, ls_s,
  ↓d_addi, ↓d_adds, ↓d_addt, ↓d_addl, ↓d_addr, ↓d_sub, ↓d_mul, ↓d_fdiv, ↓d_mod, ↓d_pow, ↓n_t, ↓n_f, sl_lst, sl_lk, sp_lst, sa_lst, sa_lk, sa_tup, sl_ref, sp_ref, sa_ref, ↓c_eqi, ↓c_eqs, ↓c_nei, ↓c_nes, ↓c_lt, ↓c_le, ↓c_gt, ↓c_ge, ↓c_lts, ↓c_les, ↓c_gts, ↓c_ges, ↓c_is, ↓c_isnot, n_non, n_int, n_str, n_bl, n_tup, n_lst, n_ref, ↓u_bl, ↓u_int, ↓u_non, ↓u_tup, ↓u_lst,
  ↓x_t, ↓x_l, ↓x_lk, ↓x_r, ↓x_s, a_0, a_1, a_2, a_3, a_m1, last_in, ixN_last, set_len, ixN_m1, ↓z_r, ↓ik, ↓pk, ↓l_s, ↓l_t, ↓l_l, ↓l_lk, ↓l_r, ↓b_tuple, ↓b_listt, ↓b_listl, ↓b_listk, ↓b_listr, ↓b_lists, ↓b_inti, ↓b_intb, ↓b_abs, ↓b_max, ↓b_min, ↓b_divmod, ↓b_str, ↓b_strs, ↓b_strn, ↓b_any, ↓b_all, ↓b_sum, isiOk, isiD, ↓k_tup, ↓k_lst, ↓k_lk, ↓k_str, e_nw, ↓q_t, ↓q_tz, ↓q_l, ↓q_lk, ↓q_s, ↓q_r, ↓r_1, ↓r_2, ↓m_join, ↓m_split, ↓st_is, ↓ch_r, ↓set_r, ↓dr_nil, ↓dr_cons, md_s, md_n, ra_s, ra_r, ra_n, mset_mset,
  optD_some, optD_none, Bool.not_true, Bool.not_false, if_true, if_false, Bool.false_eq_true, List.cons_append, List.nil_append, List.length_cons, List.length_nil, Nat.reduceAdd, Nat.reduceLeDiff, true_and, and_true, and_self, decide_true, decide_false, Option.some.injEq, exists_eq', exists_eq, exists_eq_left, exists_eq_left', reduceIte, List.replicate, Nat.reduceSub, List.map_cons, List.map_nil, potAt_new, Int.reduceToNat, Int.reducePow, Int.reduceLT, Int.reduceLE, Int.reduceNeg, Int.reduceAdd, Int.reduceSub, Int.reduceMul, Int.reduceEq, Nat.reducePow, Nat.reduceLT, Nat.reduceMul, or_true, true_or, false_or, or_false, and_false, false_and, e_wn, ixN_0, ixN_1, ↓sh_new, List.set_cons_zero, List.set_cons_succ, eq_self, decide_true])
open P32
/-! ### k32: the law -/
section
variable {G : Gc} {μ : Mem} {Q : DK} {X : EK}
theorem row_last {h : HdB} {r : Rw} (p : RowOk h r) (h1 : 1 ≤ h.length) : ∃ c : Cell, (r.map eCell).getLast? = some (eCell c) := by
  rcases List.eq_nil_or_concat r with e | ⟨r2, c, e⟩
  · have := p.1
    rw [e] at this
    simp at this
    omega
  · exact ⟨c, by rw [e]; simp⟩
theorem asBls_false {A : Type} : ∀ l : List A, asBls (l.map fun _ => D.bl false) = some (l.map fun _ => false)
  | [] => rfl
  | a :: l => by
    have ih := asBls_false l
    simp only [List.map_cons, asBls, ih]
    try rfl
theorem any_false {A : Type} (l : List A) : (l.map fun _ => false).any id = false := by
  induction l with
  | nil => rfl
  | cons a l ih => rw [List.map_cons, List.any_cons, ih]; rfl
theorem pipe_nil {h : HdB} : PipeOk32 h [] := fun d w r z => by cases d <;> cases z
structure Ex32 (G : Gc) (P : Addr) (tq : Str) : Prop where
  pot : G.fn "_law_pot" = S32_pot
  draw : G.fn "_law_draw" = S_draw
  head : G.fn "_law_head" = S32_head
  rows : G.fn "_law_rows" = S32_rows
  worker : G.fn "_law_worker" = S32_worker
  due : G.fn "_law_due" = S32_due
  told : G.fn "told" = S32_told P tq
theorem wp32_law {P : Addr} {tq : Str} (he : Ex32 G P tq) {ns : List Int} (hn : ns.length ≤ 63) (hT : μ P = some (.tab tq)) (k : ∀ M, Q (.bl true) M) : wpSs G b32_law [some (eScript ns), none, none, none, none, none, none, none, none, none, none, none] μ (Ends0 Q) X := by
  unfold b32_law eScript
  walk_at "w"
  simp only [he.pot, he.draw, he.head, he.rows, he.worker, he.due, he.told]
  rw [List.length_map]
  refine ⟨by omega, by omega, ?_⟩
  unfold intsR
  generalize hm : (2 + if decide ((ns.length : Int) < 5) = true then (ns.length : Int) else 5).toNat = m
  have m7 : m ≤ 7 := by rw [← hm]; split <;> rename_i z <;> simp only [decide_eq_true_eq] at z <;> omega
  refine LP_ty (List.range m) (fun i => D.int (0 + (i : Nat))) (fun _ : Mem => [some (D.lk (ns.map .int)), none, none, none, none, none, none, none, none, none, none, none]) (fun M => M) (fun _ M => M P = some (.tab tq)) μ rfl rfl hT (fun done i rest M e hM => ⟨trivial, fun N hN => ?_⟩) (fun M hM => ⟨trivial, k M⟩)
  have im : i < m := by
    have : i ∈ List.range m := by rw [e]; simp
    exact List.mem_range.mp this
  walk_at "w"
  refine ⟨ns, _, rfl, by omega, by omega, fun p hp => ?_⟩
  have pP : P ≠ p := fun z => by rw [← z, hM] at hp; cases hp
  have hM2 : mset M p (.pot [.int 20]) P = some (.tab tq) := by rw [mset_ne pP]; exact hM
  have pot : potAt (mset M p (.pot [.int 20])) p := ⟨_, mset_same⟩
  have fin := hN _ hM2
  revert fin pot hM2
  generalize mset M p (.pot [.int 20]) = M2
  intro hM2 pot fin
  walk_at "w"
  refine ⟨p, rfl, pot, fun hs h1 h6 => ?_⟩
  walk_at "w"
  refine ⟨p, hs, rfl, pot, h6, fun rows rk rl => ?_⟩
  unfold eRs
  walk_at "w"
  refine ⟨p, 13, rfl, pot, ⟨by decide, by decide⟩, fun t t0 t1 => ?_⟩
  try walk_at "w"
  refine ⟨by omega, by omega, ?_⟩
  unfold intsR
  have way0 : Way (hOf hs) [] rows := ⟨rk, rl, by show 1 ≤ (hOf hs).length; rw [hOf_len]; exact h1, by show (hOf hs).length ≤ 6; rw [hOf_len]; exact h6⟩
  refine LP_ty (List.range t.toNat) (fun i => D.int (0 + (i : Nat))) (fun s : List P32.Wk × List Str => [some (D.lk (ns.map .int)), some (.int (0 + (i : Nat))), some (.ref p), some (eHs s.2), some (.lst (rows.map eR)), none, none, some (.lst (rows.map eR)), some (ePp s.1), some (eRs (dueAll s.1 rows)), none, none]) (fun _ => M2)
    (fun done s => s.1.length = done.length ∧ PipeOk32 (hOf hs) s.1 ∧ hOf s.2 = hdAll (hOf hs) s.1 ∧ Way (hOf hs) s.1 rows) ([], hs) rfl rfl ⟨rfl, pipe_nil, rfl, way0⟩ (fun done j rest s e2 hs2 => ⟨trivial, fun N2 hN2 => ?_⟩) (fun s hs2 => ⟨trivial, ?_⟩)
  · obtain ⟨ws, hh⟩ := s
    obtain ⟨a1, a2, a3, a4⟩ := hs2
    dsimp only at a1 a2 a3 a4
    have dl : done.length < 13 := by
      have := congrArg List.length e2
      simp at this
      omega
    have hl1 : 1 ≤ hh.length := by have := a4.h1; rw [← a3, hOf_len] at this; exact this
    have hl6 : hh.length ≤ 6 := by have := a4.h6; rw [← a3, hOf_len] at this; exact this
    walk_at "w"
    refine ⟨p, hh, rfl, pot, hl1, hl6, fun w hs3 b1 b2 => ?_⟩
    rw [a3] at b1 b2
    have fin2 := hN2 (ws ++ [w], hs3) ⟨by simp [a1], pipe_snoc a2 b1, by rw [hdAll_snoc]; exact b2, a4.snoc b1⟩
    dsimp only at fin2
    rw [dueAll_snoc] at fin2
    unfold ePp at fin2 ⊢
    rw [List.map_append] at fin2
    walk_at "w"
    rw [List.length_map]
    refine ⟨by omega, ?_⟩
    exact ⟨_, w, _, rfl, b1, a4.ok, a4.len, a4.h6, fin2⟩
  · obtain ⟨ws, hh⟩ := s
    obtain ⟨a1, a2, a3, a4⟩ := hs2
    dsimp only at a1 a2 a3 a4
    walk_at "w"
    refine ⟨hOf hs, ws, rows, rfl, hM2, a2, way0, ?_⟩
    walk_at "w"
    have pk : ∀ r ∈ dueAll ws rows, RowK r := fun r hr => rowk (a4.ok r hr)
    have pk0 : ∀ r ∈ rows, RowK r := fun r hr => rowk (rk r hr)
    refine Plain.ne plainRow.lst (by decide) (a := dueAll ws rows) (b := dueAll ws rows) pk pk ?_
    rw [decide_eq_true rfl]
    walk_at "w"
    refine Plain.ne plainRow.lst (by decide) (a := rows) (b := rows) pk0 pk0 ?_
    rw [decide_eq_true rfl]
    unfold eRs
    walk_at "w"
    have dl := a4.len
    refine LC_map (dueAll ws rows) eR (fun _ => D.bl false) (by omega) trivial (fun r hr R hR => ?_) ?_
    · obtain ⟨c, hc⟩ := row_last (a4.ok r hr) a4.h1
      unfold eR
      walk_at "w"
      rw [hc, optD_some]
      cases c with
      | i n =>
        unfold eCell
        walk_at "w"
        exact hR
      | s x =>
        unfold eCell
        walk_at "w"
        exact hR
    · try walk_at "w"
      rw [asBls_false, optD_some, any_false]
      try walk_at "w"
      exact fin
end
end DL
namespace DL
open PySem PySem.Spec PyProof.Rows L2
def b11_is_word : Ss := (.cons (.ite (.or (.not (.val (.isi (.v 0) .str))) (.or (.cm .lt (.bi true .len (.cons (.v 0) .nil)) (.int 1)) (.cm .gt (.bi true .len (.cons (.v 0) .nil)) (.g "MOST_LETTERS")))) (.cons (.ret (.bl false)) .nil) .nil) (.cons (.ret (.bi true .all (.cons (.lc true (.v 1) (.seq (.v 0)) .nil (.cmp .inn (.v 1) (.g "LETTERS"))) .nil))) .nil))
end DL
namespace DL
open PySem PySem.Spec PyProof.Rows L2
end DL
namespace DL
open PySem PySem.Spec PyProof.Rows L2
end DL
namespace DL
open PySem PySem.Spec PyProof.Rows L2
def b17_is_number : Ss := (.cons (.ret (.and (.isi (.v 0) .int) (.not (.isi (.v 0) .bool)))) .nil)
def b17_in_span : Ss := (.cons (.asg (.tup (.cons (.v 2) (.cons (.v 3) .nil))) (.v 0)) (.cons (.ret (.and (.or (.cmp .is (.v 2) .non) (.cmp .le (.v 2) (.v 1))) (.or (.cmp .is (.v 3) .non) (.cmp .le (.v 1) (.v 3))))) .nil))
def b17_has : Ss := (.cons (.ite (.cm .eq (.ix (.v 0) (.int 0)) (.str ⟨#[110]⟩)) (.cons (.ret (.and (.call "is_number" (.cons (.v 1) .nil)) (.bi true .any (.cons (.lc true (.v 2) (.seq (.ix (.v 0) (.int 1))) .nil (.call "in_span" (.cons (.v 2) (.cons (.v 1) .nil)))) .nil)))) .nil) .nil) (.cons (.ret (.and (.call "is_word" (.cons (.v 1) .nil)) (.cmp .eq (.cmp .inn (.v 1) (.ix (.v 0) (.int 2))) (.ix (.v 0) (.int 1))))) .nil))
end DL
/-! The law itself, called where nothing is being told (repr) around. -/
namespace DL
open PySem PySem.Spec PyProof.Rows L2
def gcG (defs : List DefD) (cst : Str → Option D) (ex : ExI) (n : Nat) : Gc := { gcOf defs cst ex n with grd := true }
section
variable {P : Program} {w : World} {K : PySem.W.Frag} {mg : Str → Option Value} {defs : List DefD} {cst : Str → Option D} {ex : ExI}
/-- a def's run at the top -/
theorem top_run {base : Heap} (T : Top P w K mg defs cst ex) (tbk : TbOk K mg base defs ex) (kp : Keeps defs cst ex) (n : Nat) {d : DefD} (hd : d ∈ defs) {f : Addr} {fd : FuncData} (at_ : At K mg d f fd) (hr : Room (2 * n + 3 + 1) callerA) {s : Shared} {H : Hp} {args : Args} {us : List Value} {vs : List V} {Q : VK} {F1 : Addr → Prop} {μ : Mem} {ds : List D} {Qd : DK}
    (e0 : Env0 P w K mg base callerA [] s H) (hb : BindsTo s fd args (d.ps.zip us)) (r : Vals vs us) (m : MS K H F1 μ) (rd : RDs K H F1 vs ds) (hl : ds.length = d.ps.length)
    (hw : wpSs (gcG defs cst ex n) d.body (startR d.N ds) μ { nx := fun _ μ' => Qd .non μ', rt := Qd } E0k) (k : ∀ v H', Post K H F1 μ Qd v H' → Q v H') :
    codeAny (model P w) callerA (.call (.ref f) args) (CR (L2.CX P w) [] P w H s Q fun _ _ _ => False) s := by
  obtain ⟨F, hm, hbi⟩ := at_
  obtain ⟨c1, c2⟩ := b2 (List.all_eq_true.mp (T.chk n) d hd)
  obtain ⟨c2, c3⟩ := b2 c2
  have sc := scopeB_ok c1
  obtain ⟨oc, od, kV, doc, pm, an, cdv, ct, osl, efd, lk, hcd⟩ := F.ex
  subst efd
  have inK : K.In s.heap := e0.mod.kin.keeps fun c o z => (e0.bs c o z).1
  have free : s.heap.NoLimit := e0.mod.nolimit.keeps fun c o z => (e0.bs c o z).1
  have nk : ∀ y ∈ d.ps.zip us, (defScope d.st).names.lookup y.1 = some .local ∨ ((defScope d.st).names.lookup y.1 = some .cell ∧ ((cellsFrom (s.heap.objs.size + 1) (defScope d.st).names []).lookup y.1).isSome = true) := fun ⟨y, v⟩ hy =>
    (sc.par y (List.of_mem_zip hy).1).imp id fun z => ⟨z, PySem.W.cellsFrom_some _ _ _ (.inl z)⟩
  have lv : vs.length = d.ps.length := rd.length.trans hl
  refine codeAny_call_function hr.depth (inK _ _ lk) rfl sc.co sc.gen rfl (PySem.W.codeRec_of inK hcd) (hb _ _ _ _ ?_)
  refine wpAny_newFunctionEnv_cells sc.kind nk fun env he s2 ic => ?_
  subst he
  refine ⟨free.keeps ic.toInCall.keep, codeAny_func ?_⟩
  let X := cxOf (L2.CX P w) P w K mg base d.N d.name (defScope d.st) f cdv callerA [] s H fun _ _ _ => False
  have hr2 : Room (2 * n + 3) X.A := hr.deeper _
  have tk : L2.Takes X (fun _ _ _ _ => False) := takes0
  have sx : SX (gcG defs cst ex n) X d.N (defScope d.st) := {
    hN := rfl
    nd := sc.nd
    esc := rfl
    kind := sc.kind
    calm := rfl
    un := by have := hr2.un; omega
    gd := fun _ => rfl
    tb := fun P0 q0 h0 => (nomatch (show (none : Option (Addr × Str)) = some (P0, q0) from h0))
    rm2 := hr2.mono (by omega)
    own := fun _ => passes_of rfl
    fr := ⟨_, _, _, rfl, rfl, rfl⟩
    blt := T.blt
    ex := T.exo
    cst := T.cs
    ini := fun c g hg => by
      obtain ⟨a1, a2⟩ := T.ini c g hg
      obtain ⟨d2, h1, h2, h3⟩ := specOf_mem (n := n) a1
      obtain ⟨C, fa, fd2, hc, hm, M, F2, hb⟩ := a2 d2 h1 h2
      refine ⟨C, 2 * n + 2, fa, fd2, d2.ps, hc, hm, M, ?_, hr2, hb⟩
      show FnOk P w K mg base (L2.CX P w) (2 * n + 2) fa fd2 d2.ps (spOf K mg (specOf defs n g))
      rw [h3]
      exact defs_ok T tbk kp n d2 h1 _ fa fd2 (fun P0 q0 h0 hl => absurd (by rw [hl, h2]) ((tbk P0 q0 h0).2.1 c g hg)) F2
    met := fun c mn g hg => by
      obtain ⟨a1, a2⟩ := T.met c mn g hg
      obtain ⟨d2, h1, h2, h3⟩ := specOf_mem (n := n) a1
      obtain ⟨C, fa, fd2, hc, cl, M, F2, hb⟩ := a2 d2 h1 h2
      refine ⟨C, 2 * n + 2, fa, fd2, d2.ps, hc, cl, M, ?_, hr2.mono (by omega), hb⟩
      show FnOk P w K mg base (L2.CX P w) (2 * n + 2) fa fd2 d2.ps (spOf K mg (specOf defs n g))
      rw [h3]
      exact defs_ok T tbk kp n d2 h1 _ fa fd2 (fun P0 q0 h0 hl => absurd (by rw [hl, h2]) ((tbk P0 q0 h0).2.2 c mn g hg)) F2
    fn := fun g hg => by
      obtain ⟨g1, g2⟩ := b2 hg
      obtain ⟨d2, h1, h2, h3⟩ := specOf_mem (n := n) g2
      obtain ⟨f2, fd2, at2⟩ := T.at_ d2 h1 (by rw [h2]; exact bn g1)
      refine ⟨2 * n + 2, f2, fd2, d2.ps, ?_, hr2.mono (by omega), by rw [← h2]; exact at2.2.1, at2.1.kp, at2.2.2⟩
      show FnOk P w K mg base (L2.CX P w) (2 * n + 2) f2 fd2 d2.ps (spOf K mg (specOf defs n g))
      rw [h3]
      exact defs_ok T tbk kp n d2 h1 _ f2 fd2 (fun _ _ _ _ => at2.2.1) at2.1 }
  have sd := sndSs d.N (defScope d.st) d.body X sx (fun _ => rfl) ⟨rfl, rfl⟩ (defBody d.st) c3 (startR d.N ds) μ _ _ hw
  have I : Inv X [] (L2.start d.N vs) H s2 := inv_start sc hr.hd e0 lv r ic
  have wd := sd (L2.start d.N vs) H F1 ⟨start_env rd, (Takes.toF rfl tk).imp fun cls dd _ H' ⟨_, _, _, _, _, _, _, _, z⟩ => z.elim⟩ m
  refine wpAny_mono (pss_wss.run [] s2 (L2.start d.N vs) H _ I (wd.mono (K' := { nx := fun _ H' => Q .non H', rt := Q }) ⟨fun σ' H' ⟨ρ', F', μ', g, m', e', q⟩ => k _ _ ⟨_, F', μ', g, m', .non, q⟩, fun v H' q => k _ _ q, fun σ' H' ⟨_, _, _, _, _, _, q⟩ => q.elim, fun σ' H' ⟨_, _, _, _, _, _, q⟩ => q.elim⟩)) (fun fl s' hs => ?_) fun e s' hs => hs
  cases fl with
  | ret u =>
    obtain ⟨v, σ', H', J, rv, q⟩ := hs
    exact ⟨v, H', J.os, J.bare, J.base, J.hok, rv, q⟩
  | next =>
    obtain ⟨σ', H', J, q⟩ := hs
    exact ⟨.non, H', J.os, J.bare, J.base, J.hok, rfl, q⟩
  | brk => obtain ⟨_, _, _, q⟩ := hs; exact q.elim
  | cont => obtain ⟨_, _, _, q⟩ := hs; exact q.elim
/-- the script stands, the law is called -/
theorem top_law {mb : Str → Option Value} {fa sc : Addr} {st : Shared} {vs : List Value} {ns : List Int} (inK : K.In st.heap) (gl : st.heap.Ns mainGlobals mg) (bl : st.heap.Ns builtinsNs mb) (bb : ∀ x : Str, x ≠ "__name__" → mb x = bootBuiltins x) (nl : st.heap.NoLimit)
    (g0 : st.gens = #[]) (hs : st.heap.get? sc = some { cls := .type "list", data := .seq vs.toArray }) (iv : IntsAre vs ns) (len : ns.length ≤ sizeLine)
    (run : ∀ (base : Heap) (H : Hp), Env0 P w K mg base callerA [] st H → Only H → SqL K H sc (ns.map V.int) → codeAny (model P w) callerA (.call (.ref fa) ⟨[.ref sc], []⟩) (CR (L2.CX P w) [] P w H st (fun v _ => v = .bl true) fun _ _ _ => False) st) :
    codeAny (model P w) callerA (.call (.ref fa) ⟨[.ref sc], []⟩) (fun r t => r = .ok (.ret (.bool true)) ∧ OldK st.heap t.heap ∧ t.os = st.os ∧ AllBare t.gens) st := by
  have rv := vals_ints iv
  have lv := iv.length
  have go : ∀ H : Hp, Only H → SqL K H sc (ns.map V.int) → HOk P w H st.heap → (∀ c, H c ≠ none → c = sc ∧ K.lookup sc = none) → codeAny (model P w) callerA (.call (.ref fa) ⟨[.ref sc], []⟩) (fun r t => r = .ok (.ret (.bool true)) ∧ OldK st.heap t.heap ∧ t.os = st.os ∧ AllBare t.gens) st := fun H on sq ok only => by
    have stays : ∀ {c : Addr} {o : Obj}, st.heap.get? c = some o → H c = none → (hidT st.heap H).get? c = some o := fun z q => hidT_get z q
    have noDict : ∀ {c : Addr} {o : Obj} {es : Array DictEntry} {ep : Nat}, st.heap.get? c = some o → o.data = .dict es ep → H c = none := fun {c o es ep} z q => by
      by_cases hc : H c = none
      · exact hc
      · obtain ⟨rfl, _⟩ := only c hc
        rw [hs] at z
        cases z
        cases (show Data.seq vs.toArray _ = Data.dict es ep from q)
    have nsH : ∀ {c : Addr} {m : Str → Option Value}, st.heap.Ns c m → (hidT st.heap H).Ns c m := fun ⟨o, es, ep, z, q, r⟩ => ⟨o, es, ep, stays z (noDict z q), q, r⟩
    have kH : K.In (hidT st.heap H) := fun c o z => stays (inK c o z) (by
      by_cases hc : H c = none
      · exact hc
      · obtain ⟨rfl, hn⟩ := only c hc
        rw [hn] at z
        cases z)
    have md : Mod K mg (hidT st.heap H) := ⟨kH, nsH gl, ⟨mb, nsH bl, bb⟩, by obtain ⟨mc, h1, h2⟩ := nl; exact ⟨mc, nsH h1, h2⟩⟩
    have ev : Env0 P w K mg (hidT st.heap H) callerA [] st H := ⟨rfl, md, fun c o z => of_hidT z, Nat.le_of_eq (hidT_size _ _), trivial, fun c hc => absurd (show c ∈ ([] : List Addr) from hc) List.not_mem_nil, ok, .of_eq g0⟩
    refine codeAny_mono (run _ H ev on sq) fun r t h => ?_
    rcases r with e | fl
    · obtain ⟨_, _, _, _, _, _, _, _, _, _, _, _, z⟩ := h
      exact z.elim
    · cases fl with
      | ret u =>
        obtain ⟨v, H', os, bare, un, ok', rr, rfl⟩ := h
        obtain rfl : u = Value.bool true := rr
        refine ⟨rfl, OldK.of_keep fun c o z => ?_, os, bare⟩
        rcases on c with q | ⟨oc, xs, q⟩
        · exact un.keep c o z q (fun y => absurd (show c ∈ ([] : List Addr) from y) List.not_mem_nil) List.not_mem_nil
        · obtain ⟨e1, _⟩ := ok c _ q
          obtain ⟨e2, _⟩ := ok' c _ (un.frzs c oc _ q)
          rw [z] at e1
          cases e1
          exact e2
      | _ => exact h.elim
  rcases hk : K.lookup sc with _ | o
  · let it : HO := .frz { cls := .type "list", data := .seq vs.toArray } (.lst (ns.map V.int))
    refine go (fun c => if c = sc then some it else none) (fun c => ?_) (.inl (.inr ⟨_, if_pos rfl⟩)) (fun c u z => ?_) fun c z => ?_
    · by_cases q : c = sc
      · exact .inr ⟨_, _, if_pos q⟩
      · exact .inl (if_neg q)
    · by_cases q : c = sc
      · have z := (if_pos q).symm.trans z
        cases z
        subst q
        exact ⟨hs, by rw [List.length_map]; exact len, vs, _, rv, hs⟩
      · cases (if_neg q).symm.trans z
    · by_cases q : c = sc
      · exact ⟨q, hk⟩
      · exact absurd (if_neg q) z
  · have z := inK sc o hk
    rw [hs] at z
    cases z
    exact go (fun _ => none) (fun _ => .inl rfl) (.inr ⟨_, vs.toArray, _, hk, rfl, rfl, rfl, by rw [List.size_toArray, lv]; exact len, by simpa using rv⟩) (fun _ _ z => (nomatch z)) fun _ z => absurd rfl z
end
/-- the goal that is left of a law -/
theorem walk_top {l : PySem.W.OpenLaw} {num k : Nat} {q : Program} {loose : List Str} {XP : (Str → Option Value) → Heap → Prop} {YP : World → Heap → Prop} {dr : DefRec} {K : Params → PySem.W.Frag} {defs : List DefD} {cst : Str → Option D} {ex : ExI} {d : DefD} {x : Str}
    (hn : l.most = some num) (hn2 : num ≤ sizeLine) (hdf : dr.params.defaults = []) (hr : Room (2 * k + 3 + 1) callerA) (hY : ∀ (w : World) (h : Heap), YP w h → (K w.params).In h) (hnm : dr.name = "law")
    (top : ∀ (w : World) (mg : Str → Option Value) (fa : Addr) (h : Heap), (K w.params).In h → h.Ns mainGlobals mg → mg "law" = some (.ref fa) → Top l.prog w (K w.params) mg defs cst ex ∧ ∃ fd, At (K w.params) mg d fa fd ∧ ∀ (s : Shared) (u : Value), BindsTo s fd ⟨[u], []⟩ [(x, u)])
    (kp : Keeps defs cst ex) (hd : d ∈ defs) (hx : d.ps = [x])
    (hw : ∀ ns : List Int, ns.length ≤ num → wpSs (gcG defs cst ex k) d.body (startR d.N [.lk (ns.map .int)]) (fun _ => none) { nx := fun _ μ' => (fun v (_ : Mem) => v = D.bl true) .non μ', rt := fun v _ => v = .bl true } E0k) (htab : ex.tab = none := by rfl) :
    PySem.W.WalkO q loose XP YP l.row.toRowW dr [] (fun f vs => PySem.call f vs) := by
  refine Att.attach_call hn hdf fun w s₀ s₁ mg mb fa o pm cd doc a vs ns G Y ho hdt hcd hmg hobj hints hlen hg => ?_
  have inK := hY w _ Y
  rw [hnm] at hmg
  obtain ⟨T, fd, at_, bd⟩ := top w mg fa _ inK G.T.g hmg
  refine top_law inK G.T.g G.T.b G.T.builtins G.T.nolimit hg hobj hints (Nat.le_trans hlen hn2) fun base H ev on sq => ?_
  refine top_run T (fun P q h => by rw [htab] at h; cases h) kp k hd at_ hr (F1 := fun _ => False) (μ := fun _ => none) (Qd := fun v _ => v = .bl true) ev (by rw [hx]; exact bd _ _) (vs := [.ref a]) (ds := [.lk (ns.map .int)]) (.cons rfl .nil) ⟨fun a o e => (nomatch e), fun a f => f.elim⟩ (.cons (.lk ?_ .of_ints) .nil) (by rw [hx]; rfl) ?_ fun v H' p => ?_
  · rcases sq with (e | ⟨o, e⟩) | ⟨o, its, n, h1, h2, h3, h4, h5, h6⟩
    · rcases on a with z | ⟨o, xs, z⟩
      · rw [e] at z; cases z
      · rw [e] at z; cases z
    · exact .inl ⟨o, e⟩
    · exact .inr ⟨o, its, n, h1, h2, h3, h4, h5, h6⟩
  · have q := hw ns hlen
    exact q
  · obtain ⟨d, F', μ', _, _, r, rfl⟩ := p
    cases r
    rfl
/-! ### .. with a table of code objects -/
section
variable {P : Program} {w : World} {K : PySem.W.Frag} {mg : Str → Option Value} {defs : List DefD} {cst : Str → Option D} {ex : ExI}
/-- nothing but the table at T and locked lists is tracked -/
def OnlyT (T : Addr) (H : Hp) : Prop := H T = some (.tbl #[]) ∧ ∀ c, c ≠ T → H c = none ∨ ∃ o xs, H c = some (.frz o (.lst xs))
theorem top_lawT {mb : Str → Option Value} {fa sc T cd : Addr} {st : Shared} {vs : List Value} {ns : List Int} (inK : K.In st.heap) (gl : st.heap.Ns mainGlobals mg) (bl : st.heap.Ns builtinsNs mb) (bb : ∀ x : Str, x ≠ "__name__" → mb x = bootBuiltins x) (nl : st.heap.NoLimit)
    (g0 : st.gens = #[]) (hs : st.heap.get? sc = some { cls := .type "list", data := .seq vs.toArray }) (iv : IntsAre vs ns) (len : ns.length ≤ sizeLine)
    (hT : st.heap.get? T = some { cls := .none, data := .fields #[] }) (nT : K.lookup T = none) (hC : PySem.W.CodeHd st.heap cd T)
    (hbm : ∃ (bm : Addr) (ob : Obj), mg "__builtins__" = some (.ref bm) ∧ bm ≠ builtinsNs ∧ st.heap.get? bm = some ob ∧ ob.cls = .type "module" ∧ ob.dict = some builtinsNs ∧ ob.data = .plain)
    (run : ∀ (base : Heap) (H : Hp), Env0 P w K mg base callerA [] st H → OnlyT T H → LamX.TabB base mg cd T → SqL K H sc (ns.map V.int) → codeAny (model P w) callerA (.call (.ref fa) ⟨[.ref sc], []⟩) (CR (L2.CX P w) [] P w H st (fun v _ => v = .bl true) fun _ _ _ => False) st) :
    codeAny (model P w) callerA (.call (.ref fa) ⟨[.ref sc], []⟩) (fun r t => r = .ok (.ret (.bool true)) ∧ OldK st.heap t.heap ∧ t.os = st.os ∧ AllBare t.gens) st := by
  have rv := vals_ints iv
  have lv := iv.length
  have scT : sc ≠ T := fun z => by
    rw [z, hT] at hs
    cases congrArg Obj.data (Option.some.inj hs)
  have go : ∀ H : Hp, OnlyT T H → SqL K H sc (ns.map V.int) → HOk P w H st.heap → (∀ c, H c ≠ none → c = T ∨ (c = sc ∧ K.lookup sc = none)) → codeAny (model P w) callerA (.call (.ref fa) ⟨[.ref sc], []⟩) (fun r t => r = .ok (.ret (.bool true)) ∧ OldK st.heap t.heap ∧ t.os = st.os ∧ AllBare t.gens) st := fun H on sq ok only => by
    have stays : ∀ {c : Addr} {o : Obj}, st.heap.get? c = some o → H c = none → (hidT st.heap H).get? c = some o := fun z q => hidT_get z q
    have noD : ∀ {b : Addr} {o : Obj}, st.heap.get? b = some o → (∀ vs n, o.data ≠ .seq vs n) → o.data ≠ .fields #[] → H b = none := fun {b o} e h1 h2 => by
      by_cases q : H b = none
      · exact q
      · rcases only b q with e' | ⟨e', _⟩
        · rw [e', hT] at e
          cases e
          exact (h2 rfl).elim
        · rw [e', hs] at e
          cases e
          exact (h1 _ _ rfl).elim
    have noDict : ∀ {c : Addr} {o : Obj} {es : Array DictEntry} {ep : Nat}, st.heap.get? c = some o → o.data = .dict es ep → H c = none := fun {c o es ep} z q => noD z (fun vs n y => by rw [q] at y; cases y) fun y => by rw [q] at y; cases y
    have nsH : ∀ {c : Addr} {m : Str → Option Value}, st.heap.Ns c m → (hidT st.heap H).Ns c m := fun ⟨o, es, ep, z, q, r⟩ => ⟨o, es, ep, stays z (noDict z q), q, r⟩
    have kH : K.In (hidT st.heap H) := fun c o z => stays (inK c o z) (by
      by_cases hc : H c = none
      · exact hc
      · rcases only c hc with e' | ⟨e', hn⟩
        · rw [e', nT] at z
          cases z
        · rw [e', hn] at z
          cases z)
    have md : Mod K mg (hidT st.heap H) := ⟨kH, nsH gl, ⟨mb, nsH bl, bb⟩, by obtain ⟨mc, h1, h2⟩ := nl; exact ⟨mc, nsH h1, h2⟩⟩
    have TB : LamX.TabB (hidT st.heap H) mg cd T := by
      refine ⟨?_, ?_, fun z => ?_⟩
      · obtain ⟨o, us, file, tf, flags, tg, inF, text, tt, e1, r1, r2, r3, r4, r5, r6, r7, r8, hne⟩ := hC
        refine ⟨o, us, file, tf, flags, tg, inF, text, tt, stays e1 (noD e1 (fun vs n z => ?_) fun z => ?_), r1, r2, r3, r4, r5, r6, r7, r8, hne⟩
        · rw [r2] at z
          cases z
        · rw [r2] at z
          cases z
          simp at r3
      · obtain ⟨bm, ob, b1, b2, b3, b4, b5, b6⟩ := hbm
        have nG : bm ≠ mainGlobals := fun q => by
          obtain ⟨o, es, ep, e, hd, _⟩ := gl
          rw [q, e] at b3
          cases b3
          rw [hd] at b6
          cases b6
        have nP : bm ≠ T := fun q => by
          rw [q, hT] at b3
          cases b3
          cases b6
        refine ⟨bm, ob, b1, b2, nG, nP, stays b3 (noD b3 (fun vs n z => ?_) fun z => ?_), b4, b5, b6⟩
        · rw [b6] at z
          cases z
        · rw [b6] at z
          cases z
      · obtain ⟨o, es, ep, e, hd, _⟩ := gl
        rw [z, hT] at e
        cases e
        cases hd
    have ev : Env0 P w K mg (hidT st.heap H) callerA [] st H := ⟨rfl, md, fun c o z => of_hidT z, Nat.le_of_eq (hidT_size _ _), trivial, fun c hc => absurd (show c ∈ ([] : List Addr) from hc) List.not_mem_nil, ok, .of_eq g0⟩
    refine codeAny_mono (run _ H ev on TB sq) fun r t h => ?_
    rcases r with e | fl
    · obtain ⟨_, _, _, _, _, _, _, _, _, _, _, _, z⟩ := h
      exact z.elim
    · cases fl with
      | ret u =>
        obtain ⟨v, H', os, bare, un, ok', rr, rfl⟩ := h
        obtain rfl : u = Value.bool true := rr
        have key : ∀ c o, c ≠ T → st.heap.get? c = some o → t.heap.get? c = some o := fun c o nc z => by
          rcases on.2 c nc with q | ⟨oc, xs, q⟩
          · exact un.keep c o z q (fun y => absurd (show c ∈ ([] : List Addr) from y) List.not_mem_nil) List.not_mem_nil
          · obtain ⟨e1, _⟩ := ok c _ q
            obtain ⟨e2, _⟩ := ok' c _ (un.frzs c oc _ q)
            rw [z] at e1
            cases e1
            exact e2
        have grown : ∃ more : Array Value, t.heap.get? T = some { cls := .none, data := .fields more } := by
          obtain ⟨more, z⟩ := un.tbls T #[] on.1
          exact ⟨_, ok' T _ z⟩
        refine ⟨rfl, ⟨fun b o e => ?_, fun b o e => ?_⟩, os, bare⟩
        · by_cases hb : b = T
          · obtain ⟨more, hm⟩ := grown
            rw [hb] at e ⊢
            rw [hT] at e
            cases e
            exact .inr (.inl ⟨(hC.tab hT).isCodeTable, rfl, #[], more, rfl, by rw [Array.empty_append]; exact hm⟩)
          · exact .inl (key b o hb e)
        · by_cases hb : b = T
          · obtain ⟨more, hm⟩ := grown
            rw [hb]
            exact ⟨_, hm⟩
          · exact ⟨o, key b o hb e⟩
      | _ => exact h.elim
  rcases hk : K.lookup sc with _ | o
  · let it : HO := .frz { cls := .type "list", data := .seq vs.toArray } (.lst (ns.map V.int))
    refine go (fun c => if c = T then some (.tbl #[]) else if c = sc then some it else none) ⟨if_pos rfl, fun c hc => ?_⟩ (.inl (.inr ⟨_, (if_neg scT).trans (if_pos rfl)⟩)) (fun c u z => ?_) fun c z => ?_
    · by_cases q : c = sc
      · exact .inr ⟨_, _, (if_neg hc).trans (if_pos q)⟩
      · exact .inl ((if_neg hc).trans (if_neg q))
    · by_cases hc : c = T
      · have z := (if_pos hc).symm.trans z
        cases z
        subst hc
        exact hT
      · have z := (if_neg hc).symm.trans z
        by_cases q : c = sc
        · have z := (if_pos q).symm.trans z
          cases z
          subst q
          exact ⟨hs, by rw [List.length_map]; exact len, vs, _, rv, hs⟩
        · cases (if_neg q).symm.trans z
    · by_cases hc : c = T
      · exact .inl hc
      · by_cases q : c = sc
        · exact .inr ⟨q, hk⟩
        · exact absurd ((if_neg hc).trans (if_neg q)) z
  · have z := inK sc o hk
    rw [hs] at z
    cases z
    refine go (fun c => if c = T then some (.tbl #[]) else none) ⟨if_pos rfl, fun c hc => .inl (if_neg hc)⟩ (.inr ⟨_, vs.toArray, _, hk, rfl, rfl, rfl, by rw [List.size_toArray, lv]; exact len, by simpa using rv⟩) (fun c u z => ?_) fun c z => ?_
    · by_cases hc : c = T
      · have z := (if_pos hc).symm.trans z
        cases z
        subst hc
        exact hT
      · cases (if_neg hc).symm.trans z
    · by_cases hc : c = T
      · exact .inl hc
      · exact absurd (if_neg hc) z
/-- the memory at the top: the table, nothing else -/
def tabM (T : Addr) (q : Str) : Mem := fun a => if a = T then some (.tab q) else none
end
end DL
/-! What walk_top asks, out of what the linked text shows. -/
namespace DL
open PySem PySem.Spec PyProof.Rows L2
theorem top_at {P : Program} {w : World} {K : PySem.W.Frag} {mg : Str → Option Value} {defs : List DefD} {cst : Str → Option D} {ex : ExI} {h : Heap} {fa : Addr} (KX : K.In h) (G : h.Ns mainGlobals mg) {x : Str} {d : DefD} (hfa : mg "law" = some (.ref fa)) (hex : ExOk ex K mg) (ck : ∀ n, defs.all (chkD (gcOf defs cst ex n).has) = true) (hb : Bds defs)
    (hd : d ∈ defs) (hn : d.name = "law") (hx : d.ps = [x]) (hk : KDefs K defs) (hz : KNone K bltNames) (hc : ∀ x d, cst x = some d → ∃ v u, mg x = some u ∧ RelV v u ∧ ∀ H F, RD K H F v d)
    (hini : ∀ c f, ex.ini c = some f → (defs.any fun d => decide (d.name = f)) = true ∧ ∀ d ∈ defs, d.name = f → ∃ C fa fd, PySem.W.nsIn K mainGlobals c = some (some (.ref C)) ∧ mg c = some (.ref C) ∧ Mk K C fa ∧ Fun K "__init__" d.name d.st fa fd ∧ Binds K fd d.ps [])
    (hmet : ∀ c m f, ex.met c m = some f → (defs.any fun d => decide (d.name = f)) = true ∧ ∀ d ∈ defs, d.name = f → ∃ C fa fd, PySem.W.nsIn K mainGlobals c = some (some (.ref C)) ∧ Cls K C ∧ Meth K C m fa ∧ Fun K m d.name d.st fa fd ∧ Binds K fd d.ps []) :
    Top P w K mg defs cst ex ∧ ∃ fd, At K mg d fa fd ∧ ∀ (s : Shared) (u : Value), BindsTo s fd ⟨[u], []⟩ [(x, u)] := by
  have at_ : ∀ e ∈ defs, isMs ex defs e.name = false → ∃ f fd, At K mg e f fd := fun e he hn => by
    obtain ⟨f, oc, od, an, sl, kV, dc, pm, cd, ct, a, l, c, kk⟩ := (hk e he (by unfold noPt; rw [show e.name.cps.any (· == 46) = false from hn]; rfl)).ex
    have F := fun_mk l c kk
    exact ⟨f, _, F, PySem.W.mg_of KX G a, F.binds (hb e he)⟩
  have T : Top P w K mg defs cst ex := ⟨at_, hini, hmet, fun x hx => PySem.W.mg_none_of KX G (hz x hx), hc, hex, ck⟩
  obtain ⟨f, oc, od, an, sl, kV, dc, pm, cd, ct, a, l, c, kk⟩ := (hk d hd (by rw [hn]; decide +kernel)).ex
  have F := fun_mk l c kk
  have e1 : mg d.name = some (.ref f) := PySem.W.mg_of KX G a
  have e2 : f = fa := by
    rw [hn, hfa] at e1
    cases e1
    rfl
  subst e2
  exact ⟨T, _, ⟨F, e1, F.binds (hb d hd)⟩, fun s u => .of_eq ((hb d hd kV dc pm an cd ct [u] (by rw [hx]; rfl)).trans (by rw [hx]; rfl))⟩
end DL
/-! The law's end where a def makes lambdas: its table of code objects is known. -/
namespace DL
open PySem PySem.Spec PyProof.Rows L2
theorem code_of_tab {K : PySem.W.Frag} {h : Heap} {mg : Str → Option Value} {x y : Str} {st : Stmt} {c P f : Addr} {fd : FuncData} (KX : K.In h) (G : h.Ns mainGlobals mg) (ht : PySem.W.tabIn K x = some (c, P)) (hm : mg x = some (.ref f)) (F : Fun K y x st f fd) : fd.code = .ref c := by
  unfold PySem.W.tabIn at ht
  split at ht
  · rename_i f0 hf
    have e1 := PySem.W.mg_of KX G hf
    rw [hm] at e1
    cases e1
    obtain ⟨oc, od, kV, doc, pm, an, cdv, ct, osl, rfl, lk, hcd⟩ := F.ex
    rw [lk] at ht
    dsimp only at ht
    split at ht
    · split at ht
      · split at ht
        · cases ht
          first | rfl | assumption
        · cases ht
      · cases ht
    · cases ht
  · cases ht
theorem tab_mk {K : PySem.W.Frag} {x : Str} {f c P : Addr} {oc o1 : Value} {od d1 : Option Addr} {sl s1 : Array (Option Value)} {fd : FuncData} {vs : Array Value} (a : PySem.W.nsIn K mainGlobals x = some (some (.ref f))) (l : K.lookup f = some ⟨oc, od, .func fd, sl⟩) (hc : fd.code = .ref c) (l2 : K.lookup c = some ⟨o1, d1, .fields vs, s1⟩) (hv : vs[11]? = some (.ref P)) : PySem.W.tabIn K x = some (c, P) := by
  unfold PySem.W.tabIn
  rw [a]
  dsimp only
  rw [l]
  dsimp only
  rw [hc]
  dsimp only
  rw [l2]
  dsimp only
  rw [hv]
/-- the goal that is left of a law -/
theorem walk_topT {l : PySem.W.OpenLaw} {num k : Nat} {q : Program} {loose : List Str} {XP : (Str → Option Value) → Heap → Prop} {YP : World → Heap → Prop} {dr : DefRec} {K : Params → PySem.W.Frag} {defs : List DefD} {cst : Str → Option D} {ex : ExI} {d : DefD} {x lm tq : Str} {tP : Addr}
    (hn : l.most = some num) (hn2 : num ≤ sizeLine) (hdf : dr.params.defaults = []) (hr : Room (2 * k + 3 + 1) callerA) (hY : ∀ (w : World) (h : Heap), YP w h → (K w.params).In h) (hnm : dr.name = "law")
    (top : ∀ (w : World) (mg : Str → Option Value) (fa : Addr) (h : Heap), (K w.params).In h → h.Ns mainGlobals mg → mg "law" = some (.ref fa) → Top l.prog w (K w.params) mg defs cst ex ∧ ∃ fd, At (K w.params) mg d fa fd ∧ ∀ (s : Shared) (u : Value), BindsTo s fd ⟨[u], []⟩ [(x, u)])
    (kp : Keeps defs cst ex) (hd : d ∈ defs) (hx : d.ps = [x])
    (hw : ∀ ns : List Int, ns.length ≤ num → wpSs (gcG defs cst ex k) d.body (startR d.N [.lk (ns.map .int)]) (tabM tP tq) { nx := fun _ μ' => (fun v (_ : Mem) => v = D.bl true) .non μ', rt := fun v _ => v = .bl true } E0k)
    (hlam : ex.lam = some lm) (htab : ex.tab = some (tP, tq)) (hq : tq = lm ++ ".<locals>." ++ "<lambda>") (hini : ∀ c f, ex.ini c = some f → f ≠ lm) (hmet : ∀ c m f, ex.met c m = some f → f ≠ lm)
    (hT : ∀ w : World, ∃ c, PySem.W.tabIn (K w.params) lm = some (c, tP)) (hN : ∀ w : World, (K w.params).lookup tP = none) (hrec : ∃ e, (recsOf q).find? (fun e => e.name == lm) = some e) :
    PySem.W.WalkO q loose XP YP l.row.toRowW dr [] (fun f vs => PySem.call f vs) := by
  refine Att.attach_call hn hdf fun w s₀ s₁ mg mb fa o pm cd doc a vs ns G Y ho hdt hcd hmg hobj hints hlen hg => ?_
  have inK := hY w _ Y
  rw [hnm] at hmg
  obtain ⟨T, fd, at_, bd⟩ := top w mg fa _ inK G.T.g hmg
  obtain ⟨c, ht⟩ := hT w
  obtain ⟨e, he⟩ := hrec
  obtain ⟨tc, tt⟩ := PySem.W.tab_of G.T inK he ht
  refine top_lawT inK G.T.g G.T.b G.T.builtins G.T.nolimit hg hobj hints (Nat.le_trans hlen hn2) tt (hN w) tc G.T.bmain fun base H ev on TB sq => ?_
  refine top_run T (fun P q2 h => ?_) kp k hd at_ hr (F1 := fun _ => False) (μ := tabM tP tq) (Qd := fun v _ => v = .bl true) ev (by rw [hx]; exact bd _ _) (vs := [.ref a]) (ds := [.lk (ns.map .int)]) (.cons rfl .nil) ⟨fun a o e => ?_, fun a f => f.elim⟩ (.cons (.lk ?_ .of_ints) .nil) (by rw [hx]; rfl) ?_ fun v H' p => ?_
  · rw [htab] at h
    cases h
    refine ⟨⟨c, TB, fun d2 hd2 e2 => ?_⟩, fun c f hf e2 => hini c f hf ?_, fun c m f hf e2 => hmet c m f hf ?_⟩
    · rw [hlam] at e2
      cases e2
      exact ⟨hq, fun x f fd2 hm F => code_of_tab inK G.T.g ht hm F⟩
    · rw [hlam] at e2; cases e2; rfl
    · rw [hlam] at e2; cases e2; rfl
  · unfold tabM at e
    split at e
    · rename_i ea
      cases e
      refine ⟨fun f => f.elim, .tbl #[], by rw [ea]; exact on.1, ⟨#[], rfl, ?_, ?_⟩⟩
      · first | exact trivial | exact fun _ _ _ z => nomatch z | decide
      · intro pos cv z
        first | cases z | (simp [codeAmong] at z)
    · cases e
  · rcases sq with (e | ⟨o, e⟩) | ⟨o, its, n, h1, h2, h3, h4, h5, h6⟩
    · by_cases ea : a = tP
      · rw [ea, on.1] at e; cases e
      · rcases on.2 a ea with z | ⟨o, xs, z⟩
        · rw [e] at z; cases z
        · rw [e] at z; cases z
    · exact .inl ⟨o, e⟩
    · exact .inr ⟨o, its, n, h1, h2, h3, h4, h5, h6⟩
  · have q := hw ns hlen
    exact q
  · obtain ⟨d, F', μ', _, _, r, rfl⟩ := p
    cases r
    rfl
end DL
namespace DL
open PySem PySem.Spec PyProof.Rows L2
def tabP : Addr := 113
def tabQ : Str := "sorted_rows.<locals>.<lambda>"
def exI : ExI := { exs := fun _ => false, exi := fun _ => none, sub := fun _ _ => none, fld := fun _ _ => false, lam := some "sorted_rows", tab := some (tabP, tabQ) }
theorem ex_ok {K : PySem.W.Frag} {mg : Str → Option Value} : ExOk exI K mg := ⟨fun _ h => (nomatch h), fun _ _ _ h => (nomatch h), fun _ _ h => (nomatch h), fun _ _ h => (nomatch h), fun _ _ h => (nomatch h)⟩
theorem tabQ_is : tabQ = ("sorted_rows" : Str) ++ ".<locals>." ++ "<lambda>" := by decide +kernel
def S32_sorted_rowsT : FSpec := S32_sorted_rows tabP tabQ
def S32_machine_restT : FSpec := S32_machine_rest tabP tabQ
def S32_told_byT : FSpec := S32_told_by tabP tabQ
def S32_told_behindT : FSpec := S32_told_behind tabP tabQ
def S32_toldT : FSpec := S32_told tabP tabQ
def topS (i : Nat) : Stmt := PySem.Challenge.pw_rowpipes_k32_whole_rows_together.main.body.getD i (.Pass ⟨0, 0, 0, 0⟩)
def d_is_number : DefD := ⟨"is_number", topS 6, ["thing"], ["thing"], b17_is_number, (fun _ _ _ _ _ => False)⟩
def d_is_word : DefD := ⟨"is_word", topS 7, ["thing", "letter"], ["thing"], b11_is_word, (fun _ _ _ _ _ => False)⟩
def d_in_span : DefD := ⟨"in_span", topS 9, ["span", "number", "low", "high"], ["span", "number"], b17_in_span, (fun _ _ _ _ _ => False)⟩
def d_has : DefD := ⟨"has", topS 10, ["told", "cell", "span"], ["told", "cell"], b17_has, (fun _ _ _ _ _ => False)⟩
def d_cells_of : DefD := ⟨"cells_of", topS 13, ["row", "columns", "column"], ["row", "columns"], b32_cells_of, lvS 1 S32_cells_of⟩
def d_with_cell : DefD := ⟨"with_cell", topS 14, ["row", "column", "cell"], ["row", "column", "cell"], b32_with_cell, (fun _ _ _ _ _ => False)⟩
def d_paired : DefD := ⟨"paired", topS 15, ["pairs", "cell", "pair"], ["pairs", "cell"], b32_paired, (fun _ _ _ _ _ => False)⟩
def d_one_row : DefD := ⟨"one_row", topS 16, ["worker", "row", "place", "word", "pair"], ["worker", "row", "place"], b32_one_row, lvS 2 S32_one_row⟩
def d_next_state : DefD := ⟨"next_state", topS 17, ["moves", "state", "cell", "found", "here", "other", "next_one"], ["moves", "state", "cell"], b32_next_state, (fun _ _ _ _ _ => False)⟩
def d_walked : DefD := ⟨"walked", topS 18, ["worker", "state", "rows", "place", "here", "told", "row"], ["worker", "state", "rows", "place"], b32_walked, (fun _ _ _ _ _ => False)⟩
def d_sorted_rows : DefD := ⟨"sorted_rows", topS 19, ["rows", "order", "found", "column", "is_falling"], ["rows", "order"], b32_sorted_rows, lvS 1 S32_sorted_rowsT⟩
def d_apart_fed : DefD := ⟨"apart_fed", topS 20, ["state", "rows", "told", "row"], ["state", "rows"], b32_apart_fed, lvS 1 S32_apart_fed⟩
def d_stretch_row : DefD := ⟨"stretch_row", topS 21, ["state", "cells", "number"], ["state"], b32_stretch_row, lvS 1 S32_stretch_row⟩
def d_stretches_fed : DefD := ⟨"stretches_fed", topS 22, ["worker", "state", "rows", "told", "row", "cells", "more"], ["worker", "state", "rows"], b32_stretches_fed, lvS 2 S32_stretches_fed⟩
def d_numbered : DefD := ⟨"numbered", topS 23, ["state", "rows", "told", "k", "row"], ["state", "rows"], b32_numbered, lvS 1 S32_numbered⟩
def d_first_state : DefD := ⟨"first_state", topS 24, ["worker", "word"], ["worker"], b32_first_state, lvS 1 S32_first_state⟩
def d_machine_fed : DefD := ⟨"machine_fed", topS 25, ["worker", "state", "rows", "place", "word", "told", "row"], ["worker", "state", "rows", "place"], b32_machine_fed, lvS 3 S32_machine_fed⟩
def d_machine_rest : DefD := ⟨"machine_rest", topS 26, ["worker", "state"], ["worker", "state"], b32_machine_rest, lvS 2 S32_machine_restT⟩
def d_met : DefD := ⟨"met", topS 27, ["worker", "ones", "others", "told", "row", "other"], ["worker", "ones", "others"], b32_met, (fun _ _ _ _ _ => False)⟩
def d_told_by : DefD := ⟨"told_by", topS 29, ["worker", "rows", "place", "ones", "others", "state", "found"], ["worker", "rows", "place"], b32_told_by, lvS 4 S32_told_byT⟩
def d_told_behind : DefD := ⟨"told_behind", topS 30, ["pipe", "rows", "branch", "number", "worker"], ["pipe", "rows", "branch"], b32_told_behind, lvS 5 S32_told_behindT⟩
def d_told : DefD := ⟨"told", topS 31, ["pipe", "rows"], ["pipe", "rows"], b32_told, lvS 6 S32_toldT⟩
def d_l_cell_at : DefD := ⟨"_law_cell_at", topS 33, ["_law_script", "_law_k"], ["_law_script", "_law_k"], b_l_cell_at, lvS 1 S_cell_at⟩
def d_l_pot : DefD := ⟨"_law_pot", topS 34, ["_law_script", "_law_k", "_law_cell_here"], ["_law_script", "_law_k"], b32_l_pot, lvS 2 S32_pot⟩
def d_l_draw : DefD := ⟨"_law_draw", topS 35, ["_law_pot_here", "_law_many", "_law_digit"], ["_law_pot_here", "_law_many"], b_l_draw, lvS 1 S_draw⟩
def d_l_cell : DefD := ⟨"_law_cell", topS 36, ["_law_pot_here", "_law_sort", "_law_way", "_law_letters", "_law_k"], ["_law_pot_here", "_law_sort"], b32_l_cell, lvS 2 S32_cell⟩
def d_l_head : DefD := ⟨"_law_head", topS 37, ["_law_pot_here", "_law_k"], ["_law_pot_here"], b32_l_head, lvS 2 S32_head⟩
def d_l_rows : DefD := ⟨"_law_rows", topS 38, ["_law_pot_here", "_law_head_here", "_law_most", "_law_rows_here", "_law_k", "_law_sort"], ["_law_pot_here", "_law_head_here", "_law_most"], b32_l_rows, lvS 3 S32_rows⟩
def d_l_columns : DefD := ⟨"_law_columns", topS 39, ["_law_pot_here", "_law_wide", "_law_least", "_law_most", "_law_k"], ["_law_pot_here", "_law_wide", "_law_least", "_law_most"], b32_l_columns, lvS 2 S32_columns⟩
def d_l_order : DefD := ⟨"_law_order", topS 40, ["_law_pot_here", "_law_wide", "_law_left", "_law_found", "_law_k"], ["_law_pot_here", "_law_wide"], b71_l_unlike, lvS 2 S32_order⟩
def d_l_is_before : DefD := ⟨"_law_is_before", topS 41, ["_law_one", "_law_other", "_law_order_here", "_law_column", "_law_is_falling"], ["_law_one", "_law_other", "_law_order_here"], b32_l_is_before, lvS 1 S32_is_before⟩
def d_l_sorted : DefD := ⟨"_law_sorted", topS 42, ["_law_rows_here", "_law_order_here", "_law_found", "_law_row", "_law_at"], ["_law_rows_here", "_law_order_here"], b32_l_sorted, lvS 2 S32_sorted⟩
def d_l_folded : DefD := ⟨"_law_folded", topS 43, ["_law_worker_here", "_law_rows_here", "_law_stretches", "_law_row", "_law_key", "_law_some", "_law_column"], ["_law_worker_here", "_law_rows_here"], b32_l_folded, lvS 1 S32_folded⟩
def d_l_worker : DefD := ⟨"_law_worker", topS 44, ["_law_pot_here", "_law_head_here", "_law_way", "_law_wide", "_law_numbers", "_law_columns_here", "_law_worker_here", "_law_k", "_law_column"], ["_law_pot_here", "_law_head_here"], b32_l_worker, lvS 3 S32_worker⟩
def d_l_due : DefD := ⟨"_law_due", topS 45, ["_law_worker_here", "_law_rows_here", "_law_row", "_law_k", "_law_column"], ["_law_worker_here", "_law_rows_here"], b32_l_due, lvS 3 S32_due⟩
def d_law : DefD := ⟨"law", topS 46, ["_law_script", "_law_k", "_law_pot_here", "_law_head_here", "_law_rows_here", "_law_turn", "_law_found", "_law_handed", "_law_pipe", "_law_due_here", "_law_worker_here", "_law_row"], ["_law_script"], b32_law, (fun _ _ _ _ _ => False)⟩
def defs : List DefD := [d_is_number, d_is_word, d_in_span, d_has, d_cells_of, d_with_cell, d_paired, d_one_row, d_next_state, d_walked, d_sorted_rows, d_apart_fed, d_stretch_row, d_stretches_fed, d_numbered, d_first_state, d_machine_fed, d_machine_rest, d_met, d_told_by, d_told_behind, d_told, d_l_cell_at, d_l_pot, d_l_draw, d_l_cell, d_l_head, d_l_rows, d_l_columns, d_l_order, d_l_is_before, d_l_sorted, d_l_folded, d_l_worker, d_l_due, d_law]
theorem names_nd : (defs.map (·.name)).Nodup := by decide +kernel
def hasD (f : Str) : Bool := !(isMs exI defs f) && defs.any fun d => decide (d.name = f)
theorem ck_is_number : chkD hasD d_is_number = true := by decide +kernel
theorem ck_is_word : chkD hasD d_is_word = true := by decide +kernel
theorem ck_in_span : chkD hasD d_in_span = true := by decide +kernel
theorem ck_has : chkD hasD d_has = true := by decide +kernel
theorem ck_cells_of : chkD hasD d_cells_of = true := by decide +kernel
theorem ck_with_cell : chkD hasD d_with_cell = true := by decide +kernel
theorem ck_paired : chkD hasD d_paired = true := by decide +kernel
theorem ck_one_row : chkD hasD d_one_row = true := by decide +kernel
theorem ck_next_state : chkD hasD d_next_state = true := by decide +kernel
theorem ck_walked : chkD hasD d_walked = true := by decide +kernel
theorem ck_sorted_rows : chkD hasD d_sorted_rows = true := by decide +kernel
theorem ck_apart_fed : chkD hasD d_apart_fed = true := by decide +kernel
theorem ck_stretch_row : chkD hasD d_stretch_row = true := by decide +kernel
theorem ck_stretches_fed : chkD hasD d_stretches_fed = true := by decide +kernel
theorem ck_numbered : chkD hasD d_numbered = true := by decide +kernel
theorem ck_first_state : chkD hasD d_first_state = true := by decide +kernel
theorem ck_machine_fed : chkD hasD d_machine_fed = true := by decide +kernel
theorem ck_machine_rest : chkD hasD d_machine_rest = true := by decide +kernel
theorem ck_met : chkD hasD d_met = true := by decide +kernel
theorem ck_told_by : chkD hasD d_told_by = true := by decide +kernel
theorem ck_told_behind : chkD hasD d_told_behind = true := by decide +kernel
theorem ck_told : chkD hasD d_told = true := by decide +kernel
theorem ck_l_cell_at : chkD hasD d_l_cell_at = true := by decide +kernel
theorem ck_l_pot : chkD hasD d_l_pot = true := by decide +kernel
theorem ck_l_draw : chkD hasD d_l_draw = true := by decide +kernel
theorem ck_l_cell : chkD hasD d_l_cell = true := by decide +kernel
theorem ck_l_head : chkD hasD d_l_head = true := by decide +kernel
theorem ck_l_rows : chkD hasD d_l_rows = true := by decide +kernel
theorem ck_l_columns : chkD hasD d_l_columns = true := by decide +kernel
theorem ck_l_order : chkD hasD d_l_order = true := by decide +kernel
theorem ck_l_is_before : chkD hasD d_l_is_before = true := by decide +kernel
theorem ck_l_sorted : chkD hasD d_l_sorted = true := by decide +kernel
theorem ck_l_folded : chkD hasD d_l_folded = true := by decide +kernel
theorem ck_l_worker : chkD hasD d_l_worker = true := by decide +kernel
theorem ck_l_due : chkD hasD d_l_due = true := by decide +kernel
theorem ck_law : chkD hasD d_law = true := by decide +kernel
theorem chk_all (cst : Str → Option D) (n : Nat) : defs.all (chkD (gcOf defs cst exI n).has) = true := by
  show defs.all (chkD hasD) = true
  simp only [defs, List.all_cons, List.all_nil, ck_is_number, ck_is_word, ck_in_span, ck_has, ck_cells_of, ck_with_cell, ck_paired, ck_one_row, ck_next_state, ck_walked, ck_sorted_rows, ck_apart_fed, ck_stretch_row, ck_stretches_fed, ck_numbered, ck_first_state, ck_machine_fed, ck_machine_rest, ck_met, ck_told_by, ck_told_behind, ck_told, ck_l_cell_at, ck_l_pot, ck_l_draw, ck_l_cell, ck_l_head, ck_l_rows, ck_l_columns, ck_l_order, ck_l_is_before, ck_l_sorted, ck_l_folded, ck_l_worker, ck_l_due, ck_law, Bool.and_self]
theorem bd_is_number : Bd d_is_number := fun _ _ _ _ _ _ us hl => match us, hl with | [_], _ => rfl
theorem bd_is_word : Bd d_is_word := fun _ _ _ _ _ _ us hl => match us, hl with | [_], _ => rfl
theorem bd_in_span : Bd d_in_span := fun _ _ _ _ _ _ us hl => match us, hl with | [_, _], _ => rfl
theorem bd_has : Bd d_has := fun _ _ _ _ _ _ us hl => match us, hl with | [_, _], _ => rfl
theorem bd_cells_of : Bd d_cells_of := fun _ _ _ _ _ _ us hl => match us, hl with | [_, _], _ => rfl
theorem bd_with_cell : Bd d_with_cell := fun _ _ _ _ _ _ us hl => match us, hl with | [_, _, _], _ => rfl
theorem bd_paired : Bd d_paired := fun _ _ _ _ _ _ us hl => match us, hl with | [_, _], _ => rfl
theorem bd_one_row : Bd d_one_row := fun _ _ _ _ _ _ us hl => match us, hl with | [_, _, _], _ => rfl
theorem bd_next_state : Bd d_next_state := fun _ _ _ _ _ _ us hl => match us, hl with | [_, _, _], _ => rfl
theorem bd_walked : Bd d_walked := fun _ _ _ _ _ _ us hl => match us, hl with | [_, _, _, _], _ => rfl
theorem bd_sorted_rows : Bd d_sorted_rows := fun _ _ _ _ _ _ us hl => match us, hl with | [_, _], _ => rfl
theorem bd_apart_fed : Bd d_apart_fed := fun _ _ _ _ _ _ us hl => match us, hl with | [_, _], _ => rfl
theorem bd_stretch_row : Bd d_stretch_row := fun _ _ _ _ _ _ us hl => match us, hl with | [_], _ => rfl
theorem bd_stretches_fed : Bd d_stretches_fed := fun _ _ _ _ _ _ us hl => match us, hl with | [_, _, _], _ => rfl
theorem bd_numbered : Bd d_numbered := fun _ _ _ _ _ _ us hl => match us, hl with | [_, _], _ => rfl
theorem bd_first_state : Bd d_first_state := fun _ _ _ _ _ _ us hl => match us, hl with | [_], _ => rfl
theorem bd_machine_fed : Bd d_machine_fed := fun _ _ _ _ _ _ us hl => match us, hl with | [_, _, _, _], _ => rfl
theorem bd_machine_rest : Bd d_machine_rest := fun _ _ _ _ _ _ us hl => match us, hl with | [_, _], _ => rfl
theorem bd_met : Bd d_met := fun _ _ _ _ _ _ us hl => match us, hl with | [_, _, _], _ => rfl
theorem bd_told_by : Bd d_told_by := fun _ _ _ _ _ _ us hl => match us, hl with | [_, _, _], _ => rfl
theorem bd_told_behind : Bd d_told_behind := fun _ _ _ _ _ _ us hl => match us, hl with | [_, _, _], _ => rfl
theorem bd_told : Bd d_told := fun _ _ _ _ _ _ us hl => match us, hl with | [_, _], _ => rfl
theorem bd_l_cell_at : Bd d_l_cell_at := fun _ _ _ _ _ _ us hl => match us, hl with | [_, _], _ => rfl
theorem bd_l_pot : Bd d_l_pot := fun _ _ _ _ _ _ us hl => match us, hl with | [_, _], _ => rfl
theorem bd_l_draw : Bd d_l_draw := fun _ _ _ _ _ _ us hl => match us, hl with | [_, _], _ => rfl
theorem bd_l_cell : Bd d_l_cell := fun _ _ _ _ _ _ us hl => match us, hl with | [_, _], _ => rfl
theorem bd_l_head : Bd d_l_head := fun _ _ _ _ _ _ us hl => match us, hl with | [_], _ => rfl
theorem bd_l_rows : Bd d_l_rows := fun _ _ _ _ _ _ us hl => match us, hl with | [_, _, _], _ => rfl
theorem bd_l_columns : Bd d_l_columns := fun _ _ _ _ _ _ us hl => match us, hl with | [_, _, _, _], _ => rfl
theorem bd_l_order : Bd d_l_order := fun _ _ _ _ _ _ us hl => match us, hl with | [_, _], _ => rfl
theorem bd_l_is_before : Bd d_l_is_before := fun _ _ _ _ _ _ us hl => match us, hl with | [_, _, _], _ => rfl
theorem bd_l_sorted : Bd d_l_sorted := fun _ _ _ _ _ _ us hl => match us, hl with | [_, _], _ => rfl
theorem bd_l_folded : Bd d_l_folded := fun _ _ _ _ _ _ us hl => match us, hl with | [_, _], _ => rfl
theorem bd_l_worker : Bd d_l_worker := fun _ _ _ _ _ _ us hl => match us, hl with | [_, _], _ => rfl
theorem bd_l_due : Bd d_l_due := fun _ _ _ _ _ _ us hl => match us, hl with | [_, _], _ => rfl
theorem bd_law : Bd d_law := fun _ _ _ _ _ _ us hl => match us, hl with | [_], _ => rfl
theorem bds : Bds defs := (bcons bd_is_number (bcons bd_is_word (bcons bd_in_span (bcons bd_has (bcons bd_cells_of (bcons bd_with_cell (bcons bd_paired (bcons bd_one_row (bcons bd_next_state (bcons bd_walked (bcons bd_sorted_rows (bcons bd_apart_fed (bcons bd_stretch_row (bcons bd_stretches_fed (bcons bd_numbered (bcons bd_first_state (bcons bd_machine_fed (bcons bd_machine_rest (bcons bd_met (bcons bd_told_by (bcons bd_told_behind (bcons bd_told (bcons bd_l_cell_at (bcons bd_l_pot (bcons bd_l_draw (bcons bd_l_cell (bcons bd_l_head (bcons bd_l_rows (bcons bd_l_columns (bcons bd_l_order (bcons bd_l_is_before (bcons bd_l_sorted (bcons bd_l_folded (bcons bd_l_worker (bcons bd_l_due (bcons bd_law bnil))))))))))))))))))))))))))))))))))))
section
variable {n : Nat} {cst : Str → Option D}
theorem fn_cells_of (h : 1 ≤ n) : (gcOf defs cst exI n).fn "cells_of" = S32_cells_of := fn_at names_nd 4 rfl (d := d_cells_of) rfl h
theorem fn_one_row (h : 2 ≤ n) : (gcOf defs cst exI n).fn "one_row" = S32_one_row := fn_at names_nd 7 rfl (d := d_one_row) rfl h
theorem fn_sorted_rows (h : 1 ≤ n) : (gcOf defs cst exI n).fn "sorted_rows" = S32_sorted_rowsT := fn_at names_nd 10 rfl (d := d_sorted_rows) rfl h
theorem fn_apart_fed (h : 1 ≤ n) : (gcOf defs cst exI n).fn "apart_fed" = S32_apart_fed := fn_at names_nd 11 rfl (d := d_apart_fed) rfl h
theorem fn_stretch_row (h : 1 ≤ n) : (gcOf defs cst exI n).fn "stretch_row" = S32_stretch_row := fn_at names_nd 12 rfl (d := d_stretch_row) rfl h
theorem fn_stretches_fed (h : 2 ≤ n) : (gcOf defs cst exI n).fn "stretches_fed" = S32_stretches_fed := fn_at names_nd 13 rfl (d := d_stretches_fed) rfl h
theorem fn_numbered (h : 1 ≤ n) : (gcOf defs cst exI n).fn "numbered" = S32_numbered := fn_at names_nd 14 rfl (d := d_numbered) rfl h
theorem fn_first_state (h : 1 ≤ n) : (gcOf defs cst exI n).fn "first_state" = S32_first_state := fn_at names_nd 15 rfl (d := d_first_state) rfl h
theorem fn_machine_fed (h : 3 ≤ n) : (gcOf defs cst exI n).fn "machine_fed" = S32_machine_fed := fn_at names_nd 16 rfl (d := d_machine_fed) rfl h
theorem fn_machine_rest (h : 2 ≤ n) : (gcOf defs cst exI n).fn "machine_rest" = S32_machine_restT := fn_at names_nd 17 rfl (d := d_machine_rest) rfl h
theorem fn_told_by (h : 4 ≤ n) : (gcOf defs cst exI n).fn "told_by" = S32_told_byT := fn_at names_nd 19 rfl (d := d_told_by) rfl h
theorem fn_told_behind (h : 5 ≤ n) : (gcOf defs cst exI n).fn "told_behind" = S32_told_behindT := fn_at names_nd 20 rfl (d := d_told_behind) rfl h
theorem fn_told (h : 6 ≤ n) : (gcOf defs cst exI n).fn "told" = S32_toldT := fn_at names_nd 21 rfl (d := d_told) rfl h
theorem fn_l_cell_at (h : 1 ≤ n) : (gcOf defs cst exI n).fn "_law_cell_at" = S_cell_at := fn_at names_nd 22 rfl (d := d_l_cell_at) rfl h
theorem fn_l_pot (h : 2 ≤ n) : (gcOf defs cst exI n).fn "_law_pot" = S32_pot := fn_at names_nd 23 rfl (d := d_l_pot) rfl h
theorem fn_l_draw (h : 1 ≤ n) : (gcOf defs cst exI n).fn "_law_draw" = S_draw := fn_at names_nd 24 rfl (d := d_l_draw) rfl h
theorem fn_l_cell (h : 2 ≤ n) : (gcOf defs cst exI n).fn "_law_cell" = S32_cell := fn_at names_nd 25 rfl (d := d_l_cell) rfl h
theorem fn_l_head (h : 2 ≤ n) : (gcOf defs cst exI n).fn "_law_head" = S32_head := fn_at names_nd 26 rfl (d := d_l_head) rfl h
theorem fn_l_rows (h : 3 ≤ n) : (gcOf defs cst exI n).fn "_law_rows" = S32_rows := fn_at names_nd 27 rfl (d := d_l_rows) rfl h
theorem fn_l_columns (h : 2 ≤ n) : (gcOf defs cst exI n).fn "_law_columns" = S32_columns := fn_at names_nd 28 rfl (d := d_l_columns) rfl h
theorem fn_l_order (h : 2 ≤ n) : (gcOf defs cst exI n).fn "_law_order" = S32_order := fn_at names_nd 29 rfl (d := d_l_order) rfl h
theorem fn_l_is_before (h : 1 ≤ n) : (gcOf defs cst exI n).fn "_law_is_before" = S32_is_before := fn_at names_nd 30 rfl (d := d_l_is_before) rfl h
theorem fn_l_sorted (h : 2 ≤ n) : (gcOf defs cst exI n).fn "_law_sorted" = S32_sorted := fn_at names_nd 31 rfl (d := d_l_sorted) rfl h
theorem fn_l_folded (h : 1 ≤ n) : (gcOf defs cst exI n).fn "_law_folded" = S32_folded := fn_at names_nd 32 rfl (d := d_l_folded) rfl h
theorem fn_l_worker (h : 3 ≤ n) : (gcOf defs cst exI n).fn "_law_worker" = S32_worker := fn_at names_nd 33 rfl (d := d_l_worker) rfl h
theorem fn_l_due (h : 3 ≤ n) : (gcOf defs cst exI n).fn "_law_due" = S32_due := fn_at names_nd 34 rfl (d := d_l_due) rfl h
end
def cst (x : Str) : Option D := if x = "BRANCHED" then some (.tup [.str sBoth32, .str sMeet32]) else none
theorem cst_BRANCHED : cst "BRANCHED" = some (.tup [.str sBoth32, .str sMeet32]) := by
  unfold cst
  rw [if_pos rfl]
theorem cst_ok {K : PySem.W.Frag} {mg : Str → Option Value} {h : Heap} (KX : K.In h) (G : h.Ns mainGlobals mg) {a0 : Addr} {od0 : Option Addr} {sl0 : Array (Option Value)} {m0 : Nat} {t0_0 t0_1 : Tok} (c0 : PySem.W.nsIn K mainGlobals "BRANCHED" = some (some (.ref a0))) (d0 : K.lookup a0 = some ⟨.type "tuple", od0, .seq #[.str sBoth32 t0_0, .str sMeet32 t0_1] m0, sl0⟩) :
    ∀ x d, cst x = some d → ∃ v u, mg x = some u ∧ RelV v u ∧ ∀ H F, RD K H F v d := fun x d e => by
  unfold cst at e
  split at e
  · rename_i hx
    cases e
    rw [hx]
    exact ⟨.ref a0, .ref a0, PySem.W.mg_of KX G c0, rfl, fun H F => .tup (vs := [.str sBoth32, .str sMeet32]) (.inr ⟨_, _, m0, d0, rfl, rfl, by show 2 ≤ sizeLine; decide, (.cons ⟨t0_0, rfl⟩ (.cons ⟨t0_1, rfl⟩ .nil))⟩) (.cons (.str _) (.cons (.str _) .nil))⟩
  · cases e
section
variable {n : Nat}
theorem kp_is_number : Keep1 defs cst exI d_is_number := ⟨fun ds μ Q X h => (show False from h).elim, fun n ds μ Q X h => (show False from h).elim⟩
theorem kp_is_word : Keep1 defs cst exI d_is_word := ⟨fun ds μ Q X h => (show False from h).elim, fun n ds μ Q X h => (show False from h).elim⟩
theorem kp_in_span : Keep1 defs cst exI d_in_span := ⟨fun ds μ Q X h => (show False from h).elim, fun n ds μ Q X h => (show False from h).elim⟩
theorem kp_has : Keep1 defs cst exI d_has := ⟨fun ds μ Q X h => (show False from h).elim, fun n ds μ Q X h => (show False from h).elim⟩
theorem kp_with_cell : Keep1 defs cst exI d_with_cell := ⟨fun ds μ Q X h => (show False from h).elim, fun n ds μ Q X h => (show False from h).elim⟩
theorem kp_paired : Keep1 defs cst exI d_paired := ⟨fun ds μ Q X h => (show False from h).elim, fun n ds μ Q X h => (show False from h).elim⟩
theorem kp_next_state : Keep1 defs cst exI d_next_state := ⟨fun ds μ Q X h => (show False from h).elim, fun n ds μ Q X h => (show False from h).elim⟩
theorem kp_walked : Keep1 defs cst exI d_walked := ⟨fun ds μ Q X h => (show False from h).elim, fun n ds μ Q X h => (show False from h).elim⟩
theorem kp_met : Keep1 defs cst exI d_met := ⟨fun ds μ Q X h => (show False from h).elim, fun n ds μ Q X h => (show False from h).elim⟩
theorem kp_cells_of : Keep1 defs cst exI d_cells_of := keep_lv (S := S32_cells_of) rfl fun n ds μ Q X hn h => by
  obtain ⟨hh, r, cs, rfl, h1, h2, h3, h⟩ := h
  exact ⟨rfl, wp32_cells_of h1 h2 h3 h⟩
theorem kp_apart_fed : Keep1 defs cst exI d_apart_fed := keep_lv (S := S32_apart_fed) rfl fun n ds μ Q X hn h => by
  obtain ⟨hh, rows, rfl, h1, h2, h⟩ := h
  exact ⟨rfl, wp32_apart_fed h1 h2 h⟩
theorem kp_stretch_row : Keep1 defs cst exI d_stretch_row := keep_lv (S := S32_stretch_row) rfl fun n ds μ Q X hn h => by
  obtain ⟨c, o, rfl, h1, h⟩ := h
  exact ⟨rfl, wp32_stretch_row h1 h⟩
theorem kp_stretches_fed : Keep1 defs cst exI d_stretches_fed := keep_lv (S := S32_stretches_fed) rfl fun n ds μ Q X hn h => by
  obtain ⟨hh, rows, c, cs, rfl, h1, h2, h3, h4, h5, h⟩ := h
  exact ⟨rfl, wp32_stretches_fed (fn_cells_of (by omega)) (fn_stretch_row (by omega)) h1 h2 h3 h4 h5 h⟩
theorem kp_numbered : Keep1 defs cst exI d_numbered := keep_lv (S := S32_numbered) rfl fun n ds μ Q X hn h => by
  obtain ⟨hh, rows, rfl, h1, h2, h3, h⟩ := h
  exact ⟨rfl, wp32_numbered h1 h2 h3 h⟩
theorem kp_first_state : Keep1 defs cst exI d_first_state := keep_lv (S := S32_first_state) rfl fun n ds μ Q X hn h => by
  obtain ⟨w, rfl, h⟩ := h
  exact ⟨rfl, wp32_first_state h⟩
theorem kp_one_row : Keep1 defs cst exI d_one_row := keep_lv (S := S32_one_row) rfl fun n ds μ Q X hn h => by
  obtain ⟨hh, r, cs, x, rfl, h1, h2, h3, h⟩ := h
  exact ⟨rfl, wp32_one_row (fn_cells_of (by omega)) h1 h2 h3 h⟩
theorem kp_machine_fed : Keep1 defs cst exI d_machine_fed := keep_lv (S := S32_machine_fed) rfl fun n ds μ Q X hn h => by
  obtain ⟨hh, w, rows, x, rfl, h1, h2, h3, h4, h⟩ := h
  exact ⟨rfl, wp32_machine_fed (fn_apart_fed (by omega)) (fn_stretches_fed (by omega)) (fn_numbered (by omega)) (fn_one_row (by omega)) h1 h2 h3 h4 h⟩
theorem kp_sorted_rows : KeepT defs cst exI d_sorted_rows := by
  refine ⟨fun ds μ Q X h => ?_, fun n ds μ Q X h => ?_⟩
  · have h : lvS 1 S32_sorted_rowsT 0 ds μ Q X := h
    exact absurd h.1 (by omega)
  · have h : lvS 1 S32_sorted_rowsT (n + 1) ds μ Q X := h
    obtain ⟨_, hh, rows, o, rfl, h1, h2, h3, h⟩ := h
    exact ⟨rfl, wp32_sorted_rows (G := gcD defs cst exI n "sorted_rows") (P := tabP) (tq := tabQ) (show lamT exI "sorted_rows" = some (tabP, tabQ) from if_pos rfl) h1 h2 h3 h⟩
theorem kp_machine_rest : Keep1 defs cst exI d_machine_rest := keep_lv (S := S32_machine_restT) rfl fun n ds μ Q X hn h => by
  obtain ⟨hh, w, rows, rfl, h1, h2, h3, h⟩ := h
  exact ⟨rfl, wp32_machine_rest (fn_sorted_rows (by omega)) (fn_stretch_row (by omega)) h1 h2 h3 h⟩
theorem kp_told_by : Keep1 defs cst exI d_told_by := keep_lv (S := S32_told_byT) rfl fun n ds μ Q X hn h => by
  obtain ⟨hh, w, rows, x, rfl, h1, h2, h3, h4, h5, h⟩ := h
  exact ⟨rfl, wp32_told_by cst_BRANCHED (fn_first_state (by omega)) (fn_machine_fed (by omega)) (fn_machine_rest (by omega)) h1 h2 h3 h4 h5 h⟩
theorem kp_told_behind : Keep1 defs cst exI d_told_behind := keep_lv (S := S32_told_behindT) rfl fun n ds μ Q X hn h => by
  obtain ⟨hh, ws, rows, rfl, h1, h2, h3, h⟩ := h
  exact ⟨rfl, wp32_told_behind (fn_told_by (by omega)) h1 h2 h3 h⟩
theorem kp_told : Keep1 defs cst exI d_told := keep_lv (S := S32_toldT) rfl fun n ds μ Q X hn h => by
  obtain ⟨hh, ws, rows, rfl, h1, h2, h3, h⟩ := h
  exact ⟨rfl, wp32_told (fn_told_behind (by omega)) h1 h2 h3 h⟩
theorem kp_l_cell_at : Keep1 defs cst exI d_l_cell_at := keep_lv (S := S_cell_at) rfl fun n ds μ Q X hn h => by
  obtain ⟨ns, k, rfl, h1, h⟩ := h
  exact ⟨rfl, wp_cell_at h1 h⟩
theorem kp_l_pot : Keep1 defs cst exI d_l_pot := keep_lv (S := S32_pot) rfl fun n ds μ Q X hn h => by
  obtain ⟨ns, k, rfl, h1, h2, h⟩ := h
  exact ⟨rfl, wp32_pot (fn_l_cell_at (by omega)) h1 h2 h⟩
theorem kp_l_draw : Keep1 defs cst exI d_l_draw := keep_lv (S := S_draw) rfl fun n ds μ Q X hn h => by
  obtain ⟨a, m, rfl, h1, h2, h⟩ := h
  exact ⟨rfl, wp_draw h1 h2 h⟩
theorem kp_l_cell : Keep1 defs cst exI d_l_cell := keep_lv (S := S32_cell) rfl fun n ds μ Q X hn h => by
  obtain ⟨a, s, rfl, h1, h⟩ := h
  exact ⟨rfl, wp32_cell (fn_l_draw (by omega)) h1 h⟩
theorem kp_l_head : Keep1 defs cst exI d_l_head := keep_lv (S := S32_head) rfl fun n ds μ Q X hn h => by
  obtain ⟨a, rfl, h1, h⟩ := h
  exact ⟨rfl, wp32_head (fn_l_draw (by omega)) h1 h⟩
theorem kp_l_rows : Keep1 defs cst exI d_l_rows := keep_lv (S := S32_rows) rfl fun n ds μ Q X hn h => by
  obtain ⟨a, hs, rfl, h1, h2, h⟩ := h
  exact ⟨rfl, wp32_rows (fn_l_draw (by omega)) (fn_l_cell (by omega)) h1 h2 h⟩
theorem kp_l_order : Keep1 defs cst exI d_l_order := keep_lv (S := S32_order) rfl fun n ds μ Q X hn h => by
  obtain ⟨a, w, rfl, h1, h2, h3, h⟩ := h
  exact ⟨rfl, wp32_order (fn_l_draw (by omega)) h1 h2 h3 h⟩
theorem kp_l_columns : Keep1 defs cst exI d_l_columns := keep_lv (S := S32_columns) rfl fun n ds μ Q X hn h => by
  obtain ⟨a, w, lo, hi, rfl, h1, h2, h3, h⟩ := h
  exact ⟨rfl, wp32_columns (fn_l_draw (by omega)) h1 h2 h3 h⟩
theorem kp_l_worker : Keep1 defs cst exI d_l_worker := keep_lv (S := S32_worker) rfl fun n ds μ Q X hn h => by
  obtain ⟨a, hs, rfl, h1, h2, h3, h⟩ := h
  exact ⟨rfl, wp32_worker (fn_l_draw (by omega)) (fn_l_order (by omega)) (fn_l_columns (by omega)) h1 h2 h3 h⟩
theorem kp_l_is_before : Keep1 defs cst exI d_l_is_before := keep_lv (S := S32_is_before) rfl fun n ds μ Q X hn h => by
  obtain ⟨hh, a, b, o, rfl, h1, h2, h3, h⟩ := h
  exact ⟨rfl, wp32_is_before h1 h2 h3 h⟩
theorem kp_l_sorted : Keep1 defs cst exI d_l_sorted := keep_lv (S := S32_sorted) rfl fun n ds μ Q X hn h => by
  obtain ⟨hh, rows, o, rfl, h1, h2, h3, h⟩ := h
  exact ⟨rfl, wp32_sorted (fn_l_is_before (by omega)) h1 h2 h3 h⟩
theorem kp_l_folded : Keep1 defs cst exI d_l_folded := keep_lv (S := S32_folded) rfl fun n ds μ Q X hn h => by
  obtain ⟨hh, rows, c, cs, rfl, h1, h2, h3, h4, h5, h⟩ := h
  exact ⟨rfl, wp32_folded h1 h2 h3 h4 h5 h⟩
theorem kp_l_due : Keep1 defs cst exI d_l_due := keep_lv (S := S32_due) rfl fun n ds μ Q X hn h => by
  obtain ⟨hh, w, rows, rfl, h1, h2, h3, h4, h⟩ := h
  exact ⟨rfl, wp32_due (fn_l_sorted (by omega)) (fn_l_folded (by omega)) h1 h2 h3 h4 h⟩
theorem kp_law : Keep1 defs cst exI d_law := ⟨fun ds μ Q X h => (show False from h).elim, fun n ds μ Q X h => (show False from h).elim⟩
end
theorem keeps : Keeps defs cst exI := show KeepL defs cst exI defs from (pcons kp_is_number (pcons kp_is_word (pcons kp_in_span (pcons kp_has (pcons kp_cells_of (pcons kp_with_cell (pcons kp_paired (pcons kp_one_row (pcons kp_next_state (pcons kp_walked (pconsT kp_sorted_rows (pcons kp_apart_fed (pcons kp_stretch_row (pcons kp_stretches_fed (pcons kp_numbered (pcons kp_first_state (pcons kp_machine_fed (pcons kp_machine_rest (pcons kp_met (pcons kp_told_by (pcons kp_told_behind (pcons kp_told (pcons kp_l_cell_at (pcons kp_l_pot (pcons kp_l_draw (pcons kp_l_cell (pcons kp_l_head (pcons kp_l_rows (pcons kp_l_columns (pcons kp_l_order (pcons kp_l_is_before (pcons kp_l_sorted (pcons kp_l_folded (pcons kp_l_worker (pcons kp_l_due (pcons kp_law pnil))))))))))))))))))))))))))))))))))))
theorem gG {n : Nat} (f : Str) : (gcG defs cst exI n).fn f = (gcOf defs cst exI n).fn f := rfl
theorem law_gen {n : Nat} (hn : 8 ≤ n) {ns : List Int} (hl : ns.length ≤ 63) : wpSs (gcG defs cst exI n) b32_law [some (eScript ns), none, none, none, none, none, none, none, none, none, none, none] (tabM tabP tabQ) (Ends0 fun v _ => v = D.bl true) E0k :=
  wp32_law (G := gcG defs cst exI n) (P := tabP) (tq := tabQ) ⟨(gG _).trans (fn_l_pot (by omega)), (gG _).trans (fn_l_draw (by omega)), (gG _).trans (fn_l_head (by omega)), (gG _).trans (fn_l_rows (by omega)), (gG _).trans (fn_l_worker (by omega)), (gG _).trans (fn_l_due (by omega)), (gG _).trans (fn_told (by omega))⟩ hl (show tabM tabP tabQ tabP = some (.tab tabQ) from if_pos rfl) fun _ => rfl
theorem law_in {ns : List Int} (hl : ns.length ≤ 63) : wpSs (gcG defs cst exI 8) d_law.body (startR d_law.N [.lk (ns.map .int)]) (tabM tabP tabQ) { nx := fun _ μ' => (fun v (_ : Mem) => v = D.bl true) .non μ', rt := fun v _ => v = .bl true } E0k :=
  law_gen (Nat.le_refl 8) hl
end DL
open PySem PySem.W PyProof.Rows
set_option maxHeartbeats 0 in
theorem PySem.Challenge.cw_rowpipes_k32_whole_rows_together_holds : PySem.Challenge.rw_rowpipes_k32_whole_rows_together.Holds := by
  w_on; o_law; k_head; (case hw => w_witness2)
  k_fill
  refine DL.walk_topT (lm := "sorted_rows") (tq := DL.tabQ) (tP := DL.tabP) (l := PySem.Challenge.rw_rowpipes_k32_whole_rows_together) (num := 63) (k := 8) (x := "_law_script") (defs := DL.defs) (cst := DL.cst) (ex := DL.exI) (d := DL.d_law) rfl (by decide) rfl ⟨rfl, by decide, by decide⟩ (fun w h Y => PySem.W.km_in_of Y) rfl ?F DL.keeps (List.mem_of_getElem? (i := 35) rfl) rfl (fun ns hl => DL.law_in hl) rfl rfl DL.tabQ_is (fun _ _ h => nomatch h) (fun _ _ _ h => nomatch h) ?zzT ?zzN ?zzR
  case zzT =>
    intro w
    refine' ⟨_, DL.tab_mk ?ta ?tl ?tc ?tlc ?tv⟩
    (case ta => k_is); (case tl => k_is); (case tc => rfl); (case tlc => k_is); (case tv => rfl)
  case zzN => intro w; kernel_rfl
  case zzR => exact ⟨_, rfl⟩
  case F =>
    intro w mg fa h KX G hmg
    refine' DL.top_at (defs := DL.defs) (cst := DL.cst) (ex := DL.exI) (d := DL.d_law) KX G hmg DL.ex_ok (DL.chk_all _) DL.bds (List.mem_of_getElem? (i := 35) rfl) rfl rfl (DL.kcons (DL.kd "is_number" (DL.topS 6) ?a0 ?l0 ?c0 ?k0) (DL.kcons (DL.kd "is_word" (DL.topS 7) ?a1 ?l1 ?c1 ?k1) (DL.kcons (DL.kd "in_span" (DL.topS 9) ?a2 ?l2 ?c2 ?k2) (DL.kcons (DL.kd "has" (DL.topS 10) ?a3 ?l3 ?c3 ?k3) (DL.kcons (DL.kd "cells_of" (DL.topS 13) ?a4 ?l4 ?c4 ?k4) (DL.kcons (DL.kd "with_cell" (DL.topS 14) ?a5 ?l5 ?c5 ?k5) (DL.kcons (DL.kd "paired" (DL.topS 15) ?a6 ?l6 ?c6 ?k6) (DL.kcons (DL.kd "one_row" (DL.topS 16) ?a7 ?l7 ?c7 ?k7) (DL.kcons (DL.kd "next_state" (DL.topS 17) ?a8 ?l8 ?c8 ?k8) (DL.kcons (DL.kd "walked" (DL.topS 18) ?a9 ?l9 ?c9 ?k9) (DL.kcons (DL.kd "sorted_rows" (DL.topS 19) ?a10 ?l10 ?c10 ?k10) (DL.kcons (DL.kd "apart_fed" (DL.topS 20) ?a11 ?l11 ?c11 ?k11) (DL.kcons (DL.kd "stretch_row" (DL.topS 21) ?a12 ?l12 ?c12 ?k12) (DL.kcons (DL.kd "stretches_fed" (DL.topS 22) ?a13 ?l13 ?c13 ?k13) (DL.kcons (DL.kd "numbered" (DL.topS 23) ?a14 ?l14 ?c14 ?k14) (DL.kcons (DL.kd "first_state" (DL.topS 24) ?a15 ?l15 ?c15 ?k15) (DL.kcons (DL.kd "machine_fed" (DL.topS 25) ?a16 ?l16 ?c16 ?k16) (DL.kcons (DL.kd "machine_rest" (DL.topS 26) ?a17 ?l17 ?c17 ?k17) (DL.kcons (DL.kd "met" (DL.topS 27) ?a18 ?l18 ?c18 ?k18) (DL.kcons (DL.kd "told_by" (DL.topS 29) ?a19 ?l19 ?c19 ?k19) (DL.kcons (DL.kd "told_behind" (DL.topS 30) ?a20 ?l20 ?c20 ?k20) (DL.kcons (DL.kd "told" (DL.topS 31) ?a21 ?l21 ?c21 ?k21) (DL.kcons (DL.kd "_law_cell_at" (DL.topS 33) ?a22 ?l22 ?c22 ?k22) (DL.kcons (DL.kd "_law_pot" (DL.topS 34) ?a23 ?l23 ?c23 ?k23) (DL.kcons (DL.kd "_law_draw" (DL.topS 35) ?a24 ?l24 ?c24 ?k24) (DL.kcons (DL.kd "_law_cell" (DL.topS 36) ?a25 ?l25 ?c25 ?k25) (DL.kcons (DL.kd "_law_head" (DL.topS 37) ?a26 ?l26 ?c26 ?k26) (DL.kcons (DL.kd "_law_rows" (DL.topS 38) ?a27 ?l27 ?c27 ?k27) (DL.kcons (DL.kd "_law_columns" (DL.topS 39) ?a28 ?l28 ?c28 ?k28) (DL.kcons (DL.kd "_law_order" (DL.topS 40) ?a29 ?l29 ?c29 ?k29) (DL.kcons (DL.kd "_law_is_before" (DL.topS 41) ?a30 ?l30 ?c30 ?k30) (DL.kcons (DL.kd "_law_sorted" (DL.topS 42) ?a31 ?l31 ?c31 ?k31) (DL.kcons (DL.kd "_law_folded" (DL.topS 43) ?a32 ?l32 ?c32 ?k32) (DL.kcons (DL.kd "_law_worker" (DL.topS 44) ?a33 ?l33 ?c33 ?k33) (DL.kcons (DL.kd "_law_due" (DL.topS 45) ?a34 ?l34 ?c34 ?k34) (DL.kcons (DL.kd "law" (DL.topS 46) ?a35 ?l35 ?c35 ?k35) DL.knil)))))))))))))))))))))))))))))))))))) (DL.zcons ?z0 (DL.zcons ?z1 (DL.zcons ?z2 (DL.zcons ?z3 (DL.zcons ?z4 (DL.zcons ?z5 (DL.zcons ?z6 (DL.zcons ?z7 (DL.zcons ?z8 (DL.zcons ?z9 (DL.zcons ?z10 (DL.zcons ?z11 (DL.zcons ?z12 (DL.zcons ?z13 (DL.zcons ?z14 (DL.zcons ?z15 (DL.zcons ?z16 (DL.zcons ?z17 (DL.zcons ?z18 (DL.zcons ?z19 (DL.zcons ?z20 (DL.zcons ?z21 DL.znil)))))))))))))))))))))) (DL.cst_ok KX G ?q0 ?q1) (fun _ _ h => nomatch h) (fun _ _ _ h => nomatch h)
    (case a0 => k_is); (case l0 => k_is); (case c0 => k_is); (case k0 => k_is)
    (case a1 => k_is); (case l1 => k_is); (case c1 => k_is); (case k1 => k_is)
    (case a2 => k_is); (case l2 => k_is); (case c2 => k_is); (case k2 => k_is)
    (case a3 => k_is); (case l3 => k_is); (case c3 => k_is); (case k3 => k_is)
    (case a4 => k_is); (case l4 => k_is); (case c4 => k_is); (case k4 => k_is)
    (case a5 => k_is); (case l5 => k_is); (case c5 => k_is); (case k5 => k_is)
    (case a6 => k_is); (case l6 => k_is); (case c6 => k_is); (case k6 => k_is)
    (case a7 => k_is); (case l7 => k_is); (case c7 => k_is); (case k7 => k_is)
    (case a8 => k_is); (case l8 => k_is); (case c8 => k_is); (case k8 => k_is)
    (case a9 => k_is); (case l9 => k_is); (case c9 => k_is); (case k9 => k_is)
    (case a10 => k_is); (case l10 => k_is); (case c10 => k_is); (case k10 => k_is)
    (case a11 => k_is); (case l11 => k_is); (case c11 => k_is); (case k11 => k_is)
    (case a12 => k_is); (case l12 => k_is); (case c12 => k_is); (case k12 => k_is)
    (case a13 => k_is); (case l13 => k_is); (case c13 => k_is); (case k13 => k_is)
    (case a14 => k_is); (case l14 => k_is); (case c14 => k_is); (case k14 => k_is)
    (case a15 => k_is); (case l15 => k_is); (case c15 => k_is); (case k15 => k_is)
    (case a16 => k_is); (case l16 => k_is); (case c16 => k_is); (case k16 => k_is)
    (case a17 => k_is); (case l17 => k_is); (case c17 => k_is); (case k17 => k_is)
    (case a18 => k_is); (case l18 => k_is); (case c18 => k_is); (case k18 => k_is)
    (case a19 => k_is); (case l19 => k_is); (case c19 => k_is); (case k19 => k_is)
    (case a20 => k_is); (case l20 => k_is); (case c20 => k_is); (case k20 => k_is)
    (case a21 => k_is); (case l21 => k_is); (case c21 => k_is); (case k21 => k_is)
    (case a22 => k_is); (case l22 => k_is); (case c22 => k_is); (case k22 => k_is)
    (case a23 => k_is); (case l23 => k_is); (case c23 => k_is); (case k23 => k_is)
    (case a24 => k_is); (case l24 => k_is); (case c24 => k_is); (case k24 => k_is)
    (case a25 => k_is); (case l25 => k_is); (case c25 => k_is); (case k25 => k_is)
    (case a26 => k_is); (case l26 => k_is); (case c26 => k_is); (case k26 => k_is)
    (case a27 => k_is); (case l27 => k_is); (case c27 => k_is); (case k27 => k_is)
    (case a28 => k_is); (case l28 => k_is); (case c28 => k_is); (case k28 => k_is)
    (case a29 => k_is); (case l29 => k_is); (case c29 => k_is); (case k29 => k_is)
    (case a30 => k_is); (case l30 => k_is); (case c30 => k_is); (case k30 => k_is)
    (case a31 => k_is); (case l31 => k_is); (case c31 => k_is); (case k31 => k_is)
    (case a32 => k_is); (case l32 => k_is); (case c32 => k_is); (case k32 => k_is)
    (case a33 => k_is); (case l33 => k_is); (case c33 => k_is); (case k33 => k_is)
    (case a34 => k_is); (case l34 => k_is); (case c34 => k_is); (case k34 => k_is)
    (case a35 => k_is); (case l35 => k_is); (case c35 => k_is); (case k35 => k_is)
    (case z0 => k_is); (case z1 => k_is); (case z2 => k_is); (case z3 => k_is); (case z4 => k_is); (case z5 => k_is); (case z6 => k_is); (case z7 => k_is); (case z8 => k_is); (case z9 => k_is); (case z10 => k_is); (case z11 => k_is); (case z12 => k_is); (case z13 => k_is); (case z14 => k_is); (case z15 => k_is); (case z16 => k_is); (case z17 => k_is); (case z18 => k_is); (case z19 => k_is); (case z20 => k_is); (case z21 => k_is)
    (case q0 => k_is); (case q1 => k_is)
