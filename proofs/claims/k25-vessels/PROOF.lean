import PyProof.Rows.All
import HandS.ForMost
import HandS.Exc
import HandS.Lambda
import HandS.GenList
import HandS.AnyAll
import PyProof.TupleOfGen
import PyProof.SumAny
import HandS.ExcOwn
import KE.KeyNested
import KE.KDictKeyed
import HandS.TupLen
import HandS.IsInst
import HandS.SortInts
import HandS.TupMul
import HandS.TupAny
import HandS.TupLe
import HandS.Deep
import HandS.Style
import HandS.More
import HandS.Flow
import HandS.SortKw
import KE.DataMinMax
import HandS.Iter
import HandS.Zip
import HandS.Words
import HandS.Codes
import KE.KExcSuper
import KE.KExcInit
import KE.KSuper
import HandS.Ends
import HandS.ExcInit
import HandS.FStr
import HandS.ExcIs
import HandS.ExcField
import HandS.TryMany
import HandS.Wide
import HandS.EndTab
import KE.KNest
import KE.GoesMore
import HandS.Dict
import KE.KDictDisplayH
import HandS.DictTup
import Wide.All
import OpenK.AllK
import Wide.FinOn
import PyProof.EqAt
import PyProof.EqKinds
import PyProof.TupleCall
import PySem.Challenge.RW_loadedvan_k25_whole_vessels
set_option Elab.async false
set_option linter.all false
set_option maxRecDepth 100000
set_option maxHeartbeats 2000000
/-! GenX: all, any, sum, tuple of a generator expression whose element is any expression of the layer. -/
namespace GX
open PySem PySem.Spec PyProof.Rows L2 GenW
/-- the context of a generator expression's frame -/
abbrev gcx (X : Cx) (A : Around) (s : Shared) (H : Hp) (cenv : Env) (fp : List Addr) (pn : List (Addr × Obj)) : Cx :=
  { X with A := A, s_0 := s, H_0 := H, env := cenv, outer := X.stack, stack := cenv :: X.stack, ex := fp, fn := fun _ => false, pn := pn, xe := fun _ _ => False }
/-- the scope of a generator expression -/
structure GOk (scope : Scope) : Prop where
  co : scope.isCoroutine = false
  cell : ∀ y ∈ scope.names, y.2 ≠ .cell
  dot : scope.names.lookup (".0" : Str) = some NameKind.local
abbrev genv (X : Cx) (scope : Scope) (C : Addr) (code : Value) : Env := genEnv scope (cloFrom X.env.cells scope.names []) C code builtinsNs X.env
section
variable {X : Cx} {pins : List (Addr × Obj)} {σ : L2.St} {H : Hp} {s : Shared}
theorem gen_inv {A : Around} {scope : Scope} {own : List (Str × Nat)} {fp : List Addr} {code : Value} {pn : List (Addr × Obj)} {h5 : Heap} {g5 : Array GenState} {t5 : Nat} {m : Str → Option Value}
    (I : Inv X pins σ H s) (ok : BlkOk X.N X.env.scope scope own) (gk : GOk scope) (hN : X.N.Nodup) (hfp : ∀ b ∈ fp, FpOk X pins H b ∧ b < s.heap.objs.size)
    (hA : A.frames = some (genv X scope s.heap.objs.size code :: X.stack)) (hh : A.handled = none)
    (kp : ∀ b o, s.heap.get? b = some o → h5.get? b = some o) (hn : h5.Ns s.heap.objs.size m) (hg : AllBare g5)
    (hpn : ∀ p ∈ pn, h5.get? p.1 = some p.2 ∧ s.heap.objs.size < p.1 ∧ ∀ v, p.2.data ≠ .cell v) :
    Inv (gcx X A s H (genv X scope s.heap.objs.size code) fp pn) [] (wipe σ (own.map (·.2))) H { s with heap := h5, gens := g5, toks := t5 } := by
  have hfree : ∀ y ∈ scope.names, y.2 = .free → ∃ c, X.env.cells.lookup y.1 = some c := fun y hy e => by
    rcases ok.free y hy e with k | k
    · exact I.ok.has _ (.inl k)
    · exact I.ok.has _ (.inr k)
  have cm : ∀ {y c}, (cloFrom X.env.cells scope.names []).lookup y = some c → X.env.cells.lookup y = some c := fun {y c} e => by
    rcases cloFrom_mem (PySem.mem_of_lookup e) with hm | ⟨h1, h2⟩
    · cases hm
    · obtain ⟨c1, hc⟩ := hfree _ h1 rfl
      have hc : X.env.cells.lookup y = some c1 := hc
      have e2 : c = c1 := by
        rw [h2, hc] <;> rfl
      rw [e2]
      exact hc
  have look : ∀ {y}, scope.names.lookup y = some .free → ∃ c, (cloFrom X.env.cells scope.names []).lookup y = some c := fun {y} hl => by
    have hy : (y, NameKind.free) ∈ scope.names := PySem.mem_of_lookup hl
    exact mem_lookup (cloFrom_has (cells := X.env.cells) (acc := []) hy)
  have clt : ∀ {y c}, X.env.cells.lookup y = some c → c < s.heap.objs.size := fun {y c} e => by
    obtain ⟨w', z⟩ := I.cell y c e
    exact z.lt
  refine ⟨⟨I.ok.mod, ok.kind, I.ok.glob, rfl, Nat.le_refl _, fun y z c e1 e2 => I.ok.inj y z c (cm e1) (cm e2), fun y hy => ?_, fun y c z _ => ?_, fun _ => hh, hA, .inr ⟨rfl, rfl⟩, fun b hb => ⟨?_, fun y c e z => ?_⟩, I.bs, Nat.le_trans I.ok.bsz I.sz,
      fun b o e hb => ?_, fun b hb z => ?_, I.stack, I.stkFree⟩,
    rfl, hg, Un.kept kp, ⟨m, hn, fun i y v e1 e2 e3 => ?_⟩, fun y c e => ?_, I.hok.fresh (Nat.le_refl _), fun y c e => ?_, fun q hq => ?_, I.hok.kept kp, by rw [wipe_length]; exact I.len⟩
  · have hy : scope.names.lookup y = some .cell ∨ scope.names.lookup y = some .free := hy
    rcases hy with hy | hy
    · exact absurd rfl (gk.cell _ (PySem.mem_of_lookup hy))
    · exact look hy
  · cases z
  · exact Nat.ne_of_lt (hfp b hb).2
  · exact (hfp b hb).1.2.2.2.2.1 y c (cm e) z
  · rcases (hfp b hb).1.2.2.2.1 with z | z
    · exact I.ok.noex b o e z
    · exact absurd (Nat.lt_of_lt_of_le (Heap.lt_size e) (Nat.le_trans I.ok.bsz z)) (Nat.lt_irrefl _)
  · rcases List.mem_cons.mp (I.stkSub b z) with z | z
    · exact (hfp b hb).1.2.1 z
    · exact (hfp b hb).1.2.2.1 z
  · obtain ⟨e2, hne⟩ := wipe_some e2
    have e3 : Vis scope y := e3
    have noown : scope.names.lookup y = some .local → False := fun k => by
      rcases ok.own _ (PySem.mem_of_lookup k) (.inl rfl) with e' | e'
      · obtain ⟨p, hp, hpy⟩ := List.mem_map.mp e'
        have e4 := ok.ix p hp
        have : p.1 = y := hpy
        rw [this] at e4
        exact hne (List.mem_map.mpr ⟨p, hp, nodup_ix hN e4 e1⟩)
      · exact e' (List.mem_of_getElem? e1)
    rcases e3 with k | k | k
    · exact (noown k).elim
    · exact absurd rfl (gk.cell _ (PySem.mem_of_lookup k))
    · obtain ⟨m0, hn0, hl⟩ := I.loc
      have hvis : Vis X.env.scope y := (ok.free _ (PySem.mem_of_lookup k) rfl).elim (fun k => .inr (.inl k)) (fun k => .inr (.inr k))
      obtain ⟨w', r, q⟩ := hl i y v e1 e2 hvis
      obtain ⟨c2, h2⟩ := look k
      refine ⟨w', r, .inr ⟨.inr k, c2, h2, ?_⟩⟩
      have c1 := cm h2
      rcases q with ⟨k', _⟩ | ⟨_, c3, e', z⟩
      · have k' : X.env.scope.names.lookup y = some .local := k'
        rcases ok.free _ (PySem.mem_of_lookup k) rfl with k2 | k2 <;> rw [show X.env.scope.names.lookup y = _ from k2] at k' <;> cases k'
      · rw [c1] at e'
        cases e'
        exact z.keeps kp
  · obtain ⟨w', z⟩ := I.cell y c (cm e)
    exact ⟨w', z.keeps kp⟩
  · exact I.freeC y c (cm e)
  · have hq : q ∈ pn ++ [] := hq
    rw [List.append_nil] at hq
    obtain ⟨h1, h2, h3⟩ := hpn q hq
    exact ⟨h1, I.hok.fresh (Nat.le_of_lt h2), Nat.ne_of_gt h2, fun z => by
      rcases List.mem_cons.mp (I.stkSub q.1 z) with z | z
      · have := I.lt
        rw [z] at h2
        exact absurd (Nat.lt_trans this h2) (Nat.lt_irrefl _)
      · exact I.nofs (Nat.le_of_lt h2) z, h3⟩
end
theorem wipe_get (σ : L2.St) (vs : List Nat) (i : Nat) : (wipe σ vs)[i]? = if i ∈ vs then (σ[i]?).map fun _ => none else σ[i]? := by
  induction vs with
  | nil => simp [wipe]
  | cons v vs ih =>
    unfold wipe
    rw [List.getElem?_set]
    by_cases h : v = i
    · subst h
      simp only [if_true, List.mem_cons, true_or]
      rw [wipe_length]
      by_cases hl : v < σ.length
      · rw [if_pos hl, List.getElem?_eq_getElem hl]; rfl
      · rw [if_neg hl, List.getElem?_eq_none (by omega)]; rfl
    · rw [if_neg h, ih]
      by_cases hm : i ∈ vs
      · rw [if_pos hm, if_pos (List.mem_cons_of_mem _ hm)]
      · rw [if_neg hm, if_neg (fun z => (List.mem_cons.mp z).elim (fun e => h e.symm) hm)]
theorem wipe_wipe (σ : L2.St) (vs : List Nat) : wipe (wipe σ vs) vs = wipe σ vs := by
  apply List.ext_getElem?
  intro i
  rw [wipe_get, wipe_get]
  by_cases h : i ∈ vs
  · rw [if_pos h, if_pos h]
    cases σ[i]? <;> rfl
  · rw [if_neg h, if_neg h]
/-! ### the generator's run -/
section
variable {X : Cx} {A : Around} {s0 : Shared} {H0 : Hp} {cenv : Env} {fp : List Addr} {pn : List (Addr × Obj)} {α : Type}
/-- handed out: the consumer's state a (Tie: the objects that bear it), the item y, what it may do with it -/
def YG (X' : Cx) (fp : List Addr) (Tie : α → List (Addr × Obj) → Prop) (C : α → V → Hp → (α → Hp → Prop) → Prop) : Protocol := fun _ s₀ v s kap =>
  ∃ a pins σ' H y Nx, Tie a pins ∧ (∀ p ∈ pins, s₀.heap.get? p.1 = some p.2) ∧ Inv X' pins σ' H s ∧ (∀ b ∈ fp, H b = none) ∧ RelV y v ∧ C a y H Nx ∧
    ∀ a' pins' s'', Tie a' pins' → Inv X' pins' σ' H s'' → (∀ b ∈ fp, ∀ o, s.heap.get? b = some o → s''.heap.get? b = some o) → Nx a' H → kap (.send .none) s''
def RG (X' : Cx) (Tie : α → List (Addr × Obj) → Prop) (fin : α → Hp → Prop) : GenEnd := fun _ s₀ r s => r = .ok .next ∧ ∃ a pins σ' H, Tie a pins ∧ (∀ p ∈ pins, s₀.heap.get? p.1 = some p.2) ∧ Inv X' pins σ' H s ∧ fin a H
/-- the turns: W by the turn, a measure, the consumer's state, the heap -/
def GTurns (J : It) (g : TG) (tt : TT) (te : TE) (σw : L2.St) (vs : List Nat) (C : α → V → Hp → (α → Hp → Prop) → Prop) (fin : α → Hp → Prop) (W : Nat → Nat → α → Hp → Prop) : Prop :=
  ∀ i m a H, W i m a H → (J.stop i H ∧ fin a H) ∨ (J.go i H ∧ ∃ Nx : α → Hp → Prop, (∀ a' H', Nx a' H' → ∃ m', m' < m ∧ W (i + 1) m' a' H') ∧
    ∀ x H', J.yld i H x H' → g x σw H' fun σ2 H2 => wipe σ2 vs = σw ∧ tt σ2 H2 fun b H3 => if b = true then te σ2 H3 fun y H4 => C a y H4 Nx else Nx a H3)
theorem wf {α : Type} {M : Model} {A : Around} {t : Sem α} {Q Q' : α → Shared → Prop} {E : Value → Shared → Prop} {s : Shared} (h : wpAny M A t Q (fun _ _ => False) s) (hq : ∀ a s', Q a s' → Q' a s') : wpAny M A t Q' E s :=
  wpAny_mono h hq fun _ _ z => z.elim
theorem seg_gloop {B : Around} {elt tg iter : Expr} {ifs : List Expr} {scope : Scope} {pos : Pos} {it : Addr} {tn : Nat → Heap → Prop} {J : It} {g : TG} {tt : TT} {te : TE} {σw : L2.St} {vs : List Nat}
    {Tie : α → List (Addr × Obj) → Prop} {C : α → V → Hp → (α → Hp → Prop) → Prop} {fin : α → Hp → Prop} {W : Nat → Nat → α → Hp → Prop}
    (hA : A = B.over (.compLoop (.GeneratorExp elt [⟨tg, iter, ifs, 0⟩] scope pos) 0 (.ref it) .none cenv) [])
    (hc : X.calm = true) (hco : cenv.scope.isCoroutine = false)
    (T : Turn X.prog X.w X.K tg J fp it tn) (pg : PG (gcx X A s0 H0 cenv fp pn) tg g) (pt : PTs (gcx X A s0 H0 cenv fp pn) ifs tt) (pe : PE (gcx X A s0 H0 cenv fp pn) elt te)
    (hwl : wipe σw vs = σw) (hpn : ∀ p ∈ pn, p.1 ∉ fp) (hT : ∀ a pins, Tie a pins → ∀ p ∈ pins, p.1 ∉ fp) (turn : GTurns J g tt te σw vs C fin W) :
    ∀ (m n i : Nat) (a : α) (pins : List (Addr × Obj)) (H : Hp) (s s₀ : Shared), m < n → W i m a H → Tie a pins → (∀ p ∈ pins, s₀.heap.get? p.1 = some p.2) → Inv (gcx X A s0 H0 cenv fp pn) pins σw H s → tn i s.heap → (∀ b ∈ fp, H b = none) →
      Seg (model X.prog X.w) B (RG (gcx X A s0 H0 cenv fp pn) Tie fin) (YG (gcx X A s0 H0 cenv fp pn) fp Tie C) n s₀ (.compLoop (.GeneratorExp elt [⟨tg, iter, ifs, 0⟩] scope pos) 0 (.ref it) .none cenv)
        ((model X.prog X.w).den (.compLoop (.GeneratorExp elt [⟨tg, iter, ifs, 0⟩] scope pos) 0 (.ref it) .none cenv)) [] s := by
  intro m
  induction m using Nat.strongRecOn with
  | ind m ih =>
  intro n i a pins H s s₀ hmn w hTie hs0 I st hn
  have stat : ∀ {a : α} {pins : List (Addr × Obj)} {σ' : L2.St} {H' : Hp} {s' : Shared}, Tie a pins → Inv (gcx X A s0 H0 cenv fp pn) pins σ' H' s' → (∀ b ∈ fp, H' b = none) → ∀ b ∈ fp, FpOk (gcx X A s0 H0 cenv fp pn) pins H' b := fun {a pins σ' H' s'} hTie I' hn b hb =>
    ⟨hn b hb, (I'.ok.exf b hb).1, I'.ok.exfs b hb, .inl hb, fun x c e => (I'.ok.exf b hb).2 x c e, fun p hp z => (List.mem_append.mp hp).elim (fun q => hpn p q (by rw [z]; exact hb)) fun q => hT a pins hTie p q (by rw [z]; exact hb)⟩
  have eA : (gcx X A s0 H0 cenv fp pn).A = B.over (.compLoop (.GeneratorExp elt [⟨tg, iter, ifs, 0⟩] scope pos) 0 (.ref it) .none cenv) [] := hA
  show Seg _ B _ _ n s₀ _ ((compTurn (.GeneratorExp elt [⟨tg, iter, ifs, 0⟩] scope pos) 0 (.ref it) .none cenv).onRaise (leaving cenv)) [] s
  rw [compTurn_gen, Sem.onRaise_eq_wrap]
  refine seg_bind_wrap (wpAny_standAt ?_)
  rcases turn i m a H w with ⟨stop, qf⟩ | ⟨go, Nx, hNx, step⟩
  · refine seg_bind_wrap ?_
    rw [← eA]
    refine wf (T.done (gcx X A s0 H0 cenv fp pn) rfl rfl rfl hc i pins s σw H (fun _ _ => False) I (stat hTie I hn) st stop) fun r s1 h1 => ?_
    obtain ⟨hr, I1⟩ := h1
    subst hr
    exact seg_end (.ok .next) ⟨rfl, a, pins, σw, H, hTie, hs0, I1, qf⟩
  · refine seg_bind_wrap ?_
    rw [← eA]
    refine wf (T.item (gcx X A s0 H0 cenv fp pn) rfl rfl rfl hc i pins s σw H (fun _ _ => False) I (stat hTie I hn) st go) fun r s1 h1 => ?_
    obtain ⟨u, hr, h1⟩ := h1
    subst hr
    refine seg_bind_wrap ?_
    rw [← eA]
    refine wf h1 fun _ s2 h2 => ?_
    obtain ⟨x, H2, I2, r2, y2, st2, n2⟩ := h2
    have I2' := I2.pinned (stat hTie I2 n2) (T.obj _ _ st2)
    refine seg_bind_wrap ?_
    rw [← eA]
    refine wf (pg.run _ s2 σw H2 x u _ I2' r2 (step x H2 y2)) fun _ s3 h3 => ?_
    obtain ⟨σ3, H3, I3, hw3, q3⟩ := h3
    refine seg_bind_wrap ?_
    rw [← eA]
    refine wf (pt.run _ s3 σ3 H3 _ I3 q3) fun b s4 h4 => ?_
    obtain ⟨H4, I4, q4⟩ := h4
    have pin' : ∀ {σ' : L2.St} {H' : Hp} {s' : Shared}, Inv (gcx X A s0 H0 cenv fp pn) (pins ++ pinsAt fp s2.heap) σ' H' s' → ∀ b ∈ fp, ∀ o, s2.heap.get? b = some o → s'.heap.get? b = some o ∧ H' b = none := fun {σ' H' s'} I' b hb o e =>
      let z := I'.pin (b, o) (List.mem_append_right _ (List.mem_append_right _ (mem_pinsAt hb e)))
      ⟨z.1, z.2.1⟩
    have keepT : ∀ {σ' : L2.St} {H' : Hp} {s' : Shared}, Inv (gcx X A s0 H0 cenv fp pn) (pins ++ pinsAt fp s2.heap) σ' H' s' → tn (i + 1) s'.heap ∧ ∀ b ∈ fp, H' b = none := fun {σ' H' s'} I' =>
      ⟨T.keep _ _ _ st2 fun b hb o e => (pin' I' b hb o e).1, fun b hb => by
        obtain ⟨o, e, _⟩ := T.obj _ _ st2 b hb
        exact (pin' I' b hb o e).2⟩
    have hl3 : σw.length = σ3.length := by rw [← hw3, wipe_length]
    have wk : ∀ {pins' : List (Addr × Obj)} {H' : Hp} {s' : Shared}, Inv (gcx X A s0 H0 cenv fp pn) pins' σ3 H' s' → Inv (gcx X A s0 H0 cenv fp pn) pins' σw H' s' := fun {pins' H' s'} I' =>
      I'.weak hl3 fun j v e => by
        rw [← hw3] at e
        exact (wipe_some e).1
    cases b with
    | false =>
      simp only [Bool.false_eq_true, if_false] at q4 ⊢
      obtain ⟨m', hm', w'⟩ := hNx a H4 q4
      have k4 := keepT I4
      exact seg_again rfl (ih m' hm' n (i + 1) a pins H4 s4 s₀ (by omega) w' hTie hs0 (wk I4.unpinned) k4.1 k4.2)
    | true =>
      simp only [if_true] at q4 ⊢
      obtain ⟨n', rfl⟩ : ∃ n', n = n' + 1 := ⟨n - 1, by omega⟩
      have hy : ∀ v, yieldOut cenv v = yieldValue v := fun v => by simp only [yieldOut, hco, Bool.false_eq_true, if_false]
      simp only [hy]
      rw [Sem.bind_eq_wrap', Sem.bind_eq_wrap', Sem.wrap_wrap, Sem.wrap_wrap]
      refine seg_wrap ?_
      rw [← eA]
      refine wf (pe.run _ s4 σ3 H4 _ I4 q4) fun v s5 h5 => ?_
      obtain ⟨y, H5, I5, r5, q5⟩ := h5
      have k5 := keepT I5
      refine seg_at (seg_yield rfl rfl rfl ?_)
      refine ⟨a, pins, σ3, H5, y, Nx, hTie, hs0, I5.unpinned, k5.2, r5, q5, fun a' pins' s'' hTie' I'' hk hNx' => ?_⟩
      obtain ⟨m', hm', w'⟩ := hNx a' H5 hNx'
      exact seg_again rfl (ih m' hm' n' (i + 1) a' pins' H5 s'' s'' (by omega) w' hTie' (fun p hp => (I''.pin p (List.mem_append_right _ hp)).1) (wk I'') (T.keep _ _ _ k5.1 hk) k5.2)
theorem seg_gstart {B : Around} {elt tg iter : Expr} {ifs : List Expr} {scope : Scope} {pos : Pos} {it : Addr} {tn : Nat → Heap → Prop} {J : It}
    {R : GenEnd} {Y : Protocol} (T : Turn X.prog X.w X.K tg J fp it tn) {n : Nat} {s s₀ : Shared} (st : tn 0 s.heap)
    (h : Seg (model X.prog X.w) B R Y n s₀ (.compLoop (.GeneratorExp elt [⟨tg, iter, ifs, 0⟩] scope pos) 0 (.ref it) .none cenv)
        ((model X.prog X.w).den (.compLoop (.GeneratorExp elt [⟨tg, iter, ifs, 0⟩] scope pos) 0 (.ref it) .none cenv)) [] s) :
    Seg (model X.prog X.w) B R Y n s₀ (.compStart (.GeneratorExp elt [⟨tg, iter, ifs, 0⟩] scope pos) 0 (.ref it) .none cenv)
        ((model X.prog X.w).den (.compStart (.GeneratorExp elt [⟨tg, iter, ifs, 0⟩] scope pos) 0 (.ref it) .none cenv)) [] s := by
  show Seg _ B _ _ _ s₀ _ ((compStart (.GeneratorExp elt [⟨tg, iter, ifs, 0⟩] scope pos) 0 (.ref it) .none cenv).onRaise (leaving cenv)) [] s
  unfold compStart
  rw [Sem.onRaise_eq_wrap]
  show Seg _ B _ _ _ s₀ _ ((ask >>= _).wrap _ _ _ _) [] s
  refine seg_bind_wrap (wpAny_askSetting ?_)
  split
  · exact seg_again rfl h
  · first
      | exact seg_bind_wrap (wpAny_rule (seg_bind_wrap (wpAny_standAt (seg_bind_wrap (T.self _ 0 s _ _ st (seg_again rfl h))))))
      | (refine seg_bind_wrap (wpAny_rule ?_); show Seg _ B _ _ _ s₀ _ ((standAt iter.pos >>= _).wrap _ _ _ _) [] s; exact seg_bind_wrap (wpAny_standAt (seg_bind_wrap (T.self _ 0 s _ _ st (seg_again rfl h)))))
/-- the generator sleeps: at most n - 1 items more -/
def Sleep (X' : Cx) (fp : List Addr) (Tie : α → List (Addr × Obj) → Prop) (C : α → V → Hp → (α → Hp → Prop) → Prop) (fin : α → Hp → Prop) (B : Around) (gi n : Nat) (s : Shared) : Prop :=
  ∃ gs, s.gens[gi]? = some gs ∧ gs.Goes (model X'.prog X'.w) B (RG X' Tie fin) (YG X' fp Tie C) n (.send .none) (s.setGen gi .running)
theorem inv_gens {X' : Cx} {pins : List (Addr × Obj)} {σ : L2.St} {H : Hp} {s : Shared} {gi : Nat} {x : GenState} (I : Inv X' pins σ H s) (hx : x.bare = true) : Inv X' pins σ H (s.setGen gi x) :=
  I.call' (ch := []) rfl Un.refl I.hok (allBare_setGen I.bare hx) fun b z => absurd z (by simp)
theorem gstep {X' : Cx} {Tie : α → List (Addr × Obj) → Prop} {C : α → V → Hp → (α → Hp → Prop) → Prop} {fin : α → Hp → Prop} {B : Around} {E : Value → Shared → Prop} {Q : Option Value → Shared → Prop}
    {a gi n : Nat} {go : Obj} {pins : List (Addr × Obj)} {σ : L2.St} {H : Hp} {s : Shared} (hB : B.handled = none) (hd : B.depth < recursionLimit)
    (hgo : ∀ h : Heap, h.get? a = some go → h.IsGen a gi) (hpn : (a, go) ∈ X'.pn) (I : Inv X' pins σ H s) (S : Sleep X' fp Tie C fin B.in1 gi n s)
    (hY : ∀ v s2 aS pins' σ' H' y Nx, Tie aS pins' → (∀ p ∈ pins', s.heap.get? p.1 = some p.2) → Inv X' pins' σ' H' s2 → RelV y v → C aS y H' Nx →
      (∀ a' pins'' h' t', Tie a' pins'' → Inv X' pins'' σ' H' { s2 with heap := h', toks := t' } → (∀ b ∈ fp, ∀ o, s2.heap.get? b = some o → h'.get? b = some o) → Nx a' H' → ∃ n', n' < n ∧ Sleep X' fp Tie C fin B.in1 gi n' { s2 with heap := h', toks := t' }) → Q (some v) s2)
    (hP : ∀ s2 aS pins' σ' H', Tie aS pins' → (∀ p ∈ pins', s.heap.get? p.1 = some p.2) → Inv X' pins' σ' H' s2 → fin aS H' → Q none s2) :
    wpAny (model X'.prog X'.w) B (pyNext (.ref a)) Q E s := by
  obtain ⟨gs, hgs, hg⟩ := S
  have gen : ∀ {pins : List (Addr × Obj)} {σ : L2.St} {H : Hp} {s : Shared}, Inv X' pins σ H s → s.heap.IsGen a gi := fun I' => hgo _ (I'.pin (a, go) (List.mem_append_left _ hpn)).1
  have hgl : gi < s.gens.size := (Array.getElem?_eq_some_iff.mp hgs).1
  refine wpAny_gsz (n := gi + 1) hgl (wpAny_pyNext_genexpQ (P := fun _ s₀ s => ∃ a pins σ' H, Tie a pins ∧ (∀ p ∈ pins, s₀.heap.get? p.1 = some p.2) ∧ Inv X' pins σ' H s ∧ fin a H) hB I.nolimit hd (gen I) hgs hg (fun v s₁ gs' hb hv hsz => ?_) fun s₁ hp h' hk hsz => ?_)
  · obtain ⟨aS, pins', σ', H', y, Nx, hTie, hs0, I1, hn1, r1, hC, hkap⟩ := hv
    have hsz1 : gi < s₁.gens.size := by
      have q : (s₁.setGen gi gs').gens.size = s₁.gens.size := setGen_size _ _ _
      have hsz' : gi + 1 ≤ (s₁.setGen gi gs').gens.size := hsz
      omega
    refine hY v _ aS pins' σ' H' y Nx hTie hs0 (inv_gens I1 hb) r1 hC fun a' pins'' h' t' hTie' I2 hk hNx => ?_
    have q := hkap a' pins'' (({ s₁.setGen gi gs' with heap := h', toks := t' } : Shared).setGen gi .running) hTie' (inv_gens I2 rfl) (show ∀ b ∈ fp, ∀ o, s₁.heap.get? b = some o → h'.get? b = some o from hk) hNx
    cases n with
    | zero => exact q.elim
    | succ n' => exact ⟨n', Nat.lt_succ_self _, gs', setGen_at (s := s₁) hsz1, q⟩
  · obtain ⟨aS, pins', σ', H', hTie, hs0, I1, hf⟩ := hp
    have I2 : Inv X' pins' σ' H' { s₁.setGen gi .finished with heap := h' } := (inv_gens (x := .finished) (gi := gi) I1 rfl).kept (t' := s₁.toks) hk
    exact hP _ aS pins' σ' H' hTie hs0 I2 hf
end
theorem over_gen {A : Around} {elt tg iter : Expr} {ifs : List Expr} {scope : Scope} {pos : Pos} {it acc : Value} {env : Env} :
    A.over (.compLoop (.GeneratorExp elt [⟨tg, iter, ifs, 0⟩] scope pos) 0 it acc env) [] = A.deeper env := by
  first
    | rfl
    | (obtain ⟨hd, d, fr, gs, u⟩ := A; simp [Around.over, Around.deeper, marksOver, frameCount, unitsOf, envsOf, guardsOf, pushEnvs, pushGuards, Code.envs, Code.env?, Code.isFrame, Code.guards, Code.isGuard, Code.weight, Code.frames, Code.isCreation, Code.isCaller, Code.cUnits])
/-- a generator that has not begun, as its consumer sees it -/
def GReady (X : Cx) (pins : List (Addr × Obj)) (σ : L2.St) (k : Nat) (J : It) (g : TG) (tt : TT) (te : TE) (vs : List Nat) (H2 : Hp) (a : Addr) (s5 : Shared) : Prop :=
  ∀ (α : Type) (Tie : α → List (Addr × Obj) → Prop) (C : α → V → Hp → (α → Hp → Prop) → Prop) (fin : α → Hp → Prop) (W : Nat → Nat → α → Hp → Prop) (m0 : Nat) (a0 : α) (B : Around),
    GTurns J g tt te (wipe σ vs) vs C fin W → W 0 m0 a0 H2 → B.frames = some X.stack → Room (k + 1) B → (∀ aS ps, Tie aS ps → ∀ p ∈ ps, s5.heap.objs.size ≤ p.1) →
    ∃ (X' : Cx) (fp : List Addr) (gi : Nat) (go : Obj), X'.prog = X.prog ∧ X'.w = X.w ∧ (a, go) ∈ X'.pn ∧ (∀ h : Heap, h.get? a = some go → h.IsGen a gi) ∧
      (∀ pins0 h6 t6, Tie a0 pins0 → (∀ b o, s5.heap.get? b = some o → h6.get? b = some o) → (∀ p ∈ pins0, h6.get? p.1 = some p.2 ∧ ∀ v, p.2.data ≠ .cell v) →
        Inv X' pins0 (wipe σ vs) H2 { s5 with heap := h6, toks := t6 } ∧ Sleep X' fp Tie C fin B gi (m0 + 1) { s5 with heap := h6, toks := t6 }) ∧
      (∀ pins' σ' H' s', Inv X' pins' σ' H' s' → Inv X pins σ H' s') ∧
      (∀ S, s5.heap.objs.size ≤ S → Apart X' S ∧ S ∉ fp ∧ (∀ p ∈ X'.pn, p.1 ≠ S)) ∧ a < s5.heap.objs.size
section
variable {X : Cx} {pins : List (Addr × Obj)} {σ : L2.St} {H : Hp} {s : Shared}
theorem gready {elt tg iter : Expr} {ifs : List Expr} {scope : Scope} {own : List (Str × Nat)} {pos : Pos} {it : Addr} {fp : List Addr} {tn : Nat → Heap → Prop} {J : It} {g : TG} {tt : TT} {te : TE} {k : Nat} {code : Value} {h' : Heap} {go : Obj} {gi t5 : Nat}
    (I : Inv X pins σ H s) (hN : X.N.Nodup) (hc : X.calm = true) (ok : BlkOk X.N X.env.scope scope own) (gk : GOk scope)
    (T : Turn X.prog X.w X.K tg J fp it tn) (st : tn 0 s.heap) (hf : ∀ b ∈ fp, FpOk X pins H b)
    (hg : ∀ (A : Around) (s : Shared) (H : Hp) (C : Addr) (code : Value) (fp : List Addr) (pn : List (Addr × Obj)), Room k A → PG (gcx X A s H (genv X scope C code) fp pn) tg g)
    (ht : ∀ (A : Around) (s : Shared) (H : Hp) (C : Addr) (code : Value) (fp : List Addr) (pn : List (Addr × Obj)), Room k A → PTs (gcx X A s H (genv X scope C code) fp pn) ifs tt)
    (he : ∀ (A : Around) (s : Shared) (H : Hp) (C : Addr) (code : Value) (fp : List Addr) (pn : List (Addr × Obj)), Room k A → PE (gcx X A s H (genv X scope C code) fp pn) elt te)
    (hn : h'.Ns s.heap.objs.size (fun y => if y = ".0" then some (.ref it) else none)) (kp : ∀ b o, s.heap.get? b = some o → h'.get? b = some o) (hsz : s.heap.objs.size < h'.objs.size)
    (hgo : ∀ h : Heap, h.get? h'.objs.size = some go → h.IsGen h'.objs.size gi) (hgd : ∀ v, go.data ≠ .cell v) (hgp : (h'.push go).get? h'.objs.size = some go) (hgi : gi = s.gens.size) :
    GReady X pins σ k J g tt te (own.map (·.2)) H h'.objs.size { s with gens := s.gens.push (.fresh (.compStart (.GeneratorExp elt [⟨tg, iter, ifs, 0⟩] scope pos) 0 (.ref it) .none (genv X scope s.heap.objs.size code))), toks := t5, heap := h'.push go } := by
  intro α Tie C fin W m0 a0 B turn w0 hBf hBr hTie
  have sz5 : (h'.push go).objs.size = h'.objs.size + 1 := Heap.size_push ..
  have low5 : s.heap.objs.size ≤ (h'.push go).objs.size := by rw [sz5]; exact Nat.le_trans (Nat.le_of_lt hsz) (Nat.le_succ _)
  have fsz : ∀ b ∈ fp, b < s.heap.objs.size := fun b hb => by
    obtain ⟨o, e, _⟩ := T.obj _ _ st b hb
    exact Heap.lt_size e
  have kp5 : ∀ b o, s.heap.get? b = some o → (h'.push go).get? b = some o := fun b o e => Heap.get?_push_of_some _ (kp b o e)
  have bare5 : AllBare (s.gens.push (.fresh (.compStart (.GeneratorExp elt [⟨tg, iter, ifs, 0⟩] scope pos) 0 (.ref it) .none (genv X scope s.heap.objs.size code)))) := AllBare.push I.bare rfl
  have hAf : (B.deeper (genv X scope s.heap.objs.size code)).frames = some (genv X scope s.heap.objs.size code :: X.stack) := Around.frames_deeper hBf
  have hr' : Room k (B.deeper (genv X scope s.heap.objs.size code)) := hBr.deeper _
  have inv6 : ∀ pins0 h6 t6, (∀ p ∈ pins0, h6.get? p.1 = some p.2 ∧ (∀ v, p.2.data ≠ .cell v) ∧ (h'.push go).objs.size ≤ p.1) → (∀ b o, (h'.push go).get? b = some o → h6.get? b = some o) →
      Inv (gcx X (B.deeper (genv X scope s.heap.objs.size code)) s H (genv X scope s.heap.objs.size code) fp [(h'.objs.size, go)]) pins0 (wipe σ (own.map (·.2))) H
        { s with gens := s.gens.push (.fresh (.compStart (.GeneratorExp elt [⟨tg, iter, ifs, 0⟩] scope pos) 0 (.ref it) .none (genv X scope s.heap.objs.size code))), toks := t6, heap := h6 } := by
    intro pins0 h6 t6 hp h6k
    have J0 := gen_inv (A := B.deeper (genv X scope s.heap.objs.size code)) (code := code) (pn := [(h'.objs.size, go)]) (h5 := h6) (t5 := t6) (m := fun y => if y = ".0" then some (.ref it) else none) I ok gk hN (fun b hb => ⟨hf b hb, fsz b hb⟩) hAf hr'.hd
      (fun b o e => h6k b o (kp5 b o e)) ((hn.push _).keeps h6k) bare5 (fun p hp => by
        rw [List.mem_singleton.mp hp]
        exact ⟨h6k _ _ hgp, hsz, hgd⟩)
    refine J0.pins_of fun p hp2 => ?_
    obtain ⟨e1, e2, e3⟩ := hp p hp2
    have hlt : s.heap.objs.size < p.1 := by omega
    refine ⟨e1, I.hok.fresh (Nat.le_of_lt hlt), Nat.ne_of_gt hlt, fun z => ?_, e2⟩
    rcases List.mem_cons.mp (I.stkSub p.1 z) with z | z
    · have := I.lt
      rw [z] at hlt
      exact absurd (Nat.lt_trans this hlt) (Nat.lt_irrefl _)
    · exact I.nofs (Nat.le_of_lt hlt) z
  refine ⟨gcx X (B.deeper (genv X scope s.heap.objs.size code)) s H (genv X scope s.heap.objs.size code) fp [(h'.objs.size, go)], fp, gi, go, rfl, rfl, List.mem_singleton.mpr rfl, hgo, ?_, ?_, ?_, ?_⟩
  · intro pins0 h6 t6 hT0 h6k hp0
    have hp0' : ∀ p ∈ pins0, h6.get? p.1 = some p.2 ∧ (∀ v, p.2.data ≠ .cell v) ∧ (h'.push go).objs.size ≤ p.1 := fun p hp => ⟨(hp0 p hp).1, (hp0 p hp).2, hTie a0 pins0 hT0 p hp⟩
    have J1 := inv6 pins0 h6 t6 hp0' h6k
    refine ⟨J1, .fresh (.compStart (.GeneratorExp elt [⟨tg, iter, ifs, 0⟩] scope pos) 0 (.ref it) .none (genv X scope s.heap.objs.size code)), by rw [hgi]; exact Array.getElem?_push_size .., rfl, ?_⟩
    have st6 : tn 0 h6 := T.keep _ _ _ st fun b _ o e => h6k b o (kp5 b o e)
    refine seg_gstart (X := X) T st6 ?_
    refine seg_gloop (X := X) (A := B.deeper (genv X scope s.heap.objs.size code)) (s0 := s) (H0 := H) (cenv := genv X scope s.heap.objs.size code) (fp := fp) (pn := [(h'.objs.size, go)]) (σw := wipe σ (own.map (·.2))) (vs := own.map (·.2)) (by rw [over_gen]) hc gk.co T
      (hg _ s H _ code fp _ hr') (ht _ s H _ code fp _ hr') (he _ s H _ code fp _ hr') (wipe_wipe σ _) (fun p hp z => ?_) (fun aS ps hTT p hp z => ?_) turn m0 (m0 + 1) 0 a0 pins0 H _ _ (Nat.lt_succ_self _) w0 hT0 (fun p hp => (hp0 p hp).1) (inv_gens J1 rfl) st6 (fun b hb => (hf b hb).1)
    · rw [List.mem_singleton.mp hp] at z
      have := fsz _ z
      have h9 : s.heap.objs.size < h'.objs.size := hsz
      exact absurd (Nat.lt_trans this h9) (Nat.lt_irrefl _)
    · have h1 := fsz _ z
      have h2 : (h'.push go).objs.size ≤ p.1 := hTie aS ps hTT p hp
      exact absurd (Nat.lt_of_lt_of_le h1 (Nat.le_trans low5 h2)) (Nat.lt_irrefl _)
  · intro pins' σ' H' s' J
    exact I.call' (ch := fp) J.os J.base J.hok J.bare fun b hb => ⟨(hf b hb).2.2.2.1, (hf b hb).2.1, (hf b hb).2.2.2.2.1, (hf b hb).2.2.2.2.2⟩
  · intro S hS
    have hS : (h'.push go).objs.size ≤ S := hS
    have hS2 : h'.objs.size < S := by rw [sz5] at hS; exact hS
    refine ⟨⟨Nat.le_trans low5 hS, Nat.ne_of_gt (Nat.lt_trans hsz hS2), fun y c e z => ?_⟩, fun z => absurd (Nat.lt_of_lt_of_le (fsz S z) (Nat.le_trans low5 hS)) (Nat.lt_irrefl _), fun p hp => by rw [List.mem_singleton.mp hp]; exact Nat.ne_of_lt hS2⟩
    have e : (cloFrom X.env.cells scope.names []).lookup y = some c := e
    rcases cloFrom_mem (PySem.mem_of_lookup e) with hm | ⟨h1, h2⟩
    · cases hm
    · have hfree : ∃ c, X.env.cells.lookup y = some c := by
        rcases ok.free _ h1 rfl with k | k
        · exact I.ok.has _ (.inl k)
        · exact I.ok.has _ (.inr k)
      obtain ⟨c1, hc1⟩ := hfree
      obtain ⟨w', q⟩ := I.cell y c1 hc1
      have : c = c1 := by rw [h2, hc1] <;> rfl
      have h7 := q.lt
      rw [← this, z] at h7
      exact absurd (Nat.lt_of_lt_of_le h7 (Nat.le_trans low5 hS)) (Nat.lt_irrefl _)
  · show h'.objs.size < (h'.push go).objs.size
    rw [sz5]
    exact Nat.lt_succ_self _
/-- the expression: its iterable, the table grown, a generator ready -/
theorem gen_eval {elt tg iter : Expr} {ifs : List Expr} {scope : Scope} {own : List (Str × Nat)} {gpos : Pos} {wi : TI} {g : TG} {tt : TT} {te : TE} {k : Nat} {c P : Addr} {Q' : Value → Shared → Prop} {R : It → Hp → Prop}
    (hr : Room (k + 2) X.A) (TB : GxR.TabB X.base X.mg c P) (hcode : X.env.code = .ref c) (hN : X.N.Nodup) (hc : X.calm = true) (hi : PI X tg iter wi) (ok : BlkOk X.N X.env.scope scope own) (gk : GOk scope)
    (hg : ∀ (A : Around) (s : Shared) (H : Hp) (C : Addr) (code : Value) (fp : List Addr) (pn : List (Addr × Obj)), Room k A → PG (gcx X A s H (genv X scope C code) fp pn) tg g)
    (ht : ∀ (A : Around) (s : Shared) (H : Hp) (C : Addr) (code : Value) (fp : List Addr) (pn : List (Addr × Obj)), Room k A → PTs (gcx X A s H (genv X scope C code) fp pn) ifs tt)
    (he : ∀ (A : Around) (s : Shared) (H : Hp) (C : Addr) (code : Value) (fp : List Addr) (pn : List (Addr × Obj)), Room k A → PE (gcx X A s H (genv X scope C code) fp pn) elt te)
    (hs : ∀ v, genFold iter X.env v = pure v) (I : Inv X pins σ H s) (h : wi σ H fun J H1 => GxR.TabG H1 P ∧ ∀ H2, GxR.Tabbed P H1 H2 → R J H2)
    (hQ : ∀ J H2 a s5, R J H2 → a < s5.heap.objs.size → s5.heap.NoLimit → (∃ gi, s5.heap.IsGen a gi) → GReady X pins σ k J g tt te (own.map (·.2)) H2 a s5 → Q' (.ref a) s5) :
    wpAny (model X.prog X.w) X.A (eval (.GeneratorExp elt [⟨tg, iter, ifs, 0⟩] scope gpos) X.env) Q' X.xe s := by
  have hfree : ∀ y ∈ scope.names, y.2 = .free → ∃ c, X.env.cells.lookup y.1 = some c := fun y hy e => by
    rcases ok.free y hy e with k | k
    · exact I.ok.has _ (.inl k)
    · exact I.ok.has _ (.inr k)
  refine wpAny_GeneratorExp_make gk.co (closure_ok hfree) gk.cell gk.dot ok.kind (by have := hr.dp; omega) ?_ hs
  refine thn (hi.run pins s σ H _ I h) fun xv s1 h1 => thn h1 fun itv s2 h2 => ?_
  obtain ⟨it, fp, tn, J, H2, e, I2, T, st2, f2, ⟨ps, hP, htr⟩, q⟩ := h2
  subst e
  refine ⟨I2.nolimit, ?_⟩
  have hPs : s2.heap.get? P = some { cls := .none, data := .fields ps } := I2.hok P _ hP
  have cd : PySem.W.CodeHd s2.heap c P := TB.code.keeps fun b u e => I2.bk b u e
  have nfP : ∀ b ∈ fp, b ≠ P := fun b hb z => by
    have := (f2 b hb).1
    rw [z, hP] at this
    cases this
  have cont : ∀ (code : Value) (h3 : Heap) (tk : Nat) (more : Array Value), Heap.ExtBut P s2.heap h3 → s2.heap.objs.size ≤ h3.objs.size → h3.get? P = some { cls := .none, data := .fields (ps ++ more) } → TriplesOk (ps ++ more).toList →
      wpAny (model X.prog X.w) X.A (builtinsFor X.env.globals X.env.builtins) (fun bi s₄ =>
        ∀ h', h'.Ns s₄.heap.objs.size (fun y => if y = ".0" then some (.ref it) else none) → Heap.SameBut s₄.heap.objs.size (s₄.heap.push { cls := .type "frame", data := .dict #[] }) h' →
          Q' (.ref h'.objs.size) { s₄ with
            gens := s₄.gens.push (.fresh (.compStart (.GeneratorExp elt [⟨tg, iter, ifs, 0⟩] scope gpos) 0 (.ref it) .none (genEnv scope (cloFrom X.env.cells scope.names []) s₄.heap.objs.size code bi X.env))),
            toks := s₄.toks + 1 + 1 + 1,
            heap := h'.push { cls := .type "generator", data := .fields #[.int s₄.gens.size 0, .str "<genexpr>" (s₄.toks + 1), .str (X.env.qual ++ "<genexpr>") (s₄.toks + 1 + 1)] } }) X.xe { s2 with heap := h3, toks := tk } := by
    intro code h3 tk more hx hsz hP3 ht3
    have I3 : Inv X pins σ (upd H2 P (.tbl (ps ++ more))) { s2 with heap := h3, toks := tk } :=
      GxR.inv_tab (g' := s2.gens) (d' := s2.drawn) I2 hP hx hP3 I2.bare
    obtain ⟨bm, ob, e1, e2, e3, e4, e5, e6, e7, e8⟩ := TB.bm
    refine wpAny_builtinsFor (m := X.mg) (by rw [I3.ok.glob]; exact I3.mod.glob.keeps I3.bk) e1 e2 (I3.bk _ _ e5) e6 e7 e8 ?_
    intro h' hn' hs'
    have hsz4 : h'.objs.size = h3.objs.size + 1 := by
      have := hs'.1
      rw [Heap.size_push] at this
      exact this
    have kp' : ∀ b o, h3.get? b = some o → h'.get? b = some o := fun b o e => hs'.extBut b o (Nat.ne_of_lt (Heap.lt_size e)) (Heap.get?_push_of_some _ e)
    have qR := q (upd H2 P (.tbl (ps ++ more))) ⟨⟨ps ++ more, upd_same, ht3⟩, fun b hb => upd_ne hb⟩
    have f3 : ∀ b ∈ fp, FpOk X pins (upd H2 P (.tbl (ps ++ more))) b := fun b hb => ⟨by rw [upd_ne (nfP b hb)]; exact (f2 b hb).1, (f2 b hb).2⟩
    have st3 : tn 0 h3 := T.keep _ _ _ st2 fun b hb o e => hx b o (nfP b hb) e
    have hgen : ∀ h : Heap, h.get? h'.objs.size = some { cls := .type "generator", data := .fields #[.int s2.gens.size 0, .str "<genexpr>" (tk + 1), .str (X.env.qual ++ "<genexpr>") (tk + 1 + 1)] } → h.IsGen h'.objs.size s2.gens.size := fun h e => ⟨_, _, _, e, rfl, rfl, rfl⟩
    refine hQ J _ _ _ qR (by show h'.objs.size < (h'.push _).objs.size; rw [Heap.size_push]; exact Nat.lt_succ_self _) (I3.nolimit.keeps fun b o e => Heap.get?_push_of_some _ (kp' b o e)) ⟨_, hgen _ (Heap.get?_push_size _ rfl)⟩ ?_
    exact gready (s := { s2 with heap := h3, toks := tk }) (gi := s2.gens.size) (own := own) I3 hN hc ok gk T st3 f3 hg ht he hn' kp' (by rw [hsz4]; exact Nat.lt_succ_self _) hgen (fun v z => by cases z) (Heap.get?_push_size _ rfl) rfl
  cases hf : codeAmong gpos ps.toList with
  | none =>
    refine wpAny_genexprCodeX hcode (cd.code hPs htr) (cd.tab hPs) hf fun c' h' tk hx hge hlt hco' _ htab' _ => ?_
    obtain ⟨o1, vs, f1, tf, fl, tg, inF, tx, tt, op, _, _, _, _, _, _, _, _, _, htr', _⟩ := hco'
    exact cont _ h' tk _ hx (Nat.le_trans hge (Nat.le_of_lt hlt)) htab'.2 htr'
  | some cv =>
    refine wpAny_genexprCode_hit hcode (cd.code hPs htr) hf ?_
    exact cont cv s2.heap s2.toks #[] (Heap.ExtBut.refl _ _) (Nat.le_refl _) (by rw [Array.append_empty]; exact hPs) (by rw [Array.append_empty]; exact htr)
end
end GX
set_option maxRecDepth 100000
set_option maxHeartbeats 2000000
/-! GenY: what walks a generator expression: all, any, sum, tuple. -/
namespace GX
open PySem PySem.Spec PyProof.Rows L2 GenW
/-- the reading: a walk with a consumer's state -/
def tGx (P : Addr) (wi : TI) (g : TG) (tt : TT) (te : TE) (vs : List Nat) {α : Type} (a0 : α) (C : α → V → Hp → (α → Hp → Prop) → Prop) (fin : α → Hp → Prop) : L2.St → Hp → Prop := fun σ H =>
  wi σ H fun J H1 => GxR.TabG H1 P ∧ ∀ H2, GxR.Tabbed P H1 H2 → ∃ W : Nat → Nat → α → Hp → Prop, (∃ m, W 0 m a0 H2) ∧ GTurns J g tt te (wipe σ vs) vs C fin W
/-- what a generator expression's rule wants of its parts -/
structure GParts (X : Cx) (k : Nat) (elt tg iter : Expr) (ifs : List Expr) (scope : Scope) (own : List (Str × Nat)) (c P : Addr) (wi : TI) (g : TG) (tt : TT) (te : TE) : Prop where
  hr : Room (k + 2) X.A
  TB : GxR.TabB X.base X.mg c P
  hcode : X.env.code = .ref c
  hN : X.N.Nodup
  hc : X.calm = true
  hi : PI X tg iter wi
  ok : BlkOk X.N X.env.scope scope own
  gk : GOk scope
  hg : ∀ (A : Around) (s : Shared) (H : Hp) (C : Addr) (code : Value) (fp : List Addr) (pn : List (Addr × Obj)), Room k A → PG (gcx X A s H (genv X scope C code) fp pn) tg g
  ht : ∀ (A : Around) (s : Shared) (H : Hp) (C : Addr) (code : Value) (fp : List Addr) (pn : List (Addr × Obj)), Room k A → PTs (gcx X A s H (genv X scope C code) fp pn) ifs tt
  he : ∀ (A : Around) (s : Shared) (H : Hp) (C : Addr) (code : Value) (fp : List Addr) (pn : List (Addr × Obj)), Room k A → PE (gcx X A s H (genv X scope C code) fp pn) elt te
  hs : ∀ v, genFold iter X.env v = pure v
section
variable {X' : Cx} {fp : List Addr} {a gi : Nat} {go : Obj} {A : Around} {R : Result → Shared → Prop}
theorem all_loop {C : Unit → V → Hp → (Unit → Hp → Prop) → Prop} {fin : Unit → Hp → Prop} (hB : A.handled = none) (hd : A.depth < recursionLimit) (hgo : ∀ h : Heap, h.get? a = some go → h.IsGen a gi) (hpn : (a, go) ∈ X'.pn)
    (hC : ∀ y H Nx, C () y H Nx → ∃ k, y = .bl k ∧ (k = false → ∀ pins σ s, Inv X' pins σ H s → R (.ok (.ret (.bool false))) s) ∧ (k = true → Nx () H)) (hF : ∀ pins σ H s, Inv X' pins σ H s → fin () H → R (.ok (.ret (.bool true))) s) :
    ∀ (n : Nat) (pins : List (Addr × Obj)) (σ : L2.St) (H : Hp) (s : Shared), pins = [] → Inv X' pins σ H s → Sleep X' fp (fun _ ps => ps = []) C fin A.in1.in1 gi n s → codeAny (model X'.prog X'.w) A (.builtin "all.loop" ⟨[.ref a], []⟩) R s := by
  intro n
  induction n using Nat.strongRecOn with
  | ind n ih =>
  intro pins σ H s hp I S
  refine codeAny_builtin F.entry_all_loop ?_
  rw [Around.under_plainId F.plain_all_loop _]
  show wpAny _ A.in1 (pyNext (.ref a) >>= _) _ _ s
  refine wpAny_bind (gstep (B := A.in1) hB hd hgo hpn I S (fun v s2 aS pins' σ' H' y Nx hT _ I2 r2 hCy nxt => ?_) fun s2 aS pins' σ' H' hT _ I2 hf => ?_)
  · obtain ⟨k, rfl, hk0, hk1⟩ := hC y H' Nx hCy
    cases r2
    refine wpAny_bind (wpAny_holding (wpAny_truthy_bool ?_))
    refine wpAny_bind (wpAny_letGo ?_)
    cases k with
    | true =>
      simp only [if_true]
      obtain ⟨n', hn', S'⟩ := nxt () pins' s2.heap s2.toks hT I2 (fun _ _ _ e => e) (hk1 rfl)
      exact wpAny_pure ⟨plainId_quiet F.plain_all_loop _, ih n' hn' pins' σ' H' s2 hT I2 S'⟩
    | false =>
      simp only [Bool.false_eq_true, if_false]
      exact wpAny_bind (wpAny_rule (wpAny_pure (hk0 rfl _ _ _ I2)))
  · exact wpAny_bind (wpAny_rule (wpAny_pure (hF _ _ _ _ I2 hf)))
theorem any_loop {C : Unit → V → Hp → (Unit → Hp → Prop) → Prop} {fin : Unit → Hp → Prop} (hB : A.handled = none) (hd : A.depth < recursionLimit) (hgo : ∀ h : Heap, h.get? a = some go → h.IsGen a gi) (hpn : (a, go) ∈ X'.pn)
    (hC : ∀ y H Nx, C () y H Nx → ∃ k, y = .bl k ∧ (k = true → ∀ pins σ s, Inv X' pins σ H s → R (.ok (.ret (.bool true))) s) ∧ (k = false → Nx () H)) (hF : ∀ pins σ H s, Inv X' pins σ H s → fin () H → R (.ok (.ret (.bool false))) s) :
    ∀ (n : Nat) (pins : List (Addr × Obj)) (σ : L2.St) (H : Hp) (s : Shared), pins = [] → Inv X' pins σ H s → Sleep X' fp (fun _ ps => ps = []) C fin A.in1.in1 gi n s → codeAny (model X'.prog X'.w) A (.builtin "any.loop" ⟨[.ref a], []⟩) R s := by
  intro n
  induction n using Nat.strongRecOn with
  | ind n ih =>
  intro pins σ H s hp I S
  refine codeAny_builtin F.entry_any_loop ?_
  rw [Around.under_plainId F.plain_any_loop _]
  show wpAny _ A.in1 (pyNext (.ref a) >>= _) _ _ s
  refine wpAny_bind (gstep (B := A.in1) hB hd hgo hpn I S (fun v s2 aS pins' σ' H' y Nx hT _ I2 r2 hCy nxt => ?_) fun s2 aS pins' σ' H' hT _ I2 hf => ?_)
  · obtain ⟨k, rfl, hk0, hk1⟩ := hC y H' Nx hCy
    cases r2
    refine wpAny_bind (wpAny_holding (wpAny_truthy_bool ?_))
    refine wpAny_bind (wpAny_letGo ?_)
    cases k with
    | false =>
      simp only [Bool.false_eq_true, if_false]
      obtain ⟨n', hn', S'⟩ := nxt () pins' s2.heap s2.toks hT I2 (fun _ _ _ e => e) (hk1 rfl)
      exact wpAny_pure ⟨plainId_quiet F.plain_any_loop _, ih n' hn' pins' σ' H' s2 hT I2 S'⟩
    | true =>
      simp only [if_true]
      exact wpAny_bind (wpAny_rule (wpAny_pure (hk0 rfl _ _ _ I2)))
  · exact wpAny_bind (wpAny_rule (wpAny_pure (hF _ _ _ _ I2 hf)))
end
section
variable {X : Cx} {k : Nat} {elt tg iter : Expr} {ifs : List Expr} {scope : Scope} {own : List (Str × Nat)} {c P : Addr} {wi : TI} {g : TG} {tt : TT} {te : TE} {p pos gpos : Pos}
def tAll (P : Addr) (wi : TI) (g : TG) (tt : TT) (te : TE) (vs : List Nat) : TE := fun σ H Q =>
  tGx P wi g tt te vs () (fun _ y H Nx => ∃ k, y = .bl k ∧ (k = false → Q (.bl false) H) ∧ (k = true → Nx () H)) (fun _ H => Q (.bl true) H) σ H
def tAny (P : Addr) (wi : TI) (g : TG) (tt : TT) (te : TE) (vs : List Nat) : TE := fun σ H Q =>
  tGx P wi g tt te vs () (fun _ y H Nx => ∃ k, y = .bl k ∧ (k = true → Q (.bl true) H) ∧ (k = false → Nx () H)) (fun _ H => Q (.bl false) H) σ H
theorem Room.in1' {k : Nat} {A : Around} (r : Room (k + 2) A) : Room (k + 1) A.in1.in1 :=
  ⟨r.hd, by have := r.dp; show A.depth + 3 * (k + 1) + 5 < _; omega, by have := r.un; show A.units + 1 + 1 + 16 * (k + 1) + 200 < _; omega⟩
theorem pe_all (G : GParts X k elt tg iter ifs scope own c P wi g tt te) (hg : Gl X "all") (hm : X.mg "all" = none) (hb : bootBuiltins "all" = some (.builtin "all") := by decide +kernel) :
    PE X (.Call (.Name "all" p) [.GeneratorExp elt [⟨tg, iter, ifs, 0⟩] scope gpos] [] pos) (tAll P wi g tt te (own.map (·.2))) := by
  have he : starEach [.GeneratorExp elt [⟨tg, iter, ifs, 0⟩] scope gpos] X.env = (false, eval (.GeneratorExp elt [⟨tg, iter, ifs, 0⟩] scope gpos) X.env) :: starEach [] X.env := by rfl
  refine ⟨fun pins s σ H Q I h => ?_⟩
  refine wpAny_Call_Name_kw (ld_blt I hg hm hb ?_)
  refine PyProof.Rows.callWith_builtin1 ?_ he (by rfl)
  rw [he]
  show wpAny _ _ (spliced ((false, eval (.GeneratorExp elt [⟨tg, iter, ifs, 0⟩] scope gpos) X.env) :: backTo pos (starEach [] X.env))) _ _ s
  refine Calls.spliced_cons (gen_eval G.hr G.TB G.hcode G.hN G.hc G.hi G.ok G.gk G.hg G.ht G.he G.hs I h fun J H2 a s5 hR ha hl hig hG => ?_)
  refine Calls.spliced_nil ?_
  obtain ⟨W, ⟨m0, w0⟩, turn⟩ := hR
  obtain ⟨X', fp, gi, go, e1, e2, hpn, hgo, hst, hback, _, _⟩ := hG Unit (fun _ ps => ps = []) _ _ W m0 () X.A.in1.in1 turn w0 I.ok.frames (Room.in1' G.hr) (fun _ ps e p hp => by rw [e] at hp; cases hp)
  obtain ⟨I5, S5⟩ := hst [] s5.heap s5.toks rfl (fun _ _ e => e) (fun p hp => by cases hp)
  have hdep : X.A.depth < recursionLimit := by have := G.hr.dp; omega
  refine call_function_tree F.kind_all F.plain_all F.entry_all (F.args_all1 _) ?_
  unfold Builtin.«all»
  refine wpAny_bind (m := oneArg "all" _) (wpAny_pure ?_)
  obtain ⟨gi', hig⟩ := hig
  refine wpAny_bind (wpAny_pyIter_gen hig ?_)
  refine wpAny_pure ⟨plainId_quiet F.plain_all_loop _, ?_⟩
  have L := all_loop (X' := X') (R := fun r s' => match r with
      | .ok (.ret v) => EP X pins σ Q v s'
      | _ => False) (C := fun _ y H Nx => ∃ k, y = .bl k ∧ (k = false → Q (.bl false) H) ∧ (k = true → Nx () H)) (fin := fun _ H => Q (.bl true) H) (A := X.A) (fp := fp) (go := go) (gi := gi) G.hr.hd hdep hgo hpn
    (fun y H Nx ⟨k, e, q0, q1⟩ => ⟨k, e, fun z pins' σ' s' J => ⟨.bl false, H, hback _ _ _ _ J, rfl, q0 z⟩, q1⟩) (fun pins' σ' H' s' J hf => ⟨.bl true, H', hback _ _ _ _ J, rfl, hf⟩) _ [] _ _ s5 rfl I5 S5
  rw [e1, e2] at L
  exact codeAny_mono L fun r s' z => by
    rcases r with e | (v | _ | _ | _) <;> first | exact z | exact z.elim
theorem pe_any (G : GParts X k elt tg iter ifs scope own c P wi g tt te) (hg : Gl X "any") (hm : X.mg "any" = none) :
    PE X (.Call (.Name "any" p) [.GeneratorExp elt [⟨tg, iter, ifs, 0⟩] scope gpos] [] pos) (tAny P wi g tt te (own.map (·.2))) := by
  have he : starEach [.GeneratorExp elt [⟨tg, iter, ifs, 0⟩] scope gpos] X.env = (false, eval (.GeneratorExp elt [⟨tg, iter, ifs, 0⟩] scope gpos) X.env) :: starEach [] X.env := by rfl
  refine ⟨fun pins s σ H Q I h => ?_⟩
  refine wpAny_Call_Name_kw (ld_blt I hg hm boot_any ?_)
  refine PyProof.Rows.callWith_builtin1 ?_ he (by rfl)
  rw [he]
  show wpAny _ _ (spliced ((false, eval (.GeneratorExp elt [⟨tg, iter, ifs, 0⟩] scope gpos) X.env) :: backTo pos (starEach [] X.env))) _ _ s
  refine Calls.spliced_cons (gen_eval G.hr G.TB G.hcode G.hN G.hc G.hi G.ok G.gk G.hg G.ht G.he G.hs I h fun J H2 a s5 hR ha hl hig hG => ?_)
  refine Calls.spliced_nil ?_
  obtain ⟨W, ⟨m0, w0⟩, turn⟩ := hR
  obtain ⟨X', fp, gi, go, e1, e2, hpn, hgo, hst, hback, _, _⟩ := hG Unit (fun _ ps => ps = []) _ _ W m0 () X.A.in1.in1 turn w0 I.ok.frames (Room.in1' G.hr) (fun _ ps e p hp => by rw [e] at hp; cases hp)
  obtain ⟨I5, S5⟩ := hst [] s5.heap s5.toks rfl (fun _ _ e => e) (fun p hp => by cases hp)
  have hdep : X.A.depth < recursionLimit := by have := G.hr.dp; omega
  refine call_function_tree F.kind_any F.plain_any F.entry_any (F.args_any1 _) ?_
  unfold Builtin.«any»
  refine wpAny_bind (m := oneArg "any" _) (wpAny_pure ?_)
  obtain ⟨gi', hig⟩ := hig
  refine wpAny_bind (wpAny_pyIter_gen hig ?_)
  refine wpAny_pure ⟨plainId_quiet F.plain_any_loop _, ?_⟩
  have L := any_loop (X' := X') (R := fun r s' => match r with
      | .ok (.ret v) => EP X pins σ Q v s'
      | _ => False) (C := fun _ y H Nx => ∃ k, y = .bl k ∧ (k = true → Q (.bl true) H) ∧ (k = false → Nx () H)) (fin := fun _ H => Q (.bl false) H) (A := X.A) (fp := fp) (go := go) (gi := gi) G.hr.hd hdep hgo hpn
    (fun y H Nx ⟨k, e, q0, q1⟩ => ⟨k, e, fun z pins' σ' s' J => ⟨.bl true, H, hback _ _ _ _ J, rfl, q0 z⟩, q1⟩) (fun pins' σ' H' s' J hf => ⟨.bl false, H', hback _ _ _ _ J, rfl, hf⟩) _ [] _ _ s5 rfl I5 S5
  rw [e1, e2] at L
  exact codeAny_mono L fun r s' z => by
    rcases r with e | (v | _ | _ | _) <;> first | exact z | exact z.elim
end
/-! ### a consumer with an object of its own -/
section
variable {X' : Cx} {fp : List Addr} {a gi : Nat} {go : Obj} {A : Around} {R : Result → Shared → Prop} {S : Addr}
/-- the consumer's object is written -/
theorem inv_cell {o o' : Obj} {σ : L2.St} {H : Hp} {s : Shared} {h' : Heap} {t' : Nat} (I : Inv X' [(S, o)] σ H s) (hA : Apart X' S) (hpn : ∀ p ∈ X'.pn, p.1 ≠ S) (k : ∀ b u, b ≠ S → s.heap.get? b = some u → h'.get? b = some u)
    (ho : h'.get? S = some o') (hd : ∀ v, o'.data ≠ .cell v) : Inv X' [(S, o')] σ H { s with heap := h', toks := t' } := by
  obtain ⟨eS, hS0, hSL, hSf, _⟩ := I.pin (S, o) (List.mem_append_right _ (List.mem_singleton.mpr rfl))
  have I0 : Inv X' [] σ H s := I.pins_of fun p hp => by cases hp
  have nt : ∀ b u, H b = some u → b ≠ S := fun b u q hb => by
    have hS0 : H S = none := hS0
    rw [hb, hS0] at q; cases q
  have nc : ∀ b, b ∉ [S] → b ≠ S := fun b hb e => hb (by rw [e]; exact List.mem_singleton.mpr rfl)
  have J : Inv X' [] σ H { s with heap := h', toks := t' } := by
    refine I0.step (g' := s.gens) (t' := t') (d' := s.drawn) (ch := [S]) (fun b hb => ?_)
      (fun b ob _ _ hc q _ => k b ob (nc b hc) q) (fun b ob _ _ hc q _ => ⟨ob.slots, k b ob (nc b hc) q⟩) (fun _ _ _ _ n => n) (fun b ob hc q => ⟨ob, k b ob (nc b hc) q⟩)
      (fun _ _ q => q) (fun _ _ _ q => q) (fun b ps q => ⟨#[], by rw [q]; simp⟩) (fun m hm => ?_) (fun b u q => ?_) I0.bare
    · rw [List.mem_singleton.mp hb]
      exact ⟨.inr hA.1, hA.2.1, hA.2.2, fun p hp => hpn p (by rw [List.append_nil] at hp; exact hp)⟩
    · obtain ⟨ob, es, ep, ho, r⟩ := hm
      exact ⟨ob, es, ep, k _ ob (Ne.symm hSL) ho, r⟩
    · refine (I0.hok b u q).stay (fun c v hc y => k c v ?_ y) (fun _ y => y) fun _ _ y => y
      rcases hc with y | y
      · rw [y]; exact nt b u q
      · exact nt c _ y
  refine J.pins_of fun p hp => ?_
  rw [List.mem_singleton.mp hp]
  exact ⟨ho, hS0, hSL, hSf, hd⟩
abbrev accO (i : Int) (t : Tok) (c : Nat) : Obj := { cls := .type "list", dict := none, data := .seq #[.int i t] c, slots := #[] }
def TieS (S : Addr) (i : Int) (ps : List (Addr × Obj)) : Prop := ∃ t c, ps = [(S, accO i t c)]
theorem sum_loop {C : Int → V → Hp → (Int → Hp → Prop) → Prop} {fin : Int → Hp → Prop} (hB : A.handled = none) (hd : A.depth < recursionLimit) (hgo : ∀ h : Heap, h.get? a = some go → h.IsGen a gi) (hpn : (a, go) ∈ X'.pn)
    (hA : Apart X' S) (hSf : S ∉ fp) (hpS : ∀ p ∈ X'.pn, p.1 ≠ S)
    (hC : ∀ i y H Nx, C i y H Nx → ∃ j, y = .int j ∧ Nx (i + j) H) (hF : ∀ i pins σ H s t, Inv X' pins σ H s → fin i H → R (.ok (.ret (.int i t))) s) :
    ∀ (n : Nat) (i : Int) (tA : Tok) (c : Nat) (st : Int) (σ : L2.St) (H : Hp) (s : Shared), (st = 0 ∨ st = 2) → Inv X' [(S, accO i tA c)] σ H s → Sleep X' fp (TieS S) C fin A.in1.in1 gi n s →
      codeAny (model X'.prog X'.w) A (.builtin "sum.loop" ⟨[.ref a, .ref S, rawInt st, rawInt 0], []⟩) R s := by
  intro n
  induction n using Nat.strongRecOn with
  | ind n ih =>
  intro i tA c st σ H s hst2 I Sl
  have hS : s.heap.get? S = some (accO i tA c) := (I.pin (S, accO i tA c) (List.mem_append_right _ (List.mem_singleton.mpr rfl))).1
  refine codeAny_builtin F.entry_sum_loop ?_
  rw [Around.under_plainId F.plain_sum_loop _]
  show wpAny _ A.in1 (seqItems? (.ref S) >>= _) _ _ s
  refine wpAny_bind (wpAny_seqItems hS rfl ?_)
  show wpAny _ A.in1 (tryCatch (pyNext (.ref a)) _ >>= _) _ _ s
  have keepU : ∀ (h : Heap) (f : Obj → Obj) (b : Addr) (u : Obj), b ≠ S → h.get? b = some u → (h.update S f).get? b = some u := fun h f b u hb e => (Heap.get?_update_other _ _ (Ne.symm hb)).trans e
  refine wpAny_bind (wpAny_tryCatch (gstep (B := A.in1) hB hd hgo hpn I Sl (fun v s2 aS pins' σ' H' y Nx hT hs0 I2 r2 hCy nxt => ?_) fun s2 aS pins' σ' H' hT hs0 I2 hf => ?_))
  · obtain ⟨t2, c2, rfl⟩ := hT
    have e0 := hs0 _ (List.mem_singleton.mpr rfl)
    have e0 : s.heap.get? S = some (accO aS t2 c2) := e0
    rw [hS] at e0
    cases e0
    obtain ⟨j, rfl, hNx⟩ := hC i y H' Nx hCy
    obtain ⟨t, rfl⟩ := r2
    have hS' : s2.heap.get? S = some (accO i tA c) := (I2.pin (S, accO i tA c) (List.mem_append_right _ (List.mem_singleton.mpr rfl))).1
    have go2 : ∀ (t' : Tok) (c' : Nat) (h' : Heap) (tk : Nat), (∀ b u, b ≠ S → s2.heap.get? b = some u → h'.get? b = some u) → h'.get? S = some (accO (i + j) t' c') → ∀ st', (st' = 0 ∨ st' = 2) →
        codeAny (model X'.prog X'.w) A (.builtin "sum.loop" ⟨[.ref a, .ref S, rawInt st', rawInt 0], []⟩) R { s2 with heap := h', toks := tk } := by
      intro t' c' h' tk hk ho st' hst'
      have I3 : Inv X' [(S, accO (i + j) t' c')] σ' H' { s2 with heap := h', toks := tk } := inv_cell (t' := tk) I2 hA hpS hk ho (fun v z => by cases z)
      obtain ⟨n', hn', S'⟩ := nxt (i + j) _ h' tk ⟨t', c', rfl⟩ I3 (fun b hb o e => hk b o (fun z => hSf (by rw [← z]; exact hb)) e) hNx
      exact ih n' hn' (i + j) t' c' st' σ' H' _ hst' I3 S'
    rcases hst2 with rfl | rfl
    · show wpAny _ A.in1 (if (_ : Bool) = true then (mkInt (i + j) >>= _) else _) _ _ _
      split
      · refine wpAny_bind (wpAny_mkInt ?_)
        show wpAny _ A.in1 (updateSeq S (fun _ => #[.int (i + j) s2.toks]) >>= _) _ _ _
        refine wpAny_bind ?_
        refine wpAny_updateSeq hS' rfl (wpAny_pure ⟨plainId_quiet F.plain_sum_loop _, ?_⟩)
        have hS₁ := Heap.get?_update_self (Obj.mapSeq fun _ => #[Value.int (i + j) s2.toks]) hS' rfl
        exact go2 _ _ _ _ (keepU _ _) hS₁ _ (.inl rfl)
      · refine wpAny_bind (wpAny_rule ?_)
        refine wpAny_bind (wpAny_attempt (wpAny_holding (wpAny_add_int ?_)))
        show wpAny _ A.in1 (updateSeq S (fun _ => #[.int (i + j) s2.toks]) >>= _) _ _ _
        refine wpAny_bind (wpAny_updateSeq hS' rfl ?_)
        have hS₂ := Heap.get?_update_self (Obj.mapSeq fun _ => #[Value.int (i + j) s2.toks]) hS' rfl
        refine wpAny_bind (wpAny_letGo ?_)
        refine wpAny_bind (wpAny_updateSeq hS₂ rfl (wpAny_pure ⟨plainId_quiet F.plain_sum_loop _, ?_⟩))
        have hS₃ := Heap.get?_update_self (Obj.mapSeq fun _ => #[Value.int (i + j) s2.toks]) hS₂ rfl
        exact go2 _ _ _ _ (fun b u hb e => keepU _ _ b u hb (keepU _ _ b u hb e)) hS₃ _ (.inr rfl)
    · show wpAny _ A.in1 ((holding [Value.int j t] (binaryOp .Add (.int i tA) (.int j t))).attempt >>= _) _ _ _
      refine wpAny_bind (wpAny_attempt (wpAny_holding (wpAny_add_int ?_)))
      show wpAny _ A.in1 (updateSeq S (fun _ => #[.int (i + j) s2.toks]) >>= _) _ _ _
      refine wpAny_bind (wpAny_updateSeq hS' rfl ?_)
      have hS₂ := Heap.get?_update_self (Obj.mapSeq fun _ => #[Value.int (i + j) s2.toks]) hS' rfl
      refine wpAny_bind (wpAny_letGo ?_)
      refine wpAny_bind (wpAny_updateSeq hS₂ rfl (wpAny_pure ⟨plainId_quiet F.plain_sum_loop _, ?_⟩))
      have hS₃ := Heap.get?_update_self (Obj.mapSeq fun _ => #[Value.int (i + j) s2.toks]) hS₂ rfl
      exact go2 _ _ _ _ (fun b u hb e => keepU _ _ b u hb (keepU _ _ b u hb e)) hS₃ _ (.inr rfl)
  · obtain ⟨t2, c2, rfl⟩ := hT
    have e0 := hs0 _ (List.mem_singleton.mpr rfl)
    have e0 : s.heap.get? S = some (accO aS t2 c2) := e0
    rw [hS] at e0
    cases e0
    exact wpAny_pure (hF i _ _ _ _ tA I2 hf)
/-! ### a list filled -/
def TieL (S : Addr) (ys : List V) (ps : List (Addr × Obj)) : Prop := ∃ acc c, Vals ys acc.toList ∧ ps = [(S, lstObj acc c)]
theorem ext_loop {C : List V → V → Hp → (List V → Hp → Prop) → Prop} {fin : List V → Hp → Prop} {res : Value} (hB : A.handled = none) (hd : A.depth < recursionLimit) (hgo : ∀ h : Heap, h.get? a = some go → h.IsGen a gi) (hpn : (a, go) ∈ X'.pn)
    (hA : Apart X' S) (hSf : S ∉ fp) (hpS : ∀ p ∈ X'.pn, p.1 ≠ S)
    (hC : ∀ ys y H Nx, C ys y H Nx → ys.length < sizeLine ∧ Nx (ys ++ [y]) H) (hF : ∀ ys acc c σ H s, Vals ys acc.toList → Inv X' [(S, lstObj acc c)] σ H s → fin ys H → R (.ok (.ret res)) s) :
    ∀ (n : Nat) (ys : List V) (acc : Array Value) (c : Nat) (σ : L2.St) (H : Hp) (s : Shared), Vals ys acc.toList → Inv X' [(S, lstObj acc c)] σ H s → Sleep X' fp (TieL S) C fin A.in1.in1 gi n s →
      codeAny (model X'.prog X'.w) A (.builtin "list.extend.loop" ⟨[.ref S, .ref a, res], []⟩) R s := by
  intro n
  induction n using Nat.strongRecOn with
  | ind n ih =>
  intro ys acc c σ H s hv I Sl
  have hS : s.heap.get? S = some (lstObj acc c) := (I.pin (S, lstObj acc c) (List.mem_append_right _ (List.mem_singleton.mpr rfl))).1
  refine codeAny_builtin F.entry_extend_loop ?_
  rw [Around.under_plainId F.plain_extend_loop _]
  show wpAny _ A.in1 (pyNext (.ref a) >>= _) _ _ s
  refine wpAny_bind (gstep (B := A.in1) hB hd hgo hpn I Sl (fun v s2 aS pins' σ' H' y Nx hT hs0 I2 r2 hCy nxt => ?_) fun s2 aS pins' σ' H' hT hs0 I2 hf => ?_)
  · obtain ⟨acc2, c2, hv2, rfl⟩ := hT
    obtain ⟨hlt, hNx⟩ := hC aS y H' Nx hCy
    have hS' : s2.heap.get? S = some (lstObj acc2 c2) := (I2.pin (S, lstObj acc2 c2) (List.mem_append_right _ (List.mem_singleton.mpr rfl))).1
    have hasz : acc2.size < sizeLine := by
      have e1 := hv2.length
      have e2 : acc2.toList.length = acc2.size := by simp
      omega
    show wpAny _ A.in1 (updateSeq S (·.push v) >>= _) _ _ _
    refine wpAny_bind ?_
    refine wpAny_updateSeq hS' rfl (wpAny_pure ⟨plainId_quiet F.plain_extend_loop _, ?_⟩) (Nat.le_of_lt hasz) (by show (acc2.push v).size ≤ sizeLine + 1; rw [Array.size_push]; omega)
    have hS₂ := Heap.get?_update_self (Obj.mapSeq (·.push v)) hS' rfl
    have kU : ∀ b u, b ≠ S → s2.heap.get? b = some u → (s2.heap.update S (Obj.mapSeq (·.push v))).get? b = some u := fun b u hb e => (Heap.get?_update_other _ _ (Ne.symm hb)).trans e
    have hv3 : Vals (aS ++ [y]) (acc2.push v).toList := by
      rw [Array.toList_push]
      exact hv2.append (.cons r2 .nil)
    have I3 := inv_cell (t' := s2.toks) I2 hA hpS kU hS₂ (fun v z => by cases z)
    obtain ⟨n', hn', S'⟩ := nxt (aS ++ [y]) _ _ s2.toks ⟨acc2.push v, _, hv3, rfl⟩ I3 (fun b hb o e => kU b o (fun z => hSf (by rw [← z]; exact hb)) e) hNx
    exact ih n' hn' (aS ++ [y]) (acc2.push v) _ σ' H' _ hv3 I3 S'
  · obtain ⟨acc2, c2, hv2, rfl⟩ := hT
    exact wpAny_pure (hF aS acc2 c2 _ _ _ hv2 I2 hf)
end
section
variable {X : Cx} {k : Nat} {elt tg iter : Expr} {ifs : List Expr} {scope : Scope} {own : List (Str × Nat)} {c P : Addr} {wi : TI} {g : TG} {tt : TT} {te : TE} {p pos gpos : Pos}
def tSum (P : Addr) (wi : TI) (g : TG) (tt : TT) (te : TE) (vs : List Nat) : TE := fun σ H Q =>
  tGx P wi g tt te vs (0 : Int) (fun i y H Nx => ∃ j, y = .int j ∧ Nx (i + j) H) (fun i H => Q (.int i) H) σ H
def tTupG (P : Addr) (wi : TI) (g : TG) (tt : TT) (te : TE) (vs : List Nat) : TE := fun σ H Q =>
  tGx P wi g tt te vs ([] : List V) (fun ys y H Nx => ys.length < sizeLine ∧ Nx (ys ++ [y]) H) (fun ys H => ys.length ≤ sizeLine ∧ ∀ p, H p = none → Q (.ref p) (upd H p (.tup ys))) σ H
theorem Room.in1'' {k : Nat} {A : Around} (r : Room (k + 2) A) : Room (k + 1) A.in1.in1.in1.in1.in1 :=
  ⟨r.hd, by have := r.dp; show A.depth + 3 * (k + 1) + 5 < _; omega, by have := r.un; show A.units + 1 + 1 + 1 + 1 + 1 + 16 * (k + 1) + 200 < _; omega⟩
theorem pe_sum (G : GParts X k elt tg iter ifs scope own c P wi g tt te) (hg : Gl X "sum") (hm : X.mg "sum" = none) (hb : bootBuiltins "sum" = some (.builtin "sum") := by decide +kernel) :
    PE X (.Call (.Name "sum" p) [.GeneratorExp elt [⟨tg, iter, ifs, 0⟩] scope gpos] [] pos) (tSum P wi g tt te (own.map (·.2))) := by
  have he : starEach [.GeneratorExp elt [⟨tg, iter, ifs, 0⟩] scope gpos] X.env = (false, eval (.GeneratorExp elt [⟨tg, iter, ifs, 0⟩] scope gpos) X.env) :: starEach [] X.env := by rfl
  refine ⟨fun pins s σ H Q I h => ?_⟩
  refine wpAny_Call_Name_kw (ld_blt I hg hm hb ?_)
  refine PyProof.Rows.callWith_builtin1 ?_ he (by rfl)
  rw [he]
  show wpAny _ _ (spliced ((false, eval (.GeneratorExp elt [⟨tg, iter, ifs, 0⟩] scope gpos) X.env) :: backTo pos (starEach [] X.env))) _ _ s
  refine Calls.spliced_cons (gen_eval G.hr G.TB G.hcode G.hN G.hc G.hi G.ok G.gk G.hg G.ht G.he G.hs I h fun J H2 a s5 hR ha hl hig hG => ?_)
  refine Calls.spliced_nil ?_
  obtain ⟨W, ⟨m0, w0⟩, turn⟩ := hR
  have hdep : X.A.depth < recursionLimit := by have := G.hr.dp; omega
  refine call_function_tree F.kind_sum F.plain_sum F.entry_sum (F.args_sum1 _) ?_
  unfold Builtin.«sum»
  simp only [List.length_cons, List.length_nil]
  rw [if_neg (by decide)]
  obtain ⟨gi', hig⟩ := hig
  refine wpAny_bind (wpAny_of_eq (show Builtin.Builtins.bindParams "sum" ["start"] 0 { } = pure [none] from rfl) ?_)
  refine wpAny_bind (wpAny_pyIter_gen hig ?_)
  refine wpAny_bind (wpAny_mkInt ?_)
  refine wpAny_bind (wpAny_pure ?_)
  simp only [List.forIn_cons, List.forIn_nil]
  refine wpAny_bind (wpAny_bind (wpAny_bind (wpAny_isInstance (T := "int") (b := false) (typeIs_int _ _ _) PySem.sub_int_str ?_)))
  simp only [Bool.false_eq_true, if_false]
  refine wpAny_pure (wpAny_bind (wpAny_bind (wpAny_isInstance (T := "int") (b := false) (typeIs_int _ _ _) PySem.sub_int_bytes ?_)))
  simp only [Bool.false_eq_true, if_false]
  refine wpAny_pure (wpAny_bind (wpAny_bind (wpAny_isInstance (T := "int") (b := false) (typeIs_int _ _ _) PySem.sub_int_bytearray ?_)))
  simp only [Bool.false_eq_true, if_false]
  refine wpAny_pure (wpAny_pure ?_)
  refine wpAny_bind (wpAny_newObj_type ?_)
  obtain ⟨X', fp, gi, go, e1, e2, hpn, hgo, hst, hback, hap, _⟩ := hG Int (TieS s5.heap.objs.size) (fun i y H Nx => ∃ j, y = .int j ∧ Nx (i + j) H) (fun i H => Q (.int i) H) W m0 0 X.A.in1.in1 turn w0 I.ok.frames (Room.in1' G.hr)
    (fun _ ps e p hp => by obtain ⟨t, c, rfl⟩ := e; rw [List.mem_singleton.mp hp]; exact Nat.le_refl _)
  obtain ⟨hA, hSf, hpS⟩ := hap s5.heap.objs.size (Nat.le_refl _)
  have hS := Heap.get?_push_size s5.heap (o := accO 0 s5.toks 0) rfl
  obtain ⟨I5, S5⟩ := hst [(s5.heap.objs.size, accO 0 s5.toks 0)] (s5.heap.push (accO 0 s5.toks 0)) (s5.toks + 1) ⟨_, _, rfl⟩ (fun b o e => Heap.get?_push_of_some _ e) (fun p hp => by
    rw [List.mem_singleton.mp hp]
    exact ⟨hS, fun v z => by cases z⟩)
  refine wpAny_pure ⟨plainId_quiet F.plain_sum_loop _, ?_⟩
  have L := sum_loop (X' := X') (R := fun r s' => match r with
      | .ok (.ret v) => EP X pins σ Q v s'
      | _ => False) (S := s5.heap.objs.size) (C := fun i y H Nx => ∃ j, y = .int j ∧ Nx (i + j) H) (fin := fun i H => Q (.int i) H) (A := X.A) (fp := fp) (go := go) (gi := gi) G.hr.hd hdep hgo hpn hA hSf hpS
    (fun i y H Nx h => h) (fun i pins' σ' H' s' t J hf => ⟨.int i, H', hback _ _ _ _ J, ⟨t, rfl⟩, hf⟩) _ 0 s5.toks 0 0 _ _ _ (.inl rfl) I5 S5
  rw [e1, e2] at L
  exact codeAny_mono L fun r s' z => by
    rcases r with e | (v | _ | _ | _) <;> first | exact z | exact z.elim
theorem Room.in1''' {k : Nat} {A : Around} (r : Room (k + 2) A) : Room (k + 1) A.in1.in1.in1.in1 :=
  ⟨r.hd, by have := r.dp; show A.depth + 3 * (k + 1) + 5 < _; omega, by have := r.un; show A.units + 1 + 1 + 1 + 1 + 16 * (k + 1) + 200 < _; omega⟩
/-- collect over the generator -/
theorem collect_gen {A : Around} {R : Result → Shared → Prop} {pins : List (Addr × Obj)} {σ : L2.St} {J : It} {H2 : Hp} {a : Addr} {s5 : Shared} {vs : List Nat} {fin : List V → Hp → Prop}
    (hG : GReady X pins σ k J g tt te vs H2 a s5) (hig : ∃ gi, s5.heap.IsGen a gi) (hfr : A.frames = some X.stack) (hroom : Room (k + 1) A.in1.in1) (hB : A.handled = none) (hd : A.depth < recursionLimit)
    (hW : ∃ W : Nat → Nat → List V → Hp → Prop, (∃ m, W 0 m [] H2) ∧ GTurns J g tt te (wipe σ vs) vs (fun ys y H Nx => ys.length < sizeLine ∧ Nx (ys ++ [y]) H) fin W)
    (hQ : ∀ acc c ys H' s', s'.heap.get? s5.heap.objs.size = some (lstObj acc c) → Vals ys acc.toList → Inv X pins σ H' s' → fin ys H' → R (.ok (.ret (.ref s5.heap.objs.size))) s') : codeAny (model X.prog X.w) A (.builtin "proto.collect" ⟨[.ref a], []⟩) R s5 := by
  obtain ⟨W, ⟨m0, w0⟩, turn⟩ := hW
  obtain ⟨gi', hig⟩ := hig
  obtain ⟨X', fp, gi, go, e1, e2, hpn, hgo, hst, hback, hap, halt⟩ := hG (List V) (TieL s5.heap.objs.size) (fun ys y H Nx => ys.length < sizeLine ∧ Nx (ys ++ [y]) H) fin W m0 [] A.in1.in1 turn w0 hfr hroom
    (fun _ ps e p hp => by obtain ⟨acc, c, _, rfl⟩ := e; rw [List.mem_singleton.mp hp]; exact Nat.le_refl _)
  obtain ⟨hA, hSf, hpS⟩ := hap s5.heap.objs.size (Nat.le_refl _)
  have hSI : s5.heap.objs.size ≠ a := Nat.ne_of_gt halt
  refine codeAny_builtin F.entry_proto_collect ?_
  rw [Around.under_plainId F.plain_proto_collect _]
  show wpAny _ A.in1 (newList [] >>= fun l => again (.builtin "list.__iadd__" ⟨[l, .ref a], []⟩)) _ _ s5
  refine wpAny_bind (wpAny_newObj_type ?_)
  refine wpAny_pure ⟨plainId_quiet F.plain_list_iadd _, codeAny_builtin F.entry_list_iadd ?_⟩
  rw [Around.under_plainId F.plain_list_iadd _]
  have gty : ∀ {h : Heap}, (∀ b o, s5.heap.get? b = some o → h.get? b = some o) → h.IsGen a gi' := fun {h} q => hig.keeps q
  have k1 : ∀ b o, s5.heap.get? b = some o → (s5.heap.push { cls := .type "list", data := .seq ([] : List Value).toArray }).get? b = some o := fun b o e => Heap.get?_push_of_some _ e
  show wpAny _ A.in1 (Builtin.List.listExtendWith (.ref s5.heap.objs.size) (.ref a) (.ref s5.heap.objs.size)) _ _ _
  unfold Builtin.List.listExtendWith
  refine wpAny_bind (wpAny_typeOf (Heap.IsGen.typeIs (s := { s5 with heap := _ }) (gty k1)) ?_)
  have h1 : Builtin.List.listSameRef (.ref s5.heap.objs.size) (.ref a) = false := by simp [Builtin.List.listSameRef, hSI]
  have h2 : (Value.type "generator" == Value.type "list") = false := by decide
  have h3 : (Value.type "generator" == Value.type "tuple") = false := by decide
  simp only [h1, h2, h3, Bool.or_false, Bool.false_eq_true, if_false]
  refine wpAny_bind (wpAny_pyIter_gen (s := { s5 with heap := _ }) (gty k1) ?_)
  refine wpAny_bind (wpAny_holding ?_)
  unfold Builtin.List.listLengthHint
  refine wpAny_bind (wpAny_specialOf (Heap.IsGen.typeIs (s := { s5 with heap := _ }) (gty k1)) F.gen_no_len ?_)
  show wpAny _ A.in1 (specialOf (Value.ref a) (Str.ofString "__length_hint__") >>= _) _ _ _
  refine wpAny_bind (wpAny_specialOf (Heap.IsGen.typeIs (s := { s5 with heap := _ }) (gty k1)) F.gen_no_hint ?_)
  refine wpAny_pure ?_
  show wpAny _ A.in1 (rule "list.extend.makes-room" >>= fun _ => Builtin.List.listTouch (.ref s5.heap.objs.size) >>= fun _ =>
    again (.builtin "list.extend.loop" ⟨[.ref s5.heap.objs.size, .ref a, .ref s5.heap.objs.size], []⟩)) _ _ _
  refine wpAny_bind (wpAny_rule ?_)
  have hS₁ : (s5.heap.push { cls := .type "list", data := .seq ([] : List Value).toArray }).get? s5.heap.objs.size = some { cls := .type "list", data := .seq ([] : List Value).toArray } := Heap.get?_push_size _ rfl
  refine wpAny_bind ?_
  show wpAny _ A.in1 (updateSeq s5.heap.objs.size (·.push .none) >>= fun _ => updateSeq s5.heap.objs.size (·.pop)) _ _ _
  refine wpAny_bind (wpAny_updateSeq hS₁ rfl ?_)
  have hS₂ := Heap.get?_update_self (Obj.mapSeq (·.push Value.none)) hS₁ rfl
  refine wpAny_updateSeq (hz := by seq_fits) hS₂ rfl ?_
  have hS₃ := Heap.get?_update_self (Obj.mapSeq (·.pop)) hS₂ rfl
  have up : ∀ (h : Heap) (f : Obj → Obj), (∀ b o, s5.heap.get? b = some o → h.get? b = some o) → ∀ b o, s5.heap.get? b = some o → (h.update s5.heap.objs.size f).get? b = some o := fun h f q b o e =>
    (Heap.get?_update_other _ _ (Ne.symm (Nat.ne_of_lt (Heap.lt_size e)))).trans (q b o e)
  have k3 := up _ (Obj.mapSeq (·.pop)) (up _ (Obj.mapSeq (·.push Value.none)) k1)
  obtain ⟨I5, S5⟩ := hst [(s5.heap.objs.size, lstObj #[] _)] _ s5.toks ⟨_, _, .nil, rfl⟩ k3 (fun p hp => by
    rw [List.mem_singleton.mp hp]
    exact ⟨hS₃, fun v z => by cases z⟩)
  refine wpAny_pure ⟨plainId_quiet F.plain_extend_loop _, ?_⟩
  have L := ext_loop (X' := X') (R := fun r s' => ∃ acc c ys H', r = .ok (.ret (.ref s5.heap.objs.size)) ∧ s'.heap.get? s5.heap.objs.size = some (lstObj acc c) ∧ Vals ys acc.toList ∧ Inv X pins σ H' s' ∧ fin ys H')
      (res := .ref s5.heap.objs.size) (S := s5.heap.objs.size) (C := fun ys y H Nx => ys.length < sizeLine ∧ Nx (ys ++ [y]) H) (fin := fin) (A := A) (fp := fp) (go := go) (gi := gi) hB hd hgo hpn hA hSf hpS
    (fun i y H Nx h => h) (fun ys acc c σ' H' s' hv J hf => ⟨acc, c, ys, H', rfl, (J.pin (s5.heap.objs.size, lstObj acc c) (List.mem_append_right _ (List.mem_singleton.mpr rfl))).1, hv, hback _ _ _ _ J, hf⟩) _ [] #[] _ _ _ _ .nil I5 S5
  rw [e1, e2] at L
  refine codeAny_mono L fun r s' z => ?_
  obtain ⟨acc, c, ys, H', rfl, hS', hv, J, hf⟩ := z
  exact hQ acc c ys H' s' hS' hv J hf
theorem pe_tupG (G : GParts X k elt tg iter ifs scope own c P wi g tt te) (hg : Gl X "tuple") (hm : X.mg "tuple" = none) (hv : bootBuiltins "tuple" = some (.type "tuple") := by decide +kernel) :
    PE X (.Call (.Name "tuple" p) [.GeneratorExp elt [⟨tg, iter, ifs, 0⟩] scope gpos] [] pos) (tTupG P wi g tt te (own.map (·.2))) := by
  have he : starEach [.GeneratorExp elt [⟨tg, iter, ifs, 0⟩] scope gpos] X.env = (false, eval (.GeneratorExp elt [⟨tg, iter, ifs, 0⟩] scope gpos) X.env) :: starEach [] X.env := by rfl
  refine ⟨fun pins s σ H Q I h => ?_⟩
  refine wpAny_Call_Name_kw (ld_blt I hg hm hv ?_)
  refine PyProof.Rows.callWith_type1 ?_ he rfl
  rw [he]
  show wpAny _ _ (spliced ((false, eval (.GeneratorExp elt [⟨tg, iter, ifs, 0⟩] scope gpos) X.env) :: backTo pos (starEach [] X.env))) _ _ s
  refine Calls.spliced_cons (gen_eval G.hr G.TB G.hcode G.hN G.hc G.hi G.ok G.gk G.hg G.ht G.he G.hs I h fun J H2 a s5 hR ha hl hig hG => ?_)
  refine Calls.spliced_nil ?_
  have hdep : X.A.depth < recursionLimit := by have := G.hr.dp; omega
  have hTI : s5.TypeIs (.ref a) "generator" := by
    obtain ⟨gi, hig⟩ := hig
    exact Heap.IsGen.typeIs hig
  refine callType_codes (Q₁ := fun obj s₁ => s₁.TypeIs obj "tuple" ∧ EP X pins σ Q obj s₁) F.called_tuple (F.typeCall_tuple_1 _) F.entry_object_init ?_ fun obj s₁ h₁ => ?_
  · refine codeAny_of_tree ?_
    show wpAny _ X.A.in1.in1 (do checkBuiltinCall "tuple.__new__" ⟨[.type "tuple", .ref a], []⟩; again (.builtin "tuple.__new__" ⟨[.type "tuple", .ref a], []⟩)) _ _ s5
    refine wpAny_bind (wpAny_of_eq (F.newCall_tuple_1 _) (wpAny_pure ⟨plainId_quiet F.plain_tuple_new _, codeAny_builtin F.entry_tuple_new ?_⟩))
    rw [Around.under_plainId F.plain_tuple_new _]
    have hsub := sub_tuple_self
    have hinit := init_tuple_lookup
    have hmh := madeHere_tuple
    wp_walk using wpAny_typeOf hTI
    refine collect_gen hG hig I.ok.frames (Room.in1''' G.hr) G.hr.hd hdep hR (fun acc c ys H' s' hS' hv J hf => ?_)
    show wpAny _ _ (load s5.heap.objs.size >>= _) _ _ s'
    refine wpAny_bind (wpAny_load hS' (wpAny_pure ?_))
    obtain ⟨hz, hq⟩ := hf
    show wpAny _ _ (Builtin.Tuple.tupleExact acc.toList.toArray >>= fun v => ret v) _ _ _
    unfold Builtin.Tuple.tupleExact
    have hacc : acc.size ≤ sizeLine := by
      have e1 := hv.length
      have e2 : acc.toList.length = acc.size := by simp
      omega
    refine wpAny_bind (wpAny_newObj_type ?_ (by show acc.toList.toArray.size ≤ sizeLine; simp only [Array.toArray_toList]; exact hacc))
    refine wpAny_pure ?_
    have e : acc.toList.toArray = acc := by simp
    rw [e]
    have hn : H' s'.heap.objs.size = none := J.hok.fresh (Nat.le_refl _)
    have ob : ObjOk X.prog X.w (upd H' s'.heap.objs.size (.tup ys)) (s'.heap.push { cls := .type "tuple", data := .seq acc }) s'.heap.objs.size (.tup ys) := ⟨hz, acc.toList, hv, ⟨_, Heap.get?_push_size _ rfl, rfl, 0, rfl⟩⟩
    exact ⟨⟨_, Heap.get?_push_size _ rfl, rfl⟩, .ref s'.heap.objs.size, _, J.laid (t' := s'.toks) (fun b o e => Heap.get?_push_of_some _ e) (Nat.le_refl _) ob, rfl, hq _ hn⟩
  · exact ⟨h₁.1, F.args_object_init_2 obj _, object_init_meets F.called_tuple.init.lookup F.called_tuple.made (by decide) X.prog X.w X.A.in1 _ s₁ ⟨h₁.1, rfl, h₁.2⟩⟩
end
end GX
set_option maxRecDepth 100000
set_option maxHeartbeats 2000000
/-! SemA: plain data over the layer's heap: what represents what, the states, the judgements. -/
namespace DD
open PySem PySem.Spec PyProof.Rows L2
abbrev D := PyData
/-- an error that a def lets out -/
inductive Exn where
  | bad (name : Str)
  | unread (off : Int) (why : Str)
/-- the object at a is o -/
def Pin (a : Addr) (o : Obj) : Heap → Prop := fun h => h.get? a = some o
/-! a dict's key as data: a number, or a tuple of numbers and such tuples -/
mutual
def nkD : D → NestedKey
  | .int i => .num i
  | .tuple ds => .tup (nkDs ds)
  | _ => .none
def nkDs : List D → List NestedKey
  | [] => []
  | d :: ds => nkD d :: nkDs ds
end
mutual
def nkOk : D → Bool
  | .int _ => true
  | .tuple ds => nkOks ds
  | _ => false
def nkOks : List D → Bool
  | [] => true
  | d :: ds => nkOk d && nkOks ds
end
def hashD (d : D) (x : Int) : Prop := ∀ w : World, x = match d with
  | .int i => keyH w (.inl i)
  | d => (nkD d).hash w
def isIntD : D → Prop
  | .int _ => True
  | _ => False
def isTupD : D → Prop
  | .tuple ds => nkOks ds = true ∧ (nkD (.tuple ds)).depth ≤ 8
  | _ => False
/-- keys of one kind, each once -/
structure KeysD (kvs : List (D × D)) : Prop where
  nd : (kvs.map (·.1)).Nodup
  kd : (∀ p ∈ kvs, isIntD p.1) ∨ (∀ p ∈ kvs, isTupD p.1)
/-- the dict's object at a, its entries -/
structure DkO (H : Hp) (a : Addr) (o : Obj) (es : List DictEntry) : Prop where
  at_ : H a = some (.ext (Pin a o))
  ex : o.ExactDict
  dat : ∃ ep, o.data = .dict es.toArray ep
  sm : (a == sysModules) = false
  le : es.length ≤ sizeLine
theorem DkO.to {H H' : Hp} {a : Addr} {o : Obj} {es : List DictEntry} (h : DkO H a o es) (e : H' a = H a) : DkO H' a o es := ⟨by rw [e]; exact h.at_, h.ex, h.dat, h.sm, h.le⟩
/-! ### representation -/
mutual
/-- v, in the heap, is the data; N: the addresses that may be held by many -/
def RepV (K : PySem.W.Frag) (N : Addr → Prop) (H : Hp) : V → D → Prop
  | v, .none => v = .non
  | v, .bool b => v = .bl b
  | v, .int i => v = .int i
  | v, .str s => v = .str s
  | v, .list ds => ∃ a vs, v = .ref a ∧ N a ∧ H a = some (.lst vs) ∧ RepAll K N H vs ds
  | v, .tuple ds => ∃ a vs, v = .ref a ∧ H a = some (.tup vs) ∧ RepAll K N H vs ds
  | v, .dict kvs => ∃ a o es, v = .ref a ∧ N a ∧ DkO H a o es ∧ RepKV K N H es kvs ∧ KeysD kvs
def RepAll (K : PySem.W.Frag) (N : Addr → Prop) (H : Hp) : List V → List D → Prop
  | [], [] => True
  | v :: vs, d :: ds => RepV K N H v d ∧ RepAll K N H vs ds
  | _, _ => False
def RepKV (K : PySem.W.Frag) (N : Addr → Prop) (H : Hp) : List DictEntry → List (D × D) → Prop
  | [], [] => True
  | e :: es, (k, d) :: r => ((∃ v, RelV v e.key ∧ RepV K N H v k) ∧ hashD k e.hash ∧ ∃ v, RelV v e.val ∧ RepV K N H v d) ∧ RepKV K N H es r
  | _, _ => False
end
/-- the object at a is the data (a list, a dict), whoever holds it -/
def RepO (K : PySem.W.Frag) (N : Addr → Prop) (H : Hp) (a : Addr) : D → Prop
  | .list ds => ∃ vs, H a = some (.lst vs) ∧ RepAll K N H vs ds
  | .dict kvs => ∃ o es, DkO H a o es ∧ RepKV K N H es kvs ∧ KeysD kvs
  | _ => False
section
variable {K : PySem.W.Frag} {N N' : Addr → Prop} {H H' : Hp}
theorem RepO.v {a : Addr} {d : D} (h : RepO K N H a d) (n : N a) : RepV K N H (.ref a) d := by
  cases d with
  | list ds => obtain ⟨vs, h1, h2⟩ := h; rw [RepV]; exact ⟨a, vs, rfl, n, h1, h2⟩
  | dict kvs => obtain ⟨o, es, h1, h2, h3⟩ := h; rw [RepV]; exact ⟨a, o, es, rfl, n, h1, h2, h3⟩
  | _ => exact h.elim
theorem rep_int {i : Int} : RepV K N H (.int i) (.int i) := by rw [RepV]
theorem rep_bool {i : Bool} : RepV K N H (.bl i) (.bool i) := by rw [RepV]
theorem rep_str {i : Str} : RepV K N H (.str i) (.str i) := by rw [RepV]
theorem rep_none : RepV K N H .non .none := by rw [RepV]
theorem rep_tuple {a : Addr} {vs : List V} {ds : List D} (h : H a = some (.tup vs)) (r : RepAll K N H vs ds) : RepV K N H (.ref a) (.tuple ds) := by rw [RepV]; exact ⟨a, vs, rfl, h, r⟩
theorem rep_list {a : Addr} {vs : List V} {ds : List D} (n : N a) (h : H a = some (.lst vs)) (r : RepAll K N H vs ds) : RepV K N H (.ref a) (.list ds) := by rw [RepV]; exact ⟨a, vs, rfl, n, h, r⟩
theorem rall_nil : RepAll K N H [] [] := by rw [RepAll]; trivial
theorem rall_cons {v : V} {vs : List V} {d : D} {ds : List D} (h : RepV K N H v d) (t : RepAll K N H vs ds) : RepAll K N H (v :: vs) (d :: ds) := by rw [RepAll]; exact ⟨h, t⟩
theorem RepAll.length : ∀ {vs : List V} {ds : List D}, RepAll K N H vs ds → vs.length = ds.length
  | [], [], _ => rfl
  | v :: vs, d :: ds, h => by
    rw [RepAll] at h
    rw [List.length_cons, List.length_cons, RepAll.length h.2]
  | [], _ :: _, h => by simp [RepAll] at h
  | _ :: _, [], h => by simp [RepAll] at h
theorem RepAll.get : ∀ {vs : List V} {ds : List D} {i : Nat} {d : D}, RepAll K N H vs ds → ds[i]? = some d → ∃ v, vs[i]? = some v ∧ RepV K N H v d
  | [], [], _, _, _, e => by simp at e
  | v :: vs, d :: ds, 0, x, h, e => by
    rw [RepAll] at h
    simp at e
    subst e
    exact ⟨v, rfl, h.1⟩
  | v :: vs, d :: ds, i + 1, x, h, e => by
    rw [RepAll] at h
    obtain ⟨w, h1, h2⟩ := RepAll.get (i := i) (d := x) h.2 (by simpa using e)
    exact ⟨w, by simpa using h1, h2⟩
  | [], _ :: _, _, _, h, _ => by simp [RepAll] at h
  | _ :: _, [], _, _, h, _ => by simp [RepAll] at h
theorem RepAll.get' {vs : List V} {ds : List D} {i : Nat} {v : V} (h : RepAll K N H vs ds) (e : vs[i]? = some v) : ∃ d, ds[i]? = some d ∧ RepV K N H v d := by
  have hl := h.length
  have hi : i < ds.length := by
    have := (List.getElem?_eq_some_iff.mp e).1
    omega
  obtain ⟨w, h1, h2⟩ := h.get (List.getElem?_eq_getElem hi)
  rw [e] at h1
  cases h1
  exact ⟨_, List.getElem?_eq_getElem hi, h2⟩
theorem RepAll.append : ∀ {vs ws : List V} {ds es : List D}, RepAll K N H vs ds → RepAll K N H ws es → RepAll K N H (vs ++ ws) (ds ++ es)
  | [], _, [], _, _, h => h
  | v :: vs, _, d :: ds, _, h, g => by
    rw [RepAll] at h
    exact rall_cons h.1 (RepAll.append h.2 g)
  | [], _, _ :: _, _, h, _ => by simp [RepAll] at h
  | _ :: _, _, [], _, h, _ => by simp [RepAll] at h
theorem RepAll.set : ∀ {vs : List V} {ds : List D} {v : V} {d : D} (i : Nat), RepAll K N H vs ds → RepV K N H v d → RepAll K N H (vs.set i v) (ds.set i d)
  | [], [], _, _, _, h, _ => h
  | w :: vs, e :: ds, v, d, 0, h, r => by
    rw [RepAll] at h
    exact rall_cons r h.2
  | w :: vs, e :: ds, v, d, i + 1, h, r => by
    rw [RepAll] at h
    exact rall_cons h.1 (RepAll.set i h.2 r)
  | [], _ :: _, _, _, _, h, _ => by simp [RepAll] at h
  | _ :: _, [], _, _, _, h, _ => by simp [RepAll] at h
theorem RepAll.take : ∀ {vs : List V} {ds : List D} (n : Nat), RepAll K N H vs ds → RepAll K N H (vs.take n) (ds.take n)
  | _, _, 0, _ => rall_nil
  | [], [], n + 1, h => by simpa using h
  | v :: vs, d :: ds, n + 1, h => by
    rw [RepAll] at h
    exact rall_cons h.1 (RepAll.take n h.2)
  | [], _ :: _, _, h => by simp [RepAll] at h
  | _ :: _, [], _, h => by simp [RepAll] at h
theorem RepAll.drop : ∀ {vs : List V} {ds : List D} (n : Nat), RepAll K N H vs ds → RepAll K N H (vs.drop n) (ds.drop n)
  | _, _, 0, h => h
  | [], [], n + 1, h => by simpa using h
  | v :: vs, d :: ds, n + 1, h => by
    rw [RepAll] at h
    exact RepAll.drop n h.2
  | [], _ :: _, _, h => by simp [RepAll] at h
  | _ :: _, [], _, h => by simp [RepAll] at h
theorem RepAll.reverse : ∀ {vs : List V} {ds : List D}, RepAll K N H vs ds → RepAll K N H vs.reverse ds.reverse
  | [], [], h => h
  | v :: vs, d :: ds, h => by
    rw [RepAll] at h
    rw [List.reverse_cons, List.reverse_cons]
    exact (RepAll.reverse h.2).append (rall_cons h.1 rall_nil)
  | [], _ :: _, h => by simp [RepAll] at h
  | _ :: _, [], h => by simp [RepAll] at h
theorem RepAll.rep {v : V} {d : D} (h : RepV K N H v d) (n : Nat) : RepAll K N H (List.replicate n v) (List.replicate n d) := by
  induction n with
  | zero => exact rall_nil
  | succ n ih => exact rall_cons h ih
theorem RepAll.ints : ∀ ns : List Int, RepAll K N H (ns.map V.int) (ns.map PyData.int)
  | [] => rall_nil
  | n :: r => rall_cons rep_int (RepAll.ints r)
/-- what data leans on stays: lists and dicts that may be held by many, tuples -/
structure Keeps2 (N N' : Addr → Prop) (H H' : Hp) : Prop where
  n : ∀ a, N a → H a ≠ none → N' a
  ob : ∀ a o, N a → H a = some o → (∀ ps, o ≠ .tbl ps) → H' a = some o
  tp : ∀ a xs, H a = some (.tup xs) → H' a = some (.tup xs)
  fz : ∀ a o xs, H a = some (.frz o (.tup xs)) → H' a = some (.frz o (.tup xs))
mutual
theorem RepV.keep (k : Keeps2 N N' H H') : ∀ (d : D) (v : V), RepV K N H v d → RepV K N' H' v d
  | .none, _, h => by rw [RepV] at h ⊢; exact h
  | .bool b, _, h => by rw [RepV] at h ⊢; exact h
  | .int i, _, h => by rw [RepV] at h ⊢; exact h
  | .str s, _, h => by rw [RepV] at h ⊢; exact h
  | .list ds, v, h => by
    rw [RepV] at h ⊢
    obtain ⟨a, vs, e, n, h1, h2⟩ := h
    exact ⟨a, vs, e, k.n a n (by rw [h1]; simp), k.ob a _ n h1 (fun ps z => by cases z), RepAll.keep k ds vs h2⟩
  | .tuple ds, v, h => by
    rw [RepV] at h ⊢
    obtain ⟨a, vs, e, h1, h2⟩ := h
    exact ⟨a, vs, e, k.tp _ _ h1, RepAll.keep k ds vs h2⟩
  | .dict kvs, v, h => by
    rw [RepV] at h ⊢
    obtain ⟨a, o, es, e, n, h1, h2, h3⟩ := h
    exact ⟨a, o, es, e, k.n a n (by rw [h1.at_]; simp), h1.to (by rw [h1.at_]; exact k.ob a _ n h1.at_ (fun ps z => by cases z)), RepKV.keep k kvs es h2, h3⟩
theorem RepAll.keep (k : Keeps2 N N' H H') : ∀ (ds : List D) (vs : List V), RepAll K N H vs ds → RepAll K N' H' vs ds
  | [], [], _ => rall_nil
  | d :: ds, v :: vs, h => by
    rw [RepAll] at h
    exact rall_cons (RepV.keep k d v h.1) (RepAll.keep k ds vs h.2)
  | [], _ :: _, h => by simp [RepAll] at h
  | _ :: _, [], h => by simp [RepAll] at h
theorem RepKV.keep (k : Keeps2 N N' H H') : ∀ (ds : List (D × D)) (es : List DictEntry), RepKV K N H es ds → RepKV K N' H' es ds
  | [], [], _ => by rw [RepKV]; trivial
  | (kd, d) :: ds, e :: es, h => by
    rw [RepKV] at h ⊢
    obtain ⟨⟨⟨v, h1, h2⟩, h3, ⟨u, h4, h5⟩⟩, h6⟩ := h
    exact ⟨⟨⟨v, h1, RepV.keep k kd v h2⟩, h3, ⟨u, h4, RepV.keep k d u h5⟩⟩, RepKV.keep k ds es h6⟩
  | [], _ :: _, h => by simp [RepKV] at h
  | _ :: _, [], h => by simp [RepKV] at h
end
theorem RepO.keep (k : Keeps2 N N' H H') {a : Addr} {d : D} (ha : H' a = H a) (h : RepO K N H a d) : RepO K N' H' a d := by
  cases d with
  | list ds => obtain ⟨vs, h1, h2⟩ := h; exact ⟨vs, by rw [ha]; exact h1, RepAll.keep k ds vs h2⟩
  | dict kvs =>
    obtain ⟨o, es, h1, h2, h3⟩ := h
    exact ⟨o, es, h1.to ha, RepKV.keep k kvs es h2, h3⟩
  | _ => exact h.elim
end
/-! ### the parameters, the world's facts -/
/-- T, G: the tables of code objects of defs with lambdas, with generator expressions; r: the drawing row, scr: the script, ns: its numbers; cBad, cUnr: the error classes; N: what a caller lets be held by many; H0: the heap at the entry; E: the wish of an error -/
structure Par where
  K : PySem.W.Frag
  w : World
  T : List (Addr × Str)
  G : List Addr
  r : Addr
  scr : Addr
  ns : List Int
  cBad : Addr
  cUnr : Addr
  N : Addr → Prop
  H0 : Hp
  E : XK
def RowI (_ns : List Int) (i s c : Int) : Prop := 0 ≤ i ∧ 0 ≤ s ∧ s < 2147483647 ∧ 0 ≤ c
def RowAt (K : PySem.W.Frag) (scr : Addr) (ns : List Int) (H : Hp) (r : Addr) : Prop :=
  (∃ i s c : Int, H r = some (.lst [.ref scr, .int i, .int s, .int c]) ∧ RowI ns i s c) ∧ SqL K H scr (ns.map V.int)
structure Wd (p : Par) (H : Hp) : Prop where
  dj : ∀ P ∈ p.G, ∀ q ∈ p.T, q.1 ≠ P
  g : ∀ P ∈ p.G, GxR.TabG H P
  t : LamX.Tabs p.T H
  row : RowAt p.K p.scr p.ns H p.r
/-- the script stands in the written part -/
def KScr (p : Par) : Prop := ∃ (o : Obj) (its : Array Value) (n : Nat), p.K.lookup p.scr = some o ∧ o.cls = .type "list" ∧ o.dict = none ∧ o.data = .seq its n ∧ its.size ≤ sizeLine ∧ Vals (p.ns.map V.int) its.toList
structure Ext (p : Par) (H H' : Hp) : Prop where
  ob : ∀ b o, H b = some o → (∀ ps, o ≠ .tbl ps) → b ≠ p.r → H' b = some o
  dom : ∀ b, H b ≠ none → H' b ≠ none
  wd : Wd p H'
theorem Ext.refl {p : Par} {H : Hp} (h : Wd p H) : Ext p H H := ⟨fun _ _ e _ _ => e, fun _ e => e, h⟩
theorem Ext.trans {p : Par} {H H1 H2 : Hp} (a : Ext p H H1) (b : Ext p H1 H2) : Ext p H H2 := ⟨fun c o e n m => b.ob c o (a.ob c o e n m) n m, fun c e => b.dom c (a.dom c e), b.wd⟩
/-- the same with another entry, another wish -/
theorem Ext.par {p q : Par} {H H' : Hp} (h : Ext p H H') (e1 : p.K = q.K) (e2 : p.T = q.T) (e3 : p.G = q.G) (e4 : p.r = q.r) (e5 : p.scr = q.scr) (e6 : p.ns = q.ns) : Ext q H H' := by
  obtain ⟨h1, h2, ⟨w0, w1, w2, w3⟩⟩ := h
  exact ⟨fun b o e n m => h1 b o e n (by rw [e4]; exact m), h2, ⟨by rw [← e3, ← e2]; exact w0, by rw [← e3]; exact w1, by rw [← e2]; exact w2, by rw [← e1, ← e5, ← e6, ← e4]; exact w3⟩⟩
theorem Wd.r_some {p : Par} {H : Hp} (h : Wd p H) : ∃ xs, H p.r = some (.lst xs) := let ⟨⟨_, _, _, e, _⟩, _⟩ := h.row; ⟨_, e⟩
/-- what may be written anew: nothing, a list, a dict -/
def Soft : Option HO → Prop
  | none => True
  | some (.lst _) => True
  | some (.ext φ) => ∃ a o es ep, φ = Pin a o ∧ o.data = .dict es ep
  | _ => False
/-- a code object is no dict -/
theorem code_soft {c : Addr} {q : Str} (h : Soft (some (LamX.CodeO c q))) : False := by
  obtain ⟨a, o, es, ep, e, hd⟩ := h
  let h0 : Heap := { objs := Array.replicate (a + 1) o }
  have g : ∀ b : Nat, h0.get? b = if b < a + 1 then some o else none := fun b => by
    have e0 : h0.objs[b]? = if b < a + 1 then some o else none := Array.getElem?_replicate
    unfold Heap.get?
    rw [e0]
    by_cases z : b < a + 1
    · rw [if_pos z]
      obtain ⟨oc, od, dt, sl⟩ := o
      simp only at hd
      rw [hd]
    · rw [if_neg z]
  have p : Pin a o h0 := by unfold Pin; rw [g a, if_pos (Nat.lt_succ_self a)]
  rw [← e] at p
  obtain ⟨oc, vs, t, h1, h2, _⟩ := p
  rw [g c] at h1
  split at h1
  · cases h1
    rw [hd] at h2
    cases h2
  · cases h1
theorem Wd.upd {p : Par} {H : Hp} {a : Addr} {o : HO} (h : Wd p H) (ha : Soft (H a)) (nr : a ≠ p.r) (sc : H a = none ∨ a ≠ p.scr ∨ KScr p) : Wd p (upd H a o) := by
  have nt : ∀ {P : Addr} {ps : Array Value}, H P = some (.tbl ps) → P ≠ a := fun {P ps} e z => by rw [z] at e; rw [e] at ha; exact ha
  have nx : ∀ {P : Addr} {q : Str}, H P = some (LamX.CodeO P q) → P ≠ a := fun {P q} e z => by rw [← z, e] at ha; exact code_soft ha
  refine ⟨h.dj, fun P hP => ?_, fun P hP => ?_, ?_⟩
  · obtain ⟨ps, e, q⟩ := h.g P hP
    exact ⟨ps, by rw [upd_ne (nt e)]; exact e, q⟩
  · obtain ⟨ps, e, q, q2⟩ := h.t P hP
    refine ⟨ps, by rw [upd_ne (nt e)]; exact e, q, fun pos cv hc => ?_⟩
    obtain ⟨c, e1, e2⟩ := q2 pos cv hc
    exact ⟨c, e1, by rw [upd_ne (nx e2)]; exact e2⟩
  · obtain ⟨⟨i, s, c, e, q⟩, hs⟩ := h.row
    refine ⟨⟨i, s, c, by rw [upd_ne (Ne.symm nr)]; exact e, q⟩, ?_⟩
    rcases hs with hs | hs
    · have keep : p.scr ≠ a → SqL p.K (L2.upd H a o) p.scr (p.ns.map V.int) := fun z => by
        rcases hs with hs | ⟨ob, hs⟩
        · exact .inl (.inl (by rw [upd_ne z]; exact hs))
        · exact .inl (.inr ⟨ob, by rw [upd_ne z]; exact hs⟩)
      rcases sc with sc | sc | sc
      · refine keep fun z => ?_
        rw [← z] at sc
        rcases hs with hs | ⟨ob, hs⟩ <;> (rw [sc] at hs; cases hs)
      · exact keep fun z => sc z.symm
      · exact .inr sc
    · exact .inr hs
theorem Ext.new {p : Par} {H : Hp} {a : Addr} {o : HO} (h : Wd p H) (ha : H a = none) : Ext p H (upd H a o) := by
  have nr : a ≠ p.r := fun z => by
    obtain ⟨xs, e⟩ := h.r_some
    rw [← z, ha] at e; cases e
  refine ⟨fun b ob e _ _ => by rw [upd_ne (ne_of_none e ha)]; exact e, fun b e => ?_, h.upd (by rw [ha]; trivial) nr (.inl ha)⟩
  by_cases z : b = a
  · rw [z]; unfold L2.upd; rw [if_pos rfl]; simp
  · rw [upd_ne z]; exact e
/-! ### states -/
/-- what is kept in hand: a value that is data, an object that many may hold -/
inductive KI where
  | d (v : V) (x : D)
  | f (a : Addr) (u : HO)
def RepI (K : PySem.W.Frag) (N : Addr → Prop) (H : Hp) : KI → Prop
  | .d v x => RepV K N H v x
  | .f a u => N a ∧ H a = some u ∧ ∀ ps, u ≠ .tbl ps
theorem RepI.keep {K : PySem.W.Frag} {N N' : Addr → Prop} {H H' : Hp} (k : Keeps2 N N' H H') : ∀ x : KI, RepI K N H x → RepI K N' H' x
  | .d v x, h => RepV.keep k x v h
  | .f a u, h => ⟨k.n a h.1 (by rw [h.2.1]; simp), k.ob a u h.1 h.2.1 h.2.2, h.2.2⟩
/-- what a slot holds: data, a list or a dict of its own, the drawing row -/
inductive W where
  | d (x : D)
  | own (x : D)
  | row
abbrev Env' := List (Option W)
/-- the slots' own objects; values that are kept in hand (what a loop walks over) -/
structure Own where
  fn : Nat → Option Addr
  ks : List KI
instance : CoeFun Own (fun _ => Nat → Option Addr) := ⟨Own.fn⟩
/-- the addresses that may be held by many -/
def NN (p : Par) (O : Own) (a : Addr) : Prop := (p.N a ∨ p.H0 a = none) ∧ a ≠ p.r ∧ ∀ i, O i ≠ some a
def SlotOk (p : Par) (O : Own) (H : Hp) (i : Nat) (sv : Option (Option V)) : W → Prop
  | .d x => ∃ v, sv = some (some v) ∧ RepV p.K (NN p O) H v x
  | .own x => ∃ a, O i = some a ∧ sv = some (some (.ref a)) ∧ RepO p.K (NN p O) H a x
  | .row => sv = some (some (.ref p.r))
structure Rel (p : Par) (O : Own) (ρ : Env') (σ : L2.St) (H : Hp) : Prop where
  wd : Wd p H
  ext : Ext p p.H0 H
  len : σ.length = ρ.length
  slot : ∀ i w, ρ[i]? = some (some w) → SlotOk p O H i σ[i]? w
  inj : ∀ i j a, O i = some a → O j = some a → i = j
  keep : ∀ x ∈ O.ks, RepI p.K (NN p O) H x
  own : ∀ i a, O i = some a → p.H0 a = none ∧ a ≠ p.r ∧ (a ≠ p.scr ∨ KScr p) ∧ H a ≠ none ∧ Soft (H a)
theorem Keeps2.of_ext {p : Par} {H H' : Hp} {N N' : Addr → Prop} (e : Ext p H H') (hw : Wd p H) (hn : ∀ a, N a → a ≠ p.r) (h : ∀ a, N a → H a ≠ none → N' a) : Keeps2 N N' H H' := by
  obtain ⟨xs, hr⟩ := hw.r_some
  refine ⟨h, fun a o n ho nt => e.ob a o ho nt (hn a n), fun a ys ho => e.ob a _ ho (fun _ z => by cases z) (fun z => ?_), fun a o ys ho => e.ob a _ ho (fun _ z => by cases z) (fun z => ?_)⟩
  · rw [z, hr] at ho; cases ho
  · rw [z, hr] at ho; cases ho
theorem RepV.ext {p : Par} {H H' : Hp} {O : Own} {v : V} {d : D} (e : Ext p H H') (hw : Wd p H) (h : RepV p.K (NN p O) H v d) : RepV p.K (NN p O) H' v d :=
  RepV.keep (Keeps2.of_ext e hw (fun _ n => n.2.1) fun _ n _ => n) d v h
theorem RepAll.ext {p : Par} {H H' : Hp} {O : Own} {v : List V} {d : List D} (e : Ext p H H') (hw : Wd p H) (h : RepAll p.K (NN p O) H v d) : RepAll p.K (NN p O) H' v d :=
  RepAll.keep (Keeps2.of_ext e hw (fun _ n => n.2.1) fun _ n _ => n) d v h
theorem Rel.ext' {p : Par} {O : Own} {ρ : Env'} {σ : L2.St} {H H' : Hp} (R : Rel p O ρ σ H) (e : Ext p H H') : Rel p O ρ σ H' := by
  have oh : ∀ i a, O i = some a → H' a = H a := fun i a hi => by
    obtain ⟨_, nr, _, ne, sf⟩ := R.own i a hi
    cases q : H a with
    | none => exact absurd q ne
    | some o =>
      refine e.ob a o q (fun ps z => ?_) nr
      rw [q, z] at sf; exact sf
  refine ⟨e.wd, R.ext.trans e, R.len, fun i w hw => ?_, R.inj, fun i w => ?_, fun i a hi => ?_⟩
  · have h := R.slot i w hw
    cases w with
    | d x => obtain ⟨v, e1, e2⟩ := h; exact ⟨v, e1, e2.ext e R.wd⟩
    | own x =>
      obtain ⟨a, e1, e2, e3⟩ := h
      exact ⟨a, e1, e2, RepO.keep (Keeps2.of_ext e R.wd (fun _ n => n.2.1) fun _ n _ => n) (oh i a e1) e3⟩
    | row => exact h
  · exact RepI.keep (Keeps2.of_ext e R.wd (fun _ n => n.2.1) fun _ n _ => n) i (R.keep i w)
  · obtain ⟨h1, h2, h3, h4, h5⟩ := R.own i a hi
    rw [oh i a hi]
    exact ⟨h1, h2, h3, h4, h5⟩
def clr (O : Own) (i : Nat) : Own := ⟨fun j => if j = i then none else O j, O.ks⟩
def put (O : Own) (i : Nat) (a : Addr) : Own := ⟨fun j => if j = i then some a else O j, O.ks⟩
theorem NN.clr {p : Par} {O : Own} {i : Nat} {a : Addr} (h : NN p O a) : NN p (clr O i) a := ⟨h.1, h.2.1, fun j z => by
  unfold DD.clr at z
  dsimp only at z
  split at z
  · cases z
  · exact h.2.2 j z⟩
theorem keeps_clr {p : Par} {O : Own} {H : Hp} (i : Nat) : Keeps2 (NN p O) (NN p (clr O i)) H H := ⟨fun _ n _ => n.clr, fun _ _ _ e _ => e, fun _ _ e => e, fun _ _ _ e => e⟩
/-- a slot takes data -/
theorem Rel.set_d {p : Par} {O : Own} {ρ : Env'} {σ : L2.St} {H : Hp} {i : Nat} {v : V} {d : D} (R : Rel p O ρ σ H) (r : RepV p.K (NN p O) H v d) : Rel p (clr O i) (ρ.set i (some (.d d))) (σ.set i (some v)) H := by
  refine ⟨R.wd, R.ext, by rw [List.length_set, List.length_set]; exact R.len, fun j w hw => ?_, fun j k a hj hk => ?_, fun x hx => RepI.keep (keeps_clr i) x (R.keep x hx), fun j a hj => ?_⟩
  · rw [List.getElem?_set] at hw ⊢
    by_cases z : i = j
    · subst z
      rw [if_pos rfl] at hw ⊢
      split at hw
      · rename_i hlt
        cases hw
        rw [if_pos (by rw [R.len]; exact hlt)]
        exact ⟨v, rfl, RepV.keep (keeps_clr i) d v r⟩
      · cases hw
    · rw [if_neg z] at hw ⊢
      have h := R.slot j w hw
      cases w with
      | d x => obtain ⟨v, e1, e2⟩ := h; exact ⟨v, e1, RepV.keep (keeps_clr i) x v e2⟩
      | own x =>
        obtain ⟨a, e1, e2, e3⟩ := h
        exact ⟨a, (if_neg (Ne.symm z)).trans e1, e2, RepO.keep (keeps_clr i) rfl e3⟩
      | row => exact h
  · unfold clr at hj hk
    dsimp only at hj hk
    split at hj
    · cases hj
    · split at hk
      · cases hk
      · exact R.inj j k a hj hk
  · unfold clr at hj
    dsimp only at hj
    split at hj
    · cases hj
    · exact R.own j a hj
/-- a slot takes a fresh list or dict of its own -/
theorem Rel.set_own {p : Par} {O : Own} {ρ : Env'} {σ : L2.St} {H H' : Hp} {i : Nat} {a : Addr} {d : D} (R : Rel p O ρ σ H) (e : Ext p H H') (ha : H a = none) (r : RepO p.K (fun b => NN p O b ∧ b ≠ a) H' a d) : Rel p (put O i a) (ρ.set i (some (.own d))) (σ.set i (some (.ref a))) H' := by
  have R' := R.ext' e
  have h0 : p.H0 a = none := by
    cases q : p.H0 a with
    | none => rfl
    | some o => exact absurd ha (R.ext.dom a (by rw [q]; simp))
  have nr : a ≠ p.r := fun z => by
    obtain ⟨xs, q⟩ := R.wd.r_some
    rw [← z, ha] at q; cases q
  have no : ∀ j, O j ≠ some a := fun j z => (R.own j a z).2.2.2.1 ha
  have scr : a ≠ p.scr ∨ KScr p := by
    rcases R.wd.row.2 with h | h
    · refine .inl fun z => ?_
      rw [z] at ha
      rcases h with h | ⟨ob, h⟩ <;> (rw [ha] at h; cases h)
    · exact .inr h
  have sf : H' a ≠ none ∧ Soft (H' a) := by
    cases d with
    | list ds => obtain ⟨vs, h1, _⟩ := r; rw [h1]; exact ⟨by simp, trivial⟩
    | dict kvs => obtain ⟨o, es, h1, _⟩ := r; rw [h1.at_]; exact ⟨by simp, a, o, _, h1.dat.choose, rfl, h1.dat.choose_spec⟩
    | _ => exact r.elim
  have kk : Keeps2 (fun b => NN p O b ∧ b ≠ a) (NN p (put O i a)) H' H' := ⟨fun b n _ => ⟨n.1.1, n.1.2.1, fun j z => by
    unfold put at z
    dsimp only at z
    split at z
    · cases z; exact n.2 rfl
    · exact n.1.2.2 j z⟩, fun _ _ _ e _ => e, fun _ _ e => e, fun _ _ _ e => e⟩
  have kold : Keeps2 (NN p O) (NN p (put O i a)) H H' := by
    refine Keeps2.of_ext e R.wd (fun _ n => n.2.1) fun b n hb => ⟨n.1, n.2.1, fun j z => ?_⟩
    unfold put at z
    dsimp only at z
    split at z
    · cases z; exact hb ha
    · exact n.2.2 j z
  refine ⟨R'.wd, R'.ext, by rw [List.length_set, List.length_set]; exact R.len, fun j w hw => ?_, fun j k b hj hk => ?_, fun x hx => RepI.keep kold x (R.keep x hx), fun j b hj => ?_⟩
  · rw [List.getElem?_set] at hw ⊢
    by_cases z : i = j
    · subst z
      rw [if_pos rfl] at hw ⊢
      split at hw
      · rename_i hlt
        cases hw
        rw [if_pos (by rw [R.len]; exact hlt)]
        exact ⟨a, if_pos rfl, rfl, RepO.keep kk rfl r⟩
      · cases hw
    · rw [if_neg z] at hw ⊢
      have h := R.slot j w hw
      cases w with
      | d x => obtain ⟨v, e1, e2⟩ := h; exact ⟨v, e1, RepV.keep kold x v e2⟩
      | own x =>
        obtain ⟨b, e1, e2, e3⟩ := h
        have hb := R.own j b e1
        refine ⟨b, (if_neg (Ne.symm z)).trans e1, e2, RepO.keep kold ?_ e3⟩
        cases q : H b with
        | none => exact absurd q hb.2.2.2.1
        | some o => exact e.ob b o q (fun ps z => by have := hb.2.2.2.2; rw [q, z] at this; exact this) hb.2.1
      | row => exact h
  · unfold put at hj hk
    dsimp only at hj hk
    split at hj
    · rename_i q
      cases hj
      split at hk
      · rename_i q2; rw [q, q2]
      · exact absurd hk (no k)
    · split at hk
      · cases hk; exact absurd hj (no j)
      · exact R.inj j k b hj hk
  · unfold put at hj
    dsimp only at hj
    split at hj
    · cases hj; exact ⟨h0, nr, scr, sf.1, sf.2⟩
    · exact R'.own j b hj
/-- an own list or dict is written -/
theorem Rel.write {p : Par} {O : Own} {ρ : Env'} {σ : L2.St} {H : Hp} {i : Nat} {a : Addr} {d d' : D} {o : HO} (R : Rel p O ρ σ H) (hi : ρ[i]? = some (some (.own d))) (ha : O i = some a) (so : Soft (some o)) (r : RepO p.K (NN p O) (upd H a o) a d') : Rel p O (ρ.set i (some (.own d'))) σ (upd H a o) := by
  obtain ⟨h0, nr, hs, hne, sf⟩ := R.own i a ha
  have kk : Keeps2 (NN p O) (NN p O) H (upd H a o) := by
    refine ⟨fun _ n _ => n, fun b ob n e _ => ?_, fun b xs e => ?_, fun b ob xs e => ?_⟩
    · rw [upd_ne (fun z => n.2.2 i (by rw [z]; exact ha))]; exact e
    · rw [upd_ne (fun z => by rw [← z, e] at sf; exact sf)]; exact e
    · rw [upd_ne (fun z => by rw [← z, e] at sf; exact sf)]; exact e
  refine ⟨R.wd.upd sf nr (.inr hs), ⟨fun b ob e n m => ?_, fun b e => ?_, R.wd.upd sf nr (.inr hs)⟩, by rw [List.length_set]; exact R.len, fun j w hw => ?_, R.inj, fun x hx => RepI.keep kk x (R.keep x hx), fun j b hj => ?_⟩
  · rw [upd_ne (fun z => by rw [z, h0] at e; cases e)]
    exact R.ext.ob b ob e n m
  · by_cases z : b = a
    · rw [z]; unfold L2.upd; rw [if_pos rfl]; simp
    · rw [upd_ne z]; exact R.ext.dom b e
  · rw [List.getElem?_set] at hw
    by_cases z : i = j
    · subst z
      rw [if_pos rfl] at hw
      split at hw
      · cases hw
        obtain ⟨a', e1, e2, _⟩ := R.slot i _ hi
        rw [ha] at e1
        cases e1
        exact ⟨a, ha, e2, r⟩
      · cases hw
    · rw [if_neg z] at hw
      have h := R.slot j w hw
      cases w with
      | d x => obtain ⟨v, e1, e2⟩ := h; exact ⟨v, e1, RepV.keep kk x v e2⟩
      | own x =>
        obtain ⟨b, e1, e2, e3⟩ := h
        refine ⟨b, e1, e2, RepO.keep kk (upd_ne fun q => z ?_) e3⟩
        rw [q] at e1
        exact R.inj i j a ha e1
      | row => exact h
  · obtain ⟨q1, q2, q3, q4, q5⟩ := R.own j b hj
    by_cases z : b = a
    · rw [z] at q1 q2 q3 ⊢
      exact ⟨q1, q2, q3, by unfold L2.upd; rw [if_pos rfl]; simp, by unfold L2.upd; rw [if_pos rfl]; exact so⟩
    · rw [upd_ne z]; exact ⟨q1, q2, q3, q4, q5⟩
/-- forgetting slots -/
theorem Rel.forget {p : Par} {O : Own} {ρ ρ' : Env'} {σ : L2.St} {H : Hp} (R : Rel p O ρ σ H) (hl : ρ'.length = ρ.length) (h : ∀ (i : Nat) (w : W), ρ'[i]? = some (some w) → ρ[i]? = some (some w)) : Rel p O ρ' σ H :=
  ⟨R.wd, R.ext, by rw [hl]; exact R.len, fun i w hw => R.slot i w (h i w hw), R.inj, R.keep, R.own⟩
/-- the same, whoever holds the outermost object -/
def RepB (p : Par) (O : Own) (H : Hp) (v : V) (d : D) : Prop := RepV p.K (NN p O) H v d ∨ ∃ a, v = .ref a ∧ a ≠ p.r ∧ RepO p.K (NN p O) H a d
section
variable {p : Par} {O : Own} {H : Hp}
theorem RepV.b {v : V} {d : D} (h : RepV p.K (NN p O) H v d) : RepB p O H v d := .inl h
theorem RepB.list {v : V} {ds : List D} (h : RepB p O H v (.list ds)) : ∃ a vs, v = .ref a ∧ a ≠ p.r ∧ H a = some (.lst vs) ∧ RepAll p.K (NN p O) H vs ds := by
  rcases h with h | ⟨a, rfl, na, vs, h1, h2⟩
  · rw [RepV] at h
    obtain ⟨a, vs, e, n, h1, h2⟩ := h
    exact ⟨a, vs, e, n.2.1, h1, h2⟩
  · exact ⟨a, vs, rfl, na, h1, h2⟩
theorem RepB.tuple {v : V} {ds : List D} (h : RepB p O H v (.tuple ds)) : ∃ a vs, v = .ref a ∧ SqT p.K H a vs ∧ RepAll p.K (NN p O) H vs ds := by
  rcases h with h | ⟨a, rfl, _, h⟩
  · rw [RepV] at h; obtain ⟨a, vs, e, h1, h2⟩ := h; exact ⟨a, vs, e, .of h1, h2⟩
  · exact h.elim
theorem RepB.tup {v : V} {ds : List D} (h : RepB p O H v (.tuple ds)) : ∃ a vs, v = .ref a ∧ H a = some (.tup vs) ∧ RepAll p.K (NN p O) H vs ds := by
  rcases h with h | ⟨a, rfl, _, h⟩
  · rw [RepV] at h; exact h
  · exact h.elim
theorem RepB.int {v : V} {i : Int} (h : RepB p O H v (.int i)) : v = .int i := by
  rcases h with h | ⟨a, rfl, _, h⟩
  · rw [RepV] at h; exact h
  · exact h.elim
theorem RepB.bool {v : V} {i : Bool} (h : RepB p O H v (.bool i)) : v = .bl i := by
  rcases h with h | ⟨a, rfl, _, h⟩
  · rw [RepV] at h; exact h
  · exact h.elim
theorem RepB.str {v : V} {i : Str} (h : RepB p O H v (.str i)) : v = .str i := by
  rcases h with h | ⟨a, rfl, _, h⟩
  · rw [RepV] at h; exact h
  · exact h.elim
theorem RepB.none {v : V} (h : RepB p O H v .none) : v = .non := by
  rcases h with h | ⟨a, rfl, _, h⟩
  · rw [RepV] at h; exact h
  · exact h.elim
theorem RepB.dict {v : V} {kvs : List (D × D)} (h : RepB p O H v (.dict kvs)) : ∃ a o es, v = .ref a ∧ a ≠ p.r ∧ DkO H a o es ∧ RepKV p.K (NN p O) H es kvs ∧ KeysD kvs := by
  rcases h with h | ⟨a, rfl, na, h⟩
  · rw [RepV] at h
    obtain ⟨a, o, es, e, n, h1, h2, h3⟩ := h
    exact ⟨a, o, es, e, n.2.1, h1, h2, h3⟩
  · obtain ⟨o, es, h1, h2, h3⟩ := h
    exact ⟨a, o, es, rfl, na, h1, h2, h3⟩
end
theorem RepB.ext {q : Par} {H H' : Hp} {O : Own} {v : V} {d : D} (w : Wd q H) (e : Ext q H H') (h : RepB q O H v d) : RepB q O H' v d := by
  rcases h with h | ⟨a, rfl, na, h⟩
  · exact .inl (h.ext e w)
  · refine .inr ⟨a, rfl, na, RepO.keep (Keeps2.of_ext e w (fun _ n => n.2.1) fun _ n _ => n) ?_ h⟩
    cases d with
    | list ds => obtain ⟨vs, h1, _⟩ := h; rw [h1]; exact e.ob a _ h1 (fun ps z => by cases z) na
    | dict kvs => obtain ⟨o, es, h1, _⟩ := h; rw [h1.at_]; exact e.ob a _ h1.at_ (fun ps z => by cases z) na
    | _ => exact h.elim
end DD
set_option maxRecDepth 100000
set_option maxHeartbeats 2000000
/-! SemB: the judgements over plain data; names, constants, operators in general, tests, displays. -/
namespace DD
open PySem PySem.Spec PyProof.Rows L2
/-- what holds of any tracked heap -/
structure Hk (K : PySem.W.Frag) (H : Hp) : Prop where
  lenL : ∀ a xs, SqL K H a xs → xs.length ≤ sizeLine
  lenT : ∀ a xs, SqT K H a xs → xs.length ≤ sizeLine
  injL : ∀ a xs ys, SqL K H a xs → SqL K H a ys → xs = ys
  injT : ∀ a xs ys, SqT K H a xs → SqT K H a ys → xs = ys
  lenD : ∀ a kvs, H a = some (.dK kvs) → kvs.length ≤ sizeLine
  lenDT : ∀ a kvs, H a = some (.dT kvs) → kvs.length ≤ sizeLine
theorem hk_of {X : Cx} {pins : List (Addr × Obj)} {σ : L2.St} {H : Hp} {s : Shared} (I : Inv X pins σ H s) : Hk X.K H where
  lenL := fun a xs h => let ⟨_, _, _, z⟩ := I.list h; z
  lenT := fun a xs h => let ⟨_, _, _, z⟩ := I.tuple h; z
  injL := fun a xs ys h h' => I.list_inj h h'
  injT := fun a xs ys h h' => I.tuple_inj h h'
  lenD := fun a kvs e => (I.hok a _ e).1
  lenDT := fun a kvs e => (I.hok a _ e).1
abbrev Par.at (p : Par) (K : PySem.W.Frag) : Par := { p with K := K }
/-! ### using a rule of the layer -/
section
variable {X : Cx}
theorem pe_use {e : Expr} {t t' : TE} (h : PE X e t) (imp : ∀ σ H Q, Hk X.K H → t' σ H Q → t σ H (fun v H' => Hk X.K H' → Q v H')) : PE X e t' :=
  ⟨fun pins s σ H Q I ht => thn (h.run pins s σ H _ I (imp σ H Q (hk_of I) ht)) fun _ _ ⟨x, H', I', r, q⟩ => ⟨x, H', I', r, q (hk_of I')⟩⟩
theorem pt_use {e : Expr} {t t' : TT} (h : PT X e t) (imp : ∀ σ H Q, Hk X.K H → t' σ H Q → t σ H (fun v H' => Hk X.K H' → Q v H')) : PT X e t' :=
  ⟨fun pins s σ H Q I ht => thn (h.run pins s σ H _ I (imp σ H Q (hk_of I) ht)) fun _ _ ⟨H', I', q⟩ => ⟨H', I', q (hk_of I')⟩⟩
theorem pts_use {e : List Expr} {t t' : TT} (h : PTs X e t) (imp : ∀ σ H Q, Hk X.K H → t' σ H Q → t σ H (fun v H' => Hk X.K H' → Q v H')) : PTs X e t' :=
  ⟨fun pins s σ H Q I ht => thn (h.run pins s σ H _ I (imp σ H Q (hk_of I) ht)) fun _ _ ⟨H', I', q⟩ => ⟨H', I', q (hk_of I')⟩⟩
theorem pw_use {e : Expr} {t t' : TT} (h : PW X e t) (imp : ∀ σ H Q, Hk X.K H → t' σ H Q → t σ H (fun v H' => Hk X.K H' → Q v H')) : PW X e t' :=
  ⟨fun wh pins s σ H Q I ht => thn (h.run wh pins s σ H _ I (imp σ H Q (hk_of I) ht)) fun _ _ ⟨H', I', q⟩ => ⟨H', I', q (hk_of I')⟩⟩
theorem pa_use {es : List Expr} {t t' : TA} (h : PA X es t) (imp : ∀ σ H Q, Hk X.K H → t' σ H Q → t σ H (fun v H' => Hk X.K H' → Q v H')) : PA X es t' :=
  ⟨fun pos pins s σ H Q I ht => thn (h.run pos pins s σ H _ I (imp σ H Q (hk_of I) ht)) fun _ _ ⟨x, H', I', r, q⟩ => ⟨x, H', I', r, q (hk_of I')⟩⟩
theorem ps_use {st : Stmt} {t t' : TS} (h : PS X st t) (imp : ∀ D σ H, Hk X.K H → t' D σ H → t { nx := fun σ' H' => Hk X.K H' → D.nx σ' H', rt := fun v H' => Hk X.K H' → D.rt v H', bk := fun σ' H' => Hk X.K H' → D.bk σ' H', ct := fun σ' H' => Hk X.K H' → D.ct σ' H' } σ H) : PS X st t' :=
  ⟨fun pins s σ H D I ht => thn (h.run pins s σ H _ I (imp D σ H (hk_of I) ht)) fun f s' q => by
    cases f with
    | next => obtain ⟨σ', H', I', q⟩ := q; exact ⟨σ', H', I', q (hk_of I')⟩
    | brk => obtain ⟨σ', H', I', q⟩ := q; exact ⟨σ', H', I', q (hk_of I')⟩
    | cont => obtain ⟨σ', H', I', q⟩ := q; exact ⟨σ', H', I', q (hk_of I')⟩
    | ret u => obtain ⟨v, σ', H', I', r, q⟩ := q; exact ⟨v, σ', H', I', r, q (hk_of I')⟩⟩
theorem pss_use {st : List Stmt} {t t' : TS} (h : PSs X st t) (imp : ∀ D σ H, Hk X.K H → t' D σ H → t { nx := fun σ' H' => Hk X.K H' → D.nx σ' H', rt := fun v H' => Hk X.K H' → D.rt v H', bk := fun σ' H' => Hk X.K H' → D.bk σ' H', ct := fun σ' H' => Hk X.K H' → D.ct σ' H' } σ H) : PSs X st t' :=
  ⟨fun pins s σ H D I ht => thn (h.run pins s σ H _ I (imp D σ H (hk_of I) ht)) fun f s' q => by
    cases f with
    | next => obtain ⟨σ', H', I', q⟩ := q; exact ⟨σ', H', I', q (hk_of I')⟩
    | brk => obtain ⟨σ', H', I', q⟩ := q; exact ⟨σ', H', I', q (hk_of I')⟩
    | cont => obtain ⟨σ', H', I', q⟩ := q; exact ⟨σ', H', I', q (hk_of I')⟩
    | ret u => obtain ⟨v, σ', H', I', r, q⟩ := q; exact ⟨v, σ', H', I', r, q (hk_of I')⟩⟩
end
/-! ### the judgements -/
/-- the wish of an error as data -/
abbrev EXn := Exn → Prop
abbrev WE := Env' → (D → Prop) → EXn → Prop
abbrev WT := Env' → (Bool → Prop) → EXn → Prop
abbrev WA := Env' → (List D → Prop) → EXn → Prop
/-- arguments of own defs: data, the drawing row -/
abbrev WW := Env' → (List W → Prop) → EXn → Prop
structure EndsW where
  nx : Env' → Prop
  rt : D → Prop
  bk : Env' → Prop := fun _ => False
  ct : Env' → Prop := fun _ => False
  ex : EXn
abbrev WS := EndsW → Env' → Prop
/-- an error in the heap -/
def ExnAt (p : Par) (H : Hp) : Exn → Value → Option Addr → Prop
  | .bad n, cls, dd => cls = .ref p.cBad ∧ ∃ d, dd = some d ∧ H d = some (.xd [(("name" : Str), .str n)])
  | .unread o y, cls, dd => cls = .ref p.cUnr ∧ ∃ d, dd = some d ∧ H d = some (.xd [(("why" : Str), .str y), (("offset" : Str), .int o)])
def ExOk (p : Par) (EX : EXn) : Prop := ∀ x cls dd H', EX x → Ext p p.H0 H' → ExnAt p H' x cls dd → p.E cls dd H'
/-- a state that is read -/
def At (p : Par) (σ : L2.St) (H : Hp) (R : Own → Env' → EXn → Prop) : Prop := ∃ ρ O EX, Rel p O ρ σ H ∧ ExOk p EX ∧ R O ρ EX
def RE (p : Par) (O : Own) (H : Hp) (Q : VK) (d : D) : Prop := ∀ v H', Hk p.K H' → Ext p H H' → RepV p.K (NN p O) H' v d → Q v H'
def RB (p : Par) (O : Own) (H : Hp) (Q : VK) (d : D) : Prop := ∀ v H', Hk p.K H' → Ext p H H' → RepB p O H' v d → Q v H'
def RF (p : Par) (O : Own) (H : Hp) (Q : VK) (d : D) : Prop := ∀ a H', Hk p.K H' → Ext p H H' → H a = none → RepO p.K (fun b => NN p O b ∧ b ≠ a) H' a d → Q (.ref a) H'
def LE (p : Par) (w : WE) : TE := fun σ H Q => At p σ H fun O ρ EX => w ρ (RE p O H Q) EX
/-- the outermost object may be one's own -/
def LB (p : Par) (w : WE) : TE := fun σ H Q => At p σ H fun O ρ EX => w ρ (RB p O H Q) EX
/-- a fresh list or dict -/
def LF (p : Par) (w : WE) : TE := fun σ H Q => At p σ H fun O ρ EX => w ρ (RF p O H Q) EX
def LT (p : Par) (w : WT) : TT := fun σ H Q => At p σ H fun O ρ EX => w ρ (fun b => ∀ H', Hk p.K H' → Ext p H H' → Q b H') EX
def LA (p : Par) (w : WA) : TA := fun σ H Q => At p σ H fun O ρ EX => w ρ (fun ds => ∀ vs H', Hk p.K H' → Ext p H H' → RepAll p.K (NN p O) H' vs ds → Q vs H') EX
/-- arguments whose outermost objects may be one's own -/
def LBs (p : Par) (w : WA) : TA := fun σ H Q => At p σ H fun O ρ EX => w ρ (fun ds => ∀ vs H', Hk p.K H' → Ext p H H' → Paired (RepB p O H') vs ds → Q vs H') EX
def RepW (p : Par) (N : Addr → Prop) (H : Hp) (v : V) : W → Prop
  | .d x => RepV p.K N H v x
  | .row => v = .ref p.r
  | .own _ => False
def LW (p : Par) (w : WW) : TA := fun σ H Q => At p σ H fun O ρ EX => w ρ (fun ds => ∀ vs H', Hk p.K H' → Ext p H H' → Paired (RepW p (NN p O) H') vs ds → Q vs H') EX
def noOwn : Own := ⟨fun _ => none, []⟩
def LS (p : Par) (w : WS) : TS := fun D σ H => At p σ H fun O ρ EX => w { nx := fun ρ' => ∀ O' σ' H', O'.ks = O.ks → Hk p.K H' → Rel p O' ρ' σ' H' → D.nx σ' H', rt := fun d => ∀ v H', Hk p.K H' → Ext p p.H0 H' → RepV p.K (NN p noOwn) H' v d → D.rt v H', bk := fun ρ' => ∀ O' σ' H', O'.ks = O.ks → Hk p.K H' → Rel p O' ρ' σ' H' → D.bk σ' H', ct := fun ρ' => ∀ O' σ' H', O'.ks = O.ks → Hk p.K H' → Rel p O' ρ' σ' H' → D.ct σ' H', ex := EX } ρ
def MonoE (w : WE) : Prop := ∀ ρ Q Q' EX, (∀ d, Q d → Q' d) → w ρ Q EX → w ρ Q' EX
def MonoT (w : WT) : Prop := ∀ ρ Q Q' EX, (∀ d, Q d → Q' d) → w ρ Q EX → w ρ Q' EX
def MonoA (w : WA) : Prop := ∀ ρ Q Q' EX, (∀ d, Q d → Q' d) → w ρ Q EX → w ρ Q' EX
def MonoW (w : WW) : Prop := ∀ ρ Q Q' EX, (∀ d, Q d → Q' d) → w ρ Q EX → w ρ Q' EX
structure EndsW.le (D D' : EndsW) : Prop where
  nx : ∀ ρ, D.nx ρ → D'.nx ρ
  rt : ∀ d, D.rt d → D'.rt d
  bk : ∀ ρ, D.bk ρ → D'.bk ρ
  ct : ∀ ρ, D.ct ρ → D'.ct ρ
  ex : D.ex = D'.ex
def MonoS (w : WS) : Prop := ∀ D D' ρ, D.le D' → w D ρ → w D' ρ
structure DE (p : Par) (X : Cx) (e : Expr) (w : WE) : Prop where
  pe : PE X e (LE (p.at X.K) w)
  mono : MonoE w
structure DB (p : Par) (X : Cx) (e : Expr) (w : WE) : Prop where
  pe : PE X e (LB (p.at X.K) w)
  mono : MonoE w
structure DF (p : Par) (X : Cx) (e : Expr) (w : WE) : Prop where
  pe : PE X e (LF (p.at X.K) w)
  mono : MonoE w
structure DT (p : Par) (X : Cx) (e : Expr) (w : WT) : Prop where
  pt : PT X e (LT (p.at X.K) w)
  mono : MonoT w
structure DW (p : Par) (X : Cx) (e : Expr) (w : WT) : Prop where
  pw : PW X e (LT (p.at X.K) w)
  mono : MonoT w
structure DA (p : Par) (X : Cx) (es : List Expr) (w : WA) : Prop where
  pa : PA X es (LA (p.at X.K) w)
  mono : MonoA w
structure DBs (p : Par) (X : Cx) (es : List Expr) (w : WA) : Prop where
  pa : PA X es (LBs (p.at X.K) w)
  mono : MonoA w
structure DWs (p : Par) (X : Cx) (es : List Expr) (w : WW) : Prop where
  pa : PA X es (LW (p.at X.K) w)
  mono : MonoW w
structure DS (p : Par) (X : Cx) (st : Stmt) (w : WS) : Prop where
  ps : PS X st (LS (p.at X.K) w)
  mono : MonoS w
structure DSs (p : Par) (X : Cx) (st : List Stmt) (w : WS) : Prop where
  ps : PSs X st (LS (p.at X.K) w)
  mono : MonoS w
/-! ### states, posts -/
section
variable {p : Par} {O : Own} {ρ : Env'} {σ : L2.St} {H H1 H2 : Hp} {Q : VK} {d : D}
/-- what a rule about values may lean on -/
structure Ok (p : Par) (O : Own) (H : Hp) : Prop where
  hk : Hk p.K H
  wd : Wd p H
  fr : ∀ a, H a = none → NN p O a
theorem Rel.fresh0 {a : Addr} (R : Rel p O ρ σ H) (ha : H a = none) : NN p O a := by
  refine ⟨.inr ?_, fun z => ?_, fun i z => (R.own i a z).2.2.2.1 ha⟩
  · cases e : p.H0 a with
    | none => rfl
    | some o => exact absurd ha (R.ext.dom a (by rw [e]; simp))
  · obtain ⟨xs, e⟩ := R.wd.r_some
    rw [← z, ha] at e; cases e
theorem Rel.ok (R : Rel p O ρ σ H) (hk : Hk p.K H) : Ok p O H := ⟨hk, R.wd, fun _ h => R.fresh0 h⟩
theorem RE.to (q : RE p O H Q d) (e : Ext p H H1) : RE p O H1 Q d := fun v H' hk e' r => q v H' hk (e.trans e') r
theorem RB.to (q : RB p O H Q d) (e : Ext p H H1) : RB p O H1 Q d := fun v H' hk e' r => q v H' hk (e.trans e') r
theorem Ext.none {a : Addr} (e : Ext p H H1) (h : H1 a = none) : H a = none := by
  cases q : H a with
  | none => rfl
  | some o => exact absurd h (e.dom a (by rw [q]; simp))
theorem RF.to (q : RF p O H Q d) (e : Ext p H H1) : RF p O H1 Q d := fun a H' hk e' n r => q a H' hk (e.trans e') (e.none n) r
theorem RB.e (q : RB p O H Q d) : RE p O H Q d := fun v H' hk e r => q v H' hk e r.b
theorem RE.f (ok : Ok p O H) (q : RE p O H Q d) : RF p O H Q d := fun a H' hk e n r => q _ H' hk e (RepO.v (RepO.keep ⟨fun _ n _ => n.1, fun _ _ _ e _ => e, fun _ _ e => e, fun _ _ _ e => e⟩ rfl r) (ok.fr a n))
theorem RE.imp {Q' : VK} (h : ∀ v H', Hk p.K H' → Q v H' → Q' v H') (q : RE p O H Q d) : RE p O H Q' d := fun v H' hk e r => h v H' hk (q v H' hk e r)
/-- an immediate value, the heap as it is -/
theorem RE.now (q : RE p O H Q d) (ok : Ok p O H) {v : V} (r : RepV p.K (NN p O) H v d) : Q v H := q v H ok.hk (Ext.refl ok.wd) r
theorem RB.now (q : RB p O H Q d) (ok : Ok p O H) {v : V} (r : RepB p O H v d) : Q v H := q v H ok.hk (Ext.refl ok.wd) r
theorem rep_new {a : Addr} {o : HO} {ds : List D} {vs : List V} (ok : Ok p O H) (ha : H a = none) (r : RepAll p.K (NN p O) H vs ds) : RepAll p.K (fun b => NN p O b ∧ b ≠ a) (upd H a o) vs ds :=
  RepAll.keep (Keeps2.of_ext (Ext.new ok.wd ha) ok.wd (fun _ n => n.2.1) fun b n h => ⟨n, fun z => h (by rw [z]; exact ha)⟩) ds vs r
theorem Wd.sideR {a : Addr} (w : Wd p H) (n : H a = Option.none) : a ≠ p.r ∧ (a ≠ p.scr ∨ KScr p) := by
  refine ⟨fun z => ?_, ?_⟩
  · obtain ⟨xs, hr⟩ := w.r_some
    rw [← z, n] at hr; cases hr
  · rcases w.row.2 with h | h
    · refine .inl fun z => ?_
      rw [z] at n
      rcases h with h | ⟨ob, h⟩ <;> (rw [n] at h; cases h)
    · exact .inr h
/-- a fresh list comes -/
theorem RF.list {ds : List D} {vs : List V} {a : Addr} (q : RF p O H Q (.list ds)) (ok : Ok p O H) (ha : H a = none) (r : RepAll p.K (NN p O) H vs ds) (hk : Hk p.K (upd H a (.lst vs))) : Q (.ref a) (upd H a (.lst vs)) :=
  q a _ hk (Ext.new ok.wd ha) ha ⟨vs, by unfold L2.upd; rw [if_pos rfl], rep_new ok ha r⟩
theorem RE.tup {ds : List D} {vs : List V} {a : Addr} (q : RE p O H Q (.tuple ds)) (ok : Ok p O H) (ha : H a = none) (r : RepAll p.K (NN p O) H vs ds) (hk : Hk p.K (upd H a (.tup vs))) : Q (.ref a) (upd H a (.tup vs)) :=
  q _ _ hk (Ext.new ok.wd ha) (rep_tuple (by unfold L2.upd; rw [if_pos rfl]) (r.ext (Ext.new ok.wd ha) ok.wd))
end
/-! ### values: functions, tests -/
abbrev F1 := D → (D → Prop) → Prop
abbrev F2 := D → D → (D → Prop) → Prop
abbrev FN := List D → (D → Prop) → Prop
abbrev G1 := D → (Bool → Prop) → Prop
abbrev G2 := D → D → (Bool → Prop) → Prop
/-- monotone in the post -/
def M0 {α : Type} (f : (α → Prop) → Prop) : Prop := ∀ Q Q', (∀ d, Q d → Q' d) → f Q → f Q'
/-- two values to a value (the outermost object fresh: RF, else RE) -/
structure Op2 (p : Par) (f : F2) (r : R2) : Prop where
  ok : ∀ O H x y a b (Q : VK), Ok p O H → RepB p O H x a → RepB p O H y b → f a b (RE p O H Q) → r x y H (fun v H' => Hk p.K H' → Q v H')
  mono : ∀ a b, M0 (f a b)
structure Op2F (p : Par) (f : F2) (r : R2) : Prop where
  ok : ∀ O H x y a b (Q : VK), Ok p O H → RepB p O H x a → RepB p O H y b → f a b (RF p O H Q) → r x y H (fun v H' => Hk p.K H' → Q v H')
  mono : ∀ a b, M0 (f a b)
structure Cmp2 (p : Par) (g : G2) (r : R2) : Prop where
  ok : ∀ O H x y a b (Qb : Bool → Prop) (Q : VK), Ok p O H → RepB p O H x a → RepB p O H y b → g a b Qb → (∀ k, Qb k → Q (.bl k) H) → r x y H Q
  mono : ∀ a b, M0 (g a b)
structure OpN (p : Par) (f : FN) (r : List V → Hp → VK → Prop) : Prop where
  ok : ∀ O H xs ds (Q : VK), Ok p O H → Paired (RepB p O H) xs ds → f ds (RE p O H Q) → r xs H (fun v H' => Hk p.K H' → Q v H')
  mono : ∀ a, M0 (f a)
structure OpNF (p : Par) (f : FN) (r : List V → Hp → VK → Prop) : Prop where
  ok : ∀ O H xs ds (Q : VK), Ok p O H → Paired (RepB p O H) xs ds → f ds (RF p O H Q) → r xs H (fun v H' => Hk p.K H' → Q v H')
  mono : ∀ a, M0 (f a)
def wOp2 (f : F2) (wa wb : WE) : WE := fun ρ Q EX => wa ρ (fun a => wb ρ (fun b => f a b Q) EX) EX
def wOp1 (f : F1) (wa : WE) : WE := fun ρ Q EX => wa ρ (fun a => f a Q) EX
def wOpN (f : FN) (wa : WA) : WE := fun ρ Q EX => wa ρ (fun a => f a Q) EX
def wCmp2 (g : G2) (wa wb : WE) : WE := fun ρ Q EX => wa ρ (fun a => wb ρ (fun b => g a b fun k => Q (.bool k)) EX) EX
def wTst2 (g : G2) (wa wb : WE) : WT := fun ρ Q EX => wa ρ (fun a => wb ρ (fun b => g a b Q) EX) EX
theorem mono_Op2 {f : F2} {wa wb : WE} (mf : ∀ a b, M0 (f a b)) (ma : MonoE wa) (mb : MonoE wb) : MonoE (wOp2 f wa wb) := fun ρ Q Q' EX h q => ma _ _ _ _ (fun a q => mb _ _ _ _ (fun b q => mf a b _ _ h q) q) q
theorem mono_OpN {f : FN} {wa : WA} (mf : ∀ a, M0 (f a)) (ma : MonoA wa) : MonoE (wOpN f wa) := fun ρ Q Q' EX h q => ma _ _ _ _ (fun a q => mf a _ _ h q) q
theorem mono_Cmp2 {f : G2} {wa wb : WE} (mf : ∀ a b, M0 (f a b)) (ma : MonoE wa) (mb : MonoE wb) : MonoE (wCmp2 f wa wb) := fun ρ Q Q' EX h q => ma _ _ _ _ (fun a q => mb _ _ _ _ (fun b q => mf a b _ _ (fun _ => h _) q) q) q
theorem mono_Tst2 {f : G2} {wa wb : WE} (mf : ∀ a b, M0 (f a b)) (ma : MonoE wa) (mb : MonoE wb) : MonoT (wTst2 f wa wb) := fun ρ Q Q' EX h q => ma _ _ _ _ (fun a q => mb _ _ _ _ (fun b q => mf a b _ _ (fun _ => h _) q) q) q
section
variable {p : Par} {X : Cx} {pos : Pos} {a b : Expr} {wa wb : WE}
/-- two borrowed values, one after the other -/
theorem two {R : V → V → Hp → Prop} {σ : L2.St} {H : Hp} {O : Own} {ρ : Env'} {EX : EXn} {S : D → D → Prop} (ha : DB p X a wa) (hb : DB p X b wb) (Rl : Rel (p.at X.K) O ρ σ H) (ex : ExOk (p.at X.K) EX)
    (hw : wa ρ (fun a => wb ρ (fun b => S a b) EX) EX) (h : ∀ x y da db H2, Ok (p.at X.K) O H2 → Ext (p.at X.K) H H2 → RepB (p.at X.K) O H2 x da → RepB (p.at X.K) O H2 y db → S da db → R x y H2) :
    LB (p.at X.K) wa σ H fun x H1 => LB (p.at X.K) wb σ H1 fun y H2 => R x y H2 :=
  ⟨ρ, O, EX, Rl, ex, ha.mono _ _ _ _ (fun da q v H1 hk1 e1 r1 => ⟨ρ, O, EX, Rl.ext' e1, ex, hb.mono _ _ _ _ (fun db q u H2 hk2 e2 r2 =>
    h v u da db H2 ((Rl.ext' (e1.trans e2)).ok hk2) (e1.trans e2) (r1.ext e1.wd e2) r2 q) q⟩) hw⟩
theorem de_op {op : Operator} {r : R2} {f : F2} (ho : OpR X (binaryOp op) r) (hr : Op2 (p.at X.K) f r) (ha : DB p X a wa) (hb : DB p X b wb) : DE p X (.BinOp a op b pos) (wOp2 f wa wb) :=
  ⟨pe_use (pe_op ho ha.pe hb.pe) fun σ H Q hk ⟨ρ, O, EX, R, ex, hw⟩ => two (S := fun a b => f a b _) ha hb R ex hw fun x y da db H2 ok e rx ry q => hr.ok O H2 x y da db Q ok rx ry (hr.mono _ _ _ _ (fun d q => q.to e) q), mono_Op2 hr.mono ha.mono hb.mono⟩
theorem df_op {op : Operator} {r : R2} {f : F2} (ho : OpR X (binaryOp op) r) (hr : Op2F (p.at X.K) f r) (ha : DB p X a wa) (hb : DB p X b wb) : DF p X (.BinOp a op b pos) (wOp2 f wa wb) :=
  ⟨pe_use (pe_op ho ha.pe hb.pe) fun σ H Q hk ⟨ρ, O, EX, R, ex, hw⟩ => two (S := fun a b => f a b _) ha hb R ex hw fun x y da db H2 ok e rx ry q => hr.ok O H2 x y da db Q ok rx ry (hr.mono _ _ _ _ (fun d q => q.to e) q), mono_Op2 hr.mono ha.mono hb.mono⟩
theorem de_ix {r : R2} {f : F2} (ho : IxR X r) (hr : Op2 (p.at X.K) f r) (ha : DB p X a wa) (hb : DB p X b wb) (hs : PlainIx b := by intro _ _; rfl) : DE p X (.Subscript a b pos) (wOp2 f wa wb) :=
  ⟨pe_use (pe_ix ho ha.pe hb.pe hs) fun σ H Q hk ⟨ρ, O, EX, R, ex, hw⟩ => two (S := fun a b => f a b _) ha hb R ex hw fun x y da db H2 ok e rx ry q => hr.ok O H2 x y da db Q ok rx ry (hr.mono _ _ _ _ (fun d q => q.to e) q), mono_Op2 hr.mono ha.mono hb.mono⟩
theorem de_cmp {op : CmpOp} {r : R2} {g : G2} (ho : OpR X (compareOp op) r) (hr : Cmp2 (p.at X.K) g r) (ha : DB p X a wa) (hb : DB p X b wb) (hm : behindInMarks op b = false := by first | exact nomark _ | rfl) : DE p X (.Compare a [op] [b] pos) (wCmp2 g wa wb) :=
  ⟨pe_use (pe_cmpR ho ha.pe hb.pe hm) fun σ H Q hk ⟨ρ, O, EX, R, ex, hw⟩ => two (S := fun a b => g a b _) ha hb R ex hw fun x y da db H2 ok e rx ry q => hr.ok O H2 x y da db _ _ ok rx ry q fun k q hk' => q _ _ hk' e rep_bool, mono_Cmp2 hr.mono ha.mono hb.mono⟩
theorem dt_cmp {op : CmpOp} {r : R2} {g : G2} (ho : OpR X (compareOp op) r) (hr : Cmp2 (p.at X.K) g r) (ha : DB p X a wa) (hb : DB p X b wb) (hm : behindInMarks op b = false := by first | exact nomark _ | rfl) : DT p X (.Compare a [op] [b] pos) (wTst2 g wa wb) :=
  ⟨pt_use (pt_cmpR ho ha.pe hb.pe hm) fun σ H Q hk ⟨ρ, O, EX, R, ex, hw⟩ => two (S := fun a b => g a b _) ha hb R ex hw fun x y da db H2 ok e rx ry q => hr.ok O H2 x y da db _ _ ok rx ry q fun k q => ⟨k, rfl, fun hk' => q _ hk' e⟩, mono_Tst2 hr.mono ha.mono hb.mono⟩
/-- a chain x < y < z -/
def wChain (g g' : G2) (wa wb wc : WE) : WT := fun ρ Q EX => wa ρ (fun a => wb ρ (fun b => g a b fun k => if k = true then wc ρ (fun c => g' b c Q) EX else Q false) EX) EX
def wChainE (g g' : G2) (wa wb wc : WE) : WE := fun ρ Q EX => wChain g g' wa wb wc ρ (fun k => Q (.bool k)) EX
theorem mono_Chain {g g' : G2} {wa wb wc : WE} (m1 : ∀ a b, M0 (g a b)) (m2 : ∀ a b, M0 (g' a b)) (ma : MonoE wa) (mb : MonoE wb) (mc : MonoE wc) : MonoT (wChain g g' wa wb wc) := fun ρ Q Q' EX h q =>
  ma _ _ _ _ (fun a q => mb _ _ _ _ (fun b q => m1 a b _ _ (fun k q => by
    by_cases z : k = true
    · rw [if_pos z] at q ⊢; exact mc _ _ _ _ (fun c q => m2 b c _ _ h q) q
    · rw [if_neg z] at q ⊢; exact h _ q) q) q) q
end
/-! ### names, constants -/
section
variable {p : Par} {X : Cx} {pos : Pos}
def wC (d : D) : WE := fun _ Q _ => Q d
def wVar (i : Nat) : WE := fun ρ Q _ => match ρ[i]? with
  | some (some (.d d)) => Q d
  | _ => False
def wOwn (i : Nat) : WE := fun ρ Q _ => match ρ[i]? with
  | some (some (.own d)) => Q d
  | _ => False
theorem mono_C {d : D} : MonoE (wC d) := fun _ _ _ _ h q => h _ q
theorem mono_Var {i : Nat} : MonoE (wVar i) := fun ρ Q Q' EX h q => by
  unfold wVar at q ⊢
  split at q <;> first | exact h _ q | exact q.elim
theorem mono_Own {i : Nat} : MonoE (wOwn i) := fun ρ Q Q' EX h q => by
  unfold wOwn at q ⊢
  split at q <;> first | exact h _ q | exact q.elim
theorem de_C {e : Expr} {v : V} {d : D} (h : PE X e (tC v)) (r : ∀ (K : PySem.W.Frag) (N : Addr → Prop) (H : Hp), RepV K N H v d) : DE p X e (wC d) :=
  ⟨pe_use h fun σ H Q hk ⟨ρ, O, EX, R, ex, hw⟩ => fun hk' => hw v H hk' (Ext.refl R.wd) (r _ _ _), mono_C⟩
theorem de_int {i : Int} {j : Nat} : DE p X (.Constant (.int i) j pos) (wC (.int i)) := de_C pe_int fun _ _ _ => rep_int
theorem de_bl {b : Bool} {j : Nat} : DE p X (.Constant (.bool b) j pos) (wC (.bool b)) := de_C pe_bl fun _ _ _ => rep_bool
theorem de_non {j : Nat} : DE p X (.Constant .none j pos) (wC .none) := de_C pe_non fun _ _ _ => rep_none
theorem de_str {x : Str} {j : Nat} : DE p X (.Constant (.str x) j pos) (wC (.str x)) := de_C pe_str fun _ _ _ => rep_str
/-- a module's constant -/
theorem de_globI {x : Str} {i : Int} (hm : ∃ t, X.mg x = some (.int i t)) (hg : Gl X x := by rfl) (hd : (x == ("__debug__" : Str)) = false := by decide) : DE p X (.Name x pos) (wC (.int i)) := by
  obtain ⟨t, hm⟩ := hm
  exact de_C (v := .int i) (pe_glob hg hm ⟨t, rfl⟩ hd) fun _ _ _ => rep_int
theorem de_globS {x : Str} {i : Str} (hm : ∃ t, X.mg x = some (.str i t)) (hg : Gl X x := by rfl) (hd : (x == ("__debug__" : Str)) = false := by decide) : DE p X (.Name x pos) (wC (.str i)) := by
  obtain ⟨t, hm⟩ := hm
  exact de_C (v := .str i) (pe_glob hg hm ⟨t, rfl⟩ hd) fun _ _ _ => rep_str
theorem de_var (i : Nat) {x : Str} (hN : X.N[i]? = some x := by rfl) (hv : Vis X.env.scope x := by first | exact .inl rfl | exact .inr (.inl rfl) | exact .inr (.inr rfl)) (hd : (x == ("__debug__" : Str)) = false := by decide) (hcd : (x == ("__classdict__" : Str)) = false := by decide) : DE p X (.Name x pos) (wVar i) := by
  refine ⟨pe_use (pe_var (i := i) hN hv hd hcd) fun σ H Q hk ⟨ρ, O, EX, R, ex, hw⟩ => ?_, mono_Var⟩
  have hw2 : wVar i ρ _ EX := hw
  unfold wVar at hw2
  split at hw2
  · rename_i d e
    obtain ⟨v, e1, r⟩ := R.slot i _ e
    exact ⟨v, e1, fun hk' => hw2 v H hk' (Ext.refl R.wd) r⟩
  · exact hw2.elim
theorem db_own (i : Nat) {x : Str} (hN : X.N[i]? = some x := by rfl) (hv : Vis X.env.scope x := by first | exact .inl rfl | exact .inr (.inl rfl) | exact .inr (.inr rfl)) (hd : (x == ("__debug__" : Str)) = false := by decide) (hcd : (x == ("__classdict__" : Str)) = false := by decide) : DB p X (.Name x pos) (wOwn i) := by
  refine ⟨pe_use (pe_var (i := i) hN hv hd hcd) fun σ H Q hk ⟨ρ, O, EX, R, ex, hw⟩ => ?_, mono_Own⟩
  have hw2 : wOwn i ρ _ EX := hw
  unfold wOwn at hw2
  split at hw2
  · rename_i d e
    obtain ⟨a, ha, e1, r⟩ := R.slot i _ e
    exact ⟨.ref a, e1, fun hk' => hw2 (.ref a) H hk' (Ext.refl R.wd) (.inr ⟨a, rfl, (R.own i a ha).2.1, r⟩)⟩
  · exact hw2.elim
theorem pe_hk {e : Expr} {t : TE} (h : PE X e t) : PE X e (fun σ H Q => t σ H fun v H' => Hk X.K H' → Q v H') :=
  ⟨fun pins s σ H Q I ht => thn (h.run pins s σ H _ I ht) fun _ _ ⟨x, H', I', r, q⟩ => ⟨x, H', I', r, q (hk_of I')⟩⟩
theorem DE.b {e : Expr} {w : WE} (h : DE p X e w) : DB p X e w :=
  ⟨pe_use h.pe fun σ H Q hk ⟨ρ, O, EX, R, ex, hw⟩ => ⟨ρ, O, EX, R, ex, h.mono _ _ _ _ (fun d q => RB.e fun v H' hk' e r _ => q v H' hk' e r) hw⟩, h.mono⟩
theorem DF.e {e : Expr} {w : WE} (h : DF p X e w) : DE p X e w :=
  ⟨pe_use h.pe fun σ H Q hk ⟨ρ, O, EX, R, ex, hw⟩ => ⟨ρ, O, EX, R, ex, h.mono _ _ _ _ (fun d q => RE.f (R.ok hk) fun v H' hk' e r _ => q v H' hk' e r) hw⟩, h.mono⟩
/-! ### arguments, displays -/
def waNil : WA := fun _ Q _ => Q []
def waCons (w : WE) (r : WA) : WA := fun ρ Q EX => w ρ (fun d => r ρ (fun ds => Q (d :: ds)) EX) EX
theorem mono_aNil : MonoA waNil := fun _ _ _ _ h q => h _ q
theorem mono_aCons {w : WE} {r : WA} (h1 : MonoE w) (h2 : MonoA r) : MonoA (waCons w r) := fun ρ Q Q' EX h q => h1 _ _ _ _ (fun d q => h2 _ _ _ _ (fun ds q => h _ q) q) q
theorem da_nil : DA p X [] waNil := ⟨pa_use pa_nil fun σ H Q hk ⟨ρ, O, EX, R, ex, hw⟩ => fun hk' => hw [] H hk' (Ext.refl R.wd) rall_nil, mono_aNil⟩
theorem da_cons {e : Expr} {es : List Expr} {w : WE} {r : WA} (h : DE p X e w) (t : DA p X es r) (hs : starEach (e :: es) X.env = (false, eval e X.env) :: starEach es X.env := by rfl) : DA p X (e :: es) (waCons w r) :=
  ⟨pa_use (pa_cons h.pe t.pa hs) fun σ H Q hk ⟨ρ, O, EX, R, ex, hw⟩ => ⟨ρ, O, EX, R, ex, h.mono _ _ _ _ (fun d q v H1 hk1 e1 r1 => ⟨ρ, O, EX, R.ext' e1, ex, t.mono _ _ _ _ (fun ds q vs H2 hk2 e2 r2 _ =>
    q (v :: vs) H2 hk2 (e1.trans e2) (rall_cons (r1.ext e2 e1.wd) r2)) q⟩) hw⟩, mono_aCons h.mono t.mono⟩
theorem dbs_nil : DBs p X [] waNil := ⟨pa_use pa_nil fun σ H Q hk ⟨ρ, O, EX, R, ex, hw⟩ => fun hk' => hw [] H hk' (Ext.refl R.wd) .nil, mono_aNil⟩
theorem RepBs.ext {q : Par} {H H' : Hp} {O : Own} (w : Wd q H) (e : Ext q H H') : ∀ {vs : List V} {ds : List D}, Paired (RepB q O H) vs ds → Paired (RepB q O H') vs ds
  | _, _, .nil => .nil
  | _, _, .cons h t => .cons (h.ext w e) (RepBs.ext w e t)
theorem dbs_cons {e : Expr} {es : List Expr} {w : WE} {r : WA} (h : DB p X e w) (t : DBs p X es r) (hs : starEach (e :: es) X.env = (false, eval e X.env) :: starEach es X.env := by rfl) : DBs p X (e :: es) (waCons w r) :=
  ⟨pa_use (pa_cons h.pe t.pa hs) fun σ H Q hk ⟨ρ, O, EX, R, ex, hw⟩ => ⟨ρ, O, EX, R, ex, h.mono _ _ _ _ (fun d q v H1 hk1 e1 r1 => ⟨ρ, O, EX, R.ext' e1, ex, t.mono _ _ _ _ (fun ds q vs H2 hk2 e2 r2 _ =>
    q (v :: vs) H2 hk2 (e1.trans e2) (.cons (r1.ext e1.wd e2) r2)) q⟩) hw⟩, mono_aCons h.mono t.mono⟩
/-- arguments of own defs -/
def wwNil : WW := fun _ Q _ => Q []
def wwCons (w : WE) (r : WW) : WW := fun ρ Q EX => w ρ (fun d => r ρ (fun ds => Q (.d d :: ds)) EX) EX
def wwRow (i : Nat) (r : WW) : WW := fun ρ Q EX => ρ[i]? = some (some .row) ∧ r ρ (fun ds => Q (.row :: ds)) EX
theorem RepW.ext {q : Par} {H H' : Hp} {O : Own} {v : V} {x : W} (w : Wd q H) (e : Ext q H H') (h : RepW q (NN q O) H v x) : RepW q (NN q O) H' v x := by
  cases x with
  | d x => exact RepV.ext e w h
  | own x => exact h
  | row => exact h
theorem dws_nil : DWs p X [] wwNil := ⟨pa_use pa_nil fun σ H Q hk ⟨ρ, O, EX, R, ex, hw⟩ => fun hk' => hw [] H hk' (Ext.refl R.wd) .nil, fun _ _ _ _ h q => h _ q⟩
theorem dws_cons {e : Expr} {es : List Expr} {w : WE} {r : WW} (h : DE p X e w) (t : DWs p X es r) (hs : starEach (e :: es) X.env = (false, eval e X.env) :: starEach es X.env := by rfl) : DWs p X (e :: es) (wwCons w r) :=
  ⟨pa_use (pa_cons h.pe t.pa hs) fun σ H Q hk ⟨ρ, O, EX, R, ex, hw⟩ => ⟨ρ, O, EX, R, ex, h.mono _ _ _ _ (fun d q v H1 hk1 e1 r1 => ⟨ρ, O, EX, R.ext' e1, ex, t.mono _ _ _ _ (fun ds q vs H2 hk2 e2 r2 _ =>
    q (v :: vs) H2 hk2 (e1.trans e2) (.cons (show RepW _ _ _ v (.d d) from r1.ext e2 e1.wd) r2)) q⟩) hw⟩, fun ρ Q Q' EX h2 q => h.mono _ _ _ _ (fun d q => t.mono _ _ _ _ (fun ds q => h2 _ q) q) q⟩
theorem dws_row (i : Nat) {x : Str} {es : List Expr} {r : WW} (t : DWs p X es r) (hN : X.N[i]? = some x := by rfl) (hv : Vis X.env.scope x := by first | exact .inl rfl | exact .inr (.inl rfl) | exact .inr (.inr rfl)) (hd : (x == ("__debug__" : Str)) = false := by decide) (hcd : (x == ("__classdict__" : Str)) = false := by decide)
    (hs : starEach (.Name x pos :: es) X.env = (false, eval (.Name x pos) X.env) :: starEach es X.env := by rfl) : DWs p X (.Name x pos :: es) (wwRow i r) :=
  ⟨pa_use (pa_cons (pe_var (i := i) hN hv hd hcd) t.pa hs) fun σ H Q hk ⟨ρ, O, EX, R, ex, e, hw⟩ => ⟨_, R.slot i .row e, ρ, O, EX, R, ex, t.mono _ _ _ _ (fun ds q vs H2 hk2 e2 r2 _ =>
    q (_ :: vs) H2 hk2 e2 (.cons (show RepW _ _ _ _ .row from rfl) r2)) hw⟩, fun ρ Q Q' EX h2 ⟨e, q⟩ => ⟨e, t.mono _ _ _ _ (fun ds q => h2 _ q) q⟩⟩
/-- (.., ..) -/
def wTup (w : WA) : WE := fun ρ Q EX => w ρ (fun ds => Q (.tuple ds)) EX
def wLst (w : WA) : WE := fun ρ Q EX => w ρ (fun ds => Q (.list ds)) EX
theorem upd_tup_hk {P : Program} {K : PySem.W.Frag} : True := trivial
theorem pa_len {es : List Expr} {w : WA} : True := trivial
end
end DD
set_option maxRecDepth 100000
set_option maxHeartbeats 2000000
/-! SemC: the operators, the subscripts, the built-ins over plain data. -/
namespace DD
open PySem PySem.Spec PyProof.Rows L2
/-! ### arithmetic -/
def aAdd : F2
  | .int i, .int j, Q => Q (.int (i + j))
  | .str i, .str j, Q => i.length + j.length ≤ sizeLine ∧ Q (.str (i ++ j))
  | .list xs, .list ys, Q => xs.length + ys.length ≤ sizeLine ∧ Q (.list (xs ++ ys))
  | .tuple xs, .tuple ys, Q => xs.length + ys.length ≤ sizeLine ∧ Q (.tuple (xs ++ ys))
  | _, _, _ => False
def aAddL : F2
  | .list xs, .list ys, Q => xs.length + ys.length ≤ sizeLine ∧ Q (.list (xs ++ ys))
  | _, _, _ => False
def rStrCat : R2 := fun x y H Q => ∃ i j, x = .str i ∧ y = .str j ∧ i.length + j.length ≤ sizeLine ∧ Q (.str (i ++ j)) H
def rAddA (K : PySem.W.Frag) : R2 := fun x y H Q => rI0 (fun i j => .int (i + j)) x y H Q ∨ rStrCat x y H Q ∨ rCat x y H Q ∨ rCatA K x y H Q
section
variable {p : Par} {X : Cx}
theorem op_addA : OpR X (binaryOp .Add) (rAddA X.K) := op_add.or (op_add_str.or (op_cat.or op_catA))
theorem cat_ok {O : Own} {H : Hp} {x y : V} {xs ys : List D} {Q : VK} (ok : Ok p O H) (rx : RepB p O H x (.list xs)) (ry : RepB p O H y (.list ys)) (hl : xs.length + ys.length ≤ sizeLine) (q : RF p O H Q (.list (xs ++ ys))) : rCat x y H (fun v H' => Hk p.K H' → Q v H') := by
  obtain ⟨a, vs, rfl, _, h1, r1⟩ := rx.list
  obtain ⟨b, ws, rfl, _, h2, r2⟩ := ry.list
  exact ⟨a, b, vs, ws, rfl, rfl, h1, h2, by rw [r1.length, r2.length]; exact hl, fun c hc hk => q.list ok hc (r1.append r2) hk⟩
theorem o_add : Op2 p aAdd (rAddA p.K) := by
  refine ⟨fun O H x y a b Q ok rx ry hf => ?_, fun a b Q Q' h q => ?_⟩
  · cases a <;> cases b <;> first | exact hf.elim | skip
    · rw [rx.int, ry.int]
      exact .inl ⟨_, _, rfl, rfl, fun _ => RE.now hf ok rep_int⟩
    · rw [rx.str, ry.str]
      exact .inr (.inl ⟨_, _, rfl, rfl, hf.1, fun _ => RE.now hf.2 ok rep_str⟩)
    · exact .inr (.inr (.inl (cat_ok ok rx ry hf.1 (hf.2.f ok))))
    · obtain ⟨a, vs, rfl, h1, r1⟩ := rx.tup
      obtain ⟨b, ws, rfl, h2, r2⟩ := ry.tup
      obtain ⟨hl, q⟩ := hf
      refine .inr (.inr (.inr ⟨a, b, vs, ws, rfl, rfl, .of h1, .of h2, by rw [r1.length, r2.length]; exact hl, fun e _ => ?_, fun _ e _ => ?_, fun _ _ c hc hk => q.tup ok hc (r1.append r2) hk⟩))
      · subst e
        exact q.now ok (rep_tuple h2 (by simpa using r1.append r2))
      · subst e
        exact q.now ok (rep_tuple h1 (by simpa using r1.append r2))
  · cases a <;> cases b <;> first | exact q.elim | exact h _ q | exact ⟨q.1, h _ q.2⟩
theorem o_addL : Op2F p aAddL (rAddA p.K) := by
  refine ⟨fun O H x y a b Q ok rx ry hf => ?_, fun a b Q Q' h q => ?_⟩
  · cases a <;> cases b <;> first | exact hf.elim | skip
    exact .inr (.inr (.inl (cat_ok ok rx ry hf.1 hf.2)))
  · cases a <;> cases b <;> first | exact q.elim | exact ⟨q.1, h _ q.2⟩
/-- two ints to an int -/
def aI (C : Int → Int → Prop) (g : Int → Int → Int) : F2
  | .int i, .int j, Q => C i j ∧ Q (.int (g i j))
  | _, _, _ => False
def aI0 (g : Int → Int → Int) : F2
  | .int i, .int j, Q => Q (.int (g i j))
  | _, _, _ => False
theorem o_int {C : Int → Int → Prop} {g : Int → Int → Int} : Op2 p (aI C g) (rI C fun i j => .int (g i j)) := by
  refine ⟨fun O H x y a b Q ok rx ry hf => ?_, fun a b Q Q' h q => ?_⟩
  · cases a <;> cases b <;> first | exact hf.elim | skip
    rw [rx.int, ry.int]
    exact ⟨_, _, rfl, rfl, hf.1, fun _ => RE.now hf.2 ok rep_int⟩
  · cases a <;> cases b <;> first | exact q.elim | exact ⟨q.1, h _ q.2⟩
theorem o_int0 {g : Int → Int → Int} : Op2 p (aI0 g) (rI0 fun i j => .int (g i j)) := by
  refine ⟨fun O H x y a b Q ok rx ry hf => ?_, fun a b Q Q' h q => ?_⟩
  · cases a <;> cases b <;> first | exact hf.elim | skip
    rw [rx.int, ry.int]
    exact ⟨_, _, rfl, rfl, fun _ => RE.now hf ok rep_int⟩
  · cases a <;> cases b <;> first | exact q.elim | exact h _ q
abbrev aSub : F2 := aI0 fun i j => i - j
abbrev aFdiv : F2 := aI CDiv fun i j => i / j
abbrev aMod : F2 := aI (fun _ j => 0 < j) fun i j => i % j
abbrev aPow : F2 := aI CPow fun i j => i ^ j.toNat
abbrev aShl : F2 := aI CPow fun i j => i * 2 ^ j.toNat
abbrev aShr : F2 := aI (fun _ j => 0 ≤ j) fun i j => i / 2 ^ j.toNat
abbrev aAnd : F2 := aI0 fun i j => Builtin.bitAnd i j
abbrev aOr : F2 := aI0 fun i j => Builtin.bitOr i j
abbrev aXor : F2 := aI0 fun i j => Builtin.bitXor i j
theorem flat_rep {α : Type} (xs : List α) (n : Nat) : (List.replicate n xs).flatten.length = xs.length * n := by
  induction n with
  | zero => simp
  | succ n ih => simp [List.replicate_succ, ih, Nat.mul_succ, Nat.add_comm]
theorem RepAll.flat {K : PySem.W.Frag} {N : Addr → Prop} {H : Hp} {vs : List V} {ds : List D} (r : RepAll K N H vs ds) (n : Nat) : RepAll K N H (List.replicate n vs).flatten (List.replicate n ds).flatten := by
  induction n with
  | zero => exact rall_nil
  | succ n ih =>
    rw [List.replicate_succ, List.replicate_succ, List.flatten_cons, List.flatten_cons]
    exact r.append ih
def aMul : F2
  | .int i, .int j, Q => CMul i j ∧ Q (.int (i * j))
  | .list xs, .int k, Q => (-(2 ^ 63) ≤ k ∧ k < 2 ^ 63 ∧ xs.length * k.toNat ≤ sizeLine) ∧ Q (.list (List.replicate k.toNat xs).flatten)
  | .tuple xs, .int k, Q => (xs ≠ [] ∧ 2 ≤ k ∧ k ≤ 1000 ∧ xs.length ≤ 1000) ∧ Q (.tuple (List.replicate k.toNat xs).flatten)
  | _, _, _ => False
def aMulL : F2
  | .list xs, .int k, Q => (-(2 ^ 63) ≤ k ∧ k < 2 ^ 63 ∧ xs.length * k.toNat ≤ sizeLine) ∧ Q (.list (List.replicate k.toNat xs).flatten)
  | _, _, _ => False
def rMulA (K : PySem.W.Frag) : R2 := fun x y H Q => rI CMul (fun i j => .int (i * j)) x y H Q ∨ rRep x y H Q ∨ rRepT K x y H Q
theorem op_mulA : OpR X (binaryOp .Mult) (rMulA X.K) := op_mul.or (op_rep.or op_repT)
theorem rep_ok {O : Own} {H : Hp} {x : V} {xs : List D} {k : Int} {Q : VK} (ok : Ok p O H) (rx : RepB p O H x (.list xs)) (hl : -(2 ^ 63) ≤ k ∧ k < 2 ^ 63 ∧ xs.length * k.toNat ≤ sizeLine) (q : RF p O H Q (.list (List.replicate k.toNat xs).flatten)) : rRep x (.int k) H (fun v H' => Hk p.K H' → Q v H') := by
  obtain ⟨a, vs, rfl, _, h1, r1⟩ := rx.list
  exact ⟨a, k, vs, rfl, rfl, h1, hl.1, hl.2.1, by rw [r1.length]; exact hl.2.2, fun c hc hk => q.list ok hc (r1.flat _) hk⟩
theorem o_mul : Op2 p aMul (rMulA p.K) := by
  refine ⟨fun O H x y a b Q ok rx ry hf => ?_, fun a b Q Q' h q => ?_⟩
  · cases a <;> cases b <;> first | exact hf.elim | skip
    · rw [rx.int, ry.int]
      exact .inl ⟨_, _, rfl, rfl, hf.1, fun _ => RE.now hf.2 ok rep_int⟩
    · rw [ry.int]
      exact .inr (.inl (rep_ok ok rx hf.1 (hf.2.f ok)))
    · rw [ry.int]
      obtain ⟨a, vs, rfl, h1, r1⟩ := rx.tuple
      obtain ⟨⟨h2, h3, h4, h5⟩, q⟩ := hf
      refine .inr (.inr ⟨a, _, vs, rfl, rfl, h1, fun z => h2 ?_, h3, h4, by rw [r1.length]; exact h5, fun c hc hk => q.tup ok hc (r1.flat _) hk⟩)
      have := r1.length
      rw [z] at this
      exact List.length_eq_zero_iff.mp this.symm
  · cases a <;> cases b <;> first | exact q.elim | exact ⟨q.1, h _ q.2⟩
theorem o_mulL : Op2F p aMulL (rMulA p.K) := by
  refine ⟨fun O H x y a b Q ok rx ry hf => ?_, fun a b Q Q' h q => ?_⟩
  · cases a <;> cases b <;> first | exact hf.elim | skip
    rw [ry.int]
    exact .inr (.inl (rep_ok ok rx hf.1 hf.2))
  · cases a <;> cases b <;> first | exact q.elim | exact ⟨q.1, h _ q.2⟩
/-! ### comparisons -/
def gI (g : Int → Int → Bool) : G2
  | .int i, .int j, Q => Q (g i j)
  | _, _, _ => False
theorem c_int {g : Int → Int → Bool} : Cmp2 p (gI g) (rI0 fun i j => .bl (g i j)) := by
  refine ⟨fun O H x y a b Qb Q ok rx ry hf hq => ?_, fun a b Q Q' h q => ?_⟩
  · cases a <;> cases b <;> first | exact hf.elim | skip
    rw [rx.int, ry.int]
    exact ⟨_, _, rfl, rfl, hq _ hf⟩
  · cases a <;> cases b <;> first | exact q.elim | exact h _ q
abbrev gGt : G2 := gI fun i j => decide (j < i)
abbrev gGe : G2 := gI fun i j => decide (j ≤ i)
/-- a row of ints -/
def intsD : List D → Option (List Int)
  | [] => some []
  | .int i :: r => (intsD r).map (i :: ·)
  | _ => none
theorem intsD_vals {K : PySem.W.Frag} {N : Addr → Prop} {H : Hp} : ∀ {vs : List V} {ds : List D} {ns : List Int}, RepAll K N H vs ds → intsD ds = some ns → vs = ns.map V.int
  | [], [], ns, _, e => by cases e; rfl
  | v :: vs, d :: ds, ns, r, e => by
    rw [RepAll] at r
    cases d <;> first | (exact (by cases e)) | skip
    rename_i i
    have r1 := r.1
    rw [RepV] at r1
    unfold intsD at e
    cases q : intsD ds with
    | none => rw [q] at e; cases e
    | some ms =>
      rw [q] at e
      cases e
      rw [r1, intsD_vals r.2 q]
      rfl
  | [], _ :: _, _, r, _ => by simp [RepAll] at r
  | _ :: _, [], _, r, _ => by simp [RepAll] at r
theorem intsD_map (ns : List Int) : intsD (ns.map PyData.int) = some ns := by
  induction ns with
  | nil => rfl
  | cons n r ih => unfold intsD List.map; simp only; rw [show intsD (List.map PyData.int r) = some r from ih]; rfl
def leT (ns ms : List Int) : Bool := Ob.lexAt (fun j => decide (ns.getD j 0 = ms.getD j 0)) (fun j => decide (ns.getD j 0 ≤ ms.getD j 0)) (decide (ns.length ≤ ms.length)) 0 (min ns.length ms.length)
def gLt : G2
  | .int i, .int j, Q => Q (decide (i < j))
  | .str i, .str j, Q => Q (decide (i.cps.toList < j.cps.toList))
  | .tuple xs, .tuple ys, Q => ∃ ns ms, intsD xs = some ns ∧ intsD ys = some ms ∧ Q (HT.lexLt ns ms)
  | _, _, _ => False
def rLtStr : R2 := fun x y H Q => ∃ i j, x = .str i ∧ y = .str j ∧ Q (.bl (decide (i.cps.toList < j.cps.toList))) H
def rLtA (K : PySem.W.Frag) : R2 := fun x y H Q => rI0 (fun i j => .bl (decide (i < j))) x y H Q ∨ rLtStr x y H Q ∨ rLtT K x y H Q
theorem op_ltA (hu : X.A.units < cLine) : OpR X (compareOp .Lt) (rLtA X.K) := op_lt.or (op_lt_str.or (op_ltT hu))
theorem c_lt : Cmp2 p gLt (rLtA p.K) := by
  refine ⟨fun O H x y a b Qb Q ok rx ry hf hq => ?_, fun a b Q Q' h q => ?_⟩
  · cases a <;> cases b <;> first | exact hf.elim | skip
    · rw [rx.int, ry.int]; exact .inl ⟨_, _, rfl, rfl, hq _ hf⟩
    · rw [rx.str, ry.str]; exact .inr (.inl ⟨_, _, rfl, rfl, hq _ hf⟩)
    · obtain ⟨a, vs, rfl, h1, r1⟩ := rx.tuple
      obtain ⟨b, ws, rfl, h2, r2⟩ := ry.tuple
      obtain ⟨ns, ms, e1, e2, q⟩ := hf
      rw [intsD_vals r1 e1] at h1
      rw [intsD_vals r2 e2] at h2
      exact .inr (.inr ⟨a, b, ns, ms, rfl, rfl, h1, h2, hq _ q⟩)
  · cases a <;> cases b <;> first | exact q.elim | exact h _ q | (obtain ⟨ns, ms, e1, e2, q⟩ := q; exact ⟨ns, ms, e1, e2, h _ q⟩)
def gLe : G2
  | .int i, .int j, Q => Q (decide (i ≤ j))
  | .tuple xs, .tuple ys, Q => ∃ ns ms, intsD xs = some ns ∧ intsD ys = some ms ∧ Q (leT ns ms)
  | _, _, _ => False
def rLeA (K : PySem.W.Frag) : R2 := fun x y H Q => rI0 (fun i j => .bl (decide (i ≤ j))) x y H Q ∨ rLeT K x y H Q
theorem op_leA (hu : X.A.units < cLine) : OpR X (compareOp .LtE) (rLeA X.K) := op_le.or (op_leT hu)
theorem c_le : Cmp2 p gLe (rLeA p.K) := by
  refine ⟨fun O H x y a b Qb Q ok rx ry hf hq => ?_, fun a b Q Q' h q => ?_⟩
  · cases a <;> cases b <;> first | exact hf.elim | skip
    · rw [rx.int, ry.int]; exact .inl ⟨_, _, rfl, rfl, hq _ hf⟩
    · obtain ⟨a, vs, rfl, h1, r1⟩ := rx.tuple
      obtain ⟨b, ws, rfl, h2, r2⟩ := ry.tuple
      obtain ⟨ns, ms, e1, e2, q⟩ := hf
      rw [intsD_vals r1 e1] at h1
      rw [intsD_vals r2 e2] at h2
      exact .inr ⟨a, b, ns, ms, rfl, rfl, h1, h2, hq _ q⟩
  · cases a <;> cases b <;> first | exact q.elim | exact h _ q | (obtain ⟨ns, ms, e1, e2, q⟩ := q; exact ⟨ns, ms, e1, e2, h _ q⟩)
mutual
theorem dp_of {K : PySem.W.Frag} {N : Addr → Prop} {H : Hp} : ∀ (d : D) (v : V), PyData.canLay0 d = true → RepV K N H v d → Dp K H v d
  | .none, v, _, r => by rw [RepV] at r; rw [r]; exact .non
  | .bool _, v, _, r => by rw [RepV] at r; rw [r]; exact .bl _
  | .int _, v, _, r => by rw [RepV] at r; rw [r]; exact .int _
  | .str _, v, _, r => by rw [RepV] at r; rw [r]; exact .str _
  | .list ds, v, c, r => by
    rw [RepV] at r
    obtain ⟨a, vs, rfl, n, h1, h2⟩ := r
    exact .lst (.of h1) (dps_of ds vs (by rw [PyData.canLay0] at c; exact c) h2)
  | .tuple ds, v, c, r => by
    rw [RepV] at r
    obtain ⟨a, vs, rfl, h1, h2⟩ := r
    exact .tup (.of h1) (dps_of ds vs (by rw [PyData.canLay0] at c; exact c) h2)
  | .dict _, _, c, _ => by simp [PyData.canLay0] at c
theorem dps_of {K : PySem.W.Frag} {N : Addr → Prop} {H : Hp} : ∀ (ds : List D) (vs : List V), PyData.canLayAll0 ds = true → RepAll K N H vs ds → DpAll K H vs ds
  | [], [], _, _ => .nil
  | d :: ds, v :: vs, c, r => by
    rw [RepAll] at r
    rw [PyData.canLayAll0, Bool.and_eq_true] at c
    exact .cons (dp_of d v c.1 r.1) (dps_of ds vs c.2 r.2)
  | [], _ :: _, _, r => by simp [RepAll] at r
  | _ :: _, [], _, r => by simp [RepAll] at r
end
theorem RepB.dp {O : Own} {H : Hp} {v : V} {d : D} (r : RepB p O H v d) (c : PyData.canLay0 d = true) : Dp p.K H v d := by
  rcases r with r | ⟨a, rfl, _, r⟩
  · exact dp_of d v c r
  · cases d with
    | list ds =>
      obtain ⟨vs, h1, h2⟩ := r
      exact .lst (.of h1) (dps_of ds vs (by rw [PyData.canLay0] at c; exact c) h2)
    | dict kvs => simp [PyData.canLay0] at c
    | _ => exact r.elim
/-- == -/
def gEq : G2 := fun a b Q => SeqAt.shaped a = true ∧ SeqAt.shaped b = true ∧ Q (PyData.eqv a b)
def gNe : G2 := fun a b Q => SeqAt.shaped a = true ∧ SeqAt.shaped b = true ∧ Q (!PyData.eqv a b)
theorem c_eq : Cmp2 p gEq (rEqD p.K) :=
  ⟨fun O H x y a b Qb Q ok rx ry ⟨h1, h2, q⟩ hq => ⟨a, b, rx.dp (SeqAt.canLay_of_shaped h1), ry.dp (SeqAt.canLay_of_shaped h2), h1, h2, hq _ q⟩, fun a b Q Q' h ⟨h1, h2, q⟩ => ⟨h1, h2, h _ q⟩⟩
theorem c_ne : Cmp2 p gNe (rNeD p.K) :=
  ⟨fun O H x y a b Qb Q ok rx ry ⟨h1, h2, q⟩ hq => ⟨a, b, rx.dp (SeqAt.canLay_of_shaped h1), ry.dp (SeqAt.canLay_of_shaped h2), h1, h2, hq _ q⟩, fun a b Q Q' h ⟨h1, h2, q⟩ => ⟨h1, h2, h _ q⟩⟩
def isNone : D → Bool
  | .none => true
  | _ => false
/-- x is None -/
def gIsN : G2 := fun a b Q => b = .none ∧ Q (isNone a)
def gNotN : G2 := fun a b Q => b = .none ∧ Q (!isNone a)
theorem RepB.isN {O : Own} {H : Hp} {v : V} {d : D} (r : RepB p O H v d) : decide (v = .non) = isNone d := by
  cases d with
  | none => rw [r.none]; rfl
  | bool b => rw [r.bool]; rfl
  | int b => rw [r.int]; rfl
  | str b => rw [r.str]; rfl
  | list ds => obtain ⟨a, vs, rfl, _⟩ := r.list; rfl
  | tuple ds => obtain ⟨a, vs, rfl, _⟩ := r.tuple; rfl
  | dict ds => obtain ⟨a, _, _, rfl, _⟩ := r.dict; rfl
theorem c_isN : Cmp2 p gIsN (fun x y H Q => y = .non ∧ Q (.bl (decide (x = .non))) H) :=
  ⟨fun O H x y a b Qb Q ok rx ry ⟨h1, q⟩ hq => ⟨by subst h1; exact ry.none, by rw [rx.isN]; exact hq _ q⟩, fun a b Q Q' h ⟨h1, q⟩ => ⟨h1, h _ q⟩⟩
theorem c_notN : Cmp2 p gNotN (fun x y H Q => y = .non ∧ Q (.bl (!decide (x = .non))) H) :=
  ⟨fun O H x y a b Qb Q ok rx ry ⟨h1, q⟩ hq => ⟨by subst h1; exact ry.none, by rw [rx.isN]; exact hq _ q⟩, fun a b Q Q' h ⟨h1, q⟩ => ⟨h1, h _ q⟩⟩
/-! ### in -/
def flatD : D → Bool
  | .none => true
  | .bool _ => true
  | .int _ => true
  | .str _ => true
  | _ => false
def vOf : D → V
  | .bool b => .bl b
  | .int i => .int i
  | .str x => .str x
  | _ => .non
theorem rep_flat {K : PySem.W.Frag} {N : Addr → Prop} {H : Hp} {v : V} {d : D} (r : RepV K N H v d) (f : flatD d = true) : v = vOf d := by
  cases d <;> first | exact (Bool.false_ne_true f).elim | skip
  all_goals (rw [RepV] at r; exact r)
theorem flat_vOf {d : D} (f : flatD d = true) : flatV (vOf d) = true := by
  cases d <;> first | exact (Bool.false_ne_true f).elim | rfl
theorem eqV_vOf {d e : D} (f : flatD d = true) (g : flatD e = true) : eqV (vOf d) (vOf e) = PyData.eqv d e := by
  cases d <;> first | exact (Bool.false_ne_true f).elim | skip
  all_goals (cases e <;> first | exact (Bool.false_ne_true g).elim | skip)
  all_goals first | rfl | (simp only [vOf, eqV, PyData.eqv])
theorem eqv_flat {K : PySem.W.Frag} {N N' : Addr → Prop} {H : Hp} {v u : V} {d e : D} (r : RepV K N H v d) (r' : RepV K N' H u e) (f : flatD d = true) (g : flatD e = true) : eqV v u = PyData.eqv d e ∧ flatV v = true ∧ flatV u = true := by
  rw [rep_flat r f, rep_flat r' g]
  exact ⟨eqV_vOf f g, flat_vOf f, flat_vOf g⟩
theorem flat_in {K : PySem.W.Frag} {N : Addr → Prop} {H : Hp} {v : V} {d : D} (r : RepV K N H v d) (f : flatD d = true) : ∀ {vs : List V} {ds : List D}, RepAll K N H vs ds → ds.all flatD = true → (vs.all flatV = true ∧ inV v vs = ds.any fun z => PyData.eqv z d)
  | [], [], _, _ => ⟨rfl, rfl⟩
  | u :: vs, e :: ds, h, g => by
    rw [RepAll] at h
    rw [List.all_cons, Bool.and_eq_true] at g
    obtain ⟨i1, i2⟩ := flat_in r f h.2 g.2
    obtain ⟨e1, e2, e3⟩ := eqv_flat h.1 r g.1 f
    refine ⟨by rw [List.all_cons, e2, i1]; rfl, ?_⟩
    unfold inV at i2 ⊢
    rw [List.any_cons, List.any_cons, e1, i2]
  | [], _ :: _, h, _ => by simp [RepAll] at h
  | _ :: _, [], h, _ => by simp [RepAll] at h
theorem flat_v {O : Own} {H : Hp} {v : V} {d : D} (r : RepB p O H v d) (f : flatD d = true) : RepV p.K (NN p O) H v d := by
  rcases r with r | ⟨a, rfl, _, r⟩
  · exact r
  · cases d <;> first | exact r.elim | exact (Bool.false_ne_true f).elim
/-- x in a list, a tuple: of flat things, or of a list's things of any shape; x in a text -/
def gIn (neg : Bool) : G2
  | d, .list ds, Q => ((flatD d = true ∧ ds.all flatD = true) ∨ (SeqAt.shaped d = true ∧ SeqAt.shaped (.list ds) = true)) ∧ Q (if neg = true then !(ds.any fun z => PyData.eqv z d) else ds.any fun z => PyData.eqv z d)
  | d, .tuple ds, Q => (flatD d = true ∧ ds.all flatD = true) ∧ Q (if neg = true then !(ds.any fun z => PyData.eqv z d) else ds.any fun z => PyData.eqv z d)
  | _, _, _ => False
def rInA (K : PySem.W.Frag) : R2 := fun x y H Q => rIn K false x y H Q ∨ rInD K x y H Q
def rNotInA (K : PySem.W.Frag) : R2 := fun x y H Q => rIn K true x y H Q ∨ rNotInD K x y H Q
theorem op_inA (hu : X.A.units + 65 < cLine) : OpR X (compareOp .In) (rInA X.K) := op_in_seq.or (op_inD hu)
theorem op_notInA (hu : X.A.units + 65 < cLine) : OpR X (compareOp .NotIn) (rNotInA X.K) := op_notIn_seq.or (op_notInD hu)
theorem mono_In {neg : Bool} : ∀ a b, M0 (gIn neg a b) := fun a b Q Q' h q => by
  cases b <;> first | exact ⟨q.1, h _ q.2⟩ | exact q.elim
theorem c_in : Cmp2 p (gIn false) (rInA p.K) := by
  refine ⟨fun O H x y a b Qb Q ok rx ry hf hq => ?_, mono_In⟩
  cases b <;> first | exact hf.elim | skip
  · obtain ⟨hc, q⟩ := hf
    rcases hc with ⟨f1, f2⟩ | ⟨s1, s2⟩
    · obtain ⟨l, vs, rfl, _, h1, r1⟩ := ry.list
      obtain ⟨e1, e2⟩ := flat_in (flat_v rx f1) f1 r1 f2
      refine .inl ⟨l, vs, rfl, .inl (.of h1), (eqv_flat (flat_v rx f1) (flat_v rx f1) f1 f1).2.1, e1, ?_⟩
      simp only [Bool.false_eq_true, if_false, e2]
      exact hq _ q
    · exact .inr ⟨a, _, rx.dp (SeqAt.canLay_of_shaped s1), ry.dp (SeqAt.canLay_of_shaped s2), s1, s2, hq _ q⟩
  · obtain ⟨⟨f1, f2⟩, q⟩ := hf
    obtain ⟨l, vs, rfl, h1, r1⟩ := ry.tuple
    obtain ⟨e1, e2⟩ := flat_in (flat_v rx f1) f1 r1 f2
    refine .inl ⟨l, vs, rfl, .inr h1, (eqv_flat (flat_v rx f1) (flat_v rx f1) f1 f1).2.1, e1, ?_⟩
    simp only [Bool.false_eq_true, if_false, e2]
    exact hq _ q
theorem c_notIn : Cmp2 p (gIn true) (rNotInA p.K) := by
  refine ⟨fun O H x y a b Qb Q ok rx ry hf hq => ?_, mono_In⟩
  cases b <;> first | exact hf.elim | skip
  · obtain ⟨hc, q⟩ := hf
    rcases hc with ⟨f1, f2⟩ | ⟨s1, s2⟩
    · obtain ⟨l, vs, rfl, _, h1, r1⟩ := ry.list
      obtain ⟨e1, e2⟩ := flat_in (flat_v rx f1) f1 r1 f2
      refine .inl ⟨l, vs, rfl, .inl (.of h1), (eqv_flat (flat_v rx f1) (flat_v rx f1) f1 f1).2.1, e1, ?_⟩
      simp only [if_true, e2]
      exact hq _ q
    · exact .inr ⟨a, _, rx.dp (SeqAt.canLay_of_shaped s1), ry.dp (SeqAt.canLay_of_shaped s2), s1, s2, hq _ q⟩
  · obtain ⟨⟨f1, f2⟩, q⟩ := hf
    obtain ⟨l, vs, rfl, h1, r1⟩ := ry.tuple
    obtain ⟨e1, e2⟩ := flat_in (flat_v rx f1) f1 r1 f2
    refine .inl ⟨l, vs, rfl, .inr h1, (eqv_flat (flat_v rx f1) (flat_v rx f1) f1 f1).2.1, e1, ?_⟩
    simp only [if_true, e2]
    exact hq _ q
/-! ### subscripts -/
def atD {α : Type} (xs : List α) (i : Int) : Option α := (ixN xs.length i).bind fun j => xs[j]?
def aIx : F2
  | .list xs, .int i, Q => ∃ d, atD xs i = some d ∧ Q d
  | .tuple xs, .int i, Q => ∃ d, atD xs i = some d ∧ Q d
  | .str z, .int i, Q => z.length ≤ sizeLine ∧ ∃ c, atI z.cps.toList i = some c ∧ Q (.str ⟨#[c]⟩)
  | _, _, _ => False
theorem RepAll.at {K : PySem.W.Frag} {N : Addr → Prop} {H : Hp} {vs : List V} {ds : List D} {i : Int} {d : D} (r : RepAll K N H vs ds) (e : atD ds i = some d) : ∃ v, atI vs i = some v ∧ RepV K N H v d := by
  unfold atD at e
  unfold atI
  rw [r.length]
  cases q : ixN ds.length i with
  | none => rw [q] at e; cases e
  | some j =>
    rw [q] at e
    obtain ⟨v, h1, h2⟩ := r.get (i := j) e
    exact ⟨v, h1, h2⟩
theorem o_ix : Op2 p aIx (rIx p.K) := by
  refine ⟨fun O H x y a b Q ok rx ry hf => ?_, fun a b Q Q' h q => ?_⟩
  · cases a <;> cases b <;> first | exact hf.elim | skip
    · rw [rx.str, ry.int]
      obtain ⟨hl, c, e, q⟩ := hf
      exact .inr (.inr ⟨_, _, c, rfl, rfl, hl, e, fun _ => q.now ok rep_str⟩)
    · obtain ⟨l, vs, rfl, _, h1, r1⟩ := rx.list
      obtain ⟨d, e, q⟩ := hf
      obtain ⟨v, e2, r2⟩ := r1.at e
      rw [ry.int]
      exact .inl ⟨l, vs, _, v, rfl, rfl, .of h1, e2, fun _ => q.now ok r2⟩
    · obtain ⟨l, vs, rfl, h1, r1⟩ := rx.tuple
      obtain ⟨d, e, q⟩ := hf
      obtain ⟨v, e2, r2⟩ := r1.at e
      rw [ry.int]
      exact .inr (.inl ⟨l, vs, _, v, rfl, rfl, h1, e2, fun _ => q.now ok r2⟩)
  · cases a <;> cases b <;> first | exact q.elim | (obtain ⟨d, e, q⟩ := q; exact ⟨d, e, h _ q⟩) | (obtain ⟨hl, d, e, q⟩ := q; exact ⟨hl, d, e, h _ q⟩)
end
end DD
set_option maxRecDepth 100000
set_option maxHeartbeats 2000000
/-! SemD: truth, and/or/not, chains, displays, calls of built-ins, slices, isinstance. -/
namespace DD
open PySem PySem.Spec PyProof.Rows L2
section
variable {p : Par} {X : Cx} {pos : Pos} {e a b c : Expr}
/-! ### truth -/
def truG : G1
  | .none, Q => Q false
  | .bool b, Q => Q b
  | .int i, Q => Q (i != 0)
  | .list xs, Q => Q (!xs.isEmpty)
  | .tuple xs, Q => Q (!xs.isEmpty)
  | .str y, Q => y.length ≤ sizeLine ∧ Q ((y.length : Int) != 0)
  | .dict _, _ => False
theorem mono_tru : ∀ d, M0 (truG d) := fun d Q Q' h q => by
  cases d <;> first | exact h _ q | exact ⟨q.1, h _ q.2⟩ | exact q.elim
theorem empty_of {K : PySem.W.Frag} {N : Addr → Prop} {H : Hp} {vs : List V} {ds : List D} (r : RepAll K N H vs ds) : vs.isEmpty = ds.isEmpty := by
  have := r.length
  cases vs <;> cases ds <;> first | rfl | (simp at this)
theorem truG_ok {O : Own} {H : Hp} {v : V} {d : D} {Q : Bool → Prop} (r : RepB p O H v d) (h : truG d Q) : ∃ k, TruV p.K v H k ∧ Q k := by
  cases d with
  | none => rw [r.none]; exact ⟨false, rfl, h⟩
  | bool b => rw [r.bool]; exact ⟨b, rfl, h⟩
  | int i => rw [r.int]; exact ⟨_, rfl, h⟩
  | str y => rw [r.str]; exact ⟨_, ⟨h.1, rfl⟩, h.2⟩
  | list xs =>
    obtain ⟨l, vs, rfl, _, h1, r1⟩ := r.list
    exact ⟨_, .inl ⟨vs, .of h1, rfl⟩, by rw [empty_of r1]; exact h⟩
  | tuple xs =>
    obtain ⟨l, vs, rfl, h1, r1⟩ := r.tuple
    exact ⟨_, .inr (.inl ⟨vs, h1, rfl⟩), by rw [empty_of r1]; exact h⟩
  | dict kvs => exact h.elim
def wTru (w : WE) : WT := fun ρ Q EX => w ρ (fun d => truG d Q) EX
theorem dt_val {w : WE} (h : DB p X e w) (he : ∀ whole, isTrue e X.env whole = (do let v ← whole; standAt e.pos; holding [v] (truthy v)) := by intro _; rfl) : DT p X e (wTru w) :=
  ⟨pt_use (pt_truth h.pe he) fun σ H Q hk ⟨ρ, O, EX, R, ex, hw⟩ => ⟨ρ, O, EX, R, ex, h.mono _ _ _ _ (fun d q v H1 hk1 e1 r1 => by
    obtain ⟨k, t, q⟩ := truG_ok r1 q
    exact ⟨k, t, fun hk' => q _ hk' e1⟩) hw⟩, fun ρ Q Q' EX hh q => h.mono _ _ _ _ (fun d q => mono_tru d _ _ hh q) q⟩
/-! ### and, or, not: as tests -/
def wAnd (t u : WT) : WT := fun ρ Q EX => t ρ (fun c => if c = true then u ρ Q EX else Q false) EX
def wOr (t u : WT) : WT := fun ρ Q EX => t ρ (fun c => if c = true then Q true else u ρ Q EX) EX
def wNot (t : WT) : WT := fun ρ Q EX => t ρ (fun c => Q (!c)) EX
theorem LT.next {t u : WT} {σ : L2.St} {H : Hp} {Q : Bool → Hp → Prop} {q : Par} : True := trivial
theorem DW.t {w : WT} (h : DW p X e w) : DT p X e w := ⟨h.pw.pt, h.mono⟩
theorem dw_and1 {w : WT} (h : DT p X a w) : DW p X (.BoolOp .And [a] pos) w := ⟨pw_and1 h.pt, h.mono⟩
theorem dw_or1 {w : WT} (h : DT p X a w) : DW p X (.BoolOp .Or [a] pos) w := ⟨pw_or1 h.pt, h.mono⟩
theorem mono_And {t u : WT} (h1 : MonoT t) (h2 : MonoT u) : MonoT (wAnd t u) := fun ρ Q Q' EX hh q => h1 _ _ _ _ (fun k q => by
  by_cases z : k = true
  · rw [if_pos z] at q ⊢; exact h2 _ _ _ _ hh q
  · rw [if_neg z] at q ⊢; exact hh _ q) q
theorem mono_Or {t u : WT} (h1 : MonoT t) (h2 : MonoT u) : MonoT (wOr t u) := fun ρ Q Q' EX hh q => h1 _ _ _ _ (fun k q => by
  by_cases z : k = true
  · rw [if_pos z] at q ⊢; exact hh _ q
  · rw [if_neg z] at q ⊢; exact h2 _ _ _ _ hh q) q
theorem dw_and {t u : WT} {rest : List Expr} (h : DT p X a t) (h2 : DW p X (.BoolOp .And (b :: rest) pos) u) : DW p X (.BoolOp .And (a :: b :: rest) pos) (wAnd t u) :=
  ⟨pw_use (pw_and h.pt h2.pw) fun σ H Q hk ⟨ρ, O, EX, R, ex, hw⟩ => ⟨ρ, O, EX, R, ex, h.mono _ _ _ _ (fun k q H1 hk1 e1 => by
    by_cases z : k = true
    · rw [if_pos z] at q ⊢
      exact ⟨ρ, O, EX, R.ext' e1, ex, h2.mono _ _ _ _ (fun k q H2 hk2 e2 _ => q H2 hk2 (e1.trans e2)) q⟩
    · rw [if_neg z] at q ⊢
      exact fun _ => q H1 hk1 e1) hw⟩, mono_And h.mono h2.mono⟩
theorem dw_or {t u : WT} {rest : List Expr} (h : DT p X a t) (h2 : DW p X (.BoolOp .Or (b :: rest) pos) u) : DW p X (.BoolOp .Or (a :: b :: rest) pos) (wOr t u) :=
  ⟨pw_use (pw_or h.pt h2.pw) fun σ H Q hk ⟨ρ, O, EX, R, ex, hw⟩ => ⟨ρ, O, EX, R, ex, h.mono _ _ _ _ (fun k q H1 hk1 e1 => by
    by_cases z : k = true
    · rw [if_pos z] at q ⊢
      exact fun _ => q H1 hk1 e1
    · rw [if_neg z] at q ⊢
      exact ⟨ρ, O, EX, R.ext' e1, ex, h2.mono _ _ _ _ (fun k q H2 hk2 e2 _ => q H2 hk2 (e1.trans e2)) q⟩) hw⟩, mono_Or h.mono h2.mono⟩
theorem dt_not {t : WT} (h : DT p X a t) : DT p X (.UnaryOp .Not a pos) (wNot t) :=
  ⟨pt_use (pt_not h.pt) fun σ H Q hk ⟨ρ, O, EX, R, ex, hw⟩ => ⟨ρ, O, EX, R, ex, h.mono _ _ _ _ (fun k q H1 hk1 e1 _ => q H1 hk1 e1) hw⟩, fun ρ Q Q' EX hh q => h.mono _ _ _ _ (fun k q => hh _ q) q⟩
/-! ### .. as values -/
def wAndV (wa wb : WE) : WE := fun ρ Q EX => wa ρ (fun d => truG d fun k => if k = true then wb ρ Q EX else Q d) EX
def wOrV (wa wb : WE) : WE := fun ρ Q EX => wa ρ (fun d => truG d fun k => if k = true then Q d else wb ρ Q EX) EX
def wNotV (wa : WE) : WE := fun ρ Q EX => wa ρ (fun d => truG d fun k => Q (.bool !k)) EX
theorem de_one {op : BoolOp} {w : WE} (h : DE p X a w) : DE p X (.BoolOp op [a] pos) w := ⟨pe_one h.pe, h.mono⟩
theorem de_and {wa wb : WE} {rest : List Expr} (h : DE p X a wa) (h2 : DE p X (.BoolOp .And (b :: rest) pos) wb) : DE p X (.BoolOp .And (a :: b :: rest) pos) (wAndV wa wb) :=
  ⟨pe_use (pe_andT h.pe h2.pe) fun σ H Q hk ⟨ρ, O, EX, R, ex, hw⟩ => ⟨ρ, O, EX, R, ex, h.mono _ _ _ _ (fun d q v H1 hk1 e1 r1 => by
    obtain ⟨k, t, q⟩ := truG_ok r1.b q
    refine ⟨k, t, ?_⟩
    by_cases z : k = true
    · rw [if_pos z] at q ⊢
      exact ⟨ρ, O, EX, R.ext' e1, ex, h2.mono _ _ _ _ (fun d q v H2 hk2 e2 r2 _ => q v H2 hk2 (e1.trans e2) r2) q⟩
    · rw [if_neg z] at q ⊢
      exact fun _ => q v H1 hk1 e1 r1) hw⟩, fun ρ Q Q' EX hh q => h.mono _ _ _ _ (fun d q => mono_tru d _ _ (fun k q => by
        by_cases z : k = true
        · rw [if_pos z] at q ⊢; exact h2.mono _ _ _ _ hh q
        · rw [if_neg z] at q ⊢; exact hh _ q) q) q⟩
theorem de_or {wa wb : WE} {rest : List Expr} (h : DE p X a wa) (h2 : DE p X (.BoolOp .Or (b :: rest) pos) wb) : DE p X (.BoolOp .Or (a :: b :: rest) pos) (wOrV wa wb) :=
  ⟨pe_use (pe_orT h.pe h2.pe) fun σ H Q hk ⟨ρ, O, EX, R, ex, hw⟩ => ⟨ρ, O, EX, R, ex, h.mono _ _ _ _ (fun d q v H1 hk1 e1 r1 => by
    obtain ⟨k, t, q⟩ := truG_ok r1.b q
    refine ⟨k, t, ?_⟩
    by_cases z : k = true
    · rw [if_pos z] at q ⊢
      exact fun _ => q v H1 hk1 e1 r1
    · rw [if_neg z] at q ⊢
      exact ⟨ρ, O, EX, R.ext' e1, ex, h2.mono _ _ _ _ (fun d q v H2 hk2 e2 r2 _ => q v H2 hk2 (e1.trans e2) r2) q⟩) hw⟩, fun ρ Q Q' EX hh q => h.mono _ _ _ _ (fun d q => mono_tru d _ _ (fun k q => by
        by_cases z : k = true
        · rw [if_pos z] at q ⊢; exact hh _ q
        · rw [if_neg z] at q ⊢; exact h2.mono _ _ _ _ hh q) q) q⟩
theorem de_not {wa : WE} (h : DB p X a wa) : DE p X (.UnaryOp .Not a pos) (wNotV wa) :=
  ⟨pe_use (pe_notT h.pe) fun σ H Q hk ⟨ρ, O, EX, R, ex, hw⟩ => ⟨ρ, O, EX, R, ex, h.mono _ _ _ _ (fun d q v H1 hk1 e1 r1 => by
    obtain ⟨k, t, q⟩ := truG_ok r1 q
    exact ⟨k, t, fun _ => q _ H1 hk1 e1 rep_bool⟩) hw⟩, fun ρ Q Q' EX hh q => h.mono _ _ _ _ (fun d q => mono_tru d _ _ (fun k q => hh _ q) q) q⟩
/-- a if c else b -/
def wIf (t : WT) (wa wb : WE) : WE := fun ρ Q EX => t ρ (fun k => if k = true then wa ρ Q EX else wb ρ Q EX) EX
theorem mono_If {t : WT} {wa wb : WE} (h : MonoT t) (h1 : MonoE wa) (h2 : MonoE wb) : MonoE (wIf t wa wb) := fun ρ Q Q' EX hh q => h _ _ _ _ (fun k q => by
  by_cases z : k = true
  · rw [if_pos z] at q ⊢; exact h1 _ _ _ _ hh q
  · rw [if_neg z] at q ⊢; exact h2 _ _ _ _ hh q) q
theorem de_if {t : WT} {wa wb : WE} (h : DT p X c t) (h1 : DE p X a wa) (h2 : DE p X b wb) : DE p X (.IfExp c a b pos) (wIf t wa wb) :=
  ⟨pe_use (pe_ifExp h.pt h1.pe h2.pe) fun σ H Q hk ⟨ρ, O, EX, R, ex, hw⟩ => ⟨ρ, O, EX, R, ex, h.mono _ _ _ _ (fun k q H1 hk1 e1 => by
    by_cases z : k = true
    · rw [if_pos z] at q ⊢
      exact ⟨ρ, O, EX, R.ext' e1, ex, h1.mono _ _ _ _ (fun d q v H2 hk2 e2 r2 _ => q v H2 hk2 (e1.trans e2) r2) q⟩
    · rw [if_neg z] at q ⊢
      exact ⟨ρ, O, EX, R.ext' e1, ex, h2.mono _ _ _ _ (fun d q v H2 hk2 e2 r2 _ => q v H2 hk2 (e1.trans e2) r2) q⟩) hw⟩, mono_If h.mono h1.mono h2.mono⟩
theorem df_if {t : WT} {wa wb : WE} (h : DT p X c t) (h1 : DF p X a wa) (h2 : DF p X b wb) : DF p X (.IfExp c a b pos) (wIf t wa wb) :=
  ⟨pe_use (pe_ifExp h.pt h1.pe h2.pe) fun σ H Q hk ⟨ρ, O, EX, R, ex, hw⟩ => ⟨ρ, O, EX, R, ex, h.mono _ _ _ _ (fun k q H1 hk1 e1 => by
    by_cases z : k = true
    · rw [if_pos z] at q ⊢
      exact ⟨ρ, O, EX, R.ext' e1, ex, h1.mono _ _ _ _ (fun d q v H2 hk2 e2 n r2 _ => q v H2 hk2 (e1.trans e2) (e1.none n) r2) q⟩
    · rw [if_neg z] at q ⊢
      exact ⟨ρ, O, EX, R.ext' e1, ex, h2.mono _ _ _ _ (fun d q v H2 hk2 e2 n r2 _ => q v H2 hk2 (e1.trans e2) (e1.none n) r2) q⟩) hw⟩, mono_If h.mono h1.mono h2.mono⟩
/-! ### chains -/
section
variable {op op' : CmpOp} {r r' : R2} {g g' : G2} {wa wb wc : WE}
theorem chain_run {σ : L2.St} {H : Hp} {O : Own} {ρ : Env'} {EX : EXn} {Qb : Bool → Prop} {Q : VK} (hr : Cmp2 (p.at X.K) g r) (hr' : Cmp2 (p.at X.K) g' r') (ha : DB p X a wa) (hb : DB p X b wb) (hc : DB p X c wc)
    (Rl : Rel (p.at X.K) O ρ σ H) (ex : ExOk (p.at X.K) EX) (hw : wChain g g' wa wb wc ρ Qb EX) (hq : ∀ k H', Hk X.K H' → Ext (p.at X.K) H H' → Qb k → Q (.bl k) H') :
    tChain r r' (LB (p.at X.K) wa) (LB (p.at X.K) wb) (LB (p.at X.K) wc) σ H Q := by
  refine two (S := fun a b => g a b fun k => if k = true then wc ρ (fun c => g' b c Qb) EX else Qb false) ha hb Rl ex hw fun x y da db H2 ok e rx ry q => ?_
  refine hr.ok O H2 x y da db _ _ ok rx ry q fun k q => ⟨k, rfl, ?_⟩
  by_cases z : k = true
  · rw [if_pos z] at q ⊢
    exact ⟨ρ, O, EX, Rl.ext' e, ex, hc.mono _ _ _ _ (fun dc q u H3 hk3 e3 r3 => hr'.ok O H3 y u db dc _ _ (((Rl.ext' e).ext' e3).ok hk3) (ry.ext e.wd e3) r3 q fun k q => hq k H3 hk3 (e.trans e3) q) q⟩
  · rw [if_neg z] at q ⊢
    exact hq false H2 ok.hk e q
theorem de_chain (ho : OpR X (compareOp op) r) (ho' : OpR X (compareOp op') r') (hr : Cmp2 (p.at X.K) g r) (hr' : Cmp2 (p.at X.K) g' r') (ha : DB p X a wa) (hb : DB p X b wb) (hc : DB p X c wc)
    (hm : lastMarks [op, op'] [b, c] = false := by with_unfolding_all rfl) : DE p X (.Compare a [op, op'] [b, c] pos) (wChainE g g' wa wb wc) :=
  ⟨pe_use (pe_chain ho ho' ha.pe hb.pe hc.pe hm) fun σ H Q hk ⟨ρ, O, EX, R, ex, hw⟩ => chain_run hr hr' ha hb hc R ex hw fun k H' hk' e q _ => q _ H' hk' e rep_bool,
    fun ρ Q Q' EX hh q => mono_Chain hr.mono hr'.mono ha.mono hb.mono hc.mono ρ _ _ EX (fun k q => hh _ q) q⟩
theorem dt_chain (ho : OpR X (compareOp op) r) (ho' : OpR X (compareOp op') r') (hr : Cmp2 (p.at X.K) g r) (hr' : Cmp2 (p.at X.K) g' r') (ha : DB p X a wa) (hb : DB p X b wb) (hc : DB p X c wc)
    (hm : lastMarks [op, op'] [b, c] = false := by with_unfolding_all rfl) : DT p X (.Compare a [op, op'] [b, c] pos) (wChain g g' wa wb wc) :=
  ⟨pt_use (pt_chain ho ho' ha.pe hb.pe hc.pe hm) fun σ H Q hk ⟨ρ, O, EX, R, ex, hw⟩ => chain_run hr hr' ha hb hc R ex hw fun k H' hk' e q => ⟨k, rfl, fun hk'' => q H' hk' e⟩,
    mono_Chain hr.mono hr'.mono ha.mono hb.mono hc.mono⟩
end
/-! ### displays -/
theorem small_le {n : Nat} (h : n ≤ 1000) : n ≤ sizeLine := by rw [sizeLine_eq]; omega
theorem wa_len {es : List Expr} {w : WA} (h : DA p X es w) : True := trivial
def wTupL (w : WA) : WE := fun ρ Q EX => w ρ (fun ds => ds.length ≤ sizeLine ∧ Q (.tuple ds)) EX
def wLstL (w : WA) : WE := fun ρ Q EX => w ρ (fun ds => ds.length ≤ sizeLine ∧ Q (.list ds)) EX
theorem de_tupL {es : List Expr} {k : Nat} {w : WA} (h : DA p X es w) : DE p X (.Tuple es k pos) (wTupL w) :=
  ⟨pe_use (pe_tup h.pa) fun σ H Q hk ⟨ρ, O, EX, R, ex, hw⟩ => ⟨ρ, O, EX, R, ex, h.mono _ _ _ _ (fun ds q vs H1 hk1 e1 r1 => ⟨by rw [r1.length]; exact q.1, fun c hc hk' => RE.tup (q.2.to e1) ((R.ext' e1).ok hk1) hc r1 hk'⟩) hw⟩,
    fun ρ Q Q' EX hh q => h.mono _ _ _ _ (fun ds q => ⟨q.1, hh _ q.2⟩) q⟩
theorem df_lstL {es : List Expr} {w : WA} (h : DA p X es w) : DF p X (.List es pos) (wLstL w) :=
  ⟨pe_use (pe_lst h.pa) fun σ H Q hk ⟨ρ, O, EX, R, ex, hw⟩ => ⟨ρ, O, EX, R, ex, h.mono _ _ _ _ (fun ds q vs H1 hk1 e1 r1 => ⟨by rw [r1.length]; exact q.1, fun c hc hk' => RF.list (q.2.to e1) ((R.ext' e1).ok hk1) hc r1 hk'⟩) hw⟩,
    fun ρ Q Q' EX hh q => h.mono _ _ _ _ (fun ds q => ⟨q.1, hh _ q.2⟩) q⟩
/-- that the values are as many as the expressions -/
def LenA (n : Nat) (w : WA) : Prop := ∀ ρ Q EX, w ρ Q EX → w ρ (fun ds => ds.length = n ∧ Q ds) EX
theorem lenA_nil : LenA 0 waNil := fun _ _ _ h => ⟨rfl, h⟩
theorem lenA_cons {n : Nat} {w : WE} {r : WA} (m : MonoE w) (h : LenA n r) (mr : MonoA r) : LenA (n + 1) (waCons w r) := fun ρ Q EX q => m _ _ _ _ (fun d q => mr _ _ _ _ (fun ds ⟨e, q⟩ => ⟨by rw [List.length_cons, e], q⟩) (h _ _ _ q)) q
/-- elements, of a known number -/
structure DAn (p : Par) (X : Cx) (n : Nat) (es : List Expr) (w : WA) : Prop where
  da : DA p X es w
  len : LenA n w
theorem an_nil : DAn p X 0 [] waNil := ⟨da_nil, lenA_nil⟩
theorem an_cons {n : Nat} {es : List Expr} {w : WE} {r : WA} (h : DE p X e w) (t : DAn p X n es r) (hs : starEach (e :: es) X.env = (false, eval e X.env) :: starEach es X.env := by rfl) : DAn p X (n + 1) (e :: es) (waCons w r) :=
  ⟨da_cons h t.da hs, lenA_cons h.mono t.len t.da.mono⟩
theorem de_tup {es : List Expr} {k n : Nat} {w : WA} (h : DAn p X n es w) (hn : n ≤ 1000 := by decide) : DE p X (.Tuple es k pos) (wTup w) :=
  ⟨pe_use (de_tupL h.da).pe fun σ H Q hk ⟨ρ, O, EX, R, ex, hw⟩ => ⟨ρ, O, EX, R, ex, h.da.mono _ _ _ _ (fun ds q => ⟨by rw [q.1]; exact small_le hn, RE.imp (fun _ _ _ q _ => q) q.2⟩) (h.len _ _ _ hw)⟩,
    fun ρ Q Q' EX hh q => h.da.mono _ _ _ _ (fun ds q => hh _ q) q⟩
theorem df_lst {es : List Expr} {n : Nat} {w : WA} (h : DAn p X n es w) (hn : n ≤ 1000 := by decide) : DF p X (.List es pos) (wLst w) :=
  ⟨pe_use (df_lstL h.da).pe fun σ H Q hk ⟨ρ, O, EX, R, ex, hw⟩ => ⟨ρ, O, EX, R, ex, h.da.mono _ _ _ _ (fun ds q => ⟨by rw [q.1]; exact small_le hn, fun a H' hk' e n r _ => q.2 a H' hk' e n r⟩) (h.len _ _ _ hw)⟩,
    fun ρ Q Q' EX hh q => h.da.mono _ _ _ _ (fun ds q => hh _ q) q⟩
/-! ### calls of built-ins -/
section
variable {x : Str} {id T : String} {r : List V → Hp → VK → Prop} {f : FN} {q : Pos} {es : List Expr} {w : WA}
theorem argsN {σ : L2.St} {H : Hp} {Q : VK} {O : Own} {ρ : Env'} {EX : EXn} (hr : OpN (p.at X.K) f r) (h : DBs p X es w) (R : Rel (p.at X.K) O ρ σ H) (ex : ExOk (p.at X.K) EX) (hw : wOpN f w ρ (RE (p.at X.K) O H Q) EX) : tCB r (LBs (p.at X.K) w) σ H (fun v H' => Hk X.K H' → Q v H') :=
  ⟨ρ, O, EX, R, ex, h.mono _ _ _ _ (fun ds q vs H1 hk1 e1 r1 => hr.ok O H1 vs ds Q ((R.ext' e1).ok hk1) r1 (hr.mono _ _ _ (fun d q => q.to e1) q)) hw⟩
theorem argsNF {σ : L2.St} {H : Hp} {Q : VK} {O : Own} {ρ : Env'} {EX : EXn} (hr : OpNF (p.at X.K) f r) (h : DBs p X es w) (R : Rel (p.at X.K) O ρ σ H) (ex : ExOk (p.at X.K) EX) (hw : wOpN f w ρ (RF (p.at X.K) O H Q) EX) : tCB r (LBs (p.at X.K) w) σ H (fun v H' => Hk X.K H' → Q v H') :=
  ⟨ρ, O, EX, R, ex, h.mono _ _ _ _ (fun ds q vs H1 hk1 e1 r1 => hr.ok O H1 vs ds Q ((R.ext' e1).ok hk1) r1 (hr.mono _ _ _ (fun d q => q.to e1) q)) hw⟩
theorem de_callB (hc : CallR X (.builtin id) r) (hr : OpN (p.at X.K) f r) (hm : X.mg x = none) (hv : bootBuiltins x = some (.builtin id)) (ha : DBs p X (e :: es) w) (hg : Gl X x := by rfl) (hn : x ≠ "__name__" := by decide) (hdb : (x == ("__debug__" : Str)) = false := by decide)
    (he : starEach (e :: es) X.env = (false, eval e X.env) :: starEach es X.env := by rfl) (hpl : (backTo pos (starEach es X.env)).any (·.1) = false := by rfl) : DE p X (.Call (.Name x q) (e :: es) [] pos) (wOpN f w) :=
  ⟨pe_use (pe_callB hc hg hm hv ha.pa hn hdb he hpl) fun σ H Q hk ⟨ρ, O, EX, R, ex, hw⟩ => argsN hr ha R ex hw, mono_OpN hr.mono ha.mono⟩
theorem df_callB (hc : CallR X (.builtin id) r) (hr : OpNF (p.at X.K) f r) (hm : X.mg x = none) (hv : bootBuiltins x = some (.builtin id)) (ha : DBs p X (e :: es) w) (hg : Gl X x := by rfl) (hn : x ≠ "__name__" := by decide) (hdb : (x == ("__debug__" : Str)) = false := by decide)
    (he : starEach (e :: es) X.env = (false, eval e X.env) :: starEach es X.env := by rfl) (hpl : (backTo pos (starEach es X.env)).any (·.1) = false := by rfl) : DF p X (.Call (.Name x q) (e :: es) [] pos) (wOpN f w) :=
  ⟨pe_use (pe_callB hc hg hm hv ha.pa hn hdb he hpl) fun σ H Q hk ⟨ρ, O, EX, R, ex, hw⟩ => argsNF hr ha R ex hw, mono_OpN hr.mono ha.mono⟩
theorem de_callTy (hc : CallR X (.type T) r) (hr : OpN (p.at X.K) f r) (hm : X.mg x = none) (hv : bootBuiltins x = some (.type T)) (ha : DBs p X (e :: es) w) (hg : Gl X x := by rfl) (hn : x ≠ "__name__" := by decide) (hdb : (x == ("__debug__" : Str)) = false := by decide)
    (he : starEach (e :: es) X.env = (false, eval e X.env) :: starEach es X.env := by rfl) (hpl : (backTo pos (starEach es X.env)).any (·.1) = false := by rfl) : DE p X (.Call (.Name x q) (e :: es) [] pos) (wOpN f w) :=
  ⟨pe_use (pe_callTy hc hg hm hv ha.pa hn hdb he hpl) fun σ H Q hk ⟨ρ, O, EX, R, ex, hw⟩ => argsN hr ha R ex hw, mono_OpN hr.mono ha.mono⟩
theorem df_callTy (hc : CallR X (.type T) r) (hr : OpNF (p.at X.K) f r) (hm : X.mg x = none) (hv : bootBuiltins x = some (.type T)) (ha : DBs p X (e :: es) w) (hg : Gl X x := by rfl) (hn : x ≠ "__name__" := by decide) (hdb : (x == ("__debug__" : Str)) = false := by decide)
    (he : starEach (e :: es) X.env = (false, eval e X.env) :: starEach es X.env := by rfl) (hpl : (backTo pos (starEach es X.env)).any (·.1) = false := by rfl) : DF p X (.Call (.Name x q) (e :: es) [] pos) (wOpN f w) :=
  ⟨pe_use (pe_callTy hc hg hm hv ha.pa hn hdb he hpl) fun σ H Q hk ⟨ρ, O, EX, R, ex, hw⟩ => argsNF hr ha R ex hw, mono_OpN hr.mono ha.mono⟩
end
/-- one argument -/
def f1 (f : F1) : FN
  | [d], Q => f d Q
  | _, _ => False
def f2 (f : F2) : FN
  | [d, e], Q => f d e Q
  | _, _ => False
theorem mono_f1 {f : F1} (h : ∀ d, M0 (f d)) : ∀ ds, M0 (f1 f ds) := fun ds Q Q' hh q => by
  unfold f1 at q ⊢
  split at q
  · exact h _ _ _ hh q
  · exact q.elim
theorem mono_f2 {f : F2} (h : ∀ d e, M0 (f d e)) : ∀ ds, M0 (f2 f ds) := fun ds Q Q' hh q => by
  unfold f2 at q ⊢
  split at q
  · exact h _ _ _ _ hh q
  · exact q.elim
theorem op1 {f : F1} {r : List V → Hp → VK → Prop} (m : ∀ d, M0 (f d)) (h : ∀ O H x a (Q : VK), Ok p O H → RepB p O H x a → f a (RE p O H Q) → r [x] H (fun v H' => Hk p.K H' → Q v H')) : OpN p (f1 f) r := by
  refine ⟨fun O H xs ds Q ok r hf => ?_, mono_f1 m⟩
  cases r with
  | nil => exact hf.elim
  | cons r1 t => cases t with
    | nil => exact h O H _ _ Q ok r1 hf
    | cons _ _ => exact hf.elim
theorem op1F {f : F1} {r : List V → Hp → VK → Prop} (m : ∀ d, M0 (f d)) (h : ∀ O H x a (Q : VK), Ok p O H → RepB p O H x a → f a (RF p O H Q) → r [x] H (fun v H' => Hk p.K H' → Q v H')) : OpNF p (f1 f) r := by
  refine ⟨fun O H xs ds Q ok r hf => ?_, mono_f1 m⟩
  cases r with
  | nil => exact hf.elim
  | cons r1 t => cases t with
    | nil => exact h O H _ _ Q ok r1 hf
    | cons _ _ => exact hf.elim
theorem op2 {f : F2} {r : List V → Hp → VK → Prop} (m : ∀ d e, M0 (f d e)) (h : ∀ O H x y a b (Q : VK), Ok p O H → RepB p O H x a → RepB p O H y b → f a b (RE p O H Q) → r [x, y] H (fun v H' => Hk p.K H' → Q v H')) : OpN p (f2 f) r := by
  refine ⟨fun O H xs ds Q ok r hf => ?_, mono_f2 m⟩
  cases r with
  | nil => exact hf.elim
  | cons r1 t => cases t with
    | nil => exact hf.elim
    | cons r2 t => cases t with
      | nil => exact h O H _ _ _ _ Q ok r1 r2 hf
      | cons _ _ => exact hf.elim
def aLen : F1
  | .list xs, Q => Q (.int xs.length)
  | .tuple xs, Q => Q (.int xs.length)
  | .str x, Q => x.length ≤ sizeLine ∧ Q (.int x.length)
  | _, _ => False
theorem n_len : OpN p (f1 aLen) (fun xs H Q => ∃ x n, xs = [x] ∧ LenV p.K x H n ∧ Q (.int n) H) := by
  refine op1 (fun d Q Q' h q => ?_) fun O H x a Q ok r hf => ?_
  · cases d <;> first | exact h _ q | exact ⟨q.1, h _ q.2⟩ | exact q.elim
  · cases a <;> first | exact hf.elim | skip
    · rw [r.str]; exact ⟨_, _, rfl, ⟨hf.1, rfl⟩, fun _ => RE.now hf.2 ok rep_int⟩
    · obtain ⟨l, vs, rfl, _, h1, r1⟩ := r.list
      exact ⟨_, vs.length, rfl, .inl ⟨vs, .of h1, rfl⟩, fun _ => by rw [r1.length]; exact RE.now hf ok rep_int⟩
    · obtain ⟨l, vs, rfl, h1, r1⟩ := r.tuple
      exact ⟨_, vs.length, rfl, .inr ⟨vs, h1, rfl⟩, fun _ => by rw [r1.length]; exact RE.now hf ok rep_int⟩
def aAbs : F1
  | .int i, Q => Q (.int (if i < 0 then -i else i))
  | _, _ => False
theorem n_abs : OpN p (f1 aAbs) (fun xs H Q => ∃ i, xs = [.int i] ∧ Q (.int (if i < 0 then -i else i)) H) := by
  refine op1 (fun d Q Q' h q => ?_) fun O H x a Q ok r hf => ?_
  · cases d <;> first | exact h _ q | exact q.elim
  · cases a <;> first | exact hf.elim | skip
    rw [r.int]; exact ⟨_, rfl, fun _ => RE.now hf ok rep_int⟩
def aMax2 : F2
  | .int i, .int j, Q => Q (.int (max i j))
  | _, _, _ => False
def aMin2 : F2
  | .int i, .int j, Q => Q (.int (min i j))
  | _, _, _ => False
theorem n_max2 : OpN p (f2 aMax2) (fun xs H Q => ∃ i j, xs = [.int i, .int j] ∧ Q (.int (if j > i then j else i)) H) := by
  refine op2 (fun d e Q Q' h q => ?_) fun O H x y a b Q ok r r' hf => ?_
  · cases d <;> cases e <;> first | exact h _ q | exact q.elim
  · cases a <;> cases b <;> first | exact hf.elim | skip
    rename_i i j
    rw [r.int, r'.int]
    refine ⟨i, j, rfl, fun _ => ?_⟩
    have e : (if j > i then j else i) = max i j := by rw [Int.max_def]; split <;> split <;> omega
    rw [e]
    exact RE.now hf ok rep_int
theorem n_min2 : OpN p (f2 aMin2) (fun xs H Q => ∃ i j, xs = [.int i, .int j] ∧ Q (.int (if j < i then j else i)) H) := by
  refine op2 (fun d e Q Q' h q => ?_) fun O H x y a b Q ok r r' hf => ?_
  · cases d <;> cases e <;> first | exact h _ q | exact q.elim
  · cases a <;> cases b <;> first | exact hf.elim | skip
    rename_i i j
    rw [r.int, r'.int]
    refine ⟨i, j, rfl, fun _ => ?_⟩
    have e : (if j < i then j else i) = min i j := by rw [Int.min_def]; split <;> split <;> omega
    rw [e]
    exact RE.now hf ok rep_int
def aSum : F1
  | .list xs, Q => ∃ ns, intsD xs = some ns ∧ Q (.int ns.sum)
  | _, _ => False
theorem n_sum : OpN p (f1 aSum) (rSum p.K) := by
  refine op1 (fun d Q Q' h q => ?_) fun O H x a Q ok r hf => ?_
  · cases d <;> first | (obtain ⟨ns, e, q⟩ := q; exact ⟨ns, e, h _ q⟩) | exact q.elim
  · cases a <;> first | exact hf.elim | skip
    obtain ⟨l, vs, rfl, _, h1, r1⟩ := r.list
    obtain ⟨ns, e, q⟩ := hf
    rw [intsD_vals r1 e] at h1
    exact ⟨l, ns, rfl, .of h1, fun _ => q.now ok rep_int⟩
def aSorted : F1
  | .list xs, Q => ∃ ns, intsD xs = some ns ∧ ∀ ns' : List Int, ns'.Perm ns → ns'.Pairwise (· ≤ ·) → Q (.list (ns'.map PyData.int))
  | _, _ => False
theorem n_sorted : OpNF p (f1 aSorted) (rSortedI p.K) := by
  refine op1F (fun d Q Q' h q => ?_) fun O H x a Q ok r hf => ?_
  · cases d <;> first | (obtain ⟨ns, e, q⟩ := q; exact ⟨ns, e, fun ns' h1 h2 => h _ (q ns' h1 h2)⟩) | exact q.elim
  · cases a <;> first | exact hf.elim | skip
    obtain ⟨l, vs, rfl, _, h1, r1⟩ := r.list
    obtain ⟨ns, e, q⟩ := hf
    rw [intsD_vals r1 e] at h1
    exact ⟨l, ns, rfl, .of h1, fun ns' c h2 h3 hc hk => (q ns' h2 h3).list ok hc (RepAll.ints _) hk⟩
/-- list(..), tuple(..) of a list, a tuple -/
def aListOf : F1
  | .list xs, Q => Q (.list xs)
  | .tuple xs, Q => Q (.list xs)
  | _, _ => False
def aTupleOf : F1
  | .list xs, Q => Q (.tuple xs)
  | .tuple xs, Q => Q (.tuple xs)
  | _, _ => False
theorem n_listOf : OpNF p (f1 aListOf) (fun xs H Q => ∃ a ys, xs = [.ref a] ∧ (SqL p.K H a ys ∨ SqT p.K H a ys) ∧ ∀ l, H l = none → Q (.ref l) (upd H l (.lst ys))) := by
  refine op1F (fun d Q Q' h q => ?_) fun O H x a Q ok r hf => ?_
  · cases d <;> first | exact h _ q | exact q.elim
  · cases a <;> first | exact hf.elim | skip
    · obtain ⟨l, vs, rfl, _, h1, r1⟩ := r.list
      exact ⟨l, vs, rfl, .inl (.of h1), fun c hc hk => RF.list hf ok hc r1 hk⟩
    · obtain ⟨l, vs, rfl, h1, r1⟩ := r.tuple
      exact ⟨l, vs, rfl, .inr h1, fun c hc hk => RF.list hf ok hc r1 hk⟩
theorem n_tupleOf : OpN p (f1 aTupleOf) (fun xs H Q => ∃ a ys, xs = [.ref a] ∧ ((SqL p.K H a ys ∧ ∀ l, H l = none → Q (.ref l) (upd H l (.tup ys))) ∨ (SqT p.K H a ys ∧ Q (.ref a) H))) := by
  refine op1 (fun d Q Q' h q => ?_) fun O H x a Q ok r hf => ?_
  · cases d <;> first | exact h _ q | exact q.elim
  · cases a <;> first | exact hf.elim | skip
    · obtain ⟨l, vs, rfl, _, h1, r1⟩ := r.list
      exact ⟨l, vs, rfl, .inl ⟨.of h1, fun c hc hk => RE.tup hf ok hc r1 hk⟩⟩
    · obtain ⟨l, vs, rfl, h1, r1⟩ := r.tup
      exact ⟨l, vs, rfl, .inr ⟨.of h1, fun _ => RE.now hf ok (rep_tuple h1 r1)⟩⟩
def aInt : F1
  | .int i, Q => Q (.int i)
  | .bool k, Q => Q (.int (if k then 1 else 0))
  | _, _ => False
theorem n_int : OpN p (f1 aInt) (fun xs H Q => (∃ i, xs = [.int i] ∧ Q (.int i) H) ∨ ∃ k, xs = [.bl k] ∧ Q (.int (if k then 1 else 0)) H) := by
  refine op1 (fun d Q Q' h q => ?_) fun O H x a Q ok r hf => ?_
  · cases d <;> first | exact h _ q | exact q.elim
  · cases a <;> first | exact hf.elim | skip
    · rw [r.bool]; exact .inr ⟨_, rfl, fun _ => RE.now hf ok rep_int⟩
    · rw [r.int]; exact .inl ⟨_, rfl, fun _ => RE.now hf ok rep_int⟩
/-! ### slices -/
/-- a part -/
def woNone : Env' → (Option Int → Prop) → EXn → Prop := fun _ Q _ => Q none
def woSome (w : WE) : Env' → (Option Int → Prop) → EXn → Prop := fun ρ Q EX => w ρ (fun d => ∃ i, d = .int i ∧ Q (some i)) EX
structure DO (p : Par) (X : Cx) (e : Option Expr) (w : Env' → (Option Int → Prop) → EXn → Prop) : Prop where
  po : PO X e (fun σ H Q => At (p.at X.K) σ H fun O ρ EX => w ρ (fun i => ∀ H', Hk X.K H' → Ext (p.at X.K) H H' → Q i H') EX)
  mono : ∀ ρ Q Q' EX, (∀ d, Q d → Q' d) → w ρ Q EX → w ρ Q' EX
theorem po_use {e : Option Expr} {t t' : TO} (h : PO X e t) (imp : ∀ σ H Q, Hk X.K H → t' σ H Q → t σ H Q) : PO X e t' :=
  ⟨fun pins s σ H Q I ht => h.run pins s σ H _ I (imp σ H Q (hk_of I) ht)⟩
theorem do_none : DO p X none woNone := ⟨po_use po_none fun σ H Q hk ⟨ρ, O, EX, R, ex, hw⟩ => hw H hk (Ext.refl R.wd), fun _ _ _ _ h q => h _ q⟩
theorem do_some {w : WE} (h : DB p X e w) : DO p X (some e) (woSome w) :=
  ⟨po_use (po_some (pe_hk h.pe)) fun σ H Q hk ⟨ρ, O, EX, R, ex, hw⟩ => ⟨ρ, O, EX, R, ex, h.mono _ _ _ _ (fun d ⟨i, z, q⟩ v H1 hk1 e1 r1 hk' => by
    subst z
    rw [r1.int]
    exact ⟨i, rfl, q _ hk' e1⟩) hw⟩, fun ρ Q Q' EX hh q => h.mono _ _ _ _ (fun d ⟨i, z, q⟩ => ⟨i, z, hh _ q⟩) q⟩
def cutD {α : Type} (xs : List α) (lo hi : Option Int) : List α := (xs.drop (HT.sIx xs.length 0 lo)).take (HT.sIx xs.length xs.length hi - HT.sIx xs.length 0 lo)
def aCut (lo hi : Option Int) : F1
  | .list xs, Q => Q (.list (cutD xs lo hi))
  | .tuple xs, Q => Q (.tuple (cutD xs lo hi))
  | _, _ => False
theorem mono_cut {lo hi : Option Int} : ∀ d, M0 (aCut lo hi d) := fun d Q Q' h q => by
  cases d <;> first | exact h _ q | exact q.elim
theorem RepAll.cut {K : PySem.W.Frag} {N : Addr → Prop} {H : Hp} {vs : List V} {ds : List D} (r : RepAll K N H vs ds) (lo hi : Option Int) : RepAll K N H (cutV vs lo hi) (cutD ds lo hi) := by
  unfold cutV cutD
  rw [r.length]
  exact (r.drop _).take _
def rSlD (K : PySem.W.Frag) : V → Option Int → Option Int → Hp → VK → Prop := fun x lo hi H Q => rSlL K x lo hi H Q ∨ rSlA K x lo hi H Q
theorem sl_D : SlR X (rSlD X.K) := sl_list.or sl_tupA
def wCut (w : WE) (wl wh : Env' → (Option Int → Prop) → EXn → Prop) : WE := fun ρ Q EX => w ρ (fun d => wl ρ (fun lo => wh ρ (fun hi => aCut lo hi d Q) EX) EX) EX
theorem cut_whole {vs : List V} {lo hi : Option Int} (h : HT.sIx vs.length 0 lo = 0 ∧ HT.sIx vs.length vs.length hi = vs.length) : cutV vs lo hi = vs := by
  unfold cutV
  rw [h.1, h.2, List.drop_zero, Nat.sub_zero, List.take_length]
theorem mono_Cut {w : WE} {wl wh : Env' → (Option Int → Prop) → EXn → Prop} {lo hi : Option Expr} (h : MonoE w) (hl : DO p X lo wl) (hh : DO p X hi wh) : MonoE (wCut w wl wh) := fun ρ Q Q' EX h2 q =>
  h _ _ _ _ (fun d q => hl.mono _ _ _ _ (fun lo q => hh.mono _ _ _ _ (fun hi q => mono_cut d _ _ h2 q) q) q) q
theorem de_cut {w : WE} {wl wh : Env' → (Option Int → Prop) → EXn → Prop} {lo hi : Option Expr} {p2 : Pos} (h : DB p X e w) (hl : DO p X lo wl) (hh : DO p X hi wh) : DE p X (.Subscript e (.Slice lo hi none p2) pos) (wCut w wl wh) := by
  refine ⟨pe_use (pe_slice sl_D (pe_hk h.pe) hl.po hh.po) fun σ H Q hk ⟨ρ, O, EX, R, ex, hw⟩ => ⟨ρ, O, EX, R, ex, h.mono _ _ _ _ (fun d q v H1 hk1 e1 r1 _ => ⟨ρ, O, EX, R.ext' e1, ex, hl.mono _ _ _ _ (fun lo q H2 hk2 e2 => ⟨ρ, O, EX, (R.ext' e1).ext' e2, ex,
    hh.mono _ _ _ _ (fun hi q H3 hk3 e3 => ?_) q⟩) q⟩) hw⟩, mono_Cut h.mono hl hh⟩
  have r3 := (r1.ext e1.wd e2).ext e2.wd e3
  have e13 := (e1.trans e2).trans e3
  have ok := (R.ext' e13).ok hk3
  cases d <;> first | exact q.elim | skip
  · obtain ⟨l, vs, rfl, _, h1, r4⟩ := r3.list
    exact .inl ⟨l, vs, rfl, .of h1, fun c hc hk' => RF.list (RE.f ok (RE.to q e13)) ok hc (r4.cut lo hi) hk'⟩
  · obtain ⟨l, vs, rfl, h1, r4⟩ := r3.tup
    refine .inr ⟨l, vs, rfl, .of h1, fun z hk' => ?_, fun _ c hc hk' => RE.tup (RE.to q e13) ok hc (r4.cut lo hi) hk'⟩
    have r5 := r4.cut lo hi
    rw [cut_whole z] at r5
    exact RE.now (RE.to q e13) ok (rep_tuple h1 r5)
theorem df_cut {w : WE} {wl wh : Env' → (Option Int → Prop) → EXn → Prop} {lo hi : Option Expr} {p2 : Pos} (h : DB p X e w) (hl : DO p X lo wl) (hh : DO p X hi wh) : DF p X (.Subscript e (.Slice lo hi none p2) pos) (fun ρ Q EX => wCut w wl wh ρ (fun d => (∃ xs, d = .list xs) ∧ Q d) EX) := by
  refine ⟨pe_use (pe_slice sl_D (pe_hk h.pe) hl.po hh.po) fun σ H Q hk ⟨ρ, O, EX, R, ex, hw⟩ => ⟨ρ, O, EX, R, ex, h.mono _ _ _ _ (fun d q v H1 hk1 e1 r1 _ => ⟨ρ, O, EX, R.ext' e1, ex, hl.mono _ _ _ _ (fun lo q H2 hk2 e2 => ⟨ρ, O, EX, (R.ext' e1).ext' e2, ex,
    hh.mono _ _ _ _ (fun hi q H3 hk3 e3 => ?_) q⟩) q⟩) hw⟩, fun ρ Q Q' EX h2 q => mono_Cut h.mono hl hh _ _ _ _ (fun d q => ⟨q.1, h2 _ q.2⟩) q⟩
  have r3 := (r1.ext e1.wd e2).ext e2.wd e3
  have e13 := (e1.trans e2).trans e3
  have ok := (R.ext' e13).ok hk3
  cases d <;> first | exact q.elim | skip
  · obtain ⟨l, vs, rfl, _, h1, r4⟩ := r3.list
    exact .inl ⟨l, vs, rfl, .of h1, fun c hc hk' => RF.list (RF.to q.2 e13) ok hc (r4.cut lo hi) hk'⟩
  · obtain ⟨⟨xs, z⟩, _⟩ := q
    cases z
def wRev (w : WE) : WE := fun ρ Q EX => w ρ (fun d => ∃ xs, d = .list xs ∧ Q (.list xs.reverse)) EX
theorem df_rev {w : WE} {k : Nat} {p1 p2 p3 : Pos} (h : DB p X e w) : DF p X (.Subscript e (.Slice none none (some (.UnaryOp .USub (.Constant (.int 1) k p1) p2)) p3) pos) (wRev w) :=
  ⟨pe_use (pe_revL h.pe) fun σ H Q hk ⟨ρ, O, EX, R, ex, hw⟩ => ⟨ρ, O, EX, R, ex, h.mono _ _ _ _ (fun d ⟨xs, z, q⟩ v H1 hk1 e1 r1 => by
    subst z
    obtain ⟨l, vs, rfl, _, h1, r2⟩ := r1.list
    exact ⟨l, vs, rfl, .of h1, fun c hc hk' => RF.list (q.to e1) ((R.ext' e1).ok hk1) hc r2.reverse hk'⟩) hw⟩, fun ρ Q Q' EX hh q => h.mono _ _ _ _ (fun d ⟨xs, z, q⟩ => ⟨xs, z, hh _ q⟩) q⟩
/-- unary minus -/
def wNeg (w : WE) : WE := fun ρ Q EX => w ρ (fun d => ∃ i, d = .int i ∧ Q (.int (-i))) EX
theorem de_neg {w : WE} (h : DB p X e w) : DE p X (.UnaryOp .USub e pos) (wNeg w) :=
  ⟨pe_use (pe_un un_neg h.pe) fun σ H Q hk ⟨ρ, O, EX, R, ex, hw⟩ => ⟨ρ, O, EX, R, ex, h.mono _ _ _ _ (fun d ⟨i, z, q⟩ v H1 hk1 e1 r1 => by
    subst z
    rw [r1.int]
    exact ⟨i, rfl, fun _ => q _ H1 hk1 e1 rep_int⟩) hw⟩, fun ρ Q Q' EX hh q => h.mono _ _ _ _ (fun d ⟨i, z, q⟩ => ⟨i, z, hh _ q⟩) q⟩
/-! ### isinstance -/
def tyD : D → String
  | .none => "NoneType"
  | .bool _ => "bool"
  | .int _ => "int"
  | .str _ => "str"
  | .list _ => "list"
  | .tuple _ => "tuple"
  | .dict _ => "dict"
end
end DD
set_option maxRecDepth 100000
set_option maxHeartbeats 2000000
/-! SemE: max, min of rows of ints (with default), isinstance. -/
namespace DD
open PySem PySem.Spec PyProof.Rows L2
/-! ### max, min -/
theorem reads_ints {h : Heap} : ∀ {ns : List Int} {us : List Value}, Vals (ns.map V.int) us → ReadsAll h us (ns.map PyData.int) []
  | [], _, .nil => .nil
  | n :: ns, _, .cons r t => by
    obtain ⟨k, rfl⟩ := r
    exact ReadsAll.cons (as := []) (bs := []) (.int n k) (reads_ints t)
theorem alike_ints (ns : List Int) : PySem.W.AlikeAll (ns.map PyData.int) := by
  refine ⟨fun x hx y hy => ?_, fun x hx => ?_⟩
  · obtain ⟨i, _, rfl⟩ := List.mem_map.mp hx
    obtain ⟨j, _, rfl⟩ := List.mem_map.mp hy
    rfl
  · obtain ⟨i, _, rfl⟩ := List.mem_map.mp hx
    simp
theorem depth_ints (ns : List Int) : PyData.depthAll (ns.map PyData.int) = 0 := by
  induction ns with
  | nil => rfl
  | cons n r ih => rw [List.map_cons, PyData.depthAll, ih]; rfl
def maxI (n : Int) (ns : List Int) : Int := ns.foldl max n
def minI (n : Int) (ns : List Int) : Int := ns.foldl min n
def rMM (K : PySem.W.Frag) (f : Int → List Int → Int) : List V → Hp → VK → Prop := fun vs H Q => ∃ (a : Addr) (n : Int) (ns : List Int), vs = [.ref a] ∧ (SqL K H a ((n :: ns).map V.int) ∨ SqT K H a ((n :: ns).map V.int)) ∧ Q (.int (f n ns)) H
/-- with default: a row that may be empty -/
def rMMd (K : PySem.W.Frag) (f : Int → List Int → Int) : List V → List V → Hp → VK → Prop := fun vs zs H Q => ∃ (a : Addr) (ns : List Int) (z : V), vs = [.ref a] ∧ zs = [z] ∧ (SqL K H a (ns.map V.int) ∨ SqT K H a (ns.map V.int)) ∧
  match ns with
  | [] => Q z H
  | n :: ns => Q (.int (f n ns)) H
section
variable {X : Cx}
theorem reads_int {h : Heap} {v : Value} {i : Int} {as : List Addr} (r : Reads h v (.int i) as) : ∃ t, v = .int i t := by
  cases r; exact ⟨_, rfl⟩
theorem cr_maxA (hc : X.calm = true) (hu : X.A.units + 64 < cLine) : CallR X (.builtin "max") (rMM X.K maxI) := by
  intro pins s σ H vs us Q I r h
  obtain ⟨a, n, ns, rfl, hs, q⟩ := h
  rw [Vals.ref1 r]
  rcases hs with hs | hs
  · obtain ⟨its, rv, hl, _⟩ := I.list hs
    refine PySem.W.max_list_data (I.ok.hd hc) hl.isList (x := .int n) (xs := ns.map PyData.int) (as := []) (by simpa using reads_ints rv) (alike_ints (n :: ns)) (by rw [show (PyData.int n :: ns.map PyData.int) = (n :: ns).map PyData.int from rfl, depth_ints]; omega) fun i v h' tk bs _ rd hk => ?_
    rw [PySem.W.maxD_ints] at rd
    obtain ⟨t, rfl⟩ := reads_int rd
    exact ⟨.int _, H, I.kept hk, ⟨_, rfl⟩, q⟩
  · obtain ⟨its, rv, hl, _⟩ := I.tuple hs
    refine PySem.W.max_tuple_data (I.ok.hd hc) hl (x := .int n) (xs := ns.map PyData.int) (as := []) (by simpa using reads_ints rv) (alike_ints (n :: ns)) (by rw [show (PyData.int n :: ns.map PyData.int) = (n :: ns).map PyData.int from rfl, depth_ints]; omega) fun i v h' tk bs _ rd hk => ?_
    rw [PySem.W.maxD_ints] at rd
    obtain ⟨t, rfl⟩ := reads_int rd
    exact ⟨.int _, H, I.kept hk, ⟨_, rfl⟩, q⟩
theorem cr_minA (hc : X.calm = true) (hu : X.A.units + 64 < cLine) : CallR X (.builtin "min") (rMM X.K minI) := by
  intro pins s σ H vs us Q I r h
  obtain ⟨a, n, ns, rfl, hs, q⟩ := h
  rw [Vals.ref1 r]
  rcases hs with hs | hs
  · obtain ⟨its, rv, hl, _⟩ := I.list hs
    refine PySem.W.min_list_data (I.ok.hd hc) hl.isList (x := .int n) (xs := ns.map PyData.int) (as := []) (by simpa using reads_ints rv) (alike_ints (n :: ns)) (by rw [show (PyData.int n :: ns.map PyData.int) = (n :: ns).map PyData.int from rfl, depth_ints]; omega) fun i v h' tk bs _ rd hk => ?_
    rw [PySem.W.minD_ints] at rd
    obtain ⟨t, rfl⟩ := reads_int rd
    exact ⟨.int _, H, I.kept hk, ⟨_, rfl⟩, q⟩
  · obtain ⟨its, rv, hl, _⟩ := I.tuple hs
    refine PySem.W.min_tuple_data (I.ok.hd hc) hl (x := .int n) (xs := ns.map PyData.int) (as := []) (by simpa using reads_ints rv) (alike_ints (n :: ns)) (by rw [show (PyData.int n :: ns.map PyData.int) = (n :: ns).map PyData.int from rfl, depth_ints]; omega) fun i v h' tk bs _ rd hk => ?_
    rw [PySem.W.minD_ints] at rd
    obtain ⟨t, rfl⟩ := reads_int rd
    exact ⟨.int _, H, I.kept hk, ⟨_, rfl⟩, q⟩
theorem crk_maxA (hc : X.calm = true) (hu : X.A.units + 64 < cLine) : CallRK X (.builtin "max") ["default"] (rMMd X.K maxI) := by
  intro pins s σ H vs zs us ws Q I r r' h
  obtain ⟨a, ns, z, rfl, rfl, hs, q⟩ := h
  rw [Vals.ref1 r]
  obtain ⟨w, rfl, rz⟩ := Vals.one r'
  show wpAny _ _ (call (.builtin "max") [.ref a] [(Str.ofString "default", w)]) _ _ _
  rcases hs with hs | hs
  · obtain ⟨its, rv, hl, _⟩ := I.list hs
    refine PySem.W.max_list_default (I.ok.hd hc) hl.isList (xs := ns.map PyData.int) (as := []) (by simpa using reads_ints rv) (alike_ints ns) (by rw [depth_ints]; omega) (fun e h' tk hk => ?_) fun y ys i v h' tk bs e _ rd hk => ?_
    · rw [List.map_eq_nil_iff] at e
      subst e
      exact ⟨z, H, I.kept hk, rz, q⟩
    · obtain ⟨n, ns', rfl, rfl, rfl⟩ := List.map_eq_cons_iff.mp e
      rw [PySem.W.maxD_ints] at rd
      obtain ⟨t, rfl⟩ := reads_int rd
      exact ⟨.int _, H, I.kept hk, ⟨_, rfl⟩, q⟩
  · obtain ⟨its, rv, hl, _⟩ := I.tuple hs
    refine PySem.W.max_tuple_default (I.ok.hd hc) hl (xs := ns.map PyData.int) (as := []) (by simpa using reads_ints rv) (alike_ints ns) (by rw [depth_ints]; omega) (fun e h' tk hk => ?_) fun y ys i v h' tk bs e _ rd hk => ?_
    · rw [List.map_eq_nil_iff] at e
      subst e
      exact ⟨z, H, I.kept hk, rz, q⟩
    · obtain ⟨n, ns', rfl, rfl, rfl⟩ := List.map_eq_cons_iff.mp e
      rw [PySem.W.maxD_ints] at rd
      obtain ⟨t, rfl⟩ := reads_int rd
      exact ⟨.int _, H, I.kept hk, ⟨_, rfl⟩, q⟩
end
section
variable {p : Par} {X : Cx} {pos : Pos} {e a b c : Expr}
def rowD : D → Option (List Int)
  | .list xs => intsD xs
  | .tuple xs => intsD xs
  | _ => none
def aBest (f : Int → List Int → Int) : F1 := fun d Q => ∃ n ns, rowD d = some (n :: ns) ∧ Q (.int (f n ns))
theorem row_of {O : Own} {H : Hp} {v : V} {d : D} {ns : List Int} (r : RepB p O H v d) (e : rowD d = some ns) : ∃ a, v = .ref a ∧ (SqL p.K H a (ns.map V.int) ∨ SqT p.K H a (ns.map V.int)) := by
  cases d <;> first | (exact absurd e (fun z => by cases z)) | skip
  · obtain ⟨l, vs, rfl, _, h1, r1⟩ := r.list
    rw [intsD_vals r1 e] at h1
    exact ⟨l, rfl, .inl (.of h1)⟩
  · obtain ⟨l, vs, rfl, h1, r1⟩ := r.tuple
    rw [intsD_vals r1 e] at h1
    exact ⟨l, rfl, .inr h1⟩
theorem n_best {f : Int → List Int → Int} : OpN p (f1 (aBest f)) (rMM p.K f) := by
  refine op1 (fun d Q Q' h ⟨n, ns, e, q⟩ => ⟨n, ns, e, h _ q⟩) fun O H x a Q ok r ⟨n, ns, e, q⟩ => ?_
  obtain ⟨l, rfl, hs⟩ := row_of r e
  exact ⟨l, n, ns, rfl, hs, fun _ => q.now ok rep_int⟩
abbrev aMaxR : F1 := aBest maxI
abbrev aMinR : F1 := aBest minI
/-- max(row, default=..) -/
def wMaxD (wa wb : WE) : WE := fun ρ Q EX => wa ρ (fun a => wb ρ (fun b => ∃ ns, rowD a = some ns ∧ match ns with
  | [] => Q b
  | n :: ns => Q (.int (maxI n ns))) EX) EX
theorem de_maxD {wa wb : WE} {q kpos : Pos} (hc : X.calm = true) (hu : X.A.units + 64 < cLine) (hm : X.mg "max" = none) (ha : DB p X a wa) (hb : DE p X b wb) (hg : Gl X "max" := by rfl)
    (he : backTo pos (starEach [a] X.env) = (false, eval a X.env) :: backTo pos (starEach [] X.env) := by rfl) (hpl : (backTo pos (starEach [a] X.env)).any (·.1) = false := by rfl) (hs : starEach [a] X.env = (false, eval a X.env) :: starEach [] X.env := by rfl)
    (hv : bootBuiltins "max" = some (.builtin "max") := by decide +kernel) : DE p X (.Call (.Name "max" q) [a] [⟨some "default", b, kpos⟩] pos) (wMaxD wa wb) := by
  refine ⟨pe_use (pe_callBK (crk_maxA hc hu) hg hm hv (pa_cons ha.pe pa_nil hs) (pk_cons (pe_hk hb.pe) pk_nil) (by decide) (by decide) he hpl (by rfl) (by rfl) (by rfl)) fun σ H Q hk ⟨ρ, O, EX, R, ex, hw⟩ => ?_, fun ρ Q Q' EX hh q => ha.mono _ _ _ _ (fun da q => hb.mono _ _ _ _ (fun db ⟨ns, e, q⟩ => ⟨ns, e, by
    cases ns with
    | nil => exact hh _ q
    | cons n ns => exact hh _ q⟩) q) q⟩
  refine ⟨ρ, O, EX, R, ex, ha.mono _ _ _ _ (fun da q v H1 hk1 e1 r1 => ⟨ρ, O, EX, R.ext' e1, ex, hb.mono _ _ _ _ (fun db ⟨ns, e, q⟩ u H2 hk2 e2 r2 _ => ?_) q⟩) hw⟩
  obtain ⟨l, rfl, hs⟩ := row_of (r1.ext e1.wd e2) e
  refine ⟨l, ns, u, rfl, rfl, hs, ?_⟩
  cases ns with
  | nil => exact fun _ => q u H2 hk2 (e1.trans e2) r2
  | cons n ns => exact fun _ => q _ H2 hk2 (e1.trans e2) rep_int
/-! ### isinstance -/
/-- the type of a value: as TyX, or a dict -/
def TyY (K : PySem.W.Frag) (H : Hp) (x : V) (t : Value) : Prop := TyX K H x t ∨ ∃ a o es, x = .ref a ∧ t = .type "dict" ∧ DkO H a o es
theorem kit_ofY {X : Cx} {pins : List (Addr × Obj)} {σ : L2.St} {H : Hp} {s : Shared} {x : V} {u t : Value} (I : Inv X pins σ H s) (rx : RelV x u) (ty : TyY X.K H x t) : ∃ P : Heap → Prop, PySem.W.KitX X.K u t P ∧ P s.heap ∧ u ≠ .builtin "__main__.__loader__#opaque" := by
  rcases ty with ty | ⟨a, o, es, rfl, rfl, ea⟩
  · exact kit_of I rx ty
  · cases (show u = Value.ref a from rx)
    have h1 : s.heap.get? a = some o := (I.hok a _ ea.at_).1
    exact ⟨_, PySem.W.kitx_dict, ⟨o, h1, ea.ex.1⟩, fun z => nomatch z⟩
def rIsiY (K : PySem.W.Frag) : List V → Hp → VK → Prop := fun xs H Q => ∃ (x c : V) (t u : Value) (b : Bool), xs = [x, c] ∧ ClsV c u ∧ TyY K H x t ∧ PySem.W.kitOne K t u = some b ∧ Q (.bl b) H
def rIsiTY (K : PySem.W.Frag) : List V → Hp → VK → Prop := fun xs H Q => ∃ (x : V) (tp : Addr) (cs : List V) (t : Value) (us : List Value) (b : Bool), xs = [x, .ref tp] ∧ H tp = some (.tup cs) ∧ Paired ClsV cs us ∧ TyY K H x t ∧ PySem.W.kitAny K t us = some b ∧ Q (.bl b) H
theorem call_isiY {X : Cx} : CallR X (.builtin "isinstance") (rIsiY X.K) := by
  intro pins s σ H xs us Q I r h
  obtain ⟨x, c, t, u, b, rfl, k, ty, e, q⟩ := h
  obtain ⟨u1, u2, rfl, r1, r2⟩ := vals2 r
  have e2 := k.eq r2
  subst e2
  obtain ⟨P, Z, p, hx⟩ := kit_ofY I r1 ty
  exact PySem.W.kia_one Z I.kIn p e hx fun tk => ⟨.bl b, H, I.tok tk, rfl, q⟩
theorem call_isiTY {X : Cx} : CallR X (.builtin "isinstance") (rIsiTY X.K) := by
  intro pins s σ H xs us Q I r h
  obtain ⟨x, tp, cs, t, ws, b, rfl, hT, k, ty, e, q⟩ := h
  obtain ⟨u1, u2, rfl, r1, r2⟩ := vals2 r
  cases (show u2 = Value.ref tp from r2)
  obtain ⟨P, Z, p, hx⟩ := kit_ofY I r1 ty
  obtain ⟨_, its, rv, o, h1, h2, n, h3⟩ := (show ObjOk X.prog X.w H s.heap tp (.tup cs) from I.hok tp _ hT)
  have e3 := ClsV.all k rv
  subst e3
  obtain ⟨oc, od, dt, sl⟩ := o
  simp only at h2 h3
  subst h2 h3
  exact PySem.W.kia_tup Z I.kIn p h1 e hx fun tk => ⟨.bl b, H, I.tok tk, rfl, q⟩
theorem ty_of {O : Own} {H : Hp} {v : V} {d : D} (hk : Hk p.K H) (r : RepB p O H v d) : TyY p.K H v (.type (tyD d)) := by
  cases d with
  | none => rw [r.none]; exact .inl <| .base .non
  | bool b => rw [r.bool]; exact .inl <| .base (.bl _)
  | int i => rw [r.int]; exact .inl <| .base (.int _)
  | str y => rw [r.str]; exact .inl <| .base (.str _)
  | list xs =>
    obtain ⟨l, vs, rfl, _, h1, r1⟩ := r.list
    exact .inl <| .base (.lst h1)
  | tuple xs =>
    obtain ⟨l, vs, rfl, h1, r1⟩ := r.tuple
    rcases h1 with (h1 | ⟨o, h1⟩) | ⟨o, its, n, h1, h2, _⟩
    · exact .inl <| .base (.tup h1)
    · exact .inl <| .fTuple h1
    · exact .inl <| .kTuple h1 h2
  | dict kvs =>
    obtain ⟨l, o, es, rfl, _, h1, _⟩ := r.dict
    exact .inr ⟨l, o, es, rfl, rfl, h1⟩
/-- is the data of the type -/
def isTy (T : String) (d : D) : Bool := tyD d == T || (T == "int" && tyD d == "bool")
def TyOk (T : String) : Bool := ["NoneType", "bool", "int", "str", "list", "tuple", "dict"].all fun t => kitB t T == some (t == T || (T == "int" && t == "bool"))
theorem kit_at {T : String} (h : TyOk T = true) (d : D) {K : PySem.W.Frag} : PySem.W.kitOne K (.type (tyD d)) (.type T) = some (isTy T d) := by
  unfold TyOk at h
  rw [List.all_eq_true] at h
  refine kit_ty (eq_of_beq (h (tyD d) ?_))
  cases d <;> simp [tyD]
def wIsi (T : String) (w : WE) : WE := fun ρ Q EX => w ρ (fun d => Q (.bool (isTy T d))) EX
theorem de_isi {w : WE} {T : String} {x : Str} {q q2 : Pos} (hm : X.mg "isinstance" = none) (hmT : X.mg x = none) (hT : bootBuiltins x = some (.type T)) (ok : TyOk T = true) (h : DB p X a w) (hg : Gl X "isinstance" := by rfl) (hgT : Gl X x := by rfl)
    (hn : x ≠ "__name__" := by decide) (hd : (x == ("__debug__" : Str)) = false := by decide) (hs : starEach [a, .Name x q2] X.env = (false, eval a X.env) :: starEach [.Name x q2] X.env := by rfl) (hs2 : starEach [.Name x q2] X.env = (false, eval (.Name x q2) X.env) :: starEach [] X.env := by rfl)
    (hpl : (backTo pos (starEach [.Name x q2] X.env)).any (·.1) = false := by rfl) (hv : bootBuiltins "isinstance" = some (.builtin "isinstance") := by decide +kernel) : DE p X (.Call (.Name "isinstance" q) [a, .Name x q2] [] pos) (wIsi T w) :=
  ⟨pe_use (pe_callB call_isiY hg hm hv (pa_cons h.pe (pa_cons (pe_bltn (v := .ty T) hgT hmT hT rfl hn hd) pa_nil hs2) hs) (by decide) (by decide) hs hpl) fun σ H Q hk ⟨ρ, O, EX, R, ex, hw⟩ => ⟨ρ, O, EX, R, ex, h.mono _ _ _ _ (fun d q v H1 hk1 e1 r1 =>
    ⟨v, .ty T, _, _, _, rfl, .ty T, ty_of hk1 r1, kit_at ok d, fun _ => q _ H1 hk1 e1 rep_bool⟩) hw⟩, fun ρ Q Q' EX hh q => h.mono _ _ _ _ (fun d q => hh _ q) q⟩
/-- isinstance(x, (S, T)) -/
def wIsi2 (S T : String) (w : WE) : WE := fun ρ Q EX => w ρ (fun d => Q (.bool (isTy S d || isTy T d))) EX
theorem de_isi2 {w : WE} {S T : String} {x y : Str} {k : Nat} {q q1 q2 q3 : Pos} (hm : X.mg "isinstance" = none) (hmS : X.mg x = none) (hmT : X.mg y = none) (hS : bootBuiltins x = some (.type S)) (hT : bootBuiltins y = some (.type T)) (okS : TyOk S = true) (okT : TyOk T = true) (h : DB p X a w) (hg : Gl X "isinstance" := by rfl) (hgS : Gl X x := by rfl) (hgT : Gl X y := by rfl)
    (hnS : x ≠ "__name__" := by decide) (hdS : (x == ("__debug__" : Str)) = false := by decide) (hnT : y ≠ "__name__" := by decide) (hdT : (y == ("__debug__" : Str)) = false := by decide)
    (hs : starEach [a, .Tuple [.Name x q1, .Name y q2] k q3] X.env = (false, eval a X.env) :: starEach [.Tuple [.Name x q1, .Name y q2] k q3] X.env := by rfl) (hs2 : starEach [.Tuple [.Name x q1, .Name y q2] k q3] X.env = (false, eval (.Tuple [.Name x q1, .Name y q2] k q3) X.env) :: starEach [] X.env := by rfl)
    (hs3 : starEach [.Name x q1, .Name y q2] X.env = (false, eval (.Name x q1) X.env) :: starEach [.Name y q2] X.env := by rfl) (hs4 : starEach [.Name y q2] X.env = (false, eval (.Name y q2) X.env) :: starEach [] X.env := by rfl)
    (hpl : (backTo pos (starEach [.Tuple [.Name x q1, .Name y q2] k q3] X.env)).any (·.1) = false := by rfl) (hv : bootBuiltins "isinstance" = some (.builtin "isinstance") := by decide +kernel) : DE p X (.Call (.Name "isinstance" q) [a, .Tuple [.Name x q1, .Name y q2] k q3] [] pos) (wIsi2 S T w) := by
  refine ⟨pe_use (pe_callB call_isiTY hg hm hv (pa_cons (pe_hk h.pe) (pa_cons (pe_hk (pe_tup (pa_cons (pe_bltn (v := .ty S) hgS hmS hS rfl hnS hdS) (pa_cons (pe_bltn (v := .ty T) hgT hmT hT rfl hnT hdT) pa_nil hs4) hs3))) pa_nil hs2) hs) (by decide) (by decide) hs hpl) fun σ H Q hk ⟨ρ, O, EX, R, ex, hw⟩ => ⟨ρ, O, EX, R, ex, h.mono _ _ _ _ (fun d q v H1 hk1 e1 r1 _ =>
    ⟨small_le (show 2 ≤ 1000 by decide), fun c hc hk2 => ?_⟩) hw⟩, fun ρ Q Q' EX hh q => h.mono _ _ _ _ (fun d q => hh _ q) q⟩
  have e2 := Ext.new (o := .tup [.ty S, .ty T]) e1.wd hc
  refine ⟨v, c, [.ty S, .ty T], _, [.type S, .type T], _, rfl, by unfold L2.upd; rw [if_pos rfl], .cons (.ty S) (.cons (.ty T) .nil), ty_of hk2 (r1.ext e1.wd e2), ?_, fun _ => q _ _ hk2 (e1.trans e2) rep_bool⟩
  refine kitAny_cons (b := isTy S d) (kit_at okS d) (fun z => ?_) (fun z => by rw [z]; rfl)
  rw [z, Bool.false_or]
  exact kitAny_cons (kit_at okT d) (fun z => by rw [z]; exact kitAny_nil) (fun z => z)
theorem ok_int : TyOk "int" = true := by decide +kernel
theorem ok_bool : TyOk "bool" = true := by decide +kernel
theorem ok_str : TyOk "str" = true := by decide +kernel
theorem ok_list : TyOk "list" = true := by decide +kernel
theorem ok_tuple : TyOk "tuple" = true := by decide +kernel
theorem ok_dict : TyOk "dict" = true := by decide +kernel
end
end DD
set_option maxRecDepth 100000
set_option maxHeartbeats 2000000
/-! SemF: statements without loops. -/
namespace DD
open PySem PySem.Spec PyProof.Rows L2
/-! ### states -/
section
variable {p : Par} {O : Own} {ρ : Env'} {σ : L2.St} {H H1 H2 : Hp}
/-- a slot's own object given away: it is data from now on -/
theorem Rel.freeze {i : Nat} {d : D} (R : Rel p O ρ σ H) (h : ρ[i]? = some (some (.own d))) : Rel p (clr O i) (ρ.set i (some (.d d))) σ H := by
  obtain ⟨a, ha, e1, r⟩ := R.slot i _ h
  obtain ⟨h0, nr, _, _, _⟩ := R.own i a ha
  have hn : NN p (clr O i) a := ⟨.inr h0, nr, fun j z => by
    unfold clr at z
    dsimp only at z
    split at z
    · cases z
    · rename_i hj; exact hj (R.inj j i a z ha)⟩
  have hs : σ = σ.set i (some (.ref a)) := by
    apply List.ext_getElem?
    intro j
    rw [List.getElem?_set]
    by_cases z : i = j
    · subst z
      rw [if_pos rfl, e1]
      have : i < σ.length := (List.getElem?_eq_some_iff.mp e1).1
      rw [if_pos this]
    · rw [if_neg z]
  have r2 := RepO.v (RepO.keep (keeps_clr i) rfl r) hn
  refine ⟨R.wd, R.ext, by rw [List.length_set]; exact R.len, fun j w hw => ?_, fun j k b hj hk => ?_, fun x hx => RepI.keep (keeps_clr i) x (R.keep x hx), fun j b hj => ?_⟩
  · rw [List.getElem?_set] at hw
    by_cases z : i = j
    · subst z
      rw [if_pos rfl] at hw
      split at hw
      · cases hw
        exact ⟨_, e1, r2⟩
      · cases hw
    · rw [if_neg z] at hw
      have h := R.slot j w hw
      cases w with
      | d x => obtain ⟨v, e1, e2⟩ := h; exact ⟨v, e1, RepV.keep (keeps_clr i) x v e2⟩
      | own x =>
        obtain ⟨b, e1, e2, e3⟩ := h
        exact ⟨b, (if_neg (Ne.symm z)).trans e1, e2, RepO.keep (keeps_clr i) rfl e3⟩
      | row => exact h
  · unfold clr at hj hk
    dsimp only at hj hk
    split at hj
    · cases hj
    · split at hk
      · cases hk
      · exact R.inj j k b hj hk
  · unfold clr at hj
    dsimp only at hj
    split at hj
    · cases hj
    · exact R.own j b hj
/-- values kept in hand: taken up, laid down -/
theorem Rel.hold {ks : List KI} (R : Rel p O ρ σ H) (h : ∀ x ∈ ks, RepI p.K (NN p O) H x) : Rel p ⟨O.fn, ks ++ O.ks⟩ ρ σ H :=
  ⟨R.wd, R.ext, R.len, R.slot, R.inj, fun x hx => (List.mem_append.mp hx).elim (fun z => h x z) (fun z => R.keep x z), R.own⟩
theorem Rel.drop {ks : List KI} (R : Rel p O ρ σ H) (h : ∀ x ∈ ks, x ∈ O.ks) : Rel p ⟨O.fn, ks⟩ ρ σ H :=
  ⟨R.wd, R.ext, R.len, R.slot, R.inj, fun x hx => R.keep x (h x hx), R.own⟩
/-- an own object at the hidden place L goes to the slot i -/
def mv (O : Own) (i L : Nat) (a : Addr) : Own := ⟨fun j => if j = i then some a else if j = L then none else O j, O.ks⟩
theorem keeps_mv {i L : Nat} {a : Addr} (hL : O L = some a) : Keeps2 (NN p O) (NN p (mv O i L a)) H H := ⟨fun b n _ => ⟨n.1, n.2.1, fun j z => by
  unfold mv at z
  dsimp only at z
  split at z
  · cases z; exact n.2.2 L hL
  · split at z
    · cases z
    · exact n.2.2 j z⟩, fun _ _ _ e _ => e, fun _ _ e => e, fun _ _ _ e => e⟩
theorem Rel.move {i L : Nat} {a : Addr} {d : D} (R : Rel p O ρ σ H) (hL : O L = some a) (hl : ρ.length ≤ L) (r : RepO p.K (NN p O) H a d) : Rel p (mv O i L a) (ρ.set i (some (.own d))) (σ.set i (some (.ref a))) H := by
  refine ⟨R.wd, R.ext, by rw [List.length_set, List.length_set]; exact R.len, fun j w hw => ?_, fun j k b hj hk => ?_, fun x hx => RepI.keep (keeps_mv hL) x (R.keep x hx), fun j b hj => ?_⟩
  · rw [List.getElem?_set] at hw ⊢
    by_cases z : i = j
    · subst z
      rw [if_pos rfl] at hw ⊢
      split at hw
      · rename_i hlt
        cases hw
        rw [if_pos (by rw [R.len]; exact hlt)]
        exact ⟨a, if_pos rfl, rfl, RepO.keep (keeps_mv hL) rfl r⟩
      · cases hw
    · rw [if_neg z] at hw ⊢
      have hj : j < ρ.length := (List.getElem?_eq_some_iff.mp hw).1
      have h := R.slot j w hw
      cases w with
      | d x => obtain ⟨v, e1, e2⟩ := h; exact ⟨v, e1, RepV.keep (keeps_mv hL) x v e2⟩
      | own x =>
        obtain ⟨b, e1, e2, e3⟩ := h
        refine ⟨b, ?_, e2, RepO.keep (keeps_mv hL) rfl e3⟩
        exact (if_neg (Ne.symm z)).trans ((if_neg (by omega)).trans e1)
      | row => exact h
  · unfold mv at hj hk
    dsimp only at hj hk
    split at hj
    · rename_i q
      cases hj
      split at hk
      · rename_i q2; rw [q, q2]
      · split at hk
        · cases hk
        · rename_i q3; exact absurd (R.inj k L _ hk hL) q3
    · split at hj
      · cases hj
      · rename_i q3
        split at hk
        · cases hk; exact absurd (R.inj j L _ hj hL) q3
        · split at hk
          · cases hk
          · exact R.inj j k b hj hk
  · unfold mv at hj
    dsimp only at hj
    split at hj
    · cases hj; exact R.own L _ hL
    · split at hj
      · cases hj
      · exact R.own j b hj
end
/-! ### posts of statements -/
section
variable {p : Par} {X : Cx} {pos : Pos} {e a b c : Expr} {st : Stmt} {sts : List Stmt}
/-- the ends over data, read over the heap -/
abbrev endsW (p : Par) (D : Ends) (ks : List KI) (EX : EXn) : EndsW where
  nx := fun ρ' => ∀ O' σ' H', O'.ks = ks → Hk p.K H' → Rel p O' ρ' σ' H' → D.nx σ' H'
  rt := fun d => ∀ v H', Hk p.K H' → Ext p p.H0 H' → RepV p.K (NN p noOwn) H' v d → D.rt v H'
  bk := fun ρ' => ∀ O' σ' H', O'.ks = ks → Hk p.K H' → Rel p O' ρ' σ' H' → D.bk σ' H'
  ct := fun ρ' => ∀ O' σ' H', O'.ks = ks → Hk p.K H' → Rel p O' ρ' σ' H' → D.ct σ' H'
  ex := EX
abbrev hkE (K : PySem.W.Frag) (D : Ends) : Ends := { nx := fun σ' H' => Hk K H' → D.nx σ' H', rt := fun v H' => Hk K H' → D.rt v H', bk := fun σ' H' => Hk K H' → D.bk σ' H', ct := fun σ' H' => Hk K H' → D.ct σ' H' }
theorem le_hk {D : Ends} {ks : List KI} {EX : EXn} : (endsW p D ks EX).le (endsW p (hkE p.K D) ks EX) :=
  ⟨fun _ q O' σ' H' ke hk' R' _ => q O' σ' H' ke hk' R', fun _ q v H' hk' e r _ => q v H' hk' e r, fun _ q O' σ' H' ke hk' R' _ => q O' σ' H' ke hk' R', fun _ q O' σ' H' ke hk' R' _ => q O' σ' H' ke hk' R', rfl⟩
theorem EndsW.le.refl {D : EndsW} : D.le D := ⟨fun _ h => h, fun _ h => h, fun _ h => h, fun _ h => h, rfl⟩
/-- ghost: slot i's own object is data from now on -/
def wFrz (i : Nat) (w : WS) : WS := fun D ρ => match ρ[i]? with
  | some (some (.own d)) => w D (ρ.set i (some (.d d)))
  | _ => False
theorem ds_frz {w : WS} (i : Nat) (h : DS p X st w) : DS p X st (wFrz i w) := by
  refine ⟨ps_use h.ps fun D σ H hk ⟨ρ, O, EX, R, ex, hw⟩ => ?_, fun D D' ρ hd q => ?_⟩
  · have hw2 : wFrz i w (endsW (p.at X.K) D O.ks EX) ρ := hw
    unfold wFrz at hw2
    split at hw2
    · rename_i d e
      exact ⟨_, _, EX, R.freeze e, ex, h.mono _ _ _ le_hk hw2⟩
    · exact hw2.elim
  · unfold wFrz at q ⊢
    split at q
    · exact h.mono _ _ _ hd q
    · exact q.elim
/-- ghost: slots forgotten -/
def wForget (i : Nat) (w : WS) : WS := fun D ρ => w D (ρ.set i none)
theorem ds_forget {w : WS} (i : Nat) (h : DS p X st w) : DS p X st (wForget i w) := by
  refine ⟨ps_use h.ps fun D σ H hk ⟨ρ, O, EX, R, ex, hw⟩ => ?_, fun D D' ρ hd q => h.mono _ _ _ hd q⟩
  exact ⟨_, O, EX, R.forget (ρ' := ρ.set i none) (by rw [List.length_set]) (fun j w hw => by
    rw [List.getElem?_set] at hw
    split at hw
    · split at hw <;> cases hw
    · exact hw), ex, h.mono _ _ _ le_hk hw⟩
def wSkip : WS := fun D ρ => D.nx ρ
def wNever : WS := fun _ _ => False
def wBreak : WS := fun D ρ => D.bk ρ
def wCont : WS := fun D ρ => D.ct ρ
def wSeq (w u : WS) : WS := fun D ρ => w { D with nx := u D } ρ
theorem ds_never : DS p X st wNever := ⟨⟨fun _ _ _ _ _ _ ⟨_, _, _, _, _, hw⟩ => hw.elim⟩, fun _ _ _ _ q => q⟩
theorem dss_never : DSs p X sts wNever := ⟨⟨fun _ _ _ _ _ _ ⟨_, _, _, _, _, hw⟩ => hw.elim⟩, fun _ _ _ _ q => q⟩
theorem ds_pass : DS p X (.Pass pos) wSkip := ⟨ps_use ps_pass fun D σ H hk ⟨ρ, O, EX, R, ex, hw⟩ => fun hk' => hw O σ H rfl hk' R, fun _ _ _ hd q => hd.nx _ q⟩
theorem ds_break : DS p X (.Break pos) wBreak := ⟨ps_use ps_break fun D σ H hk ⟨ρ, O, EX, R, ex, hw⟩ => fun hk' => hw O σ H rfl hk' R, fun _ _ _ hd q => hd.bk _ q⟩
theorem ds_continue : DS p X (.Continue pos) wCont := ⟨ps_use ps_continue fun D σ H hk ⟨ρ, O, EX, R, ex, hw⟩ => fun hk' => hw O σ H rfl hk' R, fun _ _ _ hd q => hd.ct _ q⟩
theorem dss_nil : DSs p X [] wSkip := ⟨pss_use pss_nil fun D σ H hk ⟨ρ, O, EX, R, ex, hw⟩ => fun hk' => hw O σ H rfl hk' R, fun _ _ _ hd q => hd.nx _ q⟩
theorem dss_cons {w u : WS} (h : DS p X st w) (t : DSs p X sts u) : DSs p X (st :: sts) (wSeq w u) := by
  refine ⟨pss_use (pss_cons h.ps t.ps) fun D σ H hk ⟨ρ, O, EX, R, ex, hw⟩ => ?_, fun D D' ρ hd q => ?_⟩
  · have hw2 : w { endsW (p.at X.K) D O.ks EX with nx := u (endsW (p.at X.K) D O.ks EX) } ρ := hw
    have key : ∀ ρ', u (endsW (p.at X.K) D O.ks EX) ρ' → ∀ O' σ' H', O'.ks = O.ks → Hk X.K H' → Rel (p.at X.K) O' ρ' σ' H' → LS (p.at X.K) u (hkE X.K D) σ' H' := fun ρ' q O' σ' H' ke hk' R' => by
      refine ⟨ρ', O', EX, R', ex, ?_⟩
      have q2 := t.mono (endsW (p.at X.K) D O.ks EX) (endsW (p.at X.K) (hkE X.K D) O.ks EX) ρ' le_hk q
      rw [← ke] at q2
      exact q2
    exact ⟨ρ, O, EX, R, ex, h.mono { endsW (p.at X.K) D O.ks EX with nx := u (endsW (p.at X.K) D O.ks EX) } (endsW (p.at X.K) { hkE X.K D with nx := LS (p.at X.K) u (hkE X.K D) } O.ks EX) ρ
      ⟨key, fun _ q v H' hk' e r _ => q v H' hk' e r, fun _ q O' σ' H' ke hk' R' _ => q O' σ' H' ke hk' R', fun _ q O' σ' H' ke hk' R' _ => q O' σ' H' ke hk' R', rfl⟩ hw2⟩
  · have q2 : w { D with nx := u D } ρ := q
    exact h.mono { D with nx := u D } { D' with nx := u D' } ρ ⟨fun ρ' q => t.mono _ _ _ hd q, hd.rt, hd.bk, hd.ct, hd.ex⟩ q2
theorem dss_one {w : WS} (h : DS p X st w) : DSs p X [st] w := ⟨pss_one h.ps, h.mono⟩
/-- an expression's statement -/
def wExpr (w : WE) : WS := fun D ρ => w ρ (fun _ => D.nx ρ) D.ex
theorem ds_expr {w : WE} (h : DB p X e w) (hs : swapsWith e none pos.line X.env = pure false := by rfl) : DS p X (.Expr e pos) (wExpr w) :=
  ⟨ps_use (ps_expr h.pe hs) fun D σ H hk ⟨ρ, O, EX, R, ex, hw⟩ => ⟨ρ, O, EX, R, ex, h.mono _ _ _ _ (fun d q v H1 hk1 e1 r1 hk' => q O σ H1 rfl hk' (R.ext' e1)) hw⟩, fun D D' ρ hd q => by
    unfold wExpr at q ⊢
    rw [← hd.ex]
    exact h.mono _ _ _ _ (fun _ q => hd.nx _ q) q⟩
def wRet (w : WE) : WS := fun D ρ => w ρ (fun d => D.rt d) D.ex
theorem NN.no {O : Own} {x : Addr} (h : NN p O x) : NN p noOwn x := ⟨h.1, h.2.1, fun i z => by cases z⟩
theorem keeps_no {O : Own} {H : Hp} : Keeps2 (NN p O) (NN p noOwn) H H := ⟨fun _ n _ => n.no, fun _ _ _ e _ => e, fun _ _ e => e, fun _ _ _ e => e⟩
theorem ds_ret {w : WE} (h : DE p X e w) : DS p X (.Return (some e) pos) (wRet w) :=
  ⟨ps_use (ps_ret h.pe) fun D σ H hk ⟨ρ, O, EX, R, ex, hw⟩ => ⟨ρ, O, EX, R, ex, h.mono _ _ _ _ (fun d q v H1 hk1 e1 r1 hk' => q v H1 hk' (R.ext.trans e1) (RepV.keep keeps_no d v r1)) hw⟩, fun D D' ρ hd q => by
    unfold wRet at q ⊢
    rw [← hd.ex]
    exact h.mono _ _ _ _ (fun _ q => hd.rt _ q) q⟩
def wRetN : WS := fun D _ => D.rt .none
theorem ds_retN : DS p X (.Return none pos) wRetN := ⟨ps_use ps_retN fun D σ H hk ⟨ρ, O, EX, R, ex, hw⟩ => fun hk' => hw _ H hk' R.ext rep_none, fun D D' ρ hd q => hd.rt _ q⟩
def wIfS (t : WT) (u v : WS) : WS := fun D ρ => t ρ (fun k => if k = true then u D ρ else v D ρ) D.ex
theorem ds_if {t : WT} {u v : WS} {s1 s2 : List Stmt} (h : DT p X c t) (h1 : DSs p X s1 u) (h2 : DSs p X s2 v) : DS p X (.If c s1 s2 pos) (wIfS t u v) := by
  refine ⟨ps_use (ps_if h.pt h1.ps h2.ps) fun D σ H hk ⟨ρ, O, EX, R, ex, hw⟩ => ?_, fun D D' ρ hd q => ?_⟩
  · refine ⟨ρ, O, EX, R, ex, h.mono _ _ _ _ (fun k q H1 hk1 e1 => ?_) hw⟩
    by_cases z : k = true
    · rw [if_pos z] at q ⊢
      exact ⟨ρ, O, EX, R.ext' e1, ex, h1.mono _ _ _ le_hk q⟩
    · rw [if_neg z] at q ⊢
      exact ⟨ρ, O, EX, R.ext' e1, ex, h2.mono _ _ _ le_hk q⟩
  · unfold wIfS at q ⊢
    rw [← hd.ex]
    refine h.mono _ _ _ _ (fun k q => ?_) q
    by_cases z : k = true
    · rw [if_pos z] at q ⊢; exact h1.mono _ _ _ hd q
    · rw [if_neg z] at q ⊢; exact h2.mono _ _ _ hd q
/-! ### assignments -/
def wSet (i : Nat) (w : WE) : WS := fun D ρ => w ρ (fun d => D.nx (ρ.set i (some (.d d)))) D.ex
def wSetO (i : Nat) (w : WE) : WS := fun D ρ => w ρ (fun d => D.nx (ρ.set i (some (.own d)))) D.ex
theorem mono_Set {i : Nat} {w : WE} (h : MonoE w) : MonoS (wSet i w) := fun D D' ρ hd q => by
  unfold wSet at q ⊢
  rw [← hd.ex]
  exact h _ _ _ _ (fun _ q => hd.nx _ q) q
theorem mono_SetO {i : Nat} {w : WE} (h : MonoE w) : MonoS (wSetO i w) := fun D D' ρ hd q => by
  unfold wSetO at q ⊢
  rw [← hd.ex]
  exact h _ _ _ _ (fun _ q => hd.nx _ q) q
theorem ds_set (i : Nat) {x : Str} {w : WE} {pos' : Pos} (h : DE p X e w) (hN : X.N.Nodup) (hi : X.N[i]? = some x := by rfl) (hx : Loc X.env.scope x := by first | exact .inl rfl | exact .inr rfl) (hs : swapsWith e (some (.Name x pos')) pos.line X.env = pure false := by rfl)
    (hf : X.fn x = true ∨ X.env.scope.names.lookup x = some .local := by first | exact .inl rfl | exact .inr rfl) : DS p X (.Assign [.Name x pos'] e pos) (wSet i w) :=
  ⟨ps_use (ps_set hN hi hx h.pe hs hf) fun D σ H hk ⟨ρ, O, EX, R, ex, hw⟩ => ⟨ρ, O, EX, R, ex, h.mono _ _ _ _ (fun d q v H1 hk1 e1 r1 hk' => q (clr O i) _ H1 rfl hk' ((R.ext' e1).set_d r1)) hw⟩, mono_Set h.mono⟩
theorem ds_setO (i : Nat) {x : Str} {w : WE} {pos' : Pos} (h : DF p X e w) (hN : X.N.Nodup) (hi : X.N[i]? = some x := by rfl) (hx : Loc X.env.scope x := by first | exact .inl rfl | exact .inr rfl) (hs : swapsWith e (some (.Name x pos')) pos.line X.env = pure false := by rfl)
    (hf : X.fn x = true ∨ X.env.scope.names.lookup x = some .local := by first | exact .inl rfl | exact .inr rfl) : DS p X (.Assign [.Name x pos'] e pos) (wSetO i w) :=
  ⟨ps_use (ps_set hN hi hx h.pe hs hf) fun D σ H hk ⟨ρ, O, EX, R, ex, hw⟩ => ⟨ρ, O, EX, R, ex, h.mono _ _ _ _ (fun d q a H1 hk1 e1 n r1 hk' => q (put O i a) _ H1 rfl hk' (R.set_own e1 n r1)) hw⟩, mono_SetO h.mono⟩
end
end DD
set_option maxRecDepth 100000
set_option maxHeartbeats 2000000
/-! SemG: several targets, stores into own lists. -/
namespace DD
open PySem PySem.Spec PyProof.Rows L2
/-! ### values that move into slots -/
inductive Mv where
  | d (x : D)
  | own (x : D)
def Mv.w : Mv → W
  | .d x => .d x
  | .own x => .own x
abbrev WMv := Env' → (List Mv → Prop) → EXn → Prop
def RepM (p : Par) (O : Own) (H : Hp) : Nat → List V → List Mv → Prop
  | _, [], [] => True
  | L, v :: vs, .d x :: ms => RepV p.K (NN p O) H v x ∧ RepM p O H (L + 1) vs ms
  | L, v :: vs, .own x :: ms => (∃ a, v = .ref a ∧ O L = some a ∧ RepO p.K (NN p O) H a x) ∧ RepM p O H (L + 1) vs ms
  | _, _, _ => False
def LM (p : Par) (L : Nat) (w : WMv) : TA := fun σ H Q => ∃ ρ O EX, Rel p O ρ σ H ∧ ExOk p EX ∧ ρ.length ≤ L ∧ (∀ j, L ≤ j → O j = none) ∧
  w ρ (fun ms => ∀ vs O' H', Hk p.K H' → O'.ks = O.ks → (∀ j, j < L → O' j = O j) → (∀ j a, O' j = some a → O j = some a ∨ H a = none) → Ext p H H' → Rel p O' ρ σ H' → RepM p O' H' L vs ms → Q vs H') EX
def MonoM (w : WMv) : Prop := ∀ ρ Q Q' EX, (∀ d, Q d → Q' d) → w ρ Q EX → w ρ Q' EX
structure DM (p : Par) (X : Cx) (es : List Expr) (w : WMv) : Prop where
  pa : ∀ L, PA X es (LM (p.at X.K) L w)
  mono : MonoM w
def wmNil : WMv := fun _ Q _ => Q []
def wmD (w : WE) (r : WMv) : WMv := fun ρ Q EX => w ρ (fun d => r ρ (fun ms => Q (.d d :: ms)) EX) EX
def wmO (w : WE) (r : WMv) : WMv := fun ρ Q EX => w ρ (fun d => r ρ (fun ms => Q (.own d :: ms)) EX) EX
section
variable {p : Par} {X : Cx} {pos : Pos} {e a b c : Expr} {es : List Expr} {st : Stmt} {sts : List Stmt}
theorem set_out {α : Type} {l : List α} {i : Nat} {x : α} (h : l.length ≤ i) : l.set i x = l := List.set_eq_of_length_le h
theorem keeps_more {O O' : Own} {H H' : Hp} (w : Wd p H) (e : Ext p H H') (h : ∀ j a, O' j = some a → O j = some a ∨ H a = none) : Keeps2 (NN p O) (NN p O') H H' :=
  Keeps2.of_ext e w (fun _ n => n.2.1) fun b n hb => ⟨n.1, n.2.1, fun j z => (h j b z).elim (n.2.2 j) hb⟩
theorem dm_nil : DM p X [] wmNil := ⟨fun L => pa_use pa_nil fun σ H Q hk ⟨ρ, O, EX, R, ex, hl, hO, hw⟩ => fun hk' => hw [] O H hk' rfl (fun _ _ => rfl) (fun _ _ z => .inl z) (Ext.refl R.wd) R trivial, fun _ _ _ _ h q => h _ q⟩
theorem dm_d {w : WE} {r : WMv} (h : DE p X e w) (t : DM p X es r) (hs : starEach (e :: es) X.env = (false, eval e X.env) :: starEach es X.env := by rfl) : DM p X (e :: es) (wmD w r) :=
  ⟨fun L => pa_use (pa_cons h.pe (t.pa (L + 1)) hs) fun σ H Q hk ⟨ρ, O, EX, R, ex, hl, hO, hw⟩ => ⟨ρ, O, EX, R, ex, h.mono _ _ _ _ (fun d q v H1 hk1 e1 r1 => ⟨ρ, O, EX, R.ext' e1, ex, by omega, fun j hj => hO j (by omega), t.mono _ _ _ _ (fun ms q vs O' H2 hk2 k1 k2 k3 e2 R2 r2 _ => by
    refine q (v :: vs) O' H2 hk2 k1 (fun j hj => k2 j (by omega)) (fun j a z => (k3 j a z).elim .inl fun n => .inr (e1.none n)) (e1.trans e2) R2 ⟨?_, r2⟩
    exact RepV.keep (keeps_more e1.wd e2 k3) d v r1) q⟩) hw⟩, fun ρ Q Q' EX hh q => h.mono _ _ _ _ (fun d q => t.mono _ _ _ _ (fun ms q => hh _ q) q) q⟩
theorem dm_o {w : WE} {r : WMv} (h : DF p X e w) (t : DM p X es r) (hs : starEach (e :: es) X.env = (false, eval e X.env) :: starEach es X.env := by rfl) : DM p X (e :: es) (wmO w r) := by
  refine ⟨fun L => pa_use (pa_cons h.pe (t.pa (L + 1)) hs) fun σ H Q hk ⟨ρ, O, EX, R, ex, hl, hO, hw⟩ => ⟨ρ, O, EX, R, ex, h.mono _ _ _ _ (fun d q c H1 hk1 e1 n r1 => ?_) hw⟩, fun ρ Q Q' EX hh q => h.mono _ _ _ _ (fun d q => t.mono _ _ _ _ (fun ms q => hh _ q) q) q⟩
  have R1 := R.set_own (i := L) e1 n r1
  rw [set_out hl, set_out (by rw [R.len]; exact hl)] at R1
  have rO : RepO (p.at X.K).K (NN (p.at X.K) (put O L c)) H1 c d := RepO.keep ⟨fun b n _ => ⟨n.1.1, n.1.2.1, fun j z => by
    unfold put at z
    dsimp only at z
    split at z
    · cases z; exact n.2 rfl
    · exact n.1.2.2 j z⟩, fun _ _ _ e _ => e, fun _ _ e => e, fun _ _ _ e => e⟩ rfl r1
  refine ⟨ρ, put O L c, EX, R1, ex, by omega, fun j hj => (if_neg (by omega)).trans (hO j (by omega)), t.mono _ _ _ _ (fun ms q vs O' H2 hk2 k1 k2 k3 e2 R2 r2 _ => ?_) q⟩
  have hcL : O' L = some c := (k2 L (by omega)).trans (if_pos rfl)
  obtain ⟨_, nr, _, hne, sf⟩ := R1.own L c (if_pos rfl)
  refine q (.ref c :: vs) O' H2 hk2 k1 (fun j hj => (k2 j (by omega)).trans (if_neg (by omega))) (fun j a z => ?_) (e1.trans e2) R2 ⟨⟨c, rfl, hcL, ?_⟩, r2⟩
  · rcases k3 j a z with z | z
    · unfold put at z
      dsimp only at z
      split at z
      · cases z; exact .inr n
      · exact .inl z
    · exact .inr (e1.none z)
  · refine RepO.keep (keeps_more e1.wd e2 k3) ?_ rO
    cases q : H1 c with
    | none => exact absurd q hne
    | some o => exact e2.ob c o q (fun ps z => by rw [q, z] at sf; exact sf) nr
/-- the slots take the values, from the left -/
def setAll (ρ : Env') : List Nat → List Mv → Env'
  | i :: is, m :: ms => setAll (ρ.set i (some m.w)) is ms
  | _, _ => ρ
def setAllV (σ : L2.St) : List Nat → List V → L2.St
  | i :: is, v :: vs => setAllV (σ.set i (some v)) is vs
  | _, _ => σ
theorem setAll_len : ∀ {is : List Nat} {ms : List Mv} {ρ : Env'}, (setAll ρ is ms).length = ρ.length
  | [], _, _ => by simp [setAll]
  | _ :: _, [], _ => by simp [setAll]
  | i :: is, m :: ms, ρ => by
    show (setAll (ρ.set i (some m.w)) is ms).length = _
    rw [setAll_len, List.length_set]
theorem repM_keep {O O' : Own} {H H' : Hp} (hN : Keeps2 (NN p O) (NN p O') H H') : ∀ {L : Nat} {vs : List V} {ms : List Mv}, (∀ j a, L ≤ j → O j = some a → O' j = some a ∧ H' a = H a) → RepM p O H L vs ms → RepM p O' H' L vs ms
  | _, [], [], _, _ => trivial
  | L, v :: vs, .d x :: ms, hO, h => ⟨RepV.keep hN x v h.1, repM_keep hN (fun j a hj => hO j a (by omega)) h.2⟩
  | L, v :: vs, .own x :: ms, hO, h => by
    obtain ⟨a, e1, e2, e3⟩ := h.1
    exact ⟨⟨a, e1, (hO L a (Nat.le_refl _) e2).1, RepO.keep hN (hO L a (Nat.le_refl _) e2).2 e3⟩, repM_keep hN (fun j a hj => hO j a (by omega)) h.2⟩
  | _, [], _ :: _, _, h => h.elim
  | _, _ :: _, [], _, h => h.elim
theorem moves {σ : L2.St} {H : Hp} : ∀ {is : List Nat} {L : Nat} {vs : List V} {ms : List Mv} {O : Own} {ρ : Env'} {σ : L2.St}, Rel p O ρ σ H → RepM p O H L vs ms → ρ.length ≤ L → (∀ i ∈ is, i < ρ.length) → is.length = ms.length →
    ∃ O2, O2.ks = O.ks ∧ Rel p O2 (setAll ρ is ms) (setAllV σ is vs) H
  | [], _, [], [], O, ρ, σ, R, _, _, _, _ => ⟨O, rfl, R⟩
  | i :: is, L, v :: vs, .d x :: ms, O, ρ, σ, R, h, hl, hi, hn => by
    have hi1 : i < ρ.length := hi i (List.mem_cons_self ..)
    obtain ⟨O2, k2, R2⟩ := moves (σ := σ) (is := is) (L := L + 1) (R.set_d (i := i) h.1) (repM_keep (keeps_clr i) (fun j a hj z => ⟨(if_neg (by omega)).trans z, rfl⟩) h.2) (by rw [List.length_set]; omega) (fun j hj => by rw [List.length_set]; exact hi j (List.mem_cons_of_mem _ hj)) (by simpa using hn)
    exact ⟨O2, k2, R2⟩
  | i :: is, L, v :: vs, .own x :: ms, O, ρ, σ, R, h, hl, hi, hn => by
    have hi1 : i < ρ.length := hi i (List.mem_cons_self ..)
    obtain ⟨⟨a, rfl, hL, r⟩, t⟩ := h
    obtain ⟨O2, k2, R2⟩ := moves (σ := σ) (is := is) (L := L + 1) (R.move (i := i) hL hl r) (repM_keep (keeps_mv hL) (fun j a hj z => ⟨(if_neg (by omega)).trans ((if_neg (by omega)).trans z), rfl⟩) t) (by rw [List.length_set]; omega) (fun j hj => by rw [List.length_set]; exact hi j (List.mem_cons_of_mem _ hj)) (by simpa using hn)
    exact ⟨O2, k2, R2⟩
  | [], _, _ :: _, _ :: _, _, _, _, _, _, _, _, hn => by simp at hn
  | _ :: _, _, [], [], _, _, _, _, _, _, _, hn => by simp at hn
  | _, _, [], _ :: _, _, _, _, _, h, _, _, _ => h.elim
  | _, _, _ :: _, [], _, _, _, _, h, _, _, _ => h.elim
def wPar (is : List Nat) (w : WMv) : WS := fun D ρ => w ρ (fun ms => is.length = ms.length ∧ (∀ i ∈ is, i < ρ.length) ∧ D.nx (setAll ρ is ms)) D.ex
theorem mono_Par {is : List Nat} {w : WMv} (h : MonoM w) : MonoS (wPar is w) := fun D D' ρ hd q => by
  unfold wPar at q ⊢
  rw [← hd.ex]
  exact h _ _ _ _ (fun ms q => ⟨q.1, q.2.1, hd.nx _ q.2.2⟩) q
/-- no hidden objects: a place for them -/
theorem Rel.clean {O : Own} {ρ : Env'} {σ : L2.St} {H : Hp} (R : Rel p O ρ σ H) : ∃ O', O'.ks = O.ks ∧ (∀ j, ρ.length ≤ j → O' j = none) ∧ (∀ a, NN p O a → NN p O' a) ∧ Rel p O' ρ σ H := by
  let O' : Own := ⟨fun j => if j < ρ.length then O j else none, O.ks⟩
  have sub : ∀ j a, O' j = some a → O j = some a := fun j a z => by
    have z2 : (if j < ρ.length then O j else none) = some a := z
    split at z2
    · exact z2
    · cases z2
  have nn : ∀ a, NN p O a → NN p O' a := fun a n => ⟨n.1, n.2.1, fun j z => n.2.2 j (sub j a z)⟩
  have kk : Keeps2 (NN p O) (NN p O') H H := ⟨fun a n _ => nn a n, fun _ _ _ e _ => e, fun _ _ e => e, fun _ _ _ e => e⟩
  refine ⟨O', rfl, fun j hj => if_neg (by omega), nn, R.wd, R.ext, R.len, fun i w hw => ?_, fun i j a h h' => R.inj i j a (sub i a h) (sub j a h'), fun x hx => RepI.keep kk x (R.keep x hx), fun i a h => R.own i a (sub i a h)⟩
  have h := R.slot i w hw
  have hi : i < ρ.length := (List.getElem?_eq_some_iff.mp hw).1
  cases w with
  | d x => obtain ⟨v, e1, e2⟩ := h; exact ⟨v, e1, RepV.keep kk x v e2⟩
  | own x =>
    obtain ⟨b, e1, e2, e3⟩ := h
    exact ⟨b, (if_pos hi).trans e1, e2, RepO.keep kk rfl e3⟩
  | row => exact h
theorem par_run {is : List Nat} {w : WMv} (h : DM p X es w) {σ : L2.St} {H : Hp} {O : Own} {ρ : Env'} {EX : EXn} {N : Env' → Prop} {Q : List V → Hp → Prop} (R : Rel (p.at X.K) O ρ σ H) (ex : ExOk (p.at X.K) EX)
    (hw : w ρ (fun ms => is.length = ms.length ∧ (∀ i ∈ is, i < ρ.length) ∧ N (setAll ρ is ms)) EX)
    (hQ : ∀ ρ' vs H', Hk X.K H' → Wd (p.at X.K) H' → vs.length = is.length → N ρ' → (∀ H'', Ext (p.at X.K) H' H'' → ∃ O2, O2.ks = O.ks ∧ Rel (p.at X.K) O2 ρ' (setAllV σ is vs) H'') → Q vs H') : LM (p.at X.K) ρ.length w σ H Q := by
  obtain ⟨O1, k1, hO1, _, R1⟩ := R.clean
  refine ⟨ρ, O1, EX, R1, ex, Nat.le_refl _, hO1, h.mono _ _ _ _ (fun ms ⟨hn, hi, q⟩ vs O' H' hk' ke k2 k3 e1 R2 r2 => ?_) hw⟩
  have hlen : ∀ {L : Nat} {vs : List V} {ms : List Mv}, RepM (p.at X.K) O' H' L vs ms → vs.length = ms.length := by
    intro L vs
    induction vs generalizing L with
    | nil => intro ms h; cases ms with
      | nil => rfl
      | cons m ms => exact h.elim
    | cons v vs ih => intro ms h; cases ms with
      | nil => exact h.elim
      | cons m ms => cases m with
        | d x => rw [List.length_cons, List.length_cons, ih h.2]
        | own x => rw [List.length_cons, List.length_cons, ih h.2]
  refine hQ _ vs H' hk' e1.wd (by rw [hlen r2, hn]) q fun H'' e2 => ?_
  have r3 : RepM (p.at X.K) O' H'' ρ.length vs ms := repM_keep (Keeps2.of_ext e2 R2.wd (fun _ n => n.2.1) fun _ n _ => n) (fun j a _ z => ⟨z, by
    obtain ⟨_, nr, _, hne, sf⟩ := R2.own j a z
    cases q : H' a with
    | none => exact absurd q hne
    | some o => exact e2.ob a o q (fun ps z => by rw [q, z] at sf; exact sf) nr⟩) r2
  obtain ⟨O2, k3, R3⟩ := moves (σ := σ) (R2.ext' e2) r3 (Nat.le_refl _) hi hn
  exact ⟨O2, k3.trans (ke.trans k1), R3⟩
theorem ds_par2 (i j : Nat) {x y : Str} {w : WMv} {px py pt : Pos} {kt k2 : Nat} {pt2 : Pos} (h : DM p X [a, b] w) (hc : X.calm = true) (hN : X.N.Nodup)
    (hw : swappedStores [.Tuple [.Name x px, .Name y py] kt pt] (.Tuple [a, b] k2 pt2) X.env = pure (some [x, y])) (hi : X.N[i]? = some x := by rfl) (hj : X.N[j]? = some y := by rfl) (hij : i ≠ j := by decide)
    (hx : X.env.scope.names.lookup x = some .local := by rfl) (hy : X.env.scope.names.lookup y = some .local := by rfl)
    (hs : swapsWithSole [.Tuple [.Name x px, .Name y py] kt pt] (.Tuple [a, b] k2 pt2) pos.line X.env = pure false := by rfl) : DS p X (.Assign [.Tuple [.Name x px, .Name y py] kt pt] (.Tuple [a, b] k2 pt2) pos) (wPar [i, j] w) := by
  refine ⟨⟨fun pins s σ H D I ht => ?_⟩, mono_Par h.mono⟩
  obtain ⟨ρ, O, EX, R, ex, hwp⟩ := ht
  refine (ps_par hc hN hi hj hij hx hy (h.pa ρ.length) hw hs).run pins s σ H D I ?_
  refine par_run (is := [i, j]) (N := (endsW (p.at X.K) D O.ks EX).nx) h R ex hwp fun ρ' vs H' hk' wd' hl q m => ?_
  match vs, hl with
  | [v, w], _ =>
    obtain ⟨O2, k2, R2⟩ := m H' (Ext.refl wd')
    exact ⟨v, w, rfl, q O2 _ H' k2 hk' R2⟩
theorem ds_par3 (i j l : Nat) {x y z : Str} {w : WMv} {px py pz pt : Pos} {kt k2 : Nat} {pt2 : Pos} (h : DM p X [a, b, c] w) (hc : X.calm = true) (hN : X.N.Nodup)
    (hw : swappedStores [.Tuple [.Name x px, .Name y py, .Name z pz] kt pt] (.Tuple [a, b, c] k2 pt2) X.env = pure (some [x, y, z])) (hi : X.N[i]? = some x := by rfl) (hj : X.N[j]? = some y := by rfl) (hl : X.N[l]? = some z := by rfl) (hij : i ≠ j := by decide) (hil : i ≠ l := by decide) (hjl : j ≠ l := by decide)
    (hx : X.env.scope.names.lookup x = some .local := by rfl) (hy : X.env.scope.names.lookup y = some .local := by rfl) (hz : X.env.scope.names.lookup z = some .local := by rfl)
    (hs : swapsWithSole [.Tuple [.Name x px, .Name y py, .Name z pz] kt pt] (.Tuple [a, b, c] k2 pt2) pos.line X.env = pure false := by rfl) : DS p X (.Assign [.Tuple [.Name x px, .Name y py, .Name z pz] kt pt] (.Tuple [a, b, c] k2 pt2) pos) (wPar [i, j, l] w) := by
  refine ⟨⟨fun pins s σ H D I ht => ?_⟩, mono_Par h.mono⟩
  obtain ⟨ρ, O, EX, R, ex, hwp⟩ := ht
  refine (ps_par3 hc hN hi hj hl hij hil hjl hx hy hz (h.pa ρ.length) hw hs).run pins s σ H D I ?_
  refine par_run (is := [i, j, l]) (N := (endsW (p.at X.K) D O.ks EX).nx) h R ex hwp fun ρ' vs H' hk' wd' hl q m => ?_
  match vs, hl with
  | [v, w, u], _ =>
    obtain ⟨O2, k2, R2⟩ := m H' (Ext.refl wd')
    exact ⟨v, w, u, rfl, q O2 _ H' k2 hk' R2⟩
/-- names as targets, one after another -/
inductive PNs (X : Cx) : List Nat → List Expr → Prop
  | nil : PNs X [] []
  | cons {i : Nat} {x : Str} {is : List Nat} {es : List Expr} {q : Pos} (hi : X.N[i]? = some x) (hx : Loc X.env.scope x) (hf : X.fn x = true ∨ X.env.scope.names.lookup x = some .local) (hs : (assignEach (.Name x q :: es) X.env).map (·.2) = assign (.Name x q) X.env :: (assignEach es X.env).map (·.2)) (t : PNs X is es) : PNs X (i :: is) (.Name x q :: es)
def gNames : List Nat → TGs
  | [] => gNil
  | i :: is => gCons (gName i) (gNames is)
theorem pgs_names (hN : X.N.Nodup) : ∀ {is : List Nat} {es : List Expr}, PNs X is es → PGs X es (gNames is)
  | _, _, .nil => pgs_nil
  | _, _, .cons hi hx hf hs t => pgs_cons (pg_name hN hi hx hf) (pgs_names hN t) hs
theorem names_run : ∀ {is : List Nat} {vs : List V} {σ : L2.St} {H : Hp} {Q : L2.St → Hp → Prop}, vs.length = is.length → Q (setAllV σ is vs) H → gNames is vs σ H Q
  | [], [], _, _, _, _, q => ⟨rfl, q⟩
  | i :: is, v :: vs, σ, H, Q, hl, q => ⟨v, vs, rfl, names_run (by simpa using hl) q⟩
  | [], _ :: _, _, _, _, hl, _ => by simp at hl
  | _ :: _, [], _, _, _, hl, _ => by simp at hl
theorem ds_parN {is : List Nat} {ts : List Expr} {w : WMv} {pt : Pos} {kt k2 n : Nat} {pt2 : Pos} (h : DM p X es w) (hc : X.calm = true) (hN : X.N.Nodup) (pn : PNs X is ts) (hn : is.length ≤ 1000 := by decide) (hlen : (assignEach ts X.env).length = is.length := by rfl) (hst : (assignEach ts X.env).findIdx? (·.1) = none := by rfl)
    (hs : swapsWithSole [.Tuple ts kt pt] (.Tuple es k2 pt2) pos.line X.env = pure false := by rfl) (hw : swappedStores [.Tuple ts kt pt] (.Tuple es k2 pt2) X.env = pure none := by rfl) (h1 : (assignEach [.Tuple ts kt pt] X.env).map (·.2) = [assign (.Tuple ts kt pt) X.env] := by rfl) :
    DS p X (.Assign [.Tuple ts kt pt] (.Tuple es k2 pt2) pos) (wPar is w) := by
  refine ⟨⟨fun pins s σ H D I ht => ?_⟩, mono_Par h.mono⟩
  obtain ⟨ρ, O, EX, R, ex, hwp⟩ := ht
  have tup := pe_hk (X := X) (pe_tup (x1 := k2) (pos := pt2) (h.pa ρ.length))
  refine (ps_asg tup (pg_tup (k := kt) (pos := pt) hc (pgs_names hN pn) hlen hst) hs hw h1).run pins s σ H D I ?_
  refine par_run (is := is) (N := (endsW (p.at X.K) D O.ks EX).nx) h R ex hwp fun ρ' vs H' hk' wd' hl q m => ⟨by rw [hl]; exact small_le hn, fun c hc hk2 => ?_⟩
  obtain ⟨O2, k2, R2⟩ := m _ (Ext.new (o := .tup vs) wd' hc)
  exact ⟨c, vs, rfl, .of (by unfold L2.upd; rw [if_pos rfl]), hl, names_run hl (q O2 _ _ k2 hk2 R2)⟩
/-! ### targets that take plain data apart -/
abbrev WG := D → Env' → (Env' → Prop) → Prop
abbrev WGs := List D → Env' → (Env' → Prop) → Prop
def MonoG (g : WG) : Prop := ∀ d ρ Q Q', (∀ ρ, Q ρ → Q' ρ) → g d ρ Q → g d ρ Q'
/-- ix: the slots that may change -/
def LG (p : Par) (ix : List Nat) (g : WG) : TG := fun v σ H Q => ∃ ρ O d, Rel p O ρ σ H ∧ RepV p.K (NN p O) H v d ∧ g d ρ (fun ρ' => ∀ O' σ', O'.ks = O.ks → (∀ j, O' j = O j ∨ (j ∈ ix ∧ O' j = none)) → (∀ j, j ∉ ix → σ'[j]? = σ[j]?) → σ'.length = σ.length → Rel p O' ρ' σ' H → Q σ' H)
def LGs (p : Par) (ix : List Nat) (g : WGs) : TGs := fun vs σ H Q => ∃ ρ O ds, Rel p O ρ σ H ∧ RepAll p.K (NN p O) H vs ds ∧ g ds ρ (fun ρ' => ∀ O' σ', O'.ks = O.ks → (∀ j, O' j = O j ∨ (j ∈ ix ∧ O' j = none)) → (∀ j, j ∉ ix → σ'[j]? = σ[j]?) → σ'.length = σ.length → Rel p O' ρ' σ' H → Q σ' H)
theorem nn_less {O O' : Own} {ix : List Nat} {a : Addr} (h : ∀ j, O' j = O j ∨ (j ∈ ix ∧ O' j = none)) (n : NN p O a) : NN p O' a := ⟨n.1, n.2.1, fun j z => by
  rcases h j with y | ⟨_, y⟩
  · exact n.2.2 j (y.symm.trans z)
  · rw [y] at z; cases z⟩
structure DG (p : Par) (X : Cx) (e : Expr) (ix : List Nat) (g : WG) : Prop where
  pg : PG X e (LG (p.at X.K) ix g)
  mono : MonoG g
structure DGs (p : Par) (X : Cx) (es : List Expr) (ix : List Nat) (g : WGs) : Prop where
  pg : PGs X es (LGs (p.at X.K) ix g)
  mono : ∀ d ρ Q Q', (∀ ρ, Q ρ → Q' ρ) → g d ρ Q → g d ρ Q'
def wgName (i : Nat) : WG := fun d ρ Q => Q (ρ.set i (some (.d d)))
def wgNil : WGs := fun ds ρ Q => ds = [] ∧ Q ρ
def wgCons (g : WG) (u : WGs) : WGs := fun ds ρ Q => ∃ d r, ds = d :: r ∧ g d ρ (fun ρ' => u r ρ' Q)
def wgTup (n : Nat) (u : WGs) : WG := fun d ρ Q => ∃ ds, d = .tuple ds ∧ ds.length = n ∧ u ds ρ Q
theorem pg_imp {t t' : TG} (h : PG X e t) (imp : ∀ v σ H Q, t' v σ H Q → t v σ H Q) : PG X e t' := ⟨fun pins s σ H v u Q I r ht => h.run pins s σ H v u Q I r (imp _ _ _ _ ht)⟩
theorem pgs_imp {t t' : TGs} (h : PGs X es t) (imp : ∀ v σ H Q, t' v σ H Q → t v σ H Q) : PGs X es t' := ⟨fun pins s σ H v u Q I r ht => h.run pins s σ H v u Q I r (imp _ _ _ _ ht)⟩
theorem dg_name (i : Nat) {x : Str} (hN : X.N.Nodup) (hi : X.N[i]? = some x := by rfl) (hx : Loc X.env.scope x := by first | exact .inl rfl | exact .inr rfl) (hf : X.fn x = true ∨ X.env.scope.names.lookup x = some .local := by first | exact .inl rfl | exact .inr rfl) : DG p X (.Name x pos) [i] (wgName i) :=
  ⟨pg_imp (pg_name hN hi hx hf) fun v σ H Q ⟨ρ, O, d, R, r, hw⟩ => hw (clr O i) _ rfl (fun j => by
      by_cases z : j = i
      · exact .inr ⟨by rw [z]; exact List.mem_singleton.mpr rfl, if_pos z⟩
      · exact .inl (if_neg z)) (fun j hj => by
    rw [List.getElem?_set_ne (fun z => hj (by rw [z]; exact List.mem_singleton.mpr rfl))]) (List.length_set ..) (R.set_d r), fun d ρ Q Q' h q => h _ q⟩
theorem dgs_nil : DGs p X [] [] wgNil := ⟨pgs_imp pgs_nil fun v σ H Q ⟨ρ, O, ds, R, r, e, hw⟩ => by
    subst e
    cases v with
    | nil => exact ⟨rfl, hw O σ rfl (fun _ => .inl rfl) (fun _ _ => rfl) rfl R⟩
    | cons v vs => simp [RepAll] at r, fun d ρ Q Q' h q => ⟨q.1, h _ q.2⟩⟩
theorem dgs_cons {ix ix2 : List Nat} {g : WG} {u : WGs} (h : DG p X e ix g) (t : DGs p X es ix2 u) (hs : (assignEach (e :: es) X.env).map (·.2) = assign e X.env :: (assignEach es X.env).map (·.2) := by rfl) : DGs p X (e :: es) (ix ++ ix2) (wgCons g u) := by
  refine ⟨pgs_imp (pgs_cons h.pg t.pg hs) fun v σ H Q ⟨ρ, O, ds, R, r, hw⟩ => ?_, fun d ρ Q Q' hh ⟨d1, r, z, q⟩ => ⟨d1, r, z, h.mono _ _ _ _ (fun ρ q => t.mono _ _ _ _ hh q) q⟩⟩
  obtain ⟨d, ds', rfl, hw⟩ := hw
  cases v with
  | nil => simp [RepAll] at r
  | cons v vs =>
    rw [RepAll] at r
    refine ⟨v, vs, rfl, ρ, O, d, R, r.1, h.mono _ _ _ _ (fun ρ' q O' σ' k1 n1 s1 l1 R1 => ?_) hw⟩
    refine ⟨ρ', O', ds', R1, RepAll.keep ⟨fun a n _ => nn_less n1 n, fun _ _ _ e _ => e, fun _ _ e => e, fun _ _ _ e => e⟩ ds' vs r.2, t.mono _ _ _ _ (fun ρ2 q O2 σ2 k2 n2 s2 l2 R2 => ?_) q⟩
    exact q O2 σ2 (k2.trans k1) (fun j => by
      rcases n2 j with z | ⟨z, z2⟩
      · rcases n1 j with y | ⟨y, y2⟩
        · exact .inl (z.trans y)
        · exact .inr ⟨List.mem_append_left _ y, z.trans y2⟩
      · exact .inr ⟨List.mem_append_right _ z, z2⟩) (fun j hj => by
      rw [List.mem_append, not_or] at hj
      exact (s2 j hj.2).trans (s1 j hj.1)) (l2.trans l1) R2
theorem dg_tup {ix : List Nat} {u : WGs} {k n : Nat} (hc : X.calm = true) (h : DGs p X es ix u) (hn : (assignEach es X.env).length = n := by rfl) (hst : (assignEach es X.env).findIdx? (·.1) = none := by rfl) : DG p X (.Tuple es k pos) ix (wgTup n u) := by
  refine ⟨pg_imp (pg_tup hc h.pg hn hst) fun v σ H Q ⟨ρ, O, d, R, r, ds, e, hl, hw⟩ => ?_, fun d ρ Q Q' hh ⟨ds, e, hl, q⟩ => ⟨ds, e, hl, h.mono _ _ _ _ hh q⟩⟩
  subst e
  rw [RepV] at r
  obtain ⟨a, vs, rfl, h1, r⟩ := r
  exact ⟨a, vs, rfl, .of h1, by rw [r.length, hl], ρ, O, ds, R, r, hw⟩
/-- target = value, plain data -/
def wAsg (w : WE) (g : WG) : WS := fun D ρ => w ρ (fun d => g d ρ D.nx) D.ex
theorem ds_asg {tg : Expr} {w : WE} {ix : List Nat} {g : WG} (h : DE p X e w) (hg : DG p X tg ix g) (hs : swapsWithSole [tg] e pos.line X.env = pure false := by rfl) (hw : swappedStores [tg] e X.env = pure none := by rfl)
    (h1 : (assignEach [tg] X.env).map (·.2) = [assign tg X.env] := by rfl) : DS p X (.Assign [tg] e pos) (wAsg w g) :=
  ⟨⟨fun pins s σ H D I ⟨ρ, O, EX, R, ex, hwp⟩ => (ps_asg (pe_hk h.pe) hg.pg hs hw h1).run pins s σ H D I ⟨ρ, O, EX, R, ex, h.mono _ _ _ _ (fun d q v H1 hk1 e1 r1 hk2 => ⟨ρ, O, d, R.ext' e1, r1, hg.mono _ _ _ _ (fun ρ' q O' σ' k1 _ _ _ R1 => q O' σ' H1 k1 hk1 R1) q⟩) hwp⟩⟩,
    fun D D' ρ hd q => by
      unfold wAsg at q ⊢
      rw [← hd.ex]
      exact h.mono _ _ _ _ (fun d q => hg.mono _ _ _ _ hd.nx q) q⟩
end
end DD
set_option maxRecDepth 100000
set_option maxHeartbeats 2000000
/-! SemH: own lists written, iterators, for, while. -/
namespace DD
open PySem PySem.Spec PyProof.Rows L2
section
variable {p : Par} {X : Cx} {pos : Pos} {e a b c : Expr} {es : List Expr} {st : Stmt} {sts : List Stmt}
/-! ### own lists written -/
theorem own_list {O : Own} {ρ : Env'} {σ : L2.St} {H : Hp} {i : Nat} {xs : List D} (R : Rel p O ρ σ H) (h : ρ[i]? = some (some (.own (.list xs)))) : ∃ a vs, O i = some a ∧ σ[i]? = some (some (.ref a)) ∧ H a = some (.lst vs) ∧ RepAll p.K (NN p O) H vs xs := by
  obtain ⟨a, ha, e1, vs, h1, r⟩ := R.slot i _ h
  exact ⟨a, vs, ha, e1, h1, r⟩
theorem own_write {O : Own} {ρ : Env'} {σ : L2.St} {H : Hp} {i : Nat} {a : Addr} {xs ys : List D} {ws : List V} (R : Rel p O ρ σ H) (h : ρ[i]? = some (some (.own (.list xs)))) (ha : O i = some a) (r : RepAll p.K (NN p O) H ws ys) : Rel p O (ρ.set i (some (.own (.list ys)))) σ (upd H a (.lst ws)) := by
  refine R.write h ha trivial ⟨ws, by unfold L2.upd; rw [if_pos rfl], RepAll.keep ⟨fun _ n _ => n, fun b ob n e _ => ?_, fun b xs e => ?_, fun b ob xs e => ?_⟩ ys ws r⟩
  · rw [upd_ne (fun z => n.2.2 i (by rw [z]; exact ha))]; exact e
  · have sf := (R.own i a ha).2.2.2.2
    rw [upd_ne (fun z => by rw [← z, e] at sf; exact sf)]; exact e
  · have sf := (R.own i a ha).2.2.2.2
    rw [upd_ne (fun z => by rw [← z, e] at sf; exact sf)]; exact e
def ownL (ρ : Env') (i : Nat) (k : List D → Prop) : Prop := match ρ[i]? with
  | some (some (.own (.list xs))) => k xs
  | _ => False
theorem ownL_iff {ρ : Env'} {i : Nat} {k : List D → Prop} (h : ownL ρ i k) : ∃ xs, ρ[i]? = some (some (.own (.list xs))) ∧ k xs := by
  unfold ownL at h
  split at h
  · rename_i xs e; exact ⟨xs, e, h⟩
  · exact h.elim
theorem ownL_of {ρ : Env'} {i : Nat} {k : List D → Prop} {xs : List D} (e : ρ[i]? = some (some (.own (.list xs)))) (h : k xs) : ownL ρ i k := by
  unfold ownL
  rw [e]
  exact h
theorem ownL_mono {ρ : Env'} {i : Nat} {k k' : List D → Prop} (h : ∀ xs, k xs → k' xs) (q : ownL ρ i k) : ownL ρ i k' := by
  obtain ⟨xs, e, q⟩ := ownL_iff q
  exact ownL_of e (h xs q)
/-- x.append(e) -/
def wApp (i : Nat) (w : WE) : WS := fun D ρ => ownL ρ i fun xs => w ρ (fun d => xs.length < sizeLine ∧ D.nx (ρ.set i (some (.own (.list (xs ++ [d])))))) D.ex
theorem ds_app (i : Nat) {x : Str} {w : WE} {p1 p2 p3 : Pos} (h : DE p X e w) (hN : X.N[i]? = some x := by rfl) (hv : Vis X.env.scope x := by first | exact .inl rfl | exact .inr (.inl rfl) | exact .inr (.inr rfl)) (hd : (x == ("__debug__" : Str)) = false := by decide) (hcd : (x == ("__classdict__" : Str)) = false := by decide)
    (hbase : attributeBase (.Name x p1) "append" X.env (eval (.Name x p1) X.env) = eval (.Name x p1) X.env := by rfl)
    (hfew : ((backTo p3 (starEach [e] X.env)).all (fun x => !x.1) && (backToKw p3 (keywordEach [] X.env)).all (fun x => x.1.isSome) && decide ([e].length + ([] : List Keyword).length + (if ([] : List Keyword).isEmpty then 0 else 1) < 30)) = true := by rfl)
    (hline : (p2.endLine == p3.line) = true := by rfl) (hs : starEach [e] X.env = (false, eval e X.env) :: starEach [] X.env := by rfl) (hplain : (backTo p3 (starEach [] X.env)).any (·.1) = false := by rfl)
    (hsw : swapsWith (.Call (.Attribute (.Name x p1) "append" p2) [e] [] p3) none pos.line X.env = pure false := by rfl) : DS p X (.Expr (.Call (.Attribute (.Name x p1) "append" p2) [e] [] p3) pos) (wApp i w) := by
  have hm : MtR X "list.append" rAppend := mt_append
  refine ⟨ps_use (ps_expr (pe_bm PySem.F.plainAttrs_list PySem.F.slot_list_append PySem.F.type_list_append hm (pe_hk (pe_var (i := i) hN hv hd hcd)) (pa_cons (pe_hk h.pe) pa_nil hs) hbase hfew hline hs hplain) hsw) fun D σ H hk ⟨ρ, O, EX, R, ex, hw⟩ => ?_, fun D D' ρ hd q => ?_⟩
  · obtain ⟨xs, hx, hw⟩ := ownL_iff (show ownL ρ i _ from hw)
    obtain ⟨l, vs, hO, hσ, hH, r⟩ := own_list R hx
    refine ⟨_, hσ, fun _ => ⟨.inl ⟨rfl, vs, .of hH⟩, ρ, O, EX, R, ex, h.mono _ _ _ _ (fun d ⟨hl, q⟩ v H1 hk1 e1 r1 _ => ?_) hw⟩⟩
    have R1 := R.ext' e1
    obtain ⟨l', vs', hO', _, hH', r'⟩ := own_list R1 hx
    rw [hO] at hO'
    cases hO'
    exact ⟨l, vs', v, rfl, rfl, hH', by rw [r'.length]; exact hl, fun hk' => q O σ _ rfl hk' (own_write R1 hx hO (r'.append (rall_cons r1 rall_nil)))⟩
  · unfold wApp at q ⊢
    rw [← hd.ex]
    exact ownL_mono (fun xs q => h.mono _ _ _ _ (fun d q => ⟨q.1, hd.nx _ q.2⟩) q) q
/-- x.extend(a list) -/
def wExt (i : Nat) (w : WE) : WS := fun D ρ => ownL ρ i fun xs => w ρ (fun d => ∃ ys, d = .list ys ∧ xs.length + ys.length ≤ sizeLine ∧ D.nx (ρ.set i (some (.own (.list (xs ++ ys)))))) D.ex
theorem ds_ext (i : Nat) {x : Str} {w : WE} {p1 p2 p3 : Pos} (h : DE p X e w) (hN : X.N[i]? = some x := by rfl) (hv : Vis X.env.scope x := by first | exact .inl rfl | exact .inr (.inl rfl) | exact .inr (.inr rfl)) (hd : (x == ("__debug__" : Str)) = false := by decide) (hcd : (x == ("__classdict__" : Str)) = false := by decide)
    (hbase : attributeBase (.Name x p1) "extend" X.env (eval (.Name x p1) X.env) = eval (.Name x p1) X.env := by rfl)
    (hfew : ((backTo p3 (starEach [e] X.env)).all (fun x => !x.1) && (backToKw p3 (keywordEach [] X.env)).all (fun x => x.1.isSome) && decide ([e].length + ([] : List Keyword).length + (if ([] : List Keyword).isEmpty then 0 else 1) < 30)) = true := by rfl)
    (hline : (p2.endLine == p3.line) = true := by rfl) (hs : starEach [e] X.env = (false, eval e X.env) :: starEach [] X.env := by rfl) (hplain : (backTo p3 (starEach [] X.env)).any (·.1) = false := by rfl)
    (hsw : swapsWith (.Call (.Attribute (.Name x p1) "extend" p2) [e] [] p3) none pos.line X.env = pure false := by rfl) : DS p X (.Expr (.Call (.Attribute (.Name x p1) "extend" p2) [e] [] p3) pos) (wExt i w) := by
  have hm : MtR X "list.extend" rExtend := mt_extend
  refine ⟨ps_use (ps_expr (pe_bm PySem.F.plainAttrs_list PySem.F.slot_list_extend PySem.F.type_list_extend hm (pe_hk (pe_var (i := i) hN hv hd hcd)) (pa_cons (pe_hk h.pe) pa_nil hs) hbase hfew hline hs hplain) hsw) fun D σ H hk ⟨ρ, O, EX, R, ex, hw⟩ => ?_, fun D D' ρ hd q => ?_⟩
  · obtain ⟨xs, hx, hw⟩ := ownL_iff (show ownL ρ i _ from hw)
    obtain ⟨l, vs, hO, hσ, hH, r⟩ := own_list R hx
    refine ⟨_, hσ, fun _ => ⟨.inl ⟨rfl, vs, .of hH⟩, ρ, O, EX, R, ex, h.mono _ _ _ _ (fun d ⟨ys, z, hl, q⟩ v H1 hk1 e1 r1 _ => ?_) hw⟩⟩
    subst z
    have R1 := R.ext' e1
    obtain ⟨l', vs', hO', _, hH', r'⟩ := own_list R1 hx
    rw [hO] at hO'
    cases hO'
    obtain ⟨b, ws, rfl, _, hB, r2⟩ := r1.b.list
    exact ⟨l, b, vs', ws, rfl, rfl, hH', hB, by rw [r'.length, r2.length]; exact hl, fun hk' => q O σ _ rfl hk' (own_write R1 hx hO (r'.append r2))⟩
  · unfold wExt at q ⊢
    rw [← hd.ex]
    exact ownL_mono (fun xs q => h.mono _ _ _ _ (fun d ⟨ys, z, hl, q⟩ => ⟨ys, z, hl, hd.nx _ q⟩) q) q
/-- x[j] = e -/
def wPut (i : Nat) (wj w : WE) : WS := fun D ρ => ownL ρ i fun xs => w ρ (fun d => wj ρ (fun j => ∃ k m, j = .int k ∧ ixN xs.length k = some m ∧ D.nx (ρ.set i (some (.own (.list (xs.set m d)))))) D.ex) D.ex
theorem ds_put (i : Nat) {x : Str} {w wj : WE} {p1 p2 : Pos} (h : DE p X e w) (hj : DE p X a wj) (hN : X.N[i]? = some x := by rfl) (hv : Vis X.env.scope x := by first | exact .inl rfl | exact .inr (.inl rfl) | exact .inr (.inr rfl)) (hd : (x == ("__debug__" : Str)) = false := by decide) (hcd : (x == ("__classdict__" : Str)) = false := by decide)
    (ha : ∀ v, assign (.Subscript (.Name x p1) a p2) X.env v = (do
      let ov ← holding [v] (eval (.Name x p1) X.env)
      let iv ← holding [v, ov] (eval a X.env)
      standAt p2
      holding [v, ov, iv] (setItem ov iv v)
      release [v, ov, iv] []) := by intro _; rfl)
    (hs : swapsWithSole [.Subscript (.Name x p1) a p2] e pos.line X.env = pure false := by rfl) (hw : swappedStores [.Subscript (.Name x p1) a p2] e X.env = pure none := by rfl) (h1 : (assignEach [.Subscript (.Name x p1) a p2] X.env).map (·.2) = [assign (.Subscript (.Name x p1) a p2) X.env] := by rfl) :
    DS p X (.Assign [.Subscript (.Name x p1) a p2] e pos) (wPut i wj w) := by
  refine ⟨ps_use (ps_asg (pe_hk h.pe) (pg_sub (pe_var (i := i) hN hv hd hcd) (pe_hk hj.pe) set_list ha) hs hw h1) fun D σ H hk ⟨ρ, O, EX, R, ex, hw⟩ => ?_, fun D D' ρ hd q => ?_⟩
  · obtain ⟨xs, hx, hw⟩ := ownL_iff (show ownL ρ i _ from hw)
    refine ⟨ρ, O, EX, R, ex, h.mono _ _ _ _ (fun d q v H1 hk1 e1 r1 _ => ?_) hw⟩
    obtain ⟨l, vs, hO, hσ, hH, r⟩ := own_list (R.ext' e1) hx
    refine ⟨_, hσ, ρ, O, EX, R.ext' e1, ex, hj.mono _ _ _ _ (fun j ⟨k, m, z, hm, q⟩ u H2 hk2 e2 r2 _ => ?_) q⟩
    subst z
    obtain ⟨l', vs', hO', _, hH', r'⟩ := own_list ((R.ext' e1).ext' e2) hx
    rw [hO] at hO'
    cases hO'
    rw [r2.b.int]
    exact ⟨l, vs', k, m, rfl, rfl, hH', by rw [r'.length]; exact hm, fun hk' => q O σ _ rfl hk' (own_write ((R.ext' e1).ext' e2) hx hO (r'.set m (r1.ext e2 e1.wd)))⟩
  · unfold wPut at q ⊢
    rw [← hd.ex]
    exact ownL_mono (fun xs q => h.mono _ _ _ _ (fun d q => hj.mono _ _ _ _ (fun j ⟨k, m, z, hm, q⟩ => ⟨k, m, z, hm, hd.nx _ q⟩) q) q) q
/-- x op= e of plain data -/
def InR (X : Cx) (op : Operator) (r : R2) : Prop := OpR X (inplaceOp op) r
structure Ip (X : Cx) (p : Par) (op : Operator) (f : F2) (r : R2) : Prop where
  op : PIp X op (fun x y H Q => r x y H fun v H' => Hk X.K H' → Q v H')
  ok : Op2 (p.at X.K) f r
theorem pip_of {op : Operator} {r : R2} (h : OpR X (inplaceOp op) r) : PIp X op (fun x y H Q => r x y H fun v H' => Hk X.K H' → Q v H') := fun pins s σ H x y v u Q I rx ry hq =>
  thn (h pins s σ H x y v u _ I rx ry hq) fun _ _ ⟨z, H', I', r', q⟩ => ⟨z, H', I', r', q (hk_of I')⟩
theorem ip_addI : Ip X p .Add (aI0 fun i j => i + j) (rI0 fun i j => .int (i + j)) := ⟨pip_of iop_add, o_int0⟩
theorem ip_subI : Ip X p .Sub (aI0 fun i j => i - j) (rI0 fun i j => .int (i - j)) := ⟨pip_of iop_sub, o_int0⟩
theorem ip_mulI : Ip X p .Mult (aI CMul fun i j => i * j) (rI CMul fun i j => .int (i * j)) := ⟨pip_of iop_mul, o_int⟩
theorem ip_fdivI : Ip X p .FloorDiv aFdiv (rI CDiv fun i j => .int (i / j)) := ⟨pip_of iop_fdiv, o_int⟩
theorem ip_orI : Ip X p .BitOr aOr (rI0 fun i j => .int (Builtin.bitOr i j)) := ⟨pip_of iop_or, o_int0⟩
def plainAt (ρ : Env') (i : Nat) (k : D → Prop) : Prop := match ρ[i]? with
  | some (some (.d d)) => k d
  | _ => False
theorem plainAt_iff {ρ : Env'} {i : Nat} {k : D → Prop} (h : plainAt ρ i k) : ∃ d, ρ[i]? = some (some (.d d)) ∧ k d := by
  unfold plainAt at h
  split at h
  · rename_i xs e; exact ⟨xs, e, h⟩
  · exact h.elim
theorem plainAt_of {ρ : Env'} {i : Nat} {k : D → Prop} {d : D} (e : ρ[i]? = some (some (.d d))) (h : k d) : plainAt ρ i k := by
  unfold plainAt
  rw [e]
  exact h
def wAug (i : Nat) (f : F2) (w : WE) : WS := fun D ρ => plainAt ρ i fun d => w ρ (fun y => f d y fun z => D.nx (ρ.set i (some (.d z)))) D.ex
theorem ds_aug (i : Nat) {x : Str} {op : Operator} {w : WE} {f : F2} {r : R2} {p1 : Pos} (ip : Ip X p op f r) (h : DB p X e w) (hN : X.N.Nodup) (hi : X.N[i]? = some x := by rfl) (hx : Loc X.env.scope x := by first | exact .inl rfl | exact .inr rfl)
    (hf : X.fn x = true ∨ X.env.scope.names.lookup x = some .local := by first | exact .inl rfl | exact .inr rfl) : DS p X (.AugAssign (.Name x p1) op e pos) (wAug i f w) := by
  refine ⟨ps_use (ps_aug hN hi hx h.pe ip.op hf) fun D σ H hk ⟨ρ, O, EX, R, ex, hw⟩ => ?_, fun D D' ρ hd q => ?_⟩
  · obtain ⟨d, hx, hw⟩ := plainAt_iff (show plainAt ρ i _ from hw)
    obtain ⟨v, hσ, rv⟩ := R.slot i _ hx
    refine ⟨v, hσ, ρ, O, EX, R, ex, h.mono _ _ _ _ (fun y q u H1 hk1 e1 r1 => ?_) hw⟩
    exact ip.ok.ok O H1 v u d y (fun z H2 => Hk X.K H2 → D.nx (σ.set i (some z)) H2) ((R.ext' e1).ok hk1) ((rv.ext e1 R.wd).b) r1 (ip.ok.mono _ _ _ _ (fun z q v' H2 hk2 e2 r2 hk' => q (clr O i) _ H2 rfl hk' (((R.ext' e1).ext' e2).set_d r2)) q)
  · unfold wAug at q ⊢
    rw [← hd.ex]
    obtain ⟨d, hx, q⟩ := plainAt_iff q
    exact plainAt_of hx (h.mono _ _ _ _ (fun y q => ip.ok.mono _ _ _ _ (fun z q => hd.nx _ q) q) q)
/-- x[j] op= e, x an own list -/
def wAugS (i : Nat) (f : F2) (wj w : WE) : WS := fun D ρ => ownL ρ i fun xs => wj ρ (fun j => ∃ k m d, j = .int k ∧ ixN xs.length k = some m ∧ xs[m]? = some d ∧ w ρ (fun y => f d y fun z => D.nx (ρ.set i (some (.own (.list (xs.set m z)))))) D.ex) D.ex
theorem pget_list : PGet X (rIxL X.K) := by
  intro pins s σ H x y v u Q I rx ry h
  obtain ⟨p, xs, i, z, rfl, rfl, hq, he, q⟩ := h
  cases rx
  obtain ⟨t, rfl⟩ := ry
  obtain ⟨its, r, pl, hz⟩ := I.list hq
  obtain ⟨j, h1, h2, h3, h4, h5⟩ := atI_get he
  obtain ⟨w, ew, rw'⟩ := r.get h2
  have hl := r.length
  have hn := line63
  have fin : EP X pins σ Q w s := ⟨z, H, I, rw', q⟩
  by_cases h0 : 0 ≤ i
  · have hj : i.toNat = j := by
      rw [seqIndex_of h0 h5] at h1
      exact Option.some.inj h1
    exact wpAny_getItem_list pl.isList h0 (by omega) (by rw [hj]; simpa using ew) fin
  · have hj : (i + (its.toArray.size : Int)).toNat = j := by
      rw [seqIndex_neg (by omega) h4] at h1
      rw [List.size_toArray, ← hl]
      exact Option.some.inj h1
    exact wpAny_getItem_list_neg pl.isList (by omega) (by rw [List.size_toArray] <;> omega) (by omega) (by rw [hj]; simpa using ew) fin
theorem ds_augS (i : Nat) {x : Str} {op : Operator} {w wj : WE} {f : F2} {r : R2} {p1 p2 : Pos} (ip : Ip X p op f r) (h : DB p X e w) (hj : DE p X a wj) (hN : X.N[i]? = some x := by rfl) (hv : Vis X.env.scope x := by first | exact .inl rfl | exact .inr (.inl rfl) | exact .inr (.inr rfl)) (hd : (x == ("__debug__" : Str)) = false := by decide) (hcd : (x == ("__classdict__" : Str)) = false := by decide)
    (ha : ∀ ov iv new, augStore a ov iv new = (do holding [new, ov, iv] (setItem ov iv new); release [new, ov, iv] []; pure .next) := by intros; rfl) : DS p X (.AugAssign (.Subscript (.Name x p1) a p2) op e pos) (wAugS i f wj w) := by
  refine ⟨ps_use (ps_augS (pe_var (i := i) hN hv hd hcd) (pe_hk hj.pe) pget_list (pe_hk h.pe) ip.op set_list ha) fun D σ H hk ⟨ρ, O, EX, R, ex, hw⟩ => ?_, fun D D' ρ hd q => ?_⟩
  · obtain ⟨xs, hx, hw⟩ := ownL_iff (show ownL ρ i _ from hw)
    obtain ⟨l, vs, hO, hσ, hH, r0⟩ := own_list R hx
    refine ⟨_, hσ, ρ, O, EX, R, ex, hj.mono _ _ _ _ (fun j ⟨k, m, d, z, hm, hd, q⟩ u H1 hk1 e1 r1 _ => ?_) hw⟩
    subst z
    rw [r1.b.int]
    obtain ⟨l', vs', hO', _, hH', r'⟩ := own_list (R.ext' e1) hx
    rw [hO] at hO'
    cases hO'
    obtain ⟨v, hv', rv⟩ := r'.get hd
    refine ⟨l, vs', k, v, rfl, rfl, .of hH', by unfold atI; rw [r'.length, hm]; exact hv', ρ, O, EX, R.ext' e1, ex, h.mono _ _ _ _ (fun y q w' H2 hk2 e2 r2 _ => ?_) q⟩
    refine ip.ok.ok O H2 v w' d y _ (((R.ext' e1).ext' e2).ok hk2) ((rv.ext e2 e1.wd).b) r2 (ip.ok.mono _ _ _ _ (fun z q v' H3 hk3 e3 r3 => ?_) q)
    have R3 := ((R.ext' e1).ext' e2).ext' e3
    obtain ⟨l2, vs2, hO2, _, hH2, r4⟩ := own_list R3 hx
    rw [hO] at hO2
    cases hO2
    exact ⟨l, vs2, k, m, rfl, rfl, hH2, by rw [r4.length]; exact hm, fun hk' => q O σ _ rfl hk' (own_write R3 hx hO (r4.set m r3))⟩
  · unfold wAugS at q ⊢
    rw [← hd.ex]
    exact ownL_mono (fun xs q => hj.mono _ _ _ _ (fun j ⟨k, m, d, z, hm, he, q⟩ => ⟨k, m, d, z, hm, he, h.mono _ _ _ _ (fun y q => ip.ok.mono _ _ _ _ (fun z q => hd.nx _ q) q) q⟩) q) q
end
end DD
set_option maxRecDepth 100000
set_option maxHeartbeats 2000000
/-! SemI: iterators, for, while. -/
namespace DD
open PySem PySem.Spec PyProof.Rows L2
/-- held: data, or with the outermost object one's own -/
def hold (b : Bool) (p : Par) (O : Own) (H : Hp) (v : V) (d : D) : Prop := match b with
  | true => RepB p O H v d
  | false => RepV p.K (NN p O) H v d
theorem hold_b {b : Bool} {p : Par} {O : Own} {H : Hp} {v : V} {d : D} (h : hold b p O H v d) : RepB p O H v d := by
  cases b with
  | true => exact h
  | false => exact RepV.b h
theorem hold_ext {b : Bool} {p : Par} {O : Own} {H H' : Hp} {v : V} {d : D} (w : Wd p H) (e : Ext p H H') (h : hold b p O H v d) : hold b p O H' v d := by
  cases b with
  | true => exact RepB.ext w e h
  | false => exact RepV.ext e w h
/-- an item kept in hand -/
def holdI (b : Bool) (p : Par) (O : Own) (H : Hp) : KI → Prop
  | .d v x => hold b p O H v x
  | .f a u => (match b with | true => a ≠ p.r | false => NN p O a) ∧ H a = some u ∧ ∀ ps, u ≠ .tbl ps
def RepBI (p : Par) (O : Own) (H : Hp) : KI → Prop
  | .d v x => RepB p O H v x
  | .f a u => a ≠ p.r ∧ H a = some u ∧ ∀ ps, u ≠ .tbl ps
theorem holdI_b {b : Bool} {p : Par} {O : Own} {H : Hp} : ∀ {x : KI}, holdI b p O H x → RepBI p O H x
  | .d _ _, h => hold_b h
  | .f _ _, h => by
    cases b with
    | true => exact h
    | false => exact ⟨h.1.2.1, h.2⟩
theorem RepI.b {p : Par} {O : Own} {H : Hp} : ∀ {x : KI}, RepI p.K (NN p O) H x → RepBI p O H x
  | .d _ _, h => RepV.b h
  | .f _ _, h => ⟨h.1.2.1, h.2⟩
theorem RepBI.ext {p : Par} {O : Own} {H H' : Hp} (w : Wd p H) (e : Ext p H H') : ∀ {x : KI}, RepBI p O H x → RepBI p O H' x
  | .d _ _, h => RepB.ext w e h
  | .f a u, h => ⟨h.1, e.ob a u h.2.1 h.2.2 h.1, h.2.2⟩
abbrev WI := Env' → (List D → Prop) → EXn → Prop
structure Ok0 (p : Par) (O : Own) (H : Hp) : Prop where
  wd : Wd p H
  fr : ∀ a, H a = none → NN p O a
theorem Rel.ok0 {p : Par} {O : Own} {ρ : Env'} {σ : L2.St} {H : Hp} (R : Rel p O ρ σ H) : Ok0 p O H := ⟨R.wd, fun _ h => R.fresh0 h⟩
/-- J walks over the data, so long as ks is held -/
def ItOk (p : Par) (ds : List D) (J : It) (ks : List KI) : Prop := ∀ O H i, Ok0 p O H → (∀ x ∈ ks, RepBI p O H x) →
  (ds.length ≤ i → J.stop i H) ∧ ∀ d, ds[i]? = some d → J.go i H ∧ ∀ x H', J.yld i H x H' → Ext p H H' ∧ RepV p.K (NN p O) H' x d
def LI (b : Bool) (p : Par) (w : WI) : TI := fun σ H R => At p σ H fun O ρ EX => w ρ (fun ds => ∀ J H' ks, Hk p.K H' → Ext p H H' → (∀ x ∈ ks, holdI b p O H' x) → ItOk p ds J ks → R J H') EX
structure DI (b : Bool) (p : Par) (X : Cx) (tg e : Expr) (w : WI) : Prop where
  pi : PI X tg e (LI b (p.at X.K) w)
  mono : MonoA w
/-- one value, held -/
structure DH (b : Bool) (p : Par) (X : Cx) (e : Expr) (w : WE) : Prop where
  pe : PE X e (fun σ H Q => At (p.at X.K) σ H fun O ρ EX => w ρ (fun d => ∀ v H', Hk X.K H' → Ext (p.at X.K) H H' → hold b (p.at X.K) O H' v d → Q v H') EX)
  mono : MonoE w
section
variable {b0 : Bool} {p : Par} {X : Cx} {pos : Pos} {tg e a b c : Expr} {es : List Expr} {st : Stmt} {sts : List Stmt}
theorem DE.h {w : WE} (h : DE p X e w) : DH false p X e w := ⟨h.pe, h.mono⟩
theorem DB.h {w : WE} (h : DB p X e w) : DH true p X e w := ⟨h.pe, h.mono⟩
theorem DI.bor {w : WI} (h : DI false p X tg e w) : DI true p X tg e w :=
  ⟨⟨fun pins s σ H R I ⟨ρ, O, EX, Rl, ex, hw⟩ => h.pi.run pins s σ H R I ⟨ρ, O, EX, Rl, ex, h.mono _ _ _ _ (fun ds q J H' ks hk e hh it => q J H' ks hk e (fun x hx => (match x, hh x hx with | .d _ _, h => RepV.b h | .f _ _, h => ⟨h.1.2.1, h.2⟩)) it) hw⟩⟩, h.mono⟩
theorem pi_use {t t' : TI} (h : PI X tg e t) (imp : ∀ σ H R, Hk X.K H → t' σ H R → t σ H R) : PI X tg e t' := ⟨fun pins s σ H R I ht => h.run pins s σ H R I (imp _ _ _ (hk_of I) ht)⟩
/-- held by keeping one value -/
theorem one_held {p : Par} {O : Own} {H : Hp} {v : V} {d : D} (h : hold b0 p O H v d) : ∀ x ∈ [KI.d v d], holdI b0 p O H x := fun x hx => by
  rw [List.mem_singleton] at hx
  subst hx
  exact h
theorem itl_ok {p : Par} {a : Addr} {ds : List D} : ItOk p ds (Itl p.K a) [.d (.ref a) (.list ds)] := fun O H i ok hk => by
  obtain ⟨a', vs, z, _, h1, r⟩ := (show RepB p O H (.ref a) (.list ds) from hk (.d (.ref a) (.list ds)) (List.mem_singleton.mpr rfl)).list
  cases z
  refine ⟨fun hi => ⟨vs, .of h1, by rw [r.length]; exact hi⟩, fun d hd => ?_⟩
  obtain ⟨v, hv, rv⟩ := r.get hd
  refine ⟨⟨vs, v, .of h1, hv⟩, fun x H' ⟨e1, e2⟩ => ?_⟩
  have e3 := e2 vs (.of h1)
  rw [hv] at e3
  cases e3
  subst e1
  exact ⟨Ext.refl ok.wd, rv⟩
theorem itt_ok {p : Par} {a : Addr} {ds : List D} : ItOk p ds (Itt p.K a) [.d (.ref a) (.tuple ds)] := fun O H i ok hk => by
  obtain ⟨a', vs, z, h1, r⟩ := (show RepB p O H (.ref a) (.tuple ds) from hk (.d (.ref a) (.tuple ds)) (List.mem_singleton.mpr rfl)).tuple
  cases z
  refine ⟨fun hi => ⟨vs, h1, by rw [r.length]; exact hi⟩, fun d hd => ?_⟩
  obtain ⟨v, hv, rv⟩ := r.get hd
  refine ⟨⟨vs, v, h1, hv⟩, fun x H' ⟨e1, e2⟩ => ?_⟩
  have e3 := e2 vs h1
  rw [hv] at e3
  cases e3
  subst e1
  exact ⟨Ext.refl ok.wd, rv⟩
/-- a list or a tuple -/
def seqD : D → Option (List D)
  | .list ds => some ds
  | .tuple ds => some ds
  | _ => none
def iSeq (K : PySem.W.Frag) (tl : TE) : TI := fun σ H R => tl σ H fun x H1 => ∃ a, x = .ref a ∧ (((∃ xs, SqL K H1 a xs) ∧ R (Itl K a) H1) ∨ ((∃ xs, SqT K H1 a xs) ∧ R (Itt K a) H1))
theorem pi_seq {l : Expr} {tl : TE} (hl : PE X l tl) : PI X tg l (iSeq X.K tl) := by
  refine ⟨fun pins s σ H R I h => ?_⟩
  refine thn (hl.run pins s σ H _ I h) fun v s1 ⟨x, H1, I1, r1, q1⟩ => ?_
  obtain ⟨a, e, q⟩ := q1
  subst e
  cases r1
  rcases q with ⟨⟨xs, hq⟩, q⟩ | ⟨⟨xs, hq⟩, q⟩
  · obtain ⟨its, rv, p, hz⟩ := I1.list hq
    refine wpAny_pyIter_list p.isList ?_
    refine ⟨s1.heap.objs.size, [s1.heap.objs.size], _, _, H1, rfl, I1.kept (t' := s1.toks) fun b o e => Heap.get?_push_of_some _ e, turn_list a _, ⟨_, Heap.get?_push_size _ rfl, rfl, rfl⟩, fun b hb => ?_, q⟩
    have e : b = s1.heap.objs.size := by simpa using hb
    subst e
    exact I1.fpOk (Nat.le_refl _) (I1.hok.fresh (Nat.le_refl _))
  · obtain ⟨its, rv, p, hz⟩ := I1.tuple hq
    refine wpAny_pyIter_tuple (show s1.heap.IsTuple a its.toArray from p) ?_
    refine ⟨s1.heap.objs.size, [s1.heap.objs.size], _, _, H1, rfl, I1.kept (t' := s1.toks) fun b o e => Heap.get?_push_of_some _ e, turn_tuple a _, ⟨_, Heap.get?_push_size _ rfl, rfl, rfl⟩, fun b hb => ?_, q⟩
    have e : b = s1.heap.objs.size := by simpa using hb
    subst e
    exact I1.fpOk (Nat.le_refl _) (I1.hok.fresh (Nat.le_refl _))
def wiSeq (w : WE) : WI := fun ρ Q EX => w ρ (fun d => ∃ ds, seqD d = some ds ∧ Q ds) EX
theorem di_seq {w : WE} (h : DH b0 p X e w) : DI b0 p X tg e (wiSeq w) := by
  refine ⟨pi_use (pi_seq (pe_hk h.pe)) fun σ H R hk ⟨ρ, O, EX, Rl, ex, hw⟩ => ⟨ρ, O, EX, Rl, ex, h.mono _ _ _ _ (fun d ⟨ds, z, q⟩ v H1 hk1 e1 r1 _ => ?_) hw⟩, fun ρ Q Q' EX hh q => h.mono _ _ _ _ (fun d ⟨ds, z, q⟩ => ⟨ds, z, hh _ q⟩) q⟩
  cases d with
  | none => cases z
  | bool _ => cases z
  | int _ => cases z
  | str _ => cases z
  | dict _ => cases z
  | list _ =>
    cases z
    obtain ⟨a, vs, rfl, _, h1, r⟩ := (hold_b r1).list
    exact ⟨a, rfl, .inl ⟨⟨vs, .of h1⟩, q _ _ _ hk1 e1 (one_held r1) itl_ok⟩⟩
  | tuple _ =>
    cases z
    obtain ⟨a, vs, rfl, h1, r⟩ := (hold_b r1).tuple
    exact ⟨a, rfl, .inr ⟨⟨vs, h1⟩, q _ _ _ hk1 e1 (one_held r1) itt_ok⟩⟩
/-- range -/
def rngD (lo : Int) (n : Nat) : List D := (List.range n).map fun i => .int (lo + (i : Nat))
theorem rng_get {lo : Int} {n i : Nat} {d : D} (h : (rngD lo n)[i]? = some d) : i < n ∧ d = .int (lo + (i : Nat)) := by
  unfold rngD at h
  rw [List.getElem?_map] at h
  by_cases hi : i < n
  · rw [List.getElem?_range hi] at h
    exact ⟨hi, by simpa using h.symm⟩
  · rw [List.getElem?_eq_none (by simpa using hi)] at h
    cases h
theorem rng_len {lo : Int} {n : Nat} : (rngD lo n).length = n := by unfold rngD; simp
theorem itr_ok {p : Par} {lo : Int} {n : Nat} : ItOk p (rngD lo n) (Itr lo n) [] := fun O H i ok _ => by
  refine ⟨fun hi => by rw [rng_len] at hi; exact hi, fun d hd => ?_⟩
  obtain ⟨hi, rfl⟩ := rng_get hd
  refine ⟨hi, fun x H' ⟨e1, e2⟩ => ?_⟩
  subst e1
  subst e2
  exact ⟨Ext.refl ok.wd, rep_int⟩
def rBnd (i : Int) : Prop := -(2 ^ 62) ≤ i ∧ i < 2 ^ 62
def wiRng1 (w : WE) : WI := fun ρ Q EX => w ρ (fun d => ∃ j, d = .int j ∧ rBnd j ∧ Q (rngD 0 j.toNat)) EX
def wiRng2 (w u : WE) : WI := fun ρ Q EX => w ρ (fun d => u ρ (fun d2 => ∃ i j, d = .int i ∧ d2 = .int j ∧ rBnd i ∧ rBnd j ∧ Q (rngD i (j - i).toNat)) EX) EX
theorem no_held {p : Par} {O : Own} {H : Hp} : ∀ x ∈ ([] : List KI), holdI b0 p O H x := fun x hx => by cases hx
theorem di_rng1 {w : WE} {q : Pos} (hm : X.mg "range" = none) (h : DB p X a w) (hg : Gl X "range" := by rfl) (hs : starEach [a] X.env = [(false, eval a X.env)] := by rfl) : DI b0 p X tg (.Call (.Name "range" q) [a] [] pos) (wiRng1 w) :=
  ⟨pi_use (pi_range1 hg hm (pa_cons (pe_hk h.pe) pa_nil hs) hs) fun σ H R hk ⟨ρ, O, EX, Rl, ex, hw⟩ => ⟨ρ, O, EX, Rl, ex, h.mono _ _ _ _ (fun d ⟨j, z, hb, q⟩ v H1 hk1 e1 r1 _ => by
    subst z
    rw [r1.int]
    exact ⟨j, rfl, hb.1, hb.2, q _ _ [] hk1 e1 no_held itr_ok⟩) hw⟩, fun ρ Q Q' EX hh q => h.mono _ _ _ _ (fun d ⟨j, z, hb, q⟩ => ⟨j, z, hb, hh _ q⟩) q⟩
theorem di_rng2 {w u : WE} {q : Pos} (hm : X.mg "range" = none) (h : DB p X a w) (h2 : DB p X b u) (hg : Gl X "range" := by rfl) (hs : starEach [a, b] X.env = [(false, eval a X.env), (false, eval b X.env)] := by rfl) (hs2 : starEach [b] X.env = [(false, eval b X.env)] := by rfl)
    (hs3 : starEach [a, b] X.env = (false, eval a X.env) :: starEach [b] X.env := by rfl) : DI b0 p X tg (.Call (.Name "range" q) [a, b] [] pos) (wiRng2 w u) :=
  ⟨pi_use (pi_range2 hg hm (pa_cons (pe_hk h.pe) (pa_cons (pe_hk h2.pe) pa_nil hs2) hs3) hs hs2) fun σ H R hk ⟨ρ, O, EX, Rl, ex, hw⟩ => ⟨ρ, O, EX, Rl, ex, h.mono _ _ _ _ (fun d q v H1 hk1 e1 r1 _ => ⟨ρ, O, EX, Rl.ext' e1, ex, h2.mono _ _ _ _ (fun d2 ⟨i, j, z, z2, hi, hj, q'⟩ v2 H2 hk2 e2 r2 _ => by
    subst z
    subst z2
    rw [r1.int, r2.int]
    exact ⟨i, j, rfl, ⟨hi.1, hi.2, hj.1, hj.2⟩, q' _ _ [] hk2 (e1.trans e2) no_held itr_ok⟩) q⟩) hw⟩, fun ρ Q Q' EX hh q => h.mono _ _ _ _ (fun d q => h2.mono _ _ _ _ (fun d2 ⟨i, j, z, z2, hi, hj, q⟩ => ⟨i, j, z, z2, hi, hj, hh _ q⟩) q) q⟩
/-- enumerate of a list -/
def enumD (ds : List D) : List D := (List.range ds.length).map fun i => .tuple [.int ((i : Nat) : Int), ds.getD i .none]
theorem enum_len {ds : List D} : (enumD ds).length = ds.length := by unfold enumD; simp
theorem enum_get {ds : List D} {i : Nat} {d : D} (h : (enumD ds)[i]? = some d) : ∃ x, ds[i]? = some x ∧ d = .tuple [.int ((i : Nat) : Int), x] := by
  unfold enumD at h
  rw [List.getElem?_map] at h
  by_cases hi : i < ds.length
  · rw [List.getElem?_range hi] at h
    refine ⟨ds[i], List.getElem?_eq_getElem hi, ?_⟩
    have h := Option.some.inj h
    rw [← h]
    dsimp only
    rw [List.getD_eq_getElem?_getD, List.getElem?_eq_getElem hi]
    rfl
  · rw [List.getElem?_eq_none (by simpa using hi)] at h
    cases h
theorem pair_new {p : Par} {O : Own} {H : Hp} {T : Addr} {x y : V} {d d' : D} (ok : Ok0 p O H) (hT : H T = none) (r : RepV p.K (NN p O) H x d) (r' : RepV p.K (NN p O) H y d') : Ext p H (upd H T (.tup [x, y])) ∧ RepV p.K (NN p O) (upd H T (.tup [x, y])) (.ref T) (.tuple [d, d']) :=
  ⟨Ext.new ok.wd hT, rep_tuple (by unfold L2.upd; rw [if_pos rfl]) (RepAll.ext (Ext.new ok.wd hT) ok.wd (rall_cons r (rall_cons r' rall_nil)))⟩
theorem ite_ok {p : Par} {a : Addr} {ds : List D} : ItOk p (enumD ds) (Ite p.K a) [.d (.ref a) (.list ds)] := fun O H i ok hk => by
  obtain ⟨a', vs, z, _, h1, r⟩ := (show RepB p O H (.ref a) (.list ds) from hk (.d (.ref a) (.list ds)) (List.mem_singleton.mpr rfl)).list
  cases z
  refine ⟨fun hi => ⟨vs, .of h1, by rw [r.length]; rw [enum_len] at hi; exact hi⟩, fun d hd => ?_⟩
  obtain ⟨x, hx, rfl⟩ := enum_get hd
  obtain ⟨v, hv, rv⟩ := r.get hx
  refine ⟨⟨vs, v, .of h1, hv⟩, fun u H' ⟨T, w, e0, hT, e1, e2⟩ => ?_⟩
  have e3 := e2 vs (.of h1)
  rw [hv] at e3
  cases e3
  subst e0
  subst e1
  exact pair_new ok hT rep_int rv
def wiEnum (w : WE) : WI := fun ρ Q EX => w ρ (fun d => ∃ ds, d = .list ds ∧ Q (enumD ds)) EX
theorem di_enum {w : WE} {elts : List Expr} {kk : Nat} {q tpos : Pos} (hm : X.mg "enumerate" = none) (h : DH b0 p X a w) (hg : Gl X "enumerate" := by rfl) (hs : starEach [a] X.env = [(false, eval a X.env)] := by rfl) : DI b0 p X (.Tuple elts kk tpos) (.Call (.Name "enumerate" q) [a] [] pos) (wiEnum w) :=
  ⟨pi_use (pi_enum hg hm (pa_cons (pe_hk h.pe) pa_nil hs) hs) fun σ H R hk ⟨ρ, O, EX, Rl, ex, hw⟩ => ⟨ρ, O, EX, Rl, ex, h.mono _ _ _ _ (fun d ⟨ds, z, q⟩ v H1 hk1 e1 r1 _ => by
    subst z
    obtain ⟨a, vs, rfl, _, h1, r⟩ := (hold_b r1).list
    exact ⟨a, vs, rfl, .of h1, q _ _ _ hk1 e1 (one_held r1) ite_ok⟩) hw⟩, fun ρ Q Q' EX hh q => h.mono _ _ _ _ (fun d ⟨ds, z, q⟩ => ⟨ds, z, hh _ q⟩) q⟩
/-- zip of two lists, of two tuples -/
def zipD (xs ys : List D) : List D := List.zipWith (fun x y => .tuple [x, y]) xs ys
theorem zip_get {xs ys : List D} {i : Nat} {d : D} (h : (zipD xs ys)[i]? = some d) : ∃ x y, xs[i]? = some x ∧ ys[i]? = some y ∧ d = .tuple [x, y] := by
  unfold zipD at h
  rw [List.getElem?_zipWith] at h
  cases hx : xs[i]? with
  | none => rw [hx] at h; cases h
  | some x =>
    cases hy : ys[i]? with
    | none => rw [hx, hy] at h; cases h
    | some y =>
      rw [hx, hy] at h
      exact ⟨x, y, rfl, rfl, (Option.some.inj h).symm⟩
theorem zip_len {xs ys : List D} : (zipD xs ys).length = min xs.length ys.length := by unfold zipD; simp
theorem itz_ok {p : Par} {a b : Addr} {ds es : List D} : ItOk p (zipD ds es) (Itz p.K a b) [.d (.ref a) (.list ds), .d (.ref b) (.list es)] := fun O H i ok hk => by
  obtain ⟨a', vs, z, _, h1, r⟩ := (show RepB p O H (.ref a) (.list ds) from hk (.d (.ref a) (.list ds)) (by simp)).list
  cases z
  obtain ⟨b', ws, z, _, h2, r'⟩ := (show RepB p O H (.ref b) (.list es) from hk (.d (.ref b) (.list es)) (by simp)).list
  cases z
  refine ⟨fun hi => ⟨vs, ws, .of h1, .of h2, by rw [zip_len] at hi; rw [r.length, r'.length]; omega⟩, fun d hd => ?_⟩
  obtain ⟨x, y, hx, hy, rfl⟩ := zip_get hd
  obtain ⟨v, hv, rv⟩ := r.get hx
  obtain ⟨w, hw, rw'⟩ := r'.get hy
  refine ⟨⟨vs, ws, v, w, .of h1, .of h2, hv, hw⟩, fun u H' ⟨T, x', y', e0, hT, e1, e2, e3⟩ => ?_⟩
  have e4 := e2 vs (.of h1)
  rw [hv] at e4
  cases e4
  have e5 := e3 ws (.of h2)
  rw [hw] at e5
  cases e5
  subst e0
  subst e1
  exact pair_new ok hT rv rw'
theorem itzT_ok {p : Par} {a b : Addr} {ds es : List D} : ItOk p (zipD ds es) (RZ.ItzT p.K a b) [.d (.ref a) (.tuple ds), .d (.ref b) (.tuple es)] := fun O H i ok hk => by
  obtain ⟨a', vs, z, h1, r⟩ := (show RepB p O H (.ref a) (.tuple ds) from hk (.d (.ref a) (.tuple ds)) (by simp)).tuple
  cases z
  obtain ⟨b', ws, z, h2, r'⟩ := (show RepB p O H (.ref b) (.tuple es) from hk (.d (.ref b) (.tuple es)) (by simp)).tuple
  cases z
  refine ⟨fun hi => ⟨vs, ws, h1, h2, by rw [zip_len] at hi; rw [r.length, r'.length]; omega⟩, fun d hd => ?_⟩
  obtain ⟨x, y, hx, hy, rfl⟩ := zip_get hd
  obtain ⟨v, hv, rv⟩ := r.get hx
  obtain ⟨w, hw, rw'⟩ := r'.get hy
  refine ⟨⟨vs, ws, v, w, h1, h2, hv, hw⟩, fun u H' ⟨T, x', y', e0, hT, e1, e2, e3⟩ => ?_⟩
  have e4 := e2 vs h1
  rw [hv] at e4
  cases e4
  have e5 := e3 ws h2
  rw [hw] at e5
  cases e5
  subst e0
  subst e1
  exact pair_new ok hT rv rw'
def wiZip (w u : WE) : WI := fun ρ Q EX => w ρ (fun d => u ρ (fun d2 => ∃ ds es, ((d = .list ds ∧ d2 = .list es) ∨ (d = .tuple ds ∧ d2 = .tuple es)) ∧ Q (zipD ds es)) EX) EX
theorem two_held {p : Par} {O : Own} {H : Hp} {v v' : V} {d d' : D} (h : hold b0 p O H v d) (h' : hold b0 p O H v' d') : ∀ x ∈ [KI.d v d, KI.d v' d'], holdI b0 p O H x := fun x hx => by
  rcases List.mem_cons.mp hx with rfl | hx
  · exact h
  · rw [List.mem_singleton] at hx
    subst hx
    exact h'
theorem di_zip {w u : WE} {elts : List Expr} {kk : Nat} {q tpos : Pos} (hm : X.mg "zip" = none) (h : DH b0 p X a w) (h2 : DH b0 p X b u) (hg : Gl X "zip" := by rfl) (hs : starEach [a, b] X.env = (false, eval a X.env) :: starEach [b] X.env := by rfl) (hs2 : starEach [b] X.env = (false, eval b X.env) :: starEach [] X.env := by rfl) (hpl : (backTo pos (starEach [b] X.env)).any (·.1) = false := by rfl) :
    DI b0 p X (.Tuple elts kk tpos) (.Call (.Name "zip" q) [a, b] [] pos) (wiZip w u) := by
  refine ⟨pi_use (RZ.pi_zipA hg hm (pa_cons (pe_hk h.pe) (pa_cons (pe_hk h2.pe) pa_nil hs2) hs) hs hpl) fun σ H R hk ⟨ρ, O, EX, Rl, ex, hw⟩ => ⟨ρ, O, EX, Rl, ex, h.mono _ _ _ _ (fun d q v H1 hk1 e1 r1 _ => ⟨ρ, O, EX, Rl.ext' e1, ex, h2.mono _ _ _ _ (fun d2 ⟨ds, es, z, q'⟩ v2 H2 hk2 e2 r2 _ => ?_) q⟩) hw⟩,
    fun ρ Q Q' EX hh q => h.mono _ _ _ _ (fun d q => h2.mono _ _ _ _ (fun d2 ⟨ds, es, z, q⟩ => ⟨ds, es, z, hh _ q⟩) q) q⟩
  have r3 := hold_ext e1.wd e2 r1
  rcases z with ⟨rfl, rfl⟩ | ⟨rfl, rfl⟩
  · obtain ⟨a, vs, rfl, _, h1, _⟩ := (hold_b r3).list
    obtain ⟨b, ws, rfl, _, h2, _⟩ := (hold_b r2).list
    exact ⟨a, b, vs, ws, rfl, .inl ⟨.of h1, .of h2, q' _ _ _ hk2 (e1.trans e2) (two_held r3 r2) itz_ok⟩⟩
  · obtain ⟨a, vs, rfl, h1, _⟩ := (hold_b r3).tuple
    obtain ⟨b, ws, rfl, h2, _⟩ := (hold_b r2).tuple
    exact ⟨a, b, vs, ws, rfl, .inr ⟨h1, h2, q' _ _ _ hk2 (e1.trans e2) (two_held r3 r2) itzT_ok⟩⟩
/-! ### for, while -/
def wLoop (g : WG) (bd : WS) (D : EndsW) : List DD.D → Env' → Prop
  | [], ρ => D.nx ρ
  | d :: ds, ρ => g d ρ fun ρ' => bd { nx := wLoop g bd D ds, rt := D.rt, bk := D.nx, ct := wLoop g bd D ds, ex := D.ex } ρ'
def wFor (wi : WI) (g : WG) (bd : WS) : WS := fun D ρ => wi ρ (fun ds => wLoop g bd D ds ρ) D.ex
theorem mono_Loop {g : WG} {bd : WS} (hg : MonoG g) (hb : MonoS bd) {D D' : EndsW} (hd : D.le D') : ∀ (ds : List DD.D) (ρ : Env'), wLoop g bd D ds ρ → wLoop g bd D' ds ρ
  | [], ρ, q => hd.nx _ q
  | d :: ds, ρ, q => hg _ _ _ _ (fun ρ' q => hb { nx := wLoop g bd D ds, rt := D.rt, bk := D.nx, ct := wLoop g bd D ds, ex := D.ex } _ _ ⟨fun ρ q => mono_Loop hg hb hd ds ρ q, hd.rt, fun ρ q => hd.nx ρ q, fun ρ q => mono_Loop hg hb hd ds ρ q, hd.ex⟩ q) q
theorem ds_for {wi : WI} {ix : List Nat} {g : WG} {bd : WS} {body : List Stmt} (hp : PassesOwn (model X.prog X.w) X.A X.env X.xe) (hc : X.calm = true) (hi : DI false p X tg e wi) (hg : DG p X tg ix g) (hb : DSs p X body bd)
    (hs : ∀ x, foldedSetIterable e X.env x = pure x := by intro _; rfl) : DS p X (.For tg e body [] pos) (wFor wi g bd) := by
  refine ⟨ps_use (ps_for hp hc hi.pi hg.pg hb.ps hs) fun D σ H hk ⟨ρ, O, EX, R, ex, hw⟩ => ?_, fun D D' ρ hd q => ?_⟩
  · refine ⟨ρ, O, EX, R, ex, hi.mono _ _ _ _ (fun ds q J H1 ks hk1 e1 hks it => ?_) hw⟩
    let Dw := endsW (p.at X.K) D O.ks EX
    have q : wLoop g bd Dw ds ρ := q
    let St : List DD.D → L2.St → Hp → Prop := fun ds σ H => Hk X.K H ∧ ∃ ρ' O', O'.ks = ks ++ O.ks ∧ Rel (p.at X.K) O' ρ' σ H ∧ wLoop g bd Dw ds ρ'
    refine ⟨fun i m σ H => m = ds.length - i ∧ i ≤ ds.length ∧ St (ds.drop i) σ H, ⟨ds.length, rfl, Nat.zero_le _, hk1, ρ, ⟨O.fn, ks ++ O.ks⟩, rfl, (R.ext' e1).hold (fun x hx => match x, hks x hx with | .d _ _, h => h | .f _ _, h => h), q⟩, ?_⟩
    rintro i m σ2 H2 ⟨rfl, hi', hk2, ρ2, O2, k2, R2, q2⟩
    have held : ∀ x ∈ ks, RepBI (p.at X.K) O2 H2 x := fun x hx => RepI.b (R2.keep x (by rw [k2]; exact List.mem_append_left _ hx))
    obtain ⟨t1, t2⟩ := it O2 H2 i R2.ok0 held
    cases hd : ds[i]? with
    | none =>
      have hle : ds.length ≤ i := List.getElem?_eq_none_iff.mp hd
      rw [List.drop_eq_nil_of_le hle] at q2
      refine .inl ⟨t1 hle, fun hk3 => ?_⟩
      have q3 : Dw.nx ρ2 := q2
      exact q3 ⟨O2.fn, O.ks⟩ σ2 H2 rfl hk3 (R2.drop fun x hx => by rw [k2]; exact List.mem_append_right _ hx)
    | some d =>
      have hlt : i < ds.length := (List.getElem?_eq_some_iff.mp hd).1
      obtain ⟨go, yl⟩ := t2 d hd
      have hdrop : ds.drop i = d :: ds.drop (i + 1) := by
        rw [List.drop_eq_getElem_cons hlt]
        congr 1
        have := List.getElem?_eq_getElem hlt
        rw [hd] at this
        exact (Option.some.inj this).symm
      rw [hdrop] at q2
      refine .inr ⟨go, fun σ' H' => St (ds.drop (i + 1)) σ' H', fun σ' H' st => ⟨ds.length - (i + 1), by omega, rfl, hlt, st⟩, fun x H3 y => ?_⟩
      obtain ⟨e3, r3⟩ := yl x H3 y
      refine ⟨ρ2, O2, d, R2.ext' e3, r3, hg.mono _ _ _ _ (fun ρ3 q3 O3 σ3 k3 _ _ _ R3 => ?_) q2⟩
      refine ⟨ρ3, O3, EX, R3, ex, hb.mono { nx := wLoop g bd Dw (ds.drop (i + 1)), rt := Dw.rt, bk := Dw.nx, ct := wLoop g bd Dw (ds.drop (i + 1)), ex := Dw.ex } _ _ ⟨fun ρ4 q4 O4 σ4 H4 k4 hk4 R4 => ?_, fun d q4 v H4 hk4 e4 r4 hk5 => q4 v H4 hk4 e4 r4, fun ρ4 q4 O4 σ4 H4 k4 hk4 R4 hk5 => ?_, fun ρ4 q4 O4 σ4 H4 k4 hk4 R4 => ?_, rfl⟩ q3⟩
      · exact ⟨hk4, ρ4, O4, k4.trans (k3.trans k2), R4, q4⟩
      · have q5 : Dw.nx ρ4 := q4
        exact q5 ⟨O4.fn, O.ks⟩ σ4 H4 rfl hk5 (R4.drop fun x hx => by rw [k4, k3, k2]; exact List.mem_append_right _ hx)
      · exact ⟨hk4, ρ4, O4, k4.trans (k3.trans k2), R4, q4⟩
  · unfold wFor at q ⊢
    rw [← hd.ex]
    exact hi.mono _ _ _ _ (fun ds q => mono_Loop hg.mono hb.mono hd ds ρ q) q
def wWhile (t : WT) (bd : WS) : WS := fun D ρ => ∃ W : Nat → Env' → Prop, (∃ m, W m ρ) ∧ ∀ m ρ, W m ρ → t ρ (fun k => if k = true then bd { nx := fun ρ' => ∃ m', m' < m ∧ W m' ρ', rt := D.rt, bk := D.nx, ct := fun ρ' => ∃ m', m' < m ∧ W m' ρ', ex := D.ex } ρ else D.nx ρ) D.ex
theorem ds_while {t : WT} {bd : WS} {body : List Stmt} (hp : PassesOwn (model X.prog X.w) X.A X.env X.xe) (hc : DT p X c t) (hb : DSs p X body bd) : DS p X (.While c body [] pos) (wWhile t bd) := by
  refine ⟨ps_use (ps_while hp hc.pt hb.ps) fun D σ H hk ⟨ρ, O, EX, R, ex, hw⟩ => ?_, fun D D' ρ hd ⟨W, w0, turn⟩ => ⟨W, w0, fun m ρ w => ?_⟩⟩
  · obtain ⟨W, ⟨m0, w0⟩, turn⟩ := hw
    let Dw := endsW (p.at X.K) D O.ks EX
    let St : Nat → L2.St → Hp → Prop := fun m σ H => Hk X.K H ∧ ∃ ρ' O', O'.ks = O.ks ∧ Rel (p.at X.K) O' ρ' σ H ∧ W m ρ'
    refine ⟨St, ⟨m0, hk, ρ, O, rfl, R, w0⟩, ?_⟩
    rintro m σ2 H2 ⟨hk2, ρ2, O2, k2, R2, w2⟩
    refine ⟨ρ2, O2, EX, R2, ex, hc.mono _ _ _ _ (fun k q H3 hk3 e3 => ?_) (turn m ρ2 w2)⟩
    by_cases z : k = true
    · rw [if_pos z] at q ⊢
      refine ⟨fun σ' H' => ∃ m', m' < m ∧ St m' σ' H', fun _ _ h => h, ρ2, O2, EX, R2.ext' e3, ex, hb.mono { nx := fun ρ' => ∃ m', m' < m ∧ W m' ρ', rt := Dw.rt, bk := Dw.nx, ct := fun ρ' => ∃ m', m' < m ∧ W m' ρ', ex := Dw.ex } _ _ ⟨?_, ?_, ?_, ?_, rfl⟩ q⟩
      · exact fun ρ4 ⟨m', hm, w4⟩ O4 σ4 H4 k4 hk4 R4 => ⟨m', hm, hk4, ρ4, O4, k4.trans k2, R4, w4⟩
      · exact fun d q4 v H4 hk4 e4 r4 hk5 => q4 v H4 hk4 e4 r4
      · exact fun ρ4 q4 O4 σ4 H4 k4 hk4 R4 hk5 => q4 O4 σ4 H4 (k4.trans k2) hk5 R4
      · exact fun ρ4 ⟨m', hm, w4⟩ O4 σ4 H4 k4 hk4 R4 => ⟨m', hm, hk4, ρ4, O4, k4.trans k2, R4, w4⟩
    · rw [if_neg z] at q ⊢
      exact fun hk4 => q O2 σ2 H3 k2 hk4 (R2.ext' e3)
  · rw [← hd.ex]
    refine hc.mono _ _ _ _ (fun k q => ?_) (turn m ρ w)
    by_cases z : k = true
    · rw [if_pos z] at q ⊢; exact hb.mono { nx := fun ρ' => ∃ m', m' < m ∧ W m' ρ', rt := D.rt, bk := D.nx, ct := fun ρ' => ∃ m', m' < m ∧ W m' ρ', ex := D.ex } _ _ ⟨fun _ q => q, hd.rt, hd.nx, fun _ q => q, rfl⟩ q
    · rw [if_neg z] at q ⊢; exact hd.nx _ q
end
end DD
set_option maxRecDepth 100000
set_option maxHeartbeats 2000000
/-! SemJ: comprehensions. -/
namespace DD
open PySem PySem.Spec PyProof.Rows L2
/-! ### a block's slots -/
def wipeE (ρ : Env') : List Nat → Env'
  | [] => ρ
  | v :: vs => (wipeE ρ vs).set v none
theorem wipeE_len {ρ : Env'} : ∀ {vs : List Nat}, (wipeE ρ vs).length = ρ.length
  | [] => rfl
  | v :: vs => by unfold wipeE; rw [List.length_set, wipeE_len]
theorem wipeE_some {ρ : Env'} {i : Nat} {w : W} : ∀ {vs : List Nat}, (wipeE ρ vs)[i]? = some (some w) → ρ[i]? = some (some w) ∧ i ∉ vs
  | [], h => ⟨h, by simp⟩
  | v :: vs, h => by
    unfold wipeE at h
    rw [List.getElem?_set] at h
    by_cases z : v = i
    · rw [if_pos z] at h
      split at h <;> cases h
    · rw [if_neg z] at h
      obtain ⟨h1, h2⟩ := wipeE_some h
      exact ⟨h1, by simp only [List.mem_cons, not_or]; exact ⟨fun e => z e.symm, h2⟩⟩
/-- the owners of wiped slots go to hidden places -/
def shf (O : Own) (vs : List Nat) (L : Nat) : Own := ⟨fun j => if j < L then (if j ∈ vs then none else O j) else if j = L then none else if (j - L - 1) ∈ vs ∨ L ≤ j - L - 1 then O (j - L - 1) else none, O.ks⟩
theorem shf_at {O : Own} {vs : List Nat} {L j : Nat} {a : Addr} (h : shf O vs L j = some a) : ∃ i, O i = some a ∧ ((j < L ∧ j = i ∧ i ∉ vs) ∨ (L < j ∧ i = j - L - 1 ∧ (i ∈ vs ∨ L ≤ i))) := by
  unfold shf at h
  dsimp only at h
  split at h
  · split at h
    · cases h
    · rename_i h1 h2; exact ⟨j, h, .inl ⟨h1, rfl, h2⟩⟩
  · split at h
    · cases h
    · split at h
      · rename_i h1 h2 h3; exact ⟨j - L - 1, h, .inr ⟨by omega, rfl, h3⟩⟩
      · cases h
theorem shf_has {O : Own} {vs : List Nat} {L i : Nat} {a : Addr} (h : O i = some a) : ∃ j, shf O vs L j = some a := by
  by_cases h1 : i < L ∧ i ∉ vs
  · exact ⟨i, (if_pos h1.1).trans ((if_neg h1.2).trans h)⟩
  · refine ⟨i + L + 1, (if_neg (by omega)).trans ((if_neg (by omega)).trans ?_)⟩
    rw [show i + L + 1 - L - 1 = i by omega]
    refine (if_pos ?_).trans h
    by_cases z : i ∈ vs
    · exact .inl z
    · exact .inr (by
        have : ¬ i < L := fun y => h1 ⟨y, z⟩
        omega)
theorem shf_L {O : Own} {vs : List Nat} {L : Nat} : shf O vs L L = none := (if_neg (by omega)).trans (if_pos rfl)
theorem shf_nn {p : Par} {O : Own} {vs : List Nat} {L : Nat} {a : Addr} : NN p (shf O vs L) a ↔ NN p O a :=
  ⟨fun n => ⟨n.1, n.2.1, fun i z => let ⟨j, h⟩ := shf_has (vs := vs) (L := L) z; n.2.2 j h⟩, fun n => ⟨n.1, n.2.1, fun j z => let ⟨i, h, _⟩ := shf_at z; n.2.2 i h⟩⟩
theorem Rel.wipe {p : Par} {O : Own} {ρ : Env'} {σ : L2.St} {H : Hp} {vs : List Nat} {L : Nat} (R : Rel p O ρ σ H) (hl : ρ.length ≤ L) : Rel p (shf O vs L) (wipeE ρ vs) (L2.wipe σ vs) H := by
  have kk : Keeps2 (NN p O) (NN p (shf O vs L)) H H := ⟨fun a n _ => shf_nn.mpr n, fun _ _ _ e _ => e, fun _ _ e => e, fun _ _ _ e => e⟩
  refine ⟨R.wd, R.ext, by rw [wipe_length, wipeE_len]; exact R.len, fun i w hw => ?_, fun i j a hi hj => ?_, fun x hx => RepI.keep kk x (R.keep x hx), fun i a h => ?_⟩
  · obtain ⟨h1, h2⟩ := wipeE_some hw
    have hi : i < ρ.length := (List.getElem?_eq_some_iff.mp h1).1
    have h := R.slot i w h1
    have e : (L2.wipe σ vs)[i]? = σ[i]? := by rw [GX.wipe_get, if_neg h2]
    rw [e]
    cases w with
    | d x => obtain ⟨v, e1, e2⟩ := h; exact ⟨v, e1, RepV.keep kk x v e2⟩
    | own x =>
      obtain ⟨b, e1, e2, e3⟩ := h
      exact ⟨b, (if_pos (by omega)).trans ((if_neg h2).trans e1), e2, RepO.keep kk rfl e3⟩
    | row => exact h
  · obtain ⟨i', h1, h2⟩ := shf_at hi
    obtain ⟨j', h3, h4⟩ := shf_at hj
    have e := R.inj i' j' a h1 h3
    subst e
    rcases h2 with ⟨a1, a2, a3⟩ | ⟨a1, a2, a3⟩ <;> rcases h4 with ⟨b1, b2, b3⟩ | ⟨b1, b2, b3⟩
    · omega
    · rcases b3 with b3 | b3
      · exact absurd b3 a3
      · omega
    · rcases a3 with a3 | a3
      · exact absurd a3 b3
      · omega
    · omega
  · obtain ⟨i', h1, _⟩ := shf_at h
    exact R.own i' a h1
/-- no error is let out -/
abbrev Par.nox (p : Par) : Par := { p with E := fun _ _ _ => False }
theorem Wd.nox {p : Par} {H : Hp} (h : Wd p H) : Wd p.nox H := ⟨h.dj, h.g, h.t, h.row⟩
theorem Wd.unnox {p : Par} {H : Hp} (h : Wd p.nox H) : Wd p H := ⟨h.dj, h.g, h.t, h.row⟩
theorem Ext.nox {p : Par} {H H' : Hp} (h : Ext p H H') : Ext p.nox H H' := ⟨h.ob, h.dom, h.wd.nox⟩
theorem Ext.unnox {p : Par} {H H' : Hp} (h : Ext p.nox H H') : Ext p H H' := ⟨h.ob, h.dom, h.wd.unnox⟩
theorem Rel.nox {p : Par} {O : Own} {ρ : Env'} {σ : L2.St} {H : Hp} (R : Rel p O ρ σ H) : Rel p.nox O ρ σ H :=
  ⟨R.wd.nox, R.ext.nox, R.len, fun i w hw => by
    have h := R.slot i w hw
    cases w <;> exact h, R.inj, R.keep, R.own⟩
theorem Rel.unnox {p : Par} {O : Own} {ρ : Env'} {σ : L2.St} {H : Hp} (R : Rel p.nox O ρ σ H) : Rel p O ρ σ H :=
  ⟨R.wd.unnox, R.ext.unnox, R.len, fun i w hw => by
    have h := R.slot i w hw
    cases w <;> exact h, R.inj, R.keep, R.own⟩
def noX : EXn := fun _ => False
theorem exok_no {p : Par} : ExOk p noX := fun _ _ _ _ h _ _ => h.elim
/-- writing to an own object at a hidden place -/
theorem Rel.writeH {p : Par} {O : Own} {ρ : Env'} {σ : L2.St} {H : Hp} {L : Nat} {a : Addr} {o : HO} (R : Rel p O ρ σ H) (ha : O L = some a) (hl : ρ.length ≤ L) (so : Soft (some o)) : Rel p O ρ σ (upd H a o) := by
  obtain ⟨h0, nr, hs, hne, sf⟩ := R.own L a ha
  have kk : Keeps2 (NN p O) (NN p O) H (upd H a o) := by
    refine ⟨fun _ n _ => n, fun b ob n e _ => ?_, fun b xs e => ?_, fun b ob xs e => ?_⟩
    · rw [upd_ne (fun z => n.2.2 L (by rw [z]; exact ha))]; exact e
    · rw [upd_ne (fun z => by rw [← z, e] at sf; exact sf)]; exact e
    · rw [upd_ne (fun z => by rw [← z, e] at sf; exact sf)]; exact e
  refine ⟨R.wd.upd sf nr (.inr hs), ⟨fun b ob e n m => ?_, fun b e => ?_, R.wd.upd sf nr (.inr hs)⟩, R.len, fun j w hw => ?_, R.inj, fun x hx => RepI.keep kk x (R.keep x hx), fun j b hj => ?_⟩
  · rw [upd_ne (fun z => by rw [z, h0] at e; cases e)]
    exact R.ext.ob b ob e n m
  · by_cases z : b = a
    · rw [z]; unfold L2.upd; rw [if_pos rfl]; simp
    · rw [upd_ne z]; exact R.ext.dom b e
  · have hj : j < ρ.length := (List.getElem?_eq_some_iff.mp hw).1
    have h := R.slot j w hw
    cases w with
    | d x => obtain ⟨v, e1, e2⟩ := h; exact ⟨v, e1, RepV.keep kk x v e2⟩
    | own x =>
      obtain ⟨b, e1, e2, e3⟩ := h
      refine ⟨b, e1, e2, RepO.keep kk (upd_ne fun q => ?_) e3⟩
      rw [q] at e1
      have := R.inj L j a ha e1
      omega
    | row => exact h
  · obtain ⟨q1, q2, q3, q4, q5⟩ := R.own j b hj
    by_cases z : b = a
    · rw [z] at q1 q2 q3 ⊢
      exact ⟨q1, q2, q3, by unfold L2.upd; rw [if_pos rfl]; simp, by unfold L2.upd; rw [if_pos rfl]; exact so⟩
    · rw [upd_ne z]; exact ⟨q1, q2, q3, q4, q5⟩
theorem Ext.updF {p : Par} {H H1 : Hp} {a : Addr} {o : HO} (e : Ext p H H1) (ha : H a = Option.none) (w : Wd p (upd H1 a o)) : Ext p H (upd H1 a o) :=
  ⟨fun b ob hb n m => by rw [upd_ne (ne_of_none hb ha)]; exact e.ob b ob hb n m, fun b hb => by
    by_cases z : b = a
    · rw [z]; unfold L2.upd; rw [if_pos rfl]; simp
    · rw [upd_ne z]; exact e.dom b hb, w⟩
/-- what the block's target has left -/
theorem wipe_back {σ σ' : L2.St} {vs ix : List Nat} (hix : ∀ i ∈ ix, i ∈ vs) (hl : σ'.length = σ.length) (h : ∀ j, j ∉ ix → σ'[j]? = σ[j]?) : L2.wipe σ' vs = L2.wipe σ vs := by
  apply List.ext_getElem?
  intro j
  rw [GX.wipe_get, GX.wipe_get]
  by_cases z : j ∈ vs
  · rw [if_pos z, if_pos z]
    by_cases hj : j < σ.length
    · rw [List.getElem?_eq_getElem hj, List.getElem?_eq_getElem (by omega)]
      rfl
    · rw [List.getElem?_eq_none (by omega), List.getElem?_eq_none (by omega)]
  · rw [if_neg z, if_neg z]
    exact h j fun y => z (hix j y)
theorem big (n : Nat) : ∀ vs : List Nat, ∃ L, n ≤ L ∧ ∀ i ∈ vs, i < L
  | [] => ⟨n, Nat.le_refl _, fun i h => by cases h⟩
  | v :: vs => by
    obtain ⟨L, h1, h2⟩ := big n vs
    refine ⟨L + v + 1, by omega, fun i h => ?_⟩
    rcases List.mem_cons.mp h with rfl | h
    · omega
    · have := h2 i h
      omega
/-! ### list comprehensions -/
structure DTs (p : Par) (X : Cx) (es : List Expr) (w : WT) : Prop where
  pts : PTs X es (LT (p.at X.K) w)
  mono : MonoT w
def wYes : WT := fun _ Q _ => Q true
section
variable {p : Par} {X : Cx} {pos : Pos} {tg e a b c elt iter : Expr} {es ifs : List Expr} {st : Stmt} {sts : List Stmt}
theorem dts_nil : DTs p X [] wYes := ⟨pts_use pts_nil fun σ H Q hk ⟨ρ, O, EX, R, ex, hw⟩ => fun hk' => hw H hk' (Ext.refl R.wd), fun _ _ _ _ h q => h _ q⟩
theorem dts_one {w : WT} (h : DT p X c w) : DTs p X [c] w := ⟨pts_one h.pt, h.mono⟩
def wComp (g : WG) (t : WT) (we : WE) (ρ : Env') : List D → List D → (D → Prop) → Prop
  | [], acc, Q => Q (.list acc)
  | d :: ds, acc, Q => g d ρ fun ρ2 => t ρ2 (fun k => if k = true then we ρ2 (fun y => acc.length < sizeLine ∧ wComp g t we ρ ds (acc ++ [y]) Q) noX else wComp g t we ρ ds acc Q) noX
theorem mono_comp {g : WG} {t : WT} {we : WE} (hg : MonoG g) (ht : MonoT t) (he : MonoE we) {ρ : Env'} : ∀ (ds acc : List D), M0 (wComp g t we ρ ds acc)
  | [], acc => fun Q Q' h q => h _ q
  | d :: ds, acc => fun Q Q' h q => hg _ _ _ _ (fun ρ2 q => ht _ _ _ _ (fun k q => by
    by_cases z : k = true
    · rw [if_pos z] at q ⊢
      exact he _ _ _ _ (fun y q => ⟨q.1, mono_comp hg ht he ds _ Q Q' h q.2⟩) q
    · rw [if_neg z] at q ⊢
      exact mono_comp hg ht he ds acc Q Q' h q) q) q
def wLc (wi : WI) (g : WG) (t : WT) (we : WE) (vs : List Nat) : WE := fun ρ Q EX => wi ρ (fun ds => wComp g t we (wipeE ρ vs) ds [] Q) EX
/-- the parts of a comprehension -/
structure LParts (p : Par) (X : Cx) (elt tg iter : Expr) (ifs : List Expr) (scope : Scope) (own : List (Str × Nat)) (wi : WI) (g : WG) (t : WT) (we : WE) : Prop where
  hc : X.calm = true
  hN : X.N.Nodup
  hi : DI true p X tg iter wi
  ok : BlkOk X.N X.env.scope scope own
  hg : ∃ ix : List Nat, (∀ i ∈ ix, i ∈ own.map (·.2)) ∧ ∀ (s : Shared) (H : Hp) (C : Addr) (cl : List (Str × Addr)) (fp : List Addr), DG p.nox (X.blk s H scope (compEnvC scope cl C X.env) fp) tg ix g
  ht : ∀ (s : Shared) (H : Hp) (C : Addr) (cl : List (Str × Addr)) (fp : List Addr), DTs p.nox (X.blk s H scope (compEnvC scope cl C X.env) fp) ifs t
  he : ∀ (s : Shared) (H : Hp) (C : Addr) (cl : List (Str × Addr)) (fp : List Addr), DE p.nox (X.blk s H scope (compEnvC scope cl C X.env) fp) elt we
  hs : ∀ x, foldedSetIterable iter X.env x = pure x
theorem lc_run {scope : Scope} {own : List (Str × Nat)} {wi : WI} {g : WG} {t : WT} {we : WE} (P : LParts p X elt tg iter ifs scope own wi g t we) {ix : List Nat} (hix : ∀ i ∈ ix, i ∈ own.map (·.2)) (hg : MonoG g) {σ : L2.St} {H : Hp} {O : Own} {ρ : Env'} {EX : EXn} {Q : VK} (R : Rel (p.at X.K) O ρ σ H) (ex : ExOk (p.at X.K) EX)
    (hw : wLc wi g t we (own.map (·.2)) ρ (RF (p.at X.K) O H Q) EX) :
    tLc (LI true (p.at X.K) wi) (LG (p.at X.K).nox ix g) (LT (p.at X.K).nox t) (LE (p.at X.K).nox we) (own.map (·.2)) σ H (fun v H' => Hk X.K H' → Q v H') := by
  have mt := (P.ht X.s_0 X.H_0 0 [] []).mono
  have me := (P.he X.s_0 X.H_0 0 [] []).mono
  generalize hvs : own.map (·.2) = vs at hw hix ⊢
  refine ⟨ρ, O, EX, R, ex, P.hi.mono _ _ _ _ (fun ds q J H1 ks hk1 e1 hks it Dd hD => ?_) hw⟩
  obtain ⟨L, hLl, hLv⟩ := big ρ.length vs
  have R1 := (R.ext' e1).wipe (vs := vs) (L := L) hLl
  have lw : (wipeE ρ vs).length ≤ L := by rw [wipeE_len]; exact hLl
  have ls : (L2.wipe σ vs).length ≤ L := by rw [wipe_length, R.len]; exact hLl
  have e2 : Ext (p.at X.K) H1 (upd H1 Dd (.lst [])) := Ext.new R1.wd hD
  have R2 := R1.set_own (i := L) (d := .list []) e2 hD ⟨[], by unfold L2.upd; rw [if_pos rfl], rall_nil⟩
  rw [set_out lw, set_out ls] at R2
  generalize hO1 : put (shf O vs L) L Dd = O1 at R2
  have hL : O1 L = some Dd := by rw [← hO1]; exact if_pos rfl
  have nn1 : ∀ b, NN (p.at X.K) O1 b → NN (p.at X.K) O b ∧ b ≠ Dd := fun b n => by
    rw [← hO1] at n
    refine ⟨(shf_nn (vs := vs) (L := L)).mp ⟨n.1, n.2.1, fun j z => ?_⟩, fun z => n.2.2 L (by rw [z]; exact if_pos rfl)⟩
    by_cases y : j = L
    · rw [y, shf_L] at z; cases z
    · exact n.2.2 j ((if_neg y).trans z)
  have nn2 : ∀ b, NN (p.at X.K) O b → b ≠ Dd → NN (p.at X.K) O1 b := fun b n nb => by
    rw [← hO1]
    refine ⟨n.1, n.2.1, fun j z => ?_⟩
    unfold put at z
    dsimp only at z
    split at z
    · cases z; exact nb rfl
    · exact ((shf_nn (vs := vs) (L := L)).mpr n).2.2 j z
  have none_at : ∀ j ∈ vs, O1 j = none := fun j hj => by
    have h1 := hLv j hj
    rw [← hO1]
    exact (if_neg (by omega)).trans ((if_pos h1).trans (if_pos hj))
  have e02 : Ext (p.at X.K) H1 (upd H1 Dd (.lst [])) := e2
  refine ⟨fun i m Hc => m = ds.length - i ∧ i ≤ ds.length ∧ Ext (p.at X.K) H1 Hc ∧ ∃ acc us, Hc Dd = some (.lst us) ∧ RepAll X.K (NN (p.at X.K) O1) Hc us acc ∧ Rel (p.at X.K) O1 (wipeE ρ vs) (L2.wipe σ vs) Hc ∧ wComp g t we (wipeE ρ vs) (ds.drop i) acc (RF (p.at X.K) O H Q),
    ⟨ds.length, rfl, Nat.zero_le _, e02, [], [], by unfold L2.upd; rw [if_pos rfl], rall_nil, R2, q⟩, ?_⟩
  rintro i m Hc ⟨rfl, hi', ec, acc, us, hD2, r2, Rc, q2⟩
  have held : ∀ x ∈ ks, RepBI (p.at X.K) O1 Hc x := fun x hx => by
    have h0 : RepBI (p.at X.K) O H1 x := holdI_b (hks x hx)
    have kk : Keeps2 (NN (p.at X.K) O) (NN (p.at X.K) O1) H1 Hc := Keeps2.of_ext ec R1.wd (fun _ n => n.2.1) fun b n hb => nn2 b n fun z => hb (by rw [z]; exact hD)
    cases x with
    | f a u => exact RepBI.ext (p := p.at X.K) (O := O) (x := .f a u) R1.wd ec h0
    | d xv dd =>
      have h1 : RepB (p.at X.K) O H1 xv dd := h0
      show RepB (p.at X.K) O1 Hc xv dd
      rcases h1 with h1 | ⟨a, e, na, h1⟩
      · exact .inl (RepV.keep kk dd xv h1)
      · refine .inr ⟨a, e, na, RepO.keep kk ?_ h1⟩
        revert h1
        intro h1
        cases dd with
        | list ds => obtain ⟨vs, h1, _⟩ := h1; rw [h1]; exact ec.ob a _ h1 (fun ps z => by cases z) na
        | dict kvs => obtain ⟨o, es, h1, _⟩ := h1; rw [h1.at_]; exact ec.ob a _ h1.at_ (fun ps z => by cases z) na
        | _ => exact h1.elim
  obtain ⟨t1, t2⟩ := it O1 Hc i Rc.ok0 held
  cases hd : ds[i]? with
  | none =>
    have hle : ds.length ≤ i := List.getElem?_eq_none_iff.mp hd
    rw [List.drop_eq_nil_of_le hle] at q2
    refine .inl ⟨t1 hle, fun hk3 => ?_⟩
    have q3 : RF (p.at X.K) O H Q (.list acc) := q2
    exact q3 Dd Hc hk3 (e1.trans ec) (e1.none hD) ⟨us, hD2, RepAll.keep ⟨fun b n _ => nn1 b n, fun _ _ _ e _ => e, fun _ _ e => e, fun _ _ _ e => e⟩ acc us r2⟩
  | some d =>
    have hlt : i < ds.length := (List.getElem?_eq_some_iff.mp hd).1
    obtain ⟨go, yl⟩ := t2 d hd
    have hdrop : ds.drop i = d :: ds.drop (i + 1) := by
      rw [List.drop_eq_getElem_cons hlt]
      congr 1
      have := List.getElem?_eq_getElem hlt
      rw [hd] at this
      exact (Option.some.inj this).symm
    rw [hdrop] at q2
    refine .inr ⟨go, fun Hn => Ext (p.at X.K) H1 Hn ∧ ∃ acc us, Hn Dd = some (.lst us) ∧ RepAll X.K (NN (p.at X.K) O1) Hn us acc ∧ Rel (p.at X.K) O1 (wipeE ρ vs) (L2.wipe σ vs) Hn ∧ wComp g t we (wipeE ρ vs) (ds.drop (i + 1)) acc (RF (p.at X.K) O H Q),
      fun H' st => ⟨ds.length - (i + 1), by omega, rfl, hlt, st⟩, fun x H3 y => ?_⟩
    obtain ⟨e3, r3⟩ := yl x H3 y
    refine ⟨wipeE ρ vs, O1, d, (Rc.ext' e3).nox, r3, hg _ _ _ _ (fun ρ3 q3 O3 σ3 k3 n3 s3 l3 R3 => ?_) q2⟩
    refine ⟨(wipe_back hix l3 s3).trans (GX.wipe_wipe σ vs), ρ3, O3, noX, R3, exok_no, mt _ _ _ _ (fun k q4 H4 hk4 e4 => ?_) q3⟩
    have e34 : Ext (p.at X.K) Hc H4 := e3.trans e4.unnox
    have keepD : ∀ {H' : Hp}, Ext (p.at X.K) Hc H' → H' Dd = some (.lst us) := fun {H'} e => e.ob Dd _ hD2 (fun ps z => by cases z) (Rc.own L Dd hL).2.1
    by_cases z : k = true
    · dsimp only
      rw [if_pos z] at q4 ⊢
      refine ⟨ρ3, O3, noX, R3.ext' e4, exok_no, me _ _ _ _ (fun y q5 v H5 hk5 e5 r5 => ?_) q4⟩
      have e35 : Ext (p.at X.K) Hc H5 := e34.trans e5.unnox
      refine ⟨us, keepD e35, by rw [r2.length]; exact q5.1, ?_⟩
      have R5 := Rc.ext' e35
      have R6 := R5.writeH (o := .lst (us ++ [v])) hL lw trivial
      refine ⟨(ec.trans e35).updF hD R6.wd, acc ++ [y], us ++ [v], by unfold L2.upd; rw [if_pos rfl], ?_, R6, q5.2⟩
      have rv : RepV X.K (NN (p.at X.K) O1) H5 v y := by
        -- the target's slots own nothing
        have nn3 : ∀ b, NN (p.at X.K).nox O3 b → NN (p.at X.K) O1 b := fun b n => ⟨n.1, n.2.1, fun j zz => by
          rcases n3 j with e | ⟨hj, _⟩
          · exact n.2.2 j (e.trans zz)
          · have hjv := hix j hj
            rw [none_at j hjv] at zz
            cases zz⟩
        exact RepV.keep ⟨fun b n _ => nn3 b n, fun _ _ _ e _ => e, fun _ _ e => e, fun _ _ _ e => e⟩ y v r5
      have kk : Keeps2 (NN (p.at X.K) O1) (NN (p.at X.K) O1) H5 (upd H5 Dd (.lst (us ++ [v]))) := by
        refine ⟨fun _ n _ => n, fun b ob n e _ => ?_, fun b xs e => ?_, fun b ob xs e => ?_⟩
        · rw [upd_ne (nn1 b n).2]; exact e
        · rw [upd_ne (fun zz => by rw [zz, keepD e35] at e; cases e)]; exact e
        · rw [upd_ne (fun zz => by rw [zz, keepD e35] at e; cases e)]; exact e
      exact RepAll.keep kk _ _ ((r2.ext e35 Rc.wd).append (rall_cons rv rall_nil))
    · dsimp only
      rw [if_neg z] at q4 ⊢
      exact ⟨ec.trans e34, acc, us, keepD e34, r2.ext e34 Rc.wd, Rc.ext' e34, q4⟩
theorem mono_Lc {wi : WI} {g : WG} {t : WT} {we : WE} {vs : List Nat} (hi : MonoA wi) (hg : MonoG g) (ht : MonoT t) (he : MonoE we) : MonoE (wLc wi g t we vs) := fun ρ Q Q' EX h q => hi _ _ _ _ (fun ds q => mono_comp hg ht he ds [] Q Q' h q) q
theorem df_lc {scope : Scope} {own : List (Str × Nat)} {wi : WI} {g : WG} {t : WT} {we : WE} (P : LParts p X elt tg iter ifs scope own wi g t we) : DF p X (.ListComp elt [⟨tg, iter, ifs, 0⟩] scope pos) (wLc wi g t we (own.map (·.2))) := by
  obtain ⟨ix, hix, hg⟩ := P.hg
  have mg := (hg X.s_0 X.H_0 0 [] []).mono
  refine ⟨pe_use (pe_lc P.hc P.hN P.hi.pi P.ok (fun s H C cl fp => (hg s H C cl fp).pg) (fun s H C cl fp => (P.ht s H C cl fp).pts) (fun s H C cl fp => (P.he s H C cl fp).pe) P.hs) fun σ H Q hk ⟨ρ, O, EX, R, ex, hw⟩ => lc_run P hix mg R ex hw, ?_⟩
  exact mono_Lc P.hi.mono mg (P.ht X.s_0 X.H_0 0 [] []).mono (P.he X.s_0 X.H_0 0 [] []).mono
/-- name = [..] on one line -/
theorem ds_setLcO (i : Nat) {y : Str} {py spos : Pos} {scope : Scope} {own : List (Str × Nat)} {wi : WI} {g : WG} {t : WT} {we : WE} (P : LParts p X elt tg iter ifs scope own wi g t we)
    (hsw : swapsWith (.ListComp elt [⟨tg, iter, ifs, 0⟩] scope pos) (some (.Name y py)) spos.line X.env = pure true) (hy : X.N[i]? = some y := by rfl) (hyl : X.env.scope.names.lookup y = some .local := by rfl) :
    DS p X (.Assign [.Name y py] (.ListComp elt [⟨tg, iter, ifs, 0⟩] scope pos) spos) (wSetO i (wLc wi g t we (own.map (·.2)))) := by
  obtain ⟨ix, hix, hg⟩ := P.hg
  have mg := (hg X.s_0 X.H_0 0 [] []).mono
  refine ⟨ps_use (ps_setLc (g := LG (p.at X.K).nox ix g) (tt := LT (p.at X.K).nox t) (te := LE (p.at X.K).nox we) P.hc P.hN hy hyl hsw P.hi.pi P.ok (fun s H C cl fp => (hg s H C cl fp).pg) (fun s H C cl fp => (P.ht s H C cl fp).pts) (fun s H C cl fp => (P.he s H C cl fp).pe) P.hs) fun D σ H hk ⟨ρ, O, EX, R, ex, hw⟩ => ?_,
    mono_SetO (mono_Lc P.hi.mono mg (P.ht X.s_0 X.H_0 0 [] []).mono (P.he X.s_0 X.H_0 0 [] []).mono)⟩
  exact lc_run (Q := fun x H1 => D.nx (σ.set i (some x)) H1) P hix mg R ex (mono_Lc P.hi.mono mg (P.ht X.s_0 X.H_0 0 [] []).mono (P.he X.s_0 X.H_0 0 [] []).mono _ _ _ _ (fun d q a H1 hk1 e1 n r1 => q (put O i a) _ H1 rfl hk1 (R.set_own e1 n r1)) hw)
theorem ds_setLc (i : Nat) {y : Str} {py spos : Pos} {scope : Scope} {own : List (Str × Nat)} {wi : WI} {g : WG} {t : WT} {we : WE} (P : LParts p X elt tg iter ifs scope own wi g t we)
    (hsw : swapsWith (.ListComp elt [⟨tg, iter, ifs, 0⟩] scope pos) (some (.Name y py)) spos.line X.env = pure true) (hy : X.N[i]? = some y := by rfl) (hyl : X.env.scope.names.lookup y = some .local := by rfl) :
    DS p X (.Assign [.Name y py] (.ListComp elt [⟨tg, iter, ifs, 0⟩] scope pos) spos) (wSet i (wLc wi g t we (own.map (·.2)))) := by
  obtain ⟨ix, hix, hg⟩ := P.hg
  have mg := (hg X.s_0 X.H_0 0 [] []).mono
  refine ⟨ps_use (ps_setLc (g := LG (p.at X.K).nox ix g) (tt := LT (p.at X.K).nox t) (te := LE (p.at X.K).nox we) P.hc P.hN hy hyl hsw P.hi.pi P.ok (fun s H C cl fp => (hg s H C cl fp).pg) (fun s H C cl fp => (P.ht s H C cl fp).pts) (fun s H C cl fp => (P.he s H C cl fp).pe) P.hs) fun D σ H hk ⟨ρ, O, EX, R, ex, hw⟩ => ?_,
    mono_Set (mono_Lc P.hi.mono mg (P.ht X.s_0 X.H_0 0 [] []).mono (P.he X.s_0 X.H_0 0 [] []).mono)⟩
  exact lc_run (Q := fun x H1 => D.nx (σ.set i (some x)) H1) P hix mg R ex (mono_Lc P.hi.mono mg (P.ht X.s_0 X.H_0 0 [] []).mono (P.he X.s_0 X.H_0 0 [] []).mono _ _ _ _ (fun d q => RE.f (R.ok hk) fun v H1 hk1 e1 r1 => q (clr O i) _ H1 rfl hk1 ((R.ext' e1).set_d r1)) hw)
end
end DD
set_option maxRecDepth 100000
set_option maxHeartbeats 2000000
/-! SemK: all, any, sum, tuple of generator expressions. -/
namespace DD
open PySem PySem.Spec PyProof.Rows L2 GenW
section
variable {p : Par} {X : Cx} {pos : Pos} {tg e a b c elt iter : Expr} {es ifs : List Expr}
/-- a walk with a consumer's state -/
def wFold {β : Type} (g : WG) (t : WT) (we : WE) (C : β → D → (β → Prop) → Prop) (fin : β → Prop) (ρ : Env') : List D → β → Prop
  | [], s => fin s
  | d :: ds, s => g d ρ fun ρ2 => t ρ2 (fun k => if k = true then we ρ2 (fun y => C s y (wFold g t we C fin ρ ds)) noX else wFold g t we C fin ρ ds s) noX
theorem mono_fold {β : Type} {g : WG} {t : WT} {we : WE} {C C' : β → D → (β → Prop) → Prop} {fin fin' : β → Prop} (hg : MonoG g) (ht : MonoT t) (he : MonoE we) (hC : ∀ s d P P', (∀ s, P s → P' s) → C s d P → C' s d P') (hf : ∀ s, fin s → fin' s) {ρ : Env'} : ∀ (ds : List D) (s : β), wFold g t we C fin ρ ds s → wFold g t we C' fin' ρ ds s
  | [], s, q => hf s q
  | d :: ds, s, q => hg _ _ _ _ (fun ρ2 q => ht _ _ _ _ (fun k q => by
    by_cases z : k = true
    · rw [if_pos z] at q ⊢
      exact he _ _ _ _ (fun y q => hC _ _ _ _ (fun s q => mono_fold hg ht he hC hf ds s q) q) q
    · rw [if_neg z] at q ⊢
      exact mono_fold hg ht he hC hf ds s q) q) q
/-- the parts of a generator expression -/
structure GpD (p : Par) (X : Cx) (k : Nat) (elt tg iter : Expr) (ifs : List Expr) (scope : Scope) (own : List (Str × Nat)) (c P : Addr) (wi : WI) (g : WG) (t : WT) (we : WE) : Prop where
  hr : Room (k + 2) X.A
  TB : GxR.TabB X.base X.mg c P
  hP : P ∈ p.G
  hcode : X.env.code = .ref c
  hN : X.N.Nodup
  hc : X.calm = true
  hi : DI true p X tg iter wi
  ok : BlkOk X.N X.env.scope scope own
  gk : GX.GOk scope
  hg : ∃ ix : List Nat, (∀ i ∈ ix, i ∈ own.map (·.2)) ∧ ∀ (A : Around) (s : Shared) (H : Hp) (C : Addr) (code : Value) (fp : List Addr) (pn : List (Addr × Obj)), Room k A → DG p.nox (GX.gcx X A s H (GX.genv X scope C code) fp pn) tg ix g
  ht : ∀ (A : Around) (s : Shared) (H : Hp) (C : Addr) (code : Value) (fp : List Addr) (pn : List (Addr × Obj)), Room k A → DTs p.nox (GX.gcx X A s H (GX.genv X scope C code) fp pn) ifs t
  he : ∀ (A : Around) (s : Shared) (H : Hp) (C : Addr) (code : Value) (fp : List Addr) (pn : List (Addr × Obj)), Room k A → DE p.nox (GX.gcx X A s H (GX.genv X scope C code) fp pn) elt we
  hs : ∀ v, genFold iter X.env v = pure v
theorem tabbed_ext {p : Par} {H H2 : Hp} {P : Addr} (w : Wd p H) (hP : P ∈ p.G) (h : GxR.Tabbed P H H2) : Ext p H H2 := by
  obtain ⟨⟨ps2, e2, q2⟩, hb⟩ := h
  obtain ⟨ps, e, q⟩ := w.g P hP
  have ob : ∀ b o, H b = some o → (∀ ps, o ≠ .tbl ps) → b ≠ p.r → H2 b = some o := fun b o hbo n _ => by
    rw [hb b (fun z => by rw [z, e] at hbo; cases hbo; exact n _ rfl)]
    exact hbo
  have nr : p.r ≠ P := fun z => by
    obtain ⟨xs, hr⟩ := w.r_some
    rw [z, e] at hr; cases hr
  refine ⟨ob, fun b hn => ?_, w.dj, fun P' hP' => ?_, fun q hq => ?_, ?_⟩
  · by_cases z : b = P
    · rw [z, e2]; simp
    · rw [hb b z]; exact hn
  · by_cases z : P' = P
    · rw [z]; exact ⟨ps2, e2, q2⟩
    · obtain ⟨ps', e', q'⟩ := w.g P' hP'
      exact ⟨ps', by rw [hb P' z]; exact e', q'⟩
  · obtain ⟨ps', e', q', q3⟩ := w.t q hq
    refine ⟨ps', by rw [hb q.1 (w.dj P hP q hq)]; exact e', q', fun pos cv hc => ?_⟩
    obtain ⟨c, e1, e2'⟩ := q3 pos cv hc
    refine ⟨c, e1, ?_⟩
    rw [hb c (fun z => by rw [z, e] at e2'; cases e2')]
    exact e2'
  · obtain ⟨⟨i, s, c, e', q'⟩, hs⟩ := w.row
    refine ⟨⟨i, s, c, by rw [hb p.r nr]; exact e', q'⟩, ?_⟩
    rcases hs with (hs | ⟨o, hs⟩) | hs
    · exact .inl (.inl (by rw [hb p.scr (fun z => by rw [z, e] at hs; cases hs)]; exact hs))
    · exact .inl (.inr ⟨o, by rw [hb p.scr (fun z => by rw [z, e] at hs; cases hs)]; exact hs⟩)
    · exact .inr hs
theorem gx_run {α β : Type} {k : Nat} {scope : Scope} {own : List (Str × Nat)} {c P : Addr} {wi : WI} {g : WG} {t : WT} {we : WE} (G : GpD p X k elt tg iter ifs scope own c P wi g t we) {ix : List Nat} (hix : ∀ i ∈ ix, i ∈ own.map (·.2)) (hg : MonoG g) (mt : MonoT t) (me : MonoE we)
    {C : β → D → (β → Prop) → Prop} {fin : β → Prop} {C' : α → V → Hp → (α → Hp → Prop) → Prop} {fin' : α → Hp → Prop} {a0 : α} {b0 : β} {σ : L2.St} {H : Hp} {O : Own} {ρ : Env'} {EX : EXn} (R : Rel (p.at X.K) O ρ σ H) (ex : ExOk (p.at X.K) EX)
    (Rb : β → α → Hp → Prop) (h0 : ∀ H, Rb b0 a0 H) (hext : ∀ s a H1 H2, Wd (p.at X.K) H1 → Ext (p.at X.K) H1 H2 → Rb s a H1 → Rb s a H2)
    (hC : ∀ s a H' v y Nx (N : β → Prop), Hk X.K H' → Ext (p.at X.K) H H' → Rb s a H' → RepV X.K (NN (p.at X.K) O) H' v y → C s y N → (∀ s' a', Rb s' a' H' → N s' → Nx a' H') → C' a v H' Nx)
    (hf : ∀ s a H', Ext (p.at X.K) H H' → Rb s a H' → fin s → fin' a H')
    (hw : wi ρ (fun ds => wFold g t we C fin (wipeE ρ (own.map (·.2))) ds b0) EX) :
    GX.tGx P (LI true (p.at X.K) wi) (LG (p.at X.K).nox ix g) (LT (p.at X.K).nox t) (LE (p.at X.K).nox we) (own.map (·.2)) a0 C' fin' σ H := by
  generalize hvs : own.map (·.2) = vs at hw hix ⊢
  refine ⟨ρ, O, EX, R, ex, G.hi.mono _ _ _ _ (fun ds q J H1 ks hk1 e1 hks it => ?_) hw⟩
  obtain ⟨L, hLl, hLv⟩ := big ρ.length vs
  refine ⟨e1.wd.g P G.hP, fun H2 tab => ?_⟩
  have e2 : Ext (p.at X.K) H1 H2 := tabbed_ext e1.wd G.hP tab
  have R1 := ((R.ext' e1).ext' e2).wipe (vs := vs) (L := L) hLl
  have nn : ∀ b, NN (p.at X.K) (shf O vs L) b ↔ NN (p.at X.K) O b := fun b => shf_nn
  have none_at : ∀ j ∈ vs, shf O vs L j = none := fun j hj => (if_pos (hLv j hj)).trans (if_pos hj)
  refine ⟨fun i m s Hc => m = ds.length - i ∧ i ≤ ds.length ∧ Ext (p.at X.K) H1 Hc ∧ ∃ s', Rb s' s Hc ∧ Rel (p.at X.K) (shf O vs L) (wipeE ρ vs) (L2.wipe σ vs) Hc ∧ wFold g t we C fin (wipeE ρ vs) (ds.drop i) s',
    ⟨ds.length, rfl, Nat.zero_le _, e2, b0, h0 _, R1, q⟩, ?_⟩
  rintro i m s Hc ⟨rfl, hi', ec, s', rb, Rc, q2⟩
  have held : ∀ x ∈ ks, RepBI (p.at X.K) (shf O vs L) Hc x := fun x hx => by
    have h0 : RepBI (p.at X.K) O Hc x := RepBI.ext (p := p.at X.K) e1.wd ec (holdI_b (hks x hx))
    have kk : Keeps2 (NN (p.at X.K) O) (NN (p.at X.K) (shf O vs L)) Hc Hc := ⟨fun b n _ => (nn b).mpr n, fun _ _ _ e _ => e, fun _ _ e => e, fun _ _ _ e => e⟩
    cases x with
    | f a u => exact h0
    | d xv dd =>
      have h1 : RepB (p.at X.K) O Hc xv dd := h0
      show RepB (p.at X.K) (shf O vs L) Hc xv dd
      rcases h1 with h1 | ⟨a, e, na, h1⟩
      · exact .inl (RepV.keep kk dd xv h1)
      · exact .inr ⟨a, e, na, RepO.keep kk rfl h1⟩
  obtain ⟨t1, t2⟩ := it (shf O vs L) Hc i Rc.ok0 held
  cases hd : ds[i]? with
  | none =>
    have hle : ds.length ≤ i := List.getElem?_eq_none_iff.mp hd
    rw [List.drop_eq_nil_of_le hle] at q2
    exact .inl ⟨t1 hle, hf s' s Hc (e1.trans ec) rb q2⟩
  | some d =>
    have hlt : i < ds.length := (List.getElem?_eq_some_iff.mp hd).1
    obtain ⟨go, yl⟩ := t2 d hd
    have hdrop : ds.drop i = d :: ds.drop (i + 1) := by
      rw [List.drop_eq_getElem_cons hlt]
      congr 1
      have := List.getElem?_eq_getElem hlt
      rw [hd] at this
      exact (Option.some.inj this).symm
    rw [hdrop] at q2
    refine .inr ⟨go, fun sn Hn => Ext (p.at X.K) H1 Hn ∧ ∃ s', Rb s' sn Hn ∧ Rel (p.at X.K) (shf O vs L) (wipeE ρ vs) (L2.wipe σ vs) Hn ∧ wFold g t we C fin (wipeE ρ vs) (ds.drop (i + 1)) s',
      fun sn H' st => ⟨ds.length - (i + 1), by omega, rfl, hlt, st⟩, fun x H3 y => ?_⟩
    obtain ⟨e3, r3⟩ := yl x H3 y
    refine ⟨wipeE ρ vs, shf O vs L, d, (Rc.ext' e3).nox, r3, hg _ _ _ _ (fun ρ3 q3 O3 σ3 k3 n3 s3 l3 R3 => ?_) q2⟩
    refine ⟨(wipe_back hix l3 s3).trans (GX.wipe_wipe σ vs), ρ3, O3, noX, R3, exok_no, mt _ _ _ _ (fun k q4 H4 hk4 e4 => ?_) q3⟩
    have e34 : Ext (p.at X.K) Hc H4 := e3.trans e4.unnox
    by_cases z : k = true
    · dsimp only
      rw [if_pos z] at q4 ⊢
      refine ⟨ρ3, O3, noX, R3.ext' e4, exok_no, me _ _ _ _ (fun y q5 v H5 hk5 e5 r5 => ?_) q4⟩
      have e35 : Ext (p.at X.K) Hc H5 := e34.trans e5.unnox
      have rv : RepV X.K (NN (p.at X.K) O) H5 v y := by
        refine RepV.keep ⟨fun b n _ => (nn b).mp ⟨n.1, n.2.1, fun j zz => ?_⟩, fun _ _ _ e _ => e, fun _ _ e => e, fun _ _ _ e => e⟩ y v r5
        rcases n3 j with e | ⟨hj, _⟩
        · exact n.2.2 j (e.trans zz)
        · rw [none_at j (hix j hj)] at zz
          cases zz
      refine hC s' s H5 v y _ _ hk5 (e1.trans (ec.trans e35)) (hext _ _ _ _ Rc.wd e35 rb) rv q5 fun s2 a2 rb2 q6 => ?_
      exact ⟨ec.trans e35, s2, rb2, Rc.ext' e35, q6⟩
    · dsimp only
      rw [if_neg z] at q4 ⊢
      exact ⟨ec.trans e34, s', hext _ _ _ _ Rc.wd e34 rb, Rc.ext' e34, q4⟩
theorem tup_new {p : Par} {O : Own} {H H' : Hp} {Q : VK} {ds : List D} {vs : List V} {a : Addr} (q : RE p O H Q (.tuple ds)) (e : Ext p H H') (fr : ∀ a, H a = none → NN p O a) (ha : H' a = none) (r : RepAll p.K (NN p O) H' vs ds) (hk : Hk p.K (upd H' a (.tup vs))) : Q (.ref a) (upd H' a (.tup vs)) :=
  q _ _ hk (e.trans (Ext.new e.wd ha)) (rep_tuple (by unfold L2.upd; rw [if_pos rfl]) (r.ext (Ext.new e.wd ha) e.wd))
theorem GpD.parts {k : Nat} {scope : Scope} {own : List (Str × Nat)} {c P : Addr} {wi : WI} {g : WG} {t : WT} {we : WE} (G : GpD p X k elt tg iter ifs scope own c P wi g t we) {ix : List Nat}
    (hg : ∀ (A : Around) (s : Shared) (H : Hp) (C : Addr) (code : Value) (fp : List Addr) (pn : List (Addr × Obj)), Room k A → DG p.nox (GX.gcx X A s H (GX.genv X scope C code) fp pn) tg ix g) :
    GX.GParts X k elt tg iter ifs scope own c P (LI true (p.at X.K) wi) (LG (p.at X.K).nox ix g) (LT (p.at X.K).nox t) (LE (p.at X.K).nox we) :=
  ⟨G.hr, G.TB, G.hcode, G.hN, G.hc, G.hi.pi, G.ok, G.gk, fun A s H C code fp pn r => (hg A s H C code fp pn r).pg, fun A s H C code fp pn r => (G.ht A s H C code fp pn r).pts, fun A s H C code fp pn r => (G.he A s H C code fp pn r).pe, G.hs⟩
theorem GpD.monos {k : Nat} {scope : Scope} {own : List (Str × Nat)} {c P : Addr} {wi : WI} {g : WG} {t : WT} {we : WE} (G : GpD p X k elt tg iter ifs scope own c P wi g t we) : MonoG g ∧ MonoT t ∧ MonoE we := by
  obtain ⟨ix, _, hg⟩ := G.hg
  have r := G.hr.mono (j := k) (by omega)
  exact ⟨(hg X.A X.s_0 X.H_0 0 .none [] [] r).mono, (G.ht X.A X.s_0 X.H_0 0 .none [] [] r).mono, (G.he X.A X.s_0 X.H_0 0 .none [] [] r).mono⟩
def wGen {β : Type} (wi : WI) (g : WG) (t : WT) (we : WE) (vs : List Nat) (C : (D → Prop) → β → D → (β → Prop) → Prop) (fin : (D → Prop) → β → Prop) (b0 : β) : WE := fun ρ Q EX => wi ρ (fun ds => wFold g t we (C Q) (fin Q) (wipeE ρ vs) ds b0) EX
def cAll (Q : D → Prop) (_ : Unit) (y : D) (N : Unit → Prop) : Prop := ∃ b, y = .bool b ∧ if b = true then N () else Q (.bool false)
def cAny (Q : D → Prop) (_ : Unit) (y : D) (N : Unit → Prop) : Prop := ∃ b, y = .bool b ∧ if b = true then Q (.bool true) else N ()
def cSum (_ : D → Prop) (i : Int) (y : D) (N : Int → Prop) : Prop := ∃ j, y = .int j ∧ N (i + j)
def cTup (_ : D → Prop) (ys : List D) (y : D) (N : List D → Prop) : Prop := ys.length < sizeLine ∧ N (ys ++ [y])
abbrev wAllG (wi : WI) (g : WG) (t : WT) (we : WE) (vs : List Nat) : WE := wGen wi g t we vs cAll (fun Q _ => Q (.bool true)) ()
abbrev wAnyG (wi : WI) (g : WG) (t : WT) (we : WE) (vs : List Nat) : WE := wGen wi g t we vs cAny (fun Q _ => Q (.bool false)) ()
abbrev wSumG (wi : WI) (g : WG) (t : WT) (we : WE) (vs : List Nat) : WE := wGen wi g t we vs cSum (fun Q i => Q (.int i)) 0
abbrev wTupG (wi : WI) (g : WG) (t : WT) (we : WE) (vs : List Nat) : WE := wGen wi g t we vs cTup (fun Q ys => ys.length ≤ sizeLine ∧ Q (.tuple ys)) []
theorem mono_all : ∀ (Q Q' : D → Prop), (∀ d, Q d → Q' d) → ∀ s d (P P' : Unit → Prop), (∀ s, P s → P' s) → cAll Q s d P → cAll Q' s d P' := fun Q Q' h s d P P' hp ⟨b, e, q⟩ => ⟨b, e, by
  by_cases z : b = true
  · rw [if_pos z] at q ⊢; exact hp _ q
  · rw [if_neg z] at q ⊢; exact h _ q⟩
theorem mono_any : ∀ (Q Q' : D → Prop), (∀ d, Q d → Q' d) → ∀ s d (P P' : Unit → Prop), (∀ s, P s → P' s) → cAny Q s d P → cAny Q' s d P' := fun Q Q' h s d P P' hp ⟨b, e, q⟩ => ⟨b, e, by
  by_cases z : b = true
  · rw [if_pos z] at q ⊢; exact h _ q
  · rw [if_neg z] at q ⊢; exact hp _ q⟩
variable {k : Nat} {scope : Scope} {own : List (Str × Nat)} {cc P : Addr} {wi : WI} {g : WG} {t : WT} {we : WE} {q gpos : Pos}
theorem de_all (G : GpD p X k elt tg iter ifs scope own cc P wi g t we) (hm : X.mg "all" = none) (hgl : Gl X "all" := by rfl) : DE p X (.Call (.Name "all" q) [.GeneratorExp elt [⟨tg, iter, ifs, 0⟩] scope gpos] [] pos) (wAllG wi g t we (own.map (·.2))) := by
  obtain ⟨ix, hix, hg⟩ := G.hg
  obtain ⟨m1, m2, m3⟩ := G.monos
  refine ⟨pe_use (GX.pe_all (G.parts hg) hgl hm) fun σ H Q hk ⟨ρ, O, EX, R, ex, hw⟩ => ?_, fun ρ Q Q' EX h q => G.hi.mono _ _ _ _ (fun ds q => mono_fold m1 m2 m3 (fun s d P P' hp q => mono_all Q Q' h s d P P' hp q) (fun s q => h _ q) ds () q) q⟩
  refine gx_run (β := Unit) (C := cAll (RE (p.at X.K) O H Q)) (fin := fun _ => RE (p.at X.K) O H Q (.bool true)) (b0 := ()) G hix m1 m2 m3 R ex (fun _ _ _ => True) (fun _ => trivial) (fun _ _ _ _ _ _ _ => trivial) (fun s a H' v y Nx N hk' e' _ rv hc hn => ?_) (fun s a H' e' _ hf hk' => hf _ H' hk' e' rep_bool) hw
  obtain ⟨b, rfl, hc⟩ := hc
  rw [(RepV.b (p := p.at X.K) (O := O) rv).bool]
  refine ⟨b, rfl, fun z hk2 => ?_, fun z => ?_⟩
  · rw [z, if_neg Bool.false_ne_true] at hc
    exact hc _ H' hk' e' rep_bool
  · rw [z, if_pos rfl] at hc
    exact hn _ _ trivial hc
theorem de_any (G : GpD p X k elt tg iter ifs scope own cc P wi g t we) (hm : X.mg "any" = none) (hgl : Gl X "any" := by rfl) : DE p X (.Call (.Name "any" q) [.GeneratorExp elt [⟨tg, iter, ifs, 0⟩] scope gpos] [] pos) (wAnyG wi g t we (own.map (·.2))) := by
  obtain ⟨ix, hix, hg⟩ := G.hg
  obtain ⟨m1, m2, m3⟩ := G.monos
  refine ⟨pe_use (GX.pe_any (G.parts hg) hgl hm) fun σ H Q hk ⟨ρ, O, EX, R, ex, hw⟩ => ?_, fun ρ Q Q' EX h q => G.hi.mono _ _ _ _ (fun ds q => mono_fold m1 m2 m3 (fun s d P P' hp q => mono_any Q Q' h s d P P' hp q) (fun s q => h _ q) ds () q) q⟩
  refine gx_run (β := Unit) (C := cAny (RE (p.at X.K) O H Q)) (fin := fun _ => RE (p.at X.K) O H Q (.bool false)) (b0 := ()) G hix m1 m2 m3 R ex (fun _ _ _ => True) (fun _ => trivial) (fun _ _ _ _ _ _ _ => trivial) (fun s a H' v y Nx N hk' e' _ rv hc hn => ?_) (fun s a H' e' _ hf hk' => hf _ H' hk' e' rep_bool) hw
  obtain ⟨b, rfl, hc⟩ := hc
  rw [(RepV.b (p := p.at X.K) (O := O) rv).bool]
  refine ⟨b, rfl, fun z hk2 => ?_, fun z => ?_⟩
  · rw [z, if_pos rfl] at hc
    exact hc _ H' hk' e' rep_bool
  · rw [z, if_neg Bool.false_ne_true] at hc
    exact hn _ _ trivial hc
theorem de_sumG (G : GpD p X k elt tg iter ifs scope own cc P wi g t we) (hm : X.mg "sum" = none) (hgl : Gl X "sum" := by rfl) : DE p X (.Call (.Name "sum" q) [.GeneratorExp elt [⟨tg, iter, ifs, 0⟩] scope gpos] [] pos) (wSumG wi g t we (own.map (·.2))) := by
  obtain ⟨ix, hix, hg⟩ := G.hg
  obtain ⟨m1, m2, m3⟩ := G.monos
  refine ⟨pe_use (GX.pe_sum (G.parts hg) hgl hm) fun σ H Q hk ⟨ρ, O, EX, R, ex, hw⟩ => ?_, fun ρ Q Q' EX h q => G.hi.mono _ _ _ _ (fun ds q => mono_fold m1 m2 m3 (fun s d P P' hp ⟨j, e, q⟩ => ⟨j, e, hp _ q⟩) (fun s q => h _ q) ds 0 q) q⟩
  refine gx_run (β := Int) (C := cSum (RE (p.at X.K) O H Q)) (fin := fun i => RE (p.at X.K) O H Q (.int i)) (b0 := 0) G hix m1 m2 m3 R ex (fun i j _ => i = j) (fun _ => rfl) (fun _ _ _ _ _ _ h => h) (fun s a H' v y Nx N hk' e' rb rv hc hn => ?_) (fun s a H' e' rb hf hk' => by subst rb; exact hf _ H' hk' e' rep_int) hw
  obtain ⟨j, rfl, hc⟩ := hc
  subst rb
  rw [(RepV.b (p := p.at X.K) (O := O) rv).int]
  exact ⟨j, rfl, hn _ _ rfl hc⟩
theorem de_tupG (G : GpD p X k elt tg iter ifs scope own cc P wi g t we) (hm : X.mg "tuple" = none) (hgl : Gl X "tuple" := by rfl) : DE p X (.Call (.Name "tuple" q) [.GeneratorExp elt [⟨tg, iter, ifs, 0⟩] scope gpos] [] pos) (wTupG wi g t we (own.map (·.2))) := by
  obtain ⟨ix, hix, hg⟩ := G.hg
  obtain ⟨m1, m2, m3⟩ := G.monos
  refine ⟨pe_use (GX.pe_tupG (G.parts hg) hgl hm) fun σ H Q hk ⟨ρ, O, EX, R, ex, hw⟩ => ?_, fun ρ Q Q' EX h q => G.hi.mono _ _ _ _ (fun ds q => mono_fold m1 m2 m3 (fun s d P P' hp q => ⟨q.1, hp _ q.2⟩) (fun s q => ⟨q.1, h _ q.2⟩) ds [] q) q⟩
  refine gx_run (β := List D) (C := cTup (RE (p.at X.K) O H Q)) (fin := fun ys => ys.length ≤ sizeLine ∧ RE (p.at X.K) O H Q (.tuple ys)) (b0 := []) G hix m1 m2 m3 R ex (fun ys vs H => RepAll X.K (NN (p.at X.K) O) H vs ys) (fun _ => rall_nil) (fun s a H1 H2 w e r => RepAll.ext e w r) (fun s a H' v y Nx N hk' e' rb rv hc hn => ?_) (fun s a H' e' rb hf => ?_) hw
  · exact ⟨by rw [rb.length]; exact hc.1, hn _ _ (rb.append (rall_cons rv rall_nil)) hc.2⟩
  · exact ⟨by rw [rb.length]; exact hf.1, fun c hc hk2 => tup_new hf.2 e' (fun a ha => R.fresh0 ha) hc rb hk2⟩
end
end DD
set_option maxRecDepth 100000
set_option maxHeartbeats 2000000
/-! SemL: defs as data: their promises, their calls. -/
namespace DD
open PySem PySem.Spec PyProof.Rows L2 GenW
/-- a def as data -/
abbrev FD := List W → (D → Prop) → EXn → Prop
def MonoF (f : FD) : Prop := ∀ ws Q Q' EX, (∀ d, Q d → Q' d) → f ws Q EX → f ws Q' EX
/-- the parameters of a body that was entered at H -/
abbrev Par.inn (S : Par) (N : Addr → Prop) (H : Hp) (E : XK) : Par := { S with N := N, H0 := H, E := E }
def SpD (S : Par) (f : FD) : Sp := fun vs H Q E => ∃ (N : Addr → Prop) (ws : List W) (EX : EXn), Wd S H ∧ (∀ a, N a → a ≠ S.r) ∧ Paired (RepW S N H) vs ws ∧
  f ws (fun d => ∀ v H', Ext S H H' → RepV S.K (NN (S.inn N H E) noOwn) H' v d → Q v H') EX ∧ ∀ x cls dd H', EX x → Ext S H H' → ExnAt S H' x cls dd → E cls dd H'
/-- the same world -/
structure Like (p q : Par) : Prop where
  K : p.K = q.K
  T : p.T = q.T
  G : p.G = q.G
  r : p.r = q.r
  scr : p.scr = q.scr
  ns : p.ns = q.ns
  b : p.cBad = q.cBad
  u : p.cUnr = q.cUnr
theorem Like.inn {S : Par} {N : Addr → Prop} {H : Hp} {E : XK} : Like (S.inn N H E) S := ⟨rfl, rfl, rfl, rfl, rfl, rfl, rfl, rfl⟩
theorem Like.nox {p S : Par} (h : Like p S) : Like p.nox S := ⟨h.K, h.T, h.G, h.r, h.scr, h.ns, h.b, h.u⟩
theorem Like.symm {p S : Par} (h : Like p S) : Like S p := ⟨h.K.symm, h.T.symm, h.G.symm, h.r.symm, h.scr.symm, h.ns.symm, h.b.symm, h.u.symm⟩
theorem Wd.like {p q : Par} {H : Hp} (w : Wd p H) (l : Like p q) : Wd q H := by
  obtain ⟨w0, w1, w2, w3⟩ := w
  exact ⟨by rw [← l.G, ← l.T]; exact w0, by rw [← l.G]; exact w1, by rw [← l.T]; exact w2, by rw [← l.K, ← l.scr, ← l.ns, ← l.r]; exact w3⟩
theorem Ext.like {p q : Par} {H H' : Hp} (e : Ext p H H') (l : Like p q) : Ext q H H' := ⟨fun b o e1 n m => e.ob b o e1 n (by rw [l.r]; exact m), e.dom, e.wd.like l⟩
theorem ExnAt.like {p q : Par} {H : Hp} {x : Exn} {cls : Value} {dd : Option Addr} (h : ExnAt p H x cls dd) (l : Like p q) : ExnAt q H x cls dd := by
  cases x with
  | bad n => obtain ⟨h1, h2⟩ := h; exact ⟨by rw [← l.b]; exact h1, h2⟩
  | unread o y => obtain ⟨h1, h2⟩ := h; exact ⟨by rw [← l.u]; exact h1, h2⟩
/-- what is let out of X is what p wishes -/
def XP (p : Par) (X : Cx) : Prop := Passes (L2.CX X.prog X.w) X p.E
theorem xp_of {p : Par} {X : Cx} (tk : Takes X (fun cls d _ H => p.E cls d H)) : XP p X := passes_call tk fun _ _ _ _ h => h
theorem xp_nox {p : Par} {X : Cx} : XP p.nox X := fun pins σ H s e s' I c => by
  obtain ⟨a, B, H', cls, d, _, _, _, _, _, _, _, z⟩ := c
  exact z.elim
/-! ### a def's body -/
def mkF (n m : Nat) (w : WS) : FD := fun ws Q EX => ws.length = n ∧ w { nx := fun _ => Q .none, rt := Q, ex := EX } (ws.map some ++ List.replicate (m - n) none)
theorem mono_mkF {n m : Nat} {w : WS} (h : MonoS w) : MonoF (mkF n m w) := fun ws Q Q' EX hh ⟨e, q⟩ => ⟨e, h { nx := fun _ => Q .none, rt := Q, ex := EX } _ _ ⟨fun _ q => hh _ q, fun _ q => hh _ q, fun _ q => q, fun _ q => q, rfl⟩ q⟩
/-- a def of the text, its code object known -/
structure FunC (K : PySem.W.Frag) (x qual : Str) (st : Stmt) (f : Addr) (fd : FuncData) (cdv : Value) : Prop where
  ex : ∃ (oc : Value) (od : Option Addr) (kV doc pm : Value) (an : Option Addr) (ct : Value) (osl : Array (Option Value)),
    fd = PySem.W.fnOf x qual (defArgs st) (defBody st) (defScope st) .none kV doc pm an cdv ct ∧ K.lookup f = some ⟨oc, od, .func fd, osl⟩ ∧ PySem.W.codeIn K cdv qual = true
  kp : PySem.W.keepIn K (.ref f) = true
theorem funC_mk {K : PySem.W.Frag} {x qual : Str} {st : Stmt} {f : Addr} {oc : Value} {od an : Option Addr} {osl : Array (Option Value)} {kV doc pm cdv ct : Value} (l : K.lookup f = some ⟨oc, od, .func (PySem.W.fnOf x qual (defArgs st) (defBody st) (defScope st) .none kV doc pm an cdv ct), osl⟩)
    (c : PySem.W.codeIn K cdv qual = true) (k : PySem.W.keepIn K (.ref f) = true) : FunC K x qual st f (PySem.W.fnOf x qual (defArgs st) (defBody st) (defScope st) .none kV doc pm an cdv ct) cdv := ⟨⟨oc, od, kV, doc, pm, an, ct, osl, rfl, l, c⟩, k⟩
theorem FunC.binds {K : PySem.W.Frag} {x qual : Str} {st : Stmt} {f : Addr} {fd : FuncData} {cdv : Value} {ps : List Str} (F : FunC K x qual st f fd cdv)
    (h : ∀ (kV doc pm : Value) (an : Option Addr) (cdv ct : Value) (us : List Value), us.length = ps.length → bindArgs (PySem.W.fnOf x qual (defArgs st) (defBody st) (defScope st) .none kV doc pm an cdv ct) ⟨us, []⟩ = pure (ps.zip us)) : Binds K fd ps [] := by
  obtain ⟨oc, od, kV, doc, pm, an, ct, osl, rfl, lk, hcd⟩ := F.ex
  exact .all (h kV doc pm an cdv ct)
theorem paired_len {α β : Type} {R : α → β → Prop} : ∀ {l : List α} {m : List β}, Paired R l m → l.length = m.length
  | _, _, .nil => rfl
  | _, _, .cons _ t => by rw [List.length_cons, List.length_cons, paired_len t]
theorem paired_at {α β : Type} {R : α → β → Prop} : ∀ {l : List α} {m : List β} {i : Nat} {b : β}, Paired R l m → m[i]? = some b → ∃ a, l[i]? = some a ∧ R a b
  | _, _, _, _, .nil, e => by simp at e
  | _, _, 0, _, .cons r _, e => by simp at e; subst e; exact ⟨_, rfl, r⟩
  | _, _, i + 1, b, .cons _ t, e => by
    obtain ⟨a, h1, h2⟩ := paired_at (i := i) (b := b) t (by simpa using e)
    exact ⟨a, by simpa using h1, h2⟩
abbrev bodyCx (P : Program) (w0 : World) (K : PySem.W.Frag) (mg : Str → Option Value) (base : Heap) (N : List Str) (qual : Str) (st : Stmt) (f : Addr) (cdv : Value) (A : Around) (outer : List Env) (s : Shared) (H : Hp) (E : XK) : Cx :=
  cxOf (L2.CX P w0) P w0 K mg base N qual (defScope st) f cdv A outer s H E
theorem body_xp {P : Program} {w0 : World} {K : PySem.W.Frag} {mg : Str → Option Value} {base : Heap} {N : List Str} {qual : Str} {st : Stmt} {f : Addr} {cdv : Value} {A : Around} {outer : List Env} {s : Shared} {H : Hp} {E : XK} {S : Par} {N0 : Addr → Prop} : XP (S.inn N0 H E) (bodyCx P w0 K mg base N qual st f cdv A outer s H E) :=
  xp_of (takes_of (E := E) rfl rfl rfl rfl)
theorem body_own {P : Program} {w0 : World} {K : PySem.W.Frag} {mg : Str → Option Value} {base : Heap} {N : List Str} {qual : Str} {st : Stmt} {f : Addr} {cdv : Value} {A : Around} {outer : List Env} {s : Shared} {H : Hp} {E : XK} : PassesOwn (model P w0) (bodyCx P w0 K mg base N qual st f cdv A outer s H E).A (bodyCx P w0 K mg base N qual st f cdv A outer s H E).env (bodyCx P w0 K mg base N qual st f cdv A outer s H E).xe :=
  PassesOwn.leaving
theorem fn_D {P : Program} {w0 : World} {K : PySem.W.Frag} {mg : Str → Option Value} {base : Heap} {S : Par} {x qual : Str} {st : Stmt} {f : Addr} {fd : FuncData} {cdv : Value} {N ps : List Str} {k : Nat} {w : WS} (F : FunC K x qual st f fd cdv) (hK : S.K = K) (Sc : FnScope N ps (defScope st))
    (body : ∀ (N0 : Addr → Prop) (A : Around) (outer : List Env) (s : Shared) (H : Hp) (E : XK), Room k (A.deeper (envOfC qual (defScope st) s.heap.objs.size f cdv)) → DSs (S.inn N0 H E) (bodyCx P w0 K mg base N qual st f cdv A outer s H E) (defBody st) w) :
    FnOk P w0 K mg base (L2.CX P w0) (k + 1) f fd ps (SpD S (mkF ps.length N.length w)) := by
  obtain ⟨oc, od, kV, doc, pm, an, ct, osl, rfl, lk, hcd⟩ := F.ex
  refine fn_of lk hcd Sc (fun vs H Q E ⟨N0, ws, EX, _, _, hp, hf, _⟩ => ?_) fun A outer s H vs Q E hr ⟨N0, ws, EX, wd, hn, hp, hf, hx⟩ => ?_
  · rw [paired_len hp]; exact hf.1
  · have b := body N0 A outer s H E hr
    obtain ⟨hl, hw⟩ := hf
    have hvl := paired_len hp
    have hNl : ps.length ≤ N.length := by
      have := congrArg List.length Sc.pre
      rw [List.length_take] at this
      omega
    refine ⟨_, b.ps, ?_⟩
    have wd' : Wd (S.inn N0 H E) H := wd.like Like.inn.symm
    have R : Rel (S.inn N0 H E) noOwn (ws.map some ++ List.replicate (N.length - ps.length) none) (L2.start N vs) H := by
      refine ⟨wd', Ext.refl wd', ?_, fun i w hi => ?_, fun i j a h _ => (by cases h), fun x hx => (by cases hx), fun i a h => (by cases h)⟩
      · unfold L2.start
        simp
        omega
      · have hi2 : ws[i]? = some w := by
          by_cases hlt : i < ws.length
          · rw [List.getElem?_append_left (by simpa using hlt), List.getElem?_map] at hi
            cases q : ws[i]? with
            | none => rw [q] at hi; cases hi
            | some u => rw [q] at hi; simpa using hi
          · rw [List.getElem?_append_right (by simpa using Nat.le_of_not_lt hlt), List.getElem?_replicate] at hi
            split at hi <;> cases hi
        obtain ⟨v, hv, rv⟩ := paired_at hp hi2
        have hs : (L2.start N vs)[i]? = some (some v) := by
          unfold L2.start
          have hlt : i < vs.length := (List.getElem?_eq_some_iff.mp hv).1
          rw [List.getElem?_append_left (by simpa using hlt), List.getElem?_map, hv]
          rfl
        cases w with
        | d x =>
          refine ⟨v, hs, RepV.keep ⟨fun a n _ => ⟨.inl n, hn a n, fun i z => by cases z⟩, fun _ _ _ e _ => e, fun _ _ e => e, fun _ _ _ e => e⟩ x v rv⟩
        | own x => exact (show False from rv).elim
        | row =>
          have rv : v = .ref S.r := rv
          rw [hs, rv]
          rfl
    have R2 : Rel ((S.inn N0 H E).at K) noOwn (ws.map some ++ List.replicate (N.length - ps.length) none) (L2.start N vs) H := by
      subst hK
      exact R
    refine ⟨_, noOwn, EX, R2, fun y cls dd H' h1 h2 h3 => ?_, ?_⟩
    · subst hK
      exact hx y cls dd H' h1 (h2.like Like.inn) (h3.like Like.inn)
    · subst hK
      exact b.mono { nx := fun _ => ∀ v H', Ext S H H' → RepV S.K (NN (S.inn N0 H E) noOwn) H' v .none → Q v H', rt := fun d => ∀ v H', Ext S H H' → RepV S.K (NN (S.inn N0 H E) noOwn) H' v d → Q v H', ex := EX } _ _
        ⟨fun ρ q O' σ' H' _ _ R' => q .non H' (R'.ext.like Like.inn) rep_none, fun d q v H' _ e r => q v H' (e.like Like.inn) r, fun ρ q => q.elim, fun ρ q => q.elim, rfl⟩ hw
/-! ### calls -/
section
variable {p S : Par} {X : Cx} {pos : Pos} {e : Expr} {es : List Expr}
def wCall (f : FD) (ww : WW) : WE := fun ρ Q EX => ww ρ (fun ws => f ws Q EX) EX
theorem call_run {f : FD} (hf : MonoF f) (hl : Like p S) {O : Own} {ρ : Env'} {σ : L2.St} {H H1 : Hp} {EX : EXn} {vs : List V} {ws : List W} {Q : VK} (R : Rel p O ρ σ H) (ex : ExOk p EX) (e1 : Ext p H H1) (r1 : Paired (RepW p (NN p O) H1) vs ws) (q : f ws (RE p O H Q) EX) :
    SpD S f vs H1 (fun v H' => Hk p.K H' → Q v H') p.E := by
  refine ⟨NN p O, ws, EX, e1.wd.like hl, fun a n => by rw [← hl.r]; exact n.2.1, ?_, hf _ _ _ _ (fun d q v H' e2 r2 hk => q v H' hk (e1.trans (e2.like hl.symm)) ?_) q, fun x cls dd H' h1 h2 h3 => ex x cls dd H' h1 ((R.ext.trans e1).trans (h2.like hl.symm)) (h3.like hl.symm)⟩
  · refine Paired.mapP r1 fun v w h => ?_
    cases w with
    | d x =>
      have h : RepV p.K (NN p O) H1 v x := h
      show RepV S.K (NN p O) H1 v x
      rw [← hl.K]; exact h
    | own x => exact h
    | row =>
      have h : v = .ref p.r := h
      show v = .ref S.r
      rw [← hl.r]; exact h
  · rw [hl.K]
    refine RepV.keep ⟨fun a n _ => ?_, fun _ _ _ e _ => e, fun _ _ e => e, fun _ _ _ e => e⟩ d v r2
    rcases n.1 with n1 | n1
    · exact n1
    · exact (R.ext' e1).fresh0 n1
theorem de_call {f : FD} {x : Str} {g : Addr} {fd : FuncData} {ps : List Str} {k : Nat} {ww : WW} {q : Pos} (F : FnOk X.prog X.w X.K X.mg X.base (L2.CX X.prog X.w) k g fd ps (SpD S f)) (hf : MonoF f) (hl : Like (p.at X.K) S) (hr : Room k X.A) (hm : X.mg x = some (.ref g)) (hk : PySem.W.keepIn X.K (.ref g) = true) (hb : Binds X.K fd ps []) (hx : XP p X)
    (ha : DWs p X (e :: es) ww) (hg : Gl X x := by rfl) (hdb : (x == ("__debug__" : Str)) = false := by decide) (he : starEach (e :: es) X.env = (false, eval e X.env) :: starEach es X.env := by rfl) (hpl : (backTo pos (starEach es X.env)).any (·.1) = false := by rfl) :
    DE p X (.Call (.Name x q) (e :: es) [] pos) (wCall f ww) :=
  ⟨pe_use (pe_call (dvs := []) F hr hg hm hk hb .nil hx ha.pa hdb he hpl) fun σ H Q hk ⟨ρ, O, EX, R, ex, hw⟩ => ⟨ρ, O, EX, R, ex, ha.mono _ _ _ _ (fun ws q vs H1 hk1 e1 r1 => by
    show SpD S f (vs ++ []) H1 _ _
    rw [List.append_nil]
    exact call_run hf hl R ex e1 r1 q) hw⟩, fun ρ Q Q' EX h q => ha.mono _ _ _ _ (fun ws q => hf _ _ _ _ h q) q⟩
theorem de_call0 {f : FD} {x : Str} {g : Addr} {fd : FuncData} {ps : List Str} {k : Nat} {q : Pos} (F : FnOk X.prog X.w X.K X.mg X.base (L2.CX X.prog X.w) k g fd ps (SpD S f)) (hf : MonoF f) (hl : Like (p.at X.K) S) (hr : Room k X.A) (hm : X.mg x = some (.ref g)) (hk : PySem.W.keepIn X.K (.ref g) = true) (hb : Binds X.K fd ps []) (hx : XP p X)
    (hg : Gl X x := by rfl) (hdb : (x == ("__debug__" : Str)) = false := by decide) :
    DE p X (.Call (.Name x q) [] [] pos) (wCall f wwNil) :=
  ⟨pe_use (pe_call0 (dvs := []) F hr hg hm hk hb .nil hx hdb) fun σ H Q hk ⟨ρ, O, EX, R, ex, hw⟩ => by
    show SpD S f ([] ++ []) H _ _
    exact call_run hf hl R ex (Ext.refl R.wd) .nil hw, fun ρ Q Q' EX h q => hf _ _ _ _ h q⟩
end
end DD
set_option maxRecDepth 100000
set_option maxHeartbeats 4000000
/-! SemM: BadArgument: an own error whose __init__ calls super().__init__(f'..') and keeps its name. -/
namespace DD
open PySem PySem.Spec PyProof.Rows L2
def badA (p1 p2 : Pos) : Arguments := { posonlyargs := [], args := [{ arg := "self", annotation := none, pos := p1 }, { arg := "name", annotation := none, pos := p2 }], vararg := none, kwonlyargs := [], kw_defaults := [], kwarg := none, defaults := [] }
def badB (msg : Str) (j : Nat) (q1 q2 q3 q4 q5 q6 q7 q8 q9 q10 q11 q12 q13 : Pos) : List Stmt :=
  [.Expr (.Call (.Attribute (.Call (.Name "super" q1) [] [] q2) "__init__" q3) [.JoinedStr [.Constant (.str msg) j q4, .FormattedValue (.Name "name" q5) (-1) none q6] q7] [] q8) q9, .Assign [.Attribute (.Name "self" q10) "name" q11] (.Name "name" q12) q13]
def badS : Scope := { kind := .function, names := [(PySem.Str.ofString "self", .local), (PySem.Str.ofString "name", .local), (PySem.Str.ofString "__class__", .free), (PySem.Str.ofString "super", .globalImplicit)], isGenerator := false, isCoroutine := false, more := [] }
abbrev excC (nm q : Str) (C N : Addr) (bs bm : List Value) (sn : List Str) (sub : List Value) (ab : Bool) (col : Option Bool) (dd : Option Addr) (k0 k1 k2 k3 k5 : Option Value) : Obj := excClassObj nm q C N bs bm true sn sub ab col dd k0 k1 k2 k3 k5 "ValueError.__new__"
/-- what the written part says of BadArgument, at C, and of its __init__, at fI -/
structure BadTxt (P : Program) (K : PySem.W.Frag) (mg : Str → Option Value) (C fI cc : Addr) : Prop where
  gC : mg "BadArgument" = some (.ref C)
  gS : mg "super" = none
  cls : ∃ nm q N bs bm sn sub ab col dd k0 k1 k2 k3 k5, K.lookup C = some (excC nm q C N bs bm sn sub ab col dd k0 k1 k2 k3 k5) ∧ PySem.HandSPX.refsVE bm = true
  sup : PySem.W.ks_superIn K C C "__init__" = some (some (.builtin "ValueError.__init__"))
  sa : PySem.W.findIn K (.ref C) "__setattr__" = some (some (.builtin "object.__setattr__"))
  noN : PySem.W.findIn K (.ref C) "name" = some none
  iC : PySem.W.findIn K (.ref C) "__init__" = some (some (.ref fI))
  tC : PySem.W.typeIn K (.ref fI) = some (.type "function")
  kC : PySem.W.keepIn K (.ref C) = true
  exC : PySem.W.subIn K (.ref C) (.type "BaseException") = some true
  veC : PySem.W.subIn K (.ref C) (.type "ValueError") = some true
  tyC : PySem.W.typeIn K (.ref C) = some (.type "type")
  own : PySem.W.nsIn K cStatics "thirdparty.any" = some none
  top : (P.main.scope.names.lookup ("super" : Str)).isSome = false
  fn : ∃ (oc : Value) (od : Option Addr) (doc pm : Value) (an : Option Addr) (cda : Addr) (ct : Value) (osl : Array (Option Value)) (msg : Str) (j : Nat) (p1 p2 q1 q2 q3 q4 q5 q6 q7 q8 q9 q10 q11 q12 q13 : Pos) (ccl : Value) (cdd : Option Addr) (vs : Array Value) (ccs : Array (Option Value)) (file : Str) (tf : Tok),
    K.lookup fI = some ⟨oc, od, .func (PySem.W.ksFn "__init__" "BadArgument.__init__" (badA p1 p2) (badB msg j q1 q2 q3 q4 q5 q6 q7 q8 q9 q10 q11 q12 q13) badS .none .none doc pm an (.ref cda) ct cc), osl⟩ ∧ PySem.W.codeIn K (.ref cda) "BadArgument.__init__" = true ∧
      K.lookup cda = some ⟨ccl, cdd, .fields vs, ccs⟩ ∧ vs[2]? = some (.str file tf) ∧ ((P.main.file : Str) == file) = true ∧ msg.length ≤ 100 ∧ (q3.endLine == q8.line) = true
  cell : ∃ (cl : Value) (cld : Option Addr) (csl : Array (Option Value)), K.lookup cc = some ⟨cl, cld, .cell (some (.ref C)), csl⟩
end DD
namespace PySem
namespace BadX
open PySem.W PySem.Calls PyProof.Rows PySem.HandSPX DD
/-- what __init__ leaves of a fresh exception at x -/
structure InitEnd (h h' : Heap) (x C dx t1 : Addr) (v : Value) : Prop where
  keep : ∀ b o, b ≠ x → h.get? b = some o → h'.get? b = some o
  obj : h'.get? x = some { cls := .ref C, dict := some dx, data := .fields #[.ref t1, .none, .none, .none, .bool false, .none] }
  dbig : h.objs.size ≤ dx
  dne : dx ≠ x
  ns : h'.Ns1 dx (fun y => if y = "name" then some v else none)
section
variable {prog : Program} {w : World} {A : Around} {E : Value → Shared → Prop} {R : Result → Shared → Prop} {s : Shared} {K : Frag} {mg mb : Str → Option Value} {C fI cc : Addr}
/-- the wrapper of ValueError.__init__ called -/
theorem call_mw {nm q : Str} {N : Addr} {bs bm : List Value} {sn : List Str} {sub : List Value} {ab : Bool} {col : Option Bool} {dd : Option Addr} {k0 k1 k2 k3 k5 : Option Value} {h : Heap} {g : Array GenState} {d : Drawn} {t : Nat} {os : OsState} {u e t0 : Addr} {rest : List Value} {Q : Value → Shared → Prop}
    (hC : h.get? C = some (excC nm q C N bs bm sn sub ab col dd k0 k1 k2 k3 k5)) (he : h.get? e = some (excO C t0)) (hu : h.get? u = some (kxs_mw "ValueError.__init__" e)) (hrest : rest.length ≤ sizeLine)
    (hq : ∀ h' t1, (∀ b o, b ≠ e → h.get? b = some o → h'.get? b = some o) → h'.get? e = some (excO C t1) → Q .none ⟨h', g, d, t, os⟩) :
    wpAny (model prog w) A (call (.ref u) rest) Q E ⟨h, g, d, t, os⟩ := by
  refine wpAny_call (codeAny_of_tree ?_)
  show wpAny _ A.in1 (callAny (.ref u) ⟨rest, []⟩) _ _ _
  simp only [callAny]
  refine wpAny_bind (wpAny_load hu ?_)
  simp only [kxs_mw, show (Value.type "method-wrapper" == Value.type "method" || Value.type "method-wrapper" == Value.type "builtin_function_or_method" || Value.type "method-wrapper" == Value.type "method-wrapper") = true by decide, if_true]
  refine KFB.if_so (by decide) ?_
  refine wpAny_bind (check_bound_init F.excBase_ValueError.toExcCallFacts hC he rfl ?_)
  refine wpAny_bind (wpAny_pure (wpAny_pure ?_))
  refine ⟨plainId_quiet F.excBase_ValueError.init.plain _, codeAny_builtin F.excBase_ValueError.initEntry ?_⟩
  exact exc_init_tree (cls := .ref C) (t0 := t0) (dv := none) (c2 := .none) (c3 := .none) (b4 := .bool false) he hrest fun h' k e' _ => hq h' _ k e'
theorem bad_init (T : BadTxt prog K mg C fI cc) {x t0 : Addr} {n : Str} {tn : Tok} (X : K.In s.heap) (hlim : s.heap.NoLimit) (hglob : s.heap.Ns mainGlobals mg) (hb : s.heap.Ns builtinsNs mb) (hbs : mb "super" = some (.type "super")) (hx : s.heap.get? x = some (excO C t0)) (hnx : K.lookup x = none) (hroom : A.depth < recursionLimit) (hn : n.length ≤ 1000)
    (hq : ∀ h' tk t1 dx, InitEnd s.heap h' x C dx t1 (.str n tn) → R (.ok (.ret .none)) { s with heap := h', toks := tk }) :
    codeAny (model prog w) A (.call (.ref fI) ⟨[.ref x, .str n tn], []⟩) R s := by
  obtain ⟨oc, od, doc, pm, an, cda, ct, osl, msg, j, p1, p2, q1, q2, q3, q4, q5, q6, q7, q8, q9, q10, q11, q12, q13, ccl, cdd, vs, ccs, file, tf, ho, hcd, hca, hvs, hfile, hmsg, hline⟩ := T.fn
  obtain ⟨nm, q, N, bs, bm, sn, sub, ab, col, dd, k0, k1, k2, k3, k5, hC, hbm⟩ := T.cls
  obtain ⟨cl, cld, csl, hcell⟩ := T.cell
  have hcl : clsIn K C = some { name := nm, bases := bs, mro := .ref C :: bm, ns := N, qualname := q, hasDict := true, slotNames := sn, subclasses := sub, abstract := ab, collection := col, hasDel := false } := by unfold clsIn; rw [hC] <;> rfl
  refine ks_codeAny_call_defAt (fd := ksFn "__init__" "BadArgument.__init__" (badA p1 p2) (badB msg j q1 q2 q3 q4 q5 q6 q7 q8 q9 q10 q11 q12 q13) badS .none .none doc pm an (.ref cda) ct cc) (binds := [("self", .ref x), ("name", .str n tn)])
    hroom (X _ _ ho) rfl hlim (codeRec_of X hcd) rfl (BindsTo.of_eq (by first | rfl | with_unfolding_all rfl)) (show ∀ x ∈ badS.names, x.2 ≠ .cell by decide) (fun y hy => ?_) (fun h₀ hns hk => ?_) rfl rfl rfl
  · rcases List.mem_cons.mp hy with rfl | hy
    · rfl
    · rw [List.mem_singleton] at hy
      subst hy
      rfl
  have X₀ : K.In h₀ := X.keeps hk
  have hxC : x ≠ C := fun z => by
    have h1 := X _ _ hC
    rw [← z, hx] at h1
    cases h1
  have hsup : alongIn K "__init__" (((Value.ref C :: bm).dropWhile (· != .ref C)).drop 1) = some (some (.builtin "ValueError.__init__")) := by
    have := T.sup
    unfold ks_superIn at this
    rw [hcl] at this
    exact this
  have hx₀ := hk _ _ hx
  have I : InstAt h₀ x (excO C t0) C none := ⟨hx₀, rfl, rfl, trivial⟩
  have hml : Looks (model prog w) h₀ (mroOf (.ref C)) (.ref C :: bm) := fun A Q E s k q => wpAny_bind ((looks_clsIn X₀ hcl) A _ E s k (wpAny_pure q))
  have hsubC : Looks (model prog w) h₀ (isSubtype (.ref C) (.ref C)) true := by
    refine looks_mroIn X₀ ?_
    unfold mroIn
    rw [hcl, Option.bind_some, if_neg (show ¬ (List.isEmpty (Value.ref C :: bm) = true) from Bool.false_ne_true), List.contains_cons, beq_self_eq_true, Bool.true_or]
  show wpAt _ _ _ (execs _ _) _ _ _
  refine ks_wpAt_execs_cons (ks_wpAt_Expr_any ?_ (by rfl) (by rfl))
  refine ks_wpAt_MethodCall ?_ (by
    have hpos : ∀ (o : Expr) (env : Env), methodCallPos true o env q3 q8 = pure q8 := fun o env => by unfold methodCallPos; simp [hline]
    rw [arm_eval_Call]
    unfold methodCall
    have hform : ∀ (l : List (Bool × Sem Value)) (k : List (Option Str × Sem Value)), methodCallForm 1 [(false, l.head!.2)] [] = true := fun _ _ => rfl
    show (do
      let ov ← _
      standAt _
      let (f, first) ← holding [ov] (calleeOf true _ _ ov _)
      let callPos ← methodCallPos true _ _ q3 q8
      callWith callPos f first _ _) = _
    simp only [hpos]
    rfl)
  refine ks_wpAt_super_base rfl rfl rfl rfl (X₀ _ _ ho) rfl rfl rfl (X₀ _ _ hca) rfl hvs hfile T.top ?_
  refine ks_loadName_global rfl rfl (loadGlobal_builtin (hglob.keeps hk) T.gS (hb.keeps hk) hbs ⟨rfl, ?_⟩)
  refine wpAny_loadName_free rfl rfl rfl ⟨_, X₀ _ _ hcell, rfl⟩ ?_
  refine wpAny_loadName_local (v := .ref x) rfl rfl hns rfl ?_
  obtain ⟨hh, g, d, t, os⟩ := s
  refine ks_wpAny_isType_cls (X₀ _ _ hC) rfl ⟨rfl, ?_⟩
  refine ks_wpAny_call_super (X₀ _ _ hC) rfl hx₀ rfl (fun c e => by cases e) hsubC fun h1 e1 k1 => ?_
  refine kxs_getMethod kxs_ValueError e1 (looks_opaque (X₀.keeps k1) T.own) (hml.keeps k1) rfl (X₀.keeps k1) hsup ((show InstAt h1 x (excO C t0) C none from ⟨k1 _ _ hx₀, rfl, rfl, trivial⟩).type.andThen (looks_subIn (X₀.keeps k1) T.veC)) hxC (by decide) ?_
  have k2 : ∀ b o, hh.get? b = some o → (h1.push (kxs_mw "ValueError.__init__" x)).get? b = some o := fun b o e => Heap.get?_push_of_some _ (k1 b o (hk b o e))
  have hns2 := (hns.keeps k1).keeps (h' := h1.push (kxs_mw "ValueError.__init__" x)) fun b o e => Heap.get?_push_of_some _ e
  have eu : (h1.push (kxs_mw "ValueError.__init__" x)).get? h1.objs.size = some (kxs_mw "ValueError.__init__" x) := Heap.get?_push_size _ rfl
  refine kxs_callWith (i := "ValueError.__init__") (x := x) (by rfl) ?_
  have l1 : (Str.empty ++ msg).length ≤ sizeLine := by rw [strLen_append, sizeLine_eq]; show 0 + msg.length ≤ _; omega
  have l2 : (Str.empty ++ msg ++ n).length ≤ sizeLine := by rw [strLen_append, strLen_append, sizeLine_eq]; show 0 + msg.length + n.length ≤ _; omega
  refine evalArgs_plain (spliced_cons (wpAny_JoinedStr (pos := q7) (Calls.Constant_str ⟨msg, _, rfl, l1, ?_⟩)))
  refine wpAny_FormattedValue_plain (wpAny_Name (wpAny_loadName_local (v := .str n tn) rfl rfl hns2 rfl (PyProof.Rows.formatField_str (fun t' tk => ⟨n, t', rfl, l2, l2, ?_⟩) (by rw [sizeLine_eq]; omega))) (by decide))
  refine spliced_nil ⟨eu, ?_⟩
  refine call_mw (k2 _ _ (X _ _ hC)) (Heap.get?_push_of_some _ (k1 _ _ hx₀)) eu (by rw [sizeLine_eq]; show 1 ≤ 16777216; omega) fun h3 t1 k3 e3 => ?_
  -- self.name = name
  have k4 : ∀ b o, b ≠ x → hh.get? b = some o → h3.get? b = some o := fun b o hb e => k3 b o hb (k2 b o e)
  have X3 : K.In h3 := fun b o e => k4 b o (fun z => by rw [z, hnx] at e; cases e) (X b o e)
  have hxL : hh.objs.size ≠ x := Nat.ne_of_gt (Heap.lt_size hx)
  have hns3 := hns2.at' (h' := h3) fun o e => k3 _ o hxL e
  refine wpAt_of_wpAny (wpAny_execs_cons (plainObj_wpAny_Assign_Attribute ?_))
  refine wpAny_Name (wpAny_loadName_local (v := .str n tn) rfl rfl hns3 rfl ?_) (by decide)
  refine wpAny_Name (wpAny_loadName_local (v := .ref x) rfl rfl hns3 rfl ?_) (by decide)
  refine set_plain X3 (ox := excO C t1) (od := none) ⟨e3, rfl, rfl, trivial⟩ T.sa ?_
  refine exc_osa X3 e3 hcl (show refsVE (.ref C :: bm) = true from hbm) rfl T.noN (fun h₃ tk₃ dx k₃ dn dne hx₃ hn₃ => ?_)
  have hsz : hh.objs.size ≤ dx := by
    have h1 : h3.get? hh.objs.size ≠ none := by
      obtain ⟨o, es, ep, ho', _⟩ := hns3
      rw [ho']; simp
    have h2 : hh.objs.size < h3.objs.size := by
      cases q : h3.get? hh.objs.size with
      | none => exact absurd q h1
      | some o => exact Heap.lt_size q
    exact Nat.le_of_lt (Nat.lt_of_lt_of_le h2 dn)
  exact wpAny_execs_nil (hq h₃ tk₃ t1 dx ⟨fun b o hb e => k₃ b o hb (k4 b o hb e), hx₃, hsz, dne, hn₃⟩)
/-- a made BadArgument -/
structure Made (h h' : Heap) (e C d : Addr) (v : Value) : Prop where
  keep : ∀ b o, h.get? b = some o → h'.get? b = some o
  new : h.objs.size ≤ e
  obj : ∃ oe vs, h'.get? e = some oe ∧ oe.cls = .ref C ∧ oe.dict = some d ∧ oe.data = .fields vs ∧ vs[1]? = some .none
  dbig : h.objs.size ≤ d
  dne : d ≠ e
  ns : h'.Ns1 d (fun y => if y = "name" then some v else none)
theorem bad_made (T : BadTxt prog K mg C fI cc) {n : Str} {tn : Tok} (X : K.In s.heap) (hlim : s.heap.NoLimit) (hglob : s.heap.Ns mainGlobals mg) (hb : s.heap.Ns builtinsNs mb) (hbs : mb "super" = some (.type "super")) (hroom : A.depth + 1 < recursionLimit) (hn : n.length ≤ 1000)
    (hq : ∀ h' tk e d, Made s.heap h' e C d (.str n tn) → R (.ok (.ret (.ref e))) { s with heap := h', toks := tk }) :
    codeAny (model prog w) A (.call (.ref C) ⟨[.str n tn], []⟩) R s := by
  obtain ⟨nm, q, N, bs, bm, sn, sub, ab, col, dd, k0, k1, k2, k3, k5, hC, hbm⟩ := T.cls
  obtain ⟨hp, g, dr, tk, os⟩ := s
  have k : ∀ b o, hp.get? b = some o → ((hp.push (kdv_tup [.str n tn])).push (excO C hp.objs.size)).get? b = some o := fun b o e => Heap.get?_push_of_some _ (Heap.get?_push_of_some _ e)
  have hget : ((hp.push (kdv_tup [.str n tn])).push (excO C hp.objs.size)).get? (hp.objs.size + 1) = some (excO C hp.objs.size) := by heap_get
  have hnx : K.lookup (hp.objs.size + 1) = none := by
    cases e : K.lookup (hp.objs.size + 1) with
    | none => rfl
    | some o =>
      have z : hp.get? (hp.objs.size + 1) = some o := X _ _ e
      exact absurd (Nat.lt_of_succ_lt (Heap.lt_size z)) (Nat.lt_irrefl _)
  refine call_own F.excBase_ValueError (fun X => refsVE_contains X bm hbm) (X _ _ hC) (looks_findIn X T.iC) (fun self => bind_fn X self T.tC) (by rw [sizeLine_eq]; show 1 ≤ 16777216; omega) ?_
  refine bad_init (mb := mb) (s := ⟨(hp.push (kdv_tup [.str n tn])).push (excO C hp.objs.size), g, dr, tk, os⟩) T (X.keeps k) (hlim.keeps k) (hglob.keeps k) (hb.keeps k) hbs hget hnx ?_ hn fun h' tk' t1 dx ⟨k', hx, dn, dne, hns⟩ => ?_
  · show A.depth + 1 < recursionLimit
    exact hroom
  · have old : ∀ b o, hp.get? b = some o → h'.get? b = some o := fun b o e => k' b o (Nat.ne_of_lt (Nat.lt_succ_of_lt (Heap.lt_size e))) (k b o e)
    have z : hp.objs.size + 1 + 1 ≤ dx := by
      first
        | (simpa only [Heap.size_push] using dn)
        | exact dn
        | (have q := dn; rw [Heap.size_push, Heap.size_push] at q; exact q)
    exact ⟨rfl, hq h' tk' (hp.objs.size + 1) dx ⟨old, Nat.le_succ _, ⟨_, _, hx, rfl, rfl, rfl, rfl⟩, Nat.le_trans (Nat.le_trans (Nat.le_succ _) (Nat.le_succ _)) z, dne, hns⟩⟩
end
end BadX
end PySem
namespace DD
open PySem PySem.Spec PyProof.Rows L2
theorem relO_name {v : V} {v' : Value} (r : RelV v v') (f : Str) : RelO (List.lookup f [(("name" : Str), v)]) (if f = "name" then some v' else none) := by
  rw [lookup_put]
  by_cases h : f = "name"
  · rw [if_pos h, if_pos h]; exact r
  · rw [if_neg h, if_neg h]; trivial
section
variable {X : Cx} {C fI cc : Addr}
/-- BadArgument(e), e a text -/
def tMkBad (C : Addr) (ta : TA) : L2.St → Hp → XK → Prop := fun σ H Q => ta σ H fun vs H1 => ∃ n : Str, vs = [.str n] ∧ n.length ≤ 1000 ∧ ∀ d, H1 d = none → Q (.ref C) (some d) (upd H1 d (.xd [(("name" : Str), .str n)]))
theorem pmk_bad {a : Expr} {ta : TA} {p pos : Pos} {k : Nat} (T : BadTxt X.prog X.K X.mg C fI cc) (hr : Room k X.A) (ha : PA X [a] ta) (hg : Gl X "BadArgument" := by rfl)
    (he : starEach (a :: []) X.env = (false, eval a X.env) :: starEach [] X.env := by rfl) (hpl : (backTo pos (starEach [] X.env)).any (·.1) = false := by rfl) :
    PMk X (.Call (.Name "BadArgument" p) [a] [] pos) (tMkBad C ta) := by
  intro pins s σ H Q I h
  refine wpAny_Call_Name_kw (ld_glob I hg T.gC ?_)
  refine PySem.W.callWith_K (h₀ := X.base) I.ok.mod.kin T.kC (thn (ha.run pos pins s σ H _ I h) fun us s1 hh => ?_) he hpl
  obtain ⟨vs, H1, I1, r1, n, ev, hn, q1⟩ := hh
  subst ev
  refine ⟨I1.kIn, ?_⟩
  cases r1 with
  | cons rv rn =>
    rename_i v' us'
    cases rn
    obtain ⟨tn, rfl⟩ := rv
    show wpAny _ _ (call (.ref C) [.str n tn]) _ _ _
    have hlim := I1.nolimit
    obtain ⟨mb, hmb, hbb⟩ := I1.mod.blt
    have hglob := I1.mod.glob.keeps I1.bk
    have hmb' := hmb.keeps I1.bk
    obtain ⟨hp, g, dr, tk, os⟩ := s1
    refine wpAny_call (PySem.BadX.bad_made (mb := mb) T I1.kIn hlim hglob hmb' ((hbb _ (by decide)).trans (by decide +kernel)) (by have := hr.dp; omega) hn fun h' tk' e d M => ?_)
    show MkP X pins σ Q (.ref e) ⟨h', g, dr, tk', os⟩
    obtain ⟨oe, fv, hoe, hc, hd, hdat, h1⟩ := M.obj
    have hns := M.ns
    obtain ⟨G', g1, g2⟩ := restrict h' fun b => decide (b ≠ e)
    have gk : ∀ b, b ≠ e → G'.get? b = h'.get? b := fun b hb => g1 b (decide_eq_true hb)
    have ge : G'.get? e = none := g2 e (by simp)
    have old : ∀ b o, hp.get? b = some o → G'.get? b = some o := fun b o q => (gk b (Nat.ne_of_lt (Nat.lt_of_lt_of_le (Heap.lt_size q) M.new))).trans (M.keep b o q)
    have ob : ObjOk X.prog X.w (upd H1 d (.xd [(("name" : Str), .str n)])) G' d (.xd [(("name" : Str), .str n)]) :=
      ⟨_, hns.at (fun o q => (gk d M.dne).trans q), fun f => relO_name (v := .str n) ⟨tn, rfl⟩ f⟩
    have J : Inv X pins σ (upd H1 d (.xd [(("name" : Str), .str n)])) ⟨G', g, dr, tk', os⟩ := I1.laid (t' := tk') old M.dbig ob
    refine ⟨e, oe, fv, ⟨G', g, dr, tk', os⟩, _, .ref C, some d, rfl, J, fun b o q => ?_, ge, hoe, ⟨hc, hd⟩, hdat, h1, ?_, rfl, I1.bare, raises_own T.exC T.tyC, q1 d (I1.hok.fresh M.dbig)⟩
    · by_cases hb : b = e
      · have q' : G'.get? b = some o := q
        rw [hb, ge] at q'; cases q'
      · exact (gk b hb).symm.trans q
    · rw [upd_ne (Ne.symm M.dne)]
      exact I1.hok.fresh M.new
end
end DD
set_option maxRecDepth 100000
set_option maxHeartbeats 4000000
/-! SemN: raise BadArgument(..) over data; isinstance of a caught error that has a dict; a try whose first clause catches. -/
namespace PySem.W
open PySem PySem.Spec PySem.Calls PyProof.Rows
section
variable {prog : Program} {w : World} {A : Around} {E : Value → Shared → Prop} {s : Shared} {K : Frag} {x D : Addr} {ox : Obj}
theorem dd_findObj {C : Addr} {od : Option Obj} {name : Str} {a g : Value} (hc : (clsIn K C).isSome = true) (ha : findIn K (.ref C) name = some (some a)) (hg : specialIn K a "__get__" = some (some g)) (ht : takesIn K a = some true) : findObj K C od name = some (.bind g a) := by
  obtain ⟨cd, hc⟩ := Option.isSome_iff_exists.mp hc
  unfold findObj
  rw [hc, Option.bind_some, ha, Option.bind_some]
  simp [hg, ht]
theorem dd_class {od : Option Obj} {Q : Option Value → Shared → Prop} (hga : findIn K (.ref D) "__getattribute__" = some (some (.builtin "BaseException.__getattribute__"))) (hgt : findIn K (.ref D) "__getattr__" = some none) (hsub : subIn K (.ref D) (.type "BaseException") = some true)
    (hdct : hasDictIn K D = true) (ha : findIn K (.ref D) "__class__" = some (some (.builtin "object.__class__")))
    (hn : specialIn K (.builtin "object.__class__") "__get__" = some (some (.builtin "getset_descriptor.__get__"))) (htk : takesIn K (.builtin "object.__class__") = some true) (hm : mroIn K D (.type "object") = some true)
    (X : K.In s.heap) (I : InstAt s.heap x ox D od) (h : Q (some (.ref D)) { s with toks := s.toks + 1 }) : wpAny (model prog w) A (getAttr? (.ref x) "__class__") Q E s := by
  have hf : findObj K D od "__class__" = some (.bind (.builtin "getset_descriptor.__get__") (.builtin "object.__class__")) := dd_findObj (by obtain ⟨cd, hc, _⟩ := any_some hdct; rw [hc]; rfl) ha hn htk
  obtain ⟨hp, g, d, t, os⟩ := s
  have L0 := I.type (M := model prog w)
  have L1 := looks_findIn (M := model prog w) X hga
  have L2 := looks_findIn (M := model prog w) X hgt
  have L3 := looks_find (M := model prog w) X I hf
  have sub : Looks (model prog w) hp (isInstance (.ref x) (.type "BaseException")) true := L0.andThen (looks_subIn X hsub)
  have hx0 : (false && onTheHeap (Value.builtin "BaseException.__getattribute__")) = false := rfl
  have hx2 : (Value.builtin "BaseException.__getattribute__" == Value.builtin "object.__getattribute__") = false := by decide +kernel
  have hx1 : (onTheHeap (Value.ref D) && Value.builtin "BaseException.__getattribute__" == Value.builtin "object.__getattribute__") = false := by rw [hx2]; rfl
  unfold getAttr? getAttrBy? getAttrBy
  refine wpAny_bind (wpAny_mkText (wpAny_bind (wpAny_attempt (wpAny_holding (wpAny_bind (L0.at (wpAny_bind (L1.at ?_))))))))
  show wpAny _ _ (if (onTheHeap (Value.ref D) && Value.builtin "BaseException.__getattribute__" == Value.builtin "object.__getattribute__") = true then _ else _) _ _ _
  rw [hx1, if_neg Bool.false_ne_true]
  unfold getAttrByItsOwn hookBefore
  refine wpAny_bind ?_
  rw [if_pos (show onTheHeap (Value.ref D) = true from rfl)]
  refine L2.at ?_
  refine wpAny_bind (wpAny_attempt (wpAny_holding ?_))
  unfold callGetattribute
  rw [hx0, if_neg Bool.false_ne_true]
  unfold boundAndCalled
  rw [PySem.F.excAttr_ValueError.ga.bind (.ref x)]
  refine wpAny_bind (wpAny_pure ?_)
  show wpAny _ _ (call (.builtin "BaseException.__getattribute__") [.ref x, .str "__class__" t]) _ _ _
  refine wpAny_call (codeAny_call_builtin PySem.F.excAttr_ValueError.ga.plain PySem.F.entry_bexc_ga ?_)
  refine @check_slot (model prog w) _ _ ⟨hp, g, d, t + 1, os⟩ "BaseException.__getattribute__" "BaseException" "__getattribute__" (.ref x) [.str "__class__" t] [] _ (by decide +kernel) (by decide +kernel) sub (PySem.F.args_bexc_ga (.ref x) (.str "__class__" t)) ?_
  unfold Builtin.«object.__getattribute__»
  refine wpAny_bind (wpAny_of_eq (a := ((Value.ref x : Value), [Value.str "__class__" t])) (by first | rfl | (simp only [slotArgs]; rfl)) ?_)
  refine wpAny_bind (wpAny_pure (wpAny_bind (L0.at (wpAny_bind (L3.at ?_)))))
  show wpAny _ _ (holding [Value.builtin "object.__class__"] (call (.builtin "getset_descriptor.__get__") [.builtin "object.__class__", .ref x, .ref D]) >>= ret) _ _ _
  refine wpAny_bind (wpAny_holding (wpAny_call (class_get (s := ⟨hp, g, d, t + 1, os⟩) (ox := ox) (od := od) X I hm ?_)))
  refine wpAny_pure ?_
  show wpAny _ _ (handedOut (.ref D)) _ _ _
  rw [handedOut_of (v := .ref D) rfl]
  first
    | exact wpAny_pure (wpAny_pure h)
    | exact wpAny_pure h
    | exact wpAny_pure (wpAny_bind (wpAny_pure (wpAny_pure h)))
theorem dd_kitx {od : Option Obj} (hga : findIn K (.ref D) "__getattribute__" = some (some (.builtin "BaseException.__getattribute__"))) (hgt : findIn K (.ref D) "__getattr__" = some none) (hsub : subIn K (.ref D) (.type "BaseException") = some true) (hdct : hasDictIn K D = true) (ha : findIn K (.ref D) "__class__" = some (some (.builtin "object.__class__")))
    (hn : specialIn K (.builtin "object.__class__") "__get__" = some (some (.builtin "getset_descriptor.__get__"))) (htk : takesIn K (.builtin "object.__class__") = some true) (hm : mroIn K D (.type "object") = some true) :
    KitX K (.ref x) (.ref D) (fun h => InstAt h x ox D od) where
  ty := fun _ _ _ I => I.type
  it := fun _ _ X _ => by
    obtain ⟨cdD, hcD, _⟩ := any_some hdct
    unfold clsIn at hcD
    split at hcD
    · rename_i c' d' cd' sl' ho
      intro A' Q' E' s' k q
      unfold isType loadHead
      exact wpAny_bind (wpAny_loadPart (k _ _ (X _ _ ho)) (wpAny_pure q))
    · cases hcD
  ne := fun h tp dd its n sl X htp => by
    obtain ⟨cdD, hcD, _⟩ := any_some hdct
    refine Bool.eq_false_iff.mpr fun q => ?_
    have e : D = tp := Value.ref.inj (beq_iff_eq.mp q)
    subst e
    unfold clsIn at hcD
    split at hcD
    · rename_i c' d' cd' sl' ho
      have z := (X _ _ ho).symm.trans htp
      cases z
    · cases hcD
  ca := fun X I k => dd_class hga hgt hsub hdct ha hn htk hm X I k
end
end PySem.W
namespace DD
open PySem PySem.Spec PyProof.Rows L2
/-- isinstance(e, c), e the exception that the suite holds, its dict at d -/
def rIsD (K : PySem.W.Frag) (C a d : Addr) : List V → Hp → VK → Prop := fun xs H Q => ∃ (c : V) (cv : Value) (b : Bool) (fs : List (Str × V)), xs = [.ref a, c] ∧ (∀ u, RelV c u → u = cv) ∧ PySem.W.kitOne K (.ref C) cv = some b ∧ H d = some (.xd fs) ∧ Q (.bl b) H
theorem call_isD {X : Cx} {a C d : Addr} {oe : Obj} {pn : List (Addr × Obj)} (T : ExcC X.K C) (hz : Zc (.ref C) (some d) oe) (hf : ∃ vs, oe.data = .fields vs) : CallR (X.suite a ((a, oe) :: pn)) (.builtin "isinstance") (rIsD X.K C a d) := by
  intro pins s σ H xs us Q I r h
  obtain ⟨c, cv, b, fs, rfl, hcv, e, hd, q⟩ := h
  cases r with
  | cons rx rr =>
    cases rr with
    | cons rt rr =>
      cases rr
      cases rx
      have ec := hcv _ rt
      subst ec
      obtain ⟨hget, _⟩ := I.pin (a, oe) (List.mem_append.mpr (.inl List.mem_cons_self))
      obtain ⟨vs, hv⟩ := hf
      have hx : ObjOk X.prog X.w H s.heap d (.xd fs) := I.hok d _ hd
      obtain ⟨mA, hns, _⟩ := hx
      obtain ⟨od, _, _, ho, _⟩ := hns
      have J : PySem.W.InstAt s.heap a oe C (some od) := ⟨hget, hz.1, by unfold PySem.W.notCls; rw [hv] <;> rfl, by rw [hz.2]; exact ho⟩
      exact PySem.W.kia_one (PySem.W.dd_kitx T.hg T.hk T.hs T.hd T.ha T.hn T.ht T.hm) I.kIn J e (fun z => nomatch z) fun tk => ⟨.bl b, H, I.kept (t' := tk) fun _ _ z => z, rfl, q⟩
/-- what a first clause 'except x as n' wishes: it catches -/
def wFst (K : PySem.W.Frag) (c : Value) (i m : Nat) (ts : Addr → Value → Option Addr → TS) (D : Ends) : WX := fun cls d σ H =>
  PySem.W.exmOne K cls c = some true ∧ ∀ a, H a = none → σ.length = m → ts a cls d { nx := fun σ' H' => D.nx (σ'.set i none) H', rt := D.rt, bk := fun σ' H' => D.bk (σ'.set i none) H', ct := fun σ' H' => D.ct (σ'.set i none) H' } (σ.set i (some (.ref a))) H
section
variable {X : Cx} {x n : Str} {c : Value} {i : Nat} {body suite : List Stmt} {b₀ : Stmt} {hds : List ExceptHandler} {np pos pos' : Pos} {tb : WX → TS} {ts : Addr → Value → Option Addr → TS}
theorem ps_try_first (hs : X.stack = X.env :: X.outer) (hf : X.env.frame = some X.env.locals) (hN : X.N.Nodup) (hi : X.N[i]? = some n) (hln : X.env.kindOf n = some .local) (hc : Names X x c)
    (hb : ∀ (W : WX) (pn : List (Addr × Obj)) (xe : Value → Shared → Prop), Takes (X.tr pn xe) W → PassesOwn (model X.prog X.w) X.A X.env xe → PSs (X.tr pn xe) body (tb W))
    (hsu : ∀ (a : Addr) (oe : Obj) (cls : Value) (d : Option Addr) (pn : List (Addr × Obj)), Zc cls d oe → (∃ vs, oe.data = .fields vs) → PSs (X.suite a ((a, oe) :: pn)) (b₀ :: suite) (ts a cls d)) :
    PS X (.Try body (.ExceptHandler (some (.Name x np)) (some n) (b₀ :: suite) pos' :: hds) [] [] pos) (fun D σ H => tb (wFst X.K c i X.N.length ts D) D σ H) := by
  refine ⟨fun pins s σ H D I h => ?_⟩
  have ok := I.ok
  have hfr : X.A.frames = some (X.env :: X.outer) := by rw [ok.frames, hs]
  have hloc : Loc X.env.scope n := .inl hln
  refine wpAny_Try_except ?_
  refine wpAny_mono ((hb (wFst X.K c i X.N.length ts D) (X.pn ++ pins) (fun e s₁ => wpAny (model X.prog X.w) X.A (noteFrame e X.env) (fun _ s₂ => wpAny (model X.prog X.w) X.A (setFlight e none) (fun _ s₃ =>
    wpAny (model X.prog X.w) X.A (handleBy e X.env (.ExceptHandler (some (.Name x np)) (some n) (b₀ :: suite) pos' :: hds)) (SP X pins D) X.xe s₃) X.xe s₂) X.xe s₁) (fun u s' xx => ?_) PassesOwn.looking).run [] s σ H D (I.toTry _) h) (fun f s1 hsp => ?_) (fun e s1 he => he)
  · -- the catch
    obtain ⟨a, B, sI, pins', σ', H', cls, d, rfl, J', nb, up, sky, na, os, ag, hb1, hyes⟩ := xx
    have J : Inv X pins σ' H' sI := J'.ofTry ok
    have sky' : Sky B (X.env :: X.outer) a (Zc cls d) X.env.locals s'.heap := by rw [← hs]; exact sky
    show wpAny (model X.prog X.w) X.A (noteFrame (.ref a) X.env) _ _ _
    refine Sky.land Zc.steady hfr hf sky' fun h3 fl3 up3 => ?_
    have J3 : Inv X pins σ' H' { s' with heap := h3 } := J.landed nb fl3.1 (up.trans up3) os ag
    obtain ⟨oe3, vs3, he3, hz3, hd3⟩ := fl3.there
    have notFr : ∀ {h : Heap} {o : Obj} {vs : Array Value}, h.FunFrames B (X.env :: X.outer) → h.get? a = some o → o.data = .fields vs → a ∉ frs (X.env :: X.outer) := fun {h o vs} ff e dd hm => by
      obtain ⟨_, o', e', hnf⟩ := ff.mem hm
      rw [e] at e'; cases e'
      exact hnf _ dd
    have nfr := notFr fl3.2.2.1 he3 hd3
    have nL : a ≠ X.env.locals := fun z => nfr (List.mem_filterMap.mpr ⟨X.env, List.mem_cons_self, by rw [hf, z]⟩)
    have nF : a ∉ X.fs := fun hm => by
      obtain ⟨e, he, q⟩ := List.mem_filterMap.mp hm
      exact nfr (List.mem_filterMap.mpr ⟨e, List.mem_cons_of_mem _ he, q⟩)
    have S3 := J3.suite he3 hd3 na nL nF
    refine wpAny_handleBy_cons (codeAny_handlers_test ?_) (by intro q; cases q)
    have LT : PySem.W.Looks (model X.prog X.w) h3 (typeOf (.ref a)) cls := fun A Q E s k q => wpAny_typeOf_ref (k _ _ he3) (by rw [hz3.1]; exact q)
    have LM := PySem.W.exm_one (M := model X.prog X.w) (J3.kIn) LT hb1
    have test : ∀ {Q : Value → Shared → Prop} {E : Value → Shared → Prop}, Q c { s' with heap := h3 } → wpAny (model X.prog X.w) (X.A.mark (some (.ref a))) (eval (.Name x np) X.env) Q E { s' with heap := h3 } := fun {Q E} q => by
      obtain ⟨hg, hdbg, hm | ⟨hm, hv, hnn⟩⟩ := hc
      · exact ld_glob (X := X.suite a ((a, oe3) :: (X.pn ++ pins))) S3 hg hm q hdbg
      · exact ld_blt (X := X.suite a ((a, oe3) :: (X.pn ++ pins))) S3 hg hm hv q hnn hdbg
    refine test (LM.here ?_)
    refine codeAny_handlers_suite_as ?_
    refine HandSPX.lands_againZ fl3 fun h4 fl4 up4 => ?_
    have J4 : Inv X pins σ' H' { s' with heap := h4 } := J.landed nb fl4.1 ((up.trans up3).trans up4) os ag
    obtain ⟨oe4, vs4, he4, hz4, hd4⟩ := fl4.there
    have S4 := J4.suite he4 hd4 na nL nF
    refine store_ok (X := X.suite a ((a, oe4) :: (X.pn ++ pins))) (v := .ref a) S4 hN hi hloc rfl (fun s5 S5 => ?_) (.inr hln)
    refine wpAny_mono ((hsu a oe4 cls d (X.pn ++ pins) hz4 ⟨_, hd4⟩).run [] s5 _ H' _ S5 (hyes a na J.len)) (fun f s6 hsp => ?_) (fun _ _ z => False.elim z)
    have end_ : ∀ {σ6 : L2.St} {H6 : Hp} {Q : Shared → Prop}, Inv (X.suite a ((a, oe4) :: (X.pn ++ pins))) [] σ6 H6 s6 → (∀ s7, Inv X pins (σ6.set i none) H6 s7 → Q s7) →
        wpAny (model X.prog X.w) X.A (do bindName X.env n .none; unbindBehindTheSuite X.env n pos') (fun _ s7 => Q s7) X.xe s6 := fun {σ6 H6 Q} S6 hq => gone_ok (S6.unsuite ok) hN hi hln hq
    cases f with
    | next =>
      obtain ⟨σ6, H6, S6, q6⟩ := hsp
      exact end_ S6 fun s7 J7 => ⟨_, _, J7, q6⟩
    | brk =>
      obtain ⟨σ6, H6, S6, q6⟩ := hsp
      exact end_ S6 fun s7 J7 => ⟨_, _, J7, q6⟩
    | cont =>
      obtain ⟨σ6, H6, S6, q6⟩ := hsp
      exact end_ S6 fun s7 J7 => ⟨_, _, J7, q6⟩
    | ret u =>
      obtain ⟨v6, σ6, H6, S6, r6, q6⟩ := hsp
      exact end_ S6 fun s7 J7 => ⟨_, _, _, J7, r6, q6⟩
  · cases f with
    | next =>
      obtain ⟨σ', H', J', q⟩ := hsp
      exact wpAny_execs_nil ⟨σ', H', J'.ofTry ok, q⟩
    | brk =>
      obtain ⟨σ', H', J', q⟩ := hsp
      exact ⟨σ', H', J'.ofTry ok, q⟩
    | cont =>
      obtain ⟨σ', H', J', q⟩ := hsp
      exact ⟨σ', H', J'.ofTry ok, q⟩
    | ret u =>
      obtain ⟨v, σ', H', J', r, q⟩ := hsp
      exact ⟨v, σ', H', J'.ofTry ok, r, q⟩
end
/-! ### raise BadArgument(..) over data -/
section
variable {p : Par} {X : Cx} {pos : Pos} {a : Expr} {C fI cc : Addr}
def wRaise (w : WE) : WS := fun D ρ => w ρ (fun d => ∃ n, d = .str n ∧ n.length ≤ 1000 ∧ D.ex (.bad n)) D.ex
theorem ds_raiseBad {w : WE} {q pos2 : Pos} {k : Nat} (hc : X.calm = true) (T : BadTxt X.prog X.K X.mg C fI cc) (hC : p.cBad = C) (hr : Room k X.A) (tk : Takes X (fun cls d _ H => p.E cls d H)) (h : DE p X a w) (hg : Gl X "BadArgument" := by rfl)
    (he : starEach (a :: []) X.env = (false, eval a X.env) :: starEach [] X.env := by rfl) (hpl : (backTo pos (starEach [] X.env)).any (·.1) = false := by rfl) : DS p X (.Raise (some (.Call (.Name "BadArgument" q) [a] [] pos)) none pos2) (wRaise w) := by
  refine ⟨ps_use (ps_raise hc tk (pmk_bad T hr (pa_cons h.pe pa_nil he) hg he hpl)) fun D σ H hk ⟨ρ, O, EX, R, ex, hw⟩ => ⟨ρ, O, EX, R, ex, h.mono _ _ _ _ (fun d ⟨n, z, hn, q⟩ v H1 hk1 e1 r1 => ?_) hw⟩, fun D D' ρ hd q => ?_⟩
  · subst z
    rw [r1.b.str]
    refine ⟨n, rfl, hn, fun dd hdd => ?_⟩
    have e2 := Ext.new (o := .xd [(("name" : Str), .str n)]) e1.wd hdd
    exact ex (.bad n) _ _ _ q (R.ext.trans (e1.trans e2)) ⟨by show Value.ref C = .ref p.cBad; rw [hC], dd, rfl, by unfold L2.upd; rw [if_pos rfl]⟩
  · unfold wRaise at q ⊢
    rw [← hd.ex]
    exact q
end
end DD
set_option maxRecDepth 100000
set_option maxHeartbeats 4000000
/-! SemO: _law_heard(lambda: e) over data. -/
namespace DD
open PySem PySem.Spec PyProof.Rows L2 LamX
/-! ### a lambda handed to a def, all other tables told of -/
section
variable {X : Cx} {pins : List (Addr × Obj)} {σ : L2.St} {H : Hp} {s : Shared}
theorem lam_make3 {T : List (Addr × Str)} {c P : Addr} {params : Arguments} {body : Expr} {scope : Scope} {pos : Pos} {E : Value → Shared → Prop} {Q : Value → Shared → Prop} (I : Inv X pins σ H s) (TB : TabB X.base X.mg c P) (hcode : X.env.code = .ref c)
    (hm : (P, X.env.qual ++ "<lambda>") ∈ T) (hu : ∀ p ∈ T, p.1 = P → p.2 = X.env.qual ++ "<lambda>") (hT : Tabs T H) (hdef : defaultsOf params X.env = ([], [])) (hfree : ∀ y ∈ scope.names, y.2 = .free → ∃ c, X.env.cells.lookup y.1 = some c)
    (h : ∀ (f c' : Addr) (pm ctv : Value) (H1 : Hp) (s' : Shared), Inv X pins σ H1 s' → ExtN H H1 → (∀ b, b ≠ P → H b ≠ none → H1 b = H b) → Tabs T H1 →
      s'.heap.get? f = some (PySem.W.kla_obj "<lambda>" (X.env.qual ++ "<lambda>") params body scope (cloFrom X.env.cells scope.names []) pm c' ctv) → H1 f = none → f ∉ frs X.stack → H1 c' = some (CodeO c' (X.env.qual ++ "<lambda>")) → Q (.ref f) s') :
    wpAny (model X.prog X.w) X.A (eval (.Lambda params body scope pos) X.env) Q E s := by
  obtain ⟨ps, hP, ht, ha⟩ := hT _ hm
  refine PySem.W.kla_eval hdef ?_
  have bP : s.heap.BuiltinsAt X.mg P := TB.bm.keeps I.bk
  have hP' : s.heap.get? P = some { cls := .none, data := .fields ps } := I.hok P _ hP
  have nofr : ∀ f, s.heap.objs.size ≤ f → f ∉ frs X.stack := fun f hf z => by
    rcases List.mem_cons.mp (I.stkSub _ z) with e | e
    · have h1 := I.lt
      rw [← e] at h1
      exact Nat.lt_irrefl _ (Nat.lt_of_lt_of_le h1 hf)
    · exact I.nofs hf e
  cases hc : codeAmong pos ps.toList with
  | none =>
    refine PySem.W.kla_makeFunction (mg := X.mg) (c := c) (P := P) (ps := ps) (closure_ok hfree) I.ok.glob (I.mod.glob.keeps I.bk) hcode (TB.code.keeps I.bk) hP' ht hc TB.gP bP fun c' ctv h' tk hx hge hlt hrec htb => ?_
    obtain ⟨c2, oc, vs, t, e2, hoc, hd, hv⟩ := hrec
    cases e2
    have hsz : s.heap.objs.size ≤ h'.objs.size := Nat.le_trans hge (Nat.le_of_lt hlt)
    have nC : H c' = none := I.hok.fresh hge
    have I1 := inv_table (t' := tk) (more := #[rawInt pos.line, rawInt pos.col, .ref c']) (h' := h'.push (PySem.W.kla_obj "<lambda>" (X.env.qual ++ "<lambda>") params body scope (cloFrom X.env.cells scope.names []) ((X.mg "__name__").getD .none) c' ctv)) I hP
      (fun b o hb e => Heap.get?_push_of_some _ (hx b o hb e)) (Heap.get?_push_of_some _ htb) hge ⟨oc, vs, t, Heap.get?_push_of_some _ hoc, hd, hv⟩
    have hE : ExtN H (upd (upd H P (.tbl (ps ++ #[rawInt pos.line, rawInt pos.col, .ref c']))) c' (CodeO c' (X.env.qual ++ "<lambda>"))) := fun b o e n => by
      rw [upd_ne (ne_of_none e nC), upd_ne (fun z => n ps (Option.some.inj (e.symm.trans (by rw [z]; exact hP))))]
      exact e
    have eL : (ps ++ #[rawInt pos.line, rawInt pos.col, .ref c']).toList = ps.toList ++ [rawInt pos.line, rawInt pos.col, .ref c'] := by simp
    refine h h'.objs.size c' ((X.mg "__name__").getD .none) ctv _ _ I1 hE (fun b hb hn => ?_) (fun p hp => ?_) (Heap.get?_push_size _ rfl) ?_ (nofr _ hsz) upd_same
    · rw [upd_ne (fun z => hn (by rw [z]; exact nC)), upd_ne hb]
    · by_cases hb : p.1 = P
      · rw [hu p hp hb, hb]
        refine ⟨_, by rw [upd_ne (ne_of_none hP nC), upd_same], by rw [eL]; exact PySem.TriplesOk_snoc _ _ _ _ ht, fun p' cv hcv => ?_⟩
        rw [eL] at hcv
        rcases among_app _ ht hcv with z | z
        · obtain ⟨c0, e1, e2⟩ := ha p' cv z
          exact ⟨c0, e1, hE _ _ e2 codeO_ne⟩
        · exact ⟨c', z, upd_same⟩
      · obtain ⟨ps', a1, a2, a3⟩ := hT p hp
        refine ⟨ps', by rw [upd_ne (ne_of_none a1 nC), upd_ne hb]; exact a1, a2, fun p' cv hcv => ?_⟩
        obtain ⟨c0, e1, e2⟩ := a3 p' cv hcv
        exact ⟨c0, e1, hE _ _ e2 codeO_ne⟩
    · have n1 : h'.objs.size ≠ c' := Nat.ne_of_gt hlt
      have n2 : h'.objs.size ≠ P := Nat.ne_of_gt (Nat.lt_of_lt_of_le (Heap.lt_size hP') hsz)
      rw [upd_ne n1, upd_ne n2]
      exact I.hok.fresh hsz
  | some cv =>
    obtain ⟨c', e, hco⟩ := ha pos cv hc
    subst e
    refine PySem.W.kla_makeFunctionHit (mg := X.mg) (c := c) (P := P) (ps := ps) (closure_ok hfree) I.ok.glob (I.mod.glob.keeps I.bk) hcode (TB.code.keeps I.bk) hP' ht hc bP fun ctv h' tk hx hsz => ?_
    have I1 : Inv X pins σ H { s with heap := h'.push (PySem.W.kla_obj "<lambda>" (X.env.qual ++ "<lambda>") params body scope (cloFrom X.env.cells scope.names []) ((X.mg "__name__").getD .none) c' ctv), toks := tk } := I.kept fun b o e => Heap.get?_push_of_some _ (hx b o e)
    exact h h'.objs.size c' ((X.mg "__name__").getD .none) ctv H _ I1 (ExtN.refl H) (fun _ _ _ => rfl) hT (Heap.get?_push_size _ rfl) (I.hok.fresh hsz) (nofr _ hsz) hco
def tLam3 (T : List (Addr × Str)) (P : Addr) (TT : (XK → Hp → VK → Prop) → Hp → VK → Prop) (t : XK → TE) : TE := fun σ H Q => Tabs T H ∧ ∀ H1, ExtN H H1 → (∀ b, b ≠ P → H b ≠ none → H1 b = H b) → Tabs T H1 → TT (fun E H' Q' => t E σ H' Q') H1 Q
theorem pe_lamcall3 {T : List (Addr × Str)} {TT : (XK → Hp → VK → Prop) → Hp → VK → Prop} {x a : Str} {g c P : Addr} {k : Nat} {pg : Arguments} {bg : List Stmt} {sg : Scope} {dV kV doc pm cdv ct oc : Value} {an od : Option Addr} {osl : Array (Option Value)} {Ng : List Str}
    {params : Arguments} {body : Expr} {scope : Scope} {t : XK → TE} {p lpos pos : Pos} (hg : Gl X x) (hm : X.mg x = some (.ref g)) (hk : PySem.W.keepIn X.K (.ref g) = true)
    (lk : X.K.lookup g = some ⟨oc, od, .func (PySem.W.fnOf x x pg bg sg dV kV doc pm an cdv ct), osl⟩) (hcg : PySem.W.codeIn X.K cdv x = true) (hb : L2.Binds X.K (PySem.W.fnOf x x pg bg sg dV kV doc pm an cdv ct) [a] []) (Sg : FnScope Ng [a] sg) (hNg : Ng[0]? = some a) (hva : Vis sg a)
    (hG : GivesTo X Ng x sg g cdv bg a (X.env.qual ++ "<lambda>") TT)
    (TB : TabB X.base X.mg c P) (hcode : X.env.code = .ref c) (hmT : (P, X.env.qual ++ "<lambda>") ∈ T) (hu : ∀ p ∈ T, p.1 = P → p.2 = X.env.qual ++ "<lambda>") (hr : Room (k + 2) X.A) (L : LamS X.env.scope scope) (hdef : defaultsOf params X.env = ([], []))
    (hbind : ∀ (q : Str) (cl : List (Str × Addr)) (pm cv ctv : Value), bindArgs (PySem.W.kla_fn "<lambda>" q params body scope cl pm cv ctv) ⟨[], []⟩ = pure [])
    (hbody : ∀ (A : Around) (outer : List Env) (s : Shared) (H : Hp) (E : XK) (f c' : Addr), Room k (A.deeper (lamEnv X scope s.heap.objs.size f c')) → PE (lamCx X A outer s H E scope f c') body (t E))
    (hdb : (x == ("__debug__" : Str)) = false := by decide) (hd : (a == ("__debug__" : Str)) = false := by decide) (hcd : (a == ("__classdict__" : Str)) = false := by decide) :
    PE X (.Call (.Name x p) [.Lambda params body scope lpos] [] pos) (tLam3 T P TT t) := by
  refine ⟨fun pins s σ H Q I h => ?_⟩
  obtain ⟨hT, h⟩ := h
  refine wpAny_Call_Name_kw (ld_glob I hg hm ?_ hdb)
  refine PySem.W.callWith_K (h₀ := X.base) I.ok.mod.kin hk ?_ (by rfl) (by rfl)
  show wpAny _ _ (spliced ((false, eval (.Lambda params body scope lpos) X.env) :: backTo pos (starEach [] X.env))) _ _ s
  refine Calls.spliced_cons (lam_make3 I TB hcode hmT hu hT hdef (L.has I.ok) fun f c' pm' ctv H1 s' I1 eN eD T1 hf hfn hfr hco => ?_)
  refine Calls.spliced_nil ⟨I1.kIn, ?_⟩
  have rc : codeAny (model X.prog X.w) X.A (.call (.ref g) ⟨[.ref f], []⟩) (CR C8.CX0 X.stack X.prog X.w H1 s' Q C8.E0) s' := by
    refine run_ofS (N := Ng) (ps := [a]) (us := [.ref f]) (vs := [.ref f]) lk hcg Sg hr I1.env0 (hb s' [.ref f] I1.kIn rfl) (.cons rfl .nil) rfl fun hr' => ?_
    obtain ⟨t', ht', hq'⟩ := hG f c' s' H1 Q (fun E H' Q' => t E σ H' Q') (fun W pn xe E p1 p2 tk hW => pe_act (i := 0) I1 L hf hfn hfr (hbind _ _ _ _ _) tk hW hr' (fun A outer s H hr2 => hbody A outer s H E f c' hr2) hNg hva hd hcd) hco (h H1 eN eD T1)
    exact ⟨t', ht'.nox, hq'⟩
  refine wpAny_call (codeAny_mono rc fun r s2 hq => ?_)
  cases r with
  | error e => exact (show False from hq).elim
  | ok fl =>
    cases fl with
    | ret u => exact I1.after hq
    | next => exact False.elim hq
    | brk => exact False.elim hq
    | cont => exact False.elim hq
end
/-! ### _law_heard's body -/
/-- the class of the error, its base V -/
structure HeardTxt (K : PySem.W.Frag) (mg : Str → Option Value) (C V : Addr) : Prop where
  gC : mg "BadArgument" = some (.ref C)
  gV : mg "VanError" = some (.ref V)
  gI : mg "isinstance" = none
  gE : mg "ValueError" = none
  exC : ExcC K C
  noN : PySem.W.findIn K (.ref C) "name" = some none
  exm : PySem.W.exmOne K (.ref C) (.ref C) = some true
  kV : PySem.W.kitOne K (.ref C) (.ref V) = some true
  kE : PySem.W.kitOne K (.ref C) (.type "ValueError") = some true
theorem call_isD2 {X : Cx} {a : Addr} {cls : Value} {d : Option Addr} {oe : Obj} {pn : List (Addr × Obj)} (hz : Zc cls d oe) (hf : ∃ vs, oe.data = .fields vs) : CallR (X.suite a ((a, oe) :: pn)) (.builtin "isinstance") (fun xs H Q => ∃ C dd, cls = .ref C ∧ d = some dd ∧ ExcC X.K C ∧ rIsD X.K C a dd xs H Q) := by
  intro pins s σ H xs us Q I r h
  obtain ⟨C, dd, rfl, rfl, T, h⟩ := h
  exact call_isD T hz hf pins s σ H xs us Q I r h
abbrev heardB (j k1 k2 : Nat) (hds : List ExceptHandler) (p1 p2 p3 p4 p5 p6 p7 p8 p9 p10 p11 p12 p13 p14 p15 p16 p17 p18 p19 p20 p21 p22 : Pos) : List Stmt :=
  [.Try [.Expr (.Call (.Name "ask" p1) [] [] p2) p3] (.ExceptHandler (some (.Name "BadArgument" p4)) (some "e") [.Return (some (.Tuple [.Constant (.str "bad") j p5, .Attribute (.Name "e" p6) "name" p7, .BoolOp .And [.Call (.Name "isinstance" p8) [.Name "e" p9, .Name "VanError" p10] [] p11, .Call (.Name "isinstance" p12) [.Name "e" p13, .Name "ValueError" p14] [] p15] p16] k1 p17)) p18] p19 :: hds) [] [] p20, .Return (some (.Tuple [] k2 p21)) p22]
def TTh (C : Addr) : (XK → Hp → VK → Prop) → Hp → VK → Prop := fun tl H Q =>
  tl (fun cls d H' => cls = .ref C ∧ ∃ dd n, d = some dd ∧ H' dd = some (.xd [(("name" : Str), .str n)]) ∧ ∀ t, H' t = none → Q (.ref t) (upd H' t (.tup [.str "bad", .str n, .bl true]))) H (fun _ H1 => ([] : List V).length ≤ sizeLine ∧ ∀ t, H1 t = none → Q (.ref t) (upd H1 t (.tup [])))
def tsH (K : PySem.W.Frag) (C V0 : Addr) (a : Addr) (cls : Value) (d : Option Addr) : TS := tRet (tTup (tCons (tC (.str "bad")) (tCons (tXf a cls d C "name" (tVar 1)) (tCons (tAndV (tCB ((fun xs H Q => ∃ C dd, cls = .ref C ∧ d = some dd ∧ ExcC K C ∧ rIsD K C a dd xs H Q)) (tCons (tVar 1) (tCons (tC (.ref V0)) tNil))) (tCB ((fun xs H Q => ∃ C dd, cls = .ref C ∧ d = some dd ∧ ExcC K C ∧ rIsD K C a dd xs H Q)) (tCons (tVar 1) (tCons (tC (.ty "ValueError")) tNil)))) tNil))))
theorem heard_gives {X : Cx} {g C V : Addr} {cdg : Value} {sg : Scope} {q : Str} {j k1 k2 : Nat} {hds : List ExceptHandler} {p1 p2 p3 p4 p5 p6 p7 p8 p9 p10 p11 p12 p13 p14 p15 p16 p17 p18 p19 p20 p21 p22 : Pos} (T : HeardTxt X.K X.mg C V) (Sg : FnScope ["ask", "e"] ["ask"] sg)
    (he : sg.names.lookup ("e" : Str) = some .local) (h1 : sg.names.lookup ("BadArgument" : Str) = some .globalImplicit) (h2 : sg.names.lookup ("VanError" : Str) = some .globalImplicit) (h3 : sg.names.lookup ("isinstance" : Str) = some .globalImplicit) (h4 : sg.names.lookup ("ValueError" : Str) = some .globalImplicit) :
    GivesTo X ["ask", "e"] "_law_heard" sg g cdg (heardB j k1 k2 hds p1 p2 p3 p4 p5 p6 p7 p8 p9 p10 p11 p12 p13 p14 p15 p16 p17 p18 p19 p20 p21 p22) "ask" q (TTh C) := by
  intro f c' s H Q tl act hc h
  let Z := (cxOf C8.CX0 X.prog X.w X.K X.mg X.base ["ask", "e"] "_law_heard" sg g cdg X.A X.stack s H C8.E0).nox
  have g1 : Gl Z "BadArgument" := h1
  have xf : XfC X.K C := ⟨T.exC.hg, T.exC.hk, T.exC.hs, T.exC.hd⟩
  refine ⟨_, pss_cons (ps_try_first (X := Z) (c := .ref C) (i := 1) (ts := tsH X.K C V)
      (tb := fun W D σ H => ∃ Ech : XK, (∀ cls d σ' H', Ech cls d H' → W cls d σ' H') ∧ σ[0]? = some (some (.ref f)) ∧ H c' = some (CodeO c' q) ∧ tl Ech H (fun _ H1 => D.nx σ H1))
      rfl rfl Sg.nd rfl he ⟨g1, by decide, .inl T.gC⟩ (fun W pn xe tk _ => ?_)
      (fun a oe cls d pn hz hf => ?_)) (pss_one (ps_ret (pe_tup pa_nil))), ?_⟩
  · refine ⟨fun pins s' σ H' D I h' => ?_⟩
    obtain ⟨Ech, hW, h1, h2, h3⟩ := h'
    have hp := act W pn xe Ech p1 p2 tk hW
    have hq := pss_one (ps_expr (pos := p3) hp)
    exact hq.run pins s' σ H' D I ⟨h1, h2, h3⟩
  · have gi : Gl (Z.suite a ((a, oe) :: pn)) "isinstance" := h3
    have gv : Gl (Z.suite a ((a, oe) :: pn)) "VanError" := h2
    have ge : Gl (Z.suite a ((a, oe) :: pn)) "ValueError" := h4
    have ve : Vis (Z.suite a ((a, oe) :: pn)).env.scope "e" := .inl he
    have pvE : ∀ {q : Pos}, PE (Z.suite a ((a, oe) :: pn)) (.Name "e" q) (tVar 1) := fun {q} => pe_var rfl ve
    exact pss_one (ps_ret (pe_tup (pa_cons pe_str (pa_cons (pe_xf (X := Z) xf T.noN hz hf pvE) (pa_cons (pe_and (pe_callB (call_isD2 (X := Z) hz hf) gi T.gI (by decide +kernel) (pa_cons pvE (pa_cons (pe_glob gv T.gV rfl) pa_nil)))
      (pe_one (pe_callB (call_isD2 (X := Z) hz hf) gi T.gI (by decide +kernel) (pa_cons pvE (pa_cons (pe_bltn (v := .ty "ValueError") ge T.gE PyProof.Rows.Boot.«ValueError» rfl (by decide) (by decide)) pa_nil))))) pa_nil)))))
  · -- the reading
    have st0 : (L2.start ["ask", "e"] [L2.V.ref f])[0]? = some (some (L2.V.ref f)) := rfl
    refine ⟨fun cls d H' => cls = .ref C ∧ ∃ dd n, d = some dd ∧ H' dd = some (.xd [(("name" : Str), .str n)]) ∧ ∀ t, H' t = none → Q (.ref t) (upd H' t (.tup [.str "bad", .str n, .bl true])), ?_, st0, hc, h⟩
    rintro cls d σ' H' ⟨rfl, dd, n, rfl, hd, q2⟩
    refine ⟨T.exm, fun a ha hl => ?_⟩
    have hl : σ'.length = 2 := hl
    have s1 : (σ'.set 1 (some (L2.V.ref a)))[1]? = some (some (L2.V.ref a)) := List.getElem?_set_self (by omega)
    have v1 : ∀ u, RelV (L2.V.ref V) u → u = Value.ref V := fun u r => r
    have v2 : ∀ u, RelV (L2.V.ty "ValueError") u → u = Value.type "ValueError" := fun u r => r
    refine ⟨L2.V.ref a, s1, rfl, rfl, dd, [(("name" : Str), L2.V.str n)], L2.V.str n, rfl, hd, by rw [lookup_put, if_pos rfl], ?_⟩
    refine ⟨L2.V.ref a, s1, C, dd, rfl, rfl, T.exC, L2.V.ref V, _, true, _, rfl, v1, T.kV, hd, true, rfl, ?_⟩
    refine (if_pos rfl).mpr ⟨L2.V.ref a, s1, C, dd, rfl, rfl, T.exC, L2.V.ty "ValueError", _, true, _, rfl, v2, T.kE, hd, ?_⟩
    exact ⟨small_le (show 3 ≤ 1000 by decide), fun t ht => q2 t ht⟩
end DD
set_option maxRecDepth 100000
set_option maxHeartbeats 4000000
/-! SemP: _law_heard(lambda: e) over data; the drawing row. -/
namespace DD
open PySem PySem.Spec PyProof.Rows L2 LamX
/-- own slots are not seen -/
def plainE (ρ : Env') : Env' := ρ.map fun w => match w with
  | some (.own _) => none
  | w => w
theorem plainE_some {ρ : Env'} {i : Nat} {w : W} (h : (plainE ρ)[i]? = some (some w)) : ρ[i]? = some (some w) ∧ ∀ x, w ≠ .own x := by
  unfold plainE at h
  rw [List.getElem?_map] at h
  cases q : ρ[i]? with
  | none => rw [q] at h; cases h
  | some u =>
    rw [q] at h
    have h := Option.some.inj h
    cases u with
    | none => cases h
    | some u =>
      cases u with
      | own x => cases h
      | d x => cases h; exact ⟨rfl, fun x z => by cases z⟩
      | row => cases h; exact ⟨rfl, fun x z => by cases z⟩
theorem tab_ext {p : Par} {H H1 : Hp} {P : Addr} {q : Str} (w : Wd p H) (hP : (P, q) ∈ p.T) (e : ExtN H H1) (d : ∀ b, b ≠ P → H b ≠ none → H1 b = H b) (t : Tabs p.T H1) : Ext p H H1 := by
  obtain ⟨ps, e1, _⟩ := t _ hP
  refine ⟨fun b o h n _ => e b o h n, fun b h => ?_, w.dj, fun P' hP' => ?_, t, ?_⟩
  · by_cases z : b = P
    · rw [z, e1]; simp
    · rw [d b z h]; exact h
  · obtain ⟨ps', e2, q2⟩ := w.g P' hP'
    exact ⟨ps', by rw [d P' (fun z => w.dj P' hP' _ hP z.symm) (by rw [e2]; simp)]; exact e2, q2⟩
  · obtain ⟨⟨i, s, c, e', q'⟩, hs⟩ := w.row
    refine ⟨⟨i, s, c, e _ _ e' (fun ps z => by cases z), q'⟩, ?_⟩
    rcases hs with (hs | ⟨o, hs⟩) | hs
    · exact .inl (.inl (e _ _ hs (fun ps z => by cases z)))
    · exact .inl (.inr ⟨o, e _ _ hs (fun ps z => by cases z)⟩)
    · exact .inr hs
def heardX (Q : D → Prop) : EXn := fun x => match x with
  | .bad n => Q (.tuple [.str "bad", .str n, .bool true])
  | .unread _ _ => False
def wHeard (we : WE) : WE := fun ρ Q _ => ∃ Q0 : D → Prop, (∀ d, Q0 d → Q d) ∧ we (plainE ρ) (fun _ => Q0 (.tuple [])) (heardX Q0)
theorem Par.inn_at {p : Par} {N : Addr → Prop} {H : Hp} {E : XK} {K : PySem.W.Frag} : (p.inn N H E).at K = (p.at K).inn N H E := rfl
structure HeardC (X : Cx) (g : Addr) (C V : Addr) : Prop where
  txt : HeardTxt X.K X.mg C V
  hm : X.mg "_law_heard" = some (.ref g)
  kp : PySem.W.keepIn X.K (.ref g) = true
  fn : ∃ (oc : Value) (od : Option Addr) (osl : Array (Option Value)) (pg : Arguments) (sg : Scope) (dV kV doc pm : Value) (an : Option Addr) (cdv ct : Value) (j k1 k2 : Nat) (hds : List ExceptHandler) (p1 p2 p3 p4 p5 p6 p7 p8 p9 p10 p11 p12 p13 p14 p15 p16 p17 p18 p19 p20 p21 p22 : Pos),
    X.K.lookup g = some ⟨oc, od, .func (PySem.W.fnOf "_law_heard" "_law_heard" pg (heardB j k1 k2 hds p1 p2 p3 p4 p5 p6 p7 p8 p9 p10 p11 p12 p13 p14 p15 p16 p17 p18 p19 p20 p21 p22) sg dV kV doc pm an cdv ct), osl⟩ ∧ PySem.W.codeIn X.K cdv "_law_heard" = true ∧
      L2.Binds X.K (PySem.W.fnOf "_law_heard" "_law_heard" pg (heardB j k1 k2 hds p1 p2 p3 p4 p5 p6 p7 p8 p9 p10 p11 p12 p13 p14 p15 p16 p17 p18 p19 p20 p21 p22) sg dV kV doc pm an cdv ct) ["ask"] [] ∧
      FnScope ["ask", "e"] ["ask"] sg ∧ Vis sg "ask" ∧ sg.names.lookup ("e" : Str) = some .local ∧ sg.names.lookup ("BadArgument" : Str) = some .globalImplicit ∧ sg.names.lookup ("VanError" : Str) = some .globalImplicit ∧ sg.names.lookup ("isinstance" : Str) = some .globalImplicit ∧ sg.names.lookup ("ValueError" : Str) = some .globalImplicit
section
variable {p : Par} {X : Cx} {pos : Pos}
theorem de_heard {g C V c P : Addr} {k : Nat} {params : Arguments} {body : Expr} {scope : Scope} {we : WE} {q lpos : Pos} (Y : HeardC X g C V) (hC : p.cBad = C) (TB : TabB X.base X.mg c P) (hcode : X.env.code = .ref c) (hmT : (P, X.env.qual ++ "<lambda>") ∈ p.T) (hu : ∀ r ∈ p.T, r.1 = P → r.2 = X.env.qual ++ "<lambda>") (hr : Room (k + 2) X.A) (L : LamS X.env.scope scope)
    (mw : MonoE we) (hbody : ∀ (N : Addr → Prop) (H0 : Hp) (A : Around) (outer : List Env) (s : Shared) (H : Hp) (E : XK) (f c' : Addr), Room k (A.deeper (lamEnv X scope s.heap.objs.size f c')) → DE (p.inn N H0 E) (lamCx X A outer s H E scope f c') body we)
    (hdef : defaultsOf params X.env = ([], []) := by rfl) (hbind : ∀ (q : Str) (cl : List (Str × Addr)) (pm cv ctv : Value), bindArgs (PySem.W.kla_fn "<lambda>" q params body scope cl pm cv ctv) ⟨[], []⟩ = pure [] := by intros; rfl) (hg : Gl X "_law_heard" := by rfl) :
    DE p X (.Call (.Name "_law_heard" q) [.Lambda params body scope lpos] [] pos) (wHeard we) := by
  obtain ⟨oc, od, osl, pg, sg, dV, kV, doc, pm, an, cdv, ct, j, k1, k2, hds, p1, p2, p3, p4, p5, p6, p7, p8, p9, p10, p11, p12, p13, p14, p15, p16, p17, p18, p19, p20, p21, p22, lk, hcd, hb, Sg, va, l1, l2, l3, l4, l5⟩ := Y.fn
  -- the body's reading, its parameters left open
  let t : XK → TE := fun E => fun σ H Q => ∃ (N : Addr → Prop) (H0 : Hp), LE ((p.inn N H0 E).at X.K) we σ H Q
  have hb2 : ∀ (A : Around) (outer : List Env) (s : Shared) (H : Hp) (E : XK) (f c' : Addr), Room k (A.deeper (lamEnv X scope s.heap.objs.size f c')) → PE (lamCx X A outer s H E scope f c') body (t E) := fun A outer s H E f c' r =>
    ⟨fun pins s' σ H' Q I ⟨N, H0, ht⟩ => (hbody N H0 A outer s H E f c' r).pe.run pins s' σ H' Q I ht⟩
  refine ⟨pe_use (pe_lamcall3 (T := p.T) (P := P) (t := t) hg Y.hm Y.kp lk hcd hb Sg rfl va (heard_gives Y.txt Sg l1 l2 l3 l4 l5) TB hcode hmT hu hr L hdef hbind hb2) fun σ H Q hk ⟨ρ, O, EX, R, ex, Q0, hq0, hw⟩ => ?_,
    fun ρ Q Q' EX h ⟨Q0, h0, q'⟩ => ⟨Q0, fun d q => h d (h0 d q), q'⟩⟩
  · refine ⟨R.wd.t, fun H1 eN eD T1 => ?_⟩
    have e1 : Ext (p.at X.K) H H1 := tab_ext R.wd hmT eN eD T1
    have R1 := R.ext' e1
    let E1 : XK := fun cls d H' => cls = .ref C ∧ ∃ dd n, d = some dd ∧ H' dd = some (.xd [(("name" : Str), .str n)]) ∧ ∀ t, H' t = none → (Hk X.K (upd H' t (.tup [.str "bad", .str n, .bl true])) → Q (.ref t) (upd H' t (.tup [.str "bad", .str n, .bl true])))
    have lk : Like ((p.inn (NN (p.at X.K) O) H1 E1).at X.K) (p.at X.K) := ⟨rfl, rfl, rfl, rfl, rfl, rfl, rfl, rfl⟩
    show ∃ (N : Addr → Prop) (H0 : Hp), LE ((p.inn N H0 E1).at X.K) we σ H1 _
    have w1 : Wd ((p.inn (NN (p.at X.K) O) H1 E1).at X.K) H1 := e1.wd.like lk.symm
    refine ⟨NN (p.at X.K) O, H1, plainE ρ, noOwn, heardX Q0, ⟨w1, Ext.refl w1, by unfold plainE; rw [List.length_map]; exact R.len, fun i w hi => ?_, fun i j a h _ => (by cases h), fun x hx => (by cases hx), fun i a h => (by cases h)⟩, fun x cls dd H' h1 h2 h3 => ?_, mw _ _ _ _ (fun d q v H' hk' e' r => ?_) hw⟩
    · obtain ⟨hi1, hi2⟩ := plainE_some hi
      have hs := R1.slot i w hi1
      cases w with
      | d x =>
        obtain ⟨v, e1, e2⟩ := hs
        exact ⟨v, e1, RepV.keep ⟨fun a n _ => ⟨.inl n, n.2.1, fun i z => by cases z⟩, fun _ _ _ e _ => e, fun _ _ e => e, fun _ _ _ e => e⟩ x v e2⟩
      | own x => exact absurd rfl (hi2 x)
      | row => exact hs
    · cases x with
      | unread o y => exact h1.elim
      | bad n =>
        obtain ⟨rfl, d, rfl, hd⟩ := h3
        refine ⟨by show Value.ref p.cBad = _; rw [hC], d, n, rfl, hd, fun t ht hk' => ?_⟩
        have e2 : Ext (p.at X.K) H H' := e1.trans (h2.like lk)
        exact tup_new (p := p.at X.K) (q := hq0 _ h1) e2 (fun a ha => R.fresh0 ha) ht (rall_cons rep_str (rall_cons rep_str (rall_cons rep_bool rall_nil))) hk'
    · refine ⟨Nat.zero_le _, fun t ht hk2 => ?_⟩
      exact tup_new (p := p.at X.K) (q := hq0 _ q) (e1.trans (e'.like lk)) (fun a ha => R.fresh0 ha) ht rall_nil hk2
end
end DD
set_option maxRecDepth 100000
set_option maxHeartbeats 2000000
/-! SemQ: helpers of the printed derivations: known defs, parts, lambdas, list.index, True/False by is. -/
namespace DD
open PySem PySem.Spec PyProof.Rows L2 GenW
theorem boot_len : bootBuiltins "len" = some (.builtin "len") := by rfl
theorem boot_abs : bootBuiltins "abs" = some (.builtin "abs") := by rfl
theorem boot_sum : bootBuiltins "sum" = some (.builtin "sum") := by rfl
theorem boot_max : bootBuiltins "max" = some (.builtin "max") := by rfl
theorem boot_min : bootBuiltins "min" = some (.builtin "min") := by rfl
theorem boot_sorted : bootBuiltins "sorted" = some (.builtin "sorted") := by rfl
theorem boot_int : bootBuiltins "int" = some (.type "int") := by rfl
theorem boot_bool : bootBuiltins "bool" = some (.type "bool") := by rfl
theorem boot_str : bootBuiltins "str" = some (.type "str") := by rfl
theorem boot_list : bootBuiltins "list" = some (.type "list") := by rfl
theorem boot_tuple : bootBuiltins "tuple" = some (.type "tuple") := by rfl
theorem boot_dict : bootBuiltins "dict" = some (.type "dict") := by rfl
theorem hu65 {k : Nat} {A : Around} (r : Room k A) : A.units + 65 < cLine := by have := r.un; omega
section
variable {p S : Par} {X : Cx} {pos : Pos} {tg e a b c elt iter : Expr} {es ifs : List Expr}
/-! ### is True, is False -/
def gIsB (neg : Bool) : G2
  | .bool i, .bool j, Q => Q (if neg then !decide (i = j) else decide (i = j))
  | _, _, _ => False
theorem mono_IsB {neg : Bool} : ∀ a b, M0 (gIsB neg a b) := fun a b Q Q' h q => by
  cases a <;> cases b <;> first | exact q.elim | exact h _ q
theorem c_isB : Cmp2 p (gIsB false) (fun x y H Q => ∃ a b, x = .bl a ∧ y = .bl b ∧ Q (.bl (decide (a = b))) H) :=
  ⟨fun O H x y a b Qb Q ok rx ry h q => by
    cases a with
    | bool i =>
      cases b with
      | bool j => exact ⟨i, j, rx.bool, ry.bool, q _ h⟩
      | _ => exact h.elim
    | _ => exact h.elim, mono_IsB⟩
theorem c_notB : Cmp2 p (gIsB true) (fun x y H Q => ∃ a b, x = .bl a ∧ y = .bl b ∧ Q (.bl (!decide (a = b))) H) :=
  ⟨fun O H x y a b Qb Q ok rx ry h q => by
    cases a with
    | bool i =>
      cases b with
      | bool j => exact ⟨i, j, rx.bool, ry.bool, q _ h⟩
      | _ => exact h.elim
    | _ => exact h.elim, mono_IsB⟩
/-! ### known defs -/
structure Cal (P : Program) (w0 : World) (K : PySem.W.Frag) (mg : Str → Option Value) (base : Heap) (S : Par) (k : Nat) (x : Str) (ps : List Str) (f : FD) : Prop where
  ok : ∃ (g : Addr) (fd : FuncData), FnOk P w0 K mg base (L2.CX P w0) k g fd ps (SpD S f) ∧ mg x = some (.ref g) ∧ PySem.W.keepIn K (.ref g) = true ∧ Binds K fd ps []
  mono : MonoF f
theorem Cal.lift {P : Program} {w0 : World} {K : PySem.W.Frag} {mg : Str → Option Value} {base : Heap} {S : Par} {j k : Nat} {x : Str} {ps : List Str} {f : FD} (C : Cal P w0 K mg base S j x ps f) (h : j ≤ k) : Cal P w0 K mg base S k x ps f := by
  obtain ⟨⟨g, fd, h1, h2⟩, m⟩ := C
  exact ⟨⟨g, fd, h1.mono h, h2⟩, m⟩
theorem de_callC {f : FD} {x : Str} {ps : List Str} {k j : Nat} {ww : WW} {q : Pos} (C : Cal X.prog X.w X.K X.mg X.base S k x ps f) (lk : Like (p.at X.K) S) (hr : Room j X.A) (hx : XP p X)
    (ha : DWs p X (e :: es) ww) (hkj : k ≤ j := by first | decide | omega) (hg : Gl X x := by rfl) (hdb : (x == ("__debug__" : Str)) = false := by decide) (he : starEach (e :: es) X.env = (false, eval e X.env) :: starEach es X.env := by rfl) (hpl : (backTo pos (starEach es X.env)).any (·.1) = false := by rfl) :
    DE p X (.Call (.Name x q) (e :: es) [] pos) (wCall f ww) := by
  obtain ⟨⟨g, fd, h1, h2, h3, h4⟩, m⟩ := C
  exact de_call h1 m lk (hr.mono hkj) h2 h3 h4 hx ha hg hdb he hpl
theorem de_callC0 {f : FD} {x : Str} {ps : List Str} {k j : Nat} {q : Pos} (C : Cal X.prog X.w X.K X.mg X.base S k x ps f) (lk : Like (p.at X.K) S) (hr : Room j X.A) (hx : XP p X) (hkj : k ≤ j := by first | decide | omega) (hg : Gl X x := by rfl) (hdb : (x == ("__debug__" : Str)) = false := by decide) :
    DE p X (.Call (.Name x q) [] [] pos) (wCall f wwNil) := by
  obtain ⟨⟨g, fd, h1, h2, h3, h4⟩, m⟩ := C
  exact de_call0 h1 m lk (hr.mono hkj) h2 h3 h4 hx hg hdb
/-- a def of the text that keeps a promise -/
theorem cal_of {P : Program} {w0 : World} {K : PySem.W.Frag} {mg : Str → Option Value} {base : Heap} {k : Nat} {x qual : Str} {st : Stmt} {f : Addr} {fd : FuncData} {cdv : Value} {ps : List Str} {fw fs : FD} (F : FunC K x qual st f fd cdv) (hm : mg x = some (.ref f)) (hb : Binds K fd ps [])
    (h : FnOk P w0 K mg base (L2.CX P w0) k f fd ps (SpD S fw)) (m : MonoF fs) (imp : ∀ ws Q EX, fs ws Q EX → fw ws Q EX) : Cal P w0 K mg base S k x ps fs :=
  ⟨⟨f, fd, h.imp fun vs H Q E ⟨N, ws, EX, h1, h2, h3, h4, h5⟩ => ⟨N, ws, EX, h1, h2, h3, imp _ _ _ h4, h5⟩, hm, F.kp, hb⟩, m⟩
/-! ### parts -/
theorem lp {scope : Scope} {own : List (Str × Nat)} {ix : List Nat} {wi : WI} {g : WG} {t : WT} {we : WE} (nd : X.N.Nodup) (lk : Like (p.at X.K) S) (hi : DI true p X tg iter wi)
    (hg : ∀ (s : Shared) (H : Hp) (C : Addr) (cl : List (Str × Addr)) (fp : List Addr), DG p.nox (X.blk s H scope (compEnvC scope cl C X.env) fp) tg ix g)
    (ht : ∀ (s : Shared) (H : Hp) (C : Addr) (cl : List (Str × Addr)) (fp : List Addr), XP p.nox (X.blk s H scope (compEnvC scope cl C X.env) fp) → Like (p.nox.at X.K) S → DTs p.nox (X.blk s H scope (compEnvC scope cl C X.env) fp) ifs t)
    (he : ∀ (s : Shared) (H : Hp) (C : Addr) (cl : List (Str × Addr)) (fp : List Addr), XP p.nox (X.blk s H scope (compEnvC scope cl C X.env) fp) → Like (p.nox.at X.K) S → DE p.nox (X.blk s H scope (compEnvC scope cl C X.env) fp) elt we)
    (hb : blkC X.N X.env.scope scope own = true := by first | decide +kernel | kernel_rfl) (hix : ix.all (fun i => (own.map (·.2)).contains i) = true := by decide) (hc : X.calm = true := by rfl) (hs : ∀ x, foldedSetIterable iter X.env x = pure x := by intro _; rfl) : LParts p X elt tg iter ifs scope own wi g t we :=
  ⟨hc, nd, hi, blkOk_by hb, ⟨ix, fun i h => by simpa using List.all_eq_true.mp hix i h, hg⟩, fun s H C cl fp => ht s H C cl fp xp_nox lk.nox, fun s H C cl fp => he s H C cl fp xp_nox lk.nox, hs⟩
theorem gok_by {scope : Scope} (h : (!scope.isCoroutine && scope.names.all (fun y => !decide (y.2 = .cell)) && decide (scope.names.lookup (".0" : Str) = some NameKind.local)) = true) : GX.GOk scope := by
  simp only [Bool.and_eq_true, Bool.not_eq_true', decide_eq_true_eq, decide_eq_false_iff_not, List.all_eq_true] at h
  exact ⟨h.1.1, h.1.2, h.2⟩
theorem tabG {base : Heap} {mg : Str → Option Value} {c P : Addr} (h : LamX.TabB base mg c P) : GxR.TabB base mg c P := ⟨h.code, h.bm, h.gP⟩
theorem gp {k : Nat} {scope : Scope} {own : List (Str × Nat)} {ix : List Nat} {cc P : Addr} {wi : WI} {g : WG} {t : WT} {we : WE} (nd : X.N.Nodup) (lk : Like (p.at X.K) S) (tb : LamX.TabB X.base X.mg cc P) (hP : P ∈ S.G) (hr : Room (k + 2) X.A) (hi : DI true p X tg iter wi)
    (hg : ∀ (A : Around) (s : Shared) (H : Hp) (C : Addr) (code : Value) (fp : List Addr) (pn : List (Addr × Obj)), DG p.nox (GX.gcx X A s H (GX.genv X scope C code) fp pn) tg ix g)
    (ht : ∀ (A : Around) (s : Shared) (H : Hp) (C : Addr) (code : Value) (fp : List Addr) (pn : List (Addr × Obj)), Room k A → XP p.nox (GX.gcx X A s H (GX.genv X scope C code) fp pn) → Like (p.nox.at X.K) S → DTs p.nox (GX.gcx X A s H (GX.genv X scope C code) fp pn) ifs t)
    (he : ∀ (A : Around) (s : Shared) (H : Hp) (C : Addr) (code : Value) (fp : List Addr) (pn : List (Addr × Obj)), Room k A → XP p.nox (GX.gcx X A s H (GX.genv X scope C code) fp pn) → Like (p.nox.at X.K) S → DE p.nox (GX.gcx X A s H (GX.genv X scope C code) fp pn) elt we)
    (hcode : X.env.code = .ref cc := by rfl) (hb : blkC X.N X.env.scope scope own = true := by first | decide +kernel | kernel_rfl) (hgk : (!scope.isCoroutine && scope.names.all (fun y => !decide (y.2 = .cell)) && decide (scope.names.lookup (".0" : Str) = some NameKind.local)) = true := by decide +kernel) (hix : ix.all (fun i => (own.map (·.2)).contains i) = true := by decide) (hc : X.calm = true := by rfl) (hs : ∀ v, genFold iter X.env v = pure v := by intro _; rfl) : GpD p X k elt tg iter ifs scope own cc P wi g t we :=
  ⟨hr, tabG tb, by have := lk.G; rw [show p.G = S.G from this]; exact hP, hcode, nd, hc, hi, blkOk_by hb, gok_by hgk, ⟨ix, fun i h => by simpa using List.all_eq_true.mp hix i h, fun A s H C code fp pn _ => hg A s H C code fp pn⟩,
    fun A s H C code fp pn r => ht A s H C code fp pn r xp_nox lk.nox, fun A s H C code fp pn r => he A s H C code fp pn r xp_nox lk.nox, hs⟩
theorem Like.inn2 {N : Addr → Prop} {H : Hp} {E : XK} {K : PySem.W.Frag} (h : Like (p.at K) S) : Like ((p.inn N H E).at K) S := ⟨h.K, h.T, h.G, h.r, h.scr, h.ns, h.b, h.u⟩
/-- _law_heard(lambda: e) -/
theorem hd {g C V cc P : Addr} {k : Nat} {params : Arguments} {body : Expr} {scope : Scope} {we : WE} {q lpos : Pos} (Y : HeardC X g C V) (hC : S.cBad = C) (TB : LamX.TabB X.base X.mg cc P) (lk : Like (p.at X.K) S) (hmT : (P, X.env.qual ++ "<lambda>") ∈ S.T) (hu : ∀ r ∈ S.T, r.1 = P → r.2 = X.env.qual ++ "<lambda>") (hr : Room (k + 2) X.A)
    (hbody : ∀ (N : Addr → Prop) (H0 : Hp) (A : Around) (outer : List Env) (s : Shared) (H : Hp) (E : XK) (f c' : Addr), Room k (A.deeper (LamX.lamEnv X scope s.heap.objs.size f c')) → XP (p.inn N H0 E) (LamX.lamCx X A outer s H E scope f c') → Like ((p.inn N H0 E).at X.K) S → DE (p.inn N H0 E) (LamX.lamCx X A outer s H E scope f c') body we)
    (hcode : X.env.code = .ref cc := by rfl) (L : LamX.lamSB X.env.scope scope = true := by first | decide +kernel | kernel_rfl)
    (hdef : defaultsOf params X.env = ([], []) := by rfl) (hbind : ∀ (q : Str) (cl : List (Str × Addr)) (pm cv ctv : Value), bindArgs (PySem.W.kla_fn "<lambda>" q params body scope cl pm cv ctv) ⟨[], []⟩ = pure [] := by intros; rfl) (hg : Gl X "_law_heard" := by rfl) :
    DE p X (.Call (.Name "_law_heard" q) [.Lambda params body scope lpos] [] pos) (wHeard we) := by
  have hb : ∀ (N : Addr → Prop) (H0 : Hp) (A : Around) (outer : List Env) (s : Shared) (H : Hp) (E : XK) (f c' : Addr), Room k (A.deeper (LamX.lamEnv X scope s.heap.objs.size f c')) → DE (p.inn N H0 E) (LamX.lamCx X A outer s H E scope f c') body we :=
    fun N H0 A outer s H E f c' r => hbody N H0 A outer s H E f c' r (xp_of (takes_of (E := E) rfl rfl rfl rfl)) lk.inn2
  refine de_heard (p := p) Y (by rw [← hC]; exact lk.b) TB hcode (by rw [show p.T = S.T from lk.T]; exact hmT) (by rw [show p.T = S.T from lk.T]; exact hu) hr (LamX.lamS_by L) ?_ hb hdef hbind hg
  exact (hb (fun _ => True) X.H_0 X.A [] X.s_0 X.H_0 (fun _ _ _ => False) 0 0 ((hr.mono (j := k + 1) (by omega)).deeper _)).mono
/-! ### list.index -/
/-- the first place -/
def firstAt (ds : List D) (d : D) : Option Nat := ds.findIdx? fun z => PyData.eqv z d
def wIndex (wa wb : WE) : WE := fun ρ Q EX => wa ρ (fun a => ∃ ds, a = .list ds ∧ SeqAt.shaped (.list ds) = true ∧ wb ρ (fun b => SeqAt.shaped b = true ∧ ∃ j, firstAt ds b = some j ∧ Q (.int (j : Nat))) EX) EX
theorem de_index {wa wb : WE} {apos : Pos} (hu : X.A.units + 65 < cLine) (ha : DB p X a wa) (hb : DB p X b wb) (hbase : attributeBase a "index" X.env (eval a X.env) = eval a X.env := by rfl)
    (hfew : ((backTo pos (starEach (b :: []) X.env)).all (fun x => !x.1) && (backToKw pos (keywordEach [] X.env)).all (fun x => x.1.isSome)
      && decide ((b :: ([] : List Expr)).length + ([] : List Keyword).length + (if ([] : List Keyword).isEmpty then 0 else 1) < 30)) = true := by rfl)
    (hline : (apos.endLine == pos.line) = true := by rfl) (hs : starEach (b :: []) X.env = (false, eval b X.env) :: starEach [] X.env := by rfl) (hplain : (backTo pos (starEach [] X.env)).any (·.1) = false := by rfl) : DE p X (.Call (.Attribute a "index" apos) [b] [] pos) (wIndex wa wb) := by
  refine ⟨pe_use (pe_bm PySem.F.plainAttrs_list PySem.F.slot_list_index PySem.F.type_list_index (mt_indexD hu) ha.pe (pa_cons hb.pe pa_nil hs) hbase hfew hline hs hplain) fun σ H Q hk ⟨ρ, O, EX, R, ex, hw⟩ => ?_, fun ρ Q Q' EX h q => ha.mono _ _ _ _ (fun a ⟨ds, h1, h2, q⟩ => ⟨ds, h1, h2, hb.mono _ _ _ _ (fun b ⟨h3, j, h4, q⟩ => ⟨h3, j, h4, h _ q⟩) q⟩) q⟩
  refine ⟨ρ, O, EX, R, ex, ha.mono _ _ _ _ (fun da ⟨ds, z, sl, q⟩ v H1 hk1 e1 r1 => ?_) hw⟩
  subst z
  obtain ⟨l, vs, rfl, hl, h1, r0⟩ := r1.list
  refine ⟨.inl ⟨rfl, _, SqL.of h1⟩, ρ, O, EX, R.ext' e1, ex, hb.mono _ _ _ _ (fun db ⟨sb, j, hj, q⟩ y H2 hk2 e2 r2 => ?_) q⟩
  have rl := r1.ext e1.wd e2
  obtain ⟨hj1, hj2, hj3⟩ := List.findIdx?_eq_some_iff_getElem.mp hj
  refine ⟨l, y, db, ds, j, ds[j], rfl, rfl, rl.dp (SeqAt.canLay_of_shaped sl), r2.dp (SeqAt.canLay_of_shaped sb), sl, sb, List.getElem?_eq_getElem hj1, hj2, fun m z' hm hz => ?_, fun hk4 => q _ H2 hk2 (e1.trans e2) rep_int⟩
  obtain ⟨hm1, rfl⟩ := List.getElem?_eq_some_iff.mp hz
  simpa using hj3 m hm
end
end DD
set_option maxRecDepth 100000
set_option maxHeartbeats 2000000
/-! SemR: the drawing of a number from the script's row. -/
namespace DD
open PySem PySem.Spec PyProof.Rows L2 GenW
abbrev rwGt : R2 := rI0 fun i j => .bl (decide (j < i))
abbrev rwGe : R2 := rI0 fun i j => .bl (decide (j ≤ i))
abbrev rwAdd : R2 := rI0 fun i j => .int (i + j)
abbrev rwSub : R2 := rI0 fun i j => .int (i - j)
abbrev rwMul : R2 := rI CMul fun i j => .int (i * j)
abbrev rwMod : R2 := rI (fun _ j => 0 < j) fun i j => .int (i % j)
abbrev rwDiv : R2 := rI CDivW fun i j => .int (i / j)
abbrev rwPow : R2 := rI CPow fun i j => .int (i ^ j.toNat)
abbrev rwInt : List V → Hp → VK → Prop := fun xs H Q => (∃ i, xs = [.int i] ∧ Q (.int i) H) ∨ ∃ k, xs = [.bl k] ∧ Q (.int (if k then 1 else 0)) H
abbrev rwLen (K : PySem.W.Frag) : List V → Hp → VK → Prop := fun xs H Q => ∃ x n, xs = [x] ∧ LenV K x H n ∧ Q (.int n) H
abbrev tIxR (K : PySem.W.Frag) (k : Int) : TE := tOp (rIxL K) (tVar 0) (tC (.int k))
abbrev tPutR (k : Int) (te : TE) : TS := tAsg te (gSub (tVar 0) (tC (.int k)) rSetL)
abbrev tIntR (te : TE) : TE := tCB rwInt (tCons te tNil)
def t_taken (K : PySem.W.Frag) : TS :=
  tSeq (tIfS (tTest (tOp rwGt (tIxR K 3) (tC (.int 0))))
    (tSeq (tAsg (tOp rwMod (tIntR (tIxR K 3)) (tVar 1)) (gName 2)) (tSeq (tPutR 3 (tOp rwDiv (tIxR K 3) (tVar 1))) (tRet (tVar 2)))) tNext)
  (tSeq (tPutR 1 (tOp rwAdd (tIxR K 1) (tC (.int 1))))
  (tSeq (tIfS (tTest (tOp rwGt (tIxR K 1) (tCB (rwLen K) (tCons (tIxR K 0) tNil))))
    (tSeq (tPutR 2 (tOp rwMod (tIntR (tOp rwAdd (tOp rwMul (tIxR K 2) (tC (.int 48271))) (tC (.int 11)))) (tC (.int 2147483647)))) (tRet (tOp rwMod (tIntR (tOp rwDiv (tIxR K 2) (tC (.int 7)))) (tVar 1)))) tNext)
  (tSeq (tAsg (tOp (rIxL K) (tIxR K 0) (tOp rwSub (tIxR K 1) (tC (.int 1)))) (gName 3))
  (tSeq (tPutR 2 (tOp rwMod (tIntR (tOp rwAdd (tOp rwAdd (tOp rwMul (tIxR K 2) (tC (.int 48271))) (tVar 3)) (tC (.int 11)))) (tC (.int 2147483647))))
  (tSeq (tIfS (tTest (tOp rwGe (tVar 3) (tOp rwPow (tC (.int 10)) (tC (.int 18))))) (tPutR 3 (tOp rwDiv (tVar 3) (tVar 1))) tNext)
    (tRet (tOp rwMod (tIntR (tVar 3)) (tVar 1))))))))
/-- some number below n -/
def _law_taken_s : FD := fun ws Q _ => ∃ n : Int, ws = [.row, .d (.int n)] ∧ 0 < n ∧ n < 2 ^ 64 ∧ ∀ r : Int, 0 ≤ r → r < n → Q (.int r)
theorem mono__law_taken : MonoF _law_taken_s := fun ws Q Q' EX h ⟨n, e, h1, h2, q⟩ => ⟨n, e, h1, h2, fun r a b => h _ (q r a b)⟩
section
variable {S : Par}
abbrev rowL (scr : Addr) (i s c : Int) : HO := .lst [.ref scr, .int i, .int s, .int c]
theorem Ext.row {H : Hp} {i s c : Int} (w : Wd S H) (hi : 0 ≤ i) (hs : 0 ≤ s ∧ s < 2147483647) (hc : 0 ≤ c) : Ext S H (upd H S.r (rowL S.scr i s c)) := by
  obtain ⟨⟨i0, s0, c0, e0, q0⟩, hsc⟩ := w.row
  refine ⟨fun b o e n m => by rw [upd_ne m]; exact e, fun b e => ?_, w.dj, fun P hP => ?_, fun P hP => ?_, ⟨i, s, c, by unfold L2.upd; rw [if_pos rfl], hi, hs.1, hs.2, hc⟩, ?_⟩
  · by_cases z : b = S.r
    · rw [z]; unfold L2.upd; rw [if_pos rfl]; simp
    · rw [upd_ne z]; exact e
  · obtain ⟨ps, e, q⟩ := w.g P hP
    exact ⟨ps, by rw [upd_ne (fun z => by rw [z, e0] at e; cases e)]; exact e, q⟩
  · obtain ⟨ps, e, q, q2⟩ := w.t P hP
    refine ⟨ps, by rw [upd_ne (fun z => by rw [z, e0] at e; cases e)]; exact e, q, fun pos cv hc => ?_⟩
    obtain ⟨c, e1, e2⟩ := q2 pos cv hc
    exact ⟨c, e1, by rw [upd_ne (fun z => by rw [z, e0] at e2; cases e2)]; exact e2⟩
  · rcases hsc with (hsc | ⟨o, hsc⟩) | hsc
    · refine .inl (.inl ?_)
      rw [upd_ne (fun z => ?_)]; exact hsc
      rw [z, e0] at hsc
      have z2 : [V.ref S.scr, .int i0, .int s0, .int c0] = S.ns.map V.int := by
        injection hsc with h1
        injection h1
      cases q : S.ns with
      | nil => rw [q] at z2; cases z2
      | cons a r => rw [q] at z2; simp at z2
    · refine .inl (.inr ⟨o, ?_⟩)
      rw [upd_ne (fun z => by rw [z, e0] at hsc; cases hsc)]; exact hsc
    · exact .inr hsc
theorem ixR {K : PySem.W.Frag} {σ : L2.St} {H : Hp} {r scr : Addr} {i s c : Int} {k : Int} {v : V} {Q : VK} (hH : H r = some (rowL scr i s c)) (hσ : σ[0]? = some (some (.ref r))) (hv : atI [V.ref scr, .int i, .int s, .int c] k = some v) (q : Q v H) : tIxR K k σ H Q :=
  ⟨.ref r, hσ, r, _, k, v, rfl, rfl, .of hH, hv, q⟩
theorem if_true_of {c : Bool} {A B : Prop} (hc : c = true) (h : A) : if c = true then A else B := by
  rw [if_pos hc]
  exact h
theorem if_false_of {c : Bool} {A B : Prop} (hc : c = false) (h : B) : if c = true then A else B := by
  rw [hc, if_neg Bool.false_ne_true]
  exact h
theorem pow18 : (10 : Int) ^ (18 : Int).toNat = 1000000000000000000 := by decide
theorem log64 {n : Int} (h : 0 < n) (h2 : n < 2 ^ 64) : n.natAbs.log2 < 9000 := by
  have : n.natAbs < 2 ^ 64 := by omega
  have := (Nat.log2_lt (by omega)).mpr this
  omega
theorem pure_taken {vs : List V} {H : Hp} {Q : VK} {E : XK} (h : SpD S _law_taken_s vs H Q E) : t_taken S.K { nx := fun _ H' => Q .non H', rt := Q } (L2.start ["row", "many", "found", "cell"] vs) H := by
  obtain ⟨N, ws, EX, wd, hn, hp, ⟨n, rfl, n0, n1, q⟩, _⟩ := h
  cases hp with
  | cons r1 hp =>
    cases hp with
    | cons r2 hp =>
      cases hp
      rename_i v1 v2
      have e1 : v1 = .ref S.r := r1
      have e2 : v2 = .int n := (by
        have r2 : RepV S.K N H v2 (.int n) := r2
        rw [RepV] at r2; exact r2)
      subst e1 e2
      obtain ⟨⟨i, s, c, hr, i0, s0, s1, c0⟩, hsc⟩ := wd.row
      have fin : ∀ (z : Int) (H' : Hp), Ext S H H' → Q (.int (z % n)) H' := fun z H' e => q (z % n) (Int.emod_nonneg z (by omega)) (Int.emod_lt_of_pos z n0) _ H' e rep_int
      -- the carry
      refine ixR hr rfl rfl ⟨c, 0, rfl, rfl, _, rfl, ?_⟩
      by_cases hc : 0 < c
      · refine if_true_of (decide_eq_true hc) ?_
        refine ixR hr rfl rfl (.inl ⟨c, rfl, ⟨_, rfl, c, n, rfl, rfl, n0, ?_⟩⟩)
        refine ixR hr rfl rfl ⟨_, rfl, c, n, rfl, rfl, ⟨n0, log64 n0 n1⟩, ?_⟩
        refine ⟨_, rfl, _, _, 3, 3, rfl, rfl, hr, rfl, ?_⟩
        exact ⟨_, rfl, fin c _ (Ext.row wd i0 ⟨s0, s1⟩ (Int.ediv_nonneg c0 (by omega)))⟩
      · refine if_false_of (decide_eq_false hc) ?_
        refine ixR hr rfl rfl ⟨i, 1, rfl, rfl, ?_⟩
        refine ⟨_, rfl, _, _, 1, 1, rfl, rfl, hr, rfl, ?_⟩
        have e1 : Ext S H (upd H S.r (rowL S.scr (i + 1) s c)) := Ext.row wd (by omega) ⟨s0, s1⟩ c0
        have hr1 : (upd H S.r (rowL S.scr (i + 1) s c)) S.r = some (rowL S.scr (i + 1) s c) := by unfold L2.upd; rw [if_pos rfl]
        have hs1 := e1.wd.row.2
        show tSeq _ _ _ _ (upd H S.r (rowL S.scr (i + 1) s c))
        generalize upd H S.r (rowL S.scr (i + 1) s c) = H1 at e1 hr1 hs1 ⊢
        refine ixR hr1 rfl rfl ?_
        refine ixR hr1 rfl rfl ⟨_, _, rfl, .inl ⟨_, hs1, rfl⟩, i + 1, _, rfl, rfl, _, rfl, ?_⟩
        rw [List.length_map]
        by_cases hi : (S.ns.length : Int) < i + 1
        · refine if_true_of (decide_eq_true hi) ?_
          refine ixR hr1 rfl rfl ⟨s, 48271, rfl, rfl, .inr (by decide), _, _, rfl, rfl, .inl ⟨_, rfl, _, _, rfl, rfl, (show (0 : Int) < 2147483647 by decide), ?_⟩⟩
          refine ⟨_, rfl, _, _, 2, 2, rfl, rfl, hr1, rfl, ?_⟩
          have e2 : Ext S H1 (upd H1 S.r (rowL S.scr (i + 1) ((s * 48271 + 11) % 2147483647) c)) := Ext.row e1.wd (by omega) ⟨Int.emod_nonneg _ (by decide), Int.emod_lt_of_pos _ (by decide)⟩ c0
          have hr2 : (upd H1 S.r (rowL S.scr (i + 1) ((s * 48271 + 11) % 2147483647) c)) S.r = some (rowL S.scr (i + 1) ((s * 48271 + 11) % 2147483647) c) := by unfold L2.upd; rw [if_pos rfl]
          exact ixR hr2 rfl rfl ⟨_, 7, rfl, rfl, (show (0 : Int) < 7 ∧ (7 : Int).natAbs.log2 < 9000 from ⟨by decide, log64 (by decide) (by decide)⟩), .inl ⟨_, rfl, ⟨_, rfl, _, n, rfl, rfl, n0, fin _ _ (e1.trans e2)⟩⟩⟩
        · refine if_false_of (decide_eq_false hi) ?_
          obtain ⟨j, hj⟩ : ∃ j : Nat, i = j := ⟨i.toNat, by omega⟩
          subst hj
          have hj2 : j < S.ns.length := by omega
          have hat : atI (S.ns.map V.int) ((j : Int) + 1 - 1) = some (V.int S.ns[j]) := by
            have : ((j : Int) + 1 - 1) = j := by omega
            rw [this]
            unfold atI ixN
            rw [List.length_map]
            simp [hj2]
          refine ixR hr1 rfl rfl (ixR hr1 rfl rfl ⟨_, 1, rfl, rfl, _, _, _, _, rfl, rfl, hs1, hat, ?_⟩)
          generalize S.ns[j] = z
          refine ixR hr1 rfl rfl ⟨s, 48271, rfl, rfl, .inr (by decide), _, rfl, _, _, rfl, rfl, _, _, rfl, rfl, .inl ⟨_, rfl, _, _, rfl, rfl, (show (0 : Int) < 2147483647 by decide), ?_⟩⟩
          refine ⟨_, rfl, _, _, 2, 2, rfl, rfl, hr1, rfl, ?_⟩
          have e2 : Ext S H1 (upd H1 S.r (rowL S.scr ((j : Int) + 1) ((s * 48271 + z + 11) % 2147483647) c)) := Ext.row e1.wd (by omega) ⟨Int.emod_nonneg _ (by decide), Int.emod_lt_of_pos _ (by decide)⟩ c0
          have hr2 : (upd H1 S.r (rowL S.scr ((j : Int) + 1) ((s * 48271 + z + 11) % 2147483647) c)) S.r = some (rowL S.scr ((j : Int) + 1) ((s * 48271 + z + 11) % 2147483647) c) := by unfold L2.upd; rw [if_pos rfl]
          have b2 : 0 ≤ (s * 48271 + z + 11) % 2147483647 ∧ (s * 48271 + z + 11) % 2147483647 < 2147483647 := ⟨Int.emod_nonneg _ (by decide), Int.emod_lt_of_pos _ (by decide)⟩
          show tSeq _ _ _ _ (upd H1 S.r (rowL S.scr ((j : Int) + 1) ((s * 48271 + z + 11) % 2147483647) c))
          generalize (s * 48271 + z + 11) % 2147483647 = s2 at e2 hr2 b2 ⊢
          generalize upd H1 S.r (rowL S.scr ((j : Int) + 1) s2 c) = H2 at e2 hr2 ⊢
          refine ⟨_, rfl, _, _, rfl, rfl, ⟨by decide, by decide, by decide⟩, z, _, rfl, rfl, _, rfl, ?_⟩
          rw [pow18]
          by_cases hz : 1000000000000000000 ≤ z
          · refine if_true_of (decide_eq_true hz) ?_
            refine ⟨_, rfl, _, rfl, z, n, rfl, rfl, ⟨n0, log64 n0 n1⟩, ?_⟩
            refine ⟨_, rfl, _, _, 3, 3, rfl, rfl, hr2, rfl, ?_⟩
            have e3 : Ext S H2 (upd H2 S.r (rowL S.scr ((j : Int) + 1) s2 (z / n))) := Ext.row e2.wd (by omega) b2 (Int.ediv_nonneg (by omega) (by omega))
            exact ⟨_, rfl, .inl ⟨z, rfl, _, rfl, z, n, rfl, rfl, n0, fin z _ ((e1.trans e2).trans e3)⟩⟩
          · refine if_false_of (decide_eq_false hz) ?_
            exact ⟨_, rfl, .inl ⟨z, rfl, _, rfl, z, n, rfl, rfl, n0, fin z _ (e1.trans e2)⟩⟩
end
end DD
set_option maxRecDepth 100000
set_option maxHeartbeats 2000000
/-! SemS: readings evaluated; the drawing of an item, check, alike. -/
namespace DD
open PySem PySem.Spec PyProof.Rows L2 GenW
section
variable {ρ : Env'} {Q : D → Prop} {Qb : Bool → Prop} {EX : EXn} {D0 : EndsW} {w u v : WS} {a b c : WE} {t t2 t3 : WT}
@[simp ↓] theorem ev_C {d : D} : wC d ρ Q EX = Q d := rfl
@[simp ↓] theorem ev_Var {i : Nat} : wVar i ρ Q EX = (match ρ[i]? with | some (some (.d d)) => Q d | _ => False) := rfl
@[simp ↓] theorem ev_Own {i : Nat} : wOwn i ρ Q EX = (match ρ[i]? with | some (some (.own d)) => Q d | _ => False) := rfl
@[simp ↓] theorem ev_Op2 {f : F2} : wOp2 f a b ρ Q EX = a ρ (fun x => b ρ (fun y => f x y Q) EX) EX := rfl
@[simp ↓] theorem ev_OpN {f : FN} {wa : WA} : wOpN f wa ρ Q EX = wa ρ (fun x => f x Q) EX := rfl
@[simp ↓] theorem ev_Cmp2 {g : G2} : wCmp2 g a b ρ Q EX = a ρ (fun x => b ρ (fun y => g x y fun k => Q (.bool k)) EX) EX := rfl
@[simp ↓] theorem ev_Tst2 {g : G2} : wTst2 g a b ρ Qb EX = a ρ (fun x => b ρ (fun y => g x y Qb) EX) EX := rfl
@[simp ↓] theorem ev_Chain {g g' : G2} : wChain g g' a b c ρ Qb EX = a ρ (fun x => b ρ (fun y => g x y fun k => if k = true then c ρ (fun z => g' y z Qb) EX else Qb false) EX) EX := rfl
@[simp ↓] theorem ev_ChainE {g g' : G2} : wChainE g g' a b c ρ Q EX = a ρ (fun x => b ρ (fun y => g x y fun k => if k = true then c ρ (fun z => g' y z fun k => Q (.bool k)) EX else Q (.bool false)) EX) EX := rfl
@[simp ↓] theorem ev_aNil {Q : List D → Prop} : waNil ρ Q EX = Q [] := rfl
@[simp ↓] theorem ev_aCons {r : WA} {Q : List D → Prop} : waCons a r ρ Q EX = a ρ (fun d => r ρ (fun ds => Q (d :: ds)) EX) EX := rfl
@[simp ↓] theorem ev_wNil {Q : List W → Prop} : wwNil ρ Q EX = Q [] := rfl
@[simp ↓] theorem ev_wCons {r : WW} {Q : List W → Prop} : wwCons a r ρ Q EX = a ρ (fun d => r ρ (fun ds => Q (.d d :: ds)) EX) EX := rfl
@[simp ↓] theorem ev_wRow {i : Nat} {r : WW} {Q : List W → Prop} : wwRow i r ρ Q EX = (ρ[i]? = some (some .row) ∧ r ρ (fun ds => Q (.row :: ds)) EX) := rfl
@[simp ↓] theorem ev_Tup {wa : WA} : wTup wa ρ Q EX = wa ρ (fun ds => Q (.tuple ds)) EX := rfl
@[simp ↓] theorem ev_Lst {wa : WA} : wLst wa ρ Q EX = wa ρ (fun ds => Q (.list ds)) EX := rfl
@[simp ↓] theorem ev_Call {f : FD} {ww : WW} : wCall f ww ρ Q EX = ww ρ (fun ws => f ws Q EX) EX := rfl
@[simp ↓] theorem ev_Tru : wTru a ρ Qb EX = a ρ (fun d => truG d Qb) EX := rfl
@[simp ↓] theorem ev_And : wAnd t t2 ρ Qb EX = t ρ (fun c => if c = true then t2 ρ Qb EX else Qb false) EX := rfl
@[simp ↓] theorem ev_Or : wOr t t2 ρ Qb EX = t ρ (fun c => if c = true then Qb true else t2 ρ Qb EX) EX := rfl
@[simp ↓] theorem ev_Not : wNot t ρ Qb EX = t ρ (fun c => Qb (!c)) EX := rfl
@[simp ↓] theorem ev_AndV : wAndV a b ρ Q EX = a ρ (fun d => truG d fun k => if k = true then b ρ Q EX else Q d) EX := rfl
@[simp ↓] theorem ev_OrV : wOrV a b ρ Q EX = a ρ (fun d => truG d fun k => if k = true then Q d else b ρ Q EX) EX := rfl
@[simp ↓] theorem ev_NotV : wNotV a ρ Q EX = a ρ (fun d => truG d fun k => Q (.bool !k)) EX := rfl
@[simp ↓] theorem ev_If : wIf t a b ρ Q EX = t ρ (fun k => if k = true then a ρ Q EX else b ρ Q EX) EX := rfl
@[simp ↓] theorem ev_Neg : wNeg a ρ Q EX = a ρ (fun d => ∃ i, d = .int i ∧ Q (.int (-i))) EX := rfl
@[simp ↓] theorem ev_Isi {T : String} : wIsi T a ρ Q EX = a ρ (fun d => Q (.bool (isTy T d))) EX := rfl
@[simp ↓] theorem ev_Isi2 {S T : String} : wIsi2 S T a ρ Q EX = a ρ (fun d => Q (.bool (isTy S d || isTy T d))) EX := rfl
@[simp ↓] theorem ev_MaxD : wMaxD a b ρ Q EX = a ρ (fun x => b ρ (fun y => ∃ ns, rowD x = some ns ∧ match ns with | [] => Q y | n :: ns => Q (.int (maxI n ns))) EX) EX := rfl
@[simp ↓] theorem ev_oNone {Q : Option Int → Prop} : woNone ρ Q EX = Q none := rfl
@[simp ↓] theorem ev_oSome {Q : Option Int → Prop} : woSome a ρ Q EX = a ρ (fun d => ∃ i, d = .int i ∧ Q (some i)) EX := rfl
@[simp ↓] theorem ev_Cut {wl wh : Env' → (Option Int → Prop) → EXn → Prop} : wCut a wl wh ρ Q EX = a ρ (fun d => wl ρ (fun lo => wh ρ (fun hi => aCut lo hi d Q) EX) EX) EX := rfl
@[simp ↓] theorem ev_Rev : wRev a ρ Q EX = a ρ (fun d => ∃ xs, d = .list xs ∧ Q (.list xs.reverse)) EX := rfl
@[simp ↓] theorem ev_Lc {wi : WI} {g : WG} {vs : List Nat} : wLc wi g t a vs ρ Q EX = wi ρ (fun ds => wComp g t a (wipeE ρ vs) ds [] Q) EX := rfl
@[simp ↓] theorem ev_Yes : wYes ρ Qb EX = Qb true := rfl
@[simp ↓] theorem ev_iSeq {Q : List D → Prop} : wiSeq a ρ Q EX = a ρ (fun d => ∃ ds, seqD d = some ds ∧ Q ds) EX := rfl
@[simp ↓] theorem ev_iRng1 {Q : List D → Prop} : wiRng1 a ρ Q EX = a ρ (fun d => ∃ j, d = .int j ∧ rBnd j ∧ Q (rngD 0 j.toNat)) EX := rfl
@[simp ↓] theorem ev_iRng2 {Q : List D → Prop} : wiRng2 a b ρ Q EX = a ρ (fun d => b ρ (fun d2 => ∃ i j, d = .int i ∧ d2 = .int j ∧ rBnd i ∧ rBnd j ∧ Q (rngD i (j - i).toNat)) EX) EX := rfl
@[simp ↓] theorem ev_iEnum {Q : List D → Prop} : wiEnum a ρ Q EX = a ρ (fun d => ∃ ds, d = .list ds ∧ Q (enumD ds)) EX := rfl
@[simp ↓] theorem ev_iZip {Q : List D → Prop} : wiZip a b ρ Q EX = a ρ (fun d => b ρ (fun d2 => ∃ ds es, ((d = .list ds ∧ d2 = .list es) ∨ (d = .tuple ds ∧ d2 = .tuple es)) ∧ Q (zipD ds es)) EX) EX := rfl
@[simp ↓] theorem ev_gName {i : Nat} {d : D} {Q : Env' → Prop} : wgName i d ρ Q = Q (ρ.set i (some (.d d))) := rfl
@[simp ↓] theorem ev_gNil {Q : Env' → Prop} : wgNil [] ρ Q ↔ Q ρ := ⟨fun h => h.2, fun h => ⟨rfl, h⟩⟩
@[simp ↓] theorem ev_gCons {g : WG} {us : WGs} {d : D} {r : List D} {Q : Env' → Prop} : wgCons g us (d :: r) ρ Q ↔ g d ρ (fun ρ' => us r ρ' Q) := ⟨fun ⟨_, _, e, h⟩ => by cases e; exact h, fun h => ⟨_, _, rfl, h⟩⟩
@[simp ↓] theorem ev_gTup {n : Nat} {us : WGs} {ds : List D} {Q : Env' → Prop} : wgTup n us (.tuple ds) ρ Q ↔ ds.length = n ∧ us ds ρ Q := ⟨fun ⟨_, e, h⟩ => by cases e; exact h, fun h => ⟨_, rfl, h⟩⟩
@[simp ↓] theorem ev_AugS {i : Nat} {f : F2} : wAugS i f a b D0 ρ = ownL ρ i (fun xs => a ρ (fun j => ∃ k m d, j = .int k ∧ ixN xs.length k = some m ∧ xs[m]? = some d ∧ b ρ (fun y => f d y fun z => D0.nx (ρ.set i (some (.own (.list (xs.set m z)))))) D0.ex) D0.ex) := rfl
@[simp ↓] theorem ev_mNil {Q : List Mv → Prop} : wmNil ρ Q EX = Q [] := rfl
@[simp ↓] theorem ev_mD {r : WMv} {Q : List Mv → Prop} : wmD a r ρ Q EX = a ρ (fun d => r ρ (fun ms => Q (.d d :: ms)) EX) EX := rfl
@[simp ↓] theorem ev_mO {r : WMv} {Q : List Mv → Prop} : wmO a r ρ Q EX = a ρ (fun d => r ρ (fun ms => Q (.own d :: ms)) EX) EX := rfl
@[simp ↓] theorem ev_Skip : wSkip D0 ρ = D0.nx ρ := rfl
@[simp ↓] theorem ev_Break : wBreak D0 ρ = D0.bk ρ := rfl
@[simp ↓] theorem ev_Cont : wCont D0 ρ = D0.ct ρ := rfl
@[simp ↓] theorem ev_Seq : wSeq w u D0 ρ = w { D0 with nx := u D0 } ρ := rfl
@[simp ↓] theorem ev_Expr : wExpr a D0 ρ = a ρ (fun _ => D0.nx ρ) D0.ex := rfl
@[simp ↓] theorem ev_Ret : wRet a D0 ρ = a ρ (fun d => D0.rt d) D0.ex := rfl
@[simp ↓] theorem ev_RetN : wRetN D0 ρ = D0.rt .none := rfl
@[simp ↓] theorem ev_IfS : wIfS t u v D0 ρ = t ρ (fun k => if k = true then u D0 ρ else v D0 ρ) D0.ex := rfl
@[simp ↓] theorem ev_Set {i : Nat} : wSet i a D0 ρ = a ρ (fun d => D0.nx (ρ.set i (some (.d d)))) D0.ex := rfl
@[simp ↓] theorem ev_SetO {i : Nat} : wSetO i a D0 ρ = a ρ (fun d => D0.nx (ρ.set i (some (.own d)))) D0.ex := rfl
@[simp ↓] theorem ev_Raise : wRaise a D0 ρ = a ρ (fun d => ∃ n, d = .str n ∧ n.length ≤ 1000 ∧ D0.ex (.bad n)) D0.ex := rfl
@[simp ↓] theorem ev_Frz {i : Nat} : wFrz i w D0 ρ = (match ρ[i]? with | some (some (.own d)) => w D0 (ρ.set i (some (.d d))) | _ => False) := rfl
@[simp ↓] theorem ev_Par {is : List Nat} {m : WMv} : wPar is m D0 ρ = m ρ (fun ms => is.length = ms.length ∧ (∀ i ∈ is, i < ρ.length) ∧ D0.nx (setAll ρ is ms)) D0.ex := rfl
@[simp ↓] theorem ev_Asg {g : WG} : wAsg a g D0 ρ = a ρ (fun d => g d ρ D0.nx) D0.ex := rfl
@[simp ↓] theorem ev_App {i : Nat} : wApp i a D0 ρ = ownL ρ i (fun xs => a ρ (fun d => xs.length < sizeLine ∧ D0.nx (ρ.set i (some (.own (.list (xs ++ [d])))))) D0.ex) := rfl
@[simp ↓] theorem ev_Put {i : Nat} : wPut i a b D0 ρ = ownL ρ i (fun xs => b ρ (fun d => a ρ (fun j => ∃ k m, j = .int k ∧ ixN xs.length k = some m ∧ D0.nx (ρ.set i (some (.own (.list (xs.set m d)))))) D0.ex) D0.ex) := rfl
@[simp ↓] theorem ev_For {wi : WI} {g : WG} : wFor wi g w D0 ρ = wi ρ (fun ds => wLoop g w D0 ds ρ) D0.ex := rfl
@[simp ↓] theorem ev_Gen {β : Type} {wi : WI} {g : WG} {vs : List Nat} {C : (D → Prop) → β → D → (β → Prop) → Prop} {fin : (D → Prop) → β → Prop} {b0 : β} : wGen wi g t a vs C fin b0 ρ Q EX = wi ρ (fun ds => wFold g t a (C Q) (fin Q) (wipeE ρ vs) ds b0) EX := rfl
@[simp ↓] theorem ev_wipe0 : wipeE ρ [] = ρ := rfl
@[simp ↓] theorem ev_wipe1 {i : Nat} {vs : List Nat} : wipeE ρ (i :: vs) = (wipeE ρ vs).set i none := rfl
@[simp ↓] theorem ev_Index : wIndex a b ρ Q EX = a ρ (fun x => ∃ ds, x = .list ds ∧ SeqAt.shaped (.list ds) = true ∧ b ρ (fun y => SeqAt.shaped y = true ∧ ∃ j, firstAt ds y = some j ∧ Q (.int (j : Nat))) EX) EX := rfl
@[simp ↓] theorem ev_Heard : wHeard a ρ Q EX = ∃ Q0 : D → Prop, (∀ d, Q0 d → Q d) ∧ a (plainE ρ) (fun _ => Q0 (.tuple [])) (heardX Q0) := rfl
@[simp ↓] theorem ev_f1 {f : F1} {x : D} : f1 f [x] Q = f x Q := rfl
@[simp ↓] theorem ev_f2 {f : F2} {x y : D} : f2 f [x, y] Q = f x y Q := rfl
@[simp ↓] theorem ev_truB {k : Bool} : truG (.bool k) Qb = Qb k := rfl
@[simp ↓] theorem ev_truI {k : Int} : truG (.int k) Qb = Qb (k != 0) := rfl
end
/-! ### check -/
def check_w : WS := wIfS (wNot (wTru (wVar 0))) (wRaise (wVar 1)) wSkip
def check_s : FD := fun ws Q EX => ∃ (b : Bool) (n : Str), ws = [.d (.bool b), .d (.str n)] ∧ n.length ≤ 1000 ∧ (b = true → Q .none) ∧ (b = false → EX (.bad n))
theorem mono_check : MonoF check_s := fun ws Q Q' EX h ⟨b, n, e, h1, h2, h3⟩ => ⟨b, n, e, h1, fun z => h _ (h2 z), h3⟩
theorem meets_check (ws : List W) (Q : D → Prop) (EX : EXn) (h : check_s ws Q EX) : mkF 2 2 check_w ws Q EX := by
  obtain ⟨b, n, rfl, hn, h1, h2⟩ := h
  refine ⟨rfl, ?_⟩
  cases b <;> simp [check_w, hn, h1, h2]
/-! ### the drawing of an item -/
def _law_pick_w : WS := wRet (wOp2 aIx (wVar 1) (wCall _law_taken_s (wwRow 0 (wwCons (wOpN (f1 aLen) (waCons (wVar 1) waNil)) wwNil))))
def _law_pick_s : FD := fun ws Q _ => ∃ (d : D) (xs : List D), ws = [.row, .d d] ∧ seqD d = some xs ∧ 0 < xs.length ∧ xs.length < 2 ^ 60 ∧ ∀ x ∈ xs, Q x
theorem mono__law_pick : MonoF _law_pick_s := fun ws Q Q' EX h ⟨d, xs, e, h1, h2, h3, q⟩ => ⟨d, xs, e, h1, h2, h3, fun x m => h _ (q x m)⟩
theorem atD_lt {α : Type} {xs : List α} {i : Int} (h0 : 0 ≤ i) (h1 : i < xs.length) : ∃ x ∈ xs, atD xs i = some x := by
  have h2 : i.toNat < xs.length := by omega
  refine ⟨xs[i.toNat], List.getElem_mem _, ?_⟩
  unfold atD ixN
  rw [if_pos h0, if_pos h1]
  simp [h2]
theorem meets__law_pick (ws : List W) (Q : D → Prop) (EX : EXn) (h : _law_pick_s ws Q EX) : mkF 2 2 _law_pick_w ws Q EX := by
  obtain ⟨d, xs, rfl, hd, h0, h1, q⟩ := h
  refine ⟨rfl, ?_⟩
  cases d with
  | list ys =>
    cases hd
    simp only [_law_pick_w, ev_Ret, ev_Op2, ev_Var, ev_Call, ev_wRow, ev_wCons, ev_OpN, ev_aCons, ev_aNil, ev_wNil, ev_f1]
    refine ⟨rfl, _, rfl, by omega, by omega, fun r r0 r1 => ?_⟩
    obtain ⟨x, hx, e⟩ := atD_lt r0 r1
    exact ⟨x, e, q x hx⟩
  | tuple ys =>
    cases hd
    simp only [_law_pick_w, ev_Ret, ev_Op2, ev_Var, ev_Call, ev_wRow, ev_wCons, ev_OpN, ev_aCons, ev_aNil, ev_wNil, ev_f1]
    refine ⟨rfl, _, rfl, by omega, by omega, fun r r0 r1 => ?_⟩
    obtain ⟨x, hx, e⟩ := atD_lt r0 r1
    exact ⟨x, e, q x hx⟩
  | _ => cases hd
end DD
set_option maxRecDepth 100000
set_option maxHeartbeats 2000000
/-! SemT: comprehensions, folds, loops evaluated; alike. -/
namespace DD
open PySem PySem.Spec PyProof.Rows L2 GenW
section
variable {ρ : Env'} {EX : EXn}
/-- each turn of a comprehension computed: none where the test fails -/
theorem comp_eval {g : WG} {t : WT} {we : WE} (f : D → Option D) : ∀ {ds acc : List D} {Q : D → Prop} (h : ∀ d ∈ ds, ∀ R : Option D → Prop, R (f d) → g d ρ fun ρ2 => t ρ2 (fun k => if k = true then we ρ2 (fun y => R (some y)) noX else R none) noX)
    (hl : acc.length + ds.length ≤ sizeLine) (q : Q (.list (acc ++ ds.filterMap f))), wComp g t we ρ ds acc Q
  | [], acc, Q, h, hl, q => by
    have q : Q (.list (acc ++ [])) := q
    rw [List.append_nil] at q
    exact q
  | d :: ds, acc, Q, h, hl, q => by
    rw [List.length_cons] at hl
    have := h d List.mem_cons_self (fun o => match o with | some y => acc.length < sizeLine ∧ wComp g t we ρ ds (acc ++ [y]) Q | none => wComp g t we ρ ds acc Q) (by
      cases e : f d with
      | none => 
        rw [List.filterMap_cons_none e] at q
        exact comp_eval f (fun x m => h x (List.mem_cons_of_mem _ m)) (by omega) q
      | some y =>
        rw [List.filterMap_cons_some e] at q
        refine ⟨by omega, comp_eval f (fun x m => h x (List.mem_cons_of_mem _ m)) (by rw [List.length_append, List.length_singleton]; omega) ?_⟩
        rw [List.append_assoc]
        exact q)
    exact this
/-- without a test -/
theorem comp_map {g : WG} {we : WE} (f : D → D) {ds : List D} {Q : D → Prop} (h : ∀ d ∈ ds, ∀ R : D → Prop, R (f d) → g d ρ fun ρ2 => we ρ2 R noX) (hl : ds.length ≤ sizeLine) (q : Q (.list (ds.map f))) : wComp g wYes we ρ ds [] Q := by
  refine comp_eval (fun d => some (f d)) (fun d m R r => ?_) (by simpa using hl) (by simpa using q)
  have := h d m (fun y => R (some y)) r
  simpa using this
theorem all_eval {g : WG} {we : WE} (f : D → Bool) {Q : D → Prop} : ∀ {ds : List D} (h : ∀ d ∈ ds, ∀ R : D → Prop, R (.bool (f d)) → g d ρ fun ρ2 => we ρ2 R noX) (q : Q (.bool (ds.all f))), wFold g wYes we (cAll Q) (fun _ => Q (.bool true)) ρ ds ()
  | [], h, q => q
  | d :: ds, h, q => by
    have := h d List.mem_cons_self (fun y => cAll Q () y (fun _ => wFold g wYes we (cAll Q) (fun _ => Q (.bool true)) ρ ds ())) (by
      refine ⟨f d, rfl, ?_⟩
      rw [List.all_cons] at q
      by_cases z : f d = true
      · rw [if_pos z]
        rw [z, Bool.true_and] at q
        exact all_eval f (fun x m => h x (List.mem_cons_of_mem _ m)) q
      · rw [if_neg z]
        rw [Bool.not_eq_true] at z
        rw [z, Bool.false_and] at q
        exact q)
    unfold wFold
    simpa using this
/-- a loop with an invariant -/
theorem loop_inv {g : WG} {bd : WS} {D0 : EndsW} (I : Nat → Env' → Prop) : ∀ {ds : List D} {ρ : Env'} (i0 : Nat) (h0 : I i0 ρ) (hs : ∀ i d ρ (P : Env' → Prop), ds[i]? = some d → I (i0 + i) ρ → (∀ ρ', I (i0 + i + 1) ρ' → P ρ') → g d ρ fun ρ' => bd { nx := P, rt := D0.rt, bk := D0.nx, ct := P, ex := D0.ex } ρ')
    (hn : ∀ ρ, I (i0 + ds.length) ρ → D0.nx ρ), wLoop g bd D0 ds ρ
  | [], ρ, i0, h0, hs, hn => hn ρ h0
  | d :: ds, ρ, i0, h0, hs, hn => by
    refine hs 0 d ρ (wLoop g bd D0 ds) rfl h0 fun ρ' h' => loop_inv I (i0 + 1) h' (fun i d ρ P e hI hP => ?_) (fun ρ h => hn ρ ?_)
    · refine hs (i + 1) d ρ P (by simpa using e) ?_ (fun ρ' h => hP ρ' ?_)
      · rw [show i0 + (i + 1) = i0 + 1 + i by omega]; exact hI
      · rw [show i0 + 1 + i + 1 = i0 + (i + 1) + 1 by omega]; exact h
    · rw [List.length_cons, show i0 + (ds.length + 1) = i0 + 1 + ds.length by omega]; exact h
theorem loop_run {g : WG} {bd : WS} {D0 : EndsW} (I : Nat → Env' → Prop) {ds : List D} {ρ : Env'} (h0 : I 0 ρ) (hs : ∀ i d ρ (P : Env' → Prop), ds[i]? = some d → I i ρ → (∀ ρ', I (i + 1) ρ' → P ρ') → g d ρ fun ρ' => bd { nx := P, rt := D0.rt, bk := D0.nx, ct := P, ex := D0.ex } ρ')
    (hn : ∀ ρ, I ds.length ρ → D0.nx ρ) : wLoop g bd D0 ds ρ :=
  loop_inv I 0 h0 (fun i d ρ P e hI hP => hs i d ρ P e (by simpa using hI) (fun ρ' h => hP ρ' (by simpa using h))) (fun ρ h => hn ρ (by simpa using h))
end
section
variable {Q : Bool → Prop} {Qd : D → Prop}
theorem shaped_int {i : Int} : SeqAt.shaped (.int i) = true := rfl
theorem shaped_bool {i : Bool} : SeqAt.shaped (.bool i) = true := by cases i <;> rfl
theorem shaped_none : SeqAt.shaped .none = true := rfl
@[simp ↓] theorem ev_eqI {i j : Int} : gEq (.int i) (.int j) Q ↔ Q (decide (i = j)) := by
  unfold gEq
  have : PyData.eqv (.int i) (.int j) = decide (i = j) := by
    show (i == j) = _
    by_cases h : i = j
    · rw [h]; simp
    · simp [h]
  rw [this]
  exact ⟨fun h => h.2.2, fun h => ⟨rfl, rfl, h⟩⟩
@[simp ↓] theorem ev_neI {i j : Int} : gNe (.int i) (.int j) Q ↔ Q (!decide (i = j)) := by
  unfold gNe
  have : PyData.eqv (.int i) (.int j) = decide (i = j) := by
    show (i == j) = _
    by_cases h : i = j
    · rw [h]; simp
    · simp [h]
  rw [this]
  exact ⟨fun h => h.2.2, fun h => ⟨rfl, rfl, h⟩⟩
@[simp ↓] theorem ev_eqB {i j : Bool} : gEq (.bool i) (.bool j) Q ↔ Q (decide (i = j)) := by
  unfold gEq
  have : PyData.eqv (.bool i) (.bool j) = decide (i = j) := by cases i <;> cases j <;> rfl
  rw [this, shaped_bool, shaped_bool]
  exact ⟨fun h => h.2.2, fun h => ⟨rfl, rfl, h⟩⟩
@[simp ↓] theorem ev_neB {i j : Bool} : gNe (.bool i) (.bool j) Q ↔ Q (!decide (i = j)) := by
  unfold gNe
  have : PyData.eqv (.bool i) (.bool j) = decide (i = j) := by cases i <;> cases j <;> rfl
  rw [this, shaped_bool, shaped_bool]
  exact ⟨fun h => h.2.2, fun h => ⟨rfl, rfl, h⟩⟩
@[simp ↓] theorem ev_eqS {i j : Str} : gEq (.str i) (.str j) Q ↔ SeqAt.shaped (.str i) = true ∧ SeqAt.shaped (.str j) = true ∧ Q (decide (i = j)) := by
  unfold gEq
  have : PyData.eqv (.str i) (.str j) = decide (i = j) := by
    show (i == j) = _
    by_cases h : i = j
    · rw [h]; simp
    · simp [h]
  rw [this]
@[simp ↓] theorem ev_eqN : gEq .none .none Q ↔ Q true := ⟨fun h => h.2.2, fun h => ⟨rfl, rfl, h⟩⟩
@[simp ↓] theorem ev_eqL0 : gEq (.list []) (.list []) Q ↔ Q true := ⟨fun h => h.2.2, fun h => ⟨rfl, rfl, h⟩⟩
@[simp ↓] theorem ev_ltI {i j : Int} : gLt (.int i) (.int j) Q = Q (decide (i < j)) := rfl
@[simp ↓] theorem ev_leI {i j : Int} : gLe (.int i) (.int j) Q = Q (decide (i ≤ j)) := rfl
@[simp ↓] theorem ev_gtI {i j : Int} : gGt (.int i) (.int j) Q = Q (decide (j < i)) := rfl
@[simp ↓] theorem ev_geI {i j : Int} : gGe (.int i) (.int j) Q = Q (decide (j ≤ i)) := rfl
@[simp ↓] theorem ev_isN {d : D} : gIsN d .none Q ↔ Q (isNone d) := ⟨fun h => h.2, fun h => ⟨rfl, h⟩⟩
@[simp ↓] theorem ev_notN {d : D} : gNotN d .none Q ↔ Q (!isNone d) := ⟨fun h => h.2, fun h => ⟨rfl, h⟩⟩
@[simp ↓] theorem ev_lenL {xs : List D} : aLen (.list xs) Qd = Qd (.int xs.length) := rfl
@[simp ↓] theorem ev_lenT {xs : List D} : aLen (.tuple xs) Qd = Qd (.int xs.length) := rfl
@[simp ↓] theorem ev_addI {i j : Int} : aAdd (.int i) (.int j) Qd = Qd (.int (i + j)) := rfl
@[simp ↓] theorem ev_subI {i j : Int} : aSub (.int i) (.int j) Qd = Qd (.int (i - j)) := rfl
@[simp ↓] theorem ev_aI0 {f : Int → Int → Int} {i j : Int} : aI0 f (.int i) (.int j) Qd = Qd (.int (f i j)) := rfl
@[simp ↓] theorem ev_aI {C : Int → Int → Prop} {f : Int → Int → Int} {i j : Int} : aI C f (.int i) (.int j) Qd = (C i j ∧ Qd (.int (f i j))) := rfl
@[simp ↓] theorem ev_max2 {i j : Int} : aMax2 (.int i) (.int j) Qd = Qd (.int (max i j)) := rfl
@[simp ↓] theorem ev_min2 {i j : Int} : aMin2 (.int i) (.int j) Qd = Qd (.int (min i j)) := rfl
@[simp ↓] theorem ev_ixL {xs : List D} {i : Int} : aIx (.list xs) (.int i) Qd = ∃ d, atD xs i = some d ∧ Qd d := rfl
@[simp ↓] theorem ev_ixT {xs : List D} {i : Int} : aIx (.tuple xs) (.int i) Qd = ∃ d, atD xs i = some d ∧ Qd d := rfl
theorem atD_nat {α : Type} {xs : List α} {i : Nat} {x : α} (h : xs[i]? = some x) : atD xs (i : Int) = some x := atI_nat h
end
/-! ### alike -/
def plainD : Nat → D → Bool
  | _, .none => true
  | _, .bool _ => true
  | _, .int _ => true
  | _, .str s => SeqAt.shaped (.str s)
  | n + 1, .list xs => decide (xs.length ≤ sizeLine) && xs.all (plainD n)
  | n + 1, .tuple xs => decide (xs.length ≤ sizeLine) && xs.all (plainD n)
  | _, _ => false
def _law_alike_w (sp : FD) : WS := wSeq (wIfS (wTru (wIsi2 "tuple" "list" (wVar 1))) (wSeq (wIfS (wOr (wNot (wTru (wIsi2 "tuple" "list" (wVar 0)))) (wTst2 gNe (wIsi "list" (wVar 0)) (wIsi "list" (wVar 1)))) (wRet (wC (.bool false))) wSkip) (wSeq (wIfS (wTst2 gNe (wOpN (f1 aLen) (waCons (wVar 0) waNil)) (wOpN (f1 aLen) (waCons (wVar 1) waNil))) (wRet (wC (.bool false))) wSkip) (wRet (wCmp2 gEq (wLc (wiRng1 (wOpN (f1 aLen) (waCons (wVar 1) waNil))) (wgName 2) (wNot (wTru (wCall sp (wwCons (wOp2 aIx (wVar 0) (wVar 2)) (wwCons (wOp2 aIx (wVar 1) (wVar 2)) wwNil))))) (wVar 2) [2]) (wLst waNil))))) wSkip) (wSeq (wIfS (wTru (wIsi "dict" (wVar 1))) (wSeq (wIfS (wOr (wNot (wTru (wIsi "dict" (wVar 0)))) (wTst2 gNe (wOpN (f1 aListOf) (waCons (wVar 0) waNil)) (wOpN (f1 aListOf) (waCons (wVar 1) waNil)))) (wRet (wC (.bool false))) wSkip) (wRet (wCmp2 gEq (wLc (wiSeq (wVar 1)) (wgName 3) (wNot (wTru (wCall sp (wwCons (wOp2 aIx (wVar 0) (wVar 3)) (wwCons (wOp2 aIx (wVar 1) (wVar 3)) wwNil))))) (wVar 3) [3]) (wLst waNil)))) wSkip) (wSeq (wIfS (wOr (wTst2 gIsN (wVar 1) (wC .none)) (wTru (wIsi "str" (wVar 1)))) (wRet (wAndV (wCmp2 gEq (wVar 0) (wVar 1)) (wCmp2 gEq (wIsi "str" (wVar 0)) (wIsi "str" (wVar 1))))) wSkip) (wRet (wAndV (wIsi "int" (wVar 0)) (wAndV (wCmp2 gEq (wIsi "bool" (wVar 0)) (wIsi "bool" (wVar 1))) (wCmp2 gEq (wVar 0) (wVar 1)))))))
def alikeS (n : Nat) : FD := fun ws Q _ => ∃ d, ws = [.d d, .d d] ∧ plainD n d = true ∧ Q (.bool true)
theorem mono_alikeS {n : Nat} : MonoF (alikeS n) := fun ws Q Q' EX h ⟨d, e, h1, q⟩ => ⟨d, e, h1, h _ q⟩
def neverF : FD := fun _ _ _ => False
theorem filterMap_no {α β : Type} : ∀ xs : List α, xs.filterMap (fun _ => (none : Option β)) = []
  | [] => rfl
  | x :: xs => by rw [List.filterMap_cons_none rfl]; exact filterMap_no xs
theorem alike_items {sp : FD} {n : Nat} {xs : List D} {c : List D → D} (hc : ∀ (i : Nat) (d : D) (Q : D → Prop), xs[i]? = some d → Q d → aIx (c xs) (.int i) Q) (hsp : ∀ d, plainD n d = true → ∀ Q : D → Prop, Q (.bool true) → sp [.d d, .d d] Q noX) (hl : xs.length ≤ sizeLine) (hx : xs.all (plainD n) = true) {Q : D → Prop} (q : Q (.list [])) {ρ : Env'} (h0 : ρ = [some (.d (c xs)), some (.d (c xs)), none, none]) :
    wComp (wgName 2) (wNot (wTru (wCall sp (wwCons (wOp2 aIx (wVar 0) (wVar 2)) (wwCons (wOp2 aIx (wVar 1) (wVar 2)) wwNil))))) (wVar 2) ρ (rngD 0 xs.length) [] Q := by
  subst h0
  refine comp_eval (fun _ => none) (fun d hd R r => ?_) (by unfold rngD; simpa using hl) (by rw [filterMap_no]; exact q)
  unfold rngD at hd
  obtain ⟨i, hi, rfl⟩ := List.mem_map.mp hd
  rw [List.mem_range] at hi
  simp
  refine hc i xs[i] _ (List.getElem?_eq_getElem hi) (hc i xs[i] _ (List.getElem?_eq_getElem hi) (hsp _ (List.all_eq_true.mp hx _ (List.getElem_mem _)) _ ?_))
  simpa using r
theorem meets_alike {n : Nat} {sp : FD} (hsp : ∀ m d, n = m + 1 → plainD m d = true → ∀ Q : D → Prop, Q (.bool true) → sp [.d d, .d d] Q noX) (ws : List W) (Q : D → Prop) (EX : EXn) (h : alikeS n ws Q EX) : mkF 2 4 (_law_alike_w sp) ws Q EX := by
  obtain ⟨d, rfl, hd, q⟩ := h
  refine ⟨rfl, ?_⟩
  cases d with
  | none => simpa [_law_alike_w, isTy, tyD, isNone] using q
  | bool b => simpa [_law_alike_w, isTy, tyD, isNone] using q
  | int i => simpa [_law_alike_w, isTy, tyD, isNone] using q
  | str s =>
    have hs : SeqAt.shaped (.str s) = true := by cases n <;> exact hd
    simpa [_law_alike_w, isTy, tyD, isNone, hs] using q
  | list xs =>
    cases n with
    | zero => simp [plainD] at hd
    | succ m =>
      simp [plainD] at hd
      simp [_law_alike_w, isTy, tyD, isNone]
      refine ⟨?_, alike_items (c := .list) (fun i d Q h q => ⟨d, atD_nat h, q⟩) (fun d hp Q q => hsp m d rfl hp Q q) hd.1 (List.all_eq_true.mpr hd.2) (by simpa using q) rfl⟩
      have := hd.1
      rw [sizeLine_eq] at this
      unfold rBnd; omega
  | tuple xs =>
    cases n with
    | zero => simp [plainD] at hd
    | succ m =>
      simp [plainD] at hd
      simp [_law_alike_w, isTy, tyD, isNone]
      refine ⟨?_, alike_items (c := .tuple) (fun i d Q h q => ⟨d, atD_nat h, q⟩) (fun d hp Q q => hsp m d rfl hp Q q) hd.1 (List.all_eq_true.mpr hd.2) (by simpa using q) rfl⟩
      have := hd.1
      rw [sizeLine_eq] at this
      unfold rBnd; omega
  | dict kvs => cases n <;> simp [plainD] at hd
end DD
set_option maxRecDepth 100000
set_option maxHeartbeats 2000000
/-! SemU: the law's own def, the end. -/
namespace DD
open PySem PySem.Spec PyProof.Rows L2 GenW
/-- the end, the head's empty tables told of -/
theorem walk_end {l : PySem.W.OpenLaw} {n k : Nat} {q : Program} {loose : List Str} {XP : (Str → Option Value) → Heap → Prop} {YP : World → Heap → Prop} {d : DefRec} {K : Params → PySem.W.Frag} {CX : World → CXT} {x : Str}
    (hn : l.most = some n) (hn2 : n ≤ sizeLine) (hdf : d.params.defaults = []) (hr : Room k callerA) (hY : ∀ (w : World) (h : Heap), YP w h → (K w.params).In h)
    (F : ∀ (w : World) (mg : Str → Option Value) (fa : Addr) (h : Heap), (∀ (y : Str) (c P : Addr), ((recsOf q).find? (fun e => e.name == y)).isSome = true → PySem.W.tabIn (K w.params) y = some (c, P) → PySem.W.CodeHd h c P ∧ h.get? P = some { cls := .none, data := .fields #[] }) → (K w.params).In h → h.Ns mainGlobals mg → mg d.name = some (.ref fa) → LamX.LawAtS l w (K w.params) (CX w) k n x mg fa h)
    (hCX : ∀ (w : World) (H : Hp) (s : Shared) (e : Value) (s' : Shared), CX w [] H s (fun _ _ _ => False) e s' → False) :
    PySem.W.WalkO q loose XP YP l.row.toRowW d [] (fun f vs => PySem.call f vs) := by
  refine Att.attach_callB hn hdf fun w s₀ s₁ mg mb fa o pm cd doc a vs ns G Y ho hd hcd hmg hobj hints hlen hbits hg => ?_
  have KX := hY w _ Y
  obtain ⟨fd, cs, sp, hT, nT, C, hb, hsp, hF⟩ := F w mg fa _ (fun y c P hy ht => by
    obtain ⟨d', hd'⟩ := Option.isSome_iff_exists.mp hy
    exact PySem.W.tab_of G.T KX hd' ht) KX G.T.g hmg
  exact LamX.law_callTs KX G.T.g G.T.b G.T.builtins G.T.nolimit hg hT nT C G.T.bmain hobj hints (Nat.le_trans hlen hn2) hr hF hb (fun H hH hS => hsp H a ns hlen hbits hH hS) fun H e s' => hCX w H s₁ e s'
/-- the promise of the law: it gives True -/
def spLaw (K : PySem.W.Frag) (cs : List (Addr × Addr)) : Sp := fun vs H Q E => ∃ (a : Addr) (ns : List Int), vs = [.ref a] ∧ (∀ p ∈ cs, H p.2 = some (.tbl #[])) ∧ SqL K H a (ns.map V.int) ∧ ∀ H', Q (.bl true) H'
theorem law_fn {P : Program} {w0 : World} {K : PySem.W.Frag} {mg : Str → Option Value} {base : Heap} {k : Nat} {st h0 : Stmt} {rest : List Stmt} {f : Addr} {fd : FuncData} {cdv : Value} {m : Nat} {N : List Str} {w : WS} {cs : List (Addr × Addr)} {T : List (Addr × Str)} {G : List Addr} {cB cU : Addr} {sd : Int} (hs0 : 0 ≤ sd) (hs1 : sd < 2147483647)
    (F : FunC K "law" "law" st f fd cdv) (Sc : FnScope N ["script"] (defScope st)) (hm : N.length = m + 2) (hsplit : defBody st = h0 :: rest)
    (hT : ∀ q ∈ T, q.1 ∈ cs.map (·.2)) (hG : ∀ q ∈ G, q ∈ cs.map (·.2)) (hTG : ∀ q ∈ G, ∀ t ∈ T, t.1 ≠ q)
    (hhead : ∀ (A : Around) (outer : List Env) (s : Shared) (H : Hp) (E : XK), PS (bodyCx P w0 K mg base N "law" st f cdv A outer s H E) h0 (tAsg (tLst (tCons (tVar 0) (tCons (tC (.int 0)) (tCons (tC (.int sd)) (tCons (tC (.int 0)) tNil))))) (gName 1)))
    (hbody : ∀ S : Par, S.K = K → S.T = T → S.G = G → S.cBad = cB → S.cUnr = cU → ∀ (N0 : Addr → Prop) (H0 : Hp) (A : Around) (outer : List Env) (s : Shared) (H : Hp) (E : XK), Room k (A.deeper (envOfC "law" (defScope st) s.heap.objs.size f cdv)) → DSs (S.inn N0 H0 E) (bodyCx P w0 K mg base N "law" st f cdv A outer s H E) rest w)
    (plain : w { nx := fun _ => False, rt := fun d => d = .bool true, ex := noX } (none :: some .row :: List.replicate m none)) :
    FnOk P w0 K mg base (L2.CX P w0) (k + 1) f fd ["script"] (spLaw K cs) := by
  obtain ⟨oc, od, kV, doc, pm, an, ct, osl, rfl, lk, hcd⟩ := F.ex
  refine fn_of lk hcd Sc (fun vs H Q E ⟨a, ns, e, _⟩ => by rw [e]; rfl) fun A outer s H vs Q E hr ⟨a, ns, e, hcs, hS, hQ⟩ => ?_
  subst e
  let SS : Addr → Par := fun r => { K := K, w := w0, T := T, G := G, r := r, scr := a, ns := ns, cBad := cB, cUnr := cU, N := fun _ => False, H0 := H, E := E }
  have hrest : PSs (bodyCx P w0 K mg base N "law" st f cdv A outer s H E) rest (fun D σ H' => ∃ (r : Addr) (H0 : Hp), LS (((SS r).inn (fun _ => False) H0 E).at K) w D σ H') :=
    ⟨fun pins s' σ H' D I ⟨r, H0, ht⟩ => (hbody (SS r) rfl rfl rfl rfl rfl (fun _ => False) H0 A outer s H E hr).ps.run pins s' σ H' D I ht⟩
  have hmono := (hbody (SS 0) rfl rfl rfl rfl rfl (fun _ => False) H A outer s H E hr).mono
  refine ⟨_, by rw [hsplit]; exact pss_cons (hhead A outer s H E) hrest, ?_⟩
  have hst : L2.start N [V.ref a] = some (.ref a) :: none :: List.replicate m none := by
    unfold L2.start
    rw [hm]
    rfl
  rw [hst]
  refine ⟨_, rfl, (by rw [sizeLine_eq]; show 4 ≤ 16777216; decide), fun r hr0 => ?_⟩
  let H1 := upd H r (.lst [V.ref a, V.int 0, V.int sd, V.int 0])
  have tb : ∀ P ∈ cs.map (·.2), H1 P = some (.tbl #[]) := fun P hP => by
    obtain ⟨q, hq, e⟩ := List.mem_map.mp hP
    show upd H r _ P = _
    rw [upd_ne (fun z => by rw [← e] at z; rw [← z, hcs q hq] at hr0; cases hr0), ← e]
    exact hcs q hq
  have wd : Wd (((SS r).inn (fun _ => False) H1 E).at K) H1 := by
    refine ⟨hTG, fun P hP => ⟨#[], tb P (hG P hP), ?_⟩, fun q hq => ⟨#[], tb q.1 (hT q hq), ?_, fun pos cv h => ?_⟩, ⟨0, sd, 0, by show upd H r _ r = _; unfold L2.upd; rw [if_pos rfl], by decide, hs0, hs1, by decide⟩, ?_⟩
    · exact trivial
    · exact trivial
    · simp [codeAmong] at h
    · show SqL K (upd H r _) a (ns.map V.int)
      rcases hS with (hS | ⟨o, hS⟩) | hS
      · exact .inl (.inl (by rw [upd_ne (fun z => by rw [z, hr0] at hS; cases hS)]; exact hS))
      · exact .inl (.inr ⟨o, by rw [upd_ne (fun z => by rw [z, hr0] at hS; cases hS)]; exact hS⟩)
      · exact .inr hS
  refine ⟨r, H1, none :: some .row :: List.replicate m none, noOwn, noX, ⟨wd, Ext.refl wd, ?_, fun i w hw => ?_, fun i j a h _ => (by cases h), fun x hx => (by cases hx), fun i a h => (by cases h)⟩, exok_no, hmono { nx := fun _ => False, rt := fun d => d = .bool true, ex := noX } _ _ ⟨fun _ h => h.elim, fun d h v H' _ _ r => ?_, fun _ h => h.elim, fun _ h => h.elim, rfl⟩ plain⟩
  · simp
  · match i, hw with
    | 1, hw =>
      have e : W.row = w := by simpa using hw
      subst e
      rfl
    | i + 2, hw =>
      have : (List.replicate m (none : Option W))[i]? = some (some w) := by simpa using hw
      rw [List.getElem?_replicate] at this
      split at this <;> cases this
  · subst h
    have e := r.b (p := ((SS _).inn (fun _ => False) H1 E).at K) (O := noOwn)
    rw [e.bool]
    exact hQ _
/-- alike, level by level -/
theorem cal_alike {P : Program} {w0 : World} {K : PySem.W.Frag} {mg : Str → Option Value} {base : Heap} {S : Par} {st : Stmt} {f : Addr} {fd : FuncData} {cdv : Value} {ps : List Str} (F : FunC K "_law_alike" "_law_alike" st f fd cdv) (hm : mg "_law_alike" = some (.ref f)) (hb : Binds K fd ps [])
    (step : ∀ (j : Nat) (sp : FD), Cal P w0 K mg base S j "_law_alike" ps sp → FnOk P w0 K mg base (L2.CX P w0) (j + 1) f fd ps (SpD S (mkF 2 4 (_law_alike_w sp)))) : ∀ n : Nat, Cal P w0 K mg base S (n + 1) "_law_alike" ps (alikeS n)
  | 0 => cal_of F hm hb (step 0 neverF ⟨⟨f, fd, ⟨fun _ _ _ _ ⟨_, _, _, _, _, _, h, _⟩ => h.elim, fun _ _ _ _ _ _ _ _ _ _ _ _ _ ⟨_, _, _, _, _, _, h, _⟩ => h.elim⟩, hm, F.kp, hb⟩, fun _ _ _ _ _ h => h.elim⟩) mono_alikeS
      (meets_alike fun m d e => by omega)
  | n + 1 => cal_of F hm hb (step (n + 1) _ (cal_alike F hm hb step n)) mono_alikeS
      (meets_alike fun m d e hp Q q => by
        obtain rfl : n = m := by omega
        exact ⟨d, rfl, hp, q⟩)
theorem no_cx {P : Program} {w : World} {H : Hp} {s : Shared} {e : Value} {s' : Shared} (h : L2.CX P w [] H s (fun _ _ _ => False) e s') : False := by
  obtain ⟨a, B, H', cls, d, _, _, _, _, _, _, _, z⟩ := h
  exact z
end DD
set_option maxRecDepth 100000
set_option maxHeartbeats 2000000
/-! SemV: comprehensions and loops over rows of Lean values. -/
namespace DD
open PySem PySem.Spec PyProof.Rows L2 GenW
section
variable {ρ : Env'} {EX : EXn} {α β : Type}
/-- a comprehension over a row of Lean values -/
theorem comp_evalM {g : WG} {t : WT} {we : WE} {h : α → D} (f : α → Option D) : ∀ {xs : List α} {acc : List D} {Q : D → Prop} (hh : ∀ x ∈ xs, ∀ R : Option D → Prop, R (f x) → g (h x) ρ fun ρ2 => t ρ2 (fun k => if k = true then we ρ2 (fun y => R (some y)) noX else R none) noX)
    (hl : acc.length + xs.length ≤ sizeLine) (q : Q (.list (acc ++ xs.filterMap f))), wComp g t we ρ (xs.map h) acc Q
  | [], acc, Q, hh, hl, q => by
    have q : Q (.list (acc ++ [])) := q
    rw [List.append_nil] at q
    exact q
  | d :: ds, acc, Q, hh, hl, q => by
    rw [List.length_cons] at hl
    have := hh d List.mem_cons_self (fun o => match o with | some y => acc.length < sizeLine ∧ wComp g t we ρ (ds.map h) (acc ++ [y]) Q | none => wComp g t we ρ (ds.map h) acc Q) (by
      cases e : f d with
      | none =>
        rw [List.filterMap_cons_none e] at q
        exact comp_evalM f (fun x m => hh x (List.mem_cons_of_mem _ m)) (by omega) q
      | some y =>
        rw [List.filterMap_cons_some e] at q
        refine ⟨by omega, comp_evalM f (fun x m => hh x (List.mem_cons_of_mem _ m)) (by rw [List.length_append, List.length_singleton]; omega) ?_⟩
        rw [List.append_assoc]
        exact q)
    exact this
theorem comp_mapM {g : WG} {we : WE} {h : α → D} (f : α → D) {xs : List α} {Q : D → Prop} (hh : ∀ x ∈ xs, ∀ R : D → Prop, R (f x) → g (h x) ρ fun ρ2 => we ρ2 R noX) (hl : xs.length ≤ sizeLine) (q : Q (.list (xs.map f))) : wComp g wYes we ρ (xs.map h) [] Q := by
  refine comp_evalM (fun d => some (f d)) (fun d m R r => ?_) (by simpa using hl) (by simpa using q)
  have := hh d m (fun y => R (some y)) r
  simpa using this
theorem filt_map {p : α → Bool} {e : α → β} : ∀ xs : List α, xs.filterMap (fun x => if p x = true then some (e x) else none) = (xs.filter p).map e
  | [] => rfl
  | x :: xs => by
    by_cases z : p x = true
    · rw [List.filterMap_cons_some (b := e x) (by simp [z]), List.filter_cons_of_pos z, List.map_cons, filt_map xs]
    · rw [List.filterMap_cons_none (by simp [z]), List.filter_cons_of_neg z, filt_map xs]
/-- with a test -/
theorem comp_filtM {g : WG} {t : WT} {we : WE} {h : α → D} (p : α → Bool) (e : α → D) {xs : List α} {Q : D → Prop} (hh : ∀ x ∈ xs, ∀ R : Option D → Prop, R (if p x = true then some (e x) else none) → g (h x) ρ fun ρ2 => t ρ2 (fun k => if k = true then we ρ2 (fun y => R (some y)) noX else R none) noX)
    (hl : xs.length ≤ sizeLine) (q : Q (.list ((xs.filter p).map e))) : wComp g t we ρ (xs.map h) [] Q :=
  comp_evalM (fun x => if p x = true then some (e x) else none) hh (by simpa using hl) (by rw [filt_map]; exact q)
theorem all_evalM {g : WG} {we : WE} {h : α → D} (f : α → Bool) {xs : List α} {Q : D → Prop} (hh : ∀ x ∈ xs, ∀ R : D → Prop, R (.bool (f x)) → g (h x) ρ fun ρ2 => we ρ2 R noX) (q : Q (.bool (xs.all f))) : wFold g wYes we (cAll Q) (fun _ => Q (.bool true)) ρ (xs.map h) () := by
  induction xs with
  | nil => exact q
  | cons d ds ih =>
    have := hh d List.mem_cons_self (fun y => cAll Q () y (fun _ => wFold g wYes we (cAll Q) (fun _ => Q (.bool true)) ρ (ds.map h) ())) (by
      refine ⟨f d, rfl, ?_⟩
      rw [List.all_cons] at q
      by_cases z : f d = true
      · rw [if_pos z]
        rw [z, Bool.true_and] at q
        exact ih (fun x m => hh x (List.mem_cons_of_mem _ m)) q
      · rw [if_neg z]
        rw [Bool.not_eq_true] at z
        rw [z, Bool.false_and] at q
        exact q)
    rw [List.map_cons]
    unfold wFold
    simpa using this
theorem loop_runM {g : WG} {bd : WS} {D0 : EndsW} {h : α → D} (I : Nat → Env' → Prop) {xs : List α} (h0 : I 0 ρ) (hs : ∀ i x ρ (P : Env' → Prop), xs[i]? = some x → I i ρ → (∀ ρ', I (i + 1) ρ' → P ρ') → g (h x) ρ fun ρ' => bd { nx := P, rt := D0.rt, bk := D0.nx, ct := P, ex := D0.ex } ρ')
    (hn : ∀ ρ, I xs.length ρ → D0.nx ρ) : wLoop g bd D0 (xs.map h) ρ := by
  refine loop_run I h0 (fun i d ρ P e hI hP => ?_) (fun ρ q => hn ρ (by simpa using q))
  rw [List.getElem?_map] at e
  cases e1 : xs[i]? with
  | none => rw [e1] at e; cases e
  | some x =>
    rw [e1] at e
    cases e
    exact hs i x ρ P e1 hI hP
theorem zipD_map (a : α → D) (b : β → D) : ∀ (xs : List α) (ys : List β), zipD (xs.map a) (ys.map b) = (xs.zip ys).map (fun p => .tuple [a p.1, b p.2])
  | [], ys => by cases ys <;> rfl
  | x :: xs, [] => rfl
  | x :: xs, y :: ys => by
    have := zipD_map a b xs ys
    unfold zipD at this ⊢
    rw [List.map_cons, List.map_cons, List.zipWith_cons_cons, List.zip_cons_cons, List.map_cons, this]
theorem enumD_map (a : α → D) (xs : List α) : enumD (xs.map a) = xs.zipIdx.map (fun p => .tuple [.int ((p.2 : Nat) : Int), a p.1]) := by
  unfold enumD
  apply List.ext_getElem?
  intro i
  rw [List.getElem?_map, List.getElem?_map, List.getElem?_zipIdx, List.length_map]
  by_cases hi : i < xs.length
  · rw [List.getElem?_range hi, List.getElem?_eq_getElem hi]
    simp [hi]
  · rw [List.getElem?_eq_none (by simp; omega), List.getElem?_eq_none (by omega)]
    rfl
theorem rngD_map {lo : Int} {n : Nat} : rngD lo n = (List.range n).map (fun i => .int (lo + (i : Nat))) := rfl
theorem cut1 {α : Type} (xs : List α) : cutD xs (some 1) none = xs.drop 1 := by
  unfold cutD
  have e : HT.sIx xs.length 0 (some 1) = min 1 xs.length := HT.sIx_nat xs.length 0 1
  rw [HT.sIx_none, e]
  cases xs with
  | nil => rfl
  | cons x xs =>
    have : min 1 (x :: xs).length = 1 := by rw [List.length_cons]; omega
    rw [this]
    exact List.take_of_length_le (by simp)
theorem flat1 {α : Type} (x : α) : ∀ n : Nat, (List.replicate n [x]).flatten = List.replicate n x
  | 0 => rfl
  | n + 1 => by rw [List.replicate_succ, List.flatten_cons, flat1 x n]; rfl
section
variable {Q : D → Prop} {f : Int → List Int → Int}
@[simp ↓] theorem ev_tupL {xs : List D} : aTupleOf (.list xs) Q = Q (.tuple xs) := rfl
@[simp ↓] theorem ev_tupT {xs : List D} : aTupleOf (.tuple xs) Q = Q (.tuple xs) := rfl
@[simp ↓] theorem ev_lstL {xs : List D} : aListOf (.list xs) Q = Q (.list xs) := rfl
@[simp ↓] theorem ev_lstT {xs : List D} : aListOf (.tuple xs) Q = Q (.list xs) := rfl
@[simp ↓] theorem ev_mulL {xs : List D} {k : Int} : aMulL (.list xs) (.int k) Q = ((-(2 ^ 63) ≤ k ∧ k < 2 ^ 63 ∧ xs.length * k.toNat ≤ sizeLine) ∧ Q (.list (List.replicate k.toNat xs).flatten)) := rfl
@[simp ↓] theorem ev_mulT {xs : List D} {k : Int} : aMul (.tuple xs) (.int k) Q = ((xs ≠ [] ∧ 2 ≤ k ∧ k ≤ 1000 ∧ xs.length ≤ 1000) ∧ Q (.tuple (List.replicate k.toNat xs).flatten)) := rfl
@[simp ↓] theorem ev_mulA {xs : List D} {k : Int} : aMul (.list xs) (.int k) Q = ((-(2 ^ 63) ≤ k ∧ k < 2 ^ 63 ∧ xs.length * k.toNat ≤ sizeLine) ∧ Q (.list (List.replicate k.toNat xs).flatten)) := rfl
@[simp ↓] theorem ev_addL {xs ys : List D} : aAdd (.list xs) (.list ys) Q = (xs.length + ys.length ≤ sizeLine ∧ Q (.list (xs ++ ys))) := rfl
@[simp ↓] theorem ev_addT {xs ys : List D} : aAdd (.tuple xs) (.tuple ys) Q = (xs.length + ys.length ≤ sizeLine ∧ Q (.tuple (xs ++ ys))) := rfl
@[simp ↓] theorem ev_addLL {xs ys : List D} : aAddL (.list xs) (.list ys) Q = (xs.length + ys.length ≤ sizeLine ∧ Q (.list (xs ++ ys))) := rfl
theorem best_list {n : Int} {ns : List Int} {xs : List D} (e : xs = (n :: ns).map .int) (q : Q (.int (f n ns))) : aBest f (.list xs) Q := ⟨n, ns, by rw [e]; exact intsD_map _, q⟩
theorem best_tuple {n : Int} {ns : List Int} {xs : List D} (e : xs = (n :: ns).map .int) (q : Q (.int (f n ns))) : aBest f (.tuple xs) Q := ⟨n, ns, by rw [e]; exact intsD_map _, q⟩
theorem truG_list {xs : List D} {Qb : Bool → Prop} : truG (.list xs) Qb = Qb (!xs.isEmpty) := rfl
theorem ixN_nat {n i : Nat} (h : i < n) : ixN n (i : Int) = some i := by
  unfold ixN
  rw [if_pos (by omega), if_pos (by omega)]
  simp
end
end
/-! ### shapes -/
def shD (n : Nat) (d : D) : Prop := d.canLay0 = true ∧ d.depth ≤ n
theorem shaped_of {n : Nat} {d : D} (h : shD n d) (hn : n ≤ 64 := by decide) : SeqAt.shaped d = true := by
  unfold SeqAt.shaped
  rw [h.1, Bool.true_and]
  exact decide_eq_true (Nat.le_trans h.2 hn)
theorem shD_int {n : Nat} {i : Int} : shD n (.int i) := ⟨by simp only [PyData.canLay0], by simp only [PyData.depth]; exact Nat.zero_le _⟩
theorem shD_bool {n : Nat} {i : Bool} : shD n (.bool i) := ⟨by simp only [PyData.canLay0], by simp only [PyData.depth]; exact Nat.zero_le _⟩
theorem shD_none {n : Nat} : shD n .none := ⟨by simp only [PyData.canLay0], by simp only [PyData.depth]; exact Nat.zero_le _⟩
theorem shD_str {n : Nat} {x : Str} (h : SeqAt.shaped (.str x) = true) : shD n (.str x) := ⟨SeqAt.canLay_of_shaped h, by simp only [PyData.depth]; exact Nat.zero_le _⟩
theorem canAll {xs : List D} (h : ∀ x ∈ xs, x.canLay0 = true) : PyData.canLayAll0 xs = true := by
  induction xs with
  | nil => simp only [PyData.canLayAll0]
  | cons x xs ih =>
    simp only [PyData.canLayAll0, Bool.and_eq_true]
    exact ⟨h x List.mem_cons_self, ih fun y m => h y (List.mem_cons_of_mem _ m)⟩
theorem depAll {n : Nat} {xs : List D} (h : ∀ x ∈ xs, x.depth ≤ n) : PyData.depthAll xs ≤ n := by
  induction xs with
  | nil => simp only [PyData.depthAll]; exact Nat.zero_le _
  | cons x xs ih =>
    simp only [PyData.depthAll]
    exact Nat.max_le.mpr ⟨h x List.mem_cons_self, ih fun y m => h y (List.mem_cons_of_mem _ m)⟩
theorem shD_list {n : Nat} {xs : List D} (h : ∀ x ∈ xs, shD n x) : shD (n + 1) (.list xs) := by
  refine ⟨?_, ?_⟩
  · simp only [PyData.canLay0]; exact canAll fun x m => (h x m).1
  · simp only [PyData.depth]; exact Nat.succ_le_succ (depAll fun x m => (h x m).2)
theorem shD_tuple {n : Nat} {xs : List D} (h : ∀ x ∈ xs, shD n x) : shD (n + 1) (.tuple xs) := by
  refine ⟨?_, ?_⟩
  · simp only [PyData.canLay0]; exact canAll fun x m => (h x m).1
  · simp only [PyData.depth]; exact Nat.succ_le_succ (depAll fun x m => (h x m).2)
theorem shD_ints {n : Nat} {ns : List Int} : ∀ x ∈ ns.map PyData.int, shD n x := fun x hx => by
  obtain ⟨i, _, rfl⟩ := List.mem_map.mp hx
  exact shD_int
theorem shaped_ints {ns : List Int} : SeqAt.shaped (.list (ns.map .int)) = true := shaped_of (shD_list (n := 0) shD_ints)
theorem shaped_nil : SeqAt.shaped (.list []) = true := rfl
theorem ne_nil {xs : List D} {Q : Bool → Prop} (h : SeqAt.shaped (.list xs) = true) (q : Q (!xs.isEmpty)) : gNe (.list xs) (.list []) Q := by
  refine ⟨h, shaped_nil, ?_⟩
  cases xs with
  | nil => exact q
  | cons x xs => exact q
theorem eq_nil {xs : List D} {Q : Bool → Prop} (h : SeqAt.shaped (.list xs) = true) (q : Q xs.isEmpty) : gEq (.list xs) (.list []) Q := by
  refine ⟨h, shaped_nil, ?_⟩
  cases xs with
  | nil => exact q
  | cons x xs => exact q
end DD
set_option maxRecDepth 100000
set_option maxHeartbeats 4000000
/-! SemW: a row turned round (lists, tuples), tuple * any int. -/
namespace DD
open PySem PySem.Spec PyProof.Rows L2 HT
section
variable {prog : Program} {w : World} {A : Around} {E : Value → Shared → Prop} {s : Shared}
theorem sliceApplied_rev {sl : Addr} {vs : Value} {n : Nat} {Q : Int × Int × Nat → Shared → Prop} (hs : s.heap.IsSliceOf sl .none .none vs) (ps : IsPart vs (some (-1)))
    (h : Q ((n : Int) - 1, -1, n) s) : wpAny (model prog w) A (Builtin.Slice.sliceApplied (.ref sl) (pure (n : Int))) Q E s := by
  obtain ⟨os, hos, hcs, hds⟩ := id hs
  unfold Builtin.Slice.sliceApplied Builtin.Slice.sliceFields
  refine wpAny_bind (wpAny_bind (wpAny_field hos hds (x := .none) rfl (wpAny_bind (wpAny_field hos hds (x := .none) rfl (wpAny_bind (wpAny_field hos hds (x := vs) rfl (wpAny_pure ?_)))))))
  refine wpAny_bind (slicePart_ ps ?_)
  show wpAny _ _ (if ((-1 : Int) == 0) = true then _ else _) _ _ s
  rw [if_neg (by decide)]
  refine wpAny_bind (slicePart_none (wpAny_bind (slicePart_none (wpAny_bind (wpAny_pure ?_)))))
  show wpAny _ _ (match Builtin.Slice.sliceAdjust none none (-1) (n : Int) with | (lo, hi) => pure (lo, (-1 : Int), Builtin.Slice.slicePlaces lo hi (-1))) _ _ s
  have e : Builtin.Slice.sliceAdjust none none (-1) (n : Int) = ((n : Int) - 1, -1) := rfl
  rw [e]
  show wpAny _ _ (pure ((n : Int) - 1, (-1 : Int), Builtin.Slice.slicePlaces ((n : Int) - 1) (-1) (-1))) _ _ s
  have e2 : Builtin.Slice.slicePlaces ((n : Int) - 1) (-1) (-1) = n := by
    unfold Builtin.Slice.slicePlaces
    rw [if_neg (by decide)]
    by_cases h : n = 0
    · subst h; rfl
    · rw [if_pos (by omega)]
      have : ((n : Int) - 1 - -1 - 1) / (- -1) + 1 = n := by
        rw [show (- -1 : Int) = 1 from rfl, Int.ediv_one]; omega
      rw [this]
      omega
  rw [e2]
  exact wpAny_pure h
theorem fm_congr {α β : Type} {f g : α → Option β} : ∀ {l : List α}, (∀ x ∈ l, f x = g x) → l.filterMap f = l.filterMap g
  | [], _ => rfl
  | x :: l, h => by
    have h1 := h x List.mem_cons_self
    have ih := fm_congr (l := l) fun y m => h y (List.mem_cons_of_mem _ m)
    cases e : f x with
    | none => rw [List.filterMap_cons_none e, List.filterMap_cons_none (h1 ▸ e), ih]
    | some b => rw [List.filterMap_cons_some e, List.filterMap_cons_some (h1 ▸ e), ih]
theorem fm_all {α : Type} : ∀ l : List α, (List.range l.length).filterMap (fun m => l[m]?) = l
  | [] => rfl
  | x :: l => by
    have h := fm_all l
    rw [List.length_cons, List.range_succ_eq_map, List.filterMap_cons_some (f := fun m => (x :: l)[m]?) (a := 0) (b := x) rfl, List.filterMap_map]
    congr 1
theorem pick_rev (xs : Array Value) : ((List.range xs.size).filterMap fun (m : Nat) => xs[(((xs.size : Nat) : Int) - 1 + (m : Int) * -1).toNat]?).toArray = xs.toList.reverse.toArray := by
  congr 1
  have e : ∀ m ∈ List.range xs.size, (fun (m : Nat) => xs[(((xs.size : Nat) : Int) - 1 + (m : Int) * -1).toNat]?) m = (fun m => xs.toList.reverse[m]?) m := by
    intro m hm
    rw [List.mem_range] at hm
    show xs[(((xs.size : Nat) : Int) - 1 + (m : Int) * -1).toNat]? = xs.toList.reverse[m]?
    rw [List.getElem?_reverse (by simpa using hm), Array.getElem?_toList, Array.length_toList]
    congr 1
    omega
  rw [fm_congr e]
  have := fm_all xs.toList.reverse
  rw [List.length_reverse, Array.length_toList] at this
  exact this
theorem getItem_tuple_rev {t sl : Addr} {items : Array Value} {vs : Value} {Q : Value → Shared → Prop} (ht : IsTup s.heap t items) (hs : s.heap.IsSliceOf sl .none .none vs) (ps : IsPart vs (some (-1)))
    (h : Q (.ref s.heap.objs.size) { s with heap := s.heap.push { cls := .type "tuple", data := .seq items.toList.reverse.toArray } })
    (hsz : items.size ≤ sizeLine) : wpAny (model prog w) A (getItem (.ref t) (.ref sl)) Q E s := by
  have htake : sizeOk (.seq items.toList.reverse.toArray) := by
    show items.toList.reverse.toArray.size ≤ sizeLine
    rw [List.size_toArray, List.length_reverse, Array.length_toList]
    exact hsz
  obtain ⟨os, hos, hcs, hds⟩ := id hs
  have hTs : s.TypeIs (.ref sl) "slice" := ⟨os, hos, hcs⟩
  unfold getItem
  try with_reducible refine wpAny_holding ?_
  first | refine wpAny_bind (wpAny_pure ?_) | skip
  refine wpAny_bind (wpAny_sequenceKey ht.typeIs (by decide) ?_)
  refine wpAny_bind (wpAny_callSpecial?_slot (name := Str.ofString "__getitem__") ht.typeIs PyProof.Rows.slot_tuple_getitem
    (wpAny_call_entry PyProof.Rows.slot_tuple_getitem ht.typeIs entry_tuple_getitem ?_ (args_tuple_getitem _ _)))
  show wpAny _ _ (Builtin.Tuple.tupleItemsOf (.ref t) >>= _) _ _ s
  refine wpAny_bind (tupleItemsOf_ ht ?_)
  refine wpAny_bind (wpAny_typeOf hTs ?_)
  rw [if_pos (by decide)]
  refine wpAny_bind (sliceApplied_rev hs ps ?_)
  show wpAny _ _ (if ((((items.size : Nat) : Int) - 1) == 0 && (-1 : Int) == 1 && items.size == items.size) = true then _ else _) _ _ s
  rw [if_neg (by simp), pick_rev]
  first
    | exact wpAny_bind (m := Builtin.Tuple.tupleExact _) (wpAny_newObj_type (wpAny_pure ⟨_, rfl, wpAny_pure h⟩) htake)
    | exact wpAny_bind (m := Builtin.Tuple.tupleExact _) (wpAny_newObj_type (wpAny_bind (wpAny_pure (wpAny_pure ⟨_, rfl, wpAny_pure h⟩))) htake)
    | exact wpAny_bind (wpAny_bind (m := Builtin.Tuple.tupleExact _) (wpAny_newObj_type (wpAny_pure (wpAny_pure ⟨_, rfl, wpAny_pure h⟩)) htake))
    | exact wpAny_bind (wpAny_bind (m := Builtin.Tuple.tupleExact _) (wpAny_newObj_type (wpAny_pure ⟨_, rfl, wpAny_pure h⟩) htake))
theorem tuple_mulW1 (l : Addr) (items : Array Value) (n : Nat) (dd : Option Addr) (sl : Array (Option Value)) (x : Int) (u : Tok) (c0 : (decide (x < -(2 ^ 63)) || decide (x ≥ 2 ^ 63)) = false) (c1 : (items.isEmpty || x == 1) = true) :
    Meets (Builtin.«tuple.__mul__» ⟨[.ref l, .int x u], []⟩) (fun _ R s => s.heap.get? l = some { cls := .type "tuple", dict := dd, data := .seq items n, slots := sl } ∧
      R (.ok (.ret (Value.ref l))) { s with heap := s.heap, toks := s.toks }) :=
  .of_wp fun prog w A R s h => by
    obtain ⟨hp, g, d, tk, os⟩ := s
    obtain ⟨hl, h⟩ := h
    have f1 := AutoSeq1.idx_int
    wp_walk using wpAny_loadPart' hl
    repeat (first
      | (refine wpAny_ite_false (decide_eq_false (by rw [c0]; exact Bool.false_ne_true)) ?_; wp_walk using wpAny_loadPart' hl)
      | (refine wpAny_ite_true (decide_eq_true c1) ?_; wp_walk using wpAny_loadPart' hl))
    exact ⟨_, rfl, h⟩
theorem tuple_mulW0 (l : Addr) (items : Array Value) (n : Nat) (dd : Option Addr) (sl : Array (Option Value)) (x : Int) (u : Tok) (c0 : (decide (x < -(2 ^ 63)) || decide (x ≥ 2 ^ 63)) = false) (c1 : (items.isEmpty || x == 1) = false) (c2 : (decide (x ≤ 0) || items.isEmpty) = true) :
    Meets (Builtin.«tuple.__mul__» ⟨[.ref l, .int x u], []⟩) (fun _ R s => s.heap.get? l = some { cls := .type "tuple", dict := dd, data := .seq items n, slots := sl } ∧
      R (.ok (.ret (Value.ref s.heap.objs.size))) { s with heap := s.heap.push { cls := Value.type "tuple", data := Data.seq #[] }, toks := s.toks }) :=
  .of_wp fun prog w A R s h => by
    obtain ⟨hp, g, d, tk, os⟩ := s
    obtain ⟨hl, h⟩ := h
    have f1 := AutoSeq1.idx_int
    wp_walk using wpAny_loadPart' hl
    repeat (first
      | (refine wpAny_ite_false (decide_eq_false (by rw [c0]; exact Bool.false_ne_true)) ?_; wp_walk using wpAny_loadPart' hl)
      | (refine wpAny_ite_false (decide_eq_false (by rw [c1]; exact Bool.false_ne_true)) ?_; wp_walk using wpAny_loadPart' hl)
      | (refine wpAny_ite_true (decide_eq_true c2) ?_; wp_walk using wpAny_loadPart' hl))
    exact ⟨_, rfl, h⟩
end
/-! ### xs[::-1] -/
section
variable {X : Cx} {p : Par} {e : Expr}
def tRevA (K : PySem.W.Frag) (te : TE) : TE := fun σ H Q => te σ H fun x H1 => ∃ a xs, x = .ref a ∧ ((SqL K H1 a xs ∧ ∀ c, H1 c = none → Q (.ref c) (upd H1 c (.lst xs.reverse))) ∨ (SqT K H1 a xs ∧ ∀ c, H1 c = none → Q (.ref c) (upd H1 c (.tup xs.reverse))))
theorem pe_revA {e : Expr} {te : TE} {k : Nat} {p1 p2 p3 pos : Pos} (he : PE X e te) : PE X (.Subscript e (.Slice none none (some (.UnaryOp .USub (.Constant (.int 1) k p1) p2)) p3) pos) (tRevA X.K te) := by
  refine ⟨fun pins s σ H Q I h => ?_⟩
  refine Subscript_ (thn (he.run pins s σ H _ I h) fun v s1 ⟨x, H1, I1, r1, q1⟩ => ?_)
  obtain ⟨a, xs, ex, hq⟩ := q1
  subst ex
  cases r1
  have hst : PO X (some (.UnaryOp .USub (.Constant (.int 1) k p1) p2)) (tPart (tUn (rU fun i => .int (-i)) (tC (.int 1)))) := po_some (pe_un un_neg pe_int)
  refine wpAny_Slice (thn (po_none.run pins s1 σ H1 (fun o H2 => o = none ∧ H2 = H1) I1 ⟨rfl, rfl⟩) fun vl s2 ⟨l, H2, I2, pl, el, e2⟩ => ?_)
  subst el e2
  refine thn (po_none.run pins s2 σ H2 (fun o H3 => o = none ∧ H3 = H2) I2 ⟨rfl, rfl⟩) fun vu s3 ⟨u, H3, I3, pu, eu, e3⟩ => ?_
  subst eu e3
  refine thn (hst.run pins s3 σ H3 (fun o H4 => o = some (-1) ∧ H4 = H3) I3 ⟨1, rfl, -1, rfl, rfl, rfl⟩) fun vs s4 ⟨o, H4, I4, ps, eo, e4⟩ => ?_
  subst eo e4
  have I5 : Inv X pins σ H4 { s4 with heap := s4.heap.push { cls := .type "slice", data := .fields #[vl, vu, vs] } } := I4.kept (t' := s4.toks) fun b ob q => Heap.get?_push_of_some _ q
  show wpAny (model X.prog X.w) X.A (subscriptTail e (.Slice none none (some (.UnaryOp .USub (.Constant (.int 1) k p1) p2)) p3) (.ref a) (.ref s4.heap.objs.size)) (EP X pins σ Q) X.xe { s4 with heap := s4.heap.push { cls := .type "slice", data := .fields #[vl, vu, vs] } }
  cases pl
  cases pu
  rcases hq with ⟨hx, q⟩ | ⟨hx, q⟩
  · obtain ⟨its, r, ht, hz⟩ := I5.list hx
    have hlen := r.length
    refine tail_any (ops := [.ref a, .ref s4.heap.objs.size]) ht.isList.typeIs (PySem.slot_list_getitem.lookup) ?_ (by with_unfolding_all rfl)
    refine wpAny_getItem_list_slice ht.isList (Heap.IsSliceOf.new _ _ _ vs) .none .none ps (by decide) ?_ (by rw [List.size_toArray]; omega)
    rw [PySem.W.krv_pick]
    refine ⟨.ref _, _, I5.laid (t' := s4.toks) (o := .lst xs.reverse) (fun b ob q => Heap.get?_push_of_some _ q) (Nat.le_refl _) ?_, rfl, q _ (I5.hok.fresh (Nat.le_refl _))⟩
    exact ⟨by rw [List.length_reverse]; exact hz, _, 0, r.reverse, Heap.get?_push_size _ rfl⟩
  · obtain ⟨its, r, ht, hz⟩ := I5.tuple hx
    have hlen := r.length
    refine tail_any (ops := [.ref a, .ref s4.heap.objs.size]) ht.typeIs (PyProof.Rows.slot_tuple_getitem.lookup) ?_ (by with_unfolding_all rfl)
    refine getItem_tuple_rev ht (Heap.IsSliceOf.new _ _ _ vs) ps ?_ (by rw [List.size_toArray]; omega)
    refine ⟨.ref _, _, I5.laid (t' := s4.toks) (o := .tup xs.reverse) (fun b ob q => Heap.get?_push_of_some _ q) (Nat.le_refl _) ?_, rfl, q _ (I5.hok.fresh (Nat.le_refl _))⟩
    exact ⟨by rw [List.length_reverse]; exact hz, _, r.reverse, IsTup.new _ _⟩
def aRev : F1
  | .list xs, Q => Q (.list xs.reverse)
  | .tuple xs, Q => Q (.tuple xs.reverse)
  | _, _ => False
def wRevA (w : WE) : WE := fun ρ Q EX => w ρ (fun d => aRev d Q) EX
theorem de_revA {w : WE} {k : Nat} {p1 p2 p3 pos : Pos} (h : DB p X e w) : DE p X (.Subscript e (.Slice none none (some (.UnaryOp .USub (.Constant (.int 1) k p1) p2)) p3) pos) (wRevA w) :=
  ⟨pe_use (pe_revA h.pe) fun σ H Q hk ⟨ρ, O, EX, R, ex, hw⟩ => ⟨ρ, O, EX, R, ex, h.mono _ _ _ _ (fun d hd v H1 hk1 e1 r1 => by
    have ok := (R.ext' e1).ok hk1
    cases d <;> first | exact hd.elim | skip
    · obtain ⟨l, vs, rfl, _, h1, r2⟩ := r1.list
      exact ⟨l, vs, rfl, .inl ⟨.of h1, fun c hc hk' => RF.list (RE.f ok (RE.to hd e1)) ok hc r2.reverse hk'⟩⟩
    · obtain ⟨l, vs, rfl, h1, r2⟩ := r1.tuple
      exact ⟨l, vs, rfl, .inr ⟨h1, fun c hc hk' => RE.tup (RE.to hd e1) ok hc r2.reverse hk'⟩⟩) hw⟩, fun ρ Q Q' EX hh q => h.mono _ _ _ _ (fun d q => by
    cases d <;> first | exact hh _ q | exact q.elim) q⟩
/-! ### tuple * int, whatever the int -/
def rRepTA (K : PySem.W.Frag) : R2 := fun x y H Q => ∃ l k xs, x = .ref l ∧ y = .int k ∧ SqT K H l xs ∧ -(2 ^ 63) ≤ k ∧ k ≤ 1000 ∧ xs.length ≤ 1000 ∧ ((xs = [] ∨ k = 1) → Q (.ref l) H) ∧ (¬ (xs = [] ∨ k = 1) → ∀ c, H c = none → Q (.ref c) (upd H c (.tup (List.replicate k.toNat xs).flatten)))
theorem op_repTA : OpR X (binaryOp .Mult) (rRepTA X.K) := by
  intro pins s σ H x y v u Q I rx ry h
  obtain ⟨l, k, xs, rfl, rfl, hT, hk1, hk2, hz, q1, q2⟩ := h
  by_cases c : xs ≠ [] ∧ 2 ≤ k
  · exact op_repT pins s σ H _ _ v u Q I rx ry ⟨l, k, xs, rfl, rfl, hT, c.1, c.2, hk2, hz, q2 (fun z => by rcases z with z | z; exact c.1 z; omega)⟩
  cases rx
  obtain ⟨t, rfl⟩ := ry
  obtain ⟨its, r, ⟨⟨cls, dd, data, sl⟩, ho, hc, n, hd⟩, hs⟩ := I.tuple hT
  simp only at hc hd
  subst hc hd
  have hle : its.length = xs.length := r.length.symm
  have c0 : (decide (k < -(2 ^ 63)) || decide (k ≥ 2 ^ 63)) = false := by
    rw [decide_eq_false (by omega), decide_eq_false (by omega)] <;> rfl
  have hie : its.toArray.isEmpty = true ↔ xs = [] := by
    cases its with
    | nil => exact ⟨fun _ => List.eq_nil_of_length_eq_zero hle.symm, fun _ => rfl⟩
    | cons a b => exact ⟨fun z => by simp at z, fun z => by rw [z] at hle; simp at hle⟩
  by_cases c1 : xs = [] ∨ k = 1
  · have c1' : (its.toArray.isEmpty || k == 1) = true := by
      rw [Bool.or_eq_true]
      rcases c1 with z | z
      · exact .inl (hie.mpr z)
      · exact .inr (by rw [z]; rfl)
    refine wpAny_binaryOp_repeat_ref (T := "tuple") (U := "int") (by decide) ⟨_, ho, rfl⟩ (fun s' => typeIs_int s' k t) noFill_tuple_mul F.fills_int_mul F.slot_int_rmul repeat_tuple F.slot_int_index.lookup
      (call_meets F.slot_int_rmul (typeIs_int s k t) F.entry_int_rmul (F.args_int_rmul_2 _ _) (int_rmul_tuple k t l its.toArray n dd sl)
        ⟨ho, rfl, ⟨_, ho, rfl⟩, call_meets F.slot_tuple_mul ⟨_, ho, rfl⟩ F.entry_tuple_mul (F.args_tuple_mul_2 _ _) (tuple_mulW1 l its.toArray n dd sl k t c0 c1') ⟨ho, ?_⟩⟩)
    exact ⟨.ref l, H, I, rfl, q1 c1⟩
  · have c1' : (its.toArray.isEmpty || k == 1) = false := by
      rw [Bool.or_eq_false_iff]
      refine ⟨?_, ?_⟩
      · cases z : its.toArray.isEmpty with
        | false => rfl
        | true => exact absurd (.inl (hie.mp z)) c1
      · exact beq_eq_false_iff_ne.mpr fun z => c1 (.inr z)
    have hk0 : k ≤ 0 := by
      rcases Classical.em (xs = []) with z | z
      · exact absurd (.inl z) c1
      · have : ¬ 2 ≤ k := fun z2 => c ⟨z, z2⟩
        have : k ≠ 1 := fun z2 => c1 (.inr z2)
        omega
    have c2 : (decide (k ≤ 0) || its.toArray.isEmpty) = true := by rw [decide_eq_true hk0]; rfl
    refine wpAny_binaryOp_repeat_ref (T := "tuple") (U := "int") (by decide) ⟨_, ho, rfl⟩ (fun s' => typeIs_int s' k t) noFill_tuple_mul F.fills_int_mul F.slot_int_rmul repeat_tuple F.slot_int_index.lookup
      (call_meets F.slot_int_rmul (typeIs_int s k t) F.entry_int_rmul (F.args_int_rmul_2 _ _) (int_rmul_tuple k t l its.toArray n dd sl)
        ⟨ho, rfl, ⟨_, ho, rfl⟩, call_meets F.slot_tuple_mul ⟨_, ho, rfl⟩ F.entry_tuple_mul (F.args_tuple_mul_2 _ _) (tuple_mulW0 l its.toArray n dd sl k t c0 c1' c2) ⟨ho, ?_⟩⟩)
    have e : (List.replicate k.toNat xs).flatten = [] := by rw [show k.toNat = 0 by omega]; rfl
    have q2 := q2 c1
    rw [e] at q2
    refine ⟨.ref s.heap.objs.size, _, I.laid (t' := s.toks) (o := .tup []) (fun b ob q => Heap.get?_push_of_some _ q) (Nat.le_refl _) ?_, rfl, q2 _ (I.hok.fresh (Nat.le_refl _))⟩
    exact ⟨Nat.zero_le _, [], .nil, IsTup.new _ _⟩
def aMulT : F2
  | .tuple xs, .int k, Q => (-(2 ^ 63) ≤ k ∧ k ≤ 1000 ∧ xs.length ≤ 1000) ∧ Q (.tuple (List.replicate k.toNat xs).flatten)
  | _, _, _ => False
theorem o_mulT : Op2 p aMulT (rRepTA p.K) := by
  refine ⟨fun O H x y a b Q ok rx ry hf => ?_, fun a b Q Q' h q => ?_⟩
  · cases a <;> cases b <;> first | exact hf.elim | skip
    rename_i xs k
    rw [ry.int]
    obtain ⟨a, vs, rfl, h1, r1⟩ := rx.tup
    obtain ⟨⟨h2, h3, h4⟩, q⟩ := hf
    have hl := r1.length
    refine ⟨a, _, vs, rfl, rfl, .of h1, h2, h3, by rw [hl]; exact h4, fun z => ?_, fun z c hc hk => q.tup ok hc (r1.flat _) hk⟩
    have e : (List.replicate k.toNat xs).flatten = xs := by
      rcases z with z | z
      · rw [z] at hl
        have : xs = [] := List.eq_nil_of_length_eq_zero hl.symm
        rw [this]
        induction k.toNat with
        | zero => rfl
        | succ n ih => rw [List.replicate_succ, List.flatten_cons, ih]; rfl
      · rw [z]; exact List.append_nil xs
    rw [e] at q
    exact fun _ => RE.now q ok (rep_tuple h1 r1)
  · cases a <;> cases b <;> first | exact q.elim | exact ⟨q.1, h _ q.2⟩
end
section
variable {ρ : Env'} {Q : D → Prop} {EX : EXn} {a : WE}
@[simp ↓] theorem ev_RevA : wRevA a ρ Q EX = a ρ (fun d => aRev d Q) EX := rfl
@[simp ↓] theorem ev_revL {xs : List D} : aRev (.list xs) Q = Q (.list xs.reverse) := rfl
@[simp ↓] theorem ev_revT {xs : List D} : aRev (.tuple xs) Q = Q (.tuple xs.reverse) := rfl
@[simp ↓] theorem ev_mulTT {xs : List D} {k : Int} : aMulT (.tuple xs) (.int k) Q = ((-(2 ^ 63) ≤ k ∧ k ≤ 1000 ∧ xs.length ≤ 1000) ∧ Q (.tuple (List.replicate k.toNat xs).flatten)) := rfl
end
/-! ### the sum of a row, a list or a tuple -/
section
variable {X : Cx} {p : Par}
def rSumA (K : PySem.W.Frag) : List V → Hp → VK → Prop := fun vs H Q => ∃ (a : Addr) (ns : List Int), vs = [V.ref a] ∧ (SqL K H a (ns.map V.int) ∨ SqT K H a (ns.map V.int)) ∧ Q (.int ns.sum) H
theorem preSum_take (ns : List Int) : ∀ j, j ≤ ns.length → PySem.preSum (fun i => ns.getD i 0) j = (ns.take j).sum
  | 0, _ => by simp [PySem.preSum]
  | j + 1, h => by
    have e : ns.take (j + 1) = ns.take j ++ [ns[j]] := by rw [List.take_succ, List.getElem?_eq_getElem (by omega)]; rfl
    rw [PySem.preSum, preSum_take ns j (by omega), e, List.sum_append]
    rw [List.getD_eq_getElem?_getD, List.getElem?_eq_getElem (by omega)]
    simp
theorem cr_sumA (hc : X.calm = true) : CallR X (.builtin "sum") (rSumA X.K) := by
  intro pins s σ H vs us Q I r h
  obtain ⟨a, ns, rfl, hs | hs, q⟩ := h
  · exact cr_sum hc pins s σ H _ us Q I r ⟨a, ns, rfl, hs, q⟩
  · rw [Vals.ref1 r]
    obtain ⟨its, rv, hl, _⟩ := I.tuple hs
    have hlen : its.length = ns.length := by have := rv.length; rw [List.length_map] at this; exact this.symm
    refine PySem.call_sum_walkAnyS (PySem.W.iter_tupleW (A := X.A.in1) (I.ok.hd hc) hl fun s₂ e W st hfp hw hk => ?_)
    refine ⟨_, _, _, _, _, _, _, fun i => ns.getD i 0, rfl, W, st, hfp, fun i v hP => ?_, fun s' t' m => ?_⟩
    · have hP' : its[i]? = some v := by simpa using hP
      have hi : i < ns.length := by
        have := (List.getElem?_eq_some_iff.mp hP').1
        omega
      obtain ⟨u, hu, ru⟩ := rv.get (i := i) (x := .int ns[i]) (by rw [List.getElem?_map, List.getElem?_eq_getElem hi]; rfl)
      rw [hP'] at hu
      cases hu
      obtain ⟨t, rfl⟩ := ru
      refine ⟨t, ?_⟩
      show Value.int ns[i] t = Value.int (ns.getD i 0) t
      rw [List.getD_eq_getElem?_getD, List.getElem?_eq_getElem hi]
      rfl
    · obtain ⟨h', tk, rfl, hk'⟩ := PySem.W.moved_old e rfl m
      have e2 : PySem.preSum (fun i => ns.getD i 0) its.toArray.size = ns.sum := by
        rw [List.size_toArray, hlen, preSum_take ns _ (Nat.le_refl _), List.take_length]
      rw [e2]
      exact ⟨.int _, H, I.kept hk', ⟨_, rfl⟩, q⟩
def aSumA : F1 := fun d Q => ∃ ns, rowD d = some ns ∧ Q (.int ns.sum)
theorem n_sumA : OpN p (f1 aSumA) (rSumA p.K) := by
  refine op1 (fun d Q Q' h ⟨ns, e, q⟩ => ⟨ns, e, h _ q⟩) fun O H x a Q ok r ⟨ns, e, q⟩ => ?_
  obtain ⟨l, rfl, hs⟩ := row_of r e
  exact ⟨l, ns, rfl, hs, fun _ => q.now ok rep_int⟩
end
section
variable {Q : D → Prop}
theorem sum_list {ns : List Int} {xs : List D} (e : xs = ns.map .int) (q : Q (.int ns.sum)) : aSumA (.list xs) Q := ⟨ns, by rw [e]; exact intsD_map _, q⟩
theorem sum_tuple {ns : List Int} {xs : List D} (e : xs = ns.map .int) (q : Q (.int ns.sum)) : aSumA (.tuple xs) Q := ⟨ns, by rw [e]; exact intsD_map _, q⟩
end
/-! ### comprehensions of drawn items; sums over generators -/
section
variable {ρ : Env'} {EX : EXn} {α β : Type}
/-- each turn gives some item with a property -/
theorem comp_any {g : WG} {we : WE} {h : α → D} (P : D → Prop) : ∀ {xs : List α} {acc : List D} {Q : D → Prop} (hh : ∀ x ∈ xs, ∀ R : D → Prop, (∀ y, P y → R y) → g (h x) ρ fun ρ2 => we ρ2 R noX)
    (hl : acc.length + xs.length ≤ sizeLine) (q : ∀ ys : List D, ys.length = xs.length → (∀ y ∈ ys, P y) → Q (.list (acc ++ ys))), wComp g wYes we ρ (xs.map h) acc Q
  | [], acc, Q, hh, hl, q => by
    have := q [] rfl (fun y h => (List.not_mem_nil h).elim)
    rw [List.append_nil] at this
    exact this
  | d :: ds, acc, Q, hh, hl, q => by
    rw [List.length_cons] at hl
    have := hh d List.mem_cons_self (fun y => acc.length < sizeLine ∧ wComp g wYes we ρ (ds.map h) (acc ++ [y]) Q) (fun y hy => by
      refine ⟨by omega, comp_any P (fun x m => hh x (List.mem_cons_of_mem _ m)) (by rw [List.length_append, List.length_singleton]; omega) fun ys hys hP => ?_⟩
      have := q (y :: ys) (by rw [List.length_cons, List.length_cons, hys]) (fun z hz => by
        rcases List.mem_cons.mp hz with rfl | hz
        · exact hy
        · exact hP z hz)
      rw [List.append_assoc]
      exact this)
    rw [List.map_cons]
    unfold wComp
    simpa using this
theorem sum_evalM {g : WG} {we : WE} {h : α → D} (f : α → Int) {Q : D → Prop} : ∀ {xs : List α} {a : Int} (hh : ∀ x ∈ xs, ∀ R : D → Prop, R (.int (f x)) → g (h x) ρ fun ρ2 => we ρ2 R noX) (q : Q (.int (a + (xs.map f).sum))), wFold g wYes we (cSum Q) (fun i => Q (.int i)) ρ (xs.map h) a
  | [], a, hh, q => by
    have q : Q (.int (a + 0)) := q
    rw [Int.add_zero] at q
    exact q
  | d :: ds, a, hh, q => by
    have := hh d List.mem_cons_self (fun y => cSum Q a y (fun i => wFold g wYes we (cSum Q) (fun i => Q (.int i)) ρ (ds.map h) i)) (by
      refine ⟨_, rfl, sum_evalM f (fun x m => hh x (List.mem_cons_of_mem _ m)) ?_⟩
      rw [List.map_cons, List.sum_cons, ← Int.add_assoc] at q
      exact q)
    rw [List.map_cons]
    unfold wFold
    simpa using this
end
section
variable {ρ : Env'} {Q : D → Prop} {EX : EXn} {a : WE} {D0 : EndsW}
@[simp ↓] theorem ev_Aug {i : Nat} {f : F2} : wAug i f a D0 ρ = (match ρ[i]? with | some (some (.d d)) => a ρ (fun y => f d y fun z => D0.nx (ρ.set i (some (.d z)))) D0.ex | _ => False) := rfl
end
end DD
set_option maxRecDepth 100000
set_option maxHeartbeats 4000000
/-! SemX: enumerate of a tuple. -/
namespace DD
open PySem PySem.Spec PyProof.Rows L2
open AutoSeq1 (wpAny_loadPart')
theorem meets_enumerate_newT (l : Addr) (items : Array Value) (n : Nat) (dct : Option Addr) (sl : Array (Option Value)) :
    Meets (Builtin.«enumerate.__new__» ⟨[.type "enumerate", .ref l], []⟩) (fun _ R s => s.heap.get? l = some { cls := .type "tuple", dict := dct, data := .seq items n, slots := sl } ∧
      R (.ok (.ret (.ref (s.heap.push { cls := .type "tuple_iterator", data := .fields #[.ref l, .int 0 0] }).objs.size)))
        { s with heap := (s.heap.push { cls := .type "tuple_iterator", data := .fields #[.ref l, .int 0 0] }).push { cls := .type "enumerate", data := .fields #[.none, .bool false, .ref s.heap.objs.size, rawInt 0, .none, .none] } }) :=
  .of_wp fun prog w A R s h => by
    obtain ⟨hp, g, d, tk, os⟩ := s; obtain ⟨hl, h⟩ := h
    have hsub := sub_enumerate
    have hL : Heap.IsTuple (Shared.heap ⟨hp, g, d, tk, os⟩) l items := ⟨_, hl, rfl, n, rfl⟩
    wp_walk using wpAny_loadPart' hl
    refine wpAny_stack_any fun st => wpAny_pure ?_
    split
    · rename_i c _ _ _ _ _
      cases (c == Value.type "enumerate")
      · wp_walk using wpAny_loadPart' hl, wpAny_pyIter_tuple hL
        exact ⟨_, rfl, h⟩
      · wp_walk using wpAny_loadPart' hl, wpAny_pyIter_tuple hL
        exact ⟨_, rfl, h⟩
    · wp_walk using wpAny_loadPart' hl, wpAny_pyIter_tuple hL
      exact ⟨_, rfl, h⟩
section
variable {prog : Program} {w : World} {A : Around} {E : Value → Shared → Prop} {s : Shared}
theorem call_enumerate_tuple {l : Addr} {items : Array Value} {Q : Value → Shared → Prop} (hL : s.heap.IsTuple l items)
    (h : ∀ h', IsEnum h' (s.heap.objs.size + 1) s.heap.objs.size 0 .none → h'.IsTupleIter s.heap.objs.size l 0 → h'.objs.size = s.heap.objs.size + 2 →
      (∀ b o, s.heap.get? b = some o → h'.get? b = some o) → Q (.ref (s.heap.objs.size + 1)) { s with heap := h' }) :
    wpAny (model prog w) A (call (.type "enumerate") [.ref l]) Q E s := by
  obtain ⟨⟨c, dct, dt, sl⟩, hl, hc, n, hd⟩ := hL
  replace hc : c = .type "tuple" := hc
  replace hd : dt = .seq items n := hd
  subst hc hd
  refine callType_new F.called_enumerate (by decide) (F.typeCall_enumerate_1 _) (F.newCall_enumerate_1 _) (fun obj => F.args_object_init_2 obj _) F.entry_enumerate_new
    (meets_enumerate_newT l items n dct sl) ⟨hl, ?_⟩
  have hz : (s.heap.push { cls := .type "tuple_iterator", data := .fields #[.ref l, .int 0 0] }).objs.size = s.heap.objs.size + 1 := Heap.size_push ..
  show _ ∧ _
  rw [hz]
  have he : IsEnum ((s.heap.push { cls := .type "tuple_iterator", data := .fields #[.ref l, .int 0 0] }).push
      { cls := .type "enumerate", data := .fields #[.none, .bool false, .ref s.heap.objs.size, rawInt 0, .none, .none] }) (s.heap.objs.size + 1) s.heap.objs.size 0 .none := by
    have := Heap.get?_push_size (s.heap.push { cls := .type "tuple_iterator", data := .fields #[.ref l, .int 0 0] })
      (o := { cls := .type "enumerate", data := .fields #[.none, .bool false, .ref s.heap.objs.size, rawInt 0, .none, .none] }) rfl
    rw [hz] at this; exact this
  refine ⟨⟨_, he, rfl⟩, h _ he ⟨_, Heap.get?_push_of_some _ (Heap.get?_push_size _ rfl), rfl, rfl⟩ (by rw [Heap.size_push, hz]) fun b o x => Heap.get?_push_of_some _ (Heap.get?_push_of_some _ x)⟩
end
def IteT (K : PySem.W.Frag) (a : Addr) : It :=
  ⟨fun i H => ∃ (xs : List V) (x : V), SqT K H a xs ∧ xs[i]? = some x, fun i H v H' => ∃ T x, v = .ref T ∧ H T = none ∧ H' = upd H T (.tup [.int (i : Nat), x]) ∧ ∀ xs, SqT K H a xs → xs[i]? = some x, fun i H => ∃ xs : List V, SqT K H a xs ∧ xs.length ≤ i⟩
theorem turn_enumT {P : Program} {w : World} {K : PySem.W.Frag} {elts : List Expr} {kk : Nat} {tpos : Pos} {a e it : Addr} (hae : a ≠ e) (hai : a ≠ it) :
    Turn P w K (.Tuple elts kk tpos) (IteT K a) [e, it] e (fun i h => (∃ old, IsEnum h e it ((i : Nat) : Int) old) ∧ h.IsTupleIter it a i ∧ e ≠ it) where
  mem := by simp
  obj := fun i h st b hb => by
    obtain ⟨⟨old, he⟩, ⟨o, ho, hc, hd⟩, _⟩ := st
    have e' : b = e ∨ b = it := by simpa using hb
    rcases e' with z | z
    · rw [z]; exact ⟨_, he, fun v q => nomatch q⟩
    · rw [z]; exact ⟨o, ho, fun v q => by rw [hd] at q; cases q⟩
  keep := fun i h h' st k => let ⟨⟨old, he⟩, hi, hne⟩ := st; ⟨⟨old, k e (by simp) _ he⟩, hi.at fun o q => k it (by simp) o q, hne⟩
  item := by
    intro X hP hw hK hc i pins s σ H E I hf st hg
    subst hP hw hK
    obtain ⟨⟨old, he⟩, hit, hne⟩ := st
    obtain ⟨xs, x, hq, hx⟩ := hg
    obtain ⟨its, rv, p, hz⟩ := I.tuple hq
    obtain ⟨u, hu, ru⟩ := rv.get hx
    have hel : e < s.heap.objs.size := Heap.lt_size he
    have hil : it < s.heap.objs.size := by obtain ⟨_, q, _⟩ := hit; exact Heap.lt_size q
    have hi : i < its.toArray.size := by
      have := (List.getElem?_eq_some_iff.mp hu).1
      simpa using this
    refine wpAny_pyNext_enum_itemD (Draws.tuple (A := X.A.in1) (I.ok.hd hc) it a hai its.toArray) he ⟨hit, p⟩ hi hne (by simp; exact ⟨hne, fun z => hae z.symm⟩) fun x2 h' tk hx2 ho hst hT hsz hk => ?_
    have ex : x2 = u := by
      have : its[i]? = some x2 := by simpa using hx2
      rw [hu] at this
      exact (Option.some.inj this).symm
    subst ex
    have hit' := hst.1
    refine ⟨_, rfl, wpAny_letOwnedTupleGo_enum (s := { s with heap := h', toks := tk + 1 }) ho fun h'' he' sb => ?_⟩
    have hT2 : h''.get? s.heap.objs.size = some { cls := .type "tuple", data := .seq #[.int i tk, x2] } := (sb.2 _ (Nat.ne_of_gt hel)).trans hT
    have new : ObjOk X.prog X.w (upd H s.heap.objs.size (.tup [.int (i : Nat), x])) h'' s.heap.objs.size (.tup [.int (i : Nat), x]) :=
      ⟨by show 2 ≤ sizeLine; decide, [.int i tk, x2], .cons ⟨_, rfl⟩ (.cons ru .nil), ⟨_, hT2, rfl, _, rfl⟩⟩
    have I1 : Inv X pins σ (upd H s.heap.objs.size (.tup [.int (i : Nat), x])) { s with heap := h'', toks := tk + 1 } :=
      I.turnedNew (ch := [e, it]) (fun b ob hb q => (sb.2 b (fun z => hb (by simp [z]))).trans (hk b ob (fun z => hb (by simp [z])) (fun z => hb (by simp [z])) q)) hf (Nat.le_refl _) new
    refine ⟨.ref s.heap.objs.size, _, I1, rfl, ⟨_, x, rfl, I.hok.fresh (Nat.le_refl _), rfl, fun ys hy => by rw [I.tuple_inj hy hq]; exact hx⟩, ⟨⟨x2, ?_⟩, hit'.at fun o q => (sb.2 it (Ne.symm hne)).trans q, hne⟩, fun b hb => ?_⟩
    · have e1 : ((i + 1 : Nat) : Int) = (i : Int) + 1 := by omega
      rw [e1]; exact he'
    · have hb' : b < s.heap.objs.size := by
        have e' : b = e ∨ b = it := by simpa using hb
        rcases e' with z | z
        · rw [z]; exact hel
        · rw [z]; exact hil
      rw [upd_ne (Nat.ne_of_lt hb')]
      exact (hf b hb).1
  done := by
    intro X hP hw hK hc i pins s σ H E I hf st hg
    subst hP hw hK
    obtain ⟨⟨old, he⟩, hit, hne⟩ := st
    obtain ⟨xs, hq, hx⟩ := hg
    obtain ⟨its, rv, p, hz⟩ := I.tuple hq
    obtain ⟨f0, f1, f2, f3, f4, f5⟩ := hf it (by simp)
    have hl := rv.length
    have hT : s.TypeIs (.ref e) "enumerate" := ⟨_, he, rfl⟩
    unfold pyNext
    refine wpAny_bind (wpAny_attempt (wpAny_callSpecial?_slot (name := Str.ofString "__next__") hT F.slot_enumerate_next
      (wpAny_call_entry F.slot_enumerate_next hT F.entry_enumerate_next ?_ (F.args_enumerate_next_1 _))))
    show wpAny _ _ (field (.ref e) 2 >>= _) _ _ _
    refine wpAny_bind (wpAny_field he rfl (x := .ref it) rfl ?_)
    refine wpAny_bind (wpAny_nextOf_tuple_end (A := X.A.in1) (I.ok.hd hc) hit p (by simp; omega) fun h' x he' hx' => ?_)
    obtain ⟨o, ho, hc'⟩ := hx'
    refine wpAny_bind (wpAny_isInstance (T := "StopIteration") (b := true) ⟨o, ho, hc'⟩ isSubtype_stop ?_)
    exact wpAny_pure ⟨rfl, I.turned (t' := s.toks) (fun b o hb q => he' b o hb q) f0 f1 f3 f4 f5⟩
  self := fun A i s Q E st h => let ⟨⟨_, he⟩, _⟩ := st; wpAny_pyIter_enum he h
def iEnumA (K : PySem.W.Frag) (ta : TA) : TI := fun σ H R => ta σ H fun vs H1 => ∃ a xs, vs = [.ref a] ∧ ((SqL K H1 a xs ∧ R (Ite K a) H1) ∨ (SqT K H1 a xs ∧ R (IteT K a) H1))
theorem pi_enumA {X : Cx} {e : Expr} {ta : TA} {p pos tpos : Pos} {elts : List Expr} {kk : Nat} (hg : Gl X "enumerate") (hm : X.mg "enumerate" = none) (ha : PA X [e] ta) (hs : starEach [e] X.env = [(false, eval e X.env)] := by rfl) :
    PI X (.Tuple elts kk tpos) (.Call (.Name "enumerate" p) [e] [] pos) (iEnumA X.K ta) := by
  refine ⟨fun pins s σ H R I h => ?_⟩
  refine Call_ (ld_blt I hg hm boot_enumerate (PyProof.Rows.callWith_type1 (thn (ha.run pos pins s σ H _ I h) fun us s1 ⟨vs, H1, I1, r1, q1⟩ => ?_) hs rfl))
  obtain ⟨a, xs, ex, hq⟩ := q1
  subst ex
  cases r1 with
  | cons r rr =>
    cases rr
    cases r
    rcases hq with ⟨hq, q⟩ | ⟨hq, q⟩
    · obtain ⟨its, rv, p', hz⟩ := I1.list hq
      refine call_enumerate_list p'.isList fun h' he hit hsz hk => wpAny_pyIter_enum he ?_
      have I2 : Inv X pins σ H1 { s1 with heap := h' } := I1.kept (t' := s1.toks) hk
      refine ⟨s1.heap.objs.size + 1, [s1.heap.objs.size + 1, s1.heap.objs.size], _, _, H1, rfl, I2, turn_enum a (s1.heap.objs.size + 1) s1.heap.objs.size, ⟨⟨.none, he⟩, hit, Nat.succ_ne_self _⟩, fun b hb => ?_, q⟩
      have e' : b = s1.heap.objs.size + 1 ∨ b = s1.heap.objs.size := by simpa using hb
      have hle : s1.heap.objs.size ≤ b := by
        rcases e' with z | z
        · rw [z]; exact Nat.le_add_right _ _
        · rw [z]; exact Nat.le_refl _
      exact I1.fpOk hle (I1.hok.fresh hle)
    · obtain ⟨its, rv, p', hz⟩ := I1.tuple hq
      have hal : a < s1.heap.objs.size := by obtain ⟨_, e, _⟩ := p'; exact Heap.lt_size e
      refine call_enumerate_tuple p' fun h' he hit hsz hk => wpAny_pyIter_enum he ?_
      have I2 : Inv X pins σ H1 { s1 with heap := h' } := I1.kept (t' := s1.toks) hk
      refine ⟨s1.heap.objs.size + 1, [s1.heap.objs.size + 1, s1.heap.objs.size], _, _, H1, rfl, I2, turn_enumT (a := a) (e := s1.heap.objs.size + 1) (it := s1.heap.objs.size) (Nat.ne_of_lt (Nat.lt_succ_of_lt hal)) (Nat.ne_of_lt hal), ⟨⟨.none, he⟩, hit, Nat.succ_ne_self _⟩, fun b hb => ?_, q⟩
      have e' : b = s1.heap.objs.size + 1 ∨ b = s1.heap.objs.size := by simpa using hb
      have hle : s1.heap.objs.size ≤ b := by
        rcases e' with z | z
        · rw [z]; exact Nat.le_add_right _ _
        · rw [z]; exact Nat.le_refl _
      exact I1.fpOk hle (I1.hok.fresh hle)
theorem iteT_ok {p : Par} {a : Addr} {ds : List D} : ItOk p (enumD ds) (IteT p.K a) [.d (.ref a) (.tuple ds)] := fun O H i ok hk => by
  obtain ⟨a', vs, z, h1, r⟩ := (show RepB p O H (.ref a) (.tuple ds) from hk (.d (.ref a) (.tuple ds)) (List.mem_singleton.mpr rfl)).tuple
  cases z
  refine ⟨fun hi => ⟨vs, h1, by rw [r.length]; rw [enum_len] at hi; exact hi⟩, fun d hd => ?_⟩
  obtain ⟨x, hx, rfl⟩ := enum_get hd
  obtain ⟨v, hv, rv⟩ := r.get hx
  refine ⟨⟨vs, v, h1, hv⟩, fun u H' ⟨T, w, e0, hT, e1, e2⟩ => ?_⟩
  have e3 := e2 vs h1
  rw [hv] at e3
  cases e3
  subst e0
  subst e1
  exact pair_new ok hT rep_int rv
def wiEnumA (w : WE) : WI := fun ρ Q EX => w ρ (fun d => ∃ ds, seqD d = some ds ∧ Q (enumD ds)) EX
theorem di_enumA {p : Par} {X : Cx} {a : Expr} {pos : Pos} {w : WE} {elts : List Expr} {kk : Nat} {q tpos : Pos} (hm : X.mg "enumerate" = none) (h : DH b0 p X a w) (hg : Gl X "enumerate" := by rfl) (hs : starEach [a] X.env = [(false, eval a X.env)] := by rfl) : DI b0 p X (.Tuple elts kk tpos) (.Call (.Name "enumerate" q) [a] [] pos) (wiEnumA w) :=
  ⟨pi_use (pi_enumA hg hm (pa_cons (pe_hk h.pe) pa_nil hs) hs) fun σ H R hk ⟨ρ, O, EX, Rl, ex, hw⟩ => ⟨ρ, O, EX, Rl, ex, h.mono _ _ _ _ (fun d ⟨ds, z, q⟩ v H1 hk1 e1 r1 _ => by
    cases d with
    | list ds' =>
      cases z
      obtain ⟨a, vs, rfl, _, h1, r⟩ := (hold_b r1).list
      exact ⟨a, vs, rfl, .inl ⟨.of h1, q _ _ _ hk1 e1 (one_held r1) ite_ok⟩⟩
    | tuple ds' =>
      cases z
      obtain ⟨a, vs, rfl, h1, r⟩ := (hold_b r1).tuple
      exact ⟨a, vs, rfl, .inr ⟨h1, q _ _ _ hk1 e1 (one_held r1) iteT_ok⟩⟩
    | _ => cases z) hw⟩, fun ρ Q Q' EX hh q => h.mono _ _ _ _ (fun d ⟨ds, z, q⟩ => ⟨ds, z, hh _ q⟩) q⟩
section
variable {ρ : Env'} {EX : EXn} {a : WE}
@[simp ↓] theorem ev_iEnumA {Q : List D → Prop} : wiEnumA a ρ Q EX = a ρ (fun d => ∃ ds, seqD d = some ds ∧ Q (enumD ds)) EX := rfl
end
end DD
set_option maxRecDepth 100000
set_option maxHeartbeats 4000000
/-! SemY: chains of three comparisons; the least of rows of data. -/
namespace DD
open PySem PySem.Spec PyProof.Rows L2
section
variable {X : Cx} {p : Par} {a b c e : Expr} {pos : Pos}
/-- a op1 b op2 c op3 e -/
def tChain3 (r r' r2 : R2) (ta tb tc te : TE) : TE := fun σ H Q => ta σ H fun x H1 => tb σ H1 fun y H2 => r x y H2 fun z H3 => ∃ k, z = .bl k ∧
  (if k = true then tc σ H3 fun w' H4 => r' y w' H4 fun z2 H5 => ∃ k2, z2 = .bl k2 ∧ (if k2 = true then te σ H5 fun w2 H6 => r2 w' w2 H6 Q else Q (.bl false) H5) else Q (.bl false) H3)
theorem pt_chain3 {ta tb tc te : TE} {op op' op2 : CmpOp} {r r' r2 : R2} (ho : OpR X (compareOp op) r) (ho' : OpR X (compareOp op') r') (ho2 : OpR X (compareOp op2) r2) (ha : PE X a ta) (hb : PE X b tb) (hc : PE X c tc) (he : PE X e te)
    (hm : lastMarks [op, op', op2] [b, c, e] = false := by with_unfolding_all rfl) : PT X (.Compare a [op, op', op2] [b, c, e] pos) (tTest (tChain3 r r' r2 ta tb tc te)) := by
  refine ⟨fun pins s σ H Q I h => ?_⟩
  refine isTrue_chain (thn (ha.run pins s σ H _ I h) fun v s1 ⟨x, H1, I1, r1, q1⟩ => test_link (thn (hb.run pins s1 σ H1 _ I1 q1) fun u s2 ⟨y, H2, I2, r2, q2⟩ =>
    thn (ho pins s2 σ H2 x y v u _ I2 r1 r2 q2) fun d s3 ⟨z, H3, I3, r3, k, e, q3⟩ => ?_)) hm
  subst e
  cases r3
  refine wpAny_truthy_bool ?_
  cases k with
  | false =>
    obtain ⟨k', e', q'⟩ := q3
    cases e'
    exact ite_ff ⟨H3, I3, q'⟩
  | true =>
    refine ite_tt (test_link (thn (hc.run pins s3 σ H3 _ I3 q3) fun w' s4 ⟨z', H4, I4, r4, q4⟩ => thn (ho' pins s4 σ H4 y z' u w' _ I4 r2 r4 q4) fun d' s5 ⟨z2, H5, I5, r5, k2, e2, q5⟩ => ?_))
    subst e2
    cases r5
    refine wpAny_truthy_bool ?_
    cases k2 with
    | false =>
      obtain ⟨k', e', q'⟩ := q5
      cases e'
      exact ite_ff ⟨H5, I5, q'⟩
    | true =>
      refine ite_tt (test_last (thn (he.run pins s5 σ H5 _ I5 q5) fun w2 s6 ⟨z3, H6, I6, r6, q6⟩ => thn (ho2 pins s6 σ H6 z' z3 w' w2 _ I6 r4 r6 q6) fun d2 s7 ⟨z4, H7, I7, r7, k3, e3, q7⟩ => ?_))
      subst e3
      cases r7
      exact wpAny_truthy_bool ⟨H7, I7, q7⟩
variable {op op' op2 : CmpOp} {r r' r2 : R2} {g g' g2 : G2} {wa wb wc we : WE}
def wChain3 (g g' g2 : G2) (wa wb wc we : WE) : WT := fun ρ Qb EX => wa ρ (fun x => wb ρ (fun y => g x y fun k => if k = true then wc ρ (fun z => g' y z fun k2 => if k2 = true then we ρ (fun v => g2 z v Qb) EX else Qb false) EX else Qb false) EX) EX
theorem dt_chain3 (ho : OpR X (compareOp op) r) (ho' : OpR X (compareOp op') r') (ho2 : OpR X (compareOp op2) r2) (hr : Cmp2 (p.at X.K) g r) (hr' : Cmp2 (p.at X.K) g' r') (hr2 : Cmp2 (p.at X.K) g2 r2) (ha : DB p X a wa) (hb : DB p X b wb) (hc : DB p X c wc) (he : DB p X e we)
    (hm : lastMarks [op, op', op2] [b, c, e] = false := by with_unfolding_all rfl) : DT p X (.Compare a [op, op', op2] [b, c, e] pos) (wChain3 g g' g2 wa wb wc we) := by
  refine ⟨pt_use (pt_chain3 ho ho' ho2 ha.pe hb.pe hc.pe he.pe hm) fun σ H Q hk ⟨ρ, O, EX, Rl, ex, hw⟩ => ?_, fun ρ Q Q' EX h q => ?_⟩
  · refine two (S := fun a b => g a b fun k => if k = true then wc ρ (fun z => g' b z fun k2 => if k2 = true then we ρ (fun v => g2 z v fun b => ∀ H', Hk (p.at X.K).K H' → Ext (p.at X.K) H H' → Q b H') EX else ∀ H', Hk (p.at X.K).K H' → Ext (p.at X.K) H H' → Q false H') EX else ∀ H', Hk (p.at X.K).K H' → Ext (p.at X.K) H H' → Q false H') ha hb Rl ex hw fun x y da db H2 ok e rx ry q => ?_
    refine hr.ok O H2 x y da db _ _ ok rx ry q fun k q => ⟨k, rfl, ?_⟩
    by_cases z : k = true
    · rw [if_pos z] at q ⊢
      refine ⟨ρ, O, EX, Rl.ext' e, ex, hc.mono _ _ _ _ (fun dc q u H3 hk3 e3 r3 => ?_) q⟩
      have R3 := (Rl.ext' e).ext' e3
      refine hr'.ok O H3 y u db dc _ _ (R3.ok hk3) (ry.ext e.wd e3) r3 q fun k2 q => ⟨k2, rfl, ?_⟩
      by_cases z2 : k2 = true
      · rw [if_pos z2] at q ⊢
        refine ⟨ρ, O, EX, R3, ex, he.mono _ _ _ _ (fun dd q u2 H4 hk4 e4 r4 => ?_) q⟩
        have e34 := (e.trans e3).trans e4
        exact hr2.ok O H4 u u2 dc dd _ _ ((R3.ext' e4).ok hk4) (r3.ext R3.wd e4) r4 q fun k3 q => ⟨k3, rfl, fun hk' => q H4 hk' e34⟩
      · rw [if_neg z2] at q ⊢
        exact ⟨false, rfl, fun hk' => q H3 hk' (e.trans e3)⟩
    · rw [if_neg z] at q ⊢
      exact ⟨false, rfl, fun hk' => q H2 hk' e⟩
  · refine ha.mono _ _ _ _ (fun x q => hb.mono _ _ _ _ (fun y q => hr.mono _ _ _ _ (fun k q => ?_) q) q) q
    by_cases z : k = true
    · rw [if_pos z] at q ⊢
      refine hc.mono _ _ _ _ (fun z q => hr'.mono _ _ _ _ (fun k2 q => ?_) q) q
      by_cases z2 : k2 = true
      · rw [if_pos z2] at q ⊢
        exact he.mono _ _ _ _ (fun v q => hr2.mono _ _ _ _ (fun k3 q => h _ q) q) q
      · rw [if_neg z2] at q ⊢
        exact h _ q
    · rw [if_neg z] at q ⊢
      exact h _ q
/-! ### the least of a row of data -/
def rMinD (K : PySem.W.Frag) : List V → Hp → VK → Prop := fun vs H Q => ∃ (a : Addr) (ws : List V) (x : D) (xs : List D), vs = [.ref a] ∧ (SqL K H a ws ∨ SqT K H a ws) ∧ DpAll K H ws (x :: xs) ∧ PySem.W.AlikeAll (x :: xs) ∧ PyData.depthAll (x :: xs) ≤ 60 ∧
  ∀ (i : Nat) (w : V), ws[i]? = some w → (x :: xs)[i]? = some (PySem.W.minD x xs) → Q w H
theorem at_of_reads {h h' : Heap} {vs : List Value} {xs : List D} {as bs : List Addr} {i : Nat} {v : Value} {d : D} (hr : ReadsAll h vs xs as) (hk : ∀ b o, h.get? b = some o → h'.get? b = some o) (hv : vs[i]? = some v) (rd : Reads h' v d bs) : xs[i]? = some d := by
  obtain ⟨cs, r1, hi, _, _⟩ := PySem.W.readsAll_at hr i v hv
  have := (PyProof.Rows.reads_det (fun b o e _ => hk b o e) r1 rd).1
  rw [List.getElem?_eq_getElem hi]
  rw [List.getD_eq_getElem?_getD, List.getElem?_eq_getElem hi] at this
  exact congrArg _ this.symm
theorem cr_minD (hc : X.calm = true) (hu : X.A.units + 64 < cLine) : CallR X (.builtin "min") (rMinD X.K) := by
  intro pins s σ H vs us Q I r h
  obtain ⟨a, ws, x, xs, rfl, hs, hd, ha, hdep, q⟩ := h
  rw [Vals.ref1 r]
  rcases hs with hs | hs
  · obtain ⟨its, rv, hl, _⟩ := I.list hs
    obtain ⟨as, hra⟩ := Dp.readsAll I _ _ _ hd rv
    refine PySem.W.min_list_data (I.ok.hd hc) hl.isList (x := x) (xs := xs) (as := as) (by simpa using hra) ha (by omega) fun i v h' tk bs hv rd hk => ?_
    have hv' : its[i]? = some v := by simpa using hv
    have hx := at_of_reads hra hk hv' rd
    have hi : i < ws.length := by
      have := (List.getElem?_eq_some_iff.mp hv').1
      have := rv.length
      omega
    obtain ⟨u, hu', ru⟩ := rv.get (i := i) (x := ws[i]) (List.getElem?_eq_getElem hi)
    rw [hv'] at hu'
    cases hu'
    exact ⟨ws[i], H, I.kept hk, ru, q i _ (List.getElem?_eq_getElem hi) hx⟩
  · obtain ⟨its, rv, hl, _⟩ := I.tuple hs
    obtain ⟨as, hra⟩ := Dp.readsAll I _ _ _ hd rv
    refine PySem.W.min_tuple_data (I.ok.hd hc) hl (x := x) (xs := xs) (as := as) (by simpa using hra) ha (by omega) fun i v h' tk bs hv rd hk => ?_
    have hv' : its[i]? = some v := by simpa using hv
    have hx := at_of_reads hra hk hv' rd
    have hi : i < ws.length := by
      have := (List.getElem?_eq_some_iff.mp hv').1
      have := rv.length
      omega
    obtain ⟨u, hu', ru⟩ := rv.get (i := i) (x := ws[i]) (List.getElem?_eq_getElem hi)
    rw [hv'] at hu'
    cases hu'
    exact ⟨ws[i], H, I.kept hk, ru, q i _ (List.getElem?_eq_getElem hi) hx⟩
def aMinRow : F1 := fun d Q => ∃ x xs, seqD d = some (x :: xs) ∧ PySem.W.AlikeAll (x :: xs) ∧ PyData.depthAll (x :: xs) ≤ 60 ∧ PyData.canLayAll0 (x :: xs) = true ∧ Q (PySem.W.minD x xs)
theorem n_minD : OpN p (f1 aMinRow) (rMinD p.K) := by
  refine op1 (fun d Q Q' h ⟨x, xs, a, b, c, e, q⟩ => ⟨x, xs, a, b, c, e, h _ q⟩) fun O H y d Q ok r ⟨x, xs, e, ha, hdep, hl, q⟩ => ?_
  cases d with
  | list ds =>
    cases e
    obtain ⟨l, vs, rfl, _, h1, r1⟩ := r.list
    refine ⟨l, vs, x, xs, rfl, .inl (.of h1), dps_of _ _ hl r1, ha, hdep, fun i w hw hx hk => ?_⟩
    obtain ⟨d, hd, rw'⟩ := r1.get' hw
    rw [hx] at hd
    cases hd
    exact RE.now q ok rw'
  | tuple ds =>
    cases e
    obtain ⟨l, vs, rfl, h1, r1⟩ := r.tuple
    refine ⟨l, vs, x, xs, rfl, .inr h1, dps_of _ _ hl r1, ha, hdep, fun i w hw hx hk => ?_⟩
    obtain ⟨d, hd, rw'⟩ := r1.get' hw
    rw [hx] at hd
    cases hd
    exact RE.now q ok rw'
  | _ => cases e
end
section
variable {ρ : Env'} {Qb : Bool → Prop} {EX : EXn} {g g' g2 : G2} {a b c e : WE}
@[simp ↓] theorem ev_Chain3 : wChain3 g g' g2 a b c e ρ Qb EX = a ρ (fun x => b ρ (fun y => g x y fun k => if k = true then c ρ (fun z => g' y z fun k2 => if k2 = true then e ρ (fun v => g2 z v Qb) EX else Qb false) EX else Qb false) EX) EX := rfl
end
end DD
set_option maxRecDepth 100000
set_option maxHeartbeats 2000000
/-! DicA: dicts whose keys are numbers, or nested tuples of numbers: what stands in the heap; reading, writing. -/
namespace DD
open PySem PySem.Spec PyProof.Rows L2
/-! ### as data -/
open Classical in
noncomputable def dGet (kvs : List (D × D)) (k : D) : Option D := (kvs.find? fun p => decide (p.1 = k)).map (·.2)
open Classical in
noncomputable def dHas (kvs : List (D × D)) (k : D) : Bool := kvs.any fun p => decide (p.1 = k)
open Classical in
noncomputable def dPut (kvs : List (D × D)) (k v : D) : List (D × D) := if dHas kvs k = true then kvs.map (fun p => if p.1 = k then (p.1, v) else p) else kvs ++ [(k, v)]
open Classical in
theorem dHas_get {kvs : List (D × D)} {k : D} : dHas kvs k = (dGet kvs k).isSome := by
  unfold dHas dGet
  rw [Option.isSome_map]
  induction kvs with
  | nil => rfl
  | cons p kvs ih =>
    rw [List.any_cons, List.find?_cons]
    by_cases z : p.1 = k
    · rw [decide_eq_true z]; rfl
    · rw [decide_eq_false z, Bool.false_or, ih]
/-- the key is of the dict's kind -/
def keyFit (kvs : List (D × D)) (k : D) : Prop := (isIntD k ∧ ∀ p ∈ kvs, isIntD p.1) ∨ (isTupD k ∧ ∀ p ∈ kvs, isTupD p.1)
mutual
theorem nkD_inj : ∀ (a b : D), nkOk a = true → nkOk b = true → nkD a = nkD b → a = b
  | .int i, .int j, _, _, h => by simp only [nkD, NestedKey.num.injEq] at h; rw [h]
  | .tuple ds, .tuple es, h1, h2, h => by
    simp only [nkD, NestedKey.tup.injEq] at h
    rw [nkOk] at h1 h2
    rw [nkDs_inj ds es h1 h2 h]
  | .int i, .tuple es, _, _, h => by simp [nkD] at h
  | .tuple ds, .int j, _, _, h => by simp [nkD] at h
  | .none, _, h, _, _ => by simp [nkOk] at h
  | .bool _, _, h, _, _ => by simp [nkOk] at h
  | .str _, _, h, _, _ => by simp [nkOk] at h
  | .list _, _, h, _, _ => by simp [nkOk] at h
  | .dict _, _, h, _, _ => by simp [nkOk] at h
  | .int _, .none, _, h, _ => by simp [nkOk] at h
  | .int _, .bool _, _, h, _ => by simp [nkOk] at h
  | .int _, .str _, _, h, _ => by simp [nkOk] at h
  | .int _, .list _, _, h, _ => by simp [nkOk] at h
  | .int _, .dict _, _, h, _ => by simp [nkOk] at h
  | .tuple _, .none, _, h, _ => by simp [nkOk] at h
  | .tuple _, .bool _, _, h, _ => by simp [nkOk] at h
  | .tuple _, .str _, _, h, _ => by simp [nkOk] at h
  | .tuple _, .list _, _, h, _ => by simp [nkOk] at h
  | .tuple _, .dict _, _, h, _ => by simp [nkOk] at h
theorem nkDs_inj : ∀ (as bs : List D), nkOks as = true → nkOks bs = true → nkDs as = nkDs bs → as = bs
  | [], [], _, _, _ => rfl
  | a :: as, b :: bs, h1, h2, h => by
    simp only [nkDs, List.cons.injEq] at h
    rw [nkOks, Bool.and_eq_true] at h1 h2
    rw [nkD_inj a b h1.1 h2.1 h.1, nkDs_inj as bs h1.2 h2.2 h.2]
  | [], _ :: _, _, _, h => by simp [nkDs] at h
  | _ :: _, [], _, _, h => by simp [nkDs] at h
end
mutual
theorem hash_w : ∀ (a : D), nkOk a = true → ∀ w w' : World, (nkD a).hash w = (nkD a).hash w'
  | .int i, _, w, w' => by simp only [nkD, NestedKey.hash]
  | .tuple ds, h, w, w' => by
    rw [nkOk] at h
    simp only [nkD, NestedKey.hash]
    rw [hashes_w ds h w w']
  | .none, h, _, _ => by simp [nkOk] at h
  | .bool _, h, _, _ => by simp [nkOk] at h
  | .str _, h, _, _ => by simp [nkOk] at h
  | .list _, h, _, _ => by simp [nkOk] at h
  | .dict _, h, _, _ => by simp [nkOk] at h
theorem hashes_w : ∀ (as : List D), nkOks as = true → ∀ w w' : World, NestedKey.hashes w (nkDs as) = NestedKey.hashes w' (nkDs as)
  | [], _, _, _ => by simp only [nkDs, NestedKey.hashes]
  | a :: as, h, w, w' => by
    rw [nkOks, Bool.and_eq_true] at h
    simp only [nkDs, NestedKey.hashes]
    rw [hash_w a h.1 w w', hashes_w as h.2 w w']
end
theorem isTup_ok {d : D} (h : isTupD d) : nkOk d = true ∧ (nkD d).depth ≤ 8 ∧ ∃ ds, d = .tuple ds := by
  cases d with
  | tuple ds => exact ⟨by rw [nkOk]; exact h.1, h.2, ds, rfl⟩
  | _ => exact h.elim
theorem isInt_ok {d : D} (h : isIntD d) : ∃ i, d = .int i := by
  cases d with
  | int i => exact ⟨i, rfl⟩
  | _ => exact h.elim
open Classical in
theorem dPut_keys {kvs : List (D × D)} {k v : D} : (dPut kvs k v).map (·.1) = if dHas kvs k = true then kvs.map (·.1) else kvs.map (·.1) ++ [k] := by
  unfold dPut
  split
  · rw [List.map_map]
    refine List.map_congr_left fun p _ => ?_
    show (if p.1 = k then (p.1, v) else p).1 = p.1
    split <;> rfl
  · rw [List.map_append]; rfl
theorem dPut_len {kvs : List (D × D)} {k v : D} : (dPut kvs k v).length ≤ kvs.length + 1 := by
  unfold dPut
  split
  · rw [List.length_map]; omega
  · rw [List.length_append]; exact Nat.le_refl _
open Classical in
theorem dPut_ok {kvs : List (D × D)} {k v : D} (h : KeysD kvs) (f : keyFit kvs k) : KeysD (dPut kvs k v) := by
  have e := dPut_keys (kvs := kvs) (k := k) (v := v)
  have mem : ∀ p ∈ dPut kvs k v, p.1 = k ∨ ∃ q ∈ kvs, p.1 = q.1 := fun p hp => by
    have h1 : p.1 ∈ (dPut kvs k v).map (·.1) := List.mem_map.mpr ⟨p, hp, rfl⟩
    rw [e] at h1
    split at h1
    · obtain ⟨q, hq, e2⟩ := List.mem_map.mp h1; exact .inr ⟨q, hq, e2.symm⟩
    · rcases List.mem_append.mp h1 with h1 | h1
      · obtain ⟨q, hq, e2⟩ := List.mem_map.mp h1; exact .inr ⟨q, hq, e2.symm⟩
      · exact .inl (List.mem_singleton.mp h1)
  refine ⟨?_, ?_⟩
  · rw [e]
    split
    · exact h.nd
    · rename_i z
      refine List.nodup_append.mpr ⟨h.nd, List.nodup_cons.mpr ⟨by simp, List.nodup_nil⟩, fun a ha b hb => ?_⟩
      rw [List.mem_singleton] at hb
      subst hb
      rintro rfl
      obtain ⟨q, hq, e2⟩ := List.mem_map.mp ha
      refine z ?_
      unfold dHas
      rw [List.any_eq_true]
      exact ⟨q, hq, by simpa using e2⟩
  · rcases f with f | f
    · refine .inl fun p hp => ?_
      rcases mem p hp with e | ⟨q, hq, e⟩
      · rw [e]; exact f.1
      · rw [e]; exact f.2 q hq
    · refine .inr fun p hp => ?_
      rcases mem p hp with e | ⟨q, hq, e⟩
      · rw [e]; exact f.1
      · rw [e]; exact f.2 q hq
theorem nodup_on {α β : Type} {f : α → β} : ∀ {l : List α}, (∀ x ∈ l, ∀ y ∈ l, f x = f y → x = y) → l.Nodup → (l.map f).Nodup
  | [], _, _ => List.nodup_nil
  | x :: l, h, n => by
    rw [List.nodup_cons] at n
    rw [List.map_cons, List.nodup_cons]
    refine ⟨fun hm => ?_, nodup_on (fun a ha b hb => h a (List.mem_cons_of_mem _ ha) b (List.mem_cons_of_mem _ hb)) n.2⟩
    obtain ⟨y, hy, e⟩ := List.mem_map.mp hm
    exact n.1 (by rw [← h y (List.mem_cons_of_mem _ hy) x List.mem_cons_self e]; exact hy)
/-! ### in the heap -/
def valV' : Value → V
  | .none => .non
  | .bool b => .bl b
  | .int i _ => .int i
  | .str x _ => .str x
  | .bytes b _ => .byt b
  | .float b _ => .flt b
  | .ref a => .ref a
  | .type n => .ty n
  | _ => .non
theorem relV_to {v : V} {u : Value} (h : RelV v u) : v = valV' u := by
  cases v with
  | non => have h : u = Value.none := h; rw [h]; rfl
  | bl b => have h : u = Value.bool b := h; rw [h]; rfl
  | int i => obtain ⟨t, h⟩ : ∃ t, u = Value.int i t := h; rw [h]; rfl
  | str i => obtain ⟨t, h⟩ : ∃ t, u = Value.str i t := h; rw [h]; rfl
  | byt i => obtain ⟨t, h⟩ : ∃ t, u = Value.bytes i t := h; rw [h]; rfl
  | flt i => obtain ⟨t, h⟩ : ∃ t, u = Value.float i t := h; rw [h]; rfl
  | ref a => have h : u = Value.ref a := h; rw [h]; rfl
  | ty n => have h : u = Value.type n := h; rw [h]; rfl
theorem relV_inj {v x : V} {u : Value} (h : RelV v u) (h' : RelV x u) : v = x := (relV_to h).trans (relV_to h').symm
section
variable {X : Cx} {pins : List (Addr × Obj)} {σ : L2.St} {H : Hp} {s : Shared} {N : Addr → Prop}
mutual
theorem nis_of (I : Inv X pins σ H s) : ∀ (d : D) (v : V) (u : Value), nkOk d = true → RepV X.K N H v d → RelV v u → NestedIs s.heap (nkD d) u
  | .int i, v, u, _, r, e => by
    rw [RepV] at r
    subst r
    obtain ⟨t, rfl⟩ := e
    rw [nkD]
    exact .int i t
  | .tuple ds, v, u, h, r, e => by
    rw [RepV] at r
    rw [nkOk] at h
    obtain ⟨a, vs, rfl, h1, r1⟩ := r
    cases (show u = Value.ref a from e)
    obtain ⟨_, its, rv, o, g1, g2, n, g3⟩ := (show ObjOk X.prog X.w H s.heap a (.tup vs) from I.hok a _ h1)
    rw [nkD]
    exact .tup g1 g2 g3 (by simpa using nis_all I ds vs its h r1 rv)
  | .none, _, _, h, _, _ => by simp [nkOk] at h
  | .bool _, _, _, h, _, _ => by simp [nkOk] at h
  | .str _, _, _, h, _, _ => by simp [nkOk] at h
  | .list _, _, _, h, _, _ => by simp [nkOk] at h
  | .dict _, _, _, h, _, _ => by simp [nkOk] at h
theorem nis_all (I : Inv X pins σ H s) : ∀ (ds : List D) (vs : List V) (us : List Value), nkOks ds = true → RepAll X.K N H vs ds → Vals vs us → NestedAll s.heap (nkDs ds) us
  | [], [], _, _, _, e => by cases e; rw [nkDs]; exact .nil
  | d :: ds, v :: vs, _, h, r, e => by
    rw [RepAll] at r
    rw [nkOks, Bool.and_eq_true] at h
    cases e with
    | cons e1 e2 =>
      rw [nkDs]
      exact .cons (nis_of I d v _ h.1 r.1 e1) (nis_all I ds vs _ h.2 r.2 e2)
  | [], _ :: _, _, _, r, _ => by simp [RepAll] at r
  | _ :: _, [], _, _, r, _ => by simp [RepAll] at r
end
/-- a key that is a tuple, in the heap -/
theorem key_tup (I : Inv X pins σ H s) {d : D} {v : V} {u : Value} (h : isTupD d) (r : RepV X.K N H v d) (e : RelV v u) : ∃ b, v = .ref b ∧ u = .ref b ∧ (nestedKind X.prog X.w).is s.heap (nkD d) b := by
  obtain ⟨h1, h2, ds, rfl⟩ := isTup_ok h
  have r' := r
  rw [RepV] at r'
  obtain ⟨b, vs, rfl, _⟩ := r'
  cases (show u = Value.ref b from e)
  exact ⟨b, rfl, rfl, nis_of I _ _ _ h1 r e, h2⟩
end
/-- entries with number keys -/
def PI_ (K : PySem.W.Frag) (N : Addr → Prop) (H : Hp) : List (Key × Value) → List (D × D) → Prop := Paired fun x p => ∃ i, x.1 = Sum.inl i ∧ p.1 = .int i ∧ ∃ v, RelV v x.2 ∧ RepV K N H v p.2
/-- entries with tuple keys -/
def PT_ (K : PySem.W.Frag) (N : Addr → Prop) (H : Hp) : List (NestedKey × Addr × Value) → List (D × D) → Prop := Paired fun x p => x.1 = nkD p.1 ∧ isTupD p.1 ∧ RepV K N H (.ref x.2.1) p.1 ∧ ∃ v, RelV v x.2.2 ∧ RepV K N H v p.2
section
variable {K : PySem.W.Frag} {N : Addr → Prop} {H : Hp} {P : Program} {w : World}
theorem ints_out : ∀ {es : List DictEntry} {kvs : List (D × D)}, RepKV K N H es kvs → (∀ p ∈ kvs, isIntD p.1) → ∃ xs : List (Key × Value), PySem.Pairs (mixKind P w) es xs ∧ (∀ e ∈ es, ∃ k, (mixKind P w).is k e.key = true ∧ e.hash = (mixKind P w).hash k) ∧ PI_ K N H xs kvs
  | [], [], _, _ => ⟨[], .nil, fun _ h => by simp at h, .nil⟩
  | e :: es, (k, d) :: kvs, h, hk => by
    rw [RepKV] at h
    obtain ⟨⟨⟨v, h1, h2⟩, h3, ⟨u, h4, h5⟩⟩, h6⟩ := h
    obtain ⟨xs, g1, g2, g3⟩ := ints_out h6 fun p hp => hk p (List.mem_cons_of_mem _ hp)
    obtain ⟨i, e0⟩ := isInt_ok (hk (k, d) List.mem_cons_self)
    have e0 : k = .int i := e0
    subst e0
    rw [RepV] at h2
    subst h2
    obtain ⟨t, ht⟩ := (show ∃ t, e.key = Value.int i t from h1)
    have hi : (mixKind P w).is (.inl i) e.key = true := by rw [ht]; exact mixKind_int P w i t
    refine ⟨(.inl i, e.val) :: xs, .cons hi rfl g1, fun e' he => ?_, .cons ⟨i, rfl, rfl, u, h4, h5⟩ g3⟩
    rcases List.mem_cons.mp he with rfl | he
    · exact ⟨.inl i, hi, h3 w⟩
    · exact g2 e' he
  | [], _ :: _, h, _ => by simp [RepKV] at h
  | _ :: _, [], h, _ => by simp [RepKV] at h
theorem ints_in : ∀ {es : List DictEntry} {xs : List (Key × Value)} {kvs : List (D × D)}, PySem.Pairs (mixKind P w) es xs → (∀ e ∈ es, ∃ k, (mixKind P w).is k e.key = true ∧ e.hash = (mixKind P w).hash k) → PI_ K N H xs kvs → RepKV K N H es kvs
  | _, _, _, .nil, _, .nil => by rw [RepKV]; trivial
  | e :: es, x :: xs, (k, d) :: kvs, .cons h1 h2 h3, g, .cons ⟨i, e1, e2, u, r1, r2⟩ t => by
    rw [RepKV]
    refine ⟨⟨⟨.int i, ?_, ?_⟩, ?_, ⟨u, by rw [h2]; exact r1, r2⟩⟩, ints_in h3 (fun e' he => g e' (List.mem_cons_of_mem _ he)) t⟩
    · rw [e1] at h1
      rcases keyIs_shape (show keyIs (.inl i) e.key = true from h1) with ⟨j, t, ej, ek⟩ | ⟨y, t, ej, ek⟩
      · cases ej; exact ⟨t, ek⟩
      · cases ej
    · have e2 : k = .int i := e2
      rw [e2, RepV]
    · have e2 : k = .int i := e2
      rw [e2]
      intro w'
      obtain ⟨k', q1, q2⟩ := g e List.mem_cons_self
      rw [e1] at h1
      have := (mixKind P w).inj _ _ _ h1 q1
      rw [q2, ← this]
      rfl
theorem tups_out : ∀ {es : List DictEntry} {kvs : List (D × D)}, RepKV K N H es kvs → (∀ p ∈ kvs, isTupD p.1) → ∃ xs : List (NestedKey × Addr × Value), es = xs.map (entryOfKey (nestedKind P w)) ∧ PT_ K N H xs kvs
  | [], [], _, _ => ⟨[], rfl, .nil⟩
  | e :: es, (k, d) :: kvs, h, hk => by
    rw [RepKV] at h
    obtain ⟨⟨⟨v, h1, h2⟩, h3, ⟨u, h4, h5⟩⟩, h6⟩ := h
    obtain ⟨xs, g1, g3⟩ := tups_out h6 fun p hp => hk p (List.mem_cons_of_mem _ hp)
    have ht := hk (k, d) List.mem_cons_self
    obtain ⟨o1, o2, ds, e0⟩ := isTup_ok ht
    have e0 : k = .tuple ds := e0
    subst e0
    have r2 := h2
    rw [RepV] at r2
    obtain ⟨b, vs, rfl, _⟩ := r2
    have hb : e.key = Value.ref b := h1
    refine ⟨(nkD (.tuple ds), b, e.val) :: xs, ?_, .cons ⟨rfl, ht, h2, u, h4, h5⟩ g3⟩
    rw [List.map_cons, g1]
    congr 1
    obtain ⟨eh, ek, ev⟩ := e
    simp only at hb h3
    subst hb
    unfold entryOfKey
    congr 1
    exact h3 w
  | [], _ :: _, h, _ => by simp [RepKV] at h
  | _ :: _, [], h, _ => by simp [RepKV] at h
theorem tups_in : ∀ {xs : List (NestedKey × Addr × Value)} {kvs : List (D × D)}, PT_ K N H xs kvs → RepKV K N H (xs.map (entryOfKey (nestedKind P w))) kvs
  | _, _, .nil => by rw [List.map_nil, RepKV]; trivial
  | x :: xs, (k, d) :: kvs, .cons ⟨e1, ht, r1, u, r2, r3⟩ t => by
    rw [List.map_cons, RepKV]
    obtain ⟨o1, o2, ds, e0⟩ := isTup_ok ht
    have e0 : k = .tuple ds := e0
    subst e0
    refine ⟨⟨⟨.ref x.2.1, rfl, r1⟩, fun w' => ?_, ⟨u, r2, r3⟩⟩, tups_in t⟩
    show NestedKey.hash w x.1 = _
    rw [e1]
    exact hash_w _ o1 w w'
open Classical in
theorem pi_val {xs : List (Key × Value)} {kvs : List (D × D)} (h : PI_ K N H xs kvs) (i : Int) : (valueAt xs (.inl i) = none ∧ dGet kvs (.int i) = none) ∨ ∃ u d v, valueAt xs (.inl i) = some u ∧ dGet kvs (.int i) = some d ∧ RelV v u ∧ RepV K N H v d := by
  unfold PI_ at h
  induction h with
  | nil => exact .inl ⟨rfl, rfl⟩
  | @cons x p xs kvs h t ih =>
    obtain ⟨j, e1, e2, v, r1, r2⟩ := h
    by_cases z : j = i
    · subst z
      refine .inr ⟨x.2, p.2, v, ?_, ?_, r1, r2⟩
      · simp [valueAt, List.find?_cons, e1]
      · simp [dGet, List.find?_cons, e2]
    · have a1 : valueAt (x :: xs) (.inl i) = valueAt xs (.inl i) := by simp [valueAt, List.find?_cons, e1, z]
      have a2 : dGet (p :: kvs) (.int i) = dGet kvs (.int i) := by simp [dGet, List.find?_cons, e2, z]
      rw [a1, a2]
      exact ih
open Classical in
theorem pt_val {xs : List (NestedKey × Addr × Value)} {kvs : List (D × D)} (h : PT_ K N H xs kvs) {k : D} (hk : isTupD k) : (atKey xs (nkD k) = none ∧ dGet kvs k = none) ∨ ∃ q d v, atKey xs (nkD k) = some q ∧ dGet kvs k = some d ∧ RelV v q.2 ∧ RepV K N H v d := by
  unfold PT_ at h
  induction h with
  | nil => exact .inl ⟨rfl, rfl⟩
  | @cons x p xs kvs h t ih =>
    obtain ⟨e1, ht, r0, v, r1, r2⟩ := h
    by_cases z : p.1 = k
    · refine .inr ⟨x.2, p.2, v, ?_, ?_, r1, r2⟩
      · simp [atKey, List.find?_cons, e1, z]
      · simp [dGet, List.find?_cons, z]
    · have z2 : ¬ x.1 = nkD k := fun e => z (nkD_inj _ _ (isTup_ok ht).1 (isTup_ok hk).1 (e1.symm.trans e))
      have a1 : atKey (x :: xs) (nkD k) = atKey xs (nkD k) := by simp [atKey, List.find?_cons, z2]
      have a2 : dGet (p :: kvs) k = dGet kvs k := by simp [dGet, List.find?_cons, z]
      rw [a1, a2]
      exact ih
theorem paired_map2 {α β α' β' : Type} {R : α → β → Prop} {S : α' → β' → Prop} {f : α → α'} {g : β → β'} (h : ∀ a b, R a b → S (f a) (g b)) : ∀ {l : List α} {m : List β}, Paired R l m → Paired S (l.map f) (m.map g)
  | _, _, .nil => .nil
  | _, _, .cons r t => .cons (h _ _ r) (paired_map2 h t)
open Classical in
theorem pi_put {xs : List (Key × Value)} {kvs : List (D × D)} (h : PI_ K N H xs kvs) {i : Int} {u : Value} {v : V} {d : D} (r1 : RelV v u) (r2 : RepV K N H v d) : PI_ K N H (stored xs (.inl i) u) (dPut kvs (.int i) d) := by
  have e : (xs.any fun kv => decide (kv.1 = Sum.inl i)) = dHas kvs (.int i) := by
    unfold dHas
    unfold PI_ at h
    induction h with
    | nil => rfl
    | @cons x p xs kvs h t ih =>
      obtain ⟨j, e1, e2, _⟩ := h
      rw [List.any_cons, List.any_cons, ih, e1, e2]
      congr 1
      by_cases z : j = i
      · rw [z]; simp
      · rw [decide_eq_false (fun q => z (Sum.inl.inj q)), decide_eq_false (fun q => z (by cases q; rfl))]
  unfold stored dPut
  rw [e]
  split
  · refine paired_map2 (fun x p ⟨j, e1, e2, v', q1, q2⟩ => ?_) h
    by_cases z : j = i
    · rw [if_pos (by rw [e1, z]), if_pos (by rw [e2, z])]
      exact ⟨j, e1, e2, v, r1, r2⟩
    · rw [if_neg (by rw [e1]; exact fun q => z (Sum.inl.inj q)), if_neg (by rw [e2]; exact fun q => z (by cases q; rfl))]
      exact ⟨j, e1, e2, v', q1, q2⟩
  · exact Paired.snoc h ⟨i, rfl, rfl, v, r1, r2⟩
open Classical in
theorem pt_put {xs : List (NestedKey × Addr × Value)} {kvs : List (D × D)} (h : PT_ K N H xs kvs) {k : D} {b : Addr} {u : Value} {v : V} {d : D} (hk : isTupD k) (r0 : RepV K N H (.ref b) k) (r1 : RelV v u) (r2 : RepV K N H v d) : PT_ K N H (storedH xs (nkD k) b u) (dPut kvs k d) := by
  have e : (atKey xs (nkD k)).isSome = dHas kvs k := by
    rw [dHas_get]
    rcases pt_val h hk with ⟨h1, h2⟩ | ⟨_, _, _, h1, h2, _⟩ <;> rw [h1, h2] <;> rfl
  unfold storedH dPut
  rw [e]
  split
  · refine paired_map2 (fun x p ⟨e1, ht, q0, v', q1, q2⟩ => ?_) h
    unfold putAt
    by_cases z : p.1 = k
    · rw [if_pos (by rw [e1, z]), if_pos z]
      exact ⟨e1, ht, q0, v, r1, r2⟩
    · rw [if_neg (fun q => z (nkD_inj _ _ (isTup_ok ht).1 (isTup_ok hk).1 (e1.symm.trans q))), if_neg z]
      exact ⟨e1, ht, q0, v', q1, q2⟩
  · exact Paired.snoc h ⟨rfl, hk, r0, v, r1, r2⟩
theorem RepKV.length : ∀ {es : List DictEntry} {kvs : List (D × D)}, RepKV K N H es kvs → es.length = kvs.length
  | [], [], _ => rfl
  | e :: es, (k, d) :: kvs, h => by
    rw [RepKV] at h
    rw [List.length_cons, List.length_cons, RepKV.length h.2]
  | [], _ :: _, h => by simp [RepKV] at h
  | _ :: _, [], h => by simp [RepKV] at h
theorem RepKV.get : ∀ {es : List DictEntry} {kvs : List (D × D)} {i : Nat} {k d : D}, RepKV K N H es kvs → kvs[i]? = some (k, d) → ∃ e, es[i]? = some e ∧ (∃ v, RelV v e.key ∧ RepV K N H v k) ∧ ∃ v, RelV v e.val ∧ RepV K N H v d
  | [], [], _, _, _, _, e => by simp at e
  | e :: es, (k', d') :: kvs, 0, k, d, h, q => by
    rw [RepKV] at h
    simp at q
    obtain ⟨rfl, rfl⟩ := q
    exact ⟨e, rfl, h.1.1, h.1.2.2⟩
  | e :: es, (k', d') :: kvs, i + 1, k, d, h, q => by
    rw [RepKV] at h
    obtain ⟨e', h1, h2⟩ := RepKV.get (i := i) h.2 (by simpa using q)
    exact ⟨e', by simpa using h1, h2⟩
  | [], _ :: _, _, _, _, h, _ => by simp [RepKV] at h
  | _ :: _, [], _, _, _, h, _ => by simp [RepKV] at h
end
/-- what one knows of a dict -/
structure DkR (K : PySem.W.Frag) (N : Addr → Prop) (H : Hp) (a : Addr) (o : Obj) (es : List DictEntry) (kvs : List (D × D)) : Prop where
  ob : DkO H a o es
  kv : RepKV K N H es kvs
  ks : KeysD kvs
section
variable {X : Cx} {pins : List (Addr × Obj)} {σ : L2.St} {H : Hp} {s : Shared} {N : Addr → Prop} {a : Addr} {o : Obj} {es : List DictEntry} {kvs : List (D × D)}
theorem DkO.get (I : Inv X pins σ H s) (h : DkO H a o es) : s.heap.get? a = some o := (I.hok a _ h.at_).1
theorem dk_ints (I : Inv X pins σ H s) (h : DkR X.K N H a o es kvs) (hk : ∀ p ∈ kvs, isIntD p.1) : ∃ xs, s.heap.DictOf (mixKind X.prog X.w) a xs ∧ PI_ X.K N H xs kvs := by
  obtain ⟨xs, h1, h2, h3⟩ := ints_out (P := X.prog) (w := X.w) h.kv hk
  obtain ⟨ep, hd⟩ := h.ob.dat
  refine ⟨xs, ⟨o, es.toArray, ep, h.ob.get I, h.ob.ex, hd, fun e he => h2 e (by simpa using he), by simpa using h1, ?_⟩, h3⟩
  have e : ∀ {xs : List (Key × Value)} {kvs : List (D × D)}, PI_ X.K N H xs kvs → xs.map (·.1) = (kvs.map (·.1)).map fun d => (Sum.inl (match d with | .int i => i | _ => 0) : Key) := fun h3 => by
    unfold PI_ at h3
    induction h3 with
    | nil => rfl
    | @cons x p xs kvs q t ih =>
      obtain ⟨i, e1, e2, _⟩ := q
      rw [List.map_cons, List.map_cons, List.map_cons, e1, e2, ih]
  rw [e h3]
  refine nodup_on (fun x hx y hy q => ?_) h.ks.nd
  obtain ⟨p, hp, rfl⟩ := List.mem_map.mp hx
  obtain ⟨p', hp', rfl⟩ := List.mem_map.mp hy
  obtain ⟨i, ei⟩ := isInt_ok (hk p hp)
  obtain ⟨j, ej⟩ := isInt_ok (hk p' hp')
  rw [ei, ej] at q ⊢
  exact congrArg _ (Sum.inl.inj q)
theorem dk_tups (I : Inv X pins σ H s) (h : DkR X.K N H a o es kvs) (hk : ∀ p ∈ kvs, isTupD p.1) : ∃ xs, s.heap.DictOfH (nestedKind X.prog X.w) a xs ∧ PT_ X.K N H xs kvs := by
  obtain ⟨xs, h1, h3⟩ := tups_out (P := X.prog) (w := X.w) h.kv hk
  obtain ⟨ep, hd⟩ := h.ob.dat
  have e : ∀ {xs : List (NestedKey × Addr × Value)} {kvs : List (D × D)}, PT_ X.K N H xs kvs → xs.map (·.1) = (kvs.map (·.1)).map nkD := fun h3 => by
    unfold PT_ at h3
    induction h3 with
    | nil => rfl
    | @cons x p xs kvs q t ih => rw [List.map_cons, List.map_cons, List.map_cons, q.1, ih]
  have ki : ∀ {xs : List (NestedKey × Addr × Value)} {kvs : List (D × D)}, PT_ X.K N H xs kvs → ∀ x ∈ xs, (nestedKind X.prog X.w).is s.heap x.1 x.2.1 := fun h3 => by
    unfold PT_ at h3
    induction h3 with
    | nil => exact fun x hx => by simp at hx
    | @cons x p xs kvs q t ih =>
      intro y hy
      rcases List.mem_cons.mp hy with rfl | hy
      · obtain ⟨e1, ht, r0, _⟩ := q
        obtain ⟨b, e2, e3, hb⟩ := key_tup I ht r0 (u := .ref y.2.1) rfl
        cases e2
        rw [e1]
        exact hb
      · exact ih y hy
  refine ⟨xs, ⟨o, es.toArray, ep, h.ob.get I, h.ob.ex, hd, by simpa using h1, ki h3, ?_⟩, h3⟩
  rw [e h3]
  refine nodup_on (fun x hx y hy q => ?_) h.ks.nd
  obtain ⟨p, hp, rfl⟩ := List.mem_map.mp hx
  obtain ⟨p', hp', rfl⟩ := List.mem_map.mp hy
  exact nkD_inj _ _ (isTup_ok (hk p hp)).1 (isTup_ok (hk p' hp')).1 q
end
/-! ### the operations -/
theorem nk_room {A : Around} (hu : A.units + 65 < cLine) {P : Program} {w : World} : (nestedKind P w).room A.in1 := by
  show A.units + 1 + 8 < cLine
  omega
section
variable {X : Cx} {pins : List (Addr × Obj)} {σ : L2.St} {H : Hp} {s : Shared} {N : Addr → Prop} {a : Addr} {o : Obj} {es : List DictEntry} {kvs : List (D × D)} {A : Around} {E : Value → Shared → Prop} {k : D} {y : V} {u : Value}
theorem int_rel {v : V} {i : Int} (r : RepV X.K N H v (.int i)) (e : RelV v u) {P : Program} {w : World} : (mixKind P w).is (.inl i) u = true := by
  rw [RepV] at r
  subst r
  obtain ⟨t, rfl⟩ := e
  exact mixKind_int P w i t
theorem dk_in {Q : Value → Shared → Prop} (hu : A.units + 65 < cLine) (I : Inv X pins σ H s) (h : DkR X.K N H a o es kvs) (f : keyFit kvs k) (r : RepV X.K N H y k) (ry : RelV y u) (hQ : ∀ s', Inv X pins σ H s' → Q (.bool (dGet kvs k).isSome) s') :
    wpAny (model X.prog X.w) A (compareOp .In u (.ref a)) Q E s := by
  rcases f with ⟨f1, f2⟩ | ⟨f1, f2⟩
  · obtain ⟨i, rfl⟩ := isInt_ok f1
    obtain ⟨xs, d, p⟩ := dk_ints I h f2
    refine wpAny_in_of (int_rel r ry) h.ob.sm d.mapOf ?_
    have e : (valueAt xs (.inl i)).isSome = (dGet kvs (.int i)).isSome := by
      rcases pi_val p i with ⟨h1, h2⟩ | ⟨_, _, _, h1, h2, _⟩ <;> rw [h1, h2] <;> rfl
    rw [e]
    exact hQ _ (I.tok _)
  · obtain ⟨b, rfl, rfl, hb⟩ := key_tup I f1 r ry
    obtain ⟨xs, d, p⟩ := dk_tups I h f2
    refine wpAny_in_heap (nk_room hu) hb h.ob.sm d ?_
    have e : (atKey xs (nkD k)).isSome = (dGet kvs k).isSome := by
      rcases pt_val p f1 with ⟨h1, h2⟩ | ⟨_, _, _, h1, h2, _⟩ <;> rw [h1, h2] <;> rfl
    rw [e]
    exact hQ _ (I.tok _)
theorem dk_notIn {Q : Value → Shared → Prop} (hu : A.units + 65 < cLine) (I : Inv X pins σ H s) (h : DkR X.K N H a o es kvs) (f : keyFit kvs k) (r : RepV X.K N H y k) (ry : RelV y u) (hQ : ∀ s', Inv X pins σ H s' → Q (.bool (!(dGet kvs k).isSome)) s') :
    wpAny (model X.prog X.w) A (compareOp .NotIn u (.ref a)) Q E s := by
  rcases f with ⟨f1, f2⟩ | ⟨f1, f2⟩
  · obtain ⟨i, rfl⟩ := isInt_ok f1
    obtain ⟨xs, d, p⟩ := dk_ints I h f2
    refine wpAny_notIn_of (int_rel r ry) h.ob.sm d.mapOf ?_
    have e : (valueAt xs (.inl i)).isSome = (dGet kvs (.int i)).isSome := by
      rcases pi_val p i with ⟨h1, h2⟩ | ⟨_, _, _, h1, h2, _⟩ <;> rw [h1, h2] <;> rfl
    rw [e]
    exact hQ _ (I.tok _)
  · obtain ⟨b, rfl, rfl, hb⟩ := key_tup I f1 r ry
    obtain ⟨xs, d, p⟩ := dk_tups I h f2
    refine wpAny_notIn_heap (nk_room hu) hb h.ob.sm d ?_
    have e : (atKey xs (nkD k)).isSome = (dGet kvs k).isSome := by
      rcases pt_val p f1 with ⟨h1, h2⟩ | ⟨_, _, _, h1, h2, _⟩ <;> rw [h1, h2] <;> rfl
    rw [e]
    exact hQ _ (I.tok _)
theorem dk_getItem {d : D} {Q : Value → Shared → Prop} (hu : A.units + 65 < cLine) (I : Inv X pins σ H s) (h : DkR X.K N H a o es kvs) (f : keyFit kvs k) (r : RepV X.K N H y k) (ry : RelV y u) (hd : dGet kvs k = some d) (hQ : ∀ v w' s', Inv X pins σ H s' → RelV v w' → RepV X.K N H v d → Q w' s') :
    wpAny (model X.prog X.w) A (getItem (.ref a) u) Q E s := by
  rcases f with ⟨f1, f2⟩ | ⟨f1, f2⟩
  · obtain ⟨i, rfl⟩ := isInt_ok f1
    obtain ⟨xs, dd, p⟩ := dk_ints I h f2
    rcases pi_val p i with ⟨h1, h2⟩ | ⟨w', d', v, h1, h2, r1, r2⟩
    · rw [h2] at hd; cases hd
    · rw [h2] at hd; cases hd
      exact wpAny_getItem_of (int_rel r ry) dd.mapOf h1 (hQ v w' _ (I.tok _) r1 r2)
  · obtain ⟨b, rfl, rfl, hb⟩ := key_tup I f1 r ry
    obtain ⟨xs, dd, p⟩ := dk_tups I h f2
    rcases pt_val p f1 with ⟨h1, h2⟩ | ⟨q, d', v, h1, h2, r1, r2⟩
    · rw [h2] at hd; cases hd
    · rw [h2] at hd; cases hd
      exact wpAny_getItem_heap (nk_room hu) hb dd h1 (hQ v _ _ (I.tok _) r1 r2)
/-- d.get(k, x) -/
theorem dk_get2 {x : V} {xu : Value} {dx : D} {Q : Value → Shared → Prop} (hu : A.units + 65 < cLine) (I : Inv X pins σ H s) (h : DkR X.K N H a o es kvs) (f : keyFit kvs k) (r : RepV X.K N H y k) (ry : RelV y u) (rx : RelV x xu) (rd : RepV X.K N H x dx) (hQ : ∀ v w' s', Inv X pins σ H s' → RelV v w' → RepV X.K N H v ((dGet kvs k).getD dx) → Q w' s') :
    wpAny (model X.prog X.w) A (call (.builtin "dict.get") [.ref a, u, xu]) Q E s := by
  rcases f with ⟨f1, f2⟩ | ⟨f1, f2⟩
  · obtain ⟨i, rfl⟩ := isInt_ok f1
    obtain ⟨xs, dd, p⟩ := dk_ints I h f2
    refine call_meetsIn PySem.F.slot_dict_get dd.typeIs PySem.F.entry_dict_get (PySem.F.args_dict_get_3 _ _ _) (meets_dict_get_default (mixKind X.prog X.w) a (int_rel r ry) h.ob.sm xu) ⟨_, dd.mapOf, ?_⟩
    rcases pi_val p i with ⟨h1, h2⟩ | ⟨w', d', v, h1, h2, r1, r2⟩
    · rw [h1]; rw [h2] at hQ; exact hQ x _ _ (I.tok _) rx rd
    · rw [h1]; rw [h2] at hQ; exact hQ v _ _ (I.tok _) r1 r2
  · obtain ⟨b, rfl, rfl, hb⟩ := key_tup I f1 r ry
    obtain ⟨xs, dd, p⟩ := dk_tups I h f2
    refine call_meetsIn PySem.F.slot_dict_get dd.typeIs PySem.F.entry_dict_get (PySem.F.args_dict_get_3 _ _ _) (meetsH_dict_get_default (nestedKind X.prog X.w) a b h.ob.sm xu) ⟨nk_room hu, nkD k, xs, hb, dd, ?_⟩
    rcases pt_val p f1 with ⟨h1, h2⟩ | ⟨q, d', v, h1, h2, r1, r2⟩
    · rw [h1]; rw [h2] at hQ; exact hQ x _ _ (I.tok _) rx rd
    · rw [h1]; rw [h2] at hQ; exact hQ v _ _ (I.tok _) r1 r2
/-- behind a store -/
theorem dk_write {h' : Heap} {tk : Nat} {o' : Obj} (I : Inv X pins σ H s) (h : DkO H a o es) (hs : Heap.SameBut a s.heap h') (he : h'.get? a = some o') : Inv X pins σ (upd H a (.ext (Pin a o'))) { s with heap := h', toks := tk } :=
  I.write (x := a) (e := a) (by rw [h.at_]; trivial) (.inl rfl) (fun b q hb z => (hs.2 b hb).trans z) ⟨o', he⟩ ⟨he, ⟨o', he⟩, fun h1 h2 p k => k _ p⟩
theorem dk_setItemN {v : V} {vu : Value} {d : D} {Q : Unit → Shared → Prop} (hu : A.units + 65 < cLine) (I : Inv X pins σ H s) (h : DkR X.K N H a o es kvs) (f : keyFit kvs k) (r : RepV X.K N H y k) (ry : RelV y u) (rv : RelV v vu) (rd : RepV X.K N H v d) (hl : kvs.length < sizeLine)
    (hQ : ∀ o' es' s', Inv X pins σ (upd H a (.ext (Pin a o'))) s' → DkO (upd H a (.ext (Pin a o'))) a o' es' → RepKV X.K N H es' (dPut kvs k d) → Q () s') :
    wpAny (model X.prog X.w) A (setItem (.ref a) u vu) Q E s := by
  have hlen := dPut_len (kvs := kvs) (k := k) (v := d)
  rcases f with ⟨f1, f2⟩ | ⟨f1, f2⟩
  · obtain ⟨i, rfl⟩ := isInt_ok f1
    obtain ⟨xs, dd, p⟩ := dk_ints I h f2
    have hx : xs.length = kvs.length := Paired.length p
    refine wpAny_setItem_pairs (hsz := by omega) (int_rel r ry) dd fun h' dd' hs => ?_
    obtain ⟨o', es', ep', g1, g2, g3, g4, g5, g6⟩ := dd'
    have kv : RepKV X.K N H es'.toList (dPut kvs (.int i) d) := ints_in g5 (fun e he => g4 e (by simpa using he)) (pi_put p rv rd)
    exact hQ o' es'.toList _ (dk_write I h.ob hs g1) ⟨by unfold L2.upd; rw [if_pos rfl], g2, ⟨ep', by rw [g3]⟩, h.ob.sm, by rw [kv.length]; omega⟩ kv
  · obtain ⟨b, rfl, rfl, hb⟩ := key_tup I f1 r ry
    obtain ⟨xs, dd, p⟩ := dk_tups I h f2
    have hx : xs.length = kvs.length := Paired.length p
    refine wpAny_setItem_heap (hsz := by omega) (nk_room hu) hb dd fun h' dd' hs => ?_
    obtain ⟨o', es', ep', g1, g2, g3, g4, g5, g6⟩ := dd'
    have kv : RepKV X.K N H es'.toList (dPut kvs k d) := by rw [g4]; exact tups_in (pt_put p f1 r rv rd)
    exact hQ o' es'.toList _ (dk_write I h.ob hs g1) ⟨by unfold L2.upd; rw [if_pos rfl], g2, ⟨ep', by rw [g3]⟩, h.ob.sm, by rw [kv.length]; omega⟩ kv
/-- len(d) -/
theorem dk_len {Q : Value → Shared → Prop} (I : Inv X pins σ H s) (h : DkR X.K N H a o es kvs) (hQ : ∀ t s', Inv X pins σ H s' → Q (.int kvs.length t) s') : wpAny (model X.prog X.w) A (call (.builtin "len") [.ref a]) Q E s := by
  have hle : kvs.length ≤ sizeLine := by rw [← h.kv.length]; exact h.ob.le
  rcases h.ks.kd with f2 | f2
  · obtain ⟨xs, dd, p⟩ := dk_ints I h f2
    have hx : xs.length = kvs.length := Paired.length p
    refine call_len_dict h.ob.sm dd (by rw [hx]; rw [sizeLine_eq] at hle; omega) ?_
    rw [hx]
    exact hQ _ _ (I.tok _)
  · obtain ⟨xs, dd, p⟩ := dk_tups I h f2
    have hx : xs.length = kvs.length := Paired.length p
    refine PySem.call_len_dictH h.ob.sm dd (by rw [hx]; rw [sizeLine_eq] at hle; omega) ?_
    rw [hx]
    exact hQ _ _ (I.tok _)
end
end DD
set_option maxRecDepth 100000
set_option maxHeartbeats 2000000
/-! DicB: the rules for dicts over plain data. -/
namespace DD
open PySem PySem.Spec PyProof.Rows L2
section
variable {p : Par} {X : Cx} {pos : Pos} {e a b c : Expr} {st : Stmt} {sts : List Stmt}
theorem keyFit_v {O : Own} {H : Hp} {v : V} {k : D} {kvs : List (D × D)} (f : keyFit kvs k) (r : RepB p O H v k) : RepV p.K (NN p O) H v k := by
  rcases r with r | ⟨l, rfl, _, r⟩
  · exact r
  · rcases f with ⟨f, _⟩ | ⟨f, _⟩
    · obtain ⟨i, rfl⟩ := isInt_ok f; exact r.elim
    · obtain ⟨_, _, ds, rfl⟩ := isTup_ok f; exact r.elim
/-- what is read of a dict at a: its entries -/
def DkV (K : PySem.W.Frag) (H : Hp) (x : V) (kvs : List (D × D)) (N : Addr → Prop) : Prop := ∃ a o es, x = .ref a ∧ DkR K N H a o es kvs
theorem RepB.dk {O : Own} {H : Hp} {v : V} {kvs : List (D × D)} (r : RepB p O H v (.dict kvs)) : DkV p.K H v kvs (NN p O) := by
  obtain ⟨a, o, es, e, _, h1, h2, h3⟩ := r.dict
  exact ⟨a, o, es, e, h1, h2, h3⟩
/-! ### in -/
def rInDk (K : PySem.W.Frag) (neg : Bool) : R2 := fun y x H Q => ∃ kvs k N, DkV K H x kvs N ∧ keyFit kvs k ∧ RepV K N H y k ∧ Q (.bl (if neg then !(dGet kvs k).isSome else (dGet kvs k).isSome)) H
theorem op_inDk (hu : X.A.units + 65 < cLine) : OpR X (compareOp .In) (rInDk X.K false) := by
  intro pins s σ H y x u v Q I ry rx ⟨kvs, k, N, ⟨a, o, es, e, h⟩, f, r, q⟩
  subst e
  cases (show v = Value.ref a from rx)
  exact dk_in hu I h f r ry fun s' I' => ⟨.bl _, H, I', rfl, q⟩
theorem op_notInDk (hu : X.A.units + 65 < cLine) : OpR X (compareOp .NotIn) (rInDk X.K true) := by
  intro pins s σ H y x u v Q I ry rx ⟨kvs, k, N, ⟨a, o, es, e, h⟩, f, r, q⟩
  subst e
  cases (show v = Value.ref a from rx)
  exact dk_notIn hu I h f r ry fun s' I' => ⟨.bl _, H, I', rfl, q⟩
def gInB (neg : Bool) : G2
  | k, .dict kvs, Q => keyFit kvs k ∧ Q (if neg then !(dGet kvs k).isSome else (dGet kvs k).isSome)
  | k, d, Q => gIn neg k d Q
def rInB (K : PySem.W.Frag) : R2 := fun x y H Q => rInA K x y H Q ∨ rInDk K false x y H Q
def rNotInB (K : PySem.W.Frag) : R2 := fun x y H Q => rNotInA K x y H Q ∨ rInDk K true x y H Q
theorem op_inB (hu : X.A.units + 65 < cLine) : OpR X (compareOp .In) (rInB X.K) := (op_inA hu).or (op_inDk hu)
theorem op_notInB (hu : X.A.units + 65 < cLine) : OpR X (compareOp .NotIn) (rNotInB X.K) := (op_notInA hu).or (op_notInDk hu)
theorem mono_InB {neg : Bool} : ∀ a b, M0 (gInB neg a b) := fun a b Q Q' h q => by
  cases b with
  | dict kvs => exact ⟨q.1, h _ q.2⟩
  | none => exact mono_In (neg := neg) a .none Q Q' h q
  | bool x => exact mono_In (neg := neg) a (.bool x) Q Q' h q
  | int x => exact mono_In (neg := neg) a (.int x) Q Q' h q
  | str x => exact mono_In (neg := neg) a (.str x) Q Q' h q
  | list x => exact mono_In (neg := neg) a (.list x) Q Q' h q
  | tuple x => exact mono_In (neg := neg) a (.tuple x) Q Q' h q
theorem c_inB : Cmp2 p (gInB false) (rInB p.K) := by
  refine ⟨fun O H x y a b Qb Q ok rx ry hf hq => ?_, mono_InB⟩
  cases b with
  | dict kvs => exact .inr ⟨kvs, a, NN p O, ry.dk, hf.1, keyFit_v hf.1 rx, hq _ hf.2⟩
  | _ => exact .inl (c_in.ok O H x y _ _ Qb Q ok rx ry hf hq)
theorem c_notInB : Cmp2 p (gInB true) (rNotInB p.K) := by
  refine ⟨fun O H x y a b Qb Q ok rx ry hf hq => ?_, mono_InB⟩
  cases b with
  | dict kvs => exact .inr ⟨kvs, a, NN p O, ry.dk, hf.1, keyFit_v hf.1 rx, hq _ hf.2⟩
  | _ => exact .inl (c_notIn.ok O H x y _ _ Qb Q ok rx ry hf hq)
/-! ### d[k] -/
def rIxDk (K : PySem.W.Frag) : R2 := fun x y H Q => ∃ kvs k N d, DkV K H x kvs N ∧ keyFit kvs k ∧ RepV K N H y k ∧ dGet kvs k = some d ∧ ∀ v, RepV K N H v d → Q v H
theorem ix_dk (hu : X.A.units + 65 < cLine) : IxR X (rIxDk X.K) := by
  intro value slice pins s σ H x y v u Q I rx ry ⟨kvs, k, N, d, ⟨a, o, es, e, h⟩, f, r, hd, q⟩ hs
  subst e
  cases (show v = Value.ref a from rx)
  have hT : s.TypeIs (.ref a) "dict" := ⟨o, h.ob.get I, h.ob.ex.1⟩
  have h2 := dk_getItem (E := X.xe) (Q := EP X pins σ Q) hu I h f r ry hd fun v w' s' I' rv rd => ⟨v, H, I', rv, q v rd⟩
  unfold subscriptTail
  refine wpAny_bind ?_
  rw [getitemInPython_of_ne hT.not_modules]
  refine wpAny_bind (wpAny_specialOf hT PySem.F.slot_dict_getitem.lookup ?_)
  have fin : wpAny (model X.prog X.w) X.A (subscripted slice false (.ref a) u) (fun r s₃ => wpAny (model X.prog X.w) X.A (letTemporaryGo value (.ref a) r >>= fun _ => pure r) (EP X pins σ Q) X.xe s₃) X.xe s := by
    rw [hs]
    exact wpAny_operating (wpAny_mono h2 (fun r s₃ h₃ => wpAny_bind (wpAny_letTemporaryGo (wpAny_pure h₃))) fun _ _ x => x)
  first
    | exact wpAny_pure (wpAny_bind fin)
    | exact wpAny_bind (wpAny_pure (wpAny_bind fin))
    | exact wpAny_bind fin
def aIxB : F2
  | .dict kvs, k, Q => keyFit kvs k ∧ ∃ d, dGet kvs k = some d ∧ Q d
  | d, k, Q => aIx d k Q
def rIxB (K : PySem.W.Frag) : R2 := fun x y H Q => rIx K x y H Q ∨ rIxDk K x y H Q
theorem ix_B (hu : X.A.units + 65 < cLine) : IxR X (rIxB X.K) := ix_seq.or (ix_dk hu)
theorem o_ixB : Op2 p aIxB (rIxB p.K) := by
  refine ⟨fun O H x y a b Q ok rx ry hf => ?_, fun a b Q Q' h q => ?_⟩
  · cases a with
    | dict kvs =>
      obtain ⟨f, d, hd, q⟩ := hf
      exact .inr ⟨kvs, b, NN p O, d, rx.dk, f, keyFit_v f ry, hd, fun v r _ => RE.now q ok r⟩
    | _ => exact .inl (o_ix.ok O H x y _ _ Q ok rx ry hf)
  · cases a with
    | dict kvs => exact ⟨q.1, q.2.choose, q.2.choose_spec.1, h _ q.2.choose_spec.2⟩
    | none => exact (o_ix (p := p)).mono (.none) b Q Q' h q
    | bool x => exact (o_ix (p := p)).mono (.bool x) b Q Q' h q
    | int x => exact (o_ix (p := p)).mono (.int x) b Q Q' h q
    | str x => exact (o_ix (p := p)).mono (.str x) b Q Q' h q
    | list x => exact (o_ix (p := p)).mono (.list x) b Q Q' h q
    | tuple x => exact (o_ix (p := p)).mono (.tuple x) b Q Q' h q
/-! ### len -/
def aLenB : F1
  | .dict kvs, Q => Q (.int kvs.length)
  | d, Q => aLen d Q
def rLenDk (K : PySem.W.Frag) : List V → Hp → VK → Prop := fun xs H Q => ∃ x kvs N, xs = [x] ∧ DkV K H x kvs N ∧ Q (.int kvs.length) H
theorem call_lenDk : CallR X (.builtin "len") (rLenDk X.K) := by
  intro pins s σ H xs us Q I r ⟨x, kvs, N, e, ⟨a, o, es, e2, h⟩, q⟩
  subst e
  obtain ⟨u, rfl, rx⟩ := vals1 r
  subst e2
  cases (show u = Value.ref a from rx)
  exact dk_len I h fun t s' I' => ⟨.int kvs.length, H, I', ⟨t, rfl⟩, q⟩
def rLenB (K : PySem.W.Frag) : List V → Hp → VK → Prop := fun xs H Q => (∃ x n, xs = [x] ∧ LenV K x H n ∧ Q (.int n) H) ∨ rLenDk K xs H Q
theorem call_lenB : CallR X (.builtin "len") (rLenB X.K) := call_len.or call_lenDk
theorem n_lenB : OpN p (f1 aLenB) (rLenB p.K) := by
  refine op1 (fun d Q Q' h q => ?_) fun O H x a Q ok r hf => ?_
  · cases d with
    | dict kvs => exact h _ q
    | list xs => exact h _ q
    | tuple xs => exact h _ q
    | str x => exact ⟨q.1, h _ q.2⟩
    | _ => exact q.elim
  · cases a with
    | dict kvs => exact .inr ⟨x, kvs, NN p O, rfl, r.dk, fun _ => RE.now hf ok rep_int⟩
    | _ => exact .inl (n_len.ok O H [x] [_] Q ok (.cons r .nil) hf)
/-! ### d.get(k, x) -/
def wGet2 (wd wk wx : WE) : WE := fun ρ Q EX => wd ρ (fun d => ∃ kvs, d = .dict kvs ∧ wk ρ (fun k => wx ρ (fun x => keyFit kvs k ∧ Q ((dGet kvs k).getD x)) EX) EX) EX
theorem de_get2 {wd wk wx : WE} {apos : Pos} (hu : X.A.units + 65 < cLine) (hd : DB p X a wd) (hk : DE p X b wk) (hx : DE p X c wx) (m : M2 X a "get" apos b c pos := by exact ⟨by rfl, by rfl, by rfl, by rfl⟩) : DE p X (.Call (.Attribute a "get" apos) [b, c] [] pos) (wGet2 wd wk wx) := by
  refine ⟨⟨fun pins s σ H Q I ⟨ρ, O, EX, R, ex, hw⟩ => ?_⟩, fun ρ Q Q' EX h q => hd.mono _ _ _ _ (fun d ⟨kvs, e, q⟩ => ⟨kvs, e, hk.mono _ _ _ _ (fun k q => hx.mono _ _ _ _ (fun x q => ⟨q.1, h _ q.2⟩) q) q⟩) q⟩
  refine wpAny_Call_method m.base m.few m.line PySem.F.plainAttrs_dict PySem.F.slot_dict_get PySem.F.type_dict_get (thn (hd.pe.run pins s σ H (fun x H1 => ∃ kvs, Ext (p.at X.K) H H1 ∧ Hk X.K H1 ∧ RepB (p.at X.K) O H1 x (.dict kvs) ∧ wk ρ (fun k => wx ρ (fun x => keyFit kvs k ∧ RE (p.at X.K) O H Q ((dGet kvs k).getD x)) EX) EX) I
    ⟨ρ, O, EX, R, ex, hd.mono _ _ _ _ (fun d ⟨kvs, e, q⟩ v H1 hk1 e1 r1 => ⟨kvs, e1, hk1, by rw [← e]; exact r1, q⟩) hw⟩) fun u s1 ⟨x, H1, I1, rx, kvs, e1, hk1, r1, q1⟩ => ?_)
  obtain ⟨l, o, es, rfl, h1⟩ := r1.dk
  obtain rfl : u = Value.ref l := rx
  refine ⟨⟨o, h1.ob.get I1, h1.ob.ex.1⟩, fun b q => by cases q; exact ⟨o, h1.ob.get I1, h1.ob.ex.2.1⟩, ?_⟩
  rw [m.trees]
  have R1 := R.ext' e1
  refine Calls.callWith_builtin rfl (Calls.evalArgs_plain (Calls.spliced_cons (thn (hk.pe.run pins s1 σ H1 (fun y H2 => ∃ k, Ext (p.at X.K) H1 H2 ∧ RepV X.K (NN (p.at X.K) O) H2 y k ∧ wx ρ (fun x => keyFit kvs k ∧ RE (p.at X.K) O H Q ((dGet kvs k).getD x)) EX) I1
    ⟨ρ, O, EX, R1, ex, hk.mono _ _ _ _ (fun k q y H2 hk2 e2 r2 => ⟨k, e2, r2, q⟩) q1⟩) fun iv s2 ⟨y, H2, I2, ry, k, e2, r2, q2⟩ =>
    Calls.spliced_cons (thn (hx.pe.run pins s2 σ H2 (fun z H3 => ∃ x, Ext (p.at X.K) H2 H3 ∧ RepV X.K (NN (p.at X.K) O) H3 z x ∧ keyFit kvs k ∧ RE (p.at X.K) O H Q ((dGet kvs k).getD x)) I2
      ⟨ρ, O, EX, R1.ext' e2, ex, hx.mono _ _ _ _ (fun x q z H3 hk3 e3 r3 => ⟨x, e3, r3, q.1, q.2⟩) q2⟩) fun fv s3 ⟨z, H3, I3, rz, x, e3, r3, f, q3⟩ => Calls.spliced_nil ?_))))
  have r1' : RepB (p.at X.K) O H3 (.ref l) (.dict kvs) := (r1.ext e1.wd e2).ext e2.wd e3
  obtain ⟨l', o', es', el, h3⟩ := r1'.dk
  cases el
  exact dk_get2 hu I3 h3 f (RepV.ext e3 e2.wd r2) ry rz r3 fun v w' s' I' rv rd => ⟨v, H3, I', rv, q3 v H3 (hk_of I') ((e1.trans e2).trans e3) rd⟩
/-! ### d[k] = x, d one's own -/
def ownD (ρ : Env') (i : Nat) (k : List (D × D) → Prop) : Prop := match ρ[i]? with
  | some (some (.own (.dict kvs))) => k kvs
  | _ => False
theorem ownD_iff {ρ : Env'} {i : Nat} {k : List (D × D) → Prop} (h : ownD ρ i k) : ∃ xs, ρ[i]? = some (some (.own (.dict xs))) ∧ k xs := by
  unfold ownD at h
  split at h
  · rename_i xs e; exact ⟨xs, e, h⟩
  · exact h.elim
theorem ownD_of {ρ : Env'} {i : Nat} {k : List (D × D) → Prop} {xs : List (D × D)} (e : ρ[i]? = some (some (.own (.dict xs)))) (h : k xs) : ownD ρ i k := by
  unfold ownD
  rw [e]
  exact h
theorem ownD_mono {ρ : Env'} {i : Nat} {k k' : List (D × D) → Prop} (h : ∀ xs, k xs → k' xs) (q : ownD ρ i k) : ownD ρ i k' := by
  obtain ⟨xs, e, q⟩ := ownD_iff q
  exact ownD_of e (h xs q)
def wPutD (i : Nat) (wk w : WE) : WS := fun D ρ => ownD ρ i fun kvs => w ρ (fun d => wk ρ (fun k => keyFit kvs k ∧ kvs.length < sizeLine ∧ D.nx (ρ.set i (some (.own (.dict (dPut kvs k d)))))) D.ex) D.ex
theorem own_dict {O : Own} {ρ : Env'} {σ : L2.St} {H : Hp} {i : Nat} {kvs : List (D × D)} (R : Rel p O ρ σ H) (h : ρ[i]? = some (some (.own (.dict kvs)))) : ∃ a o es, O i = some a ∧ σ[i]? = some (some (.ref a)) ∧ DkR p.K (NN p O) H a o es kvs := by
  obtain ⟨a, ha, e1, o, es, h1, h2, h3⟩ := R.slot i _ h
  exact ⟨a, o, es, ha, e1, h1, h2, h3⟩
theorem dict_write {O : Own} {ρ : Env'} {σ : L2.St} {H : Hp} {i : Nat} {a : Addr} {o' : Obj} {es' : List DictEntry} {kvs kvs' : List (D × D)} (R : Rel p O ρ σ H) (h : ρ[i]? = some (some (.own (.dict kvs)))) (ha : O i = some a) (d : DkO (upd H a (.ext (Pin a o'))) a o' es') (r : RepKV p.K (NN p O) H es' kvs') (ks : KeysD kvs') :
    Rel p O (ρ.set i (some (.own (.dict kvs')))) σ (upd H a (.ext (Pin a o'))) := by
  have sf := (R.own i a ha).2.2.2.2
  refine R.write h ha ⟨a, o', _, d.dat.choose, rfl, d.dat.choose_spec⟩ ⟨o', es', d, RepKV.keep ⟨fun _ n _ => n, fun b ob n e _ => ?_, fun b xs e => ?_, fun b ob xs e => ?_⟩ kvs' es' r, ks⟩
  · rw [upd_ne (fun z => n.2.2 i (by rw [z]; exact ha))]; exact e
  · rw [upd_ne (fun z => by rw [← z, e] at sf; exact sf)]; exact e
  · rw [upd_ne (fun z => by rw [← z, e] at sf; exact sf)]; exact e
theorem RepKV.unkeep {K : PySem.W.Frag} {N : Addr → Prop} {H H' : Hp} {es : List DictEntry} {kvs : List (D × D)} (h : RepKV K N H' es kvs) : True := trivial
theorem ds_putD (i : Nat) {x : Str} {w wk : WE} {p1 p2 : Pos} (hu : X.A.units + 65 < cLine) (h : DE p X e w) (hk' : DE p X a wk) (hN : X.N[i]? = some x := by rfl) (hv : Vis X.env.scope x := by first | exact .inl rfl | exact .inr (.inl rfl) | exact .inr (.inr rfl)) (hd : (x == ("__debug__" : Str)) = false := by decide) (hcd : (x == ("__classdict__" : Str)) = false := by decide)
    (hs : swapsWith e (some (.Subscript (.Name x p1) a p2)) pos.line X.env = pure false := by rfl) : DS p X (.Assign [.Subscript (.Name x p1) a p2] e pos) (wPutD i wk w) := by
  refine ⟨⟨fun pins s σ H D I ⟨ρ, O, EX, R, ex, hw⟩ => ?_⟩, fun D D' ρ hd q => ?_⟩
  · obtain ⟨kvs, hx, hw⟩ := ownD_iff (show ownD ρ i _ from hw)
    let Dw := endsW (p.at X.K) D O.ks EX
    refine wpAny_Assign_Subscript (thn (h.pe.run pins s σ H (fun v H1 => ∃ d, Ext (p.at X.K) H H1 ∧ RepV X.K (NN (p.at X.K) O) H1 v d ∧ wk ρ (fun k => keyFit kvs k ∧ kvs.length < sizeLine ∧ Dw.nx (ρ.set i (some (.own (.dict (dPut kvs k d)))))) EX) I
      ⟨ρ, O, EX, R, ex, h.mono _ _ _ _ (fun d q v H1 hk1 e1 r1 => ⟨d, e1, r1, q⟩) hw⟩) fun r s1 ⟨v, H1, I1, rv, d, e1, r1, q1⟩ => ?_) hs
    have R1 := R.ext' e1
    obtain ⟨l, o, es, hO, hσ, hR⟩ := own_dict R1 hx
    refine thn ((pe_var (i := i) hN hv hd hcd).run pins s1 σ H1 (fun y H2 => y = .ref l ∧ H2 = H1) I1 ⟨_, hσ, rfl, rfl⟩) fun u s2 ⟨y, H2, I2, ry, ey, eH⟩ => ?_
    subst ey eH
    cases (show u = Value.ref l from ry)
    refine thn (hk'.pe.run pins s2 σ H2 (fun y H3 => ∃ k, Ext (p.at X.K) H2 H3 ∧ RepV X.K (NN (p.at X.K) O) H3 y k ∧ keyFit kvs k ∧ kvs.length < sizeLine ∧ Dw.nx (ρ.set i (some (.own (.dict (dPut kvs k d)))))) I2
      ⟨ρ, O, EX, R1, ex, hk'.mono _ _ _ _ (fun k q y H3 hk3 e3 r3 => ⟨k, e3, r3, q.1, q.2.1, q.2.2⟩) q1⟩) fun iv s3 ⟨y, H3, I3, ry, k, e3, r3, f, hl, q3⟩ => ?_
    have R3 := R1.ext' e3
    obtain ⟨l', o3, es3, hO3, _, hR3⟩ := own_dict R3 hx
    rw [hO] at hO3
    cases hO3
    refine dk_setItemN hu I3 hR3 f r3 ry rv (RepV.ext e3 e1.wd r1) hl fun o' es' s' I' dk' kv' => ⟨σ, _, I', ?_⟩
    exact q3 O σ _ rfl (hk_of I') (dict_write R3 hx hO dk' kv' (dPut_ok hR3.ks f))
  · unfold wPutD at q ⊢
    rw [← hd.ex]
    exact ownD_mono (fun xs q => h.mono _ _ _ _ (fun d q => hk'.mono _ _ _ _ (fun k q => ⟨q.1, q.2.1, hd.nx _ q.2.2⟩) q) q) q
end
end DD
set_option maxRecDepth 100000
set_option maxHeartbeats 2000000
/-! DicC: dicts walked; displays. -/
namespace DD
open PySem PySem.Spec PyProof.Rows L2
theorem pin_inj {a : Addr} {o o' : Obj} {es : Array DictEntry} {ep : Nat} (hd : o.data = .dict es ep) (e : Pin a o = Pin a o') : o = o' := by
  let h0 : Heap := { objs := Array.replicate (a + 1) o }
  have g : h0.get? a = some o := by
    have e0 : h0.objs[a]? = if a < a + 1 then some o else none := Array.getElem?_replicate
    rw [if_pos (Nat.lt_succ_self a)] at e0
    unfold Heap.get?
    rw [e0]
    obtain ⟨oc, od, dt, sl⟩ := o
    simp only at hd
    rw [hd]
  have p : Pin a o h0 := g
  rw [e] at p
  have p : h0.get? a = some o' := p
  rw [g] at p
  exact Option.some.inj p
theorem DkO.inj {H : Hp} {a : Addr} {o o' : Obj} {es es' : List DictEntry} (h : DkO H a o es) (h' : DkO H a o' es') : o = o' ∧ es = es' := by
  have e : (HO.ext (Pin a o)) = .ext (Pin a o') := by
    have := h.at_.symm.trans h'.at_
    exact Option.some.inj this
  obtain ⟨ep, hd⟩ := h.dat
  have e1 := pin_inj hd (HO.ext.inj e)
  subst e1
  obtain ⟨ep', hd'⟩ := h'.dat
  rw [hd] at hd'
  have := (Data.dict.inj hd').1
  exact ⟨rfl, by simpa using this⟩
/-! ### for k in d -/
def Jk (d : Addr) (o : Obj) (es : List DictEntry) : It :=
  ⟨fun i H => H d = some (.ext (Pin d o)) ∧ i < es.length, fun i H x H' => H' = H ∧ ∃ e, es[i]? = some e ∧ RelV x e.key, fun i H => H d = some (.ext (Pin d o)) ∧ es.length ≤ i⟩
def Ji (d : Addr) (o : Obj) (es : List DictEntry) : It :=
  ⟨fun i H => H d = some (.ext (Pin d o)) ∧ i < es.length, fun i H x H' => ∃ T e k v, es[i]? = some e ∧ RelV k e.key ∧ RelV v e.val ∧ x = .ref T ∧ H T = none ∧ H' = upd H T (.tup [k, v]), fun i H => H d = some (.ext (Pin d o)) ∧ es.length ≤ i⟩
/-- what the entries hold are values of the layer -/
def EntOk (es : List DictEntry) : Prop := ∀ e ∈ es, (∃ k, RelV k e.key) ∧ ∃ v, RelV v e.val
theorem RepKV.ent {K : PySem.W.Frag} {N : Addr → Prop} {H : Hp} : ∀ {es : List DictEntry} {kvs : List (D × D)}, RepKV K N H es kvs → EntOk es
  | [], [], _ => fun e he => by simp at he
  | e :: es, (k, d) :: kvs, h => fun e' he => by
    rw [RepKV] at h
    rcases List.mem_cons.mp he with rfl | he
    · obtain ⟨⟨v, h1, _⟩, _, ⟨u, h2, _⟩⟩ := h.1
      exact ⟨⟨v, h1⟩, ⟨u, h2⟩⟩
    · exact RepKV.ent h.2 e' he
  | [], _ :: _, h => by simp [RepKV] at h
  | _ :: _, [], h => by simp [RepKV] at h
section
variable {P : Program} {w : World} {K : PySem.W.Frag} {tg : Expr} {d : Addr} {o : Obj} {es : List DictEntry} {ep : Nat}
theorem turn_jk (it : Addr) (hod : o.data = .dict es.toArray ep) (ok : EntOk es) : Turn P w K tg (Jk d o es) [it] it (fun i h => h.IsKeyIter it d i es.length ep) where
  mem := by simp
  obj := fun i h st b hb => by
    have e : b = it := by simpa using hb
    subst e
    obtain ⟨oi, e, c, dd⟩ := st
    exact ⟨oi, e, fun v z => by rw [dd] at z; cases z⟩
  keep := fun i h h' st k => st.at fun oi e => k it (by simp) oi e
  item := by
    intro X hP hw hK hc i pins s σ H E I hf st hg
    subst hP hw hK
    obtain ⟨hd, hi⟩ := hg
    obtain ⟨f0, f1, f2, f3, f4, f5⟩ := hf it (by simp)
    have hgd : s.heap.get? d = some o := (I.hok d _ hd).1
    have hen : es.toArray[i]? = some es[i] := by simp [hi]
    refine next_key_item st hgd hod (by simp) hen fun h' st' sb => ?_
    have I1 : Inv X pins σ H { s with heap := h' } := I.turned (t' := s.toks) (fun b ob hb e => (sb.2 b hb).trans e) f0 f1 f3 f4 f5
    obtain ⟨oi, e, c, dd⟩ := id st'
    obtain ⟨⟨k, hk⟩, _⟩ := ok es[i] (List.getElem_mem _)
    exact ⟨es[i].key, rfl, go_of (s := { s with heap := h' }) e c dd (by decide) ⟨k, H, I1, hk, ⟨rfl, es[i], List.getElem?_eq_getElem hi, hk⟩, st', fun b hb => (hf b hb).1⟩⟩
  done := by
    intro X hP hw hK hc i pins s σ H E I hf st hg
    subst hP hw hK
    obtain ⟨hd, hi⟩ := hg
    obtain ⟨f0, f1, f2, f3, f4, f5⟩ := hf it (by simp)
    have hgd : s.heap.get? d = some o := (I.hok d _ hd).1
    exact next_key_end (I.ok.hd hc) st hgd hod (by simp) hi fun h' eb => ⟨rfl, I.turned (t' := s.toks) (fun b ob hb e => eb b ob hb e) f0 f1 f3 f4 f5⟩
  self := fun A i s Q E st h => by
    refine wpAny_pyIter_slot st.typeIs PySem.F.slot_dict_keyiterator_iter (wpAny_call_entry PySem.F.slot_dict_keyiterator_iter st.typeIs PySem.F.entry_dict_keyiterator_iter ?_ (PySem.F.args_dict_keyiterator_iter_1 _))
    show wpAny _ _ (ret (.ref it)) _ _ s
    exact wpAny_pure ⟨_, rfl, "dict_keyiterator", _, st.typeIs, PySem.F.slot_dict_keyiterator_next.lookup, h⟩
theorem turn_ji {elts : List Expr} {kk : Nat} {tpos : Pos} (it : Addr) (hod : o.data = .dict es.toArray ep) (hx : o.ExactDict) (ok : EntOk es) : Turn P w K (.Tuple elts kk tpos) (Ji d o es) [it] it (fun i h => ∃ ok ov, IsItemIter h it d i es.length ep ok ov) where
  mem := by simp
  obj := fun i h st b hb => by
    have e : b = it := by simpa using hb
    subst e
    obtain ⟨ok, ov, e⟩ := st
    exact ⟨_, e, fun v z => nomatch z⟩
  keep := fun i h h' st k => let ⟨ok, ov, e⟩ := st; ⟨ok, ov, k it (by simp) _ e⟩
  item := by
    intro X hP hw hK hc i pins s σ H E I hf st hg
    subst hP hw hK
    obtain ⟨hd, hi⟩ := hg
    have hgd : s.heap.get? d = some o := (I.hok d _ hd).1
    obtain ⟨ok0, ov0, he⟩ := st
    have hlt : it < s.heap.objs.size := Heap.lt_size he
    have hsz : es.toArray.size = es.length := by simp
    obtain ⟨⟨k, hk⟩, ⟨v, hv⟩⟩ := ok es[i] (List.getElem_mem _)
    have hea : es.toArray[i]'(by rw [hsz]; exact hi) = es[i] := by simp
    refine DT.nextI (es := es.toArray) (by rw [hsz]; exact he) ⟨o, hgd, hx, hod⟩ (by rw [hsz]; exact hi) fun h' ho hT hz hk' => ?_
    rw [hea] at ho hT
    refine ⟨_, rfl, wpAny_letOwnedTupleGo_items (s := { s with heap := h' }) ho fun h'' he' sb => ?_⟩
    have hT2 : h''.get? s.heap.objs.size = some { cls := .type "tuple", data := .seq #[es[i].key, es[i].val] } := (sb.2 _ (Nat.ne_of_gt hlt)).trans hT
    have new : ObjOk X.prog X.w (upd H s.heap.objs.size (.tup [k, v])) h'' s.heap.objs.size (.tup [k, v]) :=
      ⟨by show 2 ≤ sizeLine; decide, [es[i].key, es[i].val], .cons hk (.cons hv .nil), ⟨_, hT2, rfl, _, rfl⟩⟩
    have I1 : Inv X pins σ (upd H s.heap.objs.size (.tup [k, v])) { s with heap := h'' } :=
      I.turnedNew (t' := s.toks) (ch := [it]) (fun b ob hb e => (sb.2 b (by simpa using hb)).trans (hk' b ob (by simpa using hb) e)) hf (Nat.le_refl _) new
    refine ⟨.ref s.heap.objs.size, _, I1, rfl, ⟨_, es[i], k, v, List.getElem?_eq_getElem hi, hk, hv, rfl, I.hok.fresh (Nat.le_refl _), rfl⟩, ⟨_, _, by rw [← hsz]; exact he'⟩, fun b hb => ?_⟩
    have e : b = it := by simpa using hb
    rw [e, upd_ne (Nat.ne_of_lt hlt)]
    exact (hf it (by simp)).1
  done := by
    intro X hP hw hK hc i pins s σ H E I hf st hg
    subst hP hw hK
    obtain ⟨hd, hi⟩ := hg
    obtain ⟨f0, f1, f2, f3, f4, f5⟩ := hf it (by simp)
    have hgd : s.heap.get? d = some o := (I.hok d _ hd).1
    obtain ⟨ok0, ov0, he⟩ := st
    have hsz : es.toArray.size = es.length := by simp
    exact DT.endI (es := es.toArray) (I.ok.hd hc) (by rw [hsz]; exact he) ⟨o, hgd, hx, hod⟩ (by rw [hsz]; exact hi) fun h' eb => ⟨rfl, I.turned (t' := s.toks) (fun b ob hb e => eb b ob hb e) f0 f1 f3 f4 f5⟩
  self := fun A i s Q E st h => let ⟨_, _, e⟩ := st; PySem.W.kcp_self e h
end
theorem jk_ok {p : Par} {a : Addr} {o : Obj} {es : List DictEntry} {kvs : List (D × D)} (hd : ∃ ep, o.data = .dict es.toArray ep) : ItOk p (kvs.map (·.1)) (Jk a o es) [.f a (.ext (Pin a o)), .d (.ref a) (.dict kvs)] := fun O H i ok hk => by
  have h1 : H a = some (.ext (Pin a o)) := (hk (.f a (.ext (Pin a o))) (by simp)).2.1
  obtain ⟨a', o', es', e, _, d1, r, ks⟩ := (show RepB p O H (.ref a) (.dict kvs) from hk (.d (.ref a) (.dict kvs)) (by simp)).dict
  cases e
  obtain ⟨ep, hd⟩ := hd
  have e2 : (HO.ext (Pin a o)) = .ext (Pin a o') := Option.some.inj (h1.symm.trans d1.at_)
  have e1 := pin_inj hd (HO.ext.inj e2)
  subst e1
  obtain ⟨ep', hd'⟩ := d1.dat
  rw [hd] at hd'
  have e3 : es = es' := by simpa using (Data.dict.inj hd').1
  subst e3
  have hl := r.length
  refine ⟨fun hi => ⟨h1, by rw [List.length_map] at hi; omega⟩, fun d hd => ?_⟩
  rw [List.getElem?_map] at hd
  obtain ⟨⟨k, v⟩, hkv, rfl⟩ := Option.map_eq_some_iff.mp hd
  obtain ⟨e, he, ⟨x, hx, rx⟩, _⟩ := r.get hkv
  refine ⟨⟨h1, (List.getElem?_eq_some_iff.mp he).1⟩, fun y H' ⟨e1, e', he', ry⟩ => ?_⟩
  rw [he] at he'
  cases he'
  subst e1
  rw [relV_inj ry hx]
  exact ⟨Ext.refl ok.wd, rx⟩
theorem ji_ok {p : Par} {a : Addr} {o : Obj} {es : List DictEntry} {kvs : List (D × D)} (hd : ∃ ep, o.data = .dict es.toArray ep) : ItOk p (kvs.map fun q => .tuple [q.1, q.2]) (Ji a o es) [.f a (.ext (Pin a o)), .d (.ref a) (.dict kvs)] := fun O H i ok hk => by
  have h1 : H a = some (.ext (Pin a o)) := (hk (.f a (.ext (Pin a o))) (by simp)).2.1
  obtain ⟨a', o', es', e, _, d1, r, ks⟩ := (show RepB p O H (.ref a) (.dict kvs) from hk (.d (.ref a) (.dict kvs)) (by simp)).dict
  cases e
  obtain ⟨ep, hd⟩ := hd
  have e2 : (HO.ext (Pin a o)) = .ext (Pin a o') := Option.some.inj (h1.symm.trans d1.at_)
  have e1 := pin_inj hd (HO.ext.inj e2)
  subst e1
  obtain ⟨ep', hd'⟩ := d1.dat
  rw [hd] at hd'
  have e3 : es = es' := by simpa using (Data.dict.inj hd').1
  subst e3
  have hl := r.length
  refine ⟨fun hi => ⟨h1, by rw [List.length_map] at hi; omega⟩, fun d hd => ?_⟩
  rw [List.getElem?_map] at hd
  obtain ⟨⟨k, v⟩, hkv, rfl⟩ := Option.map_eq_some_iff.mp hd
  obtain ⟨e, he, ⟨x, hx, rx⟩, ⟨u, hu, ru⟩⟩ := r.get hkv
  refine ⟨⟨h1, (List.getElem?_eq_some_iff.mp he).1⟩, fun y H' ⟨T, e', k', v', he', rk, rv, ey, hT, eH⟩ => ?_⟩
  rw [he] at he'
  cases he'
  subst ey eH
  rw [relV_inj rk hx, relV_inj rv hu]
  exact pair_new ok hT rx ru
section
variable {b0 : Bool} {p : Par} {X : Cx} {pos : Pos} {tg e a b c : Expr}
def seqDB : D → Option (List D)
  | .dict kvs => some (kvs.map (·.1))
  | d => seqD d
def iSeqB (K : PySem.W.Frag) (tl : TE) : TI := fun σ H R => tl σ H fun x H1 => ∃ a, x = .ref a ∧ (((∃ xs, SqL K H1 a xs) ∧ R (Itl K a) H1) ∨ ((∃ xs, SqT K H1 a xs) ∧ R (Itt K a) H1) ∨ ∃ o es, DkO H1 a o es ∧ EntOk es ∧ R (Jk a o es) H1)
theorem pi_seqB {l : Expr} {tl : TE} (hl : PE X l tl) : PI X tg l (iSeqB X.K tl) := by
  refine ⟨fun pins s σ H R I h => ?_⟩
  refine thn (hl.run pins s σ H _ I h) fun v s1 ⟨x, H1, I1, r1, q1⟩ => ?_
  obtain ⟨a, e, q⟩ := q1
  subst e
  cases r1
  rcases q with ⟨⟨xs, hq⟩, q⟩ | ⟨⟨xs, hq⟩, q⟩ | ⟨o, es, hq, ok, q⟩
  · obtain ⟨its, rv, p, hz⟩ := I1.list hq
    refine wpAny_pyIter_list p.isList ?_
    refine ⟨s1.heap.objs.size, [s1.heap.objs.size], _, _, H1, rfl, I1.kept (t' := s1.toks) fun b o e => Heap.get?_push_of_some _ e, turn_list a _, ⟨_, Heap.get?_push_size _ rfl, rfl, rfl⟩, fun b hb => ?_, q⟩
    have e : b = s1.heap.objs.size := by simpa using hb
    subst e
    exact I1.fpOk (Nat.le_refl _) (I1.hok.fresh (Nat.le_refl _))
  · obtain ⟨its, rv, p, hz⟩ := I1.tuple hq
    refine wpAny_pyIter_tuple (show s1.heap.IsTuple a its.toArray from p) ?_
    refine ⟨s1.heap.objs.size, [s1.heap.objs.size], _, _, H1, rfl, I1.kept (t' := s1.toks) fun b o e => Heap.get?_push_of_some _ e, turn_tuple a _, ⟨_, Heap.get?_push_size _ rfl, rfl, rfl⟩, fun b hb => ?_, q⟩
    have e : b = s1.heap.objs.size := by simpa using hb
    subst e
    exact I1.fpOk (Nat.le_refl _) (I1.hok.fresh (Nat.le_refl _))
  · obtain ⟨ep, hd⟩ := hq.dat
    refine iter_keys hq.sm (hq.get I1) hq.ex hd (pi_one (tk := s1.toks) I1 _ (turn_jk _ hd ok) ⟨_, Heap.get?_push_size _ rfl, rfl, ?_⟩ q)
    simp <;> rfl
def wiSeqB (w : WE) : WI := fun ρ Q EX => w ρ (fun d => ∃ ds, seqDB d = some ds ∧ Q ds) EX
theorem held_dk {O : Own} {H : Hp} {v : V} {kvs : List (D × D)} (h : hold b0 p O H v (.dict kvs)) : ∃ a o es, v = .ref a ∧ DkR p.K (NN p O) H a o es kvs ∧ ∀ x ∈ [KI.f a (.ext (Pin a o)), KI.d (.ref a) (.dict kvs)], holdI b0 p O H x := by
  cases b0 with
  | true =>
    obtain ⟨a, o, es, rfl, na, h1, h2, h3⟩ := (show RepB p O H v (.dict kvs) from h).dict
    refine ⟨a, o, es, rfl, ⟨h1, h2, h3⟩, fun x hx => ?_⟩
    simp only [List.mem_cons, List.not_mem_nil, or_false] at hx
    rcases hx with rfl | rfl
    · exact ⟨na, h1.at_, fun ps z => by cases z⟩
    · exact h
  | false =>
    have h' : RepV p.K (NN p O) H v (.dict kvs) := h
    rw [RepV] at h'
    obtain ⟨a, o, es, rfl, na, h1, h2, h3⟩ := h'
    refine ⟨a, o, es, rfl, ⟨h1, h2, h3⟩, fun x hx => ?_⟩
    simp only [List.mem_cons, List.not_mem_nil, or_false] at hx
    rcases hx with rfl | rfl
    · exact ⟨na, h1.at_, fun ps z => by cases z⟩
    · exact h
theorem di_seqB {w : WE} (h : DH b0 p X e w) : DI b0 p X tg e (wiSeqB w) := by
  refine ⟨pi_use (pi_seqB (pe_hk h.pe)) fun σ H R hk ⟨ρ, O, EX, Rl, ex, hw⟩ => ⟨ρ, O, EX, Rl, ex, h.mono _ _ _ _ (fun d ⟨ds, z, q⟩ v H1 hk1 e1 r1 _ => ?_) hw⟩, fun ρ Q Q' EX hh q => h.mono _ _ _ _ (fun d ⟨ds, z, q⟩ => ⟨ds, z, hh _ q⟩) q⟩
  cases d with
  | none => cases z
  | bool _ => cases z
  | int _ => cases z
  | str _ => cases z
  | dict kvs =>
    cases z
    obtain ⟨a, o, es, rfl, hR, hh⟩ := held_dk r1
    exact ⟨a, rfl, .inr (.inr ⟨o, es, hR.ob, hR.kv.ent, q _ _ _ hk1 e1 hh (jk_ok hR.ob.dat)⟩)⟩
  | list _ =>
    cases z
    obtain ⟨a, vs, rfl, _, h1, r⟩ := (hold_b r1).list
    exact ⟨a, rfl, .inl ⟨⟨vs, .of h1⟩, q _ _ _ hk1 e1 (one_held r1) itl_ok⟩⟩
  | tuple _ =>
    cases z
    obtain ⟨a, vs, rfl, h1, r⟩ := (hold_b r1).tuple
    exact ⟨a, rfl, .inr (.inl ⟨⟨vs, h1⟩, q _ _ _ hk1 e1 (one_held r1) itt_ok⟩)⟩
/-- for k, v in d.items() -/
def iItemsB (tl : TE) : TI := fun σ H R => tl σ H fun x H1 => ∃ a o es, x = .ref a ∧ DkO H1 a o es ∧ EntOk es ∧ R (Ji a o es) H1
theorem pi_itemsB {elts : List Expr} {kk : Nat} {tpos apos cpos : Pos} {td : TE} (he : PE X e td) (hbase : attributeBase e "items" X.env (eval e X.env) = eval e X.env := by rfl) (hline : (apos.endLine == cpos.line) = true := by rfl) :
    PI X (.Tuple elts kk tpos) (.Call (.Attribute e "items" apos) [] [] cpos) (iItemsB td) := by
  refine ⟨fun pins s σ H R I h => ?_⟩
  refine wpAny_Call_method (T := "dict") (id := "dict.items") hbase rfl hline PySem.F.plainAttrs_dict PySem.F.slot_dict_items PySem.F.type_dict_items (thn (he.run pins s σ H _ I h) fun u s1 ⟨x, H1, I1, rx, d, o, es, ex, hq, ok, q⟩ => ?_)
  subst ex
  obtain rfl : u = Value.ref d := rx
  have hgd := hq.get I1
  obtain ⟨ep, hd⟩ := hq.dat
  have raw : DT.Raw s1.heap d es.toArray ep := ⟨o, hgd, hq.ex, hd⟩
  refine ⟨raw.typeIs, fun b q => by cases q; exact ⟨o, hgd, hq.ex.2.1⟩, ?_⟩
  have I2 : Inv X pins σ H1 { s1 with heap := s1.heap.push { cls := .type "dict_items", data := .fields #[.ref d] } } := I1.kept (t' := s1.toks) fun b ob q => Heap.get?_push_of_some _ q
  have fin : wpAny (model X.prog X.w) X.A (pyIter (.ref s1.heap.objs.size)) (PIE X pins σ (.Tuple elts kk tpos) R) X.xe { s1 with heap := s1.heap.push { cls := .type "dict_items", data := .fields #[.ref d] } } := by
    refine DT.iterI (d := d) (es := es.toArray) (ep := ep) ⟨_, Heap.get?_push_size _ rfl, rfl, rfl⟩ (raw.push _) (pi_one (tk := s1.toks) I2 _ (turn_ji _ hd hq.ex ok) ⟨.none, .none, ?_⟩ q)
    have hsz : es.toArray.size = es.length := by simp
    rw [hsz]
    exact Heap.get?_push_size _ rfl
  show wpAny _ _ (callWith cpos (.builtin "dict.items") [.ref d] [] []) _ X.xe s1
  exact method_meetsIn PySem.F.slot_dict_items PySem.F.entry_dict_items rfl (PySem.evalArgs_none ⟨rfl, raw.typeIs, PySem.F.args_dict_items_1 _, _, DT.meetsItems (es := es.toArray) (ep := ep) hq.sm, raw, fin⟩)
def wiItems (w : WE) : WI := fun ρ Q EX => w ρ (fun d => ∃ kvs, d = .dict kvs ∧ Q (kvs.map fun q => .tuple [q.1, q.2])) EX
theorem di_items {w : WE} {elts : List Expr} {kk : Nat} {tpos apos cpos : Pos} (h : DH b0 p X e w) (hbase : attributeBase e "items" X.env (eval e X.env) = eval e X.env := by rfl) (hline : (apos.endLine == cpos.line) = true := by rfl) :
    DI b0 p X (.Tuple elts kk tpos) (.Call (.Attribute e "items" apos) [] [] cpos) (wiItems w) := by
  refine ⟨pi_use (pi_itemsB (pe_hk h.pe) hbase hline) fun σ H R hk ⟨ρ, O, EX, Rl, ex, hw⟩ => ⟨ρ, O, EX, Rl, ex, h.mono _ _ _ _ (fun d ⟨kvs, z, q⟩ v H1 hk1 e1 r1 _ => ?_) hw⟩, fun ρ Q Q' EX hh q => h.mono _ _ _ _ (fun d ⟨ds, z, q⟩ => ⟨ds, z, hh _ q⟩) q⟩
  subst z
  obtain ⟨a, o, es, rfl, hR, hh⟩ := held_dk r1
  exact ⟨a, o, es, rfl, hR.ob, hR.kv.ent, q _ _ _ hk1 e1 hh (ji_ok hR.ob.dat)⟩
/-! ### displays -/
theorem keysD_nil : KeysD [] := ⟨List.nodup_nil, .inl fun p hp => by simp at hp⟩
def o0 : Obj := { cls := .type "dict", data := .dict #[] }
theorem lay_dict {pins : List (Addr × Obj)} {s : Shared} {σ : L2.St} {H : Hp} (I : Inv X pins σ H s) : Inv X pins σ (upd H s.heap.objs.size (.ext (Pin s.heap.objs.size o0))) { s with heap := s.heap.push o0 } :=
  I.laid (a := s.heap.objs.size) (o := .ext (Pin s.heap.objs.size o0)) (t' := s.toks) (fun _ _ q => Heap.get?_push_of_some _ q) (Nat.le_refl _) ⟨Heap.get?_push_size _ rfl, ⟨_, Heap.get?_push_size _ rfl⟩, fun h1 h2 p k => k _ p⟩
theorem dk0 {H : Hp} {a : Addr} (h : H a = some (.ext (Pin a o0))) (sm : (a == sysModules) = false) : DkO H a o0 [] := ⟨h, ⟨rfl, rfl, rfl⟩, ⟨0, rfl⟩, sm, Nat.zero_le _⟩
theorem sm_of {pins : List (Addr × Obj)} {s : Shared} {σ : L2.St} {H : Hp} (I : Inv X pins σ H s) : (s.heap.objs.size == sysModules) = false := beq_eq_false_iff_ne.mpr (Ne.symm (Nat.ne_of_lt I.big))
def wDict0 : WE := fun _ Q _ => Q (.dict [])
theorem df_d0 : DF p X (.Dict [] [] pos) wDict0 := by
  refine ⟨⟨fun pins s σ H Q I ⟨ρ, O, EX, R, ex, hw⟩ => ?_⟩, fun ρ Q Q' EX h q => h _ q⟩
  have I1 := lay_dict I
  have hn := I.hok.fresh (Nat.le_refl s.heap.objs.size)
  refine wpAny_Dict_empty ⟨.ref s.heap.objs.size, _, I1, rfl, ?_⟩
  exact hw s.heap.objs.size _ (hk_of I1) (Ext.new R.wd hn) hn ⟨o0, [], dk0 (by unfold L2.upd; rw [if_pos rfl]) (sm_of I), by rw [RepKV]; trivial, keysD_nil⟩
/-- {k: v}; T: the key is a tuple -/
def keyKd : Bool → D → Prop
  | true, k => isTupD k
  | false, k => isIntD k
def wDict1 (T : Bool) (wk wv : WE) : WE := fun ρ Q EX => wk ρ (fun k => wv ρ (fun v => keyKd T k ∧ Q (.dict [(k, v)])) EX) EX
theorem keysD_one {T : Bool} {k v : D} (h : keyKd T k) : KeysD [(k, v)] := ⟨by simp, by
  cases T with
  | true => exact .inr fun p hp => by rw [List.mem_singleton] at hp; rw [hp]; exact h
  | false => exact .inl fun p hp => by rw [List.mem_singleton] at hp; rw [hp]; exact h⟩
/-- a display, its keys in the heap: where they stand is told -/
theorem wpAny_Dict_walkH {prog : Program} {w : World} {K : Type} [DecidableEq K] {knd : HeapKind prog w K} {A : Around} {E : Value → Shared → Prop} {s : Shared} {env : Env} {keys : List (Option Expr)} {values : List Expr} {pos : Pos} {Q : Value → Shared → Prop} (hu : knd.room A)
    (hall : keys.all (·.isSome) = true) (hl : keys.length = values.length) (h0 : keys ≠ []) (hlen : keys.length ≤ 15)
    (h : wpAny (model prog w) A (evalPairs (pairTrees keys values env pos)) (fun vs s₁ => ∃ ps, CarriesH knd s₁.heap vs ps ∧ s₁.heap.DictOfH knd s.heap.objs.size [] ∧
      ∀ h' tk, h'.DictOfH knd s.heap.objs.size (storedAllH [] ps) → Heap.SameBut s.heap.objs.size s₁.heap h' → Q (.ref s.heap.objs.size) { s₁ with heap := h', toks := tk }) E
      { s with heap := s.heap.push { cls := .type "dict", data := .dict #[] } }) :
    wpAny (model prog w) A (eval (.Dict keys values pos) env) Q E s := by
  have hn := pairTrees_length keys values env pos hall hl
  rw [arm_eval_Dict, zip_pairTrees keys values env pos hall hl, dictDisplay_pairs (pairTrees keys values env pos) (fun he => by
    rw [he] at hn
    exact h0 (List.length_eq_zero_iff.mp hn.symm)) (by omega)]
  exact wpAny_bind (wpAny_standAt (wpAny_bind (wpAny_subDictH (knd := knd) (Q := fun d s' => wpAny (model prog w) A (pure (Value.ref d)) Q E s') hu (by omega)
    (wpAny_mono h (fun vs s₁ h₁ => by obtain ⟨ps, hc, hm, hq⟩ := h₁; exact ⟨ps, hc, hm, fun h' tk a b => wpAny_pure (hq h' tk a b)⟩) fun _ _ e => e))))
theorem df_d1 (T : Bool) {wk wv : WE} (hu : X.A.units + 65 < cLine) (hk : DE p X a wk) (hv : DE p X b wv) : DF p X (.Dict [some a] [b] pos) (wDict1 T wk wv) := by
  refine ⟨⟨fun pins s σ H Q I ⟨ρ, O, EX, R, ex, hw⟩ => ?_⟩, fun ρ Q Q' EX h q => hk.mono _ _ _ _ (fun k q => hv.mono _ _ _ _ (fun v q => ⟨q.1, h _ q.2⟩) q) q⟩
  have I1 := lay_dict I
  have hn := I.hok.fresh (Nat.le_refl s.heap.objs.size)
  have sm := sm_of I
  have e1 : Ext (p.at X.K) H (upd H s.heap.objs.size (.ext (Pin s.heap.objs.size o0))) := Ext.new R.wd hn
  have hat : upd H s.heap.objs.size (.ext (Pin s.heap.objs.size o0)) s.heap.objs.size = some (.ext (Pin s.heap.objs.size o0)) := by unfold L2.upd; rw [if_pos rfl]
  have R0 := R.wipe (vs := []) (L := ρ.length) (Nat.le_refl _)
  have R0 : Rel (p.at X.K) (shf O [] ρ.length) ρ σ H := R0
  have R1 := R0.set_own (i := ρ.length) (d := .dict []) e1 hn ⟨o0, [], dk0 hat sm, by rw [RepKV]; trivial, keysD_nil⟩
  rw [set_out (Nat.le_refl _), set_out (by rw [R.len]; exact Nat.le_refl _)] at R1
  generalize hO1 : put (shf O [] ρ.length) ρ.length s.heap.objs.size = O1 at R1
  have nn1 : ∀ b, NN (p.at X.K) O1 b → NN (p.at X.K) O b ∧ b ≠ s.heap.objs.size := fun b n => by
    rw [← hO1] at n
    refine ⟨(shf_nn (vs := []) (L := ρ.length)).mp ⟨n.1, n.2.1, fun j z => ?_⟩, fun z => n.2.2 ρ.length (by rw [z]; exact if_pos rfl)⟩
    by_cases y : j = ρ.length
    · rw [y, shf_L] at z; cases z
    · exact n.2.2 j ((if_neg y).trans z)
  have nr := (R.wd.sideR hn).1
  have at3 : ∀ {H2 H3 : Hp}, Ext (p.at X.K) (upd H s.heap.objs.size (.ext (Pin s.heap.objs.size o0))) H2 → Ext (p.at X.K) H2 H3 → H3 s.heap.objs.size = some (.ext (Pin s.heap.objs.size o0)) := fun e2 e3 =>
    e3.ob _ _ (e2.ob _ _ hat (fun ps z => by cases z) nr) (fun ps z => by cases z) nr
  have walk : wpAny (model X.prog X.w) X.A (evalPairs (pairTrees [some a] [b] X.env pos)) (fun vs s3 => ∃ k v x y u1 u2 H3, vs = [(u1, u2)] ∧ Inv X pins σ H3 s3 ∧ Ext (p.at X.K) H H3 ∧ H3 s.heap.objs.size = some (.ext (Pin s.heap.objs.size o0)) ∧ RelV x u1 ∧ RepV X.K (NN (p.at X.K) O1) H3 x k ∧ RelV y u2 ∧ RepV X.K (NN (p.at X.K) O1) H3 y v ∧ keyKd T k ∧ RF (p.at X.K) O H Q (.dict [(k, v)])) X.xe { s with heap := s.heap.push o0 } := by
    refine pairTrees_cons_walk (thn (hk.pe.run pins _ σ _ (fun x H2 => ∃ k, Ext (p.at X.K) (upd H s.heap.objs.size (.ext (Pin s.heap.objs.size o0))) H2 ∧ RepV X.K (NN (p.at X.K) O1) H2 x k ∧ wv ρ (fun v => keyKd T k ∧ RF (p.at X.K) O H Q (.dict [(k, v)])) EX) I1
      ⟨ρ, O1, EX, R1, ex, hk.mono _ _ _ _ (fun k q x H2 hk2 e2 r2 => ⟨k, e2, r2, q⟩) hw⟩) fun u1 s1 ⟨x, H2, I2, rx, k, e2, r2, q2⟩ => thn (hv.pe.run pins s1 σ H2 (fun y H3 => ∃ v, Ext (p.at X.K) H2 H3 ∧ RepV X.K (NN (p.at X.K) O1) H3 y v ∧ keyKd T k ∧ RF (p.at X.K) O H Q (.dict [(k, v)])) I2
      ⟨ρ, O1, EX, R1.ext' e2, ex, hv.mono _ _ _ _ (fun v q y H3 hk3 e3 r3 => ⟨v, e3, r3, q.1, q.2⟩) q2⟩) fun u2 s2 ⟨y, H3, I3, ry, v, e3, r3, f, q3⟩ => pairTrees_nil_walk ?_)
    exact ⟨k, v, x, y, u1, u2, H3, rfl, I3, (e1.trans e2).trans e3, at3 e2 e3, rx, RepV.ext e3 e2.wd r2, ry, r3, f, q3⟩
  have fin : ∀ {k v : D} {H3 : Hp} {o' : Obj} {es' : List DictEntry} {s' : Shared}, Inv X pins σ (upd H3 s.heap.objs.size (.ext (Pin s.heap.objs.size o'))) s' → Ext (p.at X.K) H H3 → H3 s.heap.objs.size = some (.ext (Pin s.heap.objs.size o0)) → DkO (upd H3 s.heap.objs.size (.ext (Pin s.heap.objs.size o'))) s.heap.objs.size o' es' → RepKV X.K (NN (p.at X.K) O1) H3 es' [(k, v)] → keyKd T k → RF (p.at X.K) O H Q (.dict [(k, v)]) →
      EP X pins σ Q (.ref s.heap.objs.size) s' := fun {k v H3 o' es' s'} I' e3 a3 d3 kv f q => by
    have sf : Soft (H3 s.heap.objs.size) := by rw [a3]; exact ⟨_, o0, #[], 0, rfl, rfl⟩
    have w3 := e3.wd.upd (o := .ext (Pin s.heap.objs.size o')) sf nr (.inr (R.wd.sideR hn).2)
    refine ⟨.ref s.heap.objs.size, _, I', rfl, q s.heap.objs.size _ (hk_of I') (Ext.updF e3 hn w3) hn ⟨o', es', d3, ?_, keysD_one f⟩⟩
    refine RepKV.keep ⟨fun b n _ => nn1 b n, fun b ob n e _ => ?_, fun b xs e => ?_, fun b ob xs e => ?_⟩ _ _ kv
    · rw [upd_ne (nn1 b n).2]; exact e
    · rw [upd_ne (fun z => by rw [z, a3] at e; cases e)]; exact e
    · rw [upd_ne (fun z => by rw [z, a3] at e; cases e)]; exact e
  have obj : ∀ {H3 : Hp} {s3 : Shared}, Inv X pins σ H3 s3 → H3 s.heap.objs.size = some (.ext (Pin s.heap.objs.size o0)) → s3.heap.get? s.heap.objs.size = some o0 := fun I3 a3 => (I3.hok _ _ a3).1
  cases T with
  | false =>
    refine wpAny_Dict_walk (knd := mixKind X.prog X.w) rfl rfl (by simp) (by simp) (wpAny_mono walk (fun vs s3 ⟨k, v, x, y, u1, u2, H3, evs, I3, e3, a3, rx, r1, ry, r2, f, q⟩ => ?_) fun _ _ e => e)
    subst evs
    obtain ⟨i, rfl⟩ := isInt_ok (show isIntD k from f)
    have ob := obj I3 a3
    refine ⟨[(.inl i, u2)], ⟨int_rel r1 rx, rfl, trivial⟩, ⟨o0, #[], 0, ob, ⟨rfl, rfl, rfl⟩, rfl, fun _ he => by simp at he, .nil, List.nodup_nil⟩, fun h' dd' hs => ?_⟩
    obtain ⟨o', es', ep', g1, g2, g3, g4, g5, g6⟩ := dd'
    have g5 : PySem.Pairs (mixKind X.prog X.w) es'.toList [(.inl i, u2)] := g5
    have kv : RepKV X.K (NN (p.at X.K) O1) H3 es'.toList [(.int i, v)] := ints_in g5 (fun e he => g4 e (by simpa using he)) (.cons ⟨i, rfl, rfl, y, ry, r2⟩ .nil)
    exact fin (dk_write I3 (dk0 a3 sm) hs g1) e3 a3 ⟨by unfold L2.upd; rw [if_pos rfl], g2, ⟨ep', by rw [g3]⟩, sm, by rw [kv.length]; rw [sizeLine_eq]; simp⟩ kv f q
  | true =>
    refine wpAny_Dict_walkH (knd := nestedKind X.prog X.w) (show X.A.units + 8 < cLine by omega) rfl rfl (by simp) (by simp) (wpAny_mono walk (fun vs s3 ⟨k, v, x, y, u1, u2, H3, evs, I3, e3, a3, rx, r1, ry, r2, f, q⟩ => ?_) fun _ _ e => e)
    subst evs
    obtain ⟨bk, rfl, rfl, hb⟩ := key_tup I3 (show isTupD k from f) r1 rx
    have ob := obj I3 a3
    refine ⟨[(nkD k, bk, u2)], ⟨rfl, rfl, hb, trivial⟩, ⟨o0, #[], 0, ob, ⟨rfl, rfl, rfl⟩, rfl, rfl, fun _ hx => by simp at hx, List.nodup_nil⟩, fun h' tk dd' hs => ?_⟩
    obtain ⟨o', es', ep', g1, g2, g3, g4, g5, g6⟩ := dd'
    have g4 : es'.toList = [(nkD k, bk, u2)].map (entryOfKey (nestedKind X.prog X.w)) := g4
    have kv : RepKV X.K (NN (p.at X.K) O1) H3 es'.toList [(k, v)] := by rw [g4]; exact tups_in (.cons ⟨rfl, f, r1, y, ry, r2⟩ .nil)
    exact fin (dk_write I3 (dk0 a3 sm) hs g1) e3 a3 ⟨by unfold L2.upd; rw [if_pos rfl], g2, ⟨ep', by rw [g3]⟩, sm, by rw [kv.length]; rw [sizeLine_eq]; simp⟩ kv f q
end
end DD
namespace DD
open PySem PySem.Spec PyProof.Rows L2
/-! ### sorted(d), the keys numbers -/
def intKeys : List (D × D) → Option (List Int)
  | [] => some []
  | (.int i, _) :: r => (intKeys r).map (i :: ·)
  | _ => none
theorem intKeys_all : ∀ {kvs : List (D × D)} {ks : List Int}, intKeys kvs = some ks → kvs.map (·.1) = ks.map .int
  | [], ks, h => by cases h; rfl
  | (k, d) :: r, ks, h => by
    cases k with
    | int i =>
      unfold intKeys at h
      cases q : intKeys r with
      | none => rw [q] at h; cases h
      | some l =>
        rw [q] at h
        cases h
        rw [List.map_cons, List.map_cons, intKeys_all q]
    | _ => cases h
theorem pi_keys {K : PySem.W.Frag} {N : Addr → Prop} {H : Hp} {xs : List (Key × Value)} {kvs : List (D × D)} (h3 : PI_ K N H xs kvs) : xs.map (·.1) = (kvs.map (·.1)).map fun d => (Sum.inl (match d with | .int i => i | _ => 0) : Key) := by
  unfold PI_ at h3
  induction h3 with
  | nil => rfl
  | @cons x p xs kvs q t ih =>
    obtain ⟨i, e1, e2, _⟩ := q
    rw [List.map_cons, List.map_cons, List.map_cons, e1, e2, ih]
def rSortedDk (K : PySem.W.Frag) : List V → Hp → VK → Prop := fun xs H Q => ∃ x kvs N ks, xs = [x] ∧ DkV K H x kvs N ∧ intKeys kvs = some ks ∧ ks.length < 64 ∧ ∀ (ys : List Int) (p : Addr), ys.Perm ks → ys.Pairwise (· ≤ ·) → H p = none → Q (.ref p) (upd H p (.lst (ys.map V.int)))
theorem cr_sortedDk {X : Cx} (hcalm : X.calm = true) : CallR X (.builtin "sorted") (rSortedDk X.K) := by
  intro pins s σ H xs us Q I r ⟨x, kvs, N, ks, ex, ⟨a, o, es, e2, hR⟩, hks, h64, q⟩
  subst ex
  obtain ⟨u, eu, rx⟩ := vals1 r
  subst eu e2
  cases (show u = Value.ref a from rx)
  have hmap := intKeys_all hks
  have hall : ∀ p ∈ kvs, isIntD p.1 := fun p hp => by
    have : p.1 ∈ kvs.map (·.1) := List.mem_map.mpr ⟨p, hp, rfl⟩
    rw [hmap] at this
    obtain ⟨i, _, e⟩ := List.mem_map.mp this
    rw [← e]; trivial
  obtain ⟨vs, dd, pi⟩ := dk_ints I hR hall
  have lo := hR.ob.sm
  obtain ⟨ep, hat⟩ := dd.dictAt
  have hkeys : vs.map (·.1) = ks.map Sum.inl := by
    rw [pi_keys pi, hmap, List.map_map]
    rfl
  have hl : vs.length = ks.length := by
    have e := congrArg List.length hkeys
    rw [List.length_map, List.length_map] at e
    exact e
  have h16 : vs.length ≤ sizeLine := by rw [hl, sizeLine_eq]; omega
  refine Calls.call_function_entry PyProof.Rows.kind_sorted PyProof.Rows.plain_sorted PyProof.Rows.entry_sorted (PyProof.Rows.args_sorted1 _) ?_
  unfold Builtin.«sorted»
  refine wpAny_bind (m := checkCount "sorted" 1 1 _) (wpAny_pure ?_)
  refine wpAny_bind (PySem.W.kdu_collect (A := X.A.in1) (PySem.W.kdl_dict (knd := mixKind X.prog X.w) (kvs := vs) (ep := ep) lo) (I.ok.hd hcalm) hat h16 fun h' tk acc hk hacc => ?_)
  have hal : acc.toList.length = ks.length := by rw [Array.length_toList, hacc.1, hl]
  have hS : IntsAre acc.toList ks := ints_each hal fun j v e => by
    obtain ⟨k, x, e1, e2⟩ := hacc.2 j v (by rw [← Array.getElem?_toList]; exact e)
    have e3 : (vs.map (·.1))[j]? = some k := by rw [List.getElem?_map, e1]; rfl
    rw [hkeys, List.getElem?_map] at e3
    cases e4 : ks[j]? with
    | none => rw [e4] at e3; cases e3
    | some y =>
      rw [e4] at e3
      have e5 : Sum.inl y = k := Option.some.inj e3
      subst e5
      rcases keyIs_shape (show keyIs (Sum.inl y) v = true from e2) with ⟨i, t, ek, ev⟩ | ⟨z, t, ek, ev⟩
      · cases ek
        exact ⟨y, t, rfl, ev⟩
      · cases ek
  have I1 : Inv X pins σ H { s with heap := h', toks := tk } := I.kept hk
  refine wpAny_bind (wpAny_newList ?_ (by rw [hal, sizeLine_eq]; omega))
  have hoL : (h'.push (seqObj "list" acc.toList.toArray 0)).get? h'.objs.size = some (seqObj "list" acc.toList.toArray 0) := Heap.get?_push_size _ rfl
  show wpAny _ _ _ _ _ { s with heap := h'.push (seqObj "list" acc.toList.toArray 0), toks := tk }
  refine wpAny_bind (wpAny_holding (wpAny_call_entry PyProof.Rows.slot_list_sort ⟨_, hoL, rfl⟩ PyProof.Rows.entry_list_sort
    (PyProof.Rows.list_sort_tree (s := { s with heap := h'.push (seqObj "list" acc.toList.toArray 0), toks := tk }) hoL hS (by rw [hal]; exact h64) fun out ys g1 g2 g3 => ⟨_, rfl, ?_⟩) (PyProof.Rows.args_list_sort _)))
  obtain ⟨e', he'⟩ := PyProof.Rows.sortedHeap_at (vs := acc.toList) (out := out) hoL
  have hlen : (ys.map V.int).length ≤ sizeLine := by
    rw [List.length_map, g2.length_eq]
    exact Nat.le_trans (Nat.le_of_lt h64) (by decide)
  refine wpAny_pure ⟨_, rfl, .ref h'.objs.size, upd H h'.objs.size (.lst (ys.map V.int)), I1.laid (t' := tk) (fun b u e => ?_) (Nat.le_refl _)
    (show ObjOk X.prog X.w _ _ _ (.lst (ys.map V.int)) from ⟨hlen, out.toList, e', vals_of_ints g1, by rw [Array.toArray_toList]; exact he'⟩), rfl, q ys _ g2 g3 (I1.hok.fresh (Nat.le_refl _))⟩
  have hb : b < h'.objs.size := Heap.lt_size e
  rw [PyProof.Rows.sortedHeap_old (Nat.ne_of_lt hb) (by rw [size_push']; exact Nat.lt_succ_of_lt hb)]
  exact Heap.get?_push_of_some _ e
def aSortedB : F1
  | .dict kvs, Q => ∃ ks, intKeys kvs = some ks ∧ ks.length < 64 ∧ ∀ ns' : List Int, ns'.Perm ks → ns'.Pairwise (· ≤ ·) → Q (.list (ns'.map PyData.int))
  | d, Q => aSorted d Q
def rSortedB (K : PySem.W.Frag) : List V → Hp → VK → Prop := fun xs H Q => rSortedI K xs H Q ∨ rSortedDk K xs H Q
theorem cr_sortedB {X : Cx} (hc : X.calm = true) : CallR X (.builtin "sorted") (rSortedB X.K) := cr_sortedI.or (cr_sortedDk hc)
theorem n_sortedB {p : Par} : OpNF p (f1 aSortedB) (rSortedB p.K) := by
  refine op1F (fun d Q Q' h q => ?_) fun O H x a Q ok r hf => ?_
  · cases d with
    | dict kvs => obtain ⟨ks, e, hl, q⟩ := q; exact ⟨ks, e, hl, fun ns' h1 h2 => h _ (q ns' h1 h2)⟩
    | list xs => obtain ⟨ns, e, q⟩ := q; exact ⟨ns, e, fun ns' h1 h2 => h _ (q ns' h1 h2)⟩
    | _ => exact q.elim
  · cases a with
    | dict kvs =>
      obtain ⟨ks, e, hl, q⟩ := hf
      exact .inr ⟨x, kvs, NN p O, ks, rfl, r.dk, e, hl, fun ys c h1 h2 hc hk => (q ys h1 h2).list ok hc (RepAll.ints _) hk⟩
    | list xs => exact .inl ((n_sorted (p := p)).ok O H [x] [.list xs] Q ok (.cons r .nil) hf)
    | _ => exact hf.elim
/-! ### evaluated -/
section
variable {ρ : Env'} {Q : D → Prop} {Qb : Bool → Prop} {EX : EXn} {D0 : EndsW} {w u v : WS} {a b c : WE}
@[simp ↓] theorem ev_inBL {neg : Bool} {k : D} {xs : List D} : gInB neg k (.list xs) Qb = gIn neg k (.list xs) Qb := rfl
@[simp ↓] theorem ev_inBT {neg : Bool} {k : D} {xs : List D} : gInB neg k (.tuple xs) Qb = gIn neg k (.tuple xs) Qb := rfl
@[simp ↓] theorem ev_inBD {k : D} {kvs : List (D × D)} : gInB false k (.dict kvs) Qb = (keyFit kvs k ∧ Qb (dGet kvs k).isSome) := rfl
@[simp ↓] theorem ev_notInBD {k : D} {kvs : List (D × D)} : gInB true k (.dict kvs) Qb = (keyFit kvs k ∧ Qb (!(dGet kvs k).isSome)) := rfl
@[simp ↓] theorem ev_ixBL {k : D} {xs : List D} : aIxB (.list xs) k Q = aIx (.list xs) k Q := rfl
@[simp ↓] theorem ev_ixBT {k : D} {xs : List D} : aIxB (.tuple xs) k Q = aIx (.tuple xs) k Q := rfl
@[simp ↓] theorem ev_ixBD {k : D} {kvs : List (D × D)} : aIxB (.dict kvs) k Q = (keyFit kvs k ∧ ∃ d, dGet kvs k = some d ∧ Q d) := rfl
@[simp ↓] theorem ev_lenBL {xs : List D} : aLenB (.list xs) Q = Q (.int xs.length) := rfl
@[simp ↓] theorem ev_lenBT {xs : List D} : aLenB (.tuple xs) Q = Q (.int xs.length) := rfl
@[simp ↓] theorem ev_lenBD {kvs : List (D × D)} : aLenB (.dict kvs) Q = Q (.int kvs.length) := rfl
@[simp ↓] theorem ev_iSeqB {Q : List D → Prop} : wiSeqB a ρ Q EX = a ρ (fun d => ∃ ds, seqDB d = some ds ∧ Q ds) EX := rfl
@[simp ↓] theorem ev_iItems {Q : List D → Prop} : wiItems a ρ Q EX = a ρ (fun d => ∃ kvs, d = .dict kvs ∧ Q (kvs.map fun q => .tuple [q.1, q.2])) EX := rfl
@[simp ↓] theorem ev_Get2 : wGet2 a b c ρ Q EX = a ρ (fun d => ∃ kvs, d = .dict kvs ∧ b ρ (fun k => c ρ (fun x => keyFit kvs k ∧ Q ((dGet kvs k).getD x)) EX) EX) EX := rfl
@[simp ↓] theorem ev_Dict0 : wDict0 ρ Q EX = Q (.dict []) := rfl
@[simp ↓] theorem ev_Dict1 {T : Bool} : wDict1 T a b ρ Q EX = a ρ (fun k => b ρ (fun v => keyKd T k ∧ Q (.dict [(k, v)])) EX) EX := rfl
@[simp ↓] theorem ev_PutD {i : Nat} : wPutD i a b D0 ρ = ownD ρ i (fun kvs => b ρ (fun d => a ρ (fun k => keyFit kvs k ∧ kvs.length < sizeLine ∧ D0.nx (ρ.set i (some (.own (.dict (dPut kvs k d)))))) D0.ex) D0.ex) := rfl
end
end DD
set_option maxRecDepth 100000
set_option maxHeartbeats 2000000
/-! DicM: dicts as rows of pairs: look-ups behind stores. -/
namespace DD
open PySem PySem.Spec PyProof.Rows L2
open Classical in
theorem dGet_cons {k v j : D} {kvs : List (D × D)} : dGet ((k, v) :: kvs) j = if k = j then some v else dGet kvs j := by
  unfold dGet
  rw [List.find?_cons]
  by_cases z : k = j
  · simp [z]
  · simp [z]
theorem dGet_nil {j : D} : dGet [] j = none := rfl
open Classical in
theorem dGet_append {j : D} : ∀ {xs ys : List (D × D)}, dGet (xs ++ ys) j = match dGet xs j with | some v => some v | none => dGet ys j
  | [], ys => rfl
  | (k, v) :: xs, ys => by
    rw [List.cons_append, dGet_cons, dGet_cons]
    by_cases z : k = j
    · rw [if_pos z, if_pos z]
    · rw [if_neg z, if_neg z]
      exact dGet_append
open Classical in
theorem dGet_repl {k v j : D} : ∀ {kvs : List (D × D)}, dGet (kvs.map fun p => if p.1 = k then (p.1, v) else p) j = if j = k then (if dHas kvs k = true then some v else none) else dGet kvs j
  | [] => by
    rw [List.map_nil, dGet_nil]
    by_cases z : j = k
    · rw [if_pos z]; rfl
    · rw [if_neg z]
  | (a, b) :: kvs => by
    have ih := dGet_repl (k := k) (v := v) (j := j) (kvs := kvs)
    have e : dHas ((a, b) :: kvs) k = (decide (a = k) || dHas kvs k) := by unfold dHas; rw [List.any_cons]
    rw [List.map_cons, e]
    by_cases z : a = k
    · rw [if_pos z, dGet_cons, dGet_cons, ih, decide_eq_true z, Bool.true_or, if_pos rfl]
      subst z
      by_cases y : j = a
      · simp [y]
      · simp [y, Ne.symm y]
    · rw [if_neg z, dGet_cons, dGet_cons, ih, decide_eq_false z, Bool.false_or]
      by_cases y : j = k
      · subst y
        simp [z]
      · simp [y]
theorem dGet_put_same {kvs : List (D × D)} {k v : D} : dGet (dPut kvs k v) k = some v := by
  unfold dPut
  split
  · rename_i h; rw [dGet_repl, if_pos rfl, if_pos h]
  · rename_i h
    rw [dHas_get] at h
    rw [dGet_append]
    cases q : dGet kvs k with
    | some x => rw [q] at h; exact absurd rfl h
    | none => rw [dGet_cons, if_pos rfl]
theorem dGet_put_ne {kvs : List (D × D)} {k v j : D} (h : j ≠ k) : dGet (dPut kvs k v) j = dGet kvs j := by
  unfold dPut
  split
  · rw [dGet_repl, if_neg h]
  · rw [dGet_append]
    cases q : dGet kvs j with
    | some x => rfl
    | none => rw [dGet_cons, if_neg (Ne.symm h)]; rfl
theorem dPut_new {kvs : List (D × D)} {k v : D} (h : dGet kvs k = none) : dPut kvs k v = kvs ++ [(k, v)] := by
  unfold dPut
  rw [dHas_get, h]
  rfl
theorem dPut_nodup {kvs : List (D × D)} {k v : D} (h : (kvs.map (·.1)).Nodup) : ((dPut kvs k v).map (·.1)).Nodup := by
  rw [dPut_keys]
  split
  · exact h
  · rename_i z
    refine List.nodup_append.mpr ⟨h, List.nodup_cons.mpr ⟨by simp, List.nodup_nil⟩, fun a ha b hb => ?_⟩
    rw [List.mem_singleton] at hb
    subst hb
    rintro rfl
    obtain ⟨q, hq, e2⟩ := List.mem_map.mp ha
    refine z ?_
    unfold dHas
    rw [List.any_eq_true]
    exact ⟨q, hq, by simpa using e2⟩
theorem dPut_mem {kvs : List (D × D)} {k v : D} {p : D × D} (h : p ∈ dPut kvs k v) : p.1 = k ∨ p ∈ kvs := by
  unfold dPut at h
  split at h
  · obtain ⟨q, hq, e⟩ := List.mem_map.mp h
    by_cases z : q.1 = k
    · rw [if_pos z] at e
      rw [← e]
      exact .inl z
    · rw [if_neg z] at e
      rw [← e]
      exact .inr hq
  · rcases List.mem_append.mp h with h | h
    · exact .inr h
    · rw [List.mem_singleton] at h
      rw [h]
      exact .inl rfl
theorem dGet_mem {kvs : List (D × D)} (h : (kvs.map (·.1)).Nodup) : ∀ {p : D × D}, p ∈ kvs → dGet kvs p.1 = some p.2 := by
  induction kvs with
  | nil => intro p hp; cases hp
  | cons q kvs ih =>
    obtain ⟨k, v⟩ := q
    rw [List.map_cons, List.nodup_cons] at h
    intro p hp
    rw [dGet_cons]
    rcases List.mem_cons.mp hp with rfl | hp
    · rw [if_pos rfl]
    · rw [if_neg (fun z => h.1 (List.mem_map.mpr ⟨p, hp, z.symm⟩)), ih h.2 hp]
theorem mem_dGet {kvs : List (D × D)} {k v : D} (h : dGet kvs k = some v) : (k, v) ∈ kvs := by
  induction kvs with
  | nil => cases h
  | cons q kvs ih =>
    obtain ⟨a, b⟩ := q
    rw [dGet_cons] at h
    by_cases z : a = k
    · rw [if_pos z] at h
      cases h
      rw [z]
      exact List.mem_cons_self
    · rw [if_neg z] at h
      exact List.mem_cons_of_mem _ (ih h)
/-- all keys are numbers -/
def IntK (kvs : List (D × D)) : Prop := ∀ p ∈ kvs, isIntD p.1
def TupK (kvs : List (D × D)) : Prop := ∀ p ∈ kvs, isTupD p.1
theorem IntK.nil : IntK [] := fun p h => by cases h
theorem TupK.nil : TupK [] := fun p h => by cases h
theorem IntK.put {kvs : List (D × D)} {i : Int} {v : D} (h : IntK kvs) : IntK (dPut kvs (.int i) v) := fun p hp => by
  rcases dPut_mem hp with e | e
  · rw [e]; trivial
  · exact h p e
theorem TupK.put {kvs : List (D × D)} {k v : D} (h : TupK kvs) (hk : isTupD k) : TupK (dPut kvs k v) := fun p hp => by
  rcases dPut_mem hp with e | e
  · rw [e]; exact hk
  · exact h p e
theorem IntK.fit {kvs : List (D × D)} {i : Int} (h : IntK kvs) : keyFit kvs (.int i) := .inl ⟨trivial, h⟩
theorem TupK.fit {kvs : List (D × D)} {k : D} (h : TupK kvs) (hk : isTupD k) : keyFit kvs k := .inr ⟨hk, h⟩
theorem nk_ints : ∀ ns : List Int, nkOks (ns.map .int) = true ∧ NestedKey.depthAll (nkDs (ns.map .int)) ≤ 1
  | [] => ⟨by simp [nkOks], by simp [nkDs, NestedKey.depthAll]⟩
  | n :: ns => by
    obtain ⟨h1, h2⟩ := nk_ints ns
    refine ⟨by simp [nkOks, nkOk, h1], ?_⟩
    simp only [List.map_cons, nkDs, nkD, NestedKey.depthAll, NestedKey.depth]
    omega
theorem tup_ints {ns : List Int} : isTupD (.tuple (ns.map .int)) := by
  obtain ⟨h1, h2⟩ := nk_ints ns
  refine ⟨h1, ?_⟩
  simp only [nkD, NestedKey.depth]
  omega
end DD
set_option maxRecDepth 100000
set_option maxHeartbeats 8000000
/-! BasB: what the laws share: plain values, drawings, refusals heard. -/
namespace DD
open PySem PySem.Spec PyProof.Rows L2 GenW
abbrev _law_alike_s : FD := alikeS 12
theorem plain_list {n : Nat} {xs : List D} (hl : xs.length ≤ sizeLine) (h : ∀ x ∈ xs, plainD n x = true) : plainD (n + 1) (.list xs) = true := by
  unfold plainD
  rw [List.all_eq_true.mpr h, decide_eq_true hl]
  rfl
theorem plain_tuple {n : Nat} {xs : List D} (hl : xs.length ≤ sizeLine) (h : ∀ x ∈ xs, plainD n x = true) : plainD (n + 1) (.tuple xs) = true := by
  unfold plainD
  rw [List.all_eq_true.mpr h, decide_eq_true hl]
  rfl
theorem plain_int {n : Nat} {i : Int} : plainD n (.int i) = true := by cases n <;> rfl
theorem plain_bool {n : Nat} {i : Bool} : plainD n (.bool i) = true := by cases n <;> rfl
theorem plain_none {n : Nat} : plainD n .none = true := by cases n <;> rfl
theorem plain_str {n : Nat} {x : Str} (h : SeqAt.shaped (.str x) = true) : plainD n (.str x) = true := by cases n <;> exact h
theorem plain_ints {n : Nat} {ns : List Int} : ∀ x ∈ ns.map PyData.int, plainD n x = true := fun x hx => by
  obtain ⟨i, _, rfl⟩ := List.mem_map.mp hx
  exact plain_int
theorem plain_bad {n : Nat} {x : Str} (h : SeqAt.shaped (.str x) = true) : plainD (n + 1) (.tuple [.str "bad", .str x, .bool true]) = true := by
  refine plain_tuple (by rw [sizeLine_eq]; simp) fun y hy => ?_
  simp only [List.mem_cons, List.not_mem_nil, or_false] at hy
  rcases hy with rfl | rfl | rfl
  · exact plain_str (by decide +kernel)
  · exact plain_str h
  · exact plain_bool
theorem alike_use {d : D} {Q : D → Prop} {EX : EXn} (h : plainD 12 d = true) (q : Q (.bool true)) : alikeS 12 [.d d, .d d] Q EX := ⟨d, rfl, h, q⟩
/-- a call that raises an error of a name -/
theorem heard_bad {f : FD} {ws : List W} {n : Str} {Q : D → Prop} (h : ∀ Q', f ws Q' (heardX fun d => d = .tuple [.str "bad", .str n, .bool true])) (q : Q (.tuple [.str "bad", .str n, .bool true])) : ∃ Q0 : D → Prop, (∀ d, Q0 d → Q d) ∧ f ws (fun _ => Q0 (.tuple [])) (heardX Q0) :=
  ⟨fun d => d = .tuple [.str "bad", .str n, .bool true], fun d e => by rw [e]; exact q, h _⟩
theorem pick_use {xs : List D} {Q : D → Prop} {EX : EXn} (h0 : 0 < xs.length) (h1 : xs.length < 2 ^ 60) (q : ∀ x ∈ xs, Q x) : _law_pick_s [.row, .d (.list xs)] Q EX := ⟨_, xs, rfl, rfl, h0, h1, q⟩
theorem taken_use {n : Int} {Q : D → Prop} {EX : EXn} (h0 : 0 < n) (h1 : n < 2 ^ 64) (q : ∀ r : Int, 0 ≤ r → r < n → Q (.int r)) : _law_taken_s [.row, .d (.int n)] Q EX := ⟨n, rfl, h0, h1, q⟩
theorem plain_pair {n : Nat} {a b : Int} : plainD (n + 1) (.tuple [.int a, .int b]) = true :=
  plain_tuple (by rw [sizeLine_eq]; simp) fun y hy => by
    simp only [List.mem_cons, List.not_mem_nil, or_false] at hy
    rcases hy with rfl | rfl <;> exact plain_int
theorem zip_int {α β : Type} (f : α → β → Int) : ∀ (xs : List α) (ys : List β), (xs.zip ys).map (fun p => PyData.int (f p.1 p.2)) = (List.zipWith f xs ys).map .int
  | [], ys => by cases ys <;> rfl
  | x :: xs, [] => rfl
  | x :: xs, y :: ys => by rw [List.zip_cons_cons, List.map_cons, List.zipWith_cons_cons, List.map_cons, zip_int f xs ys]
theorem ints_get {xs : List Int} {j : Nat} {x : Int} (h : xs[j]? = some x) : (xs.map PyData.int)[j]? = some (.int x) := by rw [List.getElem?_map, h]; rfl
theorem range_ints {k : Nat} {p : Nat → Bool} : ((List.range k).filter p).map (fun j => PyData.int ((j : Nat) : Int)) = (((List.range k).filter p).map (fun j : Nat => (j : Int))).map .int := by rw [List.map_map]; rfl
/-- all calls of a row raise the same -/
theorem alike_bads {xs : List D} {x : Str} {Q : D → Prop} {EX : EXn} (hx : SeqAt.shaped (.str x) = true) (hl : xs.length ≤ sizeLine) (h : ∀ y ∈ xs, y = .tuple [.str "bad", .str x, .bool true]) (q : Q (.bool true)) : alikeS 12 [.d (.list xs), .d (.list xs)] Q EX :=
  alike_use (plain_list hl fun y hy => by rw [h y hy]; exact plain_bad hx) q
def intsT (ns : List Int) : D := .tuple (ns.map .int)
def rdI : D → Int
  | .int i => i
  | _ => 0
def rdL : D → List Int
  | .tuple xs => xs.map rdI
  | _ => []
theorem rdI_ints : ∀ ns : List Int, (ns.map PyData.int).map rdI = ns
  | [] => rfl
  | n :: ns => by rw [List.map_cons, List.map_cons, rdI_ints ns]; rfl
theorem rdL_ints {ns : List Int} : rdL (intsT ns) = ns := rdI_ints ns
theorem intsT_get {xs : List Int} {j : Nat} {x : Int} {Q : D → Prop} (h : xs[j]? = some x) (q : Q (.int x)) : aIx (intsT xs) (.int (j : Int)) Q := ⟨_, atD_nat (ints_get h), q⟩
theorem cut_to {α : Type} (xs : List α) (j : Nat) : cutD xs none (some (j : Int)) = xs.take j := by
  unfold cutD
  rw [HT.sIx_none, HT.sIx_nat, List.drop_zero, Nat.sub_zero]
  by_cases h : j ≤ xs.length
  · rw [Nat.min_eq_left h]
  · rw [Nat.min_eq_right (by omega), List.take_of_length_le (Nat.le_refl _), List.take_of_length_le (by omega)]
theorem cut_from {α : Type} (xs : List α) (j : Nat) : cutD xs (some (j : Int)) none = xs.drop j := by
  unfold cutD
  rw [HT.sIx_none, HT.sIx_nat]
  by_cases h : j ≤ xs.length
  · rw [Nat.min_eq_left h]
    exact List.take_of_length_le (by simp)
  · rw [Nat.min_eq_right (by omega), List.drop_of_length_le (Nat.le_refl _), List.drop_of_length_le (by omega)]
    simp
theorem enumD_range {n : Nat} (h : Nat → D) : enumD ((List.range n).map h) = (List.range n).map (fun i => .tuple [.int ((i : Nat) : Int), h i]) := by
  unfold enumD
  rw [List.length_map, List.length_range]
  refine List.map_congr_left fun i hi => ?_
  rw [List.mem_range] at hi
  rw [List.getD_eq_getElem?_getD, List.getElem?_map, List.getElem?_range hi]
  rfl
theorem cmul_small {i j : Int} (h : -(2 ^ 60) ≤ i) (h' : i ≤ 2 ^ 60) : CMul i j := Or.inl ⟨by omega, by omega⟩
@[simp ↓] theorem ev_cutT {lo hi : Option Int} {xs : List D} {Q : D → Prop} : aCut lo hi (.tuple xs) Q = Q (.tuple (cutD xs lo hi)) := rfl
@[simp ↓] theorem ev_cutL {lo hi : Option Int} {xs : List D} {Q : D → Prop} : aCut lo hi (.list xs) Q = Q (.list (cutD xs lo hi)) := rfl
theorem cut_len {α : Type} {xs : List α} {lo hi : Option Int} : (cutD xs lo hi).length ≤ xs.length := by
  unfold cutD
  rw [List.length_take, List.length_drop]
  omega
theorem cut_mem {α : Type} {xs : List α} {lo hi : Option Int} {x : α} (h : x ∈ cutD xs lo hi) : x ∈ xs := List.mem_of_mem_drop (List.mem_of_mem_take h)
theorem ints_of {lo hi : Int} : ∀ {ys : List D}, (∀ y ∈ ys, ∃ l : Int, y = .int l ∧ lo ≤ l ∧ l ≤ hi) → ∃ ls : List Int, ys = ls.map .int ∧ ∀ l ∈ ls, lo ≤ l ∧ l ≤ hi
  | [], _ => ⟨[], rfl, fun l h => (List.not_mem_nil h).elim⟩
  | y :: ys, h => by
    obtain ⟨l, rfl, h1⟩ := h y List.mem_cons_self
    obtain ⟨ls, rfl, h2⟩ := ints_of fun z hz => h z (List.mem_cons_of_mem _ hz)
    exact ⟨l :: ls, rfl, fun x hx => by
      rcases List.mem_cons.mp hx with rfl | hx
      · exact h1
      · exact h2 x hx⟩
theorem maxI_rng {lo hi : Int} : ∀ (ls : List Int) (m : Int), lo ≤ m → m ≤ hi → (∀ l ∈ ls, l ≤ hi) → lo ≤ maxI m ls ∧ maxI m ls ≤ hi
  | [], m, h1, h2, _ => ⟨h1, h2⟩
  | l :: ls, m, h1, h2, h => by
    have := h l List.mem_cons_self
    exact maxI_rng ls (max m l) (by omega) (by omega) fun x hx => h x (List.mem_cons_of_mem _ hx)
theorem zip_range (f : Int → Int → Int) {n : Nat} {xs ys : List Int} (hx : xs.length = n) (hy : ys.length = n) : (List.range n).map (fun k => f (xs.getD k 0) (ys.getD k 0)) = List.zipWith f xs ys := by
  apply List.ext_getElem?
  intro i
  rw [List.getElem?_zipWith]
  by_cases h : i < n
  · rw [List.getElem?_map, List.getElem?_range h, List.getElem?_eq_getElem (by omega), List.getElem?_eq_getElem (by omega)]
    simp only [Option.map_some]
    rw [List.getD_eq_getElem?_getD, List.getD_eq_getElem?_getD, List.getElem?_eq_getElem (by omega), List.getElem?_eq_getElem (by omega)]
    rfl
  · rw [List.getElem?_eq_none (by simp; omega), List.getElem?_eq_none (by omega)]
section
variable {ρ : Env'} {EX : EXn} {α : Type}
theorem tup_evalM {g : WG} {we : WE} {h : α → D} {Q : D → Prop} (f : α → D) : ∀ {xs : List α} {acc : List D} (hh : ∀ x ∈ xs, ∀ R : D → Prop, R (f x) → g (h x) ρ fun ρ2 => we ρ2 R noX) (hl : acc.length + xs.length ≤ sizeLine) (q : Q (.tuple (acc ++ xs.map f))), wFold g wYes we (cTup Q) (fun ys => ys.length ≤ sizeLine ∧ Q (.tuple ys)) ρ (xs.map h) acc
  | [], acc, hh, hl, q => by
    have q : Q (.tuple (acc ++ [])) := q
    rw [List.append_nil] at q
    exact ⟨by simpa using hl, q⟩
  | d :: ds, acc, hh, hl, q => by
    rw [List.length_cons] at hl
    have := hh d List.mem_cons_self (fun y => cTup Q acc y (fun ys => wFold g wYes we (cTup Q) (fun ys => ys.length ≤ sizeLine ∧ Q (.tuple ys)) ρ (ds.map h) ys)) (by
      refine ⟨by omega, tup_evalM f (fun x m => hh x (List.mem_cons_of_mem _ m)) (by rw [List.length_append, List.length_singleton]; omega) ?_⟩
      rw [List.append_assoc]
      exact q)
    rw [List.map_cons]
    unfold wFold
    simpa using this
end
section
variable {ρ : Env'} {EX : EXn} {α β : Type}
/-- a comprehension whose test is drawn: any part of the row comes -/
theorem comp_sub {g : WG} {t : WT} {we : WE} {h : α → D} (f : α → D) : ∀ {xs : List α} {acc : List D} {Q : D → Prop} (hh : ∀ x ∈ xs, ∀ R : Option D → Prop, R (some (f x)) → R none → g (h x) ρ fun ρ2 => t ρ2 (fun k => if k = true then we ρ2 (fun y => R (some y)) noX else R none) noX)
    (hl : acc.length + xs.length ≤ sizeLine) (q : ∀ ys : List α, ys.Sublist xs → Q (.list (acc ++ ys.map f))), wComp g t we ρ (xs.map h) acc Q
  | [], acc, Q, hh, hl, q => by
    have q := q [] (List.Sublist.refl _)
    have q : Q (.list (acc ++ [])) := q
    rw [List.append_nil] at q
    exact q
  | d :: ds, acc, Q, hh, hl, q => by
    rw [List.length_cons] at hl
    exact hh d List.mem_cons_self (fun o => match o with | some y => acc.length < sizeLine ∧ wComp g t we ρ (ds.map h) (acc ++ [y]) Q | none => wComp g t we ρ (ds.map h) acc Q)
      ⟨by omega, comp_sub f (fun x m => hh x (List.mem_cons_of_mem _ m)) (by rw [List.length_append, List.length_singleton]; omega) fun ys hys => by
        have := q (d :: ys) (List.Sublist.cons₂ d hys)
        rw [List.append_assoc]
        exact this⟩
      (comp_sub f (fun x m => hh x (List.mem_cons_of_mem _ m)) (by omega) fun ys hys => q ys (List.Sublist.cons d hys))
theorem cut_map {f : α → β} {xs : List α} {lo hi : Option Int} : cutD (xs.map f) lo hi = (cutD xs lo hi).map f := by
  unfold cutD
  rw [List.length_map, List.map_take, List.map_drop]
end
end DD
set_option maxRecDepth 100000
set_option maxHeartbeats 8000000
/-! BasD: more that the laws share: sums under a test, rows by their places. -/
namespace DD
open PySem PySem.Spec PyProof.Rows L2 GenW
section
variable {ρ : Env'} {EX : EXn} {α β : Type}
/-- a sum over what passes a test: f gives 0 where the test fails -/
theorem sum_filtM {g : WG} {t : WT} {we : WE} {h : α → D} (f : α → Int) {Q : D → Prop} : ∀ {xs : List α} {a : Int} (hh : ∀ x ∈ xs, ∀ R : Int → Prop, R (f x) → g (h x) ρ fun ρ2 => t ρ2 (fun k => if k = true then we ρ2 (fun y => ∃ j, y = .int j ∧ R j) noX else R 0) noX) (q : Q (.int (a + (xs.map f).sum))), wFold g t we (cSum Q) (fun i => Q (.int i)) ρ (xs.map h) a
  | [], a, hh, q => by
    have q : Q (.int (a + 0)) := q
    rw [Int.add_zero] at q
    exact q
  | d :: ds, a, hh, q => by
    have := hh d List.mem_cons_self (fun j => wFold g t we (cSum Q) (fun i => Q (.int i)) ρ (ds.map h) (a + j)) (by
      refine sum_filtM f (fun x m => hh x (List.mem_cons_of_mem _ m)) ?_
      rw [List.map_cons, List.sum_cons, ← Int.add_assoc] at q
      exact q)
    rw [Int.add_zero] at this
    rw [List.map_cons]
    unfold wFold
    exact this
end
section
variable {ρ : Env'} {EX : EXn} {α β : Type}
/-- the same, whatever is asked of the sum -/
theorem sum_evalF {g : WG} {we : WE} {h : α → D} (f : α → Int) {Q : D → Prop} {F : Int → Prop} : ∀ {xs : List α} {a : Int} (hh : ∀ x ∈ xs, ∀ R : D → Prop, R (.int (f x)) → g (h x) ρ fun ρ2 => we ρ2 R noX) (q : F (a + (xs.map f).sum)), wFold g wYes we (cSum Q) F ρ (xs.map h) a
  | [], a, hh, q => by
    have q : F (a + 0) := q
    rw [Int.add_zero] at q
    exact q
  | d :: ds, a, hh, q => by
    have := hh d List.mem_cons_self (fun y => cSum Q a y (fun i => wFold g wYes we (cSum Q) F ρ (ds.map h) i)) (by
      refine ⟨f d, rfl, sum_evalF f (fun x m => hh x (List.mem_cons_of_mem _ m)) ?_⟩
      rw [List.map_cons, List.sum_cons, ← Int.add_assoc] at q
      exact q)
    rw [List.map_cons]
    unfold wFold
    simpa using this
end
theorem map_range {α β : Type} (f : α → β) (x0 : α) (xs : List α) : xs.map f = (List.range xs.length).map fun i => f (xs.getD i x0) := by
  apply List.ext_getElem?
  intro i
  by_cases h : i < xs.length
  · rw [List.getElem?_map, List.getElem?_map, List.getElem?_range h, List.getElem?_eq_getElem h]
    simp only [Option.map_some]
    rw [List.getD_eq_getElem?_getD, List.getElem?_eq_getElem h]
    rfl
  · rw [List.getElem?_eq_none (by simp; omega), List.getElem?_eq_none (by simp; omega)]
theorem range_set {β : Type} (f : Nat → β) {n j : Nat} (v : β) : ((List.range n).map f).set j v = (List.range n).map fun k => if k = j then v else f k := by
  apply List.ext_getElem?
  intro i
  rw [List.getElem?_set]
  by_cases h : i < n
  · by_cases c : j = i
    · subst c
      simp [h]
    · have c' : ¬ i = j := fun z => c z.symm
      simp [h, c, c']
  · have h' : ¬ i < n := h
    by_cases c : j = i
    · subst c
      simp [h]
    · simp [h, c]
theorem range_get {n i x : Nat} (h : (List.range n)[i]? = some x) : x = i ∧ i < n := by
  have hi : i < n := by have := (List.getElem?_eq_some_iff.mp h).1; simpa using this
  rw [List.getElem?_range hi] at h
  exact ⟨by cases h; rfl, hi⟩
theorem range_at {β : Type} {f : Nat → β} {n i : Nat} (h : i < n) : ((List.range n).map f)[i]? = some (f i) := by
  rw [List.getElem?_map, List.getElem?_range h]; rfl
theorem getD_at {xs : List Int} {i : Nat} (h : i < xs.length) : xs[i]? = some (xs.getD i 0) := by
  rw [List.getD_eq_getElem?_getD, List.getElem?_eq_getElem h]; rfl
theorem cmul_right {i j : Int} (h : -(2 ^ 60) ≤ j) (h' : j ≤ 2 ^ 60) : CMul i j := Or.inr ⟨by omega, by omega⟩
theorem cut_nat {α : Type} (xs : List α) {j : Int} (h : 0 ≤ j) : cutD xs none (some j) = xs.take j.toNat := by
  obtain ⟨n, rfl⟩ := Int.eq_ofNat_of_zero_le h
  exact cut_to xs n
theorem cut_natF {α : Type} (xs : List α) {j : Int} (h : 0 ≤ j) : cutD xs (some j) none = xs.drop j.toNat := by
  obtain ⟨n, rfl⟩ := Int.eq_ofNat_of_zero_le h
  exact cut_from xs n
theorem take_ints {xs : List Int} {n : Nat} : (xs.map PyData.int).take n = (xs.take n).map .int := by rw [List.map_take]
theorem drop_ints {xs : List Int} {n : Nat} : (xs.map PyData.int).drop n = (xs.drop n).map .int := by rw [List.map_drop]
end DD
set_option maxRecDepth 100000
set_option maxHeartbeats 8000000
namespace DD
open PySem PySem.Spec PyProof.Rows L2 GenW
/-! ### numbers -/
def isNum (d : D) (lo hi : Int) : Bool := match d with
  | .int i => decide (lo ≤ i) && decide (i ≤ hi)
  | _ => false
theorem isNum_int {d : D} {lo hi : Int} (h : isNum d lo hi = true) : ∃ i, d = .int i ∧ lo ≤ i ∧ i ≤ hi := by
  cases d with
  | int i => simp [isNum] at h; exact ⟨i, rfl, h⟩
  | _ => simp [isNum] at h
def is_number_w : WS := wRet (wAndV (wIsi "int" (wVar 0)) (wAndV (wNotV (wIsi "bool" (wVar 0))) (wChainE gLe gLe (wVar 1) (wVar 0) (wVar 2))))
def is_number_s : FD := fun ws Q EX => ∃ (d : D) (lo hi : Int), ws = [.d d, .d (.int lo), .d (.int hi)] ∧ Q (.bool (isNum d lo hi))
theorem mono_is_number : MonoF is_number_s := fun ws Q Q' EX h ⟨d, lo, hi, e, q⟩ => ⟨d, lo, hi, e, h _ q⟩
theorem meets_is_number (ws : List W) (Q : D → Prop) (EX : EXn) (h : is_number_s ws Q EX) : mkF 3 3 is_number_w ws Q EX := by
  obtain ⟨d, lo, hi, rfl, q⟩ := h
  refine ⟨rfl, ?_⟩
  cases d with
  | int i =>
    by_cases z : lo ≤ i
    · simpa [is_number_w, isTy, tyD, isNum, z] using q
    · simpa [is_number_w, isTy, tyD, isNum, z] using q
  | _ => simpa [is_number_w, isTy, tyD, isNum] using q
def areNums (d : D) (n lo hi : Int) : Bool := match d with
  | .tuple xs => decide ((xs.length : Int) = n) && xs.all (fun x => isNum x lo hi)
  | _ => false
def are_numbers_w : WS := wRet (wAndV (wIsi "tuple" (wVar 0)) (wAndV (wCmp2 gEq (wOpN (f1 aLenB) (waCons (wVar 0) waNil)) (wVar 1)) (wAllG (wiSeqB (wVar 0)) (wgName 4) wYes (wCall is_number_s (wwCons (wVar 4) (wwCons (wVar 2) (wwCons (wVar 3) wwNil)))) [4])))
def are_numbers_s : FD := fun ws Q EX => ∃ (d : D) (n lo hi : Int), ws = [.d d, .d (.int n), .d (.int lo), .d (.int hi)] ∧ Q (.bool (areNums d n lo hi))
theorem mono_are_numbers : MonoF are_numbers_s := fun ws Q Q' EX h ⟨d, n, lo, hi, e, q⟩ => ⟨d, n, lo, hi, e, h _ q⟩
theorem meets_are_numbers (ws : List W) (Q : D → Prop) (EX : EXn) (h : are_numbers_s ws Q EX) : mkF 4 5 are_numbers_w ws Q EX := by
  obtain ⟨d, n, lo, hi, rfl, q⟩ := h
  refine ⟨rfl, ?_⟩
  cases d with
  | tuple xs =>
    by_cases z : (xs.length : Int) = n
    · simp [are_numbers_w, isTy, tyD, z]
      refine ⟨xs, rfl, all_eval (fun x => isNum x lo hi) (fun x _ R r => ?_) ?_⟩
      · simp
        exact ⟨x, lo, hi, rfl, r⟩
      · simpa [areNums, z] using q
    · simpa [are_numbers_w, isTy, tyD, areNums, z] using q
  | _ => simpa [are_numbers_w, isTy, tyD, areNums] using q
theorem areNums2 {d : D} {lo hi : Int} (h : areNums d 2 lo hi = true) : ∃ a b, d = .tuple [.int a, .int b] ∧ lo ≤ a ∧ a ≤ hi ∧ lo ≤ b ∧ b ≤ hi := by
  cases d with
  | tuple xs =>
    simp only [areNums, Bool.and_eq_true, decide_eq_true_eq, List.all_eq_true] at h
    obtain ⟨h1, h2⟩ := h
    match xs, h1, h2 with
    | [x, y], _, h2 =>
      obtain ⟨a, rfl, h3⟩ := isNum_int (h2 x (by simp))
      obtain ⟨b, rfl, h4⟩ := isNum_int (h2 y (by simp))
      exact ⟨a, b, rfl, h3.1, h3.2, h4.1, h4.2⟩
    | [], h1, _ => simp at h1
    | [x], h1, _ => simp at h1
    | x :: y :: z :: r, h1, _ => simp at h1; omega
  | _ => simp [areNums] at h
theorem check_use {b : Bool} {n : Str} {Q : D → Prop} {EX : EXn} (hn : n.length ≤ 1000) (h1 : b = true → Q .none) (h2 : b = false → EX (.bad n)) : check_s [.d (.bool b), .d (.str n)] Q EX := ⟨b, n, rfl, hn, h1, h2⟩
theorem nums_read {xs : List D} {lo hi : Int} (h : xs.all (fun x => isNum x lo hi) = true) : (xs.map rdI).map .int = xs ∧ ∀ i ∈ xs.map rdI, lo ≤ i ∧ i ≤ hi := by
  induction xs with
  | nil => exact ⟨rfl, fun i h => (List.not_mem_nil h).elim⟩
  | cons x xs ih =>
    rw [List.all_cons, Bool.and_eq_true] at h
    obtain ⟨i, rfl, h1⟩ := isNum_int h.1
    have ih := ih h.2
    refine ⟨by rw [List.map_cons, List.map_cons, ih.1]; rfl, fun j hj => ?_⟩
    rw [List.map_cons] at hj
    rcases List.mem_cons.mp hj with rfl | hj
    · exact h1
    · exact ih.2 j hj
theorem areNums_read {d : D} {n lo hi : Int} (h : areNums d n lo hi = true) : ∃ ns : List Int, d = intsT ns ∧ (ns.length : Int) = n ∧ ∀ i ∈ ns, lo ≤ i ∧ i ≤ hi := by
  cases d with
  | tuple xs =>
    simp only [areNums, Bool.and_eq_true, decide_eq_true_eq] at h
    obtain ⟨h1, h2⟩ := nums_read h.2
    exact ⟨xs.map rdI, by unfold intsT; rw [h1], by rw [List.length_map]; exact h.1, h2⟩
  | _ => simp [areNums] at h
theorem areNums_ints {ns : List Int} {n lo hi : Int} (h1 : (ns.length : Int) = n) (h2 : ∀ i ∈ ns, lo ≤ i ∧ i ≤ hi) : areNums (intsT ns) n lo hi = true := by
  simp only [intsT, areNums, Bool.and_eq_true, decide_eq_true_eq, List.length_map]
  refine ⟨h1, ?_⟩
  rw [List.all_map, List.all_eq_true]
  intro i hm
  show (decide (lo ≤ i) && decide (i ≤ hi)) = true
  rw [decide_eq_true (h2 i hm).1, decide_eq_true (h2 i hm).2]
  rfl
end DD
set_option maxRecDepth 100000
set_option maxHeartbeats 8000000
/-! BasE: more that the laws share: bent things. -/
namespace DD
open PySem PySem.Spec PyProof.Rows L2 GenW
theorem some_of_lt' {α : Type} {l : List α} {i : Nat} (h : i < l.length) : ∃ x, l[i]? = some x := ⟨_, List.getElem?_eq_getElem h⟩
def itemsOk : D → Prop
  | .tuple xs => xs.length ≤ 1000 ∧ ∀ x ∈ xs, shD 5 x
  | _ => True
theorem areNums_len {xs : List D} {n lo hi : Int} (h : (xs.length : Int) ≠ n) : areNums (.tuple xs) n lo hi = false := by
  simp [areNums, h]
theorem areNums_first {x : D} {xs : List D} {n lo hi : Int} (h : isNum x lo hi = false) : areNums (.tuple (x :: xs)) n lo hi = false := by
  simp [areNums, h]
theorem eq_nilT {xs : List D} {Q : Bool → Prop} (h : SeqAt.shaped (.tuple xs) = true) (q : Q xs.isEmpty) : gEq (.tuple xs) (.tuple []) Q := by
  refine ⟨h, rfl, ?_⟩
  cases xs with
  | nil => exact q
  | cons x xs => exact q
theorem items_ints {ns : List Int} (h : ns.length ≤ 1000) : itemsOk (.tuple (ns.map .int)) := ⟨by rw [List.length_map]; exact h, shD_ints⟩
end DD
set_option maxRecDepth 100000
/-! K17M: weighing with two pans: the plain sums. -/
namespace K17
def ways : Nat → List (List Int)
  | 0 => [[]]
  | n + 1 => (ways n).map (fun p => p ++ [0]) ++ (ways n).map (fun p => p ++ [1]) ++ (ways n).map (fun p => p ++ [-1])
theorem ways_succ (n : Nat) : ways (n + 1) = (ways n).map (fun p => p ++ [0]) ++ (ways n).map (fun p => p ++ [1]) ++ (ways n).map (fun p => p ++ [-1]) := rfl
def weigh (ws p : List Int) : Int := (List.zipWith (fun w s => w * s) ws p).sum
def nz (s : Int) : Bool := decide (s ≠ 0)
def used (p : List Int) : Nat := (p.filter nz).length
def side (s : Int) : Prop := s = 0 ∨ s = 1 ∨ s = -1
structure Pan (n : Nat) (p : List Int) : Prop where
  len : p.length = n
  all : ∀ s ∈ p, side s
theorem pan_snoc {n : Nat} {p : List Int} {s : Int} (h : Pan n p) (hs : side s) : Pan (n + 1) (p ++ [s]) :=
  ⟨by rw [List.length_append, h.len]; rfl, fun x hx => by
    rcases List.mem_append.mp hx with hx | hx
    · exact h.all x hx
    · rw [List.mem_singleton] at hx; rw [hx]; exact hs⟩
theorem pan_out {n : Nat} {p : List Int} (h : Pan (n + 1) p) : ∃ q s, p = q ++ [s] ∧ Pan n q ∧ side s := by
  have hl := h.len
  have hne : p ≠ [] := fun z => by rw [z] at hl; cases hl
  refine ⟨p.dropLast, p.getLast hne, (List.dropLast_concat_getLast hne).symm, ⟨by rw [List.length_dropLast, hl]; rfl, fun x hx => h.all x (List.dropLast_subset p hx)⟩, h.all _ (List.getLast_mem hne)⟩
theorem mem_ways {n : Nat} : ∀ {p : List Int}, p ∈ ways n ↔ Pan n p := by
  induction n with
  | zero =>
    intro p
    show p ∈ [[]] ↔ _
    rw [List.mem_singleton]
    exact ⟨fun e => by rw [e]; exact ⟨rfl, fun s h => by cases h⟩, fun h => List.eq_nil_of_length_eq_zero h.len⟩
  | succ n ih =>
    intro p
    rw [ways_succ, List.mem_append, List.mem_append]
    constructor
    · rintro ((h | h) | h) <;> (obtain ⟨q, hq, rfl⟩ := List.mem_map.mp h)
      · exact pan_snoc (ih.mp hq) (.inl rfl)
      · exact pan_snoc (ih.mp hq) (.inr (.inl rfl))
      · exact pan_snoc (ih.mp hq) (.inr (.inr rfl))
    · intro h
      obtain ⟨q, s, rfl, hq, hs⟩ := pan_out h
      rcases hs with rfl | rfl | rfl
      · exact .inl (.inl (List.mem_map.mpr ⟨q, ih.mpr hq, rfl⟩))
      · exact .inl (.inr (List.mem_map.mpr ⟨q, ih.mpr hq, rfl⟩))
      · exact .inr (List.mem_map.mpr ⟨q, ih.mpr hq, rfl⟩)
theorem ways_len (n : Nat) : (ways n).length = 3 ^ n := by
  induction n with
  | zero => rfl
  | succ n ih =>
    rw [ways_succ, List.length_append, List.length_append, List.length_map, List.length_map, List.length_map, ih, Nat.pow_succ]
    omega
theorem weigh_snoc : ∀ {ws p : List Int} {w s : Int}, ws[p.length]? = some w → weigh ws (p ++ [s]) = weigh ws p + s * w
  | [], p, w, s, h => by simp at h
  | v :: ws, [], w, s, h => by
    simp at h
    subst h
    show ([v * s] ++ List.zipWith _ ws []).sum = ([] : List Int).sum + s * v
    rw [List.zipWith_nil_right, List.append_nil]
    simp [Int.mul_comm]
  | v :: ws, a :: p, w, s, h => by
    have ih := weigh_snoc (ws := ws) (p := p) (s := s) (w := w) (by simpa using h)
    unfold weigh at ih ⊢
    rw [List.cons_append, List.zipWith_cons_cons, List.zipWith_cons_cons, List.sum_cons, List.sum_cons, ih]
    omega
theorem used_snoc {p : List Int} {s : Int} : used (p ++ [s]) = used p + (if s = 0 then 0 else 1) := by
  unfold used
  rw [List.filter_append, List.length_append]
  congr 1
  by_cases h : s = 0
  · subst h; rfl
  · rw [if_neg h]
    have : nz s = true := by simp [nz, h]
    simp [List.filter_cons, this]
structure Best (ws : List Int) (n : Nat) (t : Int) (p : List Int) : Prop where
  pan : Pan n p
  sum : weigh ws p = t
  least : ∀ q, Pan n q → weigh ws q = t → used p ≤ used q
/-- what is weighed at most -/
theorem weigh_bound : ∀ {ws p : List Int} {B : Int}, (∀ w ∈ ws, 1 ≤ w ∧ w ≤ B) → (∀ s ∈ p, side s) → weigh ws p ≤ B * ws.length ∧ - (B * ws.length) ≤ weigh ws p
  | [], p, B, _, _ => by simp [weigh]
  | w :: ws, [], B, h, _ => by
    have h1 := h w List.mem_cons_self
    have : 0 ≤ B * ((w :: ws).length : Int) := Int.mul_nonneg (by omega) (by omega)
    simp only [weigh, List.zipWith_nil_right, List.sum_nil]
    omega
  | w :: ws, s :: p, B, h, hs => by
    obtain ⟨i1, i2⟩ := weigh_bound (ws := ws) (p := p) (B := B) (fun x hx => h x (List.mem_cons_of_mem _ hx)) (fun x hx => hs x (List.mem_cons_of_mem _ hx))
    have h1 := h w List.mem_cons_self
    have h2 := hs s List.mem_cons_self
    unfold weigh at i1 i2 ⊢
    rw [List.zipWith_cons_cons, List.sum_cons, List.length_cons]
    have e : B * ((ws.length + 1 : Nat) : Int) = B * ws.length + B := by rw [Int.natCast_add, Int.mul_add]; simp
    rw [e]
    rcases h2 with rfl | rfl | rfl
    · rw [Int.mul_zero]; omega
    · rw [Int.mul_one]; omega
    · rw [Int.mul_neg, Int.mul_one]; omega
def cnt (ws : List Int) (n : Nat) (t : Int) : Nat := ((ways n).filter fun q => decide (weigh ws q = t)).length
theorem filter_map_len {ws : List Int} {n : Nat} {t w s : Int} (hw : ws[n]? = some w) : (((ways n).map fun p => p ++ [s]).filter fun q => decide (weigh ws q = t)).length = cnt ws n (t - s * w) := by
  unfold cnt
  rw [List.filter_map, List.length_map]
  congr 1
  refine List.filter_congr fun p hp => ?_
  have hl := (mem_ways.mp hp).len
  show decide (weigh ws (p ++ [s]) = t) = decide (weigh ws p = t - s * w)
  rw [weigh_snoc (by rw [hl]; exact hw)]
  by_cases h : weigh ws p = t - s * w
  · rw [decide_eq_true h, decide_eq_true (by omega)]
  · rw [decide_eq_false h, decide_eq_false (by omega)]
theorem cnt_succ {ws : List Int} {n : Nat} {t w : Int} (hw : ws[n]? = some w) : cnt ws (n + 1) t = cnt ws n t + cnt ws n (t - w) + cnt ws n (t + w) := by
  have h0 := filter_map_len (t := t) (s := 0) hw
  have h1 := filter_map_len (t := t) (s := 1) hw
  have h2 := filter_map_len (t := t) (s := -1) hw
  rw [Int.zero_mul, Int.sub_zero] at h0
  rw [Int.one_mul] at h1
  rw [Int.neg_mul, Int.one_mul, Int.sub_neg] at h2
  rw [← h0, ← h1, ← h2]
  unfold cnt
  rw [ways_succ, List.filter_append, List.filter_append, List.length_append, List.length_append]
theorem cnt_zero {ws : List Int} {t : Int} : cnt ws 0 t = if t = 0 then 1 else 0 := by
  unfold cnt
  have : weigh ws [] = 0 := by simp [weigh]
  show (List.filter _ [[]]).length = _
  by_cases h : t = 0
  · subst h; simp [List.filter_cons, this]
  · have h' : ¬ (0 : Int) = t := fun z => h z.symm
    simp [List.filter_cons, this, h, h']
/-! ### rows that rise -/
def Rise (S : List Int) : Prop := S.Pairwise (· < ·)
theorem rise_eq : ∀ {S T : List Int}, Rise S → Rise T → (∀ x, x ∈ S ↔ x ∈ T) → S = T
  | [], [], _, _, _ => rfl
  | [], t :: T, _, _, h => absurd ((h t).mpr List.mem_cons_self) (by simp)
  | s :: S, [], _, _, h => absurd ((h s).mp List.mem_cons_self) (by simp)
  | s :: S, t :: T, hs, ht, h => by
    have hs' := List.pairwise_cons.mp hs
    have ht' := List.pairwise_cons.mp ht
    have e : s = t := by
      rcases List.mem_cons.mp ((h s).mp List.mem_cons_self) with e | e
      · exact e
      · rcases List.mem_cons.mp ((h t).mpr List.mem_cons_self) with e2 | e2
        · exact e2.symm
        · have := ht'.1 s e
          have := hs'.1 t e2
          omega
    subst e
    rw [rise_eq hs'.2 ht'.2 fun x => ?_]
    have := h x
    rw [List.mem_cons, List.mem_cons] at this
    constructor
    · intro hx
      rcases this.mp (.inr hx) with e | e
      · have := hs'.1 x hx; omega
      · exact e
    · intro hx
      rcases this.mpr (.inr hx) with e | e
      · have := ht'.1 x hx; omega
      · exact e
/-- a sorted row without repeats rises -/
theorem rise_of {S : List Int} (h : S.Pairwise (· ≤ ·)) (n : S.Nodup) : Rise S := by
  unfold Rise
  induction S with
  | nil => exact .nil
  | cons s S ih =>
    rw [List.pairwise_cons] at h ⊢
    rw [List.nodup_cons] at n
    refine ⟨fun x hx => ?_, ih h.2 n.2⟩
    have := h.1 x hx
    have : s ≠ x := fun z => n.1 (by rw [z]; exact hx)
    omega
/-- the first of each run of alike ones -/
def firsts (L : List Int) : List Nat := (List.range L.length).filter fun k => decide (k = 0) || decide (L.getD k 0 ≠ L.getD (k - 1) 0)
theorem firsts_rise {L : List Int} (h : L.Pairwise (· ≤ ·)) : Rise ((firsts L).map fun k => L.getD k 0) ∧ ∀ x, x ∈ (firsts L).map (fun k => L.getD k 0) ↔ x ∈ L := by
  have mono : ∀ i j, i ≤ j → j < L.length → L.getD i 0 ≤ L.getD j 0 := fun i j hij hj => by
    rcases Nat.lt_or_eq_of_le hij with hij | rfl
    · have := List.pairwise_iff_getElem.mp h i j (by omega) hj hij
      rw [List.getD_eq_getElem?_getD, List.getD_eq_getElem?_getD, List.getElem?_eq_getElem hj, List.getElem?_eq_getElem (by omega : i < L.length)]
      exact this
    · exact Int.le_refl _
  constructor
  · unfold Rise firsts
    rw [List.pairwise_map]
    have hr : ((List.range L.length).filter fun k => decide (k = 0) || decide (L.getD k 0 ≠ L.getD (k - 1) 0)).Pairwise (· < ·) := List.Pairwise.filter _ List.pairwise_lt_range
    refine List.Pairwise.imp_of_mem (fun {i j} hi hj hij => ?_) hr
    rw [List.mem_filter, List.mem_range] at hi hj
    have h1 := mono i (j - 1) (by omega) (by omega)
    have h2 := mono (j - 1) j (by omega) hj.1
    have h3 := hj.2
    simp only [Bool.or_eq_true, decide_eq_true_eq] at h3
    rcases h3 with h3 | h3
    · omega
    · have : L.getD (j - 1) 0 ≠ L.getD j 0 := fun z => h3 z.symm
      omega
  · intro x
    rw [List.mem_map]
    constructor
    · rintro ⟨k, hk, rfl⟩
      unfold firsts at hk
      rw [List.mem_filter, List.mem_range] at hk
      rw [List.getD_eq_getElem?_getD, List.getElem?_eq_getElem hk.1]
      exact List.getElem_mem _
    · intro hx
      obtain ⟨i, hi, e⟩ := List.mem_iff_getElem.mp hx
      -- the least place with this value
      have key : ∀ m, m < L.length → L.getD m 0 = x → ∃ k, k ∈ firsts L ∧ L.getD k 0 = x := by
        intro m
        induction m with
        | zero => exact fun hm e => ⟨0, by unfold firsts; rw [List.mem_filter, List.mem_range]; exact ⟨hm, by simp⟩, e⟩
        | succ m ih =>
          intro hm e
          by_cases z : L.getD (m + 1) 0 = L.getD m 0
          · exact ih (by omega) (by rw [← z]; exact e)
          · exact ⟨m + 1, by unfold firsts; rw [List.mem_filter, List.mem_range]; exact ⟨hm, by simpa using z⟩, e⟩
      exact key i hi (by rw [List.getD_eq_getElem?_getD, List.getElem?_eq_getElem hi]; exact e)
/-- the least number from 0 on that is not in S -/
def Missing (S : List Int) (m : Nat) : Prop := (∀ k : Nat, k < m → (k : Int) ∈ S) ∧ (m : Int) ∉ S
theorem missing_eq {S : List Int} {m m' : Nat} (h : Missing S m) (h' : Missing S m') : m = m' := by
  rcases Nat.lt_trichotomy m m' with c | c | c
  · exact absurd (h'.1 m c) h.2
  · exact c
  · exact absurd (h.1 m' c) h'.2
theorem nodup_sub {α : Type} [DecidableEq α] : ∀ {l m : List α}, l.Nodup → l ⊆ m → l.length ≤ m.length
  | [], m, _, _ => Nat.zero_le _
  | x :: l, m, hn, hs => by
    rw [List.nodup_cons] at hn
    have hx : x ∈ m := hs List.mem_cons_self
    have h1 : l ⊆ m.erase x := fun y hy => by
      have hy2 := hs (List.mem_cons_of_mem _ hy)
      exact (List.mem_erase_of_ne (fun z => hn.1 (by rw [← z]; exact hy))).mpr hy2
    have := nodup_sub hn.2 h1
    rw [List.length_erase_of_mem hx] at this
    have : 0 < m.length := List.length_pos_of_mem hx
    rw [List.length_cons]
    omega
theorem missing_le {S : List Int} {m : Nat} (h : Missing S m) : m ≤ S.length := by
  have hn : ((List.range m).map fun k : Nat => (k : Int)).Nodup := by
    have : (List.range m).Nodup := List.nodup_range
    unfold List.Nodup at this ⊢
    rw [List.pairwise_map]
    exact this.imp fun {a b} hab z => hab (by exact_mod_cast z)
  have hs : ((List.range m).map fun k : Nat => (k : Int)) ⊆ S := fun x hx => by
    obtain ⟨k, hk, rfl⟩ := List.mem_map.mp hx
    exact h.1 k (List.mem_range.mp hk)
  have := nodup_sub hn hs
  simpa using this
theorem missing_filter {S : List Int} {m N : Nat} (h : Missing S m) (hN : m < N) : ∃ r, (List.range N).filter (fun k : Nat => !decide ((k : Int) ∈ S)) = m :: r := by
  have e : List.range N = List.range m ++ (m :: List.range' (m + 1) (N - m - 1)) := by
    rw [List.range_eq_range', List.range_eq_range', show N = m + (N - m - 1 + 1) by omega, ← List.range'_append]
    simp [List.range'_succ]
  rw [e, List.filter_append]
  have e0 : (List.range m).filter (fun k : Nat => !decide ((k : Int) ∈ S)) = [] := by
    rw [List.filter_eq_nil_iff]
    intro k hk
    have := h.1 k (List.mem_range.mp hk)
    simp [this]
  rw [e0, List.nil_append, List.filter_cons]
  have : (!decide ((m : Int) ∈ S)) = true := by simp [h.2]
  rw [if_pos this]
  exact ⟨_, rfl⟩
end K17
set_option maxRecDepth 100000
set_option maxHeartbeats 8000000
namespace BFS
variable {α : Type} {G : α → α → Prop} {s : α}
theorem nodup_sub [DecidableEq α] : ∀ {l m : List α}, l.Nodup → l ⊆ m → l.length ≤ m.length
  | [], m, _, _ => Nat.zero_le _
  | x :: l, m, hn, hs => by
    rw [List.nodup_cons] at hn
    have hx : x ∈ m := hs List.mem_cons_self
    have h1 : l ⊆ m.erase x := fun y hy => by
      have hy2 := hs (List.mem_cons_of_mem _ hy)
      exact (List.mem_erase_of_ne (fun z => hn.1 (by rw [← z]; exact hy))).mpr hy2
    have := nodup_sub hn.2 h1
    rw [List.length_erase_of_mem hx] at this
    have : 0 < m.length := List.length_pos_of_mem hx
    rw [List.length_cons]
    omega
/-! ### how far -/
inductive Walk (G : α → α → Prop) (s : α) : Nat → α → Prop
  | zero : Walk G s 0 s
  | succ {n : Nat} {x y : α} : Walk G s n x → G x y → Walk G s (n + 1) y
def Dist (G : α → α → Prop) (s : α) (x : α) (d : Nat) : Prop := Walk G s d x ∧ ∀ n, Walk G s n x → d ≤ n
def Reach (G : α → α → Prop) (s : α) (x : α) : Prop := ∃ n, Walk G s n x
theorem Dist.uniq {x : α} {d e : Nat} (h : Dist G s x d) (h' : Dist G s x e) : d = e := Nat.le_antisymm (h.2 _ h'.1) (h'.2 _ h.1)
theorem reach_dist {x : α} (h : Reach G s x) : ∃ d, Dist G s x d := by
  obtain ⟨n, h⟩ := h
  induction n using Nat.strongRecOn with
  | _ n ih =>
    by_cases c : ∃ m, m < n ∧ Walk G s m x
    · obtain ⟨m, hm, hw⟩ := c
      exact ih m hm hw
    · exact ⟨n, h, fun m hm => Nat.le_of_not_lt fun z => c ⟨m, z, hm⟩⟩
theorem dist_start : Dist G s s 0 := ⟨.zero, fun _ _ => Nat.zero_le _⟩
theorem walk_inv {n : Nat} {y : α} (h : Walk G s (n + 1) y) : ∃ x, Walk G s n x ∧ G x y := by
  cases h with
  | succ h g => exact ⟨_, h, g⟩
/-! ### a queue -/
structure Qu (G : α → α → Prop) (s : α) (L : List (α × Nat)) (at_ : Nat) : Prop where
  nd : (L.map (·.1)).Nodup
  hd : (s, 0) ∈ L
  dist : ∀ e ∈ L, Dist G s e.1 e.2
  up : L.Pairwise fun a b => a.2 ≤ b.2
  near : ∀ e, L[at_]? = some e → ∀ f ∈ L, f.2 ≤ e.2 + 1
  closed : ∀ i e, i < at_ → L[i]? = some e → ∀ y, G e.1 y → y ∈ L.map (·.1)
theorem qu_start : Qu G s [(s, 0)] 0 where
  nd := by simp
  hd := List.mem_cons_self
  dist := fun e he => by
    rw [List.mem_singleton] at he
    rw [he]; exact dist_start
  up := by simp
  near := fun e he f hf => by
    rw [List.mem_singleton] at hf
    rw [hf]; exact Nat.zero_le _
  closed := fun i e hi => absurd hi (Nat.not_lt_zero _)
/-- all that is nearer than the one at hand is in the queue -/
theorem qu_all {L : List (α × Nat)} {at_ : Nat} {x : α} {d : Nat} (h : Qu G s L at_) (hx : L[at_]? = some (x, d)) : ∀ n y, n ≤ d → Walk G s n y → y ∈ L.map (·.1)
  | 0, y, _, hw => by
    cases hw
    exact List.mem_map.mpr ⟨_, h.hd, rfl⟩
  | n + 1, y, hn, hw => by
    obtain ⟨w, hw, g⟩ := walk_inv hw
    obtain ⟨e, he, rfl⟩ := List.mem_map.mp (qu_all h hx n w (by omega) hw)
    obtain ⟨i, hi, e1⟩ := List.getElem_of_mem he
    have hi' : L[i]? = some e := by rw [List.getElem?_eq_getElem hi, e1]
    by_cases c : i < at_
    · exact h.closed i e c hi' y g
    · exfalso
      have hd := (h.dist e he).2 n hw
      obtain ⟨hat, e2⟩ := List.getElem?_eq_some_iff.mp hx
      by_cases z : i = at_
      · subst z
        rw [e2] at e1
        rw [← e1] at hd
        have : d ≤ n := hd
        omega
      · have := List.pairwise_iff_getElem.mp h.up at_ i hat hi (by omega)
        rw [e1, e2] at this
        have : d ≤ e.2 := this
        omega
theorem qu_new {L : List (α × Nat)} {at_ : Nat} {x y : α} {d : Nat} (h : Qu G s L at_) (hx : L[at_]? = some (x, d)) (g : G x y) (hy : y ∉ L.map (·.1)) : Qu G s (L ++ [(y, d + 1)]) at_ := by
  have hxm : (x, d) ∈ L := List.mem_of_getElem? hx
  have hat : at_ < L.length := (List.getElem?_eq_some_iff.mp hx).1
  refine ⟨?_, List.mem_append_left _ h.hd, fun e he => ?_, ?_, fun e he f hf => ?_, fun i e hi he y' g' => ?_⟩
  · rw [List.map_append]
    refine List.nodup_append.mpr ⟨h.nd, by simp, fun a ha b hb => ?_⟩
    simp at hb
    rintro rfl
    exact hy (hb ▸ ha)
  · rcases List.mem_append.mp he with he | he
    · exact h.dist e he
    · rw [List.mem_singleton] at he
      subst he
      refine ⟨.succ (h.dist _ hxm).1 g, fun n hw => Nat.lt_of_not_le fun z => hy (qu_all h hx n y z hw)⟩
  · refine List.pairwise_append.mpr ⟨h.up, by simp, fun a ha b hb => ?_⟩
    rw [List.mem_singleton] at hb
    subst hb
    exact h.near _ hx a ha
  · rw [List.getElem?_append_left hat, hx] at he
    cases he
    rcases List.mem_append.mp hf with hf | hf
    · exact h.near _ hx f hf
    · rw [List.mem_singleton] at hf
      subst hf
      exact Nat.le_refl _
  · rw [List.getElem?_append_left (by omega)] at he
    rw [List.map_append]
    exact List.mem_append_left _ (h.closed i e hi he y' g')
theorem qu_turn {L : List (α × Nat)} {at_ : Nat} {x : α} {d : Nat} (h : Qu G s L at_) (hx : L[at_]? = some (x, d)) (hg : ∀ y, G x y → y ∈ L.map (·.1)) : Qu G s L (at_ + 1) := by
  obtain ⟨hat, e2⟩ := List.getElem?_eq_some_iff.mp hx
  refine ⟨h.nd, h.hd, h.dist, h.up, fun e he f hf => ?_, fun i e hi he y g => ?_⟩
  · obtain ⟨hat1, e1⟩ := List.getElem?_eq_some_iff.mp he
    have := List.pairwise_iff_getElem.mp h.up at_ (at_ + 1) hat hat1 (by omega)
    rw [e1, e2] at this
    have a := h.near _ hx f hf
    have : d ≤ e.2 := this
    have : f.2 ≤ d + 1 := a
    omega
  · by_cases z : i = at_
    · subst z
      rw [hx] at he
      cases he
      exact hg y g
    · exact h.closed i e (by omega) he y g
/-- what is told of all that is reached -/
structure Full (G : α → α → Prop) (s : α) (L : List (α × Nat)) : Prop where
  nd : (L.map (·.1)).Nodup
  hd : (s, 0) ∈ L
  dist : ∀ e ∈ L, Dist G s e.1 e.2
  all : ∀ x, Reach G s x → x ∈ L.map (·.1)
theorem Full.dist' {L : List (α × Nat)} (h : Full G s L) {x : α} {d : Nat} (hx : Dist G s x d) : (x, d) ∈ L := by
  obtain ⟨e, he, rfl⟩ := List.mem_map.mp (h.all x ⟨d, hx.1⟩)
  have := (h.dist e he).uniq hx
  subst this
  exact he
theorem qu_end {L : List (α × Nat)} {at_ : Nat} (h : Qu G s L at_) (hl : L.length ≤ at_) : Full G s L := by
  refine ⟨h.nd, h.hd, h.dist, fun x hr => ?_⟩
  obtain ⟨n, hx⟩ := hr
  induction hx with
  | zero => exact List.mem_map.mpr ⟨_, h.hd, rfl⟩
  | succ hw g ih =>
    obtain ⟨e, he, rfl⟩ := List.mem_map.mp ih
    obtain ⟨i, hi, e1⟩ := List.getElem_of_mem he
    exact h.closed i e (by omega) (by rw [List.getElem?_eq_getElem hi, e1]) _ g
/-! ### level by level -/
structure Lv (G : α → α → Prop) (s : α) (K : List (α × Nat)) (A : List α) (m : Nat) : Prop where
  nd : (K.map (·.1)).Nodup
  hd : (s, 0) ∈ K
  dist : ∀ e ∈ K, Dist G s e.1 e.2
  all : ∀ x d, Dist G s x d → d ≤ m → x ∈ K.map (·.1)
  le : ∀ e ∈ K, e.2 ≤ m
  lev : ∀ x, x ∈ A ↔ (x, m) ∈ K
theorem lv_start : Lv G s [(s, 0)] [s] 0 where
  nd := by simp
  hd := List.mem_cons_self
  dist := fun e he => by
    rw [List.mem_singleton] at he
    rw [he]; exact dist_start
  all := fun x d h hd => by
    have : d = 0 := by omega
    subst this
    cases h.1
    simp
  le := fun e he => by
    rw [List.mem_singleton] at he
    rw [he]; exact Nat.zero_le _
  lev := fun x => by simp
/-- within a level -/
structure Md (G : α → α → Prop) (s : α) (K : List (α × Nat)) (B : List α) (m : Nat) : Prop where
  nd : (K.map (·.1)).Nodup
  hd : (s, 0) ∈ K
  dist : ∀ e ∈ K, Dist G s e.1 e.2
  all : ∀ x d, Dist G s x d → d ≤ m → x ∈ K.map (·.1)
  le : ∀ e ∈ K, e.2 ≤ m + 1
  lev : ∀ x, x ∈ B ↔ (x, m + 1) ∈ K
theorem lv_md {K : List (α × Nat)} {A : List α} {m : Nat} (h : Lv G s K A m) : Md G s K [] m :=
  ⟨h.nd, h.hd, h.dist, h.all, fun e he => by have := h.le e he; omega, fun x => ⟨fun z => absurd z List.not_mem_nil, fun z => by
    have : m + 1 ≤ m := h.le _ z
    omega⟩⟩
theorem md_new {K : List (α × Nat)} {B : List α} {m : Nat} {x y : α} (h : Md G s K B m) (hx : (x, m) ∈ K) (g : G x y) (hy : y ∉ K.map (·.1)) : Md G s (K ++ [(y, m + 1)]) (B ++ [y]) m := by
  refine ⟨?_, List.mem_append_left _ h.hd, fun e he => ?_, fun z d hz hd => ?_, fun e he => ?_, fun z => ?_⟩
  · rw [List.map_append]
    refine List.nodup_append.mpr ⟨h.nd, by simp, fun a ha b hb => ?_⟩
    simp at hb
    rintro rfl
    exact hy (hb ▸ ha)
  · rcases List.mem_append.mp he with he | he
    · exact h.dist e he
    · rw [List.mem_singleton] at he
      subst he
      refine ⟨.succ (h.dist _ hx).1 g, fun n hw => Nat.lt_of_not_le fun z => ?_⟩
      obtain ⟨d, hd⟩ := reach_dist ⟨n, hw⟩
      exact hy (h.all y d hd (Nat.le_trans (hd.2 n hw) z))
  · rw [List.map_append]
    exact List.mem_append_left _ (h.all z d hz hd)
  · rcases List.mem_append.mp he with he | he
    · exact h.le e he
    · rw [List.mem_singleton] at he
      subst he
      exact Nat.le_refl _
  · rw [List.mem_append, List.mem_append, h.lev z, List.mem_singleton, List.mem_singleton]
    constructor
    · rintro (a | a)
      · exact .inl a
      · exact .inr (by rw [a])
    · rintro (a | a)
      · exact .inl a
      · exact .inr (congrArg Prod.fst a)
theorem md_turn {K : List (α × Nat)} {B : List α} {m : Nat} (h : Md G s K B m) (hg : ∀ x y, (x, m) ∈ K → G x y → y ∈ K.map (·.1)) : Lv G s K B (m + 1) := by
  refine ⟨h.nd, h.hd, h.dist, fun y d hy hd => ?_, h.le, h.lev⟩
  by_cases c : d ≤ m
  · exact h.all y d hy c
  · have : d = m + 1 := by omega
    subst this
    obtain ⟨x, hw, g⟩ := walk_inv hy.1
    have hx : Dist G s x m := ⟨hw, fun n hn => by
      have := hy.2 _ (.succ hn g)
      omega⟩
    obtain ⟨e, he, e1⟩ := List.mem_map.mp (h.all x m hx (Nat.le_refl _))
    have e2 := h.dist e he
    rw [e1] at e2
    have e3 := e2.uniq hx
    have : e = (x, m) := by rw [← e1, ← e3]
    rw [this] at he
    exact hg x y he g
theorem lv_end {K : List (α × Nat)} {m : Nat} (h : Lv G s K [] m) : Full G s K := by
  refine ⟨h.nd, h.hd, h.dist, fun x hr => ?_⟩
  obtain ⟨n, hx⟩ := hr
  induction hx with
  | zero => exact List.mem_map.mpr ⟨_, h.hd, rfl⟩
  | succ hw g ih =>
    rename_i y
    obtain ⟨e, he, rfl⟩ := List.mem_map.mp ih
    have h1 := h.le e he
    have h2 : e.2 ≠ m := fun z => by
      have := (h.lev e.1).mpr (by rw [← z]; exact he)
      exact List.not_mem_nil this
    have hd := (h.dist e he).1
    obtain ⟨d, hy⟩ := reach_dist ⟨_, hd.succ g⟩
    exact h.all y d hy (Nat.le_trans (hy.2 _ (hd.succ g)) (by omega))
/-! ### two that are full -/
theorem Full.length_eq [DecidableEq α] {K L : List (α × Nat)} (h : Full G s K) (h' : Full G s L) : K.length = L.length := by
  have sub : ∀ {K L : List (α × Nat)}, Full G s K → Full G s L → K.length ≤ L.length := fun {K L} h h' => by
    have := nodup_sub h.nd (m := L.map (·.1)) (fun x hx => by
      obtain ⟨e, he, rfl⟩ := List.mem_map.mp hx
      exact h'.all e.1 ⟨_, (h.dist e he).1⟩)
    rwa [List.length_map, List.length_map] at this
  exact Nat.le_antisymm (sub h h') (sub h' h)
theorem Full.mem_iff {K L : List (α × Nat)} (h : Full G s K) (h' : Full G s L) (e : α × Nat) : e ∈ K ↔ e ∈ L :=
  ⟨fun he => h'.dist' (h.dist e he), fun he => h.dist' (h'.dist e he)⟩
end BFS
set_option maxRecDepth 100000
set_option maxHeartbeats 8000000
namespace K25
open BFS
structure Rm (rs : List Int) : Prop where
  pos : 1 ≤ rs.length
  len : rs.length ≤ 3
  all : ∀ r ∈ rs, 1 ≤ r ∧ r ≤ 12
structure St (rs v : List Int) : Prop where
  len : v.length = rs.length
  all : ∀ k, k < rs.length → 0 ≤ v.getD k 0 ∧ v.getD k 0 ≤ rs.getD k 0
abbrev Dd := Nat × Int
def IsDd (n : Nat) (p : Dd) : Prop := p.1 < n ∧ -2 ≤ p.2 ∧ p.2 < n ∧ (p.1 : Int) ≠ p.2
instance {n : Nat} {p : Dd} : Decidable (IsDd n p) := by unfold IsDd; exact inferInstance
def bh (rs v : List Int) (p : Dd) : List Int :=
  if p.2 = -1 then v.set p.1 (rs.getD p.1 0)
  else if p.2 = -2 then v.set p.1 0
  else (v.set p.1 (v.getD p.1 0 - min (v.getD p.1 0) (rs.getD p.2.toNat 0 - v.getD p.2.toNat 0))).set p.2.toNat (v.getD p.2.toNat 0 + min (v.getD p.1 0) (rs.getD p.2.toNat 0 - v.getD p.2.toNat 0))
theorem Rm.at {rs : List Int} (R : Rm rs) {k : Nat} (h : k < rs.length) : 1 ≤ rs.getD k 0 ∧ rs.getD k 0 ≤ 12 := by
  rw [List.getD_eq_getElem?_getD, List.getElem?_eq_getElem h]
  exact R.all _ (List.getElem_mem h)
theorem getD_set {v : List Int} {i k : Nat} {x : Int} (h : i < v.length) : (v.set i x).getD k 0 = if i = k then x else v.getD k 0 := by
  rw [List.getD_eq_getElem?_getD, List.getElem?_set]
  by_cases z : i = k
  · subst z; simp [h]
  · simp [z]
theorem bh_len {rs v : List Int} {p : Dd} : (bh rs v p).length = v.length := by
  unfold bh
  split
  · simp
  · split <;> simp
theorem bh_st {rs v : List Int} {p : Dd} (R : Rm rs) (S : St rs v) (h : IsDd rs.length p) : St rs (bh rs v p) := by
  refine ⟨by rw [bh_len, S.len], fun k hk => ?_⟩
  have hl := S.len
  have h1 := h.1
  have hpk := S.all p.1 h.1
  have hkk := S.all k hk
  have rk := R.at hk
  have rp := R.at h.1
  unfold bh
  split
  · rw [getD_set (by omega)]
    split
    · next e => subst e; omega
    · exact hkk
  · split
    · rw [getD_set (by omega)]
      split
      · omega
      · exact hkk
    · next c1 c2 =>
      obtain ⟨_, h2, h3, h4⟩ := h
      have hw : p.2.toNat < rs.length := by omega
      have hww := S.all _ hw
      rw [getD_set (by simp; omega), getD_set (by omega)]
      split
      · next e => subst e; omega
      · split
        · next e => subst e; omega
        · exact hkk
def G (rs : List Int) (x y : List Int) : Prop := ∃ p, IsDd rs.length p ∧ bh rs x p = y
theorem walk_st {rs s v : List Int} {n : Nat} (R : Rm rs) (S : St rs s) (h : Walk (G rs) s n v) : St rs v := by
  induction h with
  | zero => exact S
  | succ h g ih =>
    obtain ⟨p, hp, rfl⟩ := g
    exact bh_st R ih hp
/-! ### all deeds -/
def deedsOf (n k : Nat) : List Dd := [(k, -1), (k, -2)] ++ ((List.range n).filter fun j : Nat => decide ((j : Int) ≠ (k : Int))).map fun j : Nat => (k, (j : Int))
def deedsL (n m : Nat) : List Dd := (List.range m).flatMap (deedsOf n)
theorem deedsL_succ {n m : Nat} : deedsL n (m + 1) = deedsL n m ++ deedsOf n m := by
  unfold deedsL
  rw [List.range_succ, List.flatMap_append]
  simp
theorem mem_deeds {n : Nat} {p : Dd} : p ∈ deedsL n n ↔ IsDd n p := by
  unfold deedsL deedsOf IsDd
  obtain ⟨k, w⟩ := p
  simp only [List.mem_flatMap, List.mem_range, List.mem_append, List.mem_cons, List.not_mem_nil, or_false, List.mem_map, List.mem_filter, decide_eq_true_eq, Prod.mk.injEq]
  constructor
  · rintro ⟨a, ha, (⟨rfl, rfl⟩ | ⟨rfl, rfl⟩) | ⟨j, ⟨hj, hn⟩, rfl, rfl⟩⟩
    · omega
    · omega
    · omega
  · rintro ⟨h1, h2, h3, h4⟩
    refine ⟨k, h1, ?_⟩
    by_cases c1 : w = -1
    · exact .inl (.inl ⟨rfl, c1⟩)
    · by_cases c2 : w = -2
      · exact .inl (.inr ⟨rfl, c2⟩)
      · exact .inr ⟨w.toNat, ⟨by omega, by omega⟩, rfl, by omega⟩
theorem deedsOf_len {n k : Nat} : (deedsOf n k).length ≤ n + 2 := by
  unfold deedsOf
  have := List.length_filter_le (fun j : Nat => decide ((j : Int) ≠ k)) (List.range n)
  rw [List.length_range] at this
  simp only [List.length_append, List.length_cons, List.length_nil, List.length_map]
  omega
theorem deedsL_len {n : Nat} : ∀ m, (deedsL n m).length ≤ m * (n + 2)
  | 0 => by simp [deedsL]
  | m + 1 => by
    rw [deedsL_succ, List.length_append, Nat.succ_mul]
    have := deedsL_len (n := n) m
    have := deedsOf_len (n := n) (k := m)
    omega
/-! ### how many states -/
def allSt : Nat → List (List Int)
  | 0 => [[]]
  | n + 1 => (allSt n).flatMap fun v => (List.range 13).map fun k : Nat => (k : Int) :: v
theorem flat_len {α β : Type} {f : α → List β} {c : Nat} (h : ∀ x, (f x).length = c) : ∀ l : List α, (l.flatMap f).length = l.length * c
  | [] => by simp
  | x :: l => by rw [List.flatMap_cons, List.length_append, h, flat_len h l, List.length_cons, Nat.succ_mul]; omega
theorem allSt_len : ∀ n, (allSt n).length = 13 ^ n
  | 0 => rfl
  | n + 1 => by
    show List.length (List.flatMap _ _) = _
    rw [flat_len (c := 13) (fun x => by simp), allSt_len n, Nat.pow_succ]
theorem mem_allSt : ∀ {v : List Int}, (∀ x ∈ v, 0 ≤ x ∧ x ≤ 12) → v ∈ allSt v.length
  | [], _ => List.mem_cons_self
  | x :: v, h => by
    show _ ∈ List.flatMap _ _
    have hx := h x List.mem_cons_self
    refine List.mem_flatMap.mpr ⟨v, mem_allSt fun y hy => h y (List.mem_cons_of_mem _ hy), List.mem_map.mpr ⟨x.toNat, by rw [List.mem_range]; omega, ?_⟩⟩
    have : (x.toNat : Int) = x := by omega
    rw [this]
theorem St.lim {rs v : List Int} (R : Rm rs) (S : St rs v) : ∀ x ∈ v, 0 ≤ x ∧ x ≤ 12 := fun x hx => by
  obtain ⟨i, hi, e⟩ := List.getElem_of_mem hx
  have := S.all i (by rw [← S.len]; exact hi)
  have r := R.at (k := i) (by rw [← S.len]; exact hi)
  rw [List.getD_eq_getElem?_getD, List.getElem?_eq_getElem hi] at this
  simp only [Option.getD_some, e] at this
  omega
theorem keys_len {rs s : List Int} {L : List (List Int × Nat)} (R : Rm rs) (S : St rs s) (nd : (L.map (·.1)).Nodup) (h : ∀ e ∈ L, Dist (G rs) s e.1 e.2) : L.length ≤ 2197 := by
  have h1 : L.map (·.1) ⊆ allSt rs.length := fun x hx => by
    obtain ⟨e, he, rfl⟩ := List.mem_map.mp hx
    have S' := walk_st R S (h e he).1
    have := mem_allSt (S'.lim R)
    rwa [S'.len] at this
  have h2 := nodup_sub nd h1
  rw [List.length_map, allSt_len] at h2
  have := Nat.pow_le_pow_right (n := 13) (by omega) R.len
  have e : 13 ^ 3 = 2197 := rfl
  omega
/-! ### replay -/
def replay (rs v : List Int) (ds : List Dd) : List Int := ds.foldl (bh rs) v
theorem replay_walk {rs s : List Int} : ∀ {ds : List Dd} {n : Nat} {v : List Int}, Walk (G rs) s n v → (∀ p ∈ ds, IsDd rs.length p) → Walk (G rs) s (n + ds.length) (replay rs v ds)
  | [], n, v, h, _ => h
  | p :: ds, n, v, h, hp => by
    have := replay_walk (ds := ds) (h.succ ⟨p, hp p List.mem_cons_self, rfl⟩) fun q hq => hp q (List.mem_cons_of_mem _ hq)
    rw [List.length_cons, Nat.add_comm ds.length 1, ← Nat.add_assoc]
    exact this
theorem replay_st {rs v : List Int} {ds : List Dd} (R : Rm rs) (S : St rs v) (hp : ∀ p ∈ ds, IsDd rs.length p) : St rs (replay rs v ds) := walk_st R S (replay_walk .zero hp)
/-! ### entries -/
structure En where
  v : List Int
  pr : Option (List Int × Dd)
  d : Nat
def En.vd (e : En) : List Int × Nat := (e.v, e.d)
def PrOk (rs s : List Int) (E : List En) (e : En) : Prop := match e.pr with
  | none => e.v = s ∧ e.d = 0
  | some (p, dd) => IsDd rs.length dd ∧ bh rs p dd = e.v ∧ ∃ e' ∈ E, e'.v = p ∧ e'.d + 1 = e.d
theorem PrOk.mono {rs s : List Int} {E E' : List En} {e : En} (h : PrOk rs s E e) (hs : ∀ x ∈ E, x ∈ E') : PrOk rs s E' e := by
  unfold PrOk at h ⊢
  split
  · next z => rw [z] at h; exact h
  · next z =>
    rw [z] at h
    obtain ⟨a, b, e', h1, h2⟩ := h
    exact ⟨a, b, e', hs _ h1, h2⟩
structure Part (rs s : List Int) (E : List En) (at_ : Nat) : Prop where
  qu : Qu (G rs) s (E.map En.vd) at_
  pr : ∀ e ∈ E, PrOk rs s E e
structure Known (rs s : List Int) (E : List En) : Prop where
  full : Full (G rs) s (E.map En.vd)
  up : E.Pairwise fun a b => a.d ≤ b.d
  pr : ∀ e ∈ E, PrOk rs s E e
theorem keys_eq {E : List En} : (E.map En.vd).map (·.1) = E.map (·.v) := by rw [List.map_map]; rfl
theorem part_start {rs s : List Int} : Part rs s [⟨s, none, 0⟩] 0 :=
  ⟨qu_start, fun e he => by
    rw [List.mem_singleton] at he
    subst he
    exact ⟨rfl, rfl⟩⟩
theorem part_new {rs s : List Int} {E : List En} {at_ : Nat} {e : En} {p : Dd} (h : Part rs s E at_) (he : E[at_]? = some e) (hp : IsDd rs.length p) (hn : bh rs e.v p ∉ E.map (·.v)) : Part rs s (E ++ [⟨bh rs e.v p, some (e.v, p), e.d + 1⟩]) at_ := by
  refine ⟨?_, fun x hx => ?_⟩
  · rw [List.map_append]
    exact qu_new h.qu (x := e.v) (d := e.d) (by rw [List.getElem?_map, he]; rfl) ⟨p, hp, rfl⟩ (by rw [keys_eq]; exact hn)
  · rcases List.mem_append.mp hx with hx | hx
    · exact (h.pr x hx).mono fun y hy => List.mem_append_left _ hy
    · rw [List.mem_singleton] at hx
      subst hx
      exact ⟨hp, rfl, e, List.mem_append_left _ (List.mem_of_getElem? he), rfl, rfl⟩
theorem part_turn {rs s : List Int} {E : List En} {at_ : Nat} {e : En} (h : Part rs s E at_) (he : E[at_]? = some e) (hg : ∀ p, IsDd rs.length p → bh rs e.v p ∈ E.map (·.v)) : Part rs s E (at_ + 1) :=
  ⟨qu_turn h.qu (x := e.v) (d := e.d) (by rw [List.getElem?_map, he]; rfl) fun y ⟨p, hp, e⟩ => by rw [keys_eq, ← e]; exact hg p hp, h.pr⟩
theorem part_end {rs s : List Int} {E : List En} {at_ : Nat} (h : Part rs s E at_) (hl : E.length ≤ at_) : Known rs s E :=
  ⟨qu_end h.qu (by rw [List.length_map]; exact hl), by have := h.qu.up; rw [List.pairwise_map] at this; exact this, h.pr⟩
theorem Part.len {rs s : List Int} {E : List En} {at_ : Nat} (R : Rm rs) (S : St rs s) (h : Part rs s E at_) : E.length ≤ 2197 := by
  have := keys_len R S h.qu.nd h.qu.dist
  rwa [List.length_map] at this
theorem Known.len {rs s : List Int} {E : List En} (R : Rm rs) (S : St rs s) (h : Known rs s E) : E.length ≤ 2197 := by
  have := keys_len R S h.full.nd h.full.dist
  rwa [List.length_map] at this
theorem below {rs s : List Int} {E : List En} (K : Known rs s E) : ∀ n e, e ∈ E → e.d = n → ∀ k, k ≤ n → k ∈ E.map (·.d)
  | 0, e, he, hd, k, hk => by
    have : k = 0 := by omega
    subst this
    exact List.mem_map.mpr ⟨e, he, hd⟩
  | n + 1, e, he, hd, k, hk => by
    have pr := K.pr e he
    unfold PrOk at pr
    split at pr
    · omega
    · obtain ⟨_, _, e', h1, _, h2⟩ := pr
      by_cases z : k = n + 1
      · rw [z]; exact List.mem_map.mpr ⟨e, he, hd⟩
      · exact below K n e' h1 (by omega) k (by omega)
theorem Known.small {rs s : List Int} {E : List En} {e : En} (K : Known rs s E) (he : e ∈ E) : e.d < E.length := by
  have h : List.range (e.d + 1) ⊆ E.map (·.d) := fun k hk => below K e.d e he rfl k (by have := List.mem_range.mp hk; omega)
  have := nodup_sub List.nodup_range h
  rw [List.length_range, List.length_map] at this
  exact this
/-! ### a goal -/
def Few (rs s : List Int) (g : Int) : Option Nat → Prop
  | none => ∀ n v, Walk (G rs) s n v → g ∉ v
  | some d => (∃ v, Walk (G rs) s d v ∧ g ∈ v) ∧ ∀ n v, Walk (G rs) s n v → g ∈ v → d ≤ n
theorem few_uniq {rs s : List Int} {g : Int} : ∀ {a b : Option Nat}, Few rs s g a → Few rs s g b → a = b
  | none, none, _, _ => rfl
  | none, some d, h, ⟨⟨v, h1, h2⟩, _⟩ => absurd h2 (h d v h1)
  | some d, none, ⟨⟨v, h1, h2⟩, _⟩, h => absurd h2 (h d v h1)
  | some a, some b, ⟨⟨v, h1, h2⟩, h3⟩, ⟨⟨w, h4, h5⟩, h6⟩ => congrArg some (Nat.le_antisymm (h3 b w h4 h5) (h6 a v h1 h2))
def FirstOk (g : Int) (E : List En) : Option En → Prop
  | none => ∀ e ∈ E, g ∉ e.v
  | some e => e ∈ E ∧ g ∈ e.v ∧ ∀ e' ∈ E, g ∈ e'.v → e.d ≤ e'.d
theorem first_few {rs s : List Int} {g : Int} {E : List En} (K : Known rs s E) : ∀ {o : Option En}, FirstOk g E o → Few rs s g (o.map (·.d))
  | none, h => fun n v hw hg => by
    have := K.full.all v ⟨n, hw⟩
    rw [keys_eq] at this
    obtain ⟨e, he, rfl⟩ := List.mem_map.mp this
    exact h e he hg
  | some e, ⟨h1, h2, h3⟩ => ⟨⟨e.v, (K.full.dist e.vd (List.mem_map_of_mem h1)).1, h2⟩, fun n v hw hg => by
    have := K.full.all v ⟨n, hw⟩
    rw [keys_eq] at this
    obtain ⟨e', he', rfl⟩ := List.mem_map.mp this
    have := (K.full.dist e'.vd (List.mem_map_of_mem he')).2 n hw
    exact Nat.le_trans (h3 e' he' hg) this⟩
theorem first_of {rs s : List Int} {g : Int} {E A B : List En} {e : En} (K : Known rs s E) (h : E = A ++ e :: B) (hA : ∀ x ∈ A, g ∉ x.v) (hg : g ∈ e.v) : FirstOk g E (some e) := by
  refine ⟨by rw [h]; exact List.mem_append_right _ List.mem_cons_self, hg, fun e' he' hg' => ?_⟩
  rw [h] at he'
  rcases List.mem_append.mp he' with he' | he'
  · exact absurd hg' (hA e' he')
  · rcases List.mem_cons.mp he' with rfl | he'
    · exact Nat.le_refl _
    · have := K.up
      rw [h, List.pairwise_append] at this
      exact (List.pairwise_cons.mp this.2.1).1 e' he'
/-- the way back -/
structure Back (rs : List Int) (E : List En) (t e : En) (ds : List Dd) : Prop where
  mem : e ∈ E
  all : ∀ p ∈ ds, IsDd rs.length p
  to : replay rs e.v ds = t.v
  len : ds.length + e.d = t.d
theorem back_start {rs : List Int} {E : List En} {t : En} (h : t ∈ E) : Back rs E t t [] := ⟨h, fun p hp => absurd hp List.not_mem_nil, rfl, by simp⟩
theorem back_step {rs s : List Int} {E : List En} {t e : En} {ds : List Dd} {q : List Int} {p : Dd} (h : Back rs E t e ds) (pr : PrOk rs s E e) (hq : e.pr = some (q, p)) : ∃ e', e'.v = q ∧ e'.d < e.d ∧ Back rs E t e' (p :: ds) := by
  unfold PrOk at pr
  rw [hq] at pr
  obtain ⟨h1, h2, e', h3, h4, h5⟩ := pr
  refine ⟨e', h4, by omega, h3, fun x hx => ?_, ?_, ?_⟩
  · rcases List.mem_cons.mp hx with rfl | hx
    · exact h1
    · exact h.all x hx
  · show replay rs (bh rs e'.v p) ds = _
    rw [h4, h2, h.to]
  · have := h.len
    rw [List.length_cons]
    omega
/-- as few deeds as can be -/
def Res (rs s : List Int) (g : Int) : Option (List Dd) → Prop
  | none => Few rs s g none
  | some ds => (∀ p ∈ ds, IsDd rs.length p) ∧ g ∈ replay rs s ds ∧ Few rs s g (some ds.length)
theorem res_few {rs s : List Int} {g : Int} : ∀ {o : Option (List Dd)}, Res rs s g o → Few rs s g (o.map List.length)
  | none, h => h
  | some _, h => h.2.2
theorem back_end {rs s : List Int} {g : Int} {E : List En} {t e : En} {ds : List Dd} (K : Known rs s E) (f : FirstOk g E (some t)) (h : Back rs E t e ds) (hq : e.pr = none) : Res rs s g (some ds) := by
  have pr := K.pr e h.mem
  unfold PrOk at pr
  rw [hq] at pr
  have h1 := h.to
  have h2 := h.len
  rw [pr.1] at h1
  refine ⟨h.all, by rw [h1]; exact f.2.1, ?_⟩
  have : ds.length = t.d := by have := pr.2; omega
  rw [this]
  exact first_few K f
/-! ### the other way to see them all -/
def lawDd (n k : Nat) : Dd := (k / (n + 2), ((k % (n + 2) : Nat) : Int) - 2)
theorem lawDd_ok {n k : Nat} (hk : k < n * (n + 2)) (h : ((lawDd n k).1 : Int) ≠ (lawDd n k).2) : IsDd n (lawDd n k) := by
  have h1 : k / (n + 2) < n := (Nat.div_lt_iff_lt_mul (by omega)).mpr hk
  have h2 : k % (n + 2) < n + 2 := Nat.mod_lt _ (by omega)
  refine ⟨h1, ?_, ?_, h⟩
  · show -2 ≤ ((k % (n + 2) : Nat) : Int) - 2; omega
  · show ((k % (n + 2) : Nat) : Int) - 2 < n; omega
theorem lawDd_all {n : Nat} {p : Dd} (h : IsDd n p) : ∃ k, k < n * (n + 2) ∧ lawDd n k = p := by
  obtain ⟨h1, h2, h3, h4⟩ := h
  obtain ⟨a, w⟩ := p
  have hw : (w + 2).toNat < n + 2 := by simp only at h2 h3; omega
  refine ⟨a * (n + 2) + (w + 2).toNat, ?_, ?_⟩
  · have : (a + 1) * (n + 2) ≤ n * (n + 2) := Nat.mul_le_mul_right _ h1
    rw [Nat.succ_mul] at this
    omega
  · unfold lawDd
    rw [Nat.add_comm, Nat.add_mul_div_right _ _ (by omega), Nat.div_eq_of_lt hw, Nat.add_mul_mod_self_right, Nat.mod_eq_of_lt hw, Nat.zero_add]
    simp only [Prod.mk.injEq, true_and]
    simp only at h2
    omega
end K25
set_option maxRecDepth 100000
set_option maxHeartbeats 8000000
namespace DD
open PySem PySem.Spec PyProof.Rows L2 GenW
open K25 (Rm St Dd IsDd bh deedsL deedsOf En Known Part Few FirstOk Res replay PrOk)
/-! ### what one asks -/
def rmOk : D → Bool
  | .tuple xs => decide (1 ≤ xs.length) && decide (xs.length ≤ 3) && xs.all (fun x => isNum x 1 12)
  | _ => false
def leAll : List D → List D → Bool
  | .int a :: xs, .int b :: ys => decide (a ≤ b) && leAll xs ys
  | _, _ => true
def stOk (r s : D) : Bool := match r, s with
  | .tuple rs, .tuple xs => decide (xs.length = rs.length) && xs.all (fun x => isNum x 0 12) && leAll xs rs
  | _, _ => false
theorem rm_read {r : D} (h : rmOk r = true) : ∃ rs, r = intsT rs ∧ Rm rs := by
  cases r with
  | tuple xs =>
    simp only [rmOk, Bool.and_eq_true, decide_eq_true_eq] at h
    obtain ⟨h1, h2⟩ := nums_read h.2
    exact ⟨xs.map rdI, by unfold intsT; rw [h1], by rw [List.length_map]; exact h.1.1, by rw [List.length_map]; exact h.1.2, h2⟩
  | _ => simp [rmOk] at h
theorem allNum {ns : List Int} {lo hi : Int} (h : ∀ i ∈ ns, lo ≤ i ∧ i ≤ hi) : ((ns.map PyData.int).all fun x => isNum x lo hi) = true := by
  have := areNums_ints (n := ns.length) rfl h
  simp only [intsT, areNums, Bool.and_eq_true] at this
  exact this.2
theorem rm_ok {rs : List Int} (h : Rm rs) : rmOk (intsT rs) = true := by
  simp only [rmOk, intsT, Bool.and_eq_true, decide_eq_true_eq, List.length_map]
  exact ⟨⟨h.pos, h.len⟩, allNum h.all⟩
theorem leAll_iff : ∀ {xs rs : List Int}, xs.length = rs.length → (leAll (xs.map .int) (rs.map .int) = true ↔ ∀ k, k < rs.length → xs.getD k 0 ≤ rs.getD k 0)
  | [], [], _ => ⟨fun _ k hk => absurd hk (Nat.not_lt_zero _), fun _ => rfl⟩
  | [], r :: rs, h => by simp at h
  | x :: xs, [], h => by simp at h
  | x :: xs, r :: rs, h => by
    have ih := leAll_iff (xs := xs) (rs := rs) (by simpa using h)
    show (decide (x ≤ r) && leAll (xs.map .int) (rs.map .int)) = true ↔ _
    rw [Bool.and_eq_true, decide_eq_true_eq, ih]
    constructor
    · rintro ⟨a, b⟩ k hk
      cases k with
      | zero => exact a
      | succ k => exact b k (by simpa using hk)
    · intro hh
      exact ⟨hh 0 (by simp), fun k hk => hh (k + 1) (by simpa using hk)⟩
theorem getD_all {ns : List Int} {P : Int → Prop} (h : ∀ i ∈ ns, P i) {k : Nat} (hk : k < ns.length) : P (ns.getD k 0) := h _ (List.mem_of_getElem? (getD_at hk))
theorem st_read {rs : List Int} {s : D} (R : Rm rs) (h : stOk (intsT rs) s = true) : ∃ v, s = intsT v ∧ St rs v := by
  cases s with
  | tuple xs =>
    simp only [stOk, intsT, Bool.and_eq_true, decide_eq_true_eq, List.length_map] at h
    obtain ⟨h1, h2⟩ := nums_read h.1.2
    have e : xs = (xs.map rdI).map .int := h1.symm
    have hl : (xs.map rdI).length = rs.length := by rw [List.length_map]; exact h.1.1
    have h3 := h.2
    rw [e] at h3
    have h3 := (leAll_iff hl).mp h3
    exact ⟨xs.map rdI, by unfold intsT; rw [h1], hl, fun k hk => ⟨(getD_all h2 (by rw [hl]; exact hk)).1, h3 k hk⟩⟩
  | _ => simp [stOk] at h
theorem st_ok {rs v : List Int} (R : Rm rs) (S : St rs v) : stOk (intsT rs) (intsT v) = true := by
  simp only [stOk, intsT, Bool.and_eq_true, decide_eq_true_eq, List.length_map]
  exact ⟨⟨S.len, allNum (S.lim R)⟩, (leAll_iff S.len).mpr fun k hk => (S.all k hk).2⟩
structure SX (r s : D) (EX : EXn) : Prop where
  x1 : rmOk r = false → EX (.bad "rooms")
  x2 : rmOk r = true → stOk r s = false → EX (.bad "state")
def sok (r s : D) : Bool := rmOk r && stOk r s
theorem sok_read {r s : D} (h : sok r s = true) : ∃ rs v, r = intsT rs ∧ s = intsT v ∧ Rm rs ∧ St rs v := by
  simp only [sok, Bool.and_eq_true] at h
  obtain ⟨rs, rfl, R⟩ := rm_read h.1
  obtain ⟨v, rfl, S⟩ := st_read R h.2
  exact ⟨rs, v, rfl, rfl, R, S⟩
theorem sx_ok {rs v : List Int} {EX : EXn} (R : Rm rs) (S : St rs v) : SX (intsT rs) (intsT v) EX :=
  ⟨fun z => (by rw [rm_ok R] at z; cases z), fun _ z => (by rw [st_ok R S] at z; cases z)⟩
theorem sok_ok {rs v : List Int} (R : Rm rs) (S : St rs v) : sok (intsT rs) (intsT v) = true := by
  unfold sok; rw [rm_ok R, st_ok R S]; rfl
theorem sx_bad1 {r s : D} {EX : EXn} (c : rmOk r = false) (hx : EX (.bad "rooms")) : SX r s EX := ⟨fun _ => hx, fun z => by (rw [c] at z; cases z)⟩
theorem sx_bad2 {r s : D} {EX : EXn} (h : rmOk r = true) (hx : EX (.bad "state")) : SX r s EX := ⟨fun z => by (rw [h] at z; cases z), fun _ _ => hx⟩
theorem sok1 {r s : D} (h : rmOk r = false) : sok r s = false := by unfold sok; rw [h]; rfl
theorem sok2 {r s : D} (h : stOk r s = false) : sok r s = false := by unfold sok; rw [h, Bool.and_false]
def check_rooms_r1 : WS := (wExpr (wCall check_s (wwCons (wAndV (wVar 1) (wCall are_numbers_s (wwCons (wVar 0) (wwCons (wOpN (f1 aLenB) (waCons (wVar 0) waNil)) (wwCons (wC (.int (1))) (wwCons (wC (.int (12))) wwNil)))))) (wwCons (wC (.str "rooms")) wwNil))))
def check_rooms_r0 : WS := wSeq (wSet 1 (wAndV (wIsi "tuple" (wVar 0)) (wChainE gLe gLe (wC (.int (1))) (wOpN (f1 aLenB) (waCons (wVar 0) waNil)) (wC (.int (3)))))) check_rooms_r1
def check_rooms_w : WS := wSeq (wSet 1 (wAndV (wIsi "tuple" (wVar 0)) (wChainE gLe gLe (wC (.int (1))) (wOpN (f1 aLenB) (waCons (wVar 0) waNil)) (wC (.int (3)))))) (wExpr (wCall check_s (wwCons (wAndV (wVar 1) (wCall are_numbers_s (wwCons (wVar 0) (wwCons (wOpN (f1 aLenB) (waCons (wVar 0) waNil)) (wwCons (wC (.int (1))) (wwCons (wC (.int (12))) wwNil)))))) (wwCons (wC (.str "rooms")) wwNil))))
theorem check_rooms_r : check_rooms_w = check_rooms_r0 := rfl
def check_rooms_s : FD := fun ws Q EX => ∃ r : D, ws = [.d r] ∧ (rmOk r = false → EX (.bad "rooms")) ∧ (rmOk r = true → Q .none)
theorem mono_check_rooms : MonoF check_rooms_s := fun ws Q Q' EX h ⟨r, e, x, q⟩ => ⟨r, e, x, fun z => h _ (q z)⟩
theorem meets_check_rooms (ws : List W) (Q : D → Prop) (EX : EXn) (h : check_rooms_s ws Q EX) : mkF 1 2 check_rooms_w ws Q EX := by
  obtain ⟨r, rfl, x, q⟩ := h
  refine ⟨rfl, ?_⟩
  rw [check_rooms_r]
  have bad : rmOk r = false → check_s [.d (.bool false), .d (.str "rooms")] (fun _ => Q .none) EX := fun c => check_use (by decide) (fun z => (by cases z)) (fun _ => x c)
  cases r with
  | tuple xs =>
    by_cases z1 : 1 ≤ xs.length
    · have z1' : (1 : Int) ≤ xs.length := by omega
      by_cases z : xs.length ≤ 3
      · have z' : (xs.length : Int) ≤ 3 := by omega
        simp [check_rooms_r0, isTy, tyD, z1, z1', z', check_rooms_r1]
        refine ⟨_, _, _, _, rfl, ?_⟩
        have e : areNums (.tuple xs) xs.length 1 12 = rmOk (.tuple xs) := by simp [areNums, rmOk, z1, z]
        rw [e]
        exact check_use (by decide) q x
      · have z' : ¬ (xs.length : Int) ≤ 3 := by omega
        simp [check_rooms_r0, isTy, tyD, z1, z1', z', check_rooms_r1]
        exact bad (by simp [rmOk, z])
    · have z1' : ¬ (1 : Int) ≤ xs.length := by omega
      have z0 : xs = [] := by
        cases xs with
        | nil => rfl
        | cons a b => simp at z1
      subst z0
      simp [check_rooms_r0, isTy, tyD, check_rooms_r1]
      exact bad rfl
  | _ =>
    simp [check_rooms_r0, check_rooms_r1, isTy, tyD]
    exact bad rfl
theorem cr_use {r : D} {Q : D → Prop} {EX : EXn} (x : rmOk r = false → EX (.bad "rooms")) (q : rmOk r = true → Q .none) : check_rooms_s [.d r] Q EX := ⟨r, rfl, x, q⟩
def check_state_r2 : WS := (wExpr (wCall check_s (wwCons (wAndV (wVar 2) (wAllG (wiZip (wVar 1) (wVar 0)) (wgTup 2 (wgCons (wgName 3) (wgCons (wgName 4) wgNil))) wYes (wCmp2 gLe (wVar 3) (wVar 4)) [3, 4])) (wwCons (wC (.str "state")) wwNil))))
def check_state_r1 : WS := wSeq (wSet 2 (wCall are_numbers_s (wwCons (wVar 1) (wwCons (wOpN (f1 aLenB) (waCons (wVar 0) waNil)) (wwCons (wC (.int (0))) (wwCons (wC (.int (12))) wwNil)))))) check_state_r2
def check_state_r0 : WS := wSeq (wExpr (wCall check_rooms_s (wwCons (wVar 0) wwNil))) check_state_r1
def check_state_w : WS := wSeq (wExpr (wCall check_rooms_s (wwCons (wVar 0) wwNil))) (wSeq (wSet 2 (wCall are_numbers_s (wwCons (wVar 1) (wwCons (wOpN (f1 aLenB) (waCons (wVar 0) waNil)) (wwCons (wC (.int (0))) (wwCons (wC (.int (12))) wwNil)))))) (wExpr (wCall check_s (wwCons (wAndV (wVar 2) (wAllG (wiZip (wVar 1) (wVar 0)) (wgTup 2 (wgCons (wgName 3) (wgCons (wgName 4) wgNil))) wYes (wCmp2 gLe (wVar 3) (wVar 4)) [3, 4])) (wwCons (wC (.str "state")) wwNil)))))
theorem check_state_r : check_state_w = check_state_r0 := rfl
def check_state_s : FD := fun ws Q EX => ∃ r s : D, ws = [.d r, .d s] ∧ SX r s EX ∧ (sok r s = true → Q .none)
theorem mono_check_state : MonoF check_state_s := fun ws Q Q' EX h ⟨r, s, e, x, q⟩ => ⟨r, s, e, x, fun z => h _ (q z)⟩
theorem zip_le : ∀ {xs rs : List Int}, ((xs.zip rs).all fun p => decide (p.1 ≤ p.2)) = leAll (xs.map .int) (rs.map .int)
  | [], rs => rfl
  | x :: xs, [] => rfl
  | x :: xs, r :: rs => by
    rw [List.zip_cons_cons, List.all_cons, zip_le]
    rfl
theorem meets_check_state (ws : List W) (Q : D → Prop) (EX : EXn) (h : check_state_s ws Q EX) : mkF 2 5 check_state_w ws Q EX := by
  obtain ⟨r, s, rfl, X, q⟩ := h
  refine ⟨rfl, ?_⟩
  rw [check_state_r]
  simp [check_state_r0]
  refine cr_use X.x1 fun h1 => ?_
  obtain ⟨rs, rfl, R⟩ := rm_read h1
  have fin : ∀ b : Bool, b = stOk (intsT rs) s → check_s [.d (.bool b), .d (.str "state")] (fun _ => Q .none) EX := fun b e => by
    rw [e]
    exact check_use (by decide) (fun h2 => q (by unfold sok; rw [h1, h2]; rfl)) fun h2 => X.x2 h1 h2
  simp [check_state_r1, intsT]
  refine ⟨_, _, _, _, rfl, ?_⟩
  by_cases c : areNums s rs.length 0 12 = true
  · obtain ⟨ns, rfl, hn, hr⟩ := areNums_read c
    rw [c]
    simp [check_state_r2, intsT]
    refine ⟨_, _, ⟨rfl, rfl⟩, ?_⟩
    rw [zipD_map]
    refine all_evalM (fun p : Int × Int => decide (p.1 ≤ p.2)) (fun p _ R' r => ?_) ?_
    · simp
      exact r
    · refine fin _ ?_
      rw [zip_le]
      simp only [areNums, intsT, Bool.and_eq_true, decide_eq_true_eq, List.length_map] at c
      have hn' : ns.length = rs.length := by omega
      simp [stOk, intsT, c, hn']
  · have c' : areNums s rs.length 0 12 = false := by simpa using c
    rw [c']
    simp [check_state_r2]
    refine fin _ ?_
    cases s with
    | tuple xs =>
      have c2 : (decide (xs.length = rs.length) && xs.all fun x => isNum x 0 12) = false := by
        have e : decide (xs.length = rs.length) = decide ((xs.length : Int) = rs.length) := decide_eq_decide.mpr (by omega)
        rw [e]; exact c'
      simp only [stOk, intsT, List.length_map, c2, Bool.false_and]
    | _ => rfl
theorem cs_use {r s : D} {Q : D → Prop} {EX : EXn} (X : SX r s EX) (q : sok r s = true → Q .none) : check_state_s [.d r, .d s] Q EX := ⟨r, s, rfl, X, q⟩
section
variable {D0 : EndsW} {ρ : Env'} {a b : WE} {Qx : D → Prop}
@[simp ↓] theorem ev_Ext {i : Nat} : wExt i a D0 ρ = ownL ρ i (fun xs => a ρ (fun d => ∃ ys, d = .list ys ∧ xs.length + ys.length ≤ sizeLine ∧ D0.nx (ρ.set i (some (.own (.list (xs ++ ys)))))) D0.ex) := rfl
end
/-! ### deeds -/
def deedT (p : Dd) : D := .tuple [.int p.1, .int p.2]
def deeds_of_r2 : WS := (wFrz 1 (wRet (wVar 1)))
def deeds_of_r1 : WS := wSeq (wFor (wiRng1 (wOpN (f1 aLenB) (waCons (wVar 0) waNil))) (wgName 2) (wSeq (wExt 1 (wLst (waCons (wTup (waCons (wVar 2) (waCons (wC (.int (-1))) waNil))) (waCons (wTup (waCons (wVar 2) (waCons (wC (.int (-2))) waNil))) waNil)))) (wExt 1 (wLc (wiRng1 (wOpN (f1 aLenB) (waCons (wVar 0) waNil))) (wgName 3) (wTst2 gNe (wVar 3) (wVar 2)) (wTup (waCons (wVar 2) (waCons (wVar 3) waNil))) [3])))) deeds_of_r2
def deeds_of_r0 : WS := wSeq (wSetO 1 (wLst waNil)) deeds_of_r1
def deeds_of_w : WS := wSeq (wSetO 1 (wLst waNil)) (wSeq (wFor (wiRng1 (wOpN (f1 aLenB) (waCons (wVar 0) waNil))) (wgName 2) (wSeq (wExt 1 (wLst (waCons (wTup (waCons (wVar 2) (waCons (wC (.int (-1))) waNil))) (waCons (wTup (waCons (wVar 2) (waCons (wC (.int (-2))) waNil))) waNil)))) (wExt 1 (wLc (wiRng1 (wOpN (f1 aLenB) (waCons (wVar 0) waNil))) (wgName 3) (wTst2 gNe (wVar 3) (wVar 2)) (wTup (waCons (wVar 2) (waCons (wVar 3) waNil))) [3])))) (wFrz 1 (wRet (wVar 1))))
theorem deeds_of_r : deeds_of_w = deeds_of_r0 := rfl
def doA_r1 : WS := (wExt 1 (wLc (wiRng1 (wOpN (f1 aLenB) (waCons (wVar 0) waNil))) (wgName 3) (wTst2 gNe (wVar 3) (wVar 2)) (wTup (waCons (wVar 2) (waCons (wVar 3) waNil))) [3]))
def doA_r0 : WS := wSeq (wExt 1 (wLst (waCons (wTup (waCons (wVar 2) (waCons (wC (.int (-1))) waNil))) (waCons (wTup (waCons (wVar 2) (waCons (wC (.int (-2))) waNil))) waNil)))) doA_r1
theorem doA_for : deeds_of_r1 = wSeq (wFor (wiRng1 (wOpN (f1 aLenB) (waCons (wVar 0) waNil))) (wgName 2) doA_r0) deeds_of_r2 := rfl
def deeds_of_s : FD := fun ws Q _ => ∃ rs : List Int, ws = [.d (intsT rs)] ∧ Rm rs ∧ Q (.list ((deedsL rs.length rs.length).map deedT))
theorem mono_deeds_of : MonoF deeds_of_s := fun ws Q Q' EX h ⟨l, e, hl, q⟩ => ⟨l, e, hl, h _ q⟩
theorem meets_deeds_of (ws : List W) (Q : D → Prop) (EX : EXn) (h : deeds_of_s ws Q EX) : mkF 1 4 deeds_of_w ws Q EX := by
  obtain ⟨rs, rfl, R, q⟩ := h
  refine ⟨rfl, ?_⟩
  have hl3 := R.len
  rw [deeds_of_r]
  simp [deeds_of_r0, intsT]
  rw [doA_for]
  simp
  refine ⟨⟨by omega, by omega⟩, ?_⟩
  rw [rngD_map]
  refine loop_runM (fun i ρ => ∃ x2 x3, ρ = [some (.d (.tuple (rs.map .int))), some (.own (.list ((deedsL rs.length i).map deedT))), x2, x3]) ⟨_, _, rfl⟩ ?_ ?_
  · rintro i k ρ P hi ⟨x2, x3, rfl⟩ hP
    have hdl : (deedsL rs.length i).length ≤ 1000 := by
      have := K25.deedsL_len (n := rs.length) i
      have hi2 : i ≤ 3 := by
        have := (List.getElem?_eq_some_iff.mp hi).1
        rw [List.length_range] at this
        omega
      have : i * (rs.length + 2) ≤ 3 * (3 + 2) := Nat.mul_le_mul hi2 (by omega)
      omega
    have hk : k = i := by
      have := List.getElem?_eq_some_iff.mp hi
      obtain ⟨h1, h2⟩ := this
      rw [List.getElem_range] at h2
      exact h2.symm
    subst hk
    simp [doA_r0]
    refine ownL_of rfl ⟨by rw [List.length_map, sizeLine_eq]; omega, ?_⟩
    simp [doA_r1]
    refine ownL_of rfl ⟨⟨by omega, by omega⟩, ?_⟩
    rw [rngD_map]
    refine comp_filtM (fun j : Nat => decide ((j : Int) ≠ (k : Int))) (fun j => deedT (k, (j : Int))) (fun j _ R' r => ?_) (by rw [sizeLine_eq]; simp; omega) ?_
    · simp
      by_cases z : (j : Int) = (k : Int)
      · rw [if_pos z]
        simpa [z] using r
      · rw [if_neg z]
        simpa [z, deedT] using r
    · have hfl := List.length_filter_le (fun j : Nat => decide ((j : Int) ≠ (k : Int))) (List.range rs.length)
      rw [List.length_range] at hfl
      refine ⟨_, rfl, by rw [List.length_append, List.length_map, List.length_map, sizeLine_eq]; simp only [List.length_cons, List.length_nil]; omega, ?_⟩
      have e : (deedsL rs.length k).map deedT ++ [.tuple [.int k, .int (-1)], .tuple [.int k, .int (-2)]] ++ ((List.range rs.length).filter fun j : Nat => decide ((j : Int) ≠ (k : Int))).map (fun j : Nat => deedT (k, (j : Int))) = (deedsL rs.length (k + 1)).map deedT := by
        rw [K25.deedsL_succ, List.map_append, deedsOf, List.map_append, List.map_map, ← List.append_assoc]
        rfl
      rw [e]
      exact hP _ ⟨_, _, rfl⟩
  · rintro ρ ⟨x2, x3, rfl⟩
    simp [deeds_of_r2]
    exact q
theorem getD_of {v : List Int} {k : Nat} {a : Int} (h : v[k]? = some a) : v.getD k 0 = a := by rw [List.getD_eq_getElem?_getD, h]; rfl
theorem set_ints {v : List Int} {k : Nat} {a : Int} : (v.set k a).map PyData.int = (v.map .int).set k (.int a) := by rw [List.map_set]
def behind_r3 : WS := (wRet (wOpN (f1 aTupleOf) (waCons (wOwn 5) waNil)))
def behind_r2 : WS := wSeq (wIfS (wTst2 gEq (wVar 4) (wC (.int (-1)))) (wPut 5 (wVar 3) (wOp2 aIxB (wVar 0) (wVar 3))) (wIfS (wTst2 gEq (wVar 4) (wC (.int (-2)))) (wPut 5 (wVar 3) (wC (.int (0)))) (wSeq (wSet 6 (wOpN (f2 aMin2) (waCons (wOp2 aIxB (wVar 1) (wVar 3)) (waCons (wOp2 aSub (wOp2 aIxB (wVar 0) (wVar 4)) (wOp2 aIxB (wVar 1) (wVar 4))) waNil)))) (wSeq (wAugS 5 (aI0 fun i j => i - j) (wVar 3) (wVar 6)) (wAugS 5 (aI0 fun i j => i + j) (wVar 4) (wVar 6)))))) behind_r3
def behind_r1 : WS := wSeq (wSetO 5 (wOpN (f1 aListOf) (waCons (wVar 1) waNil))) behind_r2
def behind_r0 : WS := wSeq (wAsg (wVar 2) (wgTup 2 (wgCons (wgName 3) (wgCons (wgName 4) wgNil)))) behind_r1
def behind_w : WS := wSeq (wAsg (wVar 2) (wgTup 2 (wgCons (wgName 3) (wgCons (wgName 4) wgNil)))) (wSeq (wSetO 5 (wOpN (f1 aListOf) (waCons (wVar 1) waNil))) (wSeq (wIfS (wTst2 gEq (wVar 4) (wC (.int (-1)))) (wPut 5 (wVar 3) (wOp2 aIxB (wVar 0) (wVar 3))) (wIfS (wTst2 gEq (wVar 4) (wC (.int (-2)))) (wPut 5 (wVar 3) (wC (.int (0)))) (wSeq (wSet 6 (wOpN (f2 aMin2) (waCons (wOp2 aIxB (wVar 1) (wVar 3)) (waCons (wOp2 aSub (wOp2 aIxB (wVar 0) (wVar 4)) (wOp2 aIxB (wVar 1) (wVar 4))) waNil)))) (wSeq (wAugS 5 (aI0 fun i j => i - j) (wVar 3) (wVar 6)) (wAugS 5 (aI0 fun i j => i + j) (wVar 4) (wVar 6)))))) (wRet (wOpN (f1 aTupleOf) (waCons (wOwn 5) waNil)))))
theorem behind_r : behind_w = behind_r0 := rfl
def behind_s : FD := fun ws Q _ => ∃ (rs v : List Int) (p : Dd), ws = [.d (intsT rs), .d (intsT v), .d (deedT p)] ∧ Rm rs ∧ St rs v ∧ IsDd rs.length p ∧ Q (intsT (bh rs v p))
theorem mono_behind : MonoF behind_s := fun ws Q Q' EX h ⟨l, v, p, e, R, S, hl, q⟩ => ⟨l, v, p, e, R, S, hl, h _ q⟩
theorem meets_behind (ws : List W) (Q : D → Prop) (EX : EXn) (h : behind_s ws Q EX) : mkF 3 7 behind_w ws Q EX := by
  obtain ⟨rs, v, p, rfl, R, S, hp, q⟩ := h
  refine ⟨rfl, ?_⟩
  rw [behind_r]
  have hl := S.len
  have hl3 := R.len
  obtain ⟨k, w⟩ := p
  obtain ⟨h1, h2, h3, h4⟩ := hp
  simp only at h1 h2 h3 h4
  obtain ⟨a, ha⟩ := some_of_lt' (l := v) (i := k) (by omega)
  obtain ⟨r, hr⟩ := some_of_lt' h1
  have ga := getD_of ha
  have gr := getD_of hr
  simp [behind_r0, deedT, behind_r1, intsT, behind_r2]
  by_cases c1 : w = -1
  · simp [c1]
    refine ownL_of rfl ⟨_, atD_nat (ints_get hr), k, ixN_nat (by simp; omega), ?_⟩
    simp [behind_r3]
    rw [← set_ints]
    simp only [bh, c1, if_true, gr] at q
    exact q
  · simp [c1]
    by_cases c2 : w = -2
    · simp [c2]
      refine ownL_of rfl ⟨k, ixN_nat (by simp; omega), ?_⟩
      simp [behind_r3]
      rw [← set_ints]
      simp only [bh, if_neg c1, if_pos c2] at q
      exact q
    · simp [c2]
      obtain ⟨j, rfl⟩ : ∃ j : Nat, w = (j : Int) := ⟨w.toNat, by omega⟩
      have hj : j < rs.length := by omega
      have hkj : k ≠ j := fun z => h4 (by rw [z])
      obtain ⟨b, hb⟩ := some_of_lt' (l := v) (i := j) (by omega)
      obtain ⟨c, hc⟩ := some_of_lt' hj
      have gb := getD_of hb
      have gc := getD_of hc
      refine ⟨_, atD_nat (ints_get ha), _, atD_nat (ints_get hc), _, atD_nat (ints_get hb), ?_⟩
      simp
      refine ownL_of rfl ⟨k, ixN_nat (by simp; omega), _, ints_get ha, ?_⟩
      simp
      refine ownL_of rfl ⟨j, ixN_nat (by simp; omega), _, (by rw [List.getElem?_set_ne hkj]; exact ints_get hb), ?_⟩
      simp [behind_r3]
      rw [← set_ints, ← set_ints]
      simp only [bh, if_neg c1, if_neg c2, Int.toNat_natCast, ga, gb, gc] at q
      exact q
end DD
set_option maxRecDepth 100000
set_option maxHeartbeats 8000000
namespace DD
open PySem PySem.Spec PyProof.Rows L2 GenW
open K25 (Rm St Dd IsDd bh deedsL deedsOf En Known Part Few FirstOk Res replay PrOk)
/-! ### what is known of a state -/
def prS : Option (List Int × Dd) → D
  | none => .none
  | some q => intsT q.1
def prP : Option (List Int × Dd) → D
  | none => .none
  | some q => deedT q.2
def enD (e : En) : D := .tuple [prS e.pr, prP e.pr, .int e.d]
def dkE (E : List En) : List (D × D) := E.map fun e => (intsT e.v, enD e)
theorem intsT_inj {a b : List Int} (h : intsT a = intsT b) : a = b := by
  have := congrArg rdL h
  rwa [rdL_ints, rdL_ints] at this
theorem dkE_keys {E : List En} : (dkE E).map (·.1) = (E.map (·.v)).map intsT := by unfold dkE; rw [List.map_map, List.map_map]; rfl
theorem nd_ints {l : List (List Int)} (h : l.Nodup) : (l.map intsT).Nodup := by
  unfold List.Nodup at h ⊢
  rw [List.pairwise_map]
  exact h.imp fun {a b} hab z => hab (intsT_inj z)
theorem dkE_none {E : List En} {v : List Int} (h : v ∉ E.map (·.v)) : dGet (dkE E) (intsT v) = none := by
  cases g : dGet (dkE E) (intsT v) with
  | none => rfl
  | some d =>
    have := mem_dGet g
    have h2 : intsT v ∈ (dkE E).map (·.1) := List.mem_map.mpr ⟨_, this, rfl⟩
    rw [dkE_keys] at h2
    obtain ⟨w, hw, e⟩ := List.mem_map.mp h2
    rw [intsT_inj e] at hw
    exact absurd hw h
theorem dkE_some {E : List En} {e : En} (nd : (E.map (·.v)).Nodup) (h : e ∈ E) : dGet (dkE E) (intsT e.v) = some (enD e) := by
  have := dGet_mem (kvs := dkE E) (by rw [dkE_keys]; exact nd_ints nd) (p := (intsT e.v, enD e)) (List.mem_map.mpr ⟨e, h, rfl⟩)
  exact this
theorem dkE_isSome {E : List En} {v : List Int} (nd : (E.map (·.v)).Nodup) : (dGet (dkE E) (intsT v)).isSome = decide (v ∈ E.map (·.v)) := by
  by_cases c : v ∈ E.map (·.v)
  · obtain ⟨e, he, rfl⟩ := List.mem_map.mp c
    rw [dkE_some nd he, decide_eq_true c]; rfl
  · rw [dkE_none c, decide_eq_false c]; rfl
theorem tup_intsT {v : List Int} : isTupD (intsT v) := tup_ints
theorem dkE_tup {E : List En} : TupK (dkE E) := fun p hp => by
  unfold dkE at hp
  obtain ⟨e, _, rfl⟩ := List.mem_map.mp hp
  exact tup_intsT
theorem dkE_fit {E : List En} {v : List Int} : keyFit (dkE E) (intsT v) := dkE_tup.fit tup_intsT
theorem dkE_put {E : List En} {e : En} (h : e.v ∉ E.map (·.v)) : dPut (dkE E) (intsT e.v) (enD e) = dkE (E ++ [e]) := by
  rw [dPut_new (dkE_none h)]
  unfold dkE
  rw [List.map_append]
  rfl
theorem part_nd {rs s : List Int} {E : List En} {n : Nat} (h : Part rs s E n) : (E.map (·.v)).Nodup := by
  have := h.qu.nd
  rwa [K25.keys_eq] at this
theorem known_nd {rs s : List Int} {E : List En} (h : Known rs s E) : (E.map (·.v)).Nodup := by
  have := h.full.nd
  rwa [K25.keys_eq] at this
def all_reached_r4 : WS := (wFrz 2 (wRet (wVar 2)))
def all_reached_r3 : WS := wSeq (wWhile (wTst2 gLt (wVar 4) (wOpN (f1 aLenB) (waCons (wOwn 3) waNil))) (wSeq (wFor (wiSeqB (wCall deeds_of_s (wwCons (wVar 0) wwNil))) (wgName 5) (wSeq (wSet 6 (wCall behind_s (wwCons (wVar 0) (wwCons (wOp2 aIxB (wOwn 3) (wVar 4)) (wwCons (wVar 5) wwNil))))) (wIfS (wTst2 (gInB true) (wVar 6) (wOwn 2)) (wSeq (wPutD 2 (wVar 6) (wTup (waCons (wOp2 aIxB (wOwn 3) (wVar 4)) (waCons (wVar 5) (waCons (wOp2 aAdd (wOp2 aIxB (wOp2 aIxB (wOwn 2) (wOp2 aIxB (wOwn 3) (wVar 4))) (wC (.int (2)))) (wC (.int (1)))) waNil))))) (wApp 3 (wVar 6))) wSkip))) (wAug 4 (aI0 fun i j => i + j) (wC (.int (1)))))) all_reached_r4
def all_reached_r2 : WS := wSeq (wSet 4 (wC (.int (0)))) all_reached_r3
def all_reached_r1 : WS := wSeq (wSetO 3 (wLst (waCons (wVar 1) waNil))) all_reached_r2
def all_reached_r0 : WS := wSeq (wSetO 2 (wDict1 true (wVar 1) (wTup (waCons (wC .none) (waCons (wC .none) (waCons (wC (.int (0))) waNil)))))) all_reached_r1
def all_reached_w : WS := wSeq (wSetO 2 (wDict1 true (wVar 1) (wTup (waCons (wC .none) (waCons (wC .none) (waCons (wC (.int (0))) waNil)))))) (wSeq (wSetO 3 (wLst (waCons (wVar 1) waNil))) (wSeq (wSet 4 (wC (.int (0)))) (wSeq (wWhile (wTst2 gLt (wVar 4) (wOpN (f1 aLenB) (waCons (wOwn 3) waNil))) (wSeq (wFor (wiSeqB (wCall deeds_of_s (wwCons (wVar 0) wwNil))) (wgName 5) (wSeq (wSet 6 (wCall behind_s (wwCons (wVar 0) (wwCons (wOp2 aIxB (wOwn 3) (wVar 4)) (wwCons (wVar 5) wwNil))))) (wIfS (wTst2 (gInB true) (wVar 6) (wOwn 2)) (wSeq (wPutD 2 (wVar 6) (wTup (waCons (wOp2 aIxB (wOwn 3) (wVar 4)) (waCons (wVar 5) (waCons (wOp2 aAdd (wOp2 aIxB (wOp2 aIxB (wOwn 2) (wOp2 aIxB (wOwn 3) (wVar 4))) (wC (.int (2)))) (wC (.int (1)))) waNil))))) (wApp 3 (wVar 6))) wSkip))) (wAug 4 (aI0 fun i j => i + j) (wC (.int (1)))))) (wFrz 2 (wRet (wVar 2))))))
theorem all_reached_r : all_reached_w = all_reached_r0 := rfl
def all_reached_s : FD := fun ws Q _ => ∃ rs s : List Int, ws = [.d (intsT rs), .d (intsT s)] ∧ Rm rs ∧ St rs s ∧ ∀ E, Known rs s E → Q (.dict (dkE E))
theorem mono_all_reached : MonoF all_reached_s := fun ws Q Q' EX h ⟨l, s, e, R, S, q⟩ => ⟨l, s, e, R, S, fun E hE => h _ (q E hE)⟩
abbrev arE (rs s : List Int) (E : List En) (n : Nat) (x5 x6 : Option W) : Env' := [some (.d (intsT rs)), some (.d (intsT s)), some (.own (.dict (dkE E))), some (.own (.list (E.map fun e => intsT e.v))), some (.d (.int n)), x5, x6]
theorem meets_all_reached (ws : List W) (Q : D → Prop) (EX : EXn) (h : all_reached_s ws Q EX) : mkF 2 7 all_reached_w ws Q EX := by
  obtain ⟨rs, s, rfl, R, S, q⟩ := h
  refine ⟨rfl, ?_⟩
  rw [all_reached_r]
  simp [all_reached_r0, all_reached_r1, all_reached_r2, all_reached_r3]
  refine ⟨?_, ?_⟩
  · exact tup_intsT
  refine ⟨fun m ρ => ∃ E n x5 x6, ρ = arE rs s E n x5 x6 ∧ Part rs s E n ∧ n ≤ E.length ∧ m = 2197 - n, ⟨2197, [⟨s, none, 0⟩], 0, none, none, rfl, K25.part_start, by simp, rfl⟩, ?_⟩
  rintro m ρ ⟨E, n, x5, x6, rfl, hp, hn, rfl⟩
  have hEl := hp.len R S
  simp
  by_cases c : n < E.length
  · rw [if_pos c]
    obtain ⟨e, he⟩ := some_of_lt' c
    refine ⟨rs, rfl, R, _, rfl, ?_⟩
    refine loop_runM (fun i ρ => ∃ E x5 x6, ρ = arE rs s E n x5 x6 ∧ Part rs s E n ∧ E[n]? = some e ∧ ∀ p ∈ (deedsL rs.length rs.length).take i, bh rs e.v p ∈ E.map (·.v)) ⟨E, x5, x6, rfl, hp, he, by simp⟩ ?_ ?_
    · rintro i p ρ P hi ⟨E, x5, x6, rfl, hp, he, hc⟩ hP
      have hpd : IsDd rs.length p := K25.mem_deeds.mp (List.mem_of_getElem? hi)
      have hst : St rs e.v := K25.walk_st R S (hp.qu.dist e.vd (List.mem_map_of_mem (List.mem_of_getElem? he))).1
      have hEl := hp.len R S
      have gl : (E.map fun e => intsT e.v)[n]? = some (intsT e.v) := by rw [List.getElem?_map, he]; rfl
      have hem := List.mem_of_getElem? he
      have tk : (deedsL rs.length rs.length).take (i + 1) = (deedsL rs.length rs.length).take i ++ [p] := by rw [List.take_add_one, hi]; rfl
      simp
      refine ⟨_, atD_nat gl, rs, e.v, p, rfl, R, hst, hpd, dkE_fit, ?_⟩
      by_cases k : bh rs e.v p ∈ E.map (·.v)
      · obtain ⟨e', he', ee⟩ := List.mem_map.mp k
        rw [if_neg (by rw [← ee, dkE_some (part_nd hp) he']; simp)]
        refine hP _ ⟨E, _, _, rfl, hp, he, fun p' hp' => ?_⟩
        rw [tk] at hp'
        rcases List.mem_append.mp hp' with hp' | hp'
        · exact hc p' hp'
        · rw [List.mem_singleton] at hp'
          rw [hp']; exact k
      · rw [if_pos (dkE_none k)]
        refine ownD_of rfl ⟨_, atD_nat gl, _, atD_nat gl, dkE_fit, _, dkE_some (part_nd hp) hem, ?_⟩
        simp [enD]
        refine ⟨_, rfl, ?_⟩
        simp
        refine ⟨dkE_fit, by unfold dkE; rw [List.length_map, sizeLine_eq]; omega, ownL_of rfl ⟨by rw [List.length_map, sizeLine_eq]; omega, ?_⟩⟩
        have hp2 := K25.part_new hp he hpd k
        have e1 : dPut (dkE E) (intsT (bh rs e.v p)) (.tuple [intsT e.v, deedT p, .int (e.d + 1)]) = dkE (E ++ [⟨bh rs e.v p, some (e.v, p), e.d + 1⟩]) := dkE_put (e := ⟨bh rs e.v p, some (e.v, p), e.d + 1⟩) k
        refine hP _ ⟨E ++ [⟨bh rs e.v p, some (e.v, p), e.d + 1⟩], some (.d (deedT p)), some (.d (intsT (bh rs e.v p))), ?_, hp2, ?_, fun p' hp' => ?_⟩
        · rw [e1]
          show _ = arE _ _ _ _ _ _
          unfold arE
          rw [List.map_append]
          rfl
        · rw [List.getElem?_append_left (by exact (List.getElem?_eq_some_iff.mp he).1)]; exact he
        · rw [List.map_append]
          rw [tk] at hp'
          rcases List.mem_append.mp hp' with hp' | hp'
          · exact List.mem_append_left _ (hc p' hp')
          · rw [List.mem_singleton] at hp'
            rw [hp']
            exact List.mem_append_right _ (by simp)
    · rintro ρ ⟨E, x5, x6, rfl, hp, he, hc⟩
      rw [List.take_of_length_le (Nat.le_refl _)] at hc
      have hp2 := K25.part_turn hp he fun p hpd => hc p (K25.mem_deeds.mpr hpd)
      have hnl : n < E.length := (List.getElem?_eq_some_iff.mp he).1
      have hEl := hp.len R S
      simp
      exact ⟨2197 - (n + 1), by omega, E, n + 1, ⟨rfl, rfl, rfl⟩, hp2, by omega, rfl⟩
  · rw [if_neg c]
    simp [all_reached_r4]
    exact q E (K25.part_end hp (by omega))
theorem ar_use {rs s : List Int} {Q : D → Prop} {EX : EXn} (R : Rm rs) (S : St rs s) (q : ∀ E, Known rs s E → Q (.dict (dkE E))) : all_reached_s [.d (intsT rs), .d (intsT s)] Q EX := ⟨rs, s, rfl, R, S, q⟩
theorem Known_len {rs s : List Int} {E F : List En} (h : Known rs s E) (h' : Known rs s F) : E.length = F.length := by
  have := h.full.length_eq h'.full
  rwa [List.length_map, List.length_map] at this
def many_states_r1 : WS := (wRet (wOpN (f1 aLenB) (waCons (wCall all_reached_s (wwCons (wVar 0) (wwCons (wVar 1) wwNil))) waNil)))
def many_states_r0 : WS := wSeq (wExpr (wCall check_state_s (wwCons (wVar 0) (wwCons (wVar 1) wwNil)))) many_states_r1
def many_states_w : WS := wSeq (wExpr (wCall check_state_s (wwCons (wVar 0) (wwCons (wVar 1) wwNil)))) (wRet (wOpN (f1 aLenB) (waCons (wCall all_reached_s (wwCons (wVar 0) (wwCons (wVar 1) wwNil))) waNil)))
theorem many_states_r : many_states_w = many_states_r0 := rfl
def many_states_s : FD := fun ws Q EX => ∃ r s : D, ws = [.d r, .d s] ∧ SX r s EX ∧ (sok r s = true → ∀ E, Known (rdL r) (rdL s) E → Q (.int E.length))
theorem mono_many_states : MonoF many_states_s := fun ws Q Q' EX h ⟨r, s, e, x, q⟩ => ⟨r, s, e, x, fun z E hE => h _ (q z E hE)⟩
theorem meets_many_states (ws : List W) (Q : D → Prop) (EX : EXn) (h : many_states_s ws Q EX) : mkF 2 2 many_states_w ws Q EX := by
  obtain ⟨r, s, rfl, X, q⟩ := h
  refine ⟨rfl, ?_⟩
  rw [many_states_r]
  simp [many_states_r0]
  refine cs_use X fun ok => ?_
  have q := q ok
  obtain ⟨rs, v, rfl, rfl, R, S⟩ := sok_read ok
  rw [rdL_ints, rdL_ints] at q
  simp [many_states_r1]
  refine ar_use R S fun E hE => ?_
  have e : ((dkE E).length : Int) = E.length := by unfold dkE; rw [List.length_map]
  simp
  rw [e]
  exact q E hE
/-! ### a goal -/
structure GX (r s g : D) (EX : EXn) : Prop where
  sx : SX r s EX
  x3 : sok r s = true → isNum g 0 12 = false → EX (.bad "goal")
def gok (r s g : D) : Bool := sok r s && isNum g 0 12
theorem gok_read {r s g : D} (h : gok r s g = true) : ∃ rs v k, r = intsT rs ∧ s = intsT v ∧ g = .int k ∧ Rm rs ∧ St rs v ∧ 0 ≤ k ∧ k ≤ 12 := by
  simp only [gok, Bool.and_eq_true] at h
  obtain ⟨rs, v, rfl, rfl, R, S⟩ := sok_read h.1
  obtain ⟨k, rfl, h1, h2⟩ := isNum_int h.2
  exact ⟨rs, v, k, rfl, rfl, rfl, R, S, h1, h2⟩
theorem gx_ok {rs v : List Int} {k : Int} {EX : EXn} (R : Rm rs) (S : St rs v) (h0 : 0 ≤ k) (h1 : k ≤ 12) : GX (intsT rs) (intsT v) (.int k) EX := ⟨sx_ok R S, fun _ z => (by simp [isNum, h0, h1] at z)⟩
theorem gok_ok {rs v : List Int} {k : Int} (R : Rm rs) (S : St rs v) (h0 : 0 ≤ k) (h1 : k ≤ 12) : gok (intsT rs) (intsT v) (.int k) = true := by
  unfold gok
  rw [sok_ok R S]
  simp [isNum, h0, h1]
theorem gx_bad1 {r s g : D} {EX : EXn} (c : rmOk r = false) (hx : EX (.bad "rooms")) : GX r s g EX := ⟨sx_bad1 c hx, fun z => by (rw [sok1 c] at z; cases z)⟩
theorem gx_bad2 {r s g : D} {EX : EXn} (h : rmOk r = true) (c : stOk r s = false) (hx : EX (.bad "state")) : GX r s g EX := ⟨sx_bad2 h hx, fun z => by (rw [sok2 c] at z; cases z)⟩
theorem gx_bad3 {rs v : List Int} {g : D} {EX : EXn} (R : Rm rs) (S : St rs v) (hx : EX (.bad "goal")) : GX (intsT rs) (intsT v) g EX := ⟨sx_ok R S, fun _ _ => hx⟩
theorem any_ints {S : List Int} {k : Int} : ((S.map PyData.int).any fun z => PyData.eqv z (.int k)) = decide (k ∈ S) := by
  rw [List.any_map, Bool.eq_iff_iff, List.any_eq_true, decide_eq_true_eq]
  constructor
  · rintro ⟨x, hx, e⟩
    have e : (x == k) = true := e
    rw [← eq_of_beq e]
    exact hx
  · intro h
    exact ⟨_, h, by show (k == k) = true; simp⟩
theorem in_ints {neg : Bool} {k : Int} {S : List Int} {Q : Bool → Prop} (q : Q (if neg = true then !decide (k ∈ S) else decide (k ∈ S))) : gIn neg (.int k) (.tuple (S.map .int)) Q := by
  refine ⟨⟨rfl, by rw [List.all_map]; exact List.all_eq_true.mpr fun x _ => rfl⟩, ?_⟩
  rw [any_ints]
  exact q
def oD : Option En → D
  | none => .none
  | some e => intsT e.v
def first_with_r4 : WS := (wRet (wTup (waCons (wVar 3) (waCons (wC .none) waNil))))
def first_with_r3 : WS := wSeq (wFor (wiSeqB (wVar 3)) (wgName 4) (wIfS (wTst2 (gInB false) (wVar 2) (wVar 4)) (wRet (wTup (waCons (wVar 3) (waCons (wVar 4) waNil)))) wSkip)) first_with_r4
def first_with_r2 : WS := wSeq (wSet 3 (wCall all_reached_s (wwCons (wVar 0) (wwCons (wVar 1) wwNil)))) first_with_r3
def first_with_r1 : WS := wSeq (wExpr (wCall check_s (wwCons (wCall is_number_s (wwCons (wVar 2) (wwCons (wC (.int (0))) (wwCons (wC (.int (12))) wwNil)))) (wwCons (wC (.str "goal")) wwNil)))) first_with_r2
def first_with_r0 : WS := wSeq (wExpr (wCall check_state_s (wwCons (wVar 0) (wwCons (wVar 1) wwNil)))) first_with_r1
def first_with_w : WS := wSeq (wExpr (wCall check_state_s (wwCons (wVar 0) (wwCons (wVar 1) wwNil)))) (wSeq (wExpr (wCall check_s (wwCons (wCall is_number_s (wwCons (wVar 2) (wwCons (wC (.int (0))) (wwCons (wC (.int (12))) wwNil)))) (wwCons (wC (.str "goal")) wwNil)))) (wSeq (wSet 3 (wCall all_reached_s (wwCons (wVar 0) (wwCons (wVar 1) wwNil)))) (wSeq (wFor (wiSeqB (wVar 3)) (wgName 4) (wIfS (wTst2 (gInB false) (wVar 2) (wVar 4)) (wRet (wTup (waCons (wVar 3) (waCons (wVar 4) waNil)))) wSkip)) (wRet (wTup (waCons (wVar 3) (waCons (wC .none) waNil)))))))
theorem first_with_r : first_with_w = first_with_r0 := rfl
def fwA_r0 : WS := (wIfS (wTst2 (gInB false) (wVar 2) (wVar 4)) (wRet (wTup (waCons (wVar 3) (waCons (wVar 4) waNil)))) wSkip)
theorem fwA_for : first_with_r3 = wSeq (wFor (wiSeqB (wVar 3)) (wgName 4) fwA_r0) first_with_r4 := rfl
def first_with_s : FD := fun ws Q EX => ∃ r s g : D, ws = [.d r, .d s, .d g] ∧ GX r s g EX ∧ (gok r s g = true → ∀ E o, Known (rdL r) (rdL s) E → FirstOk (rdI g) E o → Q (.tuple [.dict (dkE E), oD o]))
theorem mono_first_with : MonoF first_with_s := fun ws Q Q' EX h ⟨r, s, g, e, x, q⟩ => ⟨r, s, g, e, x, fun z E o hE ho => h _ (q z E o hE ho)⟩
theorem meets_first_with (ws : List W) (Q : D → Prop) (EX : EXn) (h : first_with_s ws Q EX) : mkF 3 5 first_with_w ws Q EX := by
  obtain ⟨r, s, g, rfl, X, q⟩ := h
  refine ⟨rfl, ?_⟩
  rw [first_with_r]
  simp [first_with_r0]
  refine cs_use X.sx fun ok => ?_
  simp [first_with_r1]
  refine ⟨g, 0, 12, rfl, check_use (by decide) (fun h2 => ?_) fun h2 => X.x3 ok h2⟩
  have gk : gok r s g = true := by unfold gok; rw [ok, h2]; rfl
  have q := q gk
  obtain ⟨rs, v, k, rfl, rfl, rfl, R, S, h0, h1⟩ := gok_read gk
  rw [rdL_ints, rdL_ints] at q
  have q : ∀ E o, Known rs v E → FirstOk k E o → Q (.tuple [.dict (dkE E), oD o]) := q
  simp [first_with_r2]
  refine ar_use R S fun E hE => ?_
  rw [fwA_for]
  simp
  refine ⟨_, rfl, ?_⟩
  have ek : (dkE E).map (·.1) = E.map fun e => intsT e.v := by unfold dkE; rw [List.map_map]; rfl
  rw [ek]
  refine loop_runM (fun i ρ => ∃ x4, ρ = [some (.d (intsT rs)), some (.d (intsT v)), some (.d (.int k)), some (.d (.dict (dkE E))), x4] ∧ ∀ x ∈ E.take i, k ∉ x.v) ⟨none, rfl, by simp⟩ ?_ ?_
  · rintro i e ρ P hi ⟨x4, rfl, ha⟩ hP
    simp [fwA_r0, intsT]
    refine in_ints ?_
    by_cases c : k ∈ e.v
    · simp [c]
      refine q E (some e) hE (K25.first_of hE (A := E.take i) (B := E.drop (i + 1)) ?_ ha c)
      have hil := List.getElem?_eq_some_iff.mp hi
      obtain ⟨hl, e1⟩ := hil
      rw [← e1, ← List.drop_eq_getElem_cons hl, List.take_append_drop]
    · simp [c]
      refine hP _ ⟨_, rfl, fun x hx => ?_⟩
      rw [List.take_add_one, hi] at hx
      rcases List.mem_append.mp hx with hx | hx
      · exact ha x hx
      · simp at hx
        rw [hx]; exact c
  · rintro ρ ⟨x4, rfl, ha⟩
    rw [List.take_of_length_le (Nat.le_refl _)] at ha
    simp [first_with_r4]
    exact q E none hE ha
theorem fw_use {r s g : D} {Q : D → Prop} {EX : EXn} (X : GX r s g EX) (q : gok r s g = true → ∀ E o, Known (rdL r) (rdL s) E → FirstOk (rdI g) E o → Q (.tuple [.dict (dkE E), oD o])) : first_with_s [.d r, .d s, .d g] Q EX := ⟨r, s, g, rfl, X, q⟩
def natD : Option Nat → D
  | none => .none
  | some d => .int d
def fewest_deeds_r1 : WS := (wRet (wIf (wTst2 gIsN (wVar 4) (wC .none)) (wC .none) (wOp2 aIxB (wOp2 aIxB (wVar 3) (wVar 4)) (wC (.int (2))))))
def fewest_deeds_r0 : WS := wSeq (wAsg (wCall first_with_s (wwCons (wVar 0) (wwCons (wVar 1) (wwCons (wVar 2) wwNil)))) (wgTup 2 (wgCons (wgName 3) (wgCons (wgName 4) wgNil)))) fewest_deeds_r1
def fewest_deeds_w : WS := wSeq (wAsg (wCall first_with_s (wwCons (wVar 0) (wwCons (wVar 1) (wwCons (wVar 2) wwNil)))) (wgTup 2 (wgCons (wgName 3) (wgCons (wgName 4) wgNil)))) (wRet (wIf (wTst2 gIsN (wVar 4) (wC .none)) (wC .none) (wOp2 aIxB (wOp2 aIxB (wVar 3) (wVar 4)) (wC (.int (2))))))
theorem fewest_deeds_r : fewest_deeds_w = fewest_deeds_r0 := rfl
def fewest_deeds_s : FD := fun ws Q EX => ∃ r s g : D, ws = [.d r, .d s, .d g] ∧ GX r s g EX ∧ (gok r s g = true → ∀ o, Few (rdL r) (rdL s) (rdI g) o → Q (natD o))
theorem mono_fewest_deeds : MonoF fewest_deeds_s := fun ws Q Q' EX h ⟨r, s, g, e, x, q⟩ => ⟨r, s, g, e, x, fun z o ho => h _ (q z o ho)⟩
theorem meets_fewest_deeds (ws : List W) (Q : D → Prop) (EX : EXn) (h : fewest_deeds_s ws Q EX) : mkF 3 5 fewest_deeds_w ws Q EX := by
  obtain ⟨r, s, g, rfl, X, q⟩ := h
  refine ⟨rfl, ?_⟩
  rw [fewest_deeds_r]
  simp [fewest_deeds_r0]
  refine fw_use X fun gk E o hE ho => ?_
  have q := q gk _ (K25.first_few hE ho)
  simp [fewest_deeds_r1]
  cases o with
  | none => 
    simp [oD, isNone]
    exact q
  | some e =>
    have hn : isNone (oD (some e)) = false := rfl
    simp [hn]
    simp [oD]
    refine ⟨dkE_fit, _, dkE_some (known_nd hE) ho.1, ?_⟩
    simp [enD]
    exact ⟨_, rfl, q⟩
def deeds_r4 : WS := (wRet (wOpN (f1 aTupleOf) (waCons (wRevA (wOwn 5)) waNil)))
def deeds_r3 : WS := wSeq (wWhile (wTst2 gNotN (wOp2 aIxB (wOp2 aIxB (wVar 3) (wVar 4)) (wC (.int (0)))) (wC .none)) (wSeq (wApp 5 (wOp2 aIxB (wOp2 aIxB (wVar 3) (wVar 4)) (wC (.int (1))))) (wSet 4 (wOp2 aIxB (wOp2 aIxB (wVar 3) (wVar 4)) (wC (.int (0))))))) deeds_r4
def deeds_r2 : WS := wSeq (wSetO 5 (wLst waNil)) deeds_r3
def deeds_r1 : WS := wSeq (wIfS (wTst2 gIsN (wVar 4) (wC .none)) (wRet (wC .none)) wSkip) deeds_r2
def deeds_r0 : WS := wSeq (wAsg (wCall first_with_s (wwCons (wVar 0) (wwCons (wVar 1) (wwCons (wVar 2) wwNil)))) (wgTup 2 (wgCons (wgName 3) (wgCons (wgName 4) wgNil)))) deeds_r1
def deeds_w : WS := wSeq (wAsg (wCall first_with_s (wwCons (wVar 0) (wwCons (wVar 1) (wwCons (wVar 2) wwNil)))) (wgTup 2 (wgCons (wgName 3) (wgCons (wgName 4) wgNil)))) (wSeq (wIfS (wTst2 gIsN (wVar 4) (wC .none)) (wRet (wC .none)) wSkip) (wSeq (wSetO 5 (wLst waNil)) (wSeq (wWhile (wTst2 gNotN (wOp2 aIxB (wOp2 aIxB (wVar 3) (wVar 4)) (wC (.int (0)))) (wC .none)) (wSeq (wApp 5 (wOp2 aIxB (wOp2 aIxB (wVar 3) (wVar 4)) (wC (.int (1))))) (wSet 4 (wOp2 aIxB (wOp2 aIxB (wVar 3) (wVar 4)) (wC (.int (0))))))) (wRet (wOpN (f1 aTupleOf) (waCons (wRevA (wOwn 5)) waNil))))))
theorem deeds_r : deeds_w = deeds_r0 := rfl
def dsD : Option (List Dd) → D
  | none => .none
  | some ds => .tuple (ds.map deedT)
def deeds_s : FD := fun ws Q EX => ∃ r s g : D, ws = [.d r, .d s, .d g] ∧ GX r s g EX ∧ (gok r s g = true → ∀ o, Res (rdL r) (rdL s) (rdI g) o → Q (dsD o))
theorem mono_deeds : MonoF deeds_s := fun ws Q Q' EX h ⟨r, s, g, e, x, q⟩ => ⟨r, s, g, e, x, fun z o ho => h _ (q z o ho)⟩
theorem meets_deeds (ws : List W) (Q : D → Prop) (EX : EXn) (h : deeds_s ws Q EX) : mkF 3 6 deeds_w ws Q EX := by
  obtain ⟨r, s, g, rfl, X, q⟩ := h
  refine ⟨rfl, ?_⟩
  rw [deeds_r]
  simp [deeds_r0]
  refine fw_use X fun gk E o hE ho => ?_
  have q := q gk
  simp [deeds_r1]
  cases o with
  | none => 
    simp [oD, isNone]
    exact q none (K25.first_few hE ho)
  | some t =>
    have hn : isNone (oD (some t)) = false := rfl
    simp [hn]
    simp [oD, deeds_r2, deeds_r3]
    have hlen : E.length ≤ 2197 := by
      obtain ⟨rs, v, k, rfl, rfl, rfl, R, S, h0, h1⟩ := gok_read gk
      rw [rdL_ints, rdL_ints] at hE
      exact hE.len R S
    refine ⟨fun m ρ => ∃ e ds, ρ = [some (.d r), some (.d s), some (.d g), some (.d (.dict (dkE E))), some (.d (intsT e.v)), some (.own (.list (ds.reverse.map deedT)))] ∧ K25.Back (rdL r) E t e ds ∧ m = e.d, ⟨t.d, t, [], rfl, K25.back_start ho.1, rfl⟩, ?_⟩
    rintro m ρ ⟨e, ds, rfl, hb, rfl⟩
    have pr := hE.pr e hb.mem
    have hg := dkE_some (known_nd hE) hb.mem
    simp
    refine ⟨dkE_fit, _, hg, ?_⟩
    simp [enD]
    refine ⟨_, rfl, ?_⟩
    cases hpr : e.pr with
    | none =>
      simp [prS, isNone, deeds_r4]
      have := q _ (K25.back_end hE ho hb hpr)
      simpa [dsD] using this
    | some qp =>
      obtain ⟨qv, p⟩ := qp
      obtain ⟨e', h1, h2, hb'⟩ := K25.back_step hb pr hpr
      have hdl : ds.length ≤ 2197 := by
        have h3 := hb.len
        have h4 : t.d ≤ 2197 := by
          have := hE.small ho.1
          omega
        omega
      rw [if_neg (by simp [prS, isNone, intsT])]
      refine ownL_of rfl ⟨dkE_fit, _, hg, ?_⟩
      simp [enD, hpr]
      refine ⟨_, rfl, by rw [sizeLine_eq]; omega, dkE_fit, _, hg, ?_⟩
      simp [enD, hpr]
      refine ⟨_, rfl, e'.d, h2, e', p :: ds, ⟨?_, ?_⟩, hb', rfl⟩
      · rw [h1]; rfl
      · simp [prP]
theorem fd_use {r s g : D} {Q : D → Prop} {EX : EXn} (X : GX r s g EX) (q : gok r s g = true → ∀ o, Few (rdL r) (rdL s) (rdI g) o → Q (natD o)) : fewest_deeds_s [.d r, .d s, .d g] Q EX := ⟨r, s, g, rfl, X, q⟩
/-! ### steps -/
def isDdD (n : Nat) : D → Bool
  | .tuple [.int a, .int w] => decide (0 ≤ a) && decide (IsDd n (a.toNat, w))
  | _ => false
def rdDd : D → Dd
  | .tuple [.int a, .int w] => (a.toNat, w)
  | _ => (0, 0)
theorem rdDd_deed {p : Dd} : rdDd (deedT p) = p := rfl
theorem isDd_read {n : Nat} {d : D} (h : isDdD n d = true) : ∃ p, d = deedT p ∧ IsDd n p := by
  unfold isDdD at h
  split at h
  · next a w =>
    simp only [Bool.and_eq_true, decide_eq_true_eq] at h
    refine ⟨(a.toNat, w), ?_, h.2⟩
    have : ((a.toNat : Nat) : Int) = a := by omega
    unfold deedT
    rw [this]
  · cases h
theorem isDd_ok {n : Nat} {p : Dd} (h : IsDd n p) : isDdD n (deedT p) = true := by
  unfold isDdD deedT
  simp [h]
theorem any_deeds {l : List Dd} {a w : Int} : ((l.map deedT).any fun z => PyData.eqv z (.tuple [.int a, .int w])) = (decide (0 ≤ a) && decide ((a.toNat, w) ∈ l)) := by
  rw [List.any_map, Bool.eq_iff_iff, List.any_eq_true, Bool.and_eq_true, decide_eq_true_eq, decide_eq_true_eq]
  have key : ∀ p : Dd, PyData.eqv (deedT p) (.tuple [.int a, .int w]) = (decide ((p.1 : Int) = a) && decide (p.2 = w)) := fun p => by
    show (((p.1 : Int) == a) && ((p.2 == w) && true)) = _
    rw [Bool.and_true]
    rfl
  constructor
  · rintro ⟨p, hp, e⟩
    have e : PyData.eqv (deedT p) (.tuple [.int a, .int w]) = true := e
    rw [key, Bool.and_eq_true, decide_eq_true_eq, decide_eq_true_eq] at e
    obtain ⟨e1, e2⟩ := e
    refine ⟨by omega, ?_⟩
    have : (a.toNat, w) = p := by rw [← e1, ← e2]; simp
    rw [this]; exact hp
  · rintro ⟨h0, hm⟩
    refine ⟨_, hm, ?_⟩
    show PyData.eqv (deedT (a.toNat, w)) (.tuple [.int a, .int w]) = true
    rw [key, Bool.and_eq_true, decide_eq_true_eq, decide_eq_true_eq]
    exact ⟨by simp only; omega, rfl⟩
def is_deed_w : WS := wRet (wAndV (wCall are_numbers_s (wwCons (wVar 1) (wwCons (wC (.int (2))) (wwCons (wC (.int (-2))) (wwCons (wC (.int (3))) wwNil))))) (wCmp2 (gInB false) (wVar 1) (wCall deeds_of_s (wwCons (wVar 0) wwNil))))
def is_deed_s : FD := fun ws Q _ => ∃ (rs : List Int) (d : D), ws = [.d (intsT rs), .d d] ∧ Rm rs ∧ Q (.bool (isDdD rs.length d))
theorem mono_is_deed : MonoF is_deed_s := fun ws Q Q' EX h ⟨l, v, e, R, q⟩ => ⟨l, v, e, R, h _ q⟩
theorem shD_deed {p : Dd} : shD 1 (deedT p) := shD_tuple fun x hx => by
  simp only [List.mem_cons, List.not_mem_nil, or_false] at hx
  rcases hx with rfl | rfl
  · exact shD_int
  · exact shD_int
theorem meets_is_deed (ws : List W) (Q : D → Prop) (EX : EXn) (h : is_deed_s ws Q EX) : mkF 2 2 is_deed_w ws Q EX := by
  obtain ⟨rs, d, rfl, R, q⟩ := h
  refine ⟨rfl, ?_⟩
  have hl3 := R.len
  simp [is_deed_w]
  refine ⟨_, _, _, _, rfl, ?_⟩
  by_cases c : areNums d 2 (-2) 3 = true
  · obtain ⟨a, w, rfl, h1, h2, h3, h4⟩ := areNums2 c
    rw [c]
    simp
    refine ⟨rs, rfl, R, ?_⟩
    simp
    refine ⟨.inr ⟨shaped_of (shD_tuple (n := 0) fun x hx => ?_), shaped_of (shD_list (n := 1) fun x hx => ?_)⟩, ?_⟩
    · simp only [List.mem_cons, List.not_mem_nil, or_false] at hx
      rcases hx with rfl | rfl
      · exact shD_int
      · exact shD_int
    · obtain ⟨p, _, rfl⟩ := List.mem_map.mp hx
      exact shD_deed
    · rw [any_deeds]
      have e : (decide (0 ≤ a) && decide ((a.toNat, w) ∈ deedsL rs.length rs.length)) = isDdD rs.length (.tuple [.int a, .int w]) := by
        show _ = (decide (0 ≤ a) && decide (IsDd rs.length (a.toNat, w)))
        congr 1
        exact decide_eq_decide.mpr K25.mem_deeds
      rw [e]
      exact q
  · have c' : areNums d 2 (-2) 3 = false := by simpa using c
    rw [c']
    simp
    have : isDdD rs.length d = false := by
      cases k : isDdD rs.length d with
      | false => rfl
      | true =>
        obtain ⟨p, rfl, h1, h2, h3, h4⟩ := isDd_read k
        exfalso
        apply c
        simp [areNums, deedT, isNum]
        omega
    rw [this] at q
    exact q
end DD
set_option maxRecDepth 100000
set_option maxHeartbeats 8000000
namespace DD
open PySem PySem.Spec PyProof.Rows L2 GenW
open K25 (Rm St Dd IsDd bh deedsL deedsOf En Known Part Few FirstOk Res replay PrOk)
/-! ### steps -/
def stepsB (n : Nat) : D → Bool
  | .tuple xs => xs.all (isDdD n)
  | _ => false
def rdDs : D → List Dd
  | .tuple xs => xs.map rdDd
  | _ => []
theorem rdDs_ds {ds : List Dd} : rdDs (.tuple (ds.map deedT)) = ds := by
  show (ds.map deedT).map rdDd = ds
  rw [List.map_map]
  exact (List.map_congr_left fun p _ => rdDd_deed).trans (List.map_id _)
theorem steps_ok {n : Nat} {ds : List Dd} (h : ∀ p ∈ ds, IsDd n p) : stepsB n (.tuple (ds.map deedT)) = true := by
  show (ds.map deedT).all (isDdD n) = true
  rw [List.all_map, List.all_eq_true]
  exact fun p hp => isDd_ok (h p hp)
theorem steps_read {n : Nat} {v : D} (h : stepsB n v = true) : ∃ ds : List Dd, v = .tuple (ds.map deedT) ∧ ∀ p ∈ ds, IsDd n p := by
  cases v with
  | tuple xs =>
    have hh : xs.all (isDdD n) = true := h
    clear h
    rw [List.all_eq_true] at hh
    induction xs with
    | nil => exact ⟨[], rfl, fun p hp => by cases hp⟩
    | cons x xs ih =>
      obtain ⟨ds, e, hd⟩ := ih fun y hy => hh y (List.mem_cons_of_mem _ hy)
      obtain ⟨p, rfl, hp⟩ := isDd_read (hh x List.mem_cons_self)
      injection e with e
      refine ⟨p :: ds, by rw [e]; rfl, fun q hq => ?_⟩
      rcases List.mem_cons.mp hq with rfl | hq
      · exact hp
      · exact hd q hq
  | _ => simp [stepsB] at h
def are_steps_w : WS := wRet (wAndV (wIsi "tuple" (wVar 1)) (wAllG (wiSeqB (wVar 1)) (wgName 2) wYes (wCall is_deed_s (wwCons (wVar 0) (wwCons (wVar 2) wwNil))) [2]))
def are_steps_s : FD := fun ws Q _ => ∃ (rs : List Int) (v : D), ws = [.d (intsT rs), .d v] ∧ Rm rs ∧ Q (.bool (stepsB rs.length v))
theorem mono_are_steps : MonoF are_steps_s := fun ws Q Q' EX h ⟨l, v, e, R, q⟩ => ⟨l, v, e, R, h _ q⟩
theorem meets_are_steps (ws : List W) (Q : D → Prop) (EX : EXn) (h : are_steps_s ws Q EX) : mkF 2 3 are_steps_w ws Q EX := by
  obtain ⟨rs, v, rfl, R, q⟩ := h
  refine ⟨rfl, ?_⟩
  cases v with
  | tuple xs =>
    simp [are_steps_w, isTy, tyD]
    refine ⟨xs, rfl, all_eval (isDdD rs.length) (fun d _ R' r => ?_) q⟩
    simp
    exact ⟨rs, d, rfl, R, r⟩
  | _ => simpa [are_steps_w, isTy, tyD, stepsB] using q
structure AX (r s v : D) (EX : EXn) : Prop where
  sx : SX r s EX
  x3 : sok r s = true → stepsB (rdL r).length v = false → EX (.bad "steps")
def after_deeds_r4 : WS := (wRet (wVar 3))
def after_deeds_r3 : WS := wSeq (wFor (wiSeqB (wVar 2)) (wgName 4) (wSet 3 (wCall behind_s (wwCons (wVar 0) (wwCons (wVar 3) (wwCons (wVar 4) wwNil)))))) after_deeds_r4
def after_deeds_r2 : WS := wSeq (wSet 3 (wVar 1)) after_deeds_r3
def after_deeds_r1 : WS := wSeq (wExpr (wCall check_s (wwCons (wCall are_steps_s (wwCons (wVar 0) (wwCons (wVar 2) wwNil))) (wwCons (wC (.str "steps")) wwNil)))) after_deeds_r2
def after_deeds_r0 : WS := wSeq (wExpr (wCall check_state_s (wwCons (wVar 0) (wwCons (wVar 1) wwNil)))) after_deeds_r1
def after_deeds_w : WS := wSeq (wExpr (wCall check_state_s (wwCons (wVar 0) (wwCons (wVar 1) wwNil)))) (wSeq (wExpr (wCall check_s (wwCons (wCall are_steps_s (wwCons (wVar 0) (wwCons (wVar 2) wwNil))) (wwCons (wC (.str "steps")) wwNil)))) (wSeq (wSet 3 (wVar 1)) (wSeq (wFor (wiSeqB (wVar 2)) (wgName 4) (wSet 3 (wCall behind_s (wwCons (wVar 0) (wwCons (wVar 3) (wwCons (wVar 4) wwNil)))))) (wRet (wVar 3)))))
theorem after_deeds_r : after_deeds_w = after_deeds_r0 := rfl
def adA_r0 : WS := (wSet 3 (wCall behind_s (wwCons (wVar 0) (wwCons (wVar 3) (wwCons (wVar 4) wwNil)))))
theorem adA_for : after_deeds_r3 = wSeq (wFor (wiSeqB (wVar 2)) (wgName 4) adA_r0) after_deeds_r4 := rfl
def after_deeds_s : FD := fun ws Q EX => ∃ r s v : D, ws = [.d r, .d s, .d v] ∧ AX r s v EX ∧ (sok r s = true → stepsB (rdL r).length v = true → Q (intsT (replay (rdL r) (rdL s) (rdDs v))))
theorem mono_after_deeds : MonoF after_deeds_s := fun ws Q Q' EX h ⟨r, s, v, e, x, q⟩ => ⟨r, s, v, e, x, fun z a => h _ (q z a)⟩
theorem meets_after_deeds (ws : List W) (Q : D → Prop) (EX : EXn) (h : after_deeds_s ws Q EX) : mkF 3 5 after_deeds_w ws Q EX := by
  obtain ⟨r, s, v, rfl, X, q⟩ := h
  refine ⟨rfl, ?_⟩
  rw [after_deeds_r]
  simp [after_deeds_r0]
  refine cs_use X.sx fun ok => ?_
  have q := q ok
  have x3 := X.x3 ok
  clear X
  obtain ⟨rs, st, rfl, rfl, R, S⟩ := sok_read ok
  rw [rdL_ints] at q x3
  rw [rdL_ints] at q
  simp [after_deeds_r1]
  refine ⟨rs, v, rfl, R, check_use (by decide) (fun h2 => ?_) x3⟩
  have q := q h2
  obtain ⟨ds, rfl, hd⟩ := steps_read h2
  rw [rdDs_ds] at q
  simp [after_deeds_r2]
  rw [adA_for]
  simp
  refine ⟨_, rfl, ?_⟩
  refine loop_runM (fun i ρ => ∃ x4, ρ = [some (.d (intsT rs)), some (.d (intsT st)), some (.d (.tuple (ds.map deedT))), some (.d (intsT (replay rs st (ds.take i)))), x4]) ⟨none, rfl⟩ ?_ ?_
  · rintro i p ρ P hi ⟨x4, rfl⟩ hP
    have hp := hd p (List.mem_of_getElem? hi)
    simp [adA_r0]
    refine ⟨rs, _, p, rfl, R, K25.replay_st R S fun q hq => hd q (List.mem_of_mem_take hq), hp, ?_⟩
    refine hP _ ⟨some (.d (deedT p)), ?_⟩
    have : ds.take (i + 1) = ds.take i ++ [p] := by rw [List.take_add_one, hi]; rfl
    rw [this]
    unfold replay
    rw [List.foldl_append]
    rfl
  · rintro ρ ⟨x4, rfl⟩
    rw [List.take_of_length_le (Nat.le_refl _)]
    simp [after_deeds_r4]
    exact q
theorem ad_use {rs st : List Int} {ds : List Dd} {Q : D → Prop} {EX : EXn} (R : Rm rs) (S : St rs st) (hd : ∀ p ∈ ds, IsDd rs.length p) (q : Q (intsT (replay rs st ds))) : after_deeds_s [.d (intsT rs), .d (intsT st), .d (.tuple (ds.map deedT))] Q EX := by
  refine ⟨_, _, _, rfl, ⟨sx_ok R S, fun _ z => ?_⟩, fun _ _ => ?_⟩
  · rw [rdL_ints, steps_ok hd] at z; cases z
  · rw [rdL_ints, rdL_ints, rdDs_ds]; exact q
def isD (rs s : List Int) (g : Int) (v : D) : Option Nat → Bool
  | none => false
  | some d => stepsB rs.length v && (decide ((rdDs v).length = d) && decide (g ∈ replay rs s (rdDs v)))
def are_deeds_r2 : WS := (wRet (wCmp2 (gInB false) (wVar 2) (wCall after_deeds_s (wwCons (wVar 0) (wwCons (wVar 1) (wwCons (wVar 3) wwNil))))))
def are_deeds_r1 : WS := wSeq (wIfS (wOr (wTst2 gIsN (wVar 4) (wC .none)) (wOr (wNot (wTru (wCall are_steps_s (wwCons (wVar 0) (wwCons (wVar 3) wwNil))))) (wTst2 gNe (wOpN (f1 aLenB) (waCons (wVar 3) waNil)) (wVar 4)))) (wRet (wC (.bool false))) wSkip) are_deeds_r2
def are_deeds_r0 : WS := wSeq (wSet 4 (wCall fewest_deeds_s (wwCons (wVar 0) (wwCons (wVar 1) (wwCons (wVar 2) wwNil))))) are_deeds_r1
def are_deeds_w : WS := wSeq (wSet 4 (wCall fewest_deeds_s (wwCons (wVar 0) (wwCons (wVar 1) (wwCons (wVar 2) wwNil))))) (wSeq (wIfS (wOr (wTst2 gIsN (wVar 4) (wC .none)) (wOr (wNot (wTru (wCall are_steps_s (wwCons (wVar 0) (wwCons (wVar 3) wwNil))))) (wTst2 gNe (wOpN (f1 aLenB) (waCons (wVar 3) waNil)) (wVar 4)))) (wRet (wC (.bool false))) wSkip) (wRet (wCmp2 (gInB false) (wVar 2) (wCall after_deeds_s (wwCons (wVar 0) (wwCons (wVar 1) (wwCons (wVar 3) wwNil)))))))
theorem are_deeds_r : are_deeds_w = are_deeds_r0 := rfl
def are_deeds_s : FD := fun ws Q EX => ∃ r s g v : D, ws = [.d r, .d s, .d g, .d v] ∧ GX r s g EX ∧ (gok r s g = true → ∀ o, Few (rdL r) (rdL s) (rdI g) o → Q (.bool (isD (rdL r) (rdL s) (rdI g) v o)))
theorem mono_are_deeds : MonoF are_deeds_s := fun ws Q Q' EX h ⟨r, s, g, v, e, x, q⟩ => ⟨r, s, g, v, e, x, fun z o ho => h _ (q z o ho)⟩
theorem meets_are_deeds (ws : List W) (Q : D → Prop) (EX : EXn) (h : are_deeds_s ws Q EX) : mkF 4 5 are_deeds_w ws Q EX := by
  obtain ⟨r, s, g, v, rfl, X, q⟩ := h
  refine ⟨rfl, ?_⟩
  rw [are_deeds_r]
  simp [are_deeds_r0]
  refine fd_use X fun gk o ho => ?_
  have q := q gk o ho
  clear X
  obtain ⟨rs, st, k, rfl, rfl, rfl, R, S, h0, h1⟩ := gok_read gk
  rw [rdL_ints, rdL_ints] at q
  have q : Q (.bool (isD rs st k v o)) := q
  simp [are_deeds_r1]
  cases o with
  | none =>
    simp [natD, isNone]
    exact q
  | some d =>
    have hn : isNone (natD (some d)) = false := rfl
    simp [hn]
    refine ⟨rs, v, rfl, R, ?_⟩
    by_cases c : stepsB rs.length v = true
    · obtain ⟨ds, rfl, hd⟩ := steps_read c
      simp only [isD, c, rdDs_ds, Bool.true_and] at q
      rw [c]
      simp [natD]
      by_cases z : ds.length = d
      · have z' : (ds.length : Int) = d := by omega
        rw [if_pos z']
        simp [are_deeds_r2]
        refine ad_use R S hd ?_
        simp [intsT]
        refine in_ints ?_
        simpa [z] using q
      · have z' : ¬ (ds.length : Int) = d := by omega
        rw [if_neg z']
        simpa [z] using q
    · have c' : stepsB rs.length v = false := by simpa using c
      rw [c']
      simp
      simp only [isD, c', Bool.false_and] at q
      exact q
/-! ### goals -/
def gk (ks : List Int) : List (D × D) := ks.map fun k => (.int k, .bool true)
def gadd (ks : List Int) (k : Int) : List Int := if k ∈ ks then ks else ks ++ [k]
theorem gk_keys {ks : List Int} : (gk ks).map (·.1) = ks.map .int := by unfold gk; rw [List.map_map]; rfl
theorem gk_int {ks : List Int} : IntK (gk ks) := fun p hp => by
  unfold gk at hp
  obtain ⟨k, _, rfl⟩ := List.mem_map.mp hp
  trivial
theorem gk_put {ks : List Int} {k : Int} : dPut (gk ks) (.int k) (.bool true) = gk (gadd ks k) := by
  unfold gadd
  by_cases c : k ∈ ks
  · rw [if_pos c]
    have hh : dHas (gk ks) (.int k) = true := by
      unfold dHas gk
      rw [List.any_map, List.any_eq_true]
      exact ⟨k, c, by simp⟩
    unfold dPut
    rw [if_pos hh]
    unfold gk
    rw [List.map_map]
    refine List.map_congr_left fun x _ => ?_
    simp only [Function.comp]
    split <;> rfl
  · rw [if_neg c, dPut_new]
    · unfold gk; rw [List.map_append]; rfl
    · cases g : dGet (gk ks) (.int k) with
      | none => rfl
      | some d =>
        have := mem_dGet g
        have h2 : PyData.int k ∈ (gk ks).map (·.1) := List.mem_map.mpr ⟨_, this, rfl⟩
        rw [gk_keys] at h2
        obtain ⟨w, hw, e⟩ := List.mem_map.mp h2
        cases e
        exact absurd hw c
theorem mem_gadd {ks : List Int} {k x : Int} : x ∈ gadd ks k ↔ x ∈ ks ∨ x = k := by
  unfold gadd
  by_cases c : k ∈ ks
  · rw [if_pos c]
    exact ⟨.inl, fun h => h.elim id fun z => by rw [z]; exact c⟩
  · rw [if_neg c, List.mem_append, List.mem_singleton]
theorem gadd_nd {ks : List Int} {k : Int} (h : ks.Nodup) : (gadd ks k).Nodup := by
  unfold gadd
  by_cases c : k ∈ ks
  · rw [if_pos c]; exact h
  · rw [if_neg c]
    refine List.nodup_append.mpr ⟨h, by simp, fun a ha b hb => ?_⟩
    rw [List.mem_singleton] at hb
    subst hb
    rintro rfl
    exact c ha
theorem gk_intKeys : ∀ {ks : List Int}, intKeys (gk ks) = some ks
  | [] => rfl
  | k :: ks => by
    show (intKeys (gk ks)).map (k :: ·) = _
    rw [gk_intKeys]
    rfl
structure Gl (rs s : List Int) (L : List Int) : Prop where
  up : K17.Rise L
  mem : ∀ k, k ∈ L ↔ ∃ n v, BFS.Walk (K25.G rs) s n v ∧ k ∈ v
theorem gl_eq {rs s L M : List Int} (h : Gl rs s L) (h' : Gl rs s M) : L = M := K17.rise_eq h.up h'.up fun x => (h.mem x).trans (h'.mem x).symm
def goals_r3 : WS := (wRet (wOpN (f1 aTupleOf) (waCons (wOpN (f1 aSortedB) (waCons (wOwn 2) waNil)) waNil)))
def goals_r2 : WS := wSeq (wFor (wiSeqB (wCall all_reached_s (wwCons (wVar 0) (wwCons (wVar 1) wwNil)))) (wgName 3) (wFor (wiSeqB (wVar 3)) (wgName 4) (wPutD 2 (wVar 4) (wC (.bool true))))) goals_r3
def goals_r1 : WS := wSeq (wSetO 2 wDict0) goals_r2
def goals_r0 : WS := wSeq (wExpr (wCall check_state_s (wwCons (wVar 0) (wwCons (wVar 1) wwNil)))) goals_r1
def goals_w : WS := wSeq (wExpr (wCall check_state_s (wwCons (wVar 0) (wwCons (wVar 1) wwNil)))) (wSeq (wSetO 2 wDict0) (wSeq (wFor (wiSeqB (wCall all_reached_s (wwCons (wVar 0) (wwCons (wVar 1) wwNil)))) (wgName 3) (wFor (wiSeqB (wVar 3)) (wgName 4) (wPutD 2 (wVar 4) (wC (.bool true))))) (wRet (wOpN (f1 aTupleOf) (waCons (wOpN (f1 aSortedB) (waCons (wOwn 2) waNil)) waNil)))))
theorem goals_r : goals_w = goals_r0 := rfl
def goA_r0 : WS := (wFor (wiSeqB (wVar 3)) (wgName 4) (wPutD 2 (wVar 4) (wC (.bool true))))
theorem goA_for : goals_r2 = wSeq (wFor (wiSeqB (wCall all_reached_s (wwCons (wVar 0) (wwCons (wVar 1) wwNil)))) (wgName 3) goA_r0) goals_r3 := rfl
def goals_s : FD := fun ws Q EX => ∃ r s : D, ws = [.d r, .d s] ∧ SX r s EX ∧ (sok r s = true → ∀ L, Gl (rdL r) (rdL s) L → Q (intsT L))
theorem mono_goals : MonoF goals_s := fun ws Q Q' EX h ⟨r, s, e, x, q⟩ => ⟨r, s, e, x, fun z L hL => h _ (q z L hL)⟩
theorem meets_goals (ws : List W) (Q : D → Prop) (EX : EXn) (h : goals_s ws Q EX) : mkF 2 5 goals_w ws Q EX := by
  obtain ⟨r, s, rfl, X, q⟩ := h
  refine ⟨rfl, ?_⟩
  rw [goals_r]
  simp [goals_r0]
  refine cs_use X fun ok => ?_
  have q := q ok
  clear X
  obtain ⟨rs, v, rfl, rfl, R, S⟩ := sok_read ok
  rw [rdL_ints, rdL_ints] at q
  simp [goals_r1]
  rw [goA_for]
  simp
  refine ar_use R S fun E hE => ⟨_, rfl, ?_⟩
  have ek : (dkE E).map (·.1) = E.map fun e => intsT e.v := by unfold dkE; rw [List.map_map]; rfl
  rw [ek]
  have lim : ∀ e ∈ E, ∀ k ∈ e.v, 0 ≤ k ∧ k ≤ 12 := fun e he => (K25.walk_st R S (hE.full.dist e.vd (List.mem_map_of_mem he)).1).lim R
  have small : ∀ ks : List Int, ks.Nodup → (∀ k ∈ ks, 0 ≤ k ∧ k ≤ 12) → ks.length ≤ 13 := fun ks nd h => by
    have h1 : ks ⊆ (List.range 13).map fun k : Nat => (k : Int) := fun k hk => by
      have := h k hk
      exact List.mem_map.mpr ⟨k.toNat, by rw [List.mem_range]; omega, by omega⟩
    have := BFS.nodup_sub nd h1
    simpa using this
  refine loop_runM (fun i ρ => ∃ ks x3 x4, ρ = [some (.d (intsT rs)), some (.d (intsT v)), some (.own (.dict (gk ks))), x3, x4] ∧ ks.Nodup ∧ ∀ k, k ∈ ks ↔ ∃ e ∈ E.take i, k ∈ e.v) ⟨[], none, none, rfl, List.nodup_nil, by simp⟩ ?_ ?_
  · rintro i e ρ P hi ⟨ks, x3, x4, rfl, nd, hm⟩ hP
    have hem := List.mem_of_getElem? hi
    simp [goA_r0, intsT]
    refine ⟨_, rfl, ?_⟩
    refine loop_runM (fun j ρ => ∃ ks x4, ρ = [some (.d (intsT rs)), some (.d (intsT v)), some (.own (.dict (gk ks))), some (.d (intsT e.v)), x4] ∧ ks.Nodup ∧ ∀ k, k ∈ ks ↔ (∃ e ∈ E.take i, k ∈ e.v) ∨ k ∈ e.v.take j) ⟨ks, x4, rfl, nd, fun k => by rw [hm]; simp⟩ ?_ ?_
    · rintro j k ρ P' hj ⟨ks, x4, rfl, nd, hm⟩ hP'
      simp
      have hks : ks.length ≤ 13 := small ks nd fun k hk => by
        rcases (hm k).mp hk with ⟨e', he', hk'⟩ | hk'
        · exact lim e' (List.mem_of_mem_take he') k hk'
        · exact lim e hem k (List.mem_of_mem_take hk')
      refine ownD_of rfl ⟨gk_int.fit, by unfold gk; rw [List.length_map, sizeLine_eq]; omega, ?_⟩
      rw [gk_put]
      refine hP' _ ⟨_, _, rfl, gadd_nd nd, fun x => ?_⟩
      rw [mem_gadd, hm, List.take_add_one, hj]
      simp [or_assoc]
    · rintro ρ ⟨ks, x4, rfl, nd, hm⟩
      refine hP _ ⟨ks, _, _, rfl, nd, fun k => ?_⟩
      rw [hm, List.take_of_length_le (Nat.le_refl _), List.take_add_one, hi]
      simp
  · rintro ρ ⟨ks, x3, x4, rfl, nd, hm⟩
    rw [List.take_of_length_le (Nat.le_refl _)] at hm
    simp [goals_r3]
    have hks : ks.length ≤ 13 := small ks nd fun k hk => by
      obtain ⟨e, he, hk⟩ := (hm k).mp hk
      exact lim e he k hk
    refine ⟨ks, gk_intKeys, by omega, fun L hp hs => ?_⟩
    simp
    refine q L ⟨K17.rise_of hs (hp.symm.nodup nd), fun k => ?_⟩
    rw [hp.mem_iff, hm]
    constructor
    · rintro ⟨e, he, hk⟩
      exact ⟨e.d, e.v, (hE.full.dist e.vd (List.mem_map_of_mem he)).1, hk⟩
    · rintro ⟨n, w, hw, hk⟩
      have := hE.full.all w ⟨n, hw⟩
      rw [K25.keys_eq] at this
      obtain ⟨e, he, rfl⟩ := List.mem_map.mp this
      exact ⟨e, he, hk⟩
end DD
set_option maxRecDepth 100000
set_option maxHeartbeats 8000000
namespace DD
open PySem PySem.Spec PyProof.Rows L2 GenW
open K25 (Rm St Dd IsDd bh deedsL deedsOf En Known Part Few FirstOk Res replay PrOk)
/-! ### the law's helpers -/
def _law_behind_r3 : WS := (wRet (wOpN (f1 aTupleOf) (waCons (wLc (wiRng1 (wOpN (f1 aLenB) (waCons (wVar 0) waNil))) (wgName 6) wYes (wIf (wTst2 gEq (wVar 6) (wVar 3)) (wOp2 aSub (wOp2 aIxB (wVar 1) (wVar 6)) (wVar 5)) (wIf (wTst2 gEq (wVar 6) (wVar 4)) (wOp2 aAdd (wOp2 aIxB (wVar 1) (wVar 6)) (wVar 5)) (wOp2 aIxB (wVar 1) (wVar 6)))) [6]) waNil)))
def _law_behind_r2 : WS := wSeq (wSet 5 (wOpN (f2 aMin2) (waCons (wOp2 aIxB (wVar 1) (wVar 3)) (waCons (wOp2 aSub (wOp2 aIxB (wVar 0) (wVar 4)) (wOp2 aIxB (wVar 1) (wVar 4))) waNil)))) _law_behind_r3
def _law_behind_r1 : WS := wSeq (wIfS (wTst2 gLt (wVar 4) (wC (.int (0)))) (wRet (wOp2 aAdd (wOp2 aAdd (wCut (wVar 1) woNone (woSome (wVar 3))) (wTup (waCons (wIf (wTst2 gEq (wVar 4) (wNeg (wC (.int (1))))) (wOp2 aIxB (wVar 0) (wVar 3)) (wC (.int (0)))) waNil))) (wCut (wVar 1) (woSome (wOp2 aAdd (wVar 3) (wC (.int (1))))) woNone))) wSkip) _law_behind_r2
def _law_behind_r0 : WS := wSeq (wAsg (wVar 2) (wgTup 2 (wgCons (wgName 3) (wgCons (wgName 4) wgNil)))) _law_behind_r1
def _law_behind_w : WS := wSeq (wAsg (wVar 2) (wgTup 2 (wgCons (wgName 3) (wgCons (wgName 4) wgNil)))) (wSeq (wIfS (wTst2 gLt (wVar 4) (wC (.int (0)))) (wRet (wOp2 aAdd (wOp2 aAdd (wCut (wVar 1) woNone (woSome (wVar 3))) (wTup (waCons (wIf (wTst2 gEq (wVar 4) (wNeg (wC (.int (1))))) (wOp2 aIxB (wVar 0) (wVar 3)) (wC (.int (0)))) waNil))) (wCut (wVar 1) (woSome (wOp2 aAdd (wVar 3) (wC (.int (1))))) woNone))) wSkip) (wSeq (wSet 5 (wOpN (f2 aMin2) (waCons (wOp2 aIxB (wVar 1) (wVar 3)) (waCons (wOp2 aSub (wOp2 aIxB (wVar 0) (wVar 4)) (wOp2 aIxB (wVar 1) (wVar 4))) waNil)))) (wRet (wOpN (f1 aTupleOf) (waCons (wLc (wiRng1 (wOpN (f1 aLenB) (waCons (wVar 0) waNil))) (wgName 6) wYes (wIf (wTst2 gEq (wVar 6) (wVar 3)) (wOp2 aSub (wOp2 aIxB (wVar 1) (wVar 6)) (wVar 5)) (wIf (wTst2 gEq (wVar 6) (wVar 4)) (wOp2 aAdd (wOp2 aIxB (wVar 1) (wVar 6)) (wVar 5)) (wOp2 aIxB (wVar 1) (wVar 6)))) [6]) waNil)))))
theorem _law_behind_r : _law_behind_w = _law_behind_r0 := rfl
theorem range_getD {l : List Int} : ((List.range l.length).map fun i => PyData.int (l.getD i 0)) = l.map .int := by
  apply List.ext_getElem?
  intro i
  by_cases h : i < l.length
  · rw [List.getElem?_map, List.getElem?_range h, List.getElem?_map, getD_at h]; rfl
  · rw [List.getElem?_eq_none (by simpa using h), List.getElem?_eq_none (by simpa using h)]
def _law_behind_s : FD := fun ws Q _ => ∃ (rs v : List Int) (p : Dd), ws = [.d (intsT rs), .d (intsT v), .d (deedT p)] ∧ Rm rs ∧ St rs v ∧ IsDd rs.length p ∧ Q (intsT (bh rs v p))
theorem mono__law_behind : MonoF _law_behind_s := fun ws Q Q' EX h ⟨l, v, p, e, R, S, hl, q⟩ => ⟨l, v, p, e, R, S, hl, h _ q⟩
theorem set_cut {xs : List D} {k : Nat} {x : D} (h : k < xs.length) : xs.take k ++ [x] ++ xs.drop (k + 1) = xs.set k x := by
  rw [List.set_eq_take_append_cons_drop, if_pos h, List.append_assoc]
  rfl
theorem meets__law_behind (ws : List W) (Q : D → Prop) (EX : EXn) (h : _law_behind_s ws Q EX) : mkF 3 7 _law_behind_w ws Q EX := by
  obtain ⟨rs, v, p, rfl, R, S, hp, q⟩ := h
  refine ⟨rfl, ?_⟩
  have hl := S.len
  have hl3 := R.len
  obtain ⟨k, w⟩ := p
  obtain ⟨h1, h2, h3, h4⟩ := hp
  simp only at h1 h2 h3 h4
  obtain ⟨a, ha⟩ := some_of_lt' (l := v) (i := k) (by omega)
  obtain ⟨r, hr⟩ := some_of_lt' h1
  have ga := getD_of ha
  have gr := getD_of hr
  rw [_law_behind_r]
  simp [_law_behind_r0, deedT, _law_behind_r1, intsT]
  by_cases c : w < 0
  · rw [if_pos c]
    have fin : ∀ x : D, (x = if w = -1 then .int r else .int 0) → Q (.tuple ((v.map .int).take k ++ [x] ++ (v.map .int).drop (k + 1))) := fun x hx => by
      rw [set_cut (by rw [List.length_map]; omega), hx]
      by_cases c1 : w = -1
      · rw [if_pos c1, ← set_ints]
        simp only [bh, c1, if_true, gr] at q
        exact q
      · have c2 : w = -2 := by omega
        rw [if_neg c1, ← set_ints]
        simp only [bh, if_neg c1, if_pos c2] at q
        exact q
    have hvl : (v.map PyData.int).length ≤ 3 := by rw [List.length_map]; omega
    have e1 : (k : Int) + 1 = ((k + 1 : Nat) : Int) := rfl
    rw [e1, cut_to, cut_from]
    have b1 : ((v.map PyData.int).take k).length ≤ 3 := by rw [List.length_take]; omega
    have b2 : ((v.map PyData.int).drop (k + 1)).length ≤ 3 := by rw [List.length_drop]; omega
    by_cases c1 : w = -1
    · rw [if_pos c1]
      refine ⟨_, atD_nat (ints_get hr), by rw [sizeLine_eq]; omega, by rw [sizeLine_eq]; omega, ?_⟩
      have := fin (.int r) (by rw [if_pos c1])
      rwa [List.append_assoc] at this
    · rw [if_neg c1]
      refine ⟨by rw [sizeLine_eq]; omega, by rw [sizeLine_eq]; omega, ?_⟩
      have := fin (.int 0) (by rw [if_neg c1])
      rwa [List.append_assoc] at this
  · rw [if_neg c]
    obtain ⟨j, rfl⟩ : ∃ j : Nat, w = (j : Int) := ⟨w.toNat, by omega⟩
    have hj : j < rs.length := by omega
    have hkj : k ≠ j := fun z => h4 (by rw [z])
    obtain ⟨b, hb⟩ := some_of_lt' (l := v) (i := j) (by omega)
    obtain ⟨c, hc⟩ := some_of_lt' hj
    have gb := getD_of hb
    have gc := getD_of hc
    simp [_law_behind_r2]
    refine ⟨_, atD_nat (ints_get ha), _, atD_nat (ints_get hc), _, atD_nat (ints_get hb), ?_⟩
    simp [_law_behind_r3]
    refine ⟨⟨by omega, by omega⟩, ?_⟩
    rw [rngD_map]
    have hbh : bh rs v (k, (j : Int)) = (v.set k (a - min a (c - b))).set j (b + min a (c - b)) := by
      have n1 : ¬ ((j : Int) = -1) := by omega
      have n2 : ¬ ((j : Int) = -2) := by omega
      simp only [bh, if_neg n1, if_neg n2, Int.toNat_natCast, ga, gb, gc]
    refine comp_mapM (fun i => .int ((bh rs v (k, (j : Int))).getD i 0)) (fun i hi R' r => ?_) (by rw [sizeLine_eq]; simp; omega) ?_
    · rw [List.mem_range] at hi
      obtain ⟨x, hx⟩ := some_of_lt' (l := v) (i := i) (by omega)
      have gx := getD_of hx
      rw [hbh] at r
      have r2 : R' (.int (if j = i then b + min a (c - b) else if k = i then a - min a (c - b) else x)) := by
        rw [K25.getD_set (by simp; omega), K25.getD_set (by omega), gx] at r
        exact r
      simp
      by_cases z1 : i = k
      · subst z1
        rw [if_pos rfl]
        rw [hx] at ha; cases ha
        refine ⟨_, atD_nat (ints_get hx), ?_⟩
        simp
        rw [if_neg (fun z => hkj z.symm), if_pos rfl] at r2
        exact r2
      · rw [if_neg (by omega)]
        by_cases z2 : i = j
        · subst z2
          rw [if_pos rfl]
          rw [hx] at hb; cases hb
          refine ⟨_, atD_nat (ints_get hx), ?_⟩
          simp
          rw [if_pos rfl] at r2
          exact r2
        · rw [if_neg (by omega)]
          refine ⟨_, atD_nat (ints_get hx), ?_⟩
          rw [if_neg (fun z => z2 z.symm), if_neg (fun z => z1 z.symm)] at r2
          exact r2
    · simp
      have e : ((List.range rs.length).map fun i => PyData.int ((bh rs v (k, (j : Int))).getD i 0)) = (bh rs v (k, (j : Int))).map .int := by
        have hbl : (bh rs v (k, (j : Int))).length = rs.length := by rw [K25.bh_len]; exact hl
        rw [← hbl]
        exact range_getD
      have e2 : ((List.range rs.length).map fun i => PyData.int ((bh rs v (k, (j : Int)))[i]?.getD 0)) = (List.range rs.length).map fun i => PyData.int ((bh rs v (k, (j : Int))).getD i 0) := by
        simp only [List.getD_eq_getElem?_getD]
      rw [e2, e]
      exact q
def dkN (K : List (List Int × Nat)) : List (D × D) := K.map fun e => (intsT e.1, .int e.2)
theorem dkN_keys {K : List (List Int × Nat)} : (dkN K).map (·.1) = (K.map (·.1)).map intsT := by unfold dkN; rw [List.map_map, List.map_map]; rfl
theorem dkN_none {K : List (List Int × Nat)} {v : List Int} (h : v ∉ K.map (·.1)) : dGet (dkN K) (intsT v) = none := by
  cases g : dGet (dkN K) (intsT v) with
  | none => rfl
  | some d =>
    have := mem_dGet g
    have h2 : intsT v ∈ (dkN K).map (·.1) := List.mem_map.mpr ⟨_, this, rfl⟩
    rw [dkN_keys] at h2
    obtain ⟨w, hw, e⟩ := List.mem_map.mp h2
    rw [intsT_inj e] at hw
    exact absurd hw h
theorem dkN_some {K : List (List Int × Nat)} {e : List Int × Nat} (nd : (K.map (·.1)).Nodup) (h : e ∈ K) : dGet (dkN K) (intsT e.1) = some (.int e.2) := by
  have := dGet_mem (kvs := dkN K) (by rw [dkN_keys]; exact nd_ints nd) (p := (intsT e.1, .int e.2)) (List.mem_map.mpr ⟨e, h, rfl⟩)
  exact this
theorem dkN_tup {K : List (List Int × Nat)} : TupK (dkN K) := fun p hp => by
  unfold dkN at hp
  obtain ⟨e, _, rfl⟩ := List.mem_map.mp hp
  exact tup_intsT
theorem dkN_fit {K : List (List Int × Nat)} {v : List Int} : keyFit (dkN K) (intsT v) := dkN_tup.fit tup_intsT
theorem dkN_put {K : List (List Int × Nat)} {v : List Int} {n : Nat} (h : v ∉ K.map (·.1)) : dPut (dkN K) (intsT v) (.int n) = dkN (K ++ [(v, n)]) := by
  rw [dPut_new (dkN_none h)]
  unfold dkN
  rw [List.map_append]
  rfl
def _law_levels_r2 : WS := (wFrz 2 (wRet (wVar 2)))
def _law_levels_r1 : WS := wSeq (wWhile (wTst2 gNe (wVar 3) (wLst waNil)) (wSeq (wPar [5, 4] (wmO (wLst waNil) (wmD (wOp2 aAdd (wVar 4) (wC (.int (1)))) wmNil))) (wSeq (wFor (wiSeqB (wVar 3)) (wgName 6) (wFor (wiRng1 (wOp2 aMul (wOpN (f1 aLenB) (waCons (wVar 0) waNil)) (wOp2 aAdd (wOpN (f1 aLenB) (waCons (wVar 0) waNil)) (wC (.int (2)))))) (wgName 7) (wSeq (wSet 8 (wTup (waCons (wOp2 aFdiv (wVar 7) (wOp2 aAdd (wOpN (f1 aLenB) (waCons (wVar 0) waNil)) (wC (.int (2))))) (waCons (wOp2 aSub (wOp2 aMod (wVar 7) (wOp2 aAdd (wOpN (f1 aLenB) (waCons (wVar 0) waNil)) (wC (.int (2))))) (wC (.int (2)))) waNil)))) (wSeq (wSet 9 (wIf (wTst2 gNe (wOp2 aIxB (wVar 8) (wC (.int (0)))) (wOp2 aIxB (wVar 8) (wC (.int (1))))) (wCall _law_behind_s (wwCons (wVar 0) (wwCons (wVar 6) (wwCons (wVar 8) wwNil)))) (wVar 6))) (wIfS (wTst2 (gInB true) (wVar 9) (wOwn 2)) (wSeq (wPutD 2 (wVar 9) (wVar 4)) (wApp 5 (wVar 9))) wSkip))))) (wFrz 5 (wSet 3 (wVar 5)))))) _law_levels_r2
def _law_levels_r0 : WS := wSeq (wPar [2, 3, 4] (wmO (wDict1 true (wVar 1) (wC (.int (0)))) (wmD (wLst (waCons (wVar 1) waNil)) (wmD (wC (.int (0))) wmNil)))) _law_levels_r1
def _law_levels_w : WS := wSeq (wPar [2, 3, 4] (wmO (wDict1 true (wVar 1) (wC (.int (0)))) (wmD (wLst (waCons (wVar 1) waNil)) (wmD (wC (.int (0))) wmNil)))) (wSeq (wWhile (wTst2 gNe (wVar 3) (wLst waNil)) (wSeq (wPar [5, 4] (wmO (wLst waNil) (wmD (wOp2 aAdd (wVar 4) (wC (.int (1)))) wmNil))) (wSeq (wFor (wiSeqB (wVar 3)) (wgName 6) (wFor (wiRng1 (wOp2 aMul (wOpN (f1 aLenB) (waCons (wVar 0) waNil)) (wOp2 aAdd (wOpN (f1 aLenB) (waCons (wVar 0) waNil)) (wC (.int (2)))))) (wgName 7) (wSeq (wSet 8 (wTup (waCons (wOp2 aFdiv (wVar 7) (wOp2 aAdd (wOpN (f1 aLenB) (waCons (wVar 0) waNil)) (wC (.int (2))))) (waCons (wOp2 aSub (wOp2 aMod (wVar 7) (wOp2 aAdd (wOpN (f1 aLenB) (waCons (wVar 0) waNil)) (wC (.int (2))))) (wC (.int (2)))) waNil)))) (wSeq (wSet 9 (wIf (wTst2 gNe (wOp2 aIxB (wVar 8) (wC (.int (0)))) (wOp2 aIxB (wVar 8) (wC (.int (1))))) (wCall _law_behind_s (wwCons (wVar 0) (wwCons (wVar 6) (wwCons (wVar 8) wwNil)))) (wVar 6))) (wIfS (wTst2 (gInB true) (wVar 9) (wOwn 2)) (wSeq (wPutD 2 (wVar 9) (wVar 4)) (wApp 5 (wVar 9))) wSkip))))) (wFrz 5 (wSet 3 (wVar 5)))))) (wFrz 2 (wRet (wVar 2))))
theorem _law_levels_r : _law_levels_w = _law_levels_r0 := rfl
def _law_levels_s : FD := fun ws Q _ => ∃ rs s : List Int, ws = [.d (intsT rs), .d (intsT s)] ∧ Rm rs ∧ St rs s ∧ ∀ K, BFS.Full (K25.G rs) s K → Q (.dict (dkN K))
theorem mono__law_levels : MonoF _law_levels_s := fun ws Q Q' EX h ⟨l, s, e, R, S, q⟩ => ⟨l, s, e, R, S, fun E hE => h _ (q E hE)⟩
abbrev llE (rs s : List Int) (K : List (List Int × Nat)) (A : List (List Int)) (m : Nat) (x5 x6 x7 x8 x9 : Option W) : Env' := [some (.d (intsT rs)), some (.d (intsT s)), some (.own (.dict (dkN K))), some (.d (.list (A.map intsT))), some (.d (.int m)), x5, x6, x7, x8, x9]
abbrev mdE (rs s : List Int) (K : List (List Int × Nat)) (A B : List (List Int)) (m : Nat) (x6 x7 x8 x9 : Option W) : Env' := [some (.d (intsT rs)), some (.d (intsT s)), some (.own (.dict (dkN K))), some (.d (.list (A.map intsT))), some (.d (.int ((m : Int) + 1))), some (.own (.list (B.map intsT))), x6, x7, x8, x9]
theorem meets__law_levels (ws : List W) (Q : D → Prop) (EX : EXn) (h : _law_levels_s ws Q EX) : mkF 2 10 _law_levels_w ws Q EX := by
  obtain ⟨rs, s, rfl, R, S, q⟩ := h
  refine ⟨rfl, ?_⟩
  have hl3 := R.len
  rw [_law_levels_r]
  simp [_law_levels_r0, _law_levels_r1]
  refine ⟨?_, ?_⟩
  · exact tup_intsT
  refine ⟨fun n ρ => ∃ K A m x5 x6 x7 x8 x9, ρ = llE rs s K A m x5 x6 x7 x8 x9 ∧ BFS.Lv (K25.G rs) s K A m ∧ n = 2 * (2197 - K.length) + if A = [] then 0 else 1, ⟨_, [(s, 0)], [s], 0, none, none, none, none, none, rfl, BFS.lv_start, rfl⟩, ?_⟩
  rintro n ρ ⟨K, A, m, x5, x6, x7, x8, x9, rfl, hv, rfl⟩
  have hKl := K25.keys_len R S hv.nd hv.dist
  simp
  refine ne_nil (shaped_of (shD_list (n := 1) fun x hx => ?_)) ?_
  · obtain ⟨v, _, rfl⟩ := List.mem_map.mp hx
    exact shD_tuple shD_ints
  cases hA : A with
  | nil =>
    subst hA
    simp [_law_levels_r2]
    exact q K (BFS.lv_end hv)
  | cons a0 A0 =>
    have hAne : A ≠ [] := by rw [hA]; simp
    rw [← hA]
    have he : (A.map intsT).isEmpty = false := by rw [hA]; rfl
    rw [he, if_neg hAne]
    simp
    refine ⟨_, rfl, ?_⟩
    refine loop_runM (fun i ρ => ∃ K' B x6 x7 x8 x9, ρ = mdE rs s K' A B m x6 x7 x8 x9 ∧ BFS.Md (K25.G rs) s K' B m ∧ (∀ x, x ∈ A ↔ (x, m) ∈ K') ∧ (∀ y ∈ A.take i, ∀ z, K25.G rs y z → z ∈ K'.map (·.1)) ∧ K'.length = K.length + B.length) ⟨K, [], x6, x7, x8, x9, rfl, BFS.lv_md hv, hv.lev, by simp, rfl⟩ ?_ ?_
    · rintro i y ρ P hi ⟨K', B, x6, x7, x8, x9, rfl, hm, hl, hc, hk⟩ hP
      have hyA : y ∈ A := List.mem_of_getElem? hi
      have hyK := (hl y).mp hyA
      have hst : St rs y := K25.walk_st R S (hm.dist _ hyK).1
      have hn : (rs.length : Int) * (rs.length + 2) = ((rs.length * (rs.length + 2) : Nat) : Int) := by push_cast; rfl
      have hn15 : rs.length * (rs.length + 2) ≤ 15 := by
        have : rs.length * (rs.length + 2) ≤ 3 * (3 + 2) := Nat.mul_le_mul hl3 (by omega)
        omega
      simp [intsT]
      refine ⟨Or.inl ⟨by omega, by omega⟩, _, rfl, ?_⟩
      rw [hn]
      refine ⟨⟨by omega, by omega⟩, ?_⟩
      rw [Int.toNat_natCast, rngD_map]
      refine loop_runM (fun k ρ => ∃ K' B x7 x8 x9, ρ = mdE rs s K' A B m (some (.d (intsT y))) x7 x8 x9 ∧ BFS.Md (K25.G rs) s K' B m ∧ (∀ x, x ∈ A ↔ (x, m) ∈ K') ∧ (∀ y ∈ A.take i, ∀ z, K25.G rs y z → z ∈ K'.map (·.1)) ∧ K'.length = K.length + B.length ∧ ∀ j, j < k → IsDd rs.length (K25.lawDd rs.length j) → bh rs y (K25.lawDd rs.length j) ∈ K'.map (·.1)) ⟨K', B, x7, x8, x9, rfl, hm, hl, hc, hk, fun j hj => absurd hj (Nat.not_lt_zero _)⟩ ?_ ?_
      · rintro k k' ρ P' hk' ⟨K', B, x7, x8, x9, rfl, hm, hl, hc, hk, hd⟩ hP'
        obtain ⟨hkl, e⟩ := List.getElem?_eq_some_iff.mp hk'
        rw [List.getElem_range] at e
        rw [List.length_range] at hkl
        subst e
        have evl : ∀ Q : D → Prop, aLenB (intsT rs) Q = Q (.int rs.length) := fun Q => by simp [intsT]
        have hmo : ((k : Int) % ((rs.length : Int) + 2)) - 2 = (K25.lawDd rs.length k).2 := by
          show _ = (((k % (rs.length + 2) : Nat) : Int)) - 2
          push_cast; rfl
        have hdi : (k : Int) / ((rs.length : Int) + 2) = ((K25.lawDd rs.length k).1 : Int) := by
          show _ = (((k / (rs.length + 2) : Nat)) : Int)
          push_cast; rfl
        simp [evl]
        rw [hmo, hdi]
        have hp := fun h => K25.lawDd_ok (n := rs.length) hkl h
        generalize hpd : K25.lawDd rs.length k = p at hp ⊢
        have hyk : y ∈ K'.map (·.1) := List.mem_map.mpr ⟨_, (hl y).mp hyA, rfl⟩
        have old : ∀ v : List Int, v ∈ K'.map (·.1) → dGet (dkN K') (intsT v) ≠ none := fun v hv => by
          obtain ⟨e, he, rfl⟩ := List.mem_map.mp hv
          rw [dkN_some hm.nd he]; simp
        have hKl' := K25.keys_len R S hm.nd hm.dist
        refine ⟨⟨by omega, by omega⟩, by omega, _, rfl, _, rfl, ?_⟩
        simp
        by_cases c : (p.1 : Int) = p.2
        · rw [if_pos c]
          refine ⟨dkN_fit, ?_⟩
          rw [if_neg (old y hyk)]
          refine hP' _ ⟨K', B, _, _, _, rfl, hm, hl, hc, hk, fun j hj hi2 => ?_⟩
          by_cases z : j = k
          · subst z
            rw [hpd] at hi2
            exact absurd c hi2.2.2.2
          · exact hd j (by omega) hi2
        · rw [if_neg c]
          refine ⟨rs, y, p, rfl, R, hst, hp c, dkN_fit, ?_⟩
          by_cases k1 : bh rs y p ∈ K'.map (·.1)
          · rw [if_neg (old _ k1)]
            refine hP' _ ⟨K', B, _, _, _, rfl, hm, hl, hc, hk, fun j hj hi2 => ?_⟩
            by_cases z : j = k
            · subst z
              rw [hpd]
              exact k1
            · exact hd j (by omega) hi2
          · rw [if_pos (dkN_none k1)]
            have hm2 := BFS.md_new hm ((hl y).mp hyA) ⟨p, hp c, rfl⟩ k1
            have e1 : dPut (dkN K') (intsT (bh rs y p)) (.int ((m : Int) + 1)) = dkN (K' ++ [(bh rs y p, m + 1)]) := dkN_put (n := m + 1) k1
            refine ownD_of rfl ⟨dkN_fit, by unfold dkN; rw [List.length_map, sizeLine_eq]; omega, ownL_of rfl ⟨by rw [List.length_map, sizeLine_eq]; omega, ?_⟩⟩
            refine hP' _ ⟨K' ++ [(bh rs y p, m + 1)], B ++ [bh rs y p], some (.d (.int k)), some (.d (deedT p)), some (.d (intsT (bh rs y p))), ?_, hm2, fun x => ?_, fun y' hy' z hz => ?_, ?_, fun j hj hi2 => ?_⟩
            · rw [e1]
              show _ = mdE _ _ _ _ _ _ _ _ _ _
              unfold mdE
              rw [List.map_append]
              rfl
            · rw [hl, List.mem_append, List.mem_singleton]
              refine ⟨.inl, fun h => h.elim id fun h => ?_⟩
              have := congrArg Prod.snd h
              simp only at this
              omega
            · rw [List.map_append]
              exact List.mem_append_left _ (hc y' hy' z hz)
            · rw [List.length_append, List.length_append, hk, List.length_singleton, List.length_singleton]
              omega
            · rw [List.map_append]
              by_cases z : j = k
              · subst z
                rw [hpd]
                exact List.mem_append_right _ (by simp)
              · exact List.mem_append_left _ (hd j (by omega) hi2)
      · rintro ρ ⟨K', B, x7, x8, x9, rfl, hm, hl, hc, hk, hd⟩
        rw [List.length_range] at hd
        refine hP _ ⟨K', B, _, x7, x8, x9, rfl, hm, hl, fun y' hy' z hz => ?_, hk⟩
        rw [List.take_add_one, hi] at hy'
        rcases List.mem_append.mp hy' with hy' | hy'
        · exact hc y' hy' z hz
        · simp at hy'
          subst hy'
          obtain ⟨p, hp, rfl⟩ := hz
          obtain ⟨j, hj, rfl⟩ := K25.lawDd_all hp
          exact hd j hj hp
    · rintro ρ ⟨K', B, x6, x7, x8, x9, rfl, hm, hl, hc, hk⟩
      rw [List.take_of_length_le (Nat.le_refl _)] at hc
      have hv' := BFS.md_turn hm fun x y hx g => hc x ((hl x).mpr hx) y g
      have hKl' := K25.keys_len R S hv'.nd hv'.dist
      simp
      refine ⟨_, ?_, K', B, m + 1, ⟨rfl, rfl, rfl⟩, hv', rfl⟩
      cases B with
      | nil => simp at hk ⊢; omega
      | cons b B => simp at hk ⊢; omega
end DD
set_option maxRecDepth 100000
set_option maxHeartbeats 8000000
namespace DD
open PySem PySem.Spec PyProof.Rows L2 GenW
open K25 (Rm St Dd IsDd bh deedsL deedsOf En Known Part Few FirstOk Res replay PrOk)
def pairOk (x : D) : Prop := ∃ a b, x = .tuple [a, b] ∧ shD 5 a ∧ shD 5 b
def stepsOk : D → Prop
  | .tuple xs => xs.length ≤ 100000 ∧ ∀ x ∈ xs, pairOk x
  | _ => True
def isI : D → Bool
  | .int _ => true
  | _ => false
def _law_are_deeds_r2 : WS := (wRet (wC (.bool true)))
def _law_are_deeds_r1 : WS := wSeq (wFor (wiSeqB (wVar 1)) (wgTup 2 (wgCons (wgName 3) (wgCons (wgName 4) wgNil))) (wSeq (wIfS (wTst2 gNe (wLc (wiSeqB (wTup (waCons (wVar 3) (waCons (wVar 4) waNil)))) (wgName 2) (wOr (wNot (wTru (wIsi "int" (wVar 2)))) (wTru (wIsi "bool" (wVar 2)))) (wVar 2) [2]) (wLst waNil)) (wRet (wC (.bool false))) wSkip) (wIfS (wOr (wNot (wChain gLe gLt (wC (.int (0))) (wVar 3) (wOpN (f1 aLenB) (waCons (wVar 0) waNil)))) (wOr (wNot (wChain gLe gLt (wNeg (wC (.int (2)))) (wVar 4) (wOpN (f1 aLenB) (waCons (wVar 0) waNil)))) (wTst2 gEq (wVar 3) (wVar 4)))) (wRet (wC (.bool false))) wSkip))) _law_are_deeds_r2
def _law_are_deeds_r0 : WS := wSeq (wIfS (wOr (wNot (wTru (wIsi "tuple" (wVar 1)))) (wTst2 gNe (wLc (wiSeqB (wVar 1)) (wgName 2) (wOr (wNot (wTru (wIsi "tuple" (wVar 2)))) (wTst2 gNe (wOpN (f1 aLenB) (waCons (wVar 2) waNil)) (wC (.int (2))))) (wVar 2) [2]) (wLst waNil))) (wRet (wC (.bool false))) wSkip) _law_are_deeds_r1
def _law_are_deeds_w : WS := wSeq (wIfS (wOr (wNot (wTru (wIsi "tuple" (wVar 1)))) (wTst2 gNe (wLc (wiSeqB (wVar 1)) (wgName 2) (wOr (wNot (wTru (wIsi "tuple" (wVar 2)))) (wTst2 gNe (wOpN (f1 aLenB) (waCons (wVar 2) waNil)) (wC (.int (2))))) (wVar 2) [2]) (wLst waNil))) (wRet (wC (.bool false))) wSkip) (wSeq (wFor (wiSeqB (wVar 1)) (wgTup 2 (wgCons (wgName 3) (wgCons (wgName 4) wgNil))) (wSeq (wIfS (wTst2 gNe (wLc (wiSeqB (wTup (waCons (wVar 3) (waCons (wVar 4) waNil)))) (wgName 2) (wOr (wNot (wTru (wIsi "int" (wVar 2)))) (wTru (wIsi "bool" (wVar 2)))) (wVar 2) [2]) (wLst waNil)) (wRet (wC (.bool false))) wSkip) (wIfS (wOr (wNot (wChain gLe gLt (wC (.int (0))) (wVar 3) (wOpN (f1 aLenB) (waCons (wVar 0) waNil)))) (wOr (wNot (wChain gLe gLt (wNeg (wC (.int (2)))) (wVar 4) (wOpN (f1 aLenB) (waCons (wVar 0) waNil)))) (wTst2 gEq (wVar 3) (wVar 4)))) (wRet (wC (.bool false))) wSkip))) (wRet (wC (.bool true))))
theorem _law_are_deeds_r : _law_are_deeds_w = _law_are_deeds_r0 := rfl
def laA_r1 : WS := (wIfS (wOr (wNot (wChain gLe gLt (wC (.int (0))) (wVar 3) (wOpN (f1 aLenB) (waCons (wVar 0) waNil)))) (wOr (wNot (wChain gLe gLt (wNeg (wC (.int (2)))) (wVar 4) (wOpN (f1 aLenB) (waCons (wVar 0) waNil)))) (wTst2 gEq (wVar 3) (wVar 4)))) (wRet (wC (.bool false))) wSkip)
def laA_r0 : WS := wSeq (wIfS (wTst2 gNe (wLc (wiSeqB (wTup (waCons (wVar 3) (waCons (wVar 4) waNil)))) (wgName 2) (wOr (wNot (wTru (wIsi "int" (wVar 2)))) (wTru (wIsi "bool" (wVar 2)))) (wVar 2) [2]) (wLst waNil)) (wRet (wC (.bool false))) wSkip) laA_r1
theorem laA_for : _law_are_deeds_r1 = wSeq (wFor (wiSeqB (wVar 1)) (wgTup 2 (wgCons (wgName 3) (wgCons (wgName 4) wgNil))) laA_r0) _law_are_deeds_r2 := rfl
def _law_are_deeds_s : FD := fun ws Q _ => ∃ (rs : List Int) (v : D), ws = [.d (intsT rs), .d v] ∧ Rm rs ∧ stepsOk v ∧ Q (.bool (stepsB rs.length v))
theorem mono__law_are_deeds : MonoF _law_are_deeds_s := fun ws Q Q' EX h ⟨l, v, e, R, a, q⟩ => ⟨l, v, e, R, a, h _ q⟩
theorem meets__law_are_deeds (ws : List W) (Q : D → Prop) (EX : EXn) (h : _law_are_deeds_s ws Q EX) : mkF 2 5 _law_are_deeds_w ws Q EX := by
  obtain ⟨rs, v, rfl, R, hv, q⟩ := h
  refine ⟨rfl, ?_⟩
  have hl3 := R.len
  rw [_law_are_deeds_r]
  cases v with
  | tuple xs =>
    obtain ⟨hx, hp⟩ := hv
    have q : Q (.bool (xs.all (isDdD rs.length))) := q
    simp [_law_are_deeds_r0, isTy, tyD]
    refine ⟨xs, rfl, comp_eval (fun x => none) (fun x hx' R' r => ?_) (by rw [sizeLine_eq]; simp; omega) ?_⟩
    · obtain ⟨a, b, rfl, _, _⟩ := hp x hx'
      simp
      exact r
    simp
    have en : xs.filterMap (fun _ => (none : Option D)) = [] := List.filterMap_eq_nil_iff.mpr fun _ _ => rfl
    rw [en]
    refine ne_nil rfl ?_
    simp
    rw [laA_for]
    simp
    refine ⟨_, rfl, ?_⟩
    refine loop_run (fun i ρ => ∃ x2 x3 x4, ρ = [some (.d (intsT rs)), some (.d (.tuple xs)), x2, x3, x4] ∧ ∀ x ∈ xs.take i, isDdD rs.length x = true) ⟨_, _, _, rfl, by simp⟩ ?_ ?_
    · rintro i x ρ P hi ⟨x2, x3, x4, rfl, ha⟩ hP
      have hxm := List.mem_of_getElem? hi
      obtain ⟨a, b, rfl, sa, sb⟩ := hp x hxm
      have bad : isDdD rs.length (.tuple [a, b]) = false → Q (.bool false) := fun h => by
        have : xs.all (isDdD rs.length) = false := by
          rw [Bool.eq_false_iff]
          intro z
          rw [List.all_eq_true] at z
          rw [z _ hxm] at h
          cases h
        rw [this] at q
        exact q
      have good : isDdD rs.length (.tuple [a, b]) = true → ∀ y2, P [some (.d (intsT rs)), some (.d (.tuple xs)), y2, some (.d a), some (.d b)] := fun h y2 => by
        refine hP _ ⟨_, _, _, rfl, fun x hx => ?_⟩
        rw [List.take_add_one, hi] at hx
        rcases List.mem_append.mp hx with hx | hx
        · exact ha x hx
        · simp at hx
          rw [hx]; exact h
      simp [laA_r0]
      refine ⟨[a, b], rfl, comp_eval (fun x => if isI x = true then none else some x) (fun x hx' R' r => ?_) (by rw [sizeLine_eq]; show 0 + 2 ≤ _; omega) ?_⟩
      · cases x with
        | int _ => simp [isTy, tyD, isI] at r ⊢; exact r
        | _ => simpa [isTy, tyD, isI] using r
      · rw [List.nil_append]
        refine ne_nil (shaped_of (shD_list (n := 5) fun x hx' => ?_)) ?_
        · rw [List.mem_filterMap] at hx'
          obtain ⟨y, hy, e⟩ := hx'
          simp only [List.mem_cons, List.not_mem_nil, or_false] at hy
          split at e
          · cases e
          · cases e
            rcases hy with rfl | rfl
            · exact sa
            · exact sb
        by_cases c1 : isI a = true
        · by_cases c2 : isI b = true
          · have e : [a, b].filterMap (fun x => if isI x = true then none else some x) = [] := by
              simp [c1, c2]
            rw [e]
            obtain ⟨i, rfl⟩ : ∃ i, a = .int i := by
              cases a with
              | int i => exact ⟨i, rfl⟩
              | _ => simp [isI] at c1
            obtain ⟨j, rfl⟩ : ∃ j, b = .int j := by
              cases b with
              | int j => exact ⟨j, rfl⟩
              | _ => simp [isI] at c2
            simp [laA_r1]
            have evl : ∀ Q : D → Prop, aLenB (intsT rs) Q = Q (.int rs.length) := fun Q => by simp [intsT]
            simp [evl]
            have isd : isDdD rs.length (.tuple [.int i, .int j]) = (decide (0 ≤ i) && decide (IsDd rs.length (i.toNat, j))) := rfl
            have nd : ¬ IsDd rs.length (i.toNat, j) → isDdD rs.length (.tuple [.int i, .int j]) = false := fun h => by
              rw [isd, decide_eq_false h, Bool.and_false]
            by_cases d1 : 0 ≤ i
            · by_cases d2 : i < rs.length
              · by_cases d3 : -2 ≤ j
                · by_cases d4 : j < rs.length
                  · by_cases d5 : i = j
                    · have : Q (.bool false) := bad (nd fun h => h.2.2.2 (by simp only; omega))
                      simpa [d1, d2, d3, d4, d5] using this
                    · have := good (by rw [isd, decide_eq_true d1, decide_eq_true]; rfl; exact ⟨by simp only; omega, d3, d4, by simp only; omega⟩) x2
                      simpa [d1, d2, d3, d4, d5] using this
                  · simp [d1, d2, d3, d4]
                    exact bad (nd fun h => d4 h.2.2.1)
                · simp [d1, d2, d3]
                  exact bad (nd fun h => d3 h.2.1)
              · simp [d1, d2]
                exact bad (nd fun h => d2 (by have := h.1; simp only at this; omega))
            · simp [d1]
              exact bad (by rw [isd, decide_eq_false d1, Bool.false_and])
          · have e : ([a, b].filterMap (fun x => if isI x = true then none else some x)).isEmpty = false := by
              simp [c1, c2]
            rw [e]
            simp
            refine bad ?_
            unfold isDdD
            split
            · next a1 w h => cases h; simp [isI] at c2
            · rfl
        · have e : ([a, b].filterMap (fun x => if isI x = true then none else some x)).isEmpty = false := by
            simp [c1]
          rw [e]
          simp
          refine bad ?_
          unfold isDdD
          split
          · next a1 w h => cases h; simp [isI] at c1
          · rfl
    · rintro ρ ⟨x2, x3, x4, rfl, ha⟩
      rw [List.take_of_length_le (Nat.le_refl _)] at ha
      simp [_law_are_deeds_r2]
      rw [List.all_eq_true.mpr ha] at q
      exact q
  | _ => simpa [_law_are_deeds_r0, isTy, tyD, stepsB] using q
/-! ### what is refused -/
def _law_refused_r8 : WS := (wRet (wCall _law_alike_s (wwCons (wVar 4) (wwCons (wOp2 aMulL (wLst (waCons (wTup (waCons (wC (.str "bad")) (waCons (wC (.str "rooms")) (waCons (wC (.bool true)) waNil)))) waNil)) (wC (.int (5)))) wwNil))))
def _law_refused_r7 : WS := wSeq (wSet 4 (wLst (waCons (wHeard (wCall deeds_s (wwCons (wVar 3) (wwCons (wC .none) (wwCons (wC .none) wwNil))))) (waCons (wHeard (wCall many_states_s (wwCons (wVar 3) (wwCons (wC .none) wwNil)))) (waCons (wHeard (wCall goals_s (wwCons (wVar 3) (wwCons (wTup waNil) wwNil)))) (waCons (wHeard (wCall after_deeds_s (wwCons (wVar 3) (wwCons (wC .none) (wwCons (wC .none) wwNil))))) (waCons (wHeard (wCall are_deeds_s (wwCons (wVar 3) (wwCons (wTup waNil) (wwCons (wC (.int (0))) (wwCons (wTup waNil) wwNil)))))) waNil))))))) _law_refused_r8
def _law_refused_r6 : WS := wSeq (wSet 3 (wCall _law_pick_s (wwRow 0 (wwCons (wLst (waCons (wC .none) (waCons (wOpN (f1 aListOf) (waCons (wVar 1) waNil)) (waCons (wTup waNil) (waCons (wTup (waCons (wC (.int (0))) waNil)) (waCons (wTup (waCons (wC (.int (13))) waNil)) (waCons (wTup (waCons (wC (.int (1))) (waCons (wC (.int (1))) (waCons (wC (.int (1))) (waCons (wC (.int (1))) waNil))))) (waCons (wTup (waCons (wC (.bool true)) waNil)) (waCons (wC (.str "1")) waNil))))))))) wwNil)))) _law_refused_r7
def _law_refused_r5 : WS := wSeq (wIfS (wNot (wTru (wCall _law_alike_s (wwCons (wVar 4) (wwCons (wOp2 aMulL (wLst (waCons (wTup (waCons (wC (.str "bad")) (waCons (wC (.str "state")) (waCons (wC (.bool true)) waNil)))) waNil)) (wC (.int (4)))) wwNil))))) (wRet (wC (.bool false))) wSkip) _law_refused_r6
def _law_refused_r4 : WS := wSeq (wSet 4 (wLst (waCons (wHeard (wCall deeds_s (wwCons (wVar 1) (wwCons (wVar 3) (wwCons (wC .none) wwNil))))) (waCons (wHeard (wCall many_states_s (wwCons (wVar 1) (wwCons (wVar 3) wwNil)))) (waCons (wHeard (wCall goals_s (wwCons (wVar 1) (wwCons (wVar 3) wwNil)))) (waCons (wHeard (wCall after_deeds_s (wwCons (wVar 1) (wwCons (wVar 3) (wwCons (wC .none) wwNil))))) waNil)))))) _law_refused_r5
def _law_refused_r3 : WS := wSeq (wSet 3 (wCall _law_pick_s (wwRow 0 (wwCons (wLst (waCons (wC .none) (waCons (wOpN (f1 aListOf) (waCons (wVar 2) waNil)) (waCons (wOp2 aAdd (wVar 2) (wTup (waCons (wC (.int (0))) waNil))) (waCons (wOp2 aAdd (wTup (waCons (wOp2 aAdd (wOp2 aIxB (wVar 1) (wC (.int (0)))) (wC (.int (1)))) waNil)) (wCut (wVar 2) (woSome (wC (.int (1)))) woNone)) (waCons (wOp2 aAdd (wTup (waCons (wNeg (wC (.int (1)))) waNil)) (wCut (wVar 2) (woSome (wC (.int (1)))) woNone)) (waCons (wOp2 aAdd (wTup (waCons (wC (.bool true)) waNil)) (wCut (wVar 2) (woSome (wC (.int (1)))) woNone)) (waCons (wC (.str "0")) waNil)))))))) wwNil)))) _law_refused_r4
def _law_refused_r2 : WS := wSeq (wIfS (wNot (wTru (wCall _law_alike_s (wwCons (wVar 4) (wwCons (wOp2 aMulL (wLst (waCons (wTup (waCons (wC (.str "bad")) (waCons (wC (.str "goal")) (waCons (wC (.bool true)) waNil)))) waNil)) (wC (.int (3)))) wwNil))))) (wRet (wC (.bool false))) wSkip) _law_refused_r3
def _law_refused_r1 : WS := wSeq (wSet 4 (wLst (waCons (wHeard (wCall deeds_s (wwCons (wVar 1) (wwCons (wVar 2) (wwCons (wVar 3) wwNil))))) (waCons (wHeard (wCall fewest_deeds_s (wwCons (wVar 1) (wwCons (wVar 2) (wwCons (wVar 3) wwNil))))) (waCons (wHeard (wCall are_deeds_s (wwCons (wVar 1) (wwCons (wVar 2) (wwCons (wVar 3) (wwCons (wTup waNil) wwNil)))))) waNil))))) _law_refused_r2
def _law_refused_r0 : WS := wSeq (wSet 3 (wCall _law_pick_s (wwRow 0 (wwCons (wLst (waCons (wC .none) (waCons (wNeg (wC (.int (1)))) (waCons (wC (.int (13))) (waCons (wC (.bool true)) (waCons (wC (.str "1")) waNil)))))) wwNil)))) _law_refused_r1
def _law_refused_w : WS := wSeq (wSet 3 (wCall _law_pick_s (wwRow 0 (wwCons (wLst (waCons (wC .none) (waCons (wNeg (wC (.int (1)))) (waCons (wC (.int (13))) (waCons (wC (.bool true)) (waCons (wC (.str "1")) waNil)))))) wwNil)))) (wSeq (wSet 4 (wLst (waCons (wHeard (wCall deeds_s (wwCons (wVar 1) (wwCons (wVar 2) (wwCons (wVar 3) wwNil))))) (waCons (wHeard (wCall fewest_deeds_s (wwCons (wVar 1) (wwCons (wVar 2) (wwCons (wVar 3) wwNil))))) (waCons (wHeard (wCall are_deeds_s (wwCons (wVar 1) (wwCons (wVar 2) (wwCons (wVar 3) (wwCons (wTup waNil) wwNil)))))) waNil))))) (wSeq (wIfS (wNot (wTru (wCall _law_alike_s (wwCons (wVar 4) (wwCons (wOp2 aMulL (wLst (waCons (wTup (waCons (wC (.str "bad")) (waCons (wC (.str "goal")) (waCons (wC (.bool true)) waNil)))) waNil)) (wC (.int (3)))) wwNil))))) (wRet (wC (.bool false))) wSkip) (wSeq (wSet 3 (wCall _law_pick_s (wwRow 0 (wwCons (wLst (waCons (wC .none) (waCons (wOpN (f1 aListOf) (waCons (wVar 2) waNil)) (waCons (wOp2 aAdd (wVar 2) (wTup (waCons (wC (.int (0))) waNil))) (waCons (wOp2 aAdd (wTup (waCons (wOp2 aAdd (wOp2 aIxB (wVar 1) (wC (.int (0)))) (wC (.int (1)))) waNil)) (wCut (wVar 2) (woSome (wC (.int (1)))) woNone)) (waCons (wOp2 aAdd (wTup (waCons (wNeg (wC (.int (1)))) waNil)) (wCut (wVar 2) (woSome (wC (.int (1)))) woNone)) (waCons (wOp2 aAdd (wTup (waCons (wC (.bool true)) waNil)) (wCut (wVar 2) (woSome (wC (.int (1)))) woNone)) (waCons (wC (.str "0")) waNil)))))))) wwNil)))) (wSeq (wSet 4 (wLst (waCons (wHeard (wCall deeds_s (wwCons (wVar 1) (wwCons (wVar 3) (wwCons (wC .none) wwNil))))) (waCons (wHeard (wCall many_states_s (wwCons (wVar 1) (wwCons (wVar 3) wwNil)))) (waCons (wHeard (wCall goals_s (wwCons (wVar 1) (wwCons (wVar 3) wwNil)))) (waCons (wHeard (wCall after_deeds_s (wwCons (wVar 1) (wwCons (wVar 3) (wwCons (wC .none) wwNil))))) waNil)))))) (wSeq (wIfS (wNot (wTru (wCall _law_alike_s (wwCons (wVar 4) (wwCons (wOp2 aMulL (wLst (waCons (wTup (waCons (wC (.str "bad")) (waCons (wC (.str "state")) (waCons (wC (.bool true)) waNil)))) waNil)) (wC (.int (4)))) wwNil))))) (wRet (wC (.bool false))) wSkip) (wSeq (wSet 3 (wCall _law_pick_s (wwRow 0 (wwCons (wLst (waCons (wC .none) (waCons (wOpN (f1 aListOf) (waCons (wVar 1) waNil)) (waCons (wTup waNil) (waCons (wTup (waCons (wC (.int (0))) waNil)) (waCons (wTup (waCons (wC (.int (13))) waNil)) (waCons (wTup (waCons (wC (.int (1))) (waCons (wC (.int (1))) (waCons (wC (.int (1))) (waCons (wC (.int (1))) waNil))))) (waCons (wTup (waCons (wC (.bool true)) waNil)) (waCons (wC (.str "1")) waNil))))))))) wwNil)))) (wSeq (wSet 4 (wLst (waCons (wHeard (wCall deeds_s (wwCons (wVar 3) (wwCons (wC .none) (wwCons (wC .none) wwNil))))) (waCons (wHeard (wCall many_states_s (wwCons (wVar 3) (wwCons (wC .none) wwNil)))) (waCons (wHeard (wCall goals_s (wwCons (wVar 3) (wwCons (wTup waNil) wwNil)))) (waCons (wHeard (wCall after_deeds_s (wwCons (wVar 3) (wwCons (wC .none) (wwCons (wC .none) wwNil))))) (waCons (wHeard (wCall are_deeds_s (wwCons (wVar 3) (wwCons (wTup waNil) (wwCons (wC (.int (0))) (wwCons (wTup waNil) wwNil)))))) waNil))))))) (wRet (wCall _law_alike_s (wwCons (wVar 4) (wwCons (wOp2 aMulL (wLst (waCons (wTup (waCons (wC (.str "bad")) (waCons (wC (.str "rooms")) (waCons (wC (.bool true)) waNil)))) waNil)) (wC (.int (5)))) wwNil)))))))))))
theorem _law_refused_r : _law_refused_w = _law_refused_r0 := rfl
def _law_refused_s : FD := fun ws Q _ => ∃ rs v : List Int, Rm rs ∧ St rs v ∧ ws = [.row, .d (intsT rs), .d (intsT v)] ∧ Q (.bool true)
theorem mono__law_refused : MonoF _law_refused_s := fun ws Q Q' EX h ⟨l, v, R, S, e, q⟩ => ⟨l, v, R, S, e, h _ q⟩
theorem meets__law_refused (ws : List W) (Q : D → Prop) (EX : EXn) (h : _law_refused_s ws Q EX) : mkF 3 5 _law_refused_w ws Q EX := by
  obtain ⟨rs, v, R, S, rfl, q⟩ := h
  refine ⟨rfl, ?_⟩
  have hl3 := R.len
  have hlv := S.len
  have hro := rm_ok R
  rw [_law_refused_r]
  simp [_law_refused_r0]
  refine pick_use (by simp) (by simp) fun bad hb => ?_
  have hbad : isNum bad 0 12 = false := by
    simp only [List.mem_cons, List.not_mem_nil, or_false] at hb
    rcases hb with rfl | rfl | rfl | rfl | rfl <;> rfl
  have ng : gok (intsT rs) (intsT v) bad = false := by unfold gok; rw [hbad, Bool.and_false]
  simp [_law_refused_r1, plainE]
  refine heard_bad (fun Q' => ⟨_, _, _, rfl, gx_bad3 R S rfl, fun z => by rw [ng] at z; cases z⟩) ?_
  refine heard_bad (fun Q' => ⟨_, _, _, rfl, gx_bad3 R S rfl, fun z => by rw [ng] at z; cases z⟩) ?_
  refine heard_bad (fun Q' => ⟨_, _, _, _, rfl, gx_bad3 R S rfl, fun z => by rw [ng] at z; cases z⟩) ?_
  simp [_law_refused_r2]
  refine ⟨by rw [sizeLine_eq]; decide, alike_bads (x := "goal") (by decide +kernel) (by rw [sizeLine_eq]; simp) (by simp) ?_⟩
  obtain ⟨r0, rs', rfl⟩ : ∃ r0 rs', rs = r0 :: rs' := by
    cases rs with
    | nil => have := R.pos; simp at this
    | cons a b => exact ⟨a, b, rfl⟩
  obtain ⟨v0, v', rfl⟩ : ∃ v0 v', v = v0 :: v' := by
    cases v with
    | nil => simp at hlv
    | cons a b => exact ⟨a, b, rfl⟩
  simp [_law_refused_r3, intsT]
  have c1 : cutD (PyData.int v0 :: v'.map .int) (some 1) none = v'.map .int := cut_from (PyData.int v0 :: v'.map .int) 1
  have hv3 : v'.length ≤ 2 := by simp at hlv hl3; omega
  rw [c1]
  refine ⟨by rw [sizeLine_eq]; omega, .int r0, atD_nat (i := 0) rfl, ?_⟩
  simp
  refine ⟨by rw [sizeLine_eq]; omega, ?_⟩
  refine pick_use (by simp) (by simp) fun bad hb => ?_
  have hbad : stOk (intsT (r0 :: rs')) bad = false := by
    simp only [List.mem_cons, List.not_mem_nil, or_false] at hb
    rcases hb with rfl | rfl | rfl | rfl | rfl | rfl | rfl
    · rfl
    · rfl
    · simp only [List.length_cons] at hlv
      simp [stOk, intsT]
      omega
    · simp [stOk, intsT, leAll]
      intro _ _ _ h
      omega
    · simp [stOk, intsT, isNum]
    · simp [stOk, intsT, isNum]
    · rfl
  have ns : sok (intsT (r0 :: rs')) bad = false := sok2 hbad
  have ngk : ∀ g, gok (intsT (r0 :: rs')) bad g = false := fun g => by unfold gok; rw [ns, Bool.false_and]
  simp [_law_refused_r4, plainE]
  refine heard_bad (fun Q' => ⟨_, _, _, rfl, gx_bad2 hro hbad rfl, fun z => by erw [ngk] at z; cases z⟩) ?_
  refine heard_bad (fun Q' => ⟨_, _, rfl, sx_bad2 hro rfl, fun z => by erw [ns] at z; cases z⟩) ?_
  refine heard_bad (fun Q' => ⟨_, _, rfl, sx_bad2 hro rfl, fun z => by erw [ns] at z; cases z⟩) ?_
  refine heard_bad (fun Q' => ⟨_, _, _, rfl, ⟨sx_bad2 hro rfl, fun z => by erw [ns] at z; cases z⟩, fun z => by erw [ns] at z; cases z⟩) ?_
  simp [_law_refused_r5]
  refine ⟨by rw [sizeLine_eq]; decide, alike_bads (x := "state") (by decide +kernel) (by rw [sizeLine_eq]; simp) (by simp) ?_⟩
  simp [_law_refused_r6, intsT]
  refine pick_use (by simp) (by simp) fun bad hb => ?_
  have hbad : rmOk bad = false := by
    simp only [List.mem_cons, List.not_mem_nil, or_false] at hb
    rcases hb with rfl | rfl | rfl | rfl | rfl | rfl | rfl | rfl <;> rfl
  have ns : ∀ s, sok bad s = false := fun s => sok1 hbad
  have ngk : ∀ s g, gok bad s g = false := fun s g => by unfold gok; rw [ns, Bool.false_and]
  simp [_law_refused_r7, plainE]
  refine heard_bad (fun Q' => ⟨_, _, _, rfl, gx_bad1 hbad rfl, fun z => by rw [ngk] at z; cases z⟩) ?_
  refine heard_bad (fun Q' => ⟨_, _, rfl, sx_bad1 hbad rfl, fun z => by rw [ns] at z; cases z⟩) ?_
  refine heard_bad (fun Q' => ⟨_, _, rfl, sx_bad1 hbad rfl, fun z => by rw [ns] at z; cases z⟩) ?_
  refine heard_bad (fun Q' => ⟨_, _, _, rfl, ⟨sx_bad1 hbad rfl, fun z => by rw [ns] at z; cases z⟩, fun z => by rw [ns] at z; cases z⟩) ?_
  refine heard_bad (fun Q' => ⟨_, _, _, _, rfl, gx_bad1 hbad rfl, fun z => by rw [ngk] at z; cases z⟩) ?_
  simp [_law_refused_r8]
  exact ⟨by rw [sizeLine_eq]; decide, alike_bads (x := "rooms") (by decide +kernel) (by rw [sizeLine_eq]; simp) (by simp) q⟩
end DD
set_option maxRecDepth 100000
set_option maxHeartbeats 8000000
namespace DD
open PySem PySem.Spec PyProof.Rows L2 GenW
open K25 (Rm St Dd IsDd bh deedsL deedsOf En Known Part Few FirstOk Res replay PrOk)
def law_r6 : WS := (wRet (wCall _law_refused_s (wwRow 1 (wwCons (wVar 2) (wwCons (wVar 4) wwNil)))))
def law_r5 : WS := wSeq (wFor (wiRng1 (wC (.int (3)))) (wgName 8) (wSeq (wSet 9 (wCall _law_pick_s (wwRow 1 (wwCons (wLst (waCons (wCall _law_taken_s (wwRow 1 (wwCons (wC (.int (13))) wwNil))) (waCons (wCall _law_taken_s (wwRow 1 (wwCons (wC (.int (5))) wwNil))) (waCons (wCall _law_pick_s (wwRow 1 (wwCons (wVar 6) wwNil))) waNil)))) wwNil)))) (wSeq (wSet 10 (wLc (wiSeqB (wVar 5)) (wgName 7) (wTst2 (gInB false) (wVar 9) (wVar 7)) (wOp2 aIxB (wVar 5) (wVar 7)) [7])) (wSeq (wPar [11, 12] (wmD (wIf (wTst2 gNe (wVar 10) (wLst waNil)) (wOpN (f1 (aBest minI)) (waCons (wVar 10) waNil)) (wC .none)) (wmD (wCall deeds_s (wwCons (wVar 2) (wwCons (wVar 4) (wwCons (wVar 9) wwNil)))) wmNil))) (wSeq (wIfS (wOr (wNot (wTru (wCall _law_alike_s (wwCons (wCall fewest_deeds_s (wwCons (wVar 2) (wwCons (wVar 4) (wwCons (wVar 9) wwNil)))) (wwCons (wVar 11) wwNil))))) (wTst2 gNe (wCmp2 gIsN (wVar 12) (wC .none)) (wCmp2 gIsN (wVar 11) (wC .none)))) (wRet (wC (.bool false))) wSkip) (wSeq (wIfS (wTst2 gNotN (wVar 12) (wC .none)) (wSeq (wSet 13 (wVar 4)) (wSeq (wFor (wiSeqB (wVar 12)) (wgName 14) (wSet 13 (wIf (wTru (wCall _law_are_deeds_s (wwCons (wVar 2) (wwCons (wTup (waCons (wVar 14) waNil)) wwNil)))) (wCall _law_behind_s (wwCons (wVar 2) (wwCons (wVar 13) (wwCons (wVar 14) wwNil)))) (wC .none)))) (wIfS (wOr (wTst2 gIsN (wVar 13) (wC .none)) (wOr (wTst2 gNe (wOpN (f1 aLenB) (waCons (wVar 12) waNil)) (wVar 11)) (wOr (wTst2 (gInB true) (wVar 9) (wVar 13)) (wTst2 (gIsB true) (wCall are_deeds_s (wwCons (wVar 2) (wwCons (wVar 4) (wwCons (wVar 9) (wwCons (wVar 12) wwNil))))) (wC (.bool true)))))) (wRet (wC (.bool false))) wSkip))) wSkip) (wSeq (wSet 15 (wIf (wTst2 gNotN (wVar 12) (wC .none)) (wVar 12) (wTup waNil))) (wSeq (wSet 16 (wOpN (f1 aTupleOf) (waCons (wLc (wiRng1 (wC (.int (2)))) (wgName 3) wYes (wTup (waCons (wCall _law_taken_s (wwRow 1 (wwCons (wOpN (f1 aLenB) (waCons (wVar 2) waNil)) wwNil))) (waCons (wOp2 aSub (wNeg (wC (.int (1)))) (wCall _law_taken_s (wwRow 1 (wwCons (wC (.int (2))) wwNil)))) waNil))) [3]) waNil))) (wSeq (wSet 17 (wLst (waCons (wTup (waCons (wTup (waCons (wC (.int (0))) (waCons (wC (.int (0))) waNil))) waNil)) (waCons (wTup (waCons (wTup (waCons (wC (.int (0))) (waCons (wC (.bool true)) waNil))) waNil)) (waCons (wTup (waCons (wTup (waCons (wOpN (f1 aLenB) (waCons (wVar 2) waNil)) (waCons (wNeg (wC (.int (1)))) waNil))) waNil)) (waCons (wTup (waCons (wTup (waCons (wC (.int (0))) (waCons (wNeg (wC (.int (3)))) waNil))) waNil)) (waCons (wOpN (f1 aListOf) (waCons (wVar 15) waNil)) waNil))))))) (wSeq (wSet 18 (wCall _law_pick_s (wwRow 1 (wwCons (wOp2 aAddL (wVar 17) (wLst (waCons (wVar 15) (waCons (wCut (wVar 15) (woSome (wC (.int (1)))) woNone) (waCons (wRevA (wVar 15)) (waCons (wOp2 aAdd (wVar 15) (wTup (waCons (wTup (waCons (wC (.int (0))) (waCons (wNeg (wC (.int (1)))) waNil))) waNil))) (waCons (wVar 16) waNil))))))) wwNil)))) (wSeq (wPar [19, 13] (wmD (wCall _law_are_deeds_s (wwCons (wVar 2) (wwCons (wVar 18) wwNil))) (wmD (wVar 4) wmNil))) (wSeq (wFor (wiSeqB (wIf (wTru (wVar 19)) (wVar 18) (wTup waNil))) (wgName 14) (wSet 13 (wCall _law_behind_s (wwCons (wVar 2) (wwCons (wVar 13) (wwCons (wVar 14) wwNil)))))) (wSeq (wIfS (wNot (wTru (wCall _law_alike_s (wwCons (wCall are_deeds_s (wwCons (wVar 2) (wwCons (wVar 4) (wwCons (wVar 9) (wwCons (wVar 18) wwNil))))) (wwCons (wAndV (wVar 19) (wAndV (wCmp2 gNotN (wVar 11) (wC .none)) (wAndV (wCmp2 gEq (wOpN (f1 aLenB) (waCons (wVar 18) waNil)) (wVar 11)) (wCmp2 (gInB false) (wVar 9) (wVar 13))))) wwNil))))) (wRet (wC (.bool false))) wSkip) (wSeq (wIfS (wAnd (wTru (wVar 19)) (wNot (wTru (wCall _law_alike_s (wwCons (wCall after_deeds_s (wwCons (wVar 2) (wwCons (wVar 4) (wwCons (wVar 18) wwNil)))) (wwCons (wVar 13) wwNil)))))) (wRet (wC (.bool false))) wSkip) (wIfS (wAnd (wNot (wTru (wVar 19))) (wNot (wTru (wCall _law_alike_s (wwCons (wHeard (wCall after_deeds_s (wwCons (wVar 2) (wwCons (wVar 4) (wwCons (wVar 18) wwNil))))) (wwCons (wTup (waCons (wC (.str "bad")) (waCons (wC (.str "steps")) (waCons (wC (.bool true)) waNil)))) wwNil)))))) (wRet (wC (.bool false))) wSkip))))))))))))))) law_r6
def law_r4 : WS := wSeq (wIfS (wOr (wNot (wTru (wCall _law_alike_s (wwCons (wCall many_states_s (wwCons (wVar 2) (wwCons (wVar 4) wwNil))) (wwCons (wOpN (f1 aLenB) (waCons (wVar 5) waNil)) wwNil))))) (wNot (wTru (wCall _law_alike_s (wwCons (wCall goals_s (wwCons (wVar 2) (wwCons (wVar 4) wwNil))) (wwCons (wOpN (f1 aTupleOf) (waCons (wVar 6) waNil)) wwNil)))))) (wRet (wC (.bool false))) wSkip) law_r5
def law_r3 : WS := wSeq (wSet 6 (wLc (wiRng1 (wC (.int (13)))) (wgName 3) (wTst2 gNe (wLc (wiSeqB (wVar 5)) (wgName 7) (wTst2 (gInB false) (wVar 3) (wVar 7)) (wVar 7) [7]) (wLst waNil)) (wVar 3) [3])) law_r4
def law_r2 : WS := wSeq (wSet 5 (wCall _law_levels_s (wwCons (wVar 2) (wwCons (wVar 4) wwNil)))) law_r3
def law_r1 : WS := wSeq (wSet 4 (wOpN (f1 aTupleOf) (waCons (wLc (wiSeqB (wVar 2)) (wgName 3) wYes (wCall _law_pick_s (wwRow 1 (wwCons (wLst (waCons (wC (.int (0))) (waCons (wVar 3) (waCons (wCall _law_taken_s (wwRow 1 (wwCons (wOp2 aAdd (wVar 3) (wC (.int (1)))) wwNil))) waNil)))) wwNil))) [3]) waNil))) law_r2
def law_r0 : WS := wSeq (wSet 2 (wOpN (f1 aTupleOf) (waCons (wLc (wiRng1 (wOp2 aAdd (wC (.int (1))) (wCall _law_taken_s (wwRow 1 (wwCons (wC (.int (3))) wwNil))))) (wgName 3) wYes (wOp2 aAdd (wC (.int (1))) (wCall _law_taken_s (wwRow 1 (wwCons (wCall _law_pick_s (wwRow 1 (wwCons (wLst (waCons (wC (.int (4))) (waCons (wC (.int (8))) (waCons (wC (.int (12))) waNil)))) wwNil))) wwNil)))) [3]) waNil))) law_r1
def law_w : WS := wSeq (wSet 2 (wOpN (f1 aTupleOf) (waCons (wLc (wiRng1 (wOp2 aAdd (wC (.int (1))) (wCall _law_taken_s (wwRow 1 (wwCons (wC (.int (3))) wwNil))))) (wgName 3) wYes (wOp2 aAdd (wC (.int (1))) (wCall _law_taken_s (wwRow 1 (wwCons (wCall _law_pick_s (wwRow 1 (wwCons (wLst (waCons (wC (.int (4))) (waCons (wC (.int (8))) (waCons (wC (.int (12))) waNil)))) wwNil))) wwNil)))) [3]) waNil))) (wSeq (wSet 4 (wOpN (f1 aTupleOf) (waCons (wLc (wiSeqB (wVar 2)) (wgName 3) wYes (wCall _law_pick_s (wwRow 1 (wwCons (wLst (waCons (wC (.int (0))) (waCons (wVar 3) (waCons (wCall _law_taken_s (wwRow 1 (wwCons (wOp2 aAdd (wVar 3) (wC (.int (1)))) wwNil))) waNil)))) wwNil))) [3]) waNil))) (wSeq (wSet 5 (wCall _law_levels_s (wwCons (wVar 2) (wwCons (wVar 4) wwNil)))) (wSeq (wSet 6 (wLc (wiRng1 (wC (.int (13)))) (wgName 3) (wTst2 gNe (wLc (wiSeqB (wVar 5)) (wgName 7) (wTst2 (gInB false) (wVar 3) (wVar 7)) (wVar 7) [7]) (wLst waNil)) (wVar 3) [3])) (wSeq (wIfS (wOr (wNot (wTru (wCall _law_alike_s (wwCons (wCall many_states_s (wwCons (wVar 2) (wwCons (wVar 4) wwNil))) (wwCons (wOpN (f1 aLenB) (waCons (wVar 5) waNil)) wwNil))))) (wNot (wTru (wCall _law_alike_s (wwCons (wCall goals_s (wwCons (wVar 2) (wwCons (wVar 4) wwNil))) (wwCons (wOpN (f1 aTupleOf) (waCons (wVar 6) waNil)) wwNil)))))) (wRet (wC (.bool false))) wSkip) (wSeq (wFor (wiRng1 (wC (.int (3)))) (wgName 8) (wSeq (wSet 9 (wCall _law_pick_s (wwRow 1 (wwCons (wLst (waCons (wCall _law_taken_s (wwRow 1 (wwCons (wC (.int (13))) wwNil))) (waCons (wCall _law_taken_s (wwRow 1 (wwCons (wC (.int (5))) wwNil))) (waCons (wCall _law_pick_s (wwRow 1 (wwCons (wVar 6) wwNil))) waNil)))) wwNil)))) (wSeq (wSet 10 (wLc (wiSeqB (wVar 5)) (wgName 7) (wTst2 (gInB false) (wVar 9) (wVar 7)) (wOp2 aIxB (wVar 5) (wVar 7)) [7])) (wSeq (wPar [11, 12] (wmD (wIf (wTst2 gNe (wVar 10) (wLst waNil)) (wOpN (f1 (aBest minI)) (waCons (wVar 10) waNil)) (wC .none)) (wmD (wCall deeds_s (wwCons (wVar 2) (wwCons (wVar 4) (wwCons (wVar 9) wwNil)))) wmNil))) (wSeq (wIfS (wOr (wNot (wTru (wCall _law_alike_s (wwCons (wCall fewest_deeds_s (wwCons (wVar 2) (wwCons (wVar 4) (wwCons (wVar 9) wwNil)))) (wwCons (wVar 11) wwNil))))) (wTst2 gNe (wCmp2 gIsN (wVar 12) (wC .none)) (wCmp2 gIsN (wVar 11) (wC .none)))) (wRet (wC (.bool false))) wSkip) (wSeq (wIfS (wTst2 gNotN (wVar 12) (wC .none)) (wSeq (wSet 13 (wVar 4)) (wSeq (wFor (wiSeqB (wVar 12)) (wgName 14) (wSet 13 (wIf (wTru (wCall _law_are_deeds_s (wwCons (wVar 2) (wwCons (wTup (waCons (wVar 14) waNil)) wwNil)))) (wCall _law_behind_s (wwCons (wVar 2) (wwCons (wVar 13) (wwCons (wVar 14) wwNil)))) (wC .none)))) (wIfS (wOr (wTst2 gIsN (wVar 13) (wC .none)) (wOr (wTst2 gNe (wOpN (f1 aLenB) (waCons (wVar 12) waNil)) (wVar 11)) (wOr (wTst2 (gInB true) (wVar 9) (wVar 13)) (wTst2 (gIsB true) (wCall are_deeds_s (wwCons (wVar 2) (wwCons (wVar 4) (wwCons (wVar 9) (wwCons (wVar 12) wwNil))))) (wC (.bool true)))))) (wRet (wC (.bool false))) wSkip))) wSkip) (wSeq (wSet 15 (wIf (wTst2 gNotN (wVar 12) (wC .none)) (wVar 12) (wTup waNil))) (wSeq (wSet 16 (wOpN (f1 aTupleOf) (waCons (wLc (wiRng1 (wC (.int (2)))) (wgName 3) wYes (wTup (waCons (wCall _law_taken_s (wwRow 1 (wwCons (wOpN (f1 aLenB) (waCons (wVar 2) waNil)) wwNil))) (waCons (wOp2 aSub (wNeg (wC (.int (1)))) (wCall _law_taken_s (wwRow 1 (wwCons (wC (.int (2))) wwNil)))) waNil))) [3]) waNil))) (wSeq (wSet 17 (wLst (waCons (wTup (waCons (wTup (waCons (wC (.int (0))) (waCons (wC (.int (0))) waNil))) waNil)) (waCons (wTup (waCons (wTup (waCons (wC (.int (0))) (waCons (wC (.bool true)) waNil))) waNil)) (waCons (wTup (waCons (wTup (waCons (wOpN (f1 aLenB) (waCons (wVar 2) waNil)) (waCons (wNeg (wC (.int (1)))) waNil))) waNil)) (waCons (wTup (waCons (wTup (waCons (wC (.int (0))) (waCons (wNeg (wC (.int (3)))) waNil))) waNil)) (waCons (wOpN (f1 aListOf) (waCons (wVar 15) waNil)) waNil))))))) (wSeq (wSet 18 (wCall _law_pick_s (wwRow 1 (wwCons (wOp2 aAddL (wVar 17) (wLst (waCons (wVar 15) (waCons (wCut (wVar 15) (woSome (wC (.int (1)))) woNone) (waCons (wRevA (wVar 15)) (waCons (wOp2 aAdd (wVar 15) (wTup (waCons (wTup (waCons (wC (.int (0))) (waCons (wNeg (wC (.int (1)))) waNil))) waNil))) (waCons (wVar 16) waNil))))))) wwNil)))) (wSeq (wPar [19, 13] (wmD (wCall _law_are_deeds_s (wwCons (wVar 2) (wwCons (wVar 18) wwNil))) (wmD (wVar 4) wmNil))) (wSeq (wFor (wiSeqB (wIf (wTru (wVar 19)) (wVar 18) (wTup waNil))) (wgName 14) (wSet 13 (wCall _law_behind_s (wwCons (wVar 2) (wwCons (wVar 13) (wwCons (wVar 14) wwNil)))))) (wSeq (wIfS (wNot (wTru (wCall _law_alike_s (wwCons (wCall are_deeds_s (wwCons (wVar 2) (wwCons (wVar 4) (wwCons (wVar 9) (wwCons (wVar 18) wwNil))))) (wwCons (wAndV (wVar 19) (wAndV (wCmp2 gNotN (wVar 11) (wC .none)) (wAndV (wCmp2 gEq (wOpN (f1 aLenB) (waCons (wVar 18) waNil)) (wVar 11)) (wCmp2 (gInB false) (wVar 9) (wVar 13))))) wwNil))))) (wRet (wC (.bool false))) wSkip) (wSeq (wIfS (wAnd (wTru (wVar 19)) (wNot (wTru (wCall _law_alike_s (wwCons (wCall after_deeds_s (wwCons (wVar 2) (wwCons (wVar 4) (wwCons (wVar 18) wwNil)))) (wwCons (wVar 13) wwNil)))))) (wRet (wC (.bool false))) wSkip) (wIfS (wAnd (wNot (wTru (wVar 19))) (wNot (wTru (wCall _law_alike_s (wwCons (wHeard (wCall after_deeds_s (wwCons (wVar 2) (wwCons (wVar 4) (wwCons (wVar 18) wwNil))))) (wwCons (wTup (waCons (wC (.str "bad")) (waCons (wC (.str "steps")) (waCons (wC (.bool true)) waNil)))) wwNil)))))) (wRet (wC (.bool false))) wSkip))))))))))))))) (wRet (wCall _law_refused_s (wwRow 1 (wwCons (wVar 2) (wwCons (wVar 4) wwNil))))))))))
theorem law_r : law_w = law_r0 := rfl
def lwA_r13 : WS := (wIfS (wAnd (wNot (wTru (wVar 19))) (wNot (wTru (wCall _law_alike_s (wwCons (wHeard (wCall after_deeds_s (wwCons (wVar 2) (wwCons (wVar 4) (wwCons (wVar 18) wwNil))))) (wwCons (wTup (waCons (wC (.str "bad")) (waCons (wC (.str "steps")) (waCons (wC (.bool true)) waNil)))) wwNil)))))) (wRet (wC (.bool false))) wSkip)
def lwA_r12 : WS := wSeq (wIfS (wAnd (wTru (wVar 19)) (wNot (wTru (wCall _law_alike_s (wwCons (wCall after_deeds_s (wwCons (wVar 2) (wwCons (wVar 4) (wwCons (wVar 18) wwNil)))) (wwCons (wVar 13) wwNil)))))) (wRet (wC (.bool false))) wSkip) lwA_r13
def lwA_r11 : WS := wSeq (wIfS (wNot (wTru (wCall _law_alike_s (wwCons (wCall are_deeds_s (wwCons (wVar 2) (wwCons (wVar 4) (wwCons (wVar 9) (wwCons (wVar 18) wwNil))))) (wwCons (wAndV (wVar 19) (wAndV (wCmp2 gNotN (wVar 11) (wC .none)) (wAndV (wCmp2 gEq (wOpN (f1 aLenB) (waCons (wVar 18) waNil)) (wVar 11)) (wCmp2 (gInB false) (wVar 9) (wVar 13))))) wwNil))))) (wRet (wC (.bool false))) wSkip) lwA_r12
def lwA_r10 : WS := wSeq (wFor (wiSeqB (wIf (wTru (wVar 19)) (wVar 18) (wTup waNil))) (wgName 14) (wSet 13 (wCall _law_behind_s (wwCons (wVar 2) (wwCons (wVar 13) (wwCons (wVar 14) wwNil)))))) lwA_r11
def lwA_r9 : WS := wSeq (wPar [19, 13] (wmD (wCall _law_are_deeds_s (wwCons (wVar 2) (wwCons (wVar 18) wwNil))) (wmD (wVar 4) wmNil))) lwA_r10
def lwA_r8 : WS := wSeq (wSet 18 (wCall _law_pick_s (wwRow 1 (wwCons (wOp2 aAddL (wVar 17) (wLst (waCons (wVar 15) (waCons (wCut (wVar 15) (woSome (wC (.int (1)))) woNone) (waCons (wRevA (wVar 15)) (waCons (wOp2 aAdd (wVar 15) (wTup (waCons (wTup (waCons (wC (.int (0))) (waCons (wNeg (wC (.int (1)))) waNil))) waNil))) (waCons (wVar 16) waNil))))))) wwNil)))) lwA_r9
def lwA_r7 : WS := wSeq (wSet 17 (wLst (waCons (wTup (waCons (wTup (waCons (wC (.int (0))) (waCons (wC (.int (0))) waNil))) waNil)) (waCons (wTup (waCons (wTup (waCons (wC (.int (0))) (waCons (wC (.bool true)) waNil))) waNil)) (waCons (wTup (waCons (wTup (waCons (wOpN (f1 aLenB) (waCons (wVar 2) waNil)) (waCons (wNeg (wC (.int (1)))) waNil))) waNil)) (waCons (wTup (waCons (wTup (waCons (wC (.int (0))) (waCons (wNeg (wC (.int (3)))) waNil))) waNil)) (waCons (wOpN (f1 aListOf) (waCons (wVar 15) waNil)) waNil))))))) lwA_r8
def lwA_r6 : WS := wSeq (wSet 16 (wOpN (f1 aTupleOf) (waCons (wLc (wiRng1 (wC (.int (2)))) (wgName 3) wYes (wTup (waCons (wCall _law_taken_s (wwRow 1 (wwCons (wOpN (f1 aLenB) (waCons (wVar 2) waNil)) wwNil))) (waCons (wOp2 aSub (wNeg (wC (.int (1)))) (wCall _law_taken_s (wwRow 1 (wwCons (wC (.int (2))) wwNil)))) waNil))) [3]) waNil))) lwA_r7
def lwA_r5 : WS := wSeq (wSet 15 (wIf (wTst2 gNotN (wVar 12) (wC .none)) (wVar 12) (wTup waNil))) lwA_r6
def lwA_r4 : WS := wSeq (wIfS (wTst2 gNotN (wVar 12) (wC .none)) (wSeq (wSet 13 (wVar 4)) (wSeq (wFor (wiSeqB (wVar 12)) (wgName 14) (wSet 13 (wIf (wTru (wCall _law_are_deeds_s (wwCons (wVar 2) (wwCons (wTup (waCons (wVar 14) waNil)) wwNil)))) (wCall _law_behind_s (wwCons (wVar 2) (wwCons (wVar 13) (wwCons (wVar 14) wwNil)))) (wC .none)))) (wIfS (wOr (wTst2 gIsN (wVar 13) (wC .none)) (wOr (wTst2 gNe (wOpN (f1 aLenB) (waCons (wVar 12) waNil)) (wVar 11)) (wOr (wTst2 (gInB true) (wVar 9) (wVar 13)) (wTst2 (gIsB true) (wCall are_deeds_s (wwCons (wVar 2) (wwCons (wVar 4) (wwCons (wVar 9) (wwCons (wVar 12) wwNil))))) (wC (.bool true)))))) (wRet (wC (.bool false))) wSkip))) wSkip) lwA_r5
def lwA_r3 : WS := wSeq (wIfS (wOr (wNot (wTru (wCall _law_alike_s (wwCons (wCall fewest_deeds_s (wwCons (wVar 2) (wwCons (wVar 4) (wwCons (wVar 9) wwNil)))) (wwCons (wVar 11) wwNil))))) (wTst2 gNe (wCmp2 gIsN (wVar 12) (wC .none)) (wCmp2 gIsN (wVar 11) (wC .none)))) (wRet (wC (.bool false))) wSkip) lwA_r4
def lwA_r2 : WS := wSeq (wPar [11, 12] (wmD (wIf (wTst2 gNe (wVar 10) (wLst waNil)) (wOpN (f1 (aBest minI)) (waCons (wVar 10) waNil)) (wC .none)) (wmD (wCall deeds_s (wwCons (wVar 2) (wwCons (wVar 4) (wwCons (wVar 9) wwNil)))) wmNil))) lwA_r3
def lwA_r1 : WS := wSeq (wSet 10 (wLc (wiSeqB (wVar 5)) (wgName 7) (wTst2 (gInB false) (wVar 9) (wVar 7)) (wOp2 aIxB (wVar 5) (wVar 7)) [7])) lwA_r2
def lwA_r0 : WS := wSeq (wSet 9 (wCall _law_pick_s (wwRow 1 (wwCons (wLst (waCons (wCall _law_taken_s (wwRow 1 (wwCons (wC (.int (13))) wwNil))) (waCons (wCall _law_taken_s (wwRow 1 (wwCons (wC (.int (5))) wwNil))) (waCons (wCall _law_pick_s (wwRow 1 (wwCons (wVar 6) wwNil))) waNil)))) wwNil)))) lwA_r1
theorem lwA_for : law_r5 = wSeq (wFor (wiRng1 (wC (.int (3)))) (wgName 8) lwA_r0) law_r6 := rfl
abbrev lwD : EndsW := { nx := fun _ => False, rt := fun d => d = .bool true, ex := noX }
theorem comp_rel {ρ : Env'} {α : Type} {g : WG} {we : WE} {h : α → D} (P : α → D → Prop) : ∀ {xs : List α} {acc : List D} {Q : D → Prop} (hh : ∀ x ∈ xs, ∀ R : D → Prop, (∀ y, P x y → R y) → g (h x) ρ fun ρ2 => we ρ2 R noX)
    (hl : acc.length + xs.length ≤ sizeLine) (q : ∀ ys : List D, ys.length = xs.length → (∀ (i : Nat) x y, xs[i]? = some x → ys[i]? = some y → P x y) → Q (.list (acc ++ ys))), wComp g wYes we ρ (xs.map h) acc Q
  | [], acc, Q, hh, hl, q => by
    have := q [] rfl (fun i x y h => by simp at h)
    rw [List.append_nil] at this
    exact this
  | d :: ds, acc, Q, hh, hl, q => by
    rw [List.length_cons] at hl
    have := hh d List.mem_cons_self (fun y => acc.length < sizeLine ∧ wComp g wYes we ρ (ds.map h) (acc ++ [y]) Q) (fun y hy => by
      refine ⟨by omega, comp_rel P (fun x m => hh x (List.mem_cons_of_mem _ m)) (by rw [List.length_append, List.length_singleton]; omega) fun ys hys hP => ?_⟩
      have := q (y :: ys) (by rw [List.length_cons, List.length_cons, hys]) (fun i x z hx hz => by
        cases i with
        | zero => simp at hx hz; rw [← hx, ← hz]; exact hy
        | succ i => exact hP i x z (by simpa using hx) (by simpa using hz))
      rw [List.append_assoc]
      exact this)
    rw [List.map_cons]
    unfold wComp
    simpa using this
abbrev lwE (rs v : List Int) (K : List (List Int × Nat)) (L : List Int) (x8 x9 x10 x11 x12 x13 x14 x15 x16 x17 x18 x19 : Option W) : Env' := [none, some .row, some (.d (intsT rs)), none, some (.d (intsT v)), some (.d (.dict (dkN K))), some (.d (.list (L.map .int))), none, x8, x9, x10, x11, x12, x13, x14, x15, x16, x17, x18, x19]
theorem keysN {K : List (List Int × Nat)} : (dkN K).map (·.1) = K.map fun e => intsT e.1 := by unfold dkN; rw [List.map_map]; rfl
theorem shD_st {v : List Int} : shD 1 (intsT v) := shD_tuple shD_ints
theorem minI_eq {v : Int} : ∀ {ns : List Int} {n : Int}, (∀ x ∈ n :: ns, v ≤ x) → v ∈ n :: ns → minI n ns = v
  | [], n, h1, h2 => by rw [List.mem_singleton] at h2; rw [h2]; rfl
  | m :: ns, n, h1, h2 => by
    show minI (min n m) ns = v
    have a := h1 n List.mem_cons_self
    have b := h1 m (List.mem_cons_of_mem _ List.mem_cons_self)
    refine minI_eq (fun x hx => ?_) ?_
    · rcases List.mem_cons.mp hx with rfl | hx
      · omega
      · exact h1 x (List.mem_cons_of_mem _ (List.mem_cons_of_mem _ hx))
    · rcases List.mem_cons.mp h2 with z | h2
      · have : min n m = v := by omega
        rw [this]; exact List.mem_cons_self
      · rcases List.mem_cons.mp h2 with z | h2
        · have : min n m = v := by omega
          rw [this]; exact List.mem_cons_self
        · exact List.mem_cons_of_mem _ h2
theorem pair_deed {p : Dd} : pairOk (deedT p) := ⟨_, _, rfl, shD_int, shD_int⟩
theorem least_of {α : Type} {xs : List (α × Nat)} (h : xs ≠ []) : ∃ e ∈ xs, ∀ e' ∈ xs, e.2 ≤ e'.2 := by
  induction xs with
  | nil => exact absurd rfl h
  | cons x xs ih =>
    by_cases z : xs = []
    · subst z
      exact ⟨x, List.mem_cons_self, fun e he => by rw [List.mem_singleton] at he; rw [he]; exact Nat.le_refl _⟩
    · obtain ⟨m, hm, hl⟩ := ih z
      by_cases c : x.2 ≤ m.2
      · refine ⟨x, List.mem_cons_self, fun e he => ?_⟩
        rcases List.mem_cons.mp he with rfl | he
        · exact Nat.le_refl _
        · exact Nat.le_trans c (hl e he)
      · refine ⟨m, List.mem_cons_of_mem _ hm, fun e he => ?_⟩
        rcases List.mem_cons.mp he with rfl | he
        · omega
        · exact hl e he
theorem turn_ok {rs v : List Int} {K : List (List Int × Nat)} {L : List Int} (R : Rm rs) (S : St rs v) (hK : BFS.Full (K25.G rs) v K) (hL : Gl rs v L) (hLl : L.length ≤ 13) {E : List En} (hE : Known rs v E) {P : Env' → Prop} {bk ct : Env' → Prop} {x8 x9 x10 x11 x12 x13 x14 x15 x16 x17 x18 x19 : Option W} (hP : ∀ x9 x10 x11 x12 x13 x14 x15 x16 x17 x18 x19, P (lwE rs v K L x8 x9 x10 x11 x12 x13 x14 x15 x16 x17 x18 x19)) : lwA_r0 { nx := P, rt := fun d => d = .bool true, bk := bk, ct := ct, ex := noX } (lwE rs v K L x8 x9 x10 x11 x12 x13 x14 x15 x16 x17 x18 x19) := by
  have hKl := K25.keys_len R S hK.nd hK.dist
  have hvl : 0 < v.length := by have := R.pos; have := S.len; omega
  have hL0 : 0 < L.length := by
    cases v with
    | nil => simp at hvl
    | cons a b => exact List.length_pos_of_mem ((hL.mem a).mpr ⟨0, _, .zero, List.mem_cons_self⟩)
  simp [lwA_r0]
  refine taken_use (by omega) (by omega) fun r1 h10 h11 => ?_
  refine taken_use (by omega) (by omega) fun r2 h20 h21 => ?_
  refine pick_use (by simpa using hL0) (by simp; omega) fun d3 hd3 => ?_
  refine pick_use (by simp) (by simp) fun goal hg => ?_
  have hgo : ∃ g : Int, goal = .int g ∧ 0 ≤ g ∧ g ≤ 12 := by
    simp only [List.mem_cons, List.not_mem_nil, or_false] at hg
    rcases hg with rfl | rfl | rfl
    · exact ⟨_, rfl, by omega, by omega⟩
    · exact ⟨_, rfl, by omega, by omega⟩
    · obtain ⟨k, hk, rfl⟩ := List.mem_map.mp hd3
      obtain ⟨n, w, hw, hk⟩ := (hL.mem k).mp hk
      have := (K25.walk_st R S hw).lim R k hk
      exact ⟨k, rfl, this.1, this.2⟩
  obtain ⟨g, rfl, hg0, hg1⟩ := hgo
  have X : ∀ {EX : EXn}, GX (intsT rs) (intsT v) (.int g) EX := fun {EX} => gx_ok R S hg0 hg1
  simp [lwA_r1]
  refine ⟨_, rfl, ?_⟩
  rw [keysN]
  refine comp_filtM (fun e : List Int × Nat => decide (g ∈ e.1)) (fun e => .int (e.2 : Nat)) (fun e he R'' r' => ?_) (by rw [sizeLine_eq]; omega) ?_
  · have hd := dkN_some hK.nd he
    simp [intsT]
    refine in_ints ?_
    by_cases c : g ∈ e.1
    · simp [c] at r' ⊢
      exact ⟨dkN_fit, _, hd, r'⟩
    · simp [c] at r' ⊢; exact r'
  simp [lwA_r2]
  generalize hC : (K.filter fun e => decide (g ∈ e.1)) = C
  have hCm : ∀ e, e ∈ C ↔ e ∈ K ∧ g ∈ e.1 := fun e => by rw [← hC, List.mem_filter, decide_eq_true_eq]
  have rest : ∀ o o', Few rs v g o → Res rs v g o' → lwA_r3 { nx := P, rt := fun d => d = .bool true, bk := bk, ct := ct, ex := noX } [none, some .row, some (.d (intsT rs)), none, some (.d (intsT v)), some (.d (.dict (dkN K))), some (.d (.list (L.map .int))), none, x8, some (.d (.int g)), some (.d (.list (C.map fun e => .int (e.2 : Nat)))), some (.d (natD o)), some (.d (dsD o')), x13, x14, x15, x16, x17, x18, x19] := fun o o' ho ho' => by
    have hoo : o = o'.map List.length := K25.few_uniq ho (K25.res_few ho')
    have plo : plainD 12 (natD o) = true := by
      cases o with
      | none => rfl
      | some d => exact plain_int
    have nn : isNone (dsD o') = isNone (natD o) := by
      rw [hoo]
      cases o' <;> rfl
    simp [lwA_r3]
    refine ⟨_, _, _, rfl, X, fun _ o2 ho2 => ?_⟩
    rw [rdL_ints, rdL_ints] at ho2
    rw [K25.few_uniq (b := o) ho2 ho]
    refine alike_use plo ?_
    simp
    refine ⟨nn, ?_⟩
    generalize hval : C.map (fun e => PyData.int (e.2 : Nat)) = cs
    have rest2 : ∀ x13 x14, lwA_r5 { nx := P, rt := fun d => d = .bool true, bk := bk, ct := ct, ex := noX } [none, some .row, some (.d (intsT rs)), none, some (.d (intsT v)), some (.d (.dict (dkN K))), some (.d (.list (L.map .int))), none, x8, some (.d (.int g)), some (.d (.list cs)), some (.d (natD o)), some (.d (dsD o')), x13, x14, x15, x16, x17, x18, x19] := fun x13 x14 => by
      have dsl : ∀ ds, o' = some ds → ds.length ≤ 2197 := fun ds e => by
        subst e
        obtain ⟨⟨w, hw, hg⟩, hf⟩ := ho'.2.2
        have := hE.full.all w ⟨_, hw⟩
        rw [K25.keys_eq] at this
        obtain ⟨e, he, rfl⟩ := List.mem_map.mp this
        have h1 := hf e.d e.v (hE.full.dist e.vd (List.mem_map_of_mem he)).1 hg
        have h2 := hE.small he
        have h3 := hE.len R S
        omega
      have dsd : ∀ ds, o' = some ds → ∀ p ∈ ds, IsDd rs.length p := fun ds e => by
        subst e
        exact ho'.1
      have rest3 : ∀ ds : List Dd, ds.length ≤ 2197 → (∀ p ∈ ds, IsDd rs.length p) → lwA_r6 { nx := P, rt := fun d => d = .bool true, bk := bk, ct := ct, ex := noX } [none, some .row, some (.d (intsT rs)), none, some (.d (intsT v)), some (.d (.dict (dkN K))), some (.d (.list (L.map .int))), none, x8, some (.d (.int g)), some (.d (.list cs)), some (.d (natD o)), some (.d (dsD o')), x13, x14, some (.d (.tuple (ds.map deedT))), x16, x17, x18, x19] := fun ds hdl hd => by
        clear dsl dsd
        simp [lwA_r6]
        refine ⟨⟨by omega, by omega⟩, ?_⟩
        rw [rngD_map]
        refine comp_any (fun d => ∃ p, d = deedT p ∧ IsDd rs.length p) (fun k hk R' hR => ?_) (by simp; rw [sizeLine_eq]; omega) fun ys hys hys2 => ?_
        · have evl : ∀ Q : D → Prop, aLenB (intsT rs) Q = Q (.int rs.length) := fun Q => by simp [intsT]
          have hrp := R.pos
          have hr3 := R.len
          simp [evl]
          refine taken_use (by omega) (by omega) fun r1 h10 h11 => ?_
          refine taken_use (by omega) (by omega) fun r2 h20 h21 => ?_
          have e : ((r1.toNat : Nat) : Int) = r1 := by omega
          have : PyData.tuple [.int r1, .int (-1 - r2)] = deedT (r1.toNat, -1 - r2) := by unfold deedT; rw [e]
          simp
          refine hR _ ⟨(r1.toNat, -1 - r2), this, by simp only; omega, by simp only; omega, by simp only; omega, by simp only; omega⟩
        · have evl : ∀ Q : D → Prop, aLenB (intsT rs) Q = Q (.int rs.length) := fun Q => by simp [intsT]
          simp [lwA_r7, evl, lwA_r8]
          rw [sizeLine_eq]
          refine ⟨by omega, by omega, ?_⟩
          refine pick_use (by simp) (by simp) fun sm hs => ?_
          have hyl : ys.length = 2 := by simpa using hys
          have okd : ∀ l : List Dd, l.length ≤ 3000 → stepsOk (.tuple (l.map deedT)) := fun l hl => ⟨by rw [List.length_map]; omega, fun x hx => by
            obtain ⟨p, _, rfl⟩ := List.mem_map.mp hx
            exact pair_deed⟩
          have ok1 : ∀ a b : D, shD 5 a → shD 5 b → stepsOk (.tuple [.tuple [a, b]]) := fun a b ha hb => ⟨by simp, fun x hx => by
            rw [List.mem_singleton] at hx
            exact ⟨a, b, hx, ha, hb⟩⟩
          have hsm : stepsOk sm := by
            simp only [List.mem_cons, List.not_mem_nil, or_false] at hs
            rcases hs with rfl | rfl | rfl | rfl | rfl | rfl | rfl | rfl | rfl | rfl
            · exact ok1 _ _ shD_int shD_int
            · exact ok1 _ _ shD_int shD_bool
            · exact ok1 _ _ shD_int shD_int
            · exact ok1 _ _ shD_int shD_int
            · trivial
            · exact okd ds (by omega)
            · rw [cut_map]
              have := cut_len (xs := ds) (lo := some 1) (hi := none)
              exact okd _ (by omega)
            · rw [← List.map_reverse]
              exact okd _ (by rw [List.length_reverse]; omega)
            · have e : ds.map deedT ++ [PyData.tuple [.int 0, .int (-1)]] = (ds ++ [(0, -1)]).map deedT := by rw [List.map_append]; rfl
              rw [e]
              exact okd _ (by rw [List.length_append, List.length_singleton]; omega)
            · refine ⟨by omega, fun x hx => ?_⟩
              obtain ⟨p, rfl, _⟩ := hys2 x hx
              exact pair_deed
          clear hs okd ok1 hys hys2
          simp [lwA_r9]
          refine ⟨rs, sm, rfl, R, hsm, ?_⟩
          generalize PyData.list [PyData.tuple [PyData.tuple [PyData.int 0, PyData.int 0]], PyData.tuple [PyData.tuple [PyData.int 0, PyData.bool true]], PyData.tuple [PyData.tuple [PyData.int rs.length, PyData.int (-1)]], PyData.tuple [PyData.tuple [PyData.int 0, PyData.int (-3)]], PyData.list (List.map deedT ds)] = bl
          show lwA_r10 _ _
          have fin : ∀ (x14 : Option W) (h : List Int), h = (if stepsB rs.length sm = true then replay rs v (rdDs sm) else v) → lwA_r11 { nx := P, rt := fun d => d = .bool true, bk := bk, ct := ct, ex := noX } [none, some .row, some (.d (intsT rs)), none, some (.d (intsT v)), some (.d (.dict (dkN K))), some (.d (.list (L.map .int))), none, x8, some (.d (.int g)), some (.d (.list cs)), some (.d (natD o)), some (.d (dsD o')), some (.d (intsT h)), x14, some (.d (.tuple (ds.map deedT))), some (.d (.tuple ys)), some (.d bl), some (.d sm), some (.d (.bool (stepsB rs.length sm)))] := fun x14 h hh => by
            clear hsm
            by_cases c : stepsB rs.length sm = true
            · rw [if_pos c] at hh
              obtain ⟨ss, rfl, hss⟩ := steps_read c
              rw [rdDs_ds] at hh
              rw [c]
              have plh : plainD 12 (intsT h) = true := by
                rw [hh]
                have := (K25.replay_st R S hss).len
                have := R.len
                exact plain_tuple (by rw [List.length_map, sizeLine_eq]; omega) plain_ints
              have r12 : lwA_r12 { nx := P, rt := fun d => d = .bool true, bk := bk, ct := ct, ex := noX } [none, some .row, some (.d (intsT rs)), none, some (.d (intsT v)), some (.d (.dict (dkN K))), some (.d (.list (L.map .int))), none, x8, some (.d (.int g)), some (.d (.list cs)), some (.d (natD o)), some (.d (dsD o')), some (.d (intsT h)), x14, some (.d (.tuple (ds.map deedT))), some (.d (.tuple ys)), some (.d bl), some (.d (.tuple (ss.map deedT))), some (.d (.bool true))] := by
                simp [lwA_r12]
                refine ad_use R S hss ?_
                rw [← hh]
                refine alike_use plh ?_
                simp [lwA_r13]
                exact hP _ _ _ _ _ _ _ _ _ _ _
              simp [lwA_r11]
              refine ⟨_, _, _, _, rfl, X, fun _ o2 ho2 => ?_⟩
              rw [rdL_ints, rdL_ints] at ho2 ⊢
              have e2 := K25.few_uniq (b := o) ho2 ho
              subst e2
              show if _ then _ else _
              cases o2 with
              | none =>
                rw [if_pos (show isNone (natD none) = true from rfl)]
                refine alike_use plain_bool ?_
                simp
                exact r12
              | some d =>
                rw [if_neg (by simp [natD, isNone])]
                have e3 : isD rs v (rdI (.int g)) (.tuple (ss.map deedT)) (some d) = (decide (ss.length = d) && decide (g ∈ h)) := by
                  rw [hh]
                  show (stepsB rs.length _ && (decide ((rdDs (.tuple (ss.map deedT))).length = d) && decide (g ∈ replay rs v (rdDs (.tuple (ss.map deedT)))))) = _
                  rw [steps_ok hss, rdDs_ds, Bool.true_and]
                rw [e3]
                simp [natD]
                have e4 : decide ((ss.length : Int) = (d : Int)) = decide (ss.length = d) := decide_eq_decide.mpr (by omega)
                by_cases z : ss.length = d
                · have z' : (ss.length : Int) = d := by omega
                  rw [if_pos z']
                  simp [intsT]
                  refine in_ints ?_
                  simp [z]
                  refine alike_use plain_bool ?_
                  simp
                  exact r12
                · have z' : ¬ (ss.length : Int) = d := by omega
                  rw [if_neg z', decide_eq_false z', decide_eq_false z]
                  simp
                  refine alike_use plain_bool ?_
                  simp
                  exact r12
            · have c' : stepsB rs.length sm = false := by simpa using c
              rw [if_neg c] at hh
              rw [c']
              simp [lwA_r11]
              refine ⟨_, _, _, _, rfl, X, fun _ o2 ho2 => ?_⟩
              rw [rdL_ints, rdL_ints] at ho2 ⊢
              have e3 : isD rs v (rdI (.int g)) sm o2 = false := by
                cases o2 with
                | none => rfl
                | some d => simp [isD, c']
              rw [e3]
              refine alike_use plain_bool ?_
              simp [lwA_r12, lwA_r13, plainE]
              refine heard_bad (fun Q' => ⟨_, _, _, rfl, ⟨sx_ok R S, fun _ _ => rfl⟩, fun _ z => by rw [rdL_ints, c'] at z; cases z⟩) ?_
              refine alike_use (by decide +kernel) ?_
              simp
              exact hP _ _ _ _ _ _ _ _ _ _ _
          by_cases c : stepsB rs.length sm = true
          · obtain ⟨ss, rfl, hss⟩ := steps_read c
            rw [if_pos c] at fin
            rw [rdDs_ds] at fin
            rw [c] at fin ⊢
            simp [lwA_r10]
            refine ⟨_, rfl, ?_⟩
            refine loop_runM (fun i ρ => ∃ x14, ρ = [none, some .row, some (.d (intsT rs)), none, some (.d (intsT v)), some (.d (.dict (dkN K))), some (.d (.list (L.map .int))), none, x8, some (.d (.int g)), some (.d (.list cs)), some (.d (natD o)), some (.d (dsD o')), some (.d (intsT (replay rs v (ss.take i)))), x14, some (.d (.tuple (ds.map deedT))), some (.d (.tuple ys)), some (.d bl), some (.d (.tuple (ss.map deedT))), some (.d (.bool true))]) ⟨x14, rfl⟩ ?_ ?_
            · rintro i p ρ P' hi ⟨x14, rfl⟩ hP'
              have hp := hss p (List.mem_of_getElem? hi)
              simp
              refine ⟨rs, _, p, rfl, R, K25.replay_st R S fun q hq => hss q (List.mem_of_mem_take hq), hp, ?_⟩
              refine hP' _ ⟨some (.d (deedT p)), ?_⟩
              rw [List.take_add_one, hi]
              unfold replay
              rw [List.foldl_append]
              rfl
            · rintro ρ ⟨x14, rfl⟩
              rw [List.take_of_length_le (Nat.le_refl _)]
              exact fin _ _ rfl
          · have c' : stepsB rs.length sm = false := by simpa using c
            rw [if_neg c] at fin
            rw [c'] at fin ⊢
            simp [lwA_r10]
            refine ⟨_, rfl, ?_⟩
            exact fin _ v rfl
      simp [lwA_r5]
      cases o' with
      | none =>
        simp [dsD, isNone]
        exact rest3 [] (by simp) (by simp)
      | some ds =>
        simp [dsD, isNone]
        exact rest3 ds (dsl ds rfl) (dsd ds rfl)
    simp [lwA_r4]
    cases o' with
    | none =>
      simp [dsD, isNone]
      exact rest2 _ _
    | some ds =>
      obtain ⟨hd, hgr, hf⟩ := ho'
      subst hoo
      simp [dsD, isNone]
      refine ⟨_, rfl, ?_⟩
      refine loop_runM (fun i ρ => ∃ x14, ρ = [none, some .row, some (.d (intsT rs)), none, some (.d (intsT v)), some (.d (.dict (dkN K))), some (.d (.list (L.map .int))), none, x8, some (.d (.int g)), some (.d (.list cs)), some (.d (natD (some ds.length))), some (.d (.tuple (ds.map deedT))), some (.d (intsT (replay rs v (ds.take i)))), x14, x15, x16, x17, x18, x19]) ⟨x14, rfl⟩ ?_ ?_
      · rintro i p ρ P' hi ⟨x14, rfl⟩ hP'
        have hp := hd p (List.mem_of_getElem? hi)
        simp
        have st1 : stepsB rs.length (.tuple [deedT p]) = true := steps_ok (ds := [p]) fun q hq => by
          rw [List.mem_singleton] at hq
          rw [hq]; exact hp
        refine ⟨rs, _, rfl, R, ⟨by simp, fun x hx => ?_⟩, ?_⟩
        · rw [List.mem_singleton] at hx
          rw [hx]
          exact pair_deed
        rw [st1]
        simp
        refine ⟨rs, _, p, rfl, R, K25.replay_st R S fun q hq => hd q (List.mem_of_mem_take hq), hp, ?_⟩
        refine hP' _ ⟨some (.d (deedT p)), ?_⟩
        rw [List.take_add_one, hi]
        unfold replay
        rw [List.foldl_append]
        rfl
      · rintro ρ ⟨x14, rfl⟩
        rw [List.take_of_length_le (Nat.le_refl _)]
        simp [isNone, intsT, natD]
        refine in_ints ?_
        simp [hgr]
        refine ⟨_, _, _, _, rfl, X, fun _ o2 ho2 => ?_⟩
        rw [show rdL (PyData.tuple (rs.map .int)) = rs from rdL_ints, show rdL (PyData.tuple (v.map .int)) = v from rdL_ints] at ho2 ⊢
        have e2 := K25.few_uniq (b := some ds.length) ho2 ho
        subst e2
        have : isD rs v g (.tuple (ds.map deedT)) (some ds.length) = true := by
          simp [isD, rdDs_ds, steps_ok hd, hgr]
        have this2 : isD rs v (rdI (.int g)) (.tuple (ds.map deedT)) (some ds.length) = true := this
        rw [this2]
        exact ⟨rfl, rest2 _ _⟩
  have dd : ∀ {D0 : D → Prop}, (∀ o', Res rs v g o' → D0 (dsD o')) → deeds_s [.d (intsT rs), .d (intsT v), .d (.int g)] D0 noX := fun {D0} h => ⟨_, _, _, rfl, X, fun _ o' ho' => by
    rw [rdL_ints, rdL_ints] at ho'
    exact h o' ho'⟩
  refine ne_nil (shaped_of (shD_list (n := 1) fun x hx => ?_)) ?_
  · obtain ⟨e, _, rfl⟩ := List.mem_map.mp hx
    exact shD_int
  cases C with
  | nil =>
    simp
    refine dd fun o' ho' => rest none o' (fun n w hw hg => ?_) ho'
    obtain ⟨e, he, rfl⟩ := List.mem_map.mp (hK.all w ⟨n, hw⟩)
    have := (hCm e).mpr ⟨he, hg⟩
    cases this
  | cons c C =>
    simp
    obtain ⟨m, hm1, hm2⟩ : ∃ e ∈ c :: C, ∀ e' ∈ c :: C, e.2 ≤ e'.2 := least_of (by simp)
    refine best_list (n := (c.2 : Nat)) (ns := C.map fun e => (e.2 : Int)) (by simp) ?_
    rw [minI_eq (v := (m.2 : Int))]
    · have hm3 := (hCm m).mp hm1
      refine dd fun o' ho' => rest (some m.2) o' ⟨⟨m.1, (hK.dist m hm3.1).1, hm3.2⟩, fun n w hw hg => ?_⟩ ho'
      obtain ⟨e, he, rfl⟩ := List.mem_map.mp (hK.all w ⟨n, hw⟩)
      exact Nat.le_trans (hm2 e ((hCm e).mpr ⟨he, hg⟩)) ((hK.dist e he).2 n hw)
    · intro x hx
      rw [← List.map_cons (f := fun e : List Int × Nat => (e.2 : Int))] at hx
      obtain ⟨e, he, rfl⟩ := List.mem_map.mp hx
      have := hm2 e he
      omega
    · rw [← List.map_cons (f := fun e : List Int × Nat => (e.2 : Int))]
      exact List.mem_map_of_mem hm1
theorem law_tail {rs v : List Int} {K : List (List Int × Nat)} (R : Rm rs) (S : St rs v) (hK : BFS.Full (K25.G rs) v K) : law_r3 lwD [none, some .row, some (.d (intsT rs)), none, some (.d (intsT v)), some (.d (.dict (dkN K))), none, none, none, none, none, none, none, none, none, none, none, none, none, none] := by
  have hKl := K25.keys_len R S hK.nd hK.dist
  simp [law_r3]
  refine ⟨⟨by omega, by omega⟩, ?_⟩
  rw [rngD_map]
  refine comp_filtM (fun k : Nat => K.any fun e => decide ((k : Int) ∈ e.1)) (fun k => .int ((k : Nat) : Int)) (fun k hk R' r => ?_) (by rw [sizeLine_eq]; decide) ?_
  · simp
    refine ⟨_, rfl, ?_⟩
    rw [keysN]
    refine comp_filtM (fun e : List Int × Nat => decide ((k : Int) ∈ e.1)) (fun e => intsT e.1) (fun e he R'' r' => ?_) (by rw [sizeLine_eq]; omega) ?_
    · simp [intsT]
      refine in_ints ?_
      by_cases c : (k : Int) ∈ e.1
      · simp [c] at r' ⊢; exact r'
      · simp [c] at r' ⊢; exact r'
    · refine ne_nil (shaped_of (shD_list (n := 1) fun x hx => ?_)) ?_
      · obtain ⟨e, _, rfl⟩ := List.mem_map.mp hx
        exact shD_st
      · have e : (!((K.filter fun e => decide ((k : Int) ∈ e.1)).map fun e => intsT e.1).isEmpty) = K.any fun e => decide ((k : Int) ∈ e.1) := by
          rw [Bool.eq_iff_iff]
          simp
        rw [e]
        by_cases c : (K.any fun e => decide ((k : Int) ∈ e.1)) = true
        · rw [if_pos c] at r ⊢; exact r
        · rw [if_neg c] at r ⊢; exact r
  rw [range_ints]
  generalize hLd : ((List.range 13).filter fun k : Nat => K.any fun e => decide ((k : Int) ∈ e.1)).map (fun k : Nat => (k : Int)) = L
  have hL : Gl rs v L := by
    subst hLd
    refine ⟨?_, fun k => ?_⟩
    · unfold K17.Rise
      rw [List.pairwise_map]
      refine ((List.pairwise_lt_range (n := 13)).sublist List.filter_sublist).imp fun {a b} h => ?_
      omega
    · simp only [List.mem_map, List.mem_filter, List.mem_range, List.any_eq_true, decide_eq_true_eq]
      constructor
      · rintro ⟨a, ⟨_, e, he, hk⟩, rfl⟩
        exact ⟨e.2, e.1, (hK.dist e he).1, hk⟩
      · rintro ⟨n, w, hw, hk⟩
        obtain ⟨e, he, rfl⟩ := List.mem_map.mp (hK.all w ⟨n, hw⟩)
        have := (K25.walk_st R S hw).lim R k hk
        exact ⟨k.toNat, ⟨by omega, e, he, by have : (k.toNat : Int) = k := by omega
                                             rw [this]; exact hk⟩, by omega⟩
  have hLl : L.length ≤ 13 := by
    rw [← hLd, List.length_map]
    exact Nat.le_trans (List.length_filter_le _ _) (by simp)
  clear hLd
  simp [law_r4]
  refine ⟨_, _, rfl, sx_ok R S, fun _ E hE => ?_⟩
  rw [rdL_ints, rdL_ints] at hE
  have e1 : (dkN K).length = E.length := by
    have := hE.full.length_eq hK
    rw [List.length_map] at this
    unfold dkN
    rw [List.length_map, this]
  rw [e1]
  refine alike_use plain_int ?_
  simp
  refine ⟨_, _, rfl, sx_ok R S, fun _ L' hL' => ?_⟩
  rw [rdL_ints, rdL_ints] at hL'
  rw [gl_eq hL' hL]
  refine alike_use (plain_tuple (by rw [List.length_map, sizeLine_eq]; omega) plain_ints) ?_
  rw [lwA_for]
  simp
  refine ⟨⟨by omega, by omega⟩, ?_⟩
  rw [rngD_map]
  refine loop_runM (fun i ρ => ∃ x8 x9 x10 x11 x12 x13 x14 x15 x16 x17 x18 x19, ρ = lwE rs v K L x8 x9 x10 x11 x12 x13 x14 x15 x16 x17 x18 x19) ⟨none, none, none, none, none, none, none, none, none, none, none, none, rfl⟩ ?_ ?_
  · rintro i k ρ P hi ⟨x8, x9, x10, x11, x12, x13, x14, x15, x16, x17, x18, x19, rfl⟩ hP
    exact turn_ok R S hK hL hLl hE fun x9 x10 x11 x12 x13 x14 x15 x16 x17 x18 x19 => hP _ ⟨_, _, _, _, _, _, _, _, _, _, _, _, rfl⟩
  · rintro ρ ⟨x8, x9, x10, x11, x12, x13, x14, x15, x16, x17, x18, x19, rfl⟩
    simp [law_r6]
    exact ⟨rs, v, R, S, rfl, rfl⟩
theorem plain_law : law_w { nx := fun _ => False, rt := fun d => d = .bool true, ex := noX } (none :: some .row :: List.replicate 18 none) := by
  rw [law_r]
  simp [law_r0]
  refine taken_use (by omega) (by omega) fun n hn0 hn1 => ?_
  simp
  refine ⟨⟨by omega, by omega⟩, ?_⟩
  refine comp_any (fun d => ∃ l : Int, d = .int l ∧ 1 ≤ l ∧ l ≤ 12) (fun j hj R hR => ?_) (by simp; rw [sizeLine_eq]; omega) fun ys hys hP => ?_
  · simp
    refine pick_use (by simp) (by simp) fun m hm => ?_
    have : ∃ i : Int, m = .int i ∧ 0 < i ∧ i ≤ 12 := by
      simp only [List.mem_cons, List.not_mem_nil, or_false] at hm
      rcases hm with rfl | rfl | rfl
      · exact ⟨_, rfl, by omega, by omega⟩
      · exact ⟨_, rfl, by omega, by omega⟩
      · exact ⟨_, rfl, by omega, by omega⟩
    obtain ⟨i, rfl, h0, h1⟩ := this
    exact taken_use (by omega) (by omega) fun r hr0 hr1 => hR _ ⟨1 + r, rfl, by omega, by omega⟩
  obtain ⟨rs, rfl, hr⟩ := ints_of hP
  have hrl : 1 ≤ rs.length ∧ rs.length ≤ 3 := by simp at hys; omega
  have R : Rm rs := ⟨hrl.1, hrl.2, hr⟩
  simp [law_r1]
  refine ⟨_, rfl, ?_⟩
  refine comp_rel (fun (r : Int) d => ∃ l : Int, d = .int l ∧ 0 ≤ l ∧ l ≤ r) (fun k hk R' hR => ?_) (by rw [sizeLine_eq]; simp; omega) fun ys hys hP => ?_
  · have hk1 := hr k hk
    simp
    refine taken_use (by omega) (by omega) fun x hx0 hx1 => ?_
    refine pick_use (by simp) (by simp) fun d hd => ?_
    simp only [List.mem_cons, List.not_mem_nil, or_false] at hd
    rcases hd with rfl | rfl | rfl
    · exact hR _ ⟨_, rfl, by omega, by omega⟩
    · exact hR _ ⟨_, rfl, by omega, by omega⟩
    · exact hR _ ⟨_, rfl, by omega, by omega⟩
  obtain ⟨v, rfl, S⟩ : ∃ v : List Int, ys = v.map .int ∧ St rs v := by
    obtain ⟨v, rfl⟩ : ∃ v : List Int, ys = v.map .int := ⟨ys.map rdI, by
      rw [List.map_map]
      refine ((List.map_congr_left fun y hy => ?_).trans (List.map_id ys)).symm
      obtain ⟨i, hi, e⟩ := List.getElem_of_mem hy
      obtain ⟨l, e2, _⟩ := hP i (rs.getD i 0) y (getD_at (by omega)) (by rw [List.getElem?_eq_getElem hi, e])
      rw [e2]; rfl⟩
    rw [List.length_map] at hys
    refine ⟨v, rfl, hys, fun k hk => ?_⟩
    obtain ⟨l, e, h0, h1⟩ := hP k _ _ (getD_at hk) (ints_get (getD_at (xs := v) (by omega)))
    cases e
    exact ⟨h0, h1⟩
  simp [law_r2]
  refine ⟨rs, v, rfl, R, S, fun K hK => ?_⟩
  exact law_tail R S hK
end DD
set_option maxRecDepth 100000
set_option maxHeartbeats 8000000
namespace DD
open PySem PySem.Spec PyProof.Rows L2 GenW
def top (i : Nat) : Stmt := PySem.Challenge.pw_loadedvan_k25_whole_vessels.main.body.getD i (.Pass ⟨0, 0, 0, 0⟩)
abbrev st_is_number : Stmt := top 5
abbrev ps_is_number : List Str := ["value", "low", "high"]
abbrev st_check : Stmt := top 6
abbrev ps_check : List Str := ["is_right", "name"]
abbrev st_are_numbers : Stmt := top 7
abbrev ps_are_numbers : List Str := ["value", "many", "low", "high"]
abbrev st_check_rooms : Stmt := top 13
abbrev ps_check_rooms : List Str := ["rooms"]
abbrev st_check_state : Stmt := top 14
abbrev ps_check_state : List Str := ["rooms", "state"]
abbrev st_deeds_of : Stmt := top 15
abbrev ps_deeds_of : List Str := ["rooms"]
abbrev st_behind : Stmt := top 16
abbrev ps_behind : List Str := ["rooms", "state", "deed"]
abbrev st_all_reached : Stmt := top 17
abbrev ps_all_reached : List Str := ["rooms", "state"]
abbrev st_many_states : Stmt := top 18
abbrev ps_many_states : List Str := ["rooms", "state"]
abbrev st_first_with : Stmt := top 19
abbrev ps_first_with : List Str := ["rooms", "state", "goal"]
abbrev st_fewest_deeds : Stmt := top 20
abbrev ps_fewest_deeds : List Str := ["rooms", "state", "goal"]
abbrev st_deeds : Stmt := top 21
abbrev ps_deeds : List Str := ["rooms", "state", "goal"]
abbrev st_is_deed : Stmt := top 23
abbrev ps_is_deed : List Str := ["rooms", "value"]
abbrev st_are_steps : Stmt := top 22
abbrev ps_are_steps : List Str := ["rooms", "value"]
abbrev st_after_deeds : Stmt := top 24
abbrev ps_after_deeds : List Str := ["rooms", "state", "steps"]
abbrev st_are_deeds : Stmt := top 25
abbrev ps_are_deeds : List Str := ["rooms", "state", "goal", "value"]
abbrev st_goals : Stmt := top 26
abbrev ps_goals : List Str := ["rooms", "state"]
abbrev st__law_taken : Stmt := top 28
abbrev ps__law_taken : List Str := ["row", "many"]
abbrev st__law_pick : Stmt := top 29
abbrev ps__law_pick : List Str := ["row", "some"]
abbrev st__law_behind : Stmt := top 30
abbrev ps__law_behind : List Str := ["rooms", "state", "deed"]
abbrev st__law_levels : Stmt := top 31
abbrev ps__law_levels : List Str := ["rooms", "state"]
abbrev st__law_alike : Stmt := top 32
abbrev ps__law_alike : List Str := ["found", "due"]
abbrev st__law_are_deeds : Stmt := top 33
abbrev ps__law_are_deeds : List Str := ["rooms", "value"]
abbrev st__law_heard : Stmt := top 34
abbrev ps__law_heard : List Str := ["ask"]
abbrev st__law_refused : Stmt := top 35
abbrev ps__law_refused : List Str := ["row", "rooms", "state"]
abbrev st_law : Stmt := top 36
abbrev ps_law : List Str := ["script"]
abbrev QT_is_number : Str := "is_number" ++ ".<locals>." ++ "<lambda>"
abbrev QT_check : Str := "check" ++ ".<locals>." ++ "<lambda>"
abbrev QT_are_numbers : Str := "are_numbers" ++ ".<locals>." ++ "<lambda>"
abbrev QT_check_rooms : Str := "check_rooms" ++ ".<locals>." ++ "<lambda>"
abbrev QT_check_state : Str := "check_state" ++ ".<locals>." ++ "<lambda>"
abbrev QT_deeds_of : Str := "deeds_of" ++ ".<locals>." ++ "<lambda>"
abbrev QT_behind : Str := "behind" ++ ".<locals>." ++ "<lambda>"
abbrev QT_all_reached : Str := "all_reached" ++ ".<locals>." ++ "<lambda>"
abbrev QT_many_states : Str := "many_states" ++ ".<locals>." ++ "<lambda>"
abbrev QT_first_with : Str := "first_with" ++ ".<locals>." ++ "<lambda>"
abbrev QT_fewest_deeds : Str := "fewest_deeds" ++ ".<locals>." ++ "<lambda>"
abbrev QT_deeds : Str := "deeds" ++ ".<locals>." ++ "<lambda>"
abbrev QT_is_deed : Str := "is_deed" ++ ".<locals>." ++ "<lambda>"
abbrev QT_are_steps : Str := "are_steps" ++ ".<locals>." ++ "<lambda>"
abbrev QT_after_deeds : Str := "after_deeds" ++ ".<locals>." ++ "<lambda>"
abbrev QT_are_deeds : Str := "are_deeds" ++ ".<locals>." ++ "<lambda>"
abbrev QT_goals : Str := "goals" ++ ".<locals>." ++ "<lambda>"
abbrev QT__law_taken : Str := "_law_taken" ++ ".<locals>." ++ "<lambda>"
abbrev QT__law_pick : Str := "_law_pick" ++ ".<locals>." ++ "<lambda>"
abbrev QT__law_behind : Str := "_law_behind" ++ ".<locals>." ++ "<lambda>"
abbrev QT__law_levels : Str := "_law_levels" ++ ".<locals>." ++ "<lambda>"
abbrev QT__law_alike : Str := "_law_alike" ++ ".<locals>." ++ "<lambda>"
abbrev QT__law_are_deeds : Str := "_law_are_deeds" ++ ".<locals>." ++ "<lambda>"
abbrev QT__law_heard : Str := "_law_heard" ++ ".<locals>." ++ "<lambda>"
abbrev QT__law_refused : Str := "_law_refused" ++ ".<locals>." ++ "<lambda>"
abbrev QT_law : Str := "law" ++ ".<locals>." ++ "<lambda>"
structure Names (mg : Str → Option Value) : Prop where
  n_all : mg "all" = none
  n_bool : mg "bool" = none
  n_dict : mg "dict" = none
  n_int : mg "int" = none
  n_isinstance : mg "isinstance" = none
  n_len : mg "len" = none
  n_list : mg "list" = none
  n_min : mg "min" = none
  n_range : mg "range" = none
  n_sorted : mg "sorted" = none
  n_str : mg "str" = none
  n_tuple : mg "tuple" = none
  n_zip : mg "zip" = none
  c_EMPTY : ∃ t, mg "EMPTY" = some (.int (-2) t)
  c_FILL : ∃ t, mg "FILL" = some (.int (-1) t)
  c_MOST_ROOM : ∃ t, mg "MOST_ROOM" = some (.int (12) t)
  c_MOST_VESSELS : ∃ t, mg "MOST_VESSELS" = some (.int (3) t)
theorem sc_is_number : FnScope ["value", "low", "high"] ["value", "low", "high"] (defScope st_is_number) := C8.fnScope_by (by decide +kernel)
theorem ok_is_number {P : Program} {w0 : World} {K : PySem.W.Frag} {mg : Str → Option Value} {base : Heap} {S : Par} (hK : S.K = K) (B : Names mg) {f : Addr} {fd : FuncData} {cdv : Value} (F : FunC K "is_number" "is_number" st_is_number f fd cdv)  :
    FnOk P w0 K mg base (L2.CX P w0) 3 f fd ["value", "low", "high"] (SpD S (mkF 3 3 is_number_w)) := by
  refine fn_D F hK sc_is_number fun N0 A outer s H E hr => ?_
  have nd := sc_is_number.nd
  have hx : XP (S.inn N0 H E) (bodyCx P w0 K mg base ["value", "low", "high"] "is_number" st_is_number f cdv A outer s H E) := body_xp (S := S) (N0 := N0) (H := H)
  have lk : Like ((S.inn N0 H E).at K) S := ⟨hK.symm, rfl, rfl, rfl, rfl, rfl, rfl, rfl⟩
  have own_ : PassesOwn (model P w0) (bodyCx P w0 K mg base ["value", "low", "high"] "is_number" st_is_number f cdv A outer s H E).A (bodyCx P w0 K mg base ["value", "low", "high"] "is_number" st_is_number f cdv A outer s H E).env (bodyCx P w0 K mg base ["value", "low", "high"] "is_number" st_is_number f cdv A outer s H E).xe := body_own
  exact (dss_one (ds_ret (de_and (de_isi B.n_isinstance B.n_int boot_int ok_int (DE.b (de_var 0))) (de_and (de_not (DE.b (de_isi B.n_isinstance B.n_bool boot_bool ok_bool (DE.b (de_var 0))))) (de_one (de_chain (op_leA hr.units0) (op_leA hr.units0) c_le c_le (DE.b (de_var 1)) (DE.b (de_var 0)) (DE.b (de_var 2))))))))
theorem sc_check : FnScope ["is_right", "name"] ["is_right", "name"] (defScope st_check) := C8.fnScope_by (by decide +kernel)
theorem ok_check {P : Program} {w0 : World} {K : PySem.W.Frag} {mg : Str → Option Value} {base : Heap} {S : Par} (hK : S.K = K) (B : Names mg) {f : Addr} {fd : FuncData} {cdv : Value} {Cb fI ccb : Addr} (BAD : BadTxt P K mg Cb fI ccb) (hCb : S.cBad = Cb) (F : FunC K "check" "check" st_check f fd cdv)  :
    FnOk P w0 K mg base (L2.CX P w0) 3 f fd ["is_right", "name"] (SpD S (mkF 2 2 check_w)) := by
  refine fn_D F hK sc_check fun N0 A outer s H E hr => ?_
  have nd := sc_check.nd
  have hx : XP (S.inn N0 H E) (bodyCx P w0 K mg base ["is_right", "name"] "check" st_check f cdv A outer s H E) := body_xp (S := S) (N0 := N0) (H := H)
  have lk : Like ((S.inn N0 H E).at K) S := ⟨hK.symm, rfl, rfl, rfl, rfl, rfl, rfl, rfl⟩
  have own_ : PassesOwn (model P w0) (bodyCx P w0 K mg base ["is_right", "name"] "check" st_check f cdv A outer s H E).A (bodyCx P w0 K mg base ["is_right", "name"] "check" st_check f cdv A outer s H E).env (bodyCx P w0 K mg base ["is_right", "name"] "check" st_check f cdv A outer s H E).xe := body_own
  exact (dss_one (ds_if (dt_not (dt_val (DE.b (de_var 0)))) (dss_one (ds_raiseBad rfl BAD hCb hr (takes_of (E := E) rfl rfl rfl rfl) (de_var 1))) dss_nil))
theorem sc_are_numbers : FnScope ["value", "many", "low", "high", "one"] ["value", "many", "low", "high"] (defScope st_are_numbers) := C8.fnScope_by (by decide +kernel)
theorem ok_are_numbers {P : Program} {w0 : World} {K : PySem.W.Frag} {mg : Str → Option Value} {base : Heap} {S : Par} (hK : S.K = K) (B : Names mg) {f : Addr} {fd : FuncData} {cc PP : Addr} (tb : LamX.TabB base mg cc PP) (hPG : PP ∈ S.G) (F : FunC K "are_numbers" "are_numbers" st_are_numbers f fd (.ref cc)) (C_is_number : Cal P w0 K mg base S 3 "is_number" ps_is_number is_number_s) :
    FnOk P w0 K mg base (L2.CX P w0) 6 f fd ["value", "many", "low", "high"] (SpD S (mkF 4 5 are_numbers_w)) := by
  refine fn_D F hK sc_are_numbers fun N0 A outer s H E hr => ?_
  have nd := sc_are_numbers.nd
  have hx : XP (S.inn N0 H E) (bodyCx P w0 K mg base ["value", "many", "low", "high", "one"] "are_numbers" st_are_numbers f (.ref cc) A outer s H E) := body_xp (S := S) (N0 := N0) (H := H)
  have lk : Like ((S.inn N0 H E).at K) S := ⟨hK.symm, rfl, rfl, rfl, rfl, rfl, rfl, rfl⟩
  have own_ : PassesOwn (model P w0) (bodyCx P w0 K mg base ["value", "many", "low", "high", "one"] "are_numbers" st_are_numbers f (.ref cc) A outer s H E).A (bodyCx P w0 K mg base ["value", "many", "low", "high", "one"] "are_numbers" st_are_numbers f (.ref cc) A outer s H E).env (bodyCx P w0 K mg base ["value", "many", "low", "high", "one"] "are_numbers" st_are_numbers f (.ref cc) A outer s H E).xe := body_own
  exact (dss_one (ds_ret (de_and (de_isi B.n_isinstance B.n_tuple boot_tuple ok_tuple (DE.b (de_var 0))) (de_and (de_cmp (op_eqD hr.units) c_eq (DE.b (de_callB call_lenB n_lenB B.n_len boot_len (dbs_cons (DE.b (de_var 0)) dbs_nil))) (DE.b (de_var 1))) (de_one (de_all (gp (own := [("one", 4)]) nd lk tb hPG hr (di_seqB (DB.h (DE.b (de_var 0)))) (fun _ _ _ _ _ _ _ => (dg_name 4 nd)) (fun _ _ _ _ _ _ _ hr hx lk => dts_nil) (fun _ _ _ _ _ _ _ hr hx lk => (de_callC C_is_number lk hr hx (dws_cons (de_var 4) (dws_cons (de_var 2) (dws_cons (de_var 3) dws_nil)))))) B.n_all))))))
theorem sc_check_rooms : FnScope ["rooms", "right"] ["rooms"] (defScope st_check_rooms) := C8.fnScope_by (by decide +kernel)
theorem ok_check_rooms {P : Program} {w0 : World} {K : PySem.W.Frag} {mg : Str → Option Value} {base : Heap} {S : Par} (hK : S.K = K) (B : Names mg) {f : Addr} {fd : FuncData} {cdv : Value} (F : FunC K "check_rooms" "check_rooms" st_check_rooms f fd cdv) (C_are_numbers : Cal P w0 K mg base S 6 "are_numbers" ps_are_numbers are_numbers_s) (C_check : Cal P w0 K mg base S 3 "check" ps_check check_s) :
    FnOk P w0 K mg base (L2.CX P w0) 7 f fd ["rooms"] (SpD S (mkF 1 2 check_rooms_w)) := by
  refine fn_D F hK sc_check_rooms fun N0 A outer s H E hr => ?_
  have nd := sc_check_rooms.nd
  have hx : XP (S.inn N0 H E) (bodyCx P w0 K mg base ["rooms", "right"] "check_rooms" st_check_rooms f cdv A outer s H E) := body_xp (S := S) (N0 := N0) (H := H)
  have lk : Like ((S.inn N0 H E).at K) S := ⟨hK.symm, rfl, rfl, rfl, rfl, rfl, rfl, rfl⟩
  have own_ : PassesOwn (model P w0) (bodyCx P w0 K mg base ["rooms", "right"] "check_rooms" st_check_rooms f cdv A outer s H E).A (bodyCx P w0 K mg base ["rooms", "right"] "check_rooms" st_check_rooms f cdv A outer s H E).env (bodyCx P w0 K mg base ["rooms", "right"] "check_rooms" st_check_rooms f cdv A outer s H E).xe := body_own
  exact (dss_cons (ds_set 1 (de_and (de_isi B.n_isinstance B.n_tuple boot_tuple ok_tuple (DE.b (de_var 0))) (de_one (de_chain (op_leA hr.units0) (op_leA hr.units0) c_le c_le (DE.b de_int) (DE.b (de_callB call_lenB n_lenB B.n_len boot_len (dbs_cons (DE.b (de_var 0)) dbs_nil))) (DE.b (de_globI B.c_MOST_VESSELS))))) nd) (dss_one (ds_expr (DE.b (de_callC C_check lk hr hx (dws_cons (de_and (de_var 1) (de_one (de_callC C_are_numbers lk hr hx (dws_cons (de_var 0) (dws_cons (de_callB call_lenB n_lenB B.n_len boot_len (dbs_cons (DE.b (de_var 0)) dbs_nil)) (dws_cons de_int (dws_cons (de_globI B.c_MOST_ROOM) dws_nil))))))) (dws_cons de_str dws_nil)))))))
theorem sc_check_state : FnScope ["rooms", "state", "right", "own", "room"] ["rooms", "state"] (defScope st_check_state) := C8.fnScope_by (by decide +kernel)
theorem ok_check_state {P : Program} {w0 : World} {K : PySem.W.Frag} {mg : Str → Option Value} {base : Heap} {S : Par} (hK : S.K = K) (B : Names mg) {f : Addr} {fd : FuncData} {cc PP : Addr} (tb : LamX.TabB base mg cc PP) (hPG : PP ∈ S.G) (F : FunC K "check_state" "check_state" st_check_state f fd (.ref cc)) (C_are_numbers : Cal P w0 K mg base S 6 "are_numbers" ps_are_numbers are_numbers_s) (C_check : Cal P w0 K mg base S 3 "check" ps_check check_s) (C_check_rooms : Cal P w0 K mg base S 7 "check_rooms" ps_check_rooms check_rooms_s) :
    FnOk P w0 K mg base (L2.CX P w0) 10 f fd ["rooms", "state"] (SpD S (mkF 2 5 check_state_w)) := by
  refine fn_D F hK sc_check_state fun N0 A outer s H E hr => ?_
  have nd := sc_check_state.nd
  have hx : XP (S.inn N0 H E) (bodyCx P w0 K mg base ["rooms", "state", "right", "own", "room"] "check_state" st_check_state f (.ref cc) A outer s H E) := body_xp (S := S) (N0 := N0) (H := H)
  have lk : Like ((S.inn N0 H E).at K) S := ⟨hK.symm, rfl, rfl, rfl, rfl, rfl, rfl, rfl⟩
  have own_ : PassesOwn (model P w0) (bodyCx P w0 K mg base ["rooms", "state", "right", "own", "room"] "check_state" st_check_state f (.ref cc) A outer s H E).A (bodyCx P w0 K mg base ["rooms", "state", "right", "own", "room"] "check_state" st_check_state f (.ref cc) A outer s H E).env (bodyCx P w0 K mg base ["rooms", "state", "right", "own", "room"] "check_state" st_check_state f (.ref cc) A outer s H E).xe := body_own
  exact (dss_cons (ds_expr (DE.b (de_callC C_check_rooms lk hr hx (dws_cons (de_var 0) dws_nil)))) (dss_cons (ds_set 2 (de_callC C_are_numbers lk hr hx (dws_cons (de_var 1) (dws_cons (de_callB call_lenB n_lenB B.n_len boot_len (dbs_cons (DE.b (de_var 0)) dbs_nil)) (dws_cons de_int (dws_cons (de_globI B.c_MOST_ROOM) dws_nil))))) nd) (dss_one (ds_expr (DE.b (de_callC C_check lk hr hx (dws_cons (de_and (de_var 2) (de_one (de_all (gp (own := [("own", 3), ("room", 4)]) nd lk tb hPG hr (di_zip B.n_zip (DB.h (DE.b (de_var 1))) (DB.h (DE.b (de_var 0)))) (fun _ _ _ _ _ _ _ => (dg_tup rfl (dgs_cons (dg_name 3 nd) (dgs_cons (dg_name 4 nd) dgs_nil)))) (fun _ _ _ _ _ _ _ hr hx lk => dts_nil) (fun _ _ _ _ _ _ _ hr hx lk => (de_cmp (op_leA hr.units0) c_le (DE.b (de_var 3)) (DE.b (de_var 4))))) B.n_all))) (dws_cons de_str dws_nil))))))))
theorem sc_deeds_of : FnScope ["rooms", "found", "one", "other"] ["rooms"] (defScope st_deeds_of) := C8.fnScope_by (by decide +kernel)
theorem ok_deeds_of {P : Program} {w0 : World} {K : PySem.W.Frag} {mg : Str → Option Value} {base : Heap} {S : Par} (hK : S.K = K) (B : Names mg) {f : Addr} {fd : FuncData} {cdv : Value} (F : FunC K "deeds_of" "deeds_of" st_deeds_of f fd cdv)  :
    FnOk P w0 K mg base (L2.CX P w0) 3 f fd ["rooms"] (SpD S (mkF 1 4 deeds_of_w)) := by
  refine fn_D F hK sc_deeds_of fun N0 A outer s H E hr => ?_
  have nd := sc_deeds_of.nd
  have hx : XP (S.inn N0 H E) (bodyCx P w0 K mg base ["rooms", "found", "one", "other"] "deeds_of" st_deeds_of f cdv A outer s H E) := body_xp (S := S) (N0 := N0) (H := H)
  have lk : Like ((S.inn N0 H E).at K) S := ⟨hK.symm, rfl, rfl, rfl, rfl, rfl, rfl, rfl⟩
  have own_ : PassesOwn (model P w0) (bodyCx P w0 K mg base ["rooms", "found", "one", "other"] "deeds_of" st_deeds_of f cdv A outer s H E).A (bodyCx P w0 K mg base ["rooms", "found", "one", "other"] "deeds_of" st_deeds_of f cdv A outer s H E).env (bodyCx P w0 K mg base ["rooms", "found", "one", "other"] "deeds_of" st_deeds_of f cdv A outer s H E).xe := body_own
  exact (dss_cons (ds_setO 1 (df_lst an_nil) nd) (dss_cons (ds_for own_ rfl (di_rng1 B.n_range (DE.b (de_callB call_lenB n_lenB B.n_len boot_len (dbs_cons (DE.b (de_var 0)) dbs_nil)))) (dg_name 2 nd) (dss_cons (ds_ext 1 (DF.e (df_lst (an_cons (de_tup (an_cons (de_var 2) (an_cons (de_globI B.c_FILL) an_nil))) (an_cons (de_tup (an_cons (de_var 2) (an_cons (de_globI B.c_EMPTY) an_nil))) an_nil))))) (dss_one (ds_ext 1 (DF.e (df_lc (lp (own := [("other", 3)]) nd lk (di_rng1 B.n_range (DE.b (de_callB call_lenB n_lenB B.n_len boot_len (dbs_cons (DE.b (de_var 0)) dbs_nil)))) (fun _ _ _ _ _ => (dg_name 3 nd)) (fun _ _ _ _ _ hx lk => (dts_one (dt_cmp (op_neD hr.units) c_ne (DE.b (de_var 3)) (DE.b (de_var 2))))) (fun _ _ _ _ _ hx lk => (de_tup (an_cons (de_var 2) (an_cons (de_var 3) an_nil))))))))))) (dss_one (ds_frz 1 (ds_ret (de_var 1))))))
theorem sc_behind : FnScope ["rooms", "state", "deed", "one", "what", "found", "much"] ["rooms", "state", "deed"] (defScope st_behind) := C8.fnScope_by (by decide +kernel)
theorem ok_behind {P : Program} {w0 : World} {K : PySem.W.Frag} {mg : Str → Option Value} {base : Heap} {S : Par} (hK : S.K = K) (B : Names mg) {f : Addr} {fd : FuncData} {cdv : Value} (F : FunC K "behind" "behind" st_behind f fd cdv)  :
    FnOk P w0 K mg base (L2.CX P w0) 3 f fd ["rooms", "state", "deed"] (SpD S (mkF 3 7 behind_w)) := by
  refine fn_D F hK sc_behind fun N0 A outer s H E hr => ?_
  have nd := sc_behind.nd
  have hx : XP (S.inn N0 H E) (bodyCx P w0 K mg base ["rooms", "state", "deed", "one", "what", "found", "much"] "behind" st_behind f cdv A outer s H E) := body_xp (S := S) (N0 := N0) (H := H)
  have lk : Like ((S.inn N0 H E).at K) S := ⟨hK.symm, rfl, rfl, rfl, rfl, rfl, rfl, rfl⟩
  have own_ : PassesOwn (model P w0) (bodyCx P w0 K mg base ["rooms", "state", "deed", "one", "what", "found", "much"] "behind" st_behind f cdv A outer s H E).A (bodyCx P w0 K mg base ["rooms", "state", "deed", "one", "what", "found", "much"] "behind" st_behind f cdv A outer s H E).env (bodyCx P w0 K mg base ["rooms", "state", "deed", "one", "what", "found", "much"] "behind" st_behind f cdv A outer s H E).xe := body_own
  exact (dss_cons (ds_asg (de_var 2) (dg_tup rfl (dgs_cons (dg_name 3 nd) (dgs_cons (dg_name 4 nd) dgs_nil)))) (dss_cons (ds_setO 5 (df_callTy call_list_of n_listOf B.n_list boot_list (dbs_cons (DE.b (de_var 1)) dbs_nil)) nd) (dss_cons (ds_if (dt_cmp (op_eqD hr.units) c_eq (DE.b (de_var 4)) (DE.b (de_globI B.c_FILL))) (dss_one (ds_put 5 (de_ix (ix_B (hu65 hr)) o_ixB (DE.b (de_var 0)) (DE.b (de_var 3))) (de_var 3))) (dss_one (ds_if (dt_cmp (op_eqD hr.units) c_eq (DE.b (de_var 4)) (DE.b (de_globI B.c_EMPTY))) (dss_one (ds_put 5 de_int (de_var 3))) (dss_cons (ds_set 6 (de_callB (call_min2 rfl) n_min2 B.n_min boot_min (dbs_cons (DE.b (de_ix (ix_B (hu65 hr)) o_ixB (DE.b (de_var 1)) (DE.b (de_var 3)))) (dbs_cons (DE.b (de_op op_sub o_int0 (DE.b (de_ix (ix_B (hu65 hr)) o_ixB (DE.b (de_var 0)) (DE.b (de_var 4)))) (DE.b (de_ix (ix_B (hu65 hr)) o_ixB (DE.b (de_var 1)) (DE.b (de_var 4)))))) dbs_nil))) nd) (dss_cons (ds_augS 5 ip_subI (DE.b (de_var 6)) (de_var 3)) (dss_one (ds_augS 5 ip_addI (DE.b (de_var 6)) (de_var 4)))))))) (dss_one (ds_ret (de_callTy call_tuple_of n_tupleOf B.n_tuple boot_tuple (dbs_cons (db_own 5) dbs_nil)))))))
theorem sc_all_reached : FnScope ["rooms", "state", "known", "rows", "at", "deed", "later"] ["rooms", "state"] (defScope st_all_reached) := C8.fnScope_by (by decide +kernel)
theorem ok_all_reached {P : Program} {w0 : World} {K : PySem.W.Frag} {mg : Str → Option Value} {base : Heap} {S : Par} (hK : S.K = K) (B : Names mg) {f : Addr} {fd : FuncData} {cdv : Value} (F : FunC K "all_reached" "all_reached" st_all_reached f fd cdv) (C_behind : Cal P w0 K mg base S 3 "behind" ps_behind behind_s) (C_deeds_of : Cal P w0 K mg base S 3 "deeds_of" ps_deeds_of deeds_of_s) :
    FnOk P w0 K mg base (L2.CX P w0) 4 f fd ["rooms", "state"] (SpD S (mkF 2 7 all_reached_w)) := by
  refine fn_D F hK sc_all_reached fun N0 A outer s H E hr => ?_
  have nd := sc_all_reached.nd
  have hx : XP (S.inn N0 H E) (bodyCx P w0 K mg base ["rooms", "state", "known", "rows", "at", "deed", "later"] "all_reached" st_all_reached f cdv A outer s H E) := body_xp (S := S) (N0 := N0) (H := H)
  have lk : Like ((S.inn N0 H E).at K) S := ⟨hK.symm, rfl, rfl, rfl, rfl, rfl, rfl, rfl⟩
  have own_ : PassesOwn (model P w0) (bodyCx P w0 K mg base ["rooms", "state", "known", "rows", "at", "deed", "later"] "all_reached" st_all_reached f cdv A outer s H E).A (bodyCx P w0 K mg base ["rooms", "state", "known", "rows", "at", "deed", "later"] "all_reached" st_all_reached f cdv A outer s H E).env (bodyCx P w0 K mg base ["rooms", "state", "known", "rows", "at", "deed", "later"] "all_reached" st_all_reached f cdv A outer s H E).xe := body_own
  exact (dss_cons (ds_setO 2 (df_d1 true (hu65 hr) (de_var 1) (de_tup (an_cons de_non (an_cons de_non (an_cons de_int an_nil))))) nd) (dss_cons (ds_setO 3 (df_lst (an_cons (de_var 1) an_nil)) nd) (dss_cons (ds_set 4 de_int nd) (dss_cons (ds_while own_ (dt_cmp (op_ltA hr.units0) c_lt (DE.b (de_var 4)) (DE.b (de_callB call_lenB n_lenB B.n_len boot_len (dbs_cons (db_own 3) dbs_nil)))) (dss_cons (ds_for own_ rfl (di_seqB (DE.h (de_callC C_deeds_of lk hr hx (dws_cons (de_var 0) dws_nil)))) (dg_name 5 nd) (dss_cons (ds_set 6 (de_callC C_behind lk hr hx (dws_cons (de_var 0) (dws_cons (de_ix (ix_B (hu65 hr)) o_ixB (db_own 3) (DE.b (de_var 4))) (dws_cons (de_var 5) dws_nil)))) nd) (dss_one (ds_if (dt_cmp (op_notInB (hu65 hr)) c_notInB (DE.b (de_var 6)) (db_own 2)) (dss_cons (ds_putD 2 (hu65 hr) (de_tup (an_cons (de_ix (ix_B (hu65 hr)) o_ixB (db_own 3) (DE.b (de_var 4))) (an_cons (de_var 5) (an_cons (de_op op_addA o_add (DE.b (de_ix (ix_B (hu65 hr)) o_ixB (DE.b (de_ix (ix_B (hu65 hr)) o_ixB (db_own 2) (DE.b (de_ix (ix_B (hu65 hr)) o_ixB (db_own 3) (DE.b (de_var 4)))))) (DE.b de_int))) (DE.b de_int)) an_nil)))) (de_var 6)) (dss_one (ds_app 3 (de_var 6)))) dss_nil)))) (dss_one (ds_aug 4 ip_addI (DE.b de_int) nd)))) (dss_one (ds_frz 2 (ds_ret (de_var 2))))))))
theorem sc_many_states : FnScope ["rooms", "state"] ["rooms", "state"] (defScope st_many_states) := C8.fnScope_by (by decide +kernel)
theorem ok_many_states {P : Program} {w0 : World} {K : PySem.W.Frag} {mg : Str → Option Value} {base : Heap} {S : Par} (hK : S.K = K) (B : Names mg) {f : Addr} {fd : FuncData} {cdv : Value} (F : FunC K "many_states" "many_states" st_many_states f fd cdv) (C_all_reached : Cal P w0 K mg base S 4 "all_reached" ps_all_reached all_reached_s) (C_check_state : Cal P w0 K mg base S 10 "check_state" ps_check_state check_state_s) :
    FnOk P w0 K mg base (L2.CX P w0) 11 f fd ["rooms", "state"] (SpD S (mkF 2 2 many_states_w)) := by
  refine fn_D F hK sc_many_states fun N0 A outer s H E hr => ?_
  have nd := sc_many_states.nd
  have hx : XP (S.inn N0 H E) (bodyCx P w0 K mg base ["rooms", "state"] "many_states" st_many_states f cdv A outer s H E) := body_xp (S := S) (N0 := N0) (H := H)
  have lk : Like ((S.inn N0 H E).at K) S := ⟨hK.symm, rfl, rfl, rfl, rfl, rfl, rfl, rfl⟩
  have own_ : PassesOwn (model P w0) (bodyCx P w0 K mg base ["rooms", "state"] "many_states" st_many_states f cdv A outer s H E).A (bodyCx P w0 K mg base ["rooms", "state"] "many_states" st_many_states f cdv A outer s H E).env (bodyCx P w0 K mg base ["rooms", "state"] "many_states" st_many_states f cdv A outer s H E).xe := body_own
  exact (dss_cons (ds_expr (DE.b (de_callC C_check_state lk hr hx (dws_cons (de_var 0) (dws_cons (de_var 1) dws_nil))))) (dss_one (ds_ret (de_callB call_lenB n_lenB B.n_len boot_len (dbs_cons (DE.b (de_callC C_all_reached lk hr hx (dws_cons (de_var 0) (dws_cons (de_var 1) dws_nil)))) dbs_nil)))))
theorem sc_first_with : FnScope ["rooms", "state", "goal", "known", "own"] ["rooms", "state", "goal"] (defScope st_first_with) := C8.fnScope_by (by decide +kernel)
theorem ok_first_with {P : Program} {w0 : World} {K : PySem.W.Frag} {mg : Str → Option Value} {base : Heap} {S : Par} (hK : S.K = K) (B : Names mg) {f : Addr} {fd : FuncData} {cdv : Value} (F : FunC K "first_with" "first_with" st_first_with f fd cdv) (C_all_reached : Cal P w0 K mg base S 4 "all_reached" ps_all_reached all_reached_s) (C_check : Cal P w0 K mg base S 3 "check" ps_check check_s) (C_check_state : Cal P w0 K mg base S 10 "check_state" ps_check_state check_state_s) (C_is_number : Cal P w0 K mg base S 3 "is_number" ps_is_number is_number_s) :
    FnOk P w0 K mg base (L2.CX P w0) 11 f fd ["rooms", "state", "goal"] (SpD S (mkF 3 5 first_with_w)) := by
  refine fn_D F hK sc_first_with fun N0 A outer s H E hr => ?_
  have nd := sc_first_with.nd
  have hx : XP (S.inn N0 H E) (bodyCx P w0 K mg base ["rooms", "state", "goal", "known", "own"] "first_with" st_first_with f cdv A outer s H E) := body_xp (S := S) (N0 := N0) (H := H)
  have lk : Like ((S.inn N0 H E).at K) S := ⟨hK.symm, rfl, rfl, rfl, rfl, rfl, rfl, rfl⟩
  have own_ : PassesOwn (model P w0) (bodyCx P w0 K mg base ["rooms", "state", "goal", "known", "own"] "first_with" st_first_with f cdv A outer s H E).A (bodyCx P w0 K mg base ["rooms", "state", "goal", "known", "own"] "first_with" st_first_with f cdv A outer s H E).env (bodyCx P w0 K mg base ["rooms", "state", "goal", "known", "own"] "first_with" st_first_with f cdv A outer s H E).xe := body_own
  exact (dss_cons (ds_expr (DE.b (de_callC C_check_state lk hr hx (dws_cons (de_var 0) (dws_cons (de_var 1) dws_nil))))) (dss_cons (ds_expr (DE.b (de_callC C_check lk hr hx (dws_cons (de_callC C_is_number lk hr hx (dws_cons (de_var 2) (dws_cons de_int (dws_cons (de_globI B.c_MOST_ROOM) dws_nil)))) (dws_cons de_str dws_nil))))) (dss_cons (ds_set 3 (de_callC C_all_reached lk hr hx (dws_cons (de_var 0) (dws_cons (de_var 1) dws_nil))) nd) (dss_cons (ds_for own_ rfl (di_seqB (DE.h (de_var 3))) (dg_name 4 nd) (dss_one (ds_if (dt_cmp (op_inB (hu65 hr)) c_inB (DE.b (de_var 2)) (DE.b (de_var 4))) (dss_one (ds_ret (de_tup (an_cons (de_var 3) (an_cons (de_var 4) an_nil))))) dss_nil))) (dss_one (ds_ret (de_tup (an_cons (de_var 3) (an_cons de_non an_nil)))))))))
theorem sc_fewest_deeds : FnScope ["rooms", "state", "goal", "known", "own"] ["rooms", "state", "goal"] (defScope st_fewest_deeds) := C8.fnScope_by (by decide +kernel)
theorem ok_fewest_deeds {P : Program} {w0 : World} {K : PySem.W.Frag} {mg : Str → Option Value} {base : Heap} {S : Par} (hK : S.K = K) (B : Names mg) {f : Addr} {fd : FuncData} {cdv : Value} (F : FunC K "fewest_deeds" "fewest_deeds" st_fewest_deeds f fd cdv) (C_first_with : Cal P w0 K mg base S 11 "first_with" ps_first_with first_with_s) :
    FnOk P w0 K mg base (L2.CX P w0) 12 f fd ["rooms", "state", "goal"] (SpD S (mkF 3 5 fewest_deeds_w)) := by
  refine fn_D F hK sc_fewest_deeds fun N0 A outer s H E hr => ?_
  have nd := sc_fewest_deeds.nd
  have hx : XP (S.inn N0 H E) (bodyCx P w0 K mg base ["rooms", "state", "goal", "known", "own"] "fewest_deeds" st_fewest_deeds f cdv A outer s H E) := body_xp (S := S) (N0 := N0) (H := H)
  have lk : Like ((S.inn N0 H E).at K) S := ⟨hK.symm, rfl, rfl, rfl, rfl, rfl, rfl, rfl⟩
  have own_ : PassesOwn (model P w0) (bodyCx P w0 K mg base ["rooms", "state", "goal", "known", "own"] "fewest_deeds" st_fewest_deeds f cdv A outer s H E).A (bodyCx P w0 K mg base ["rooms", "state", "goal", "known", "own"] "fewest_deeds" st_fewest_deeds f cdv A outer s H E).env (bodyCx P w0 K mg base ["rooms", "state", "goal", "known", "own"] "fewest_deeds" st_fewest_deeds f cdv A outer s H E).xe := body_own
  exact (dss_cons (ds_asg (de_callC C_first_with lk hr hx (dws_cons (de_var 0) (dws_cons (de_var 1) (dws_cons (de_var 2) dws_nil)))) (dg_tup rfl (dgs_cons (dg_name 3 nd) (dgs_cons (dg_name 4 nd) dgs_nil)))) (dss_one (ds_ret (de_if (dt_cmp op_isN c_isN (DE.b (de_var 4)) (DE.b de_non)) de_non (de_ix (ix_B (hu65 hr)) o_ixB (DE.b (de_ix (ix_B (hu65 hr)) o_ixB (DE.b (de_var 3)) (DE.b (de_var 4)))) (DE.b de_int))))))
theorem sc_deeds : FnScope ["rooms", "state", "goal", "known", "own", "found"] ["rooms", "state", "goal"] (defScope st_deeds) := C8.fnScope_by (by decide +kernel)
theorem ok_deeds {P : Program} {w0 : World} {K : PySem.W.Frag} {mg : Str → Option Value} {base : Heap} {S : Par} (hK : S.K = K) (B : Names mg) {f : Addr} {fd : FuncData} {cdv : Value} (F : FunC K "deeds" "deeds" st_deeds f fd cdv) (C_first_with : Cal P w0 K mg base S 11 "first_with" ps_first_with first_with_s) :
    FnOk P w0 K mg base (L2.CX P w0) 12 f fd ["rooms", "state", "goal"] (SpD S (mkF 3 6 deeds_w)) := by
  refine fn_D F hK sc_deeds fun N0 A outer s H E hr => ?_
  have nd := sc_deeds.nd
  have hx : XP (S.inn N0 H E) (bodyCx P w0 K mg base ["rooms", "state", "goal", "known", "own", "found"] "deeds" st_deeds f cdv A outer s H E) := body_xp (S := S) (N0 := N0) (H := H)
  have lk : Like ((S.inn N0 H E).at K) S := ⟨hK.symm, rfl, rfl, rfl, rfl, rfl, rfl, rfl⟩
  have own_ : PassesOwn (model P w0) (bodyCx P w0 K mg base ["rooms", "state", "goal", "known", "own", "found"] "deeds" st_deeds f cdv A outer s H E).A (bodyCx P w0 K mg base ["rooms", "state", "goal", "known", "own", "found"] "deeds" st_deeds f cdv A outer s H E).env (bodyCx P w0 K mg base ["rooms", "state", "goal", "known", "own", "found"] "deeds" st_deeds f cdv A outer s H E).xe := body_own
  exact (dss_cons (ds_asg (de_callC C_first_with lk hr hx (dws_cons (de_var 0) (dws_cons (de_var 1) (dws_cons (de_var 2) dws_nil)))) (dg_tup rfl (dgs_cons (dg_name 3 nd) (dgs_cons (dg_name 4 nd) dgs_nil)))) (dss_cons (ds_if (dt_cmp op_isN c_isN (DE.b (de_var 4)) (DE.b de_non)) (dss_one (ds_ret de_non)) dss_nil) (dss_cons (ds_setO 5 (df_lst an_nil) nd) (dss_cons (ds_while own_ (dt_cmp op_notN c_notN (DE.b (de_ix (ix_B (hu65 hr)) o_ixB (DE.b (de_ix (ix_B (hu65 hr)) o_ixB (DE.b (de_var 3)) (DE.b (de_var 4)))) (DE.b de_int))) (DE.b de_non)) (dss_cons (ds_app 5 (de_ix (ix_B (hu65 hr)) o_ixB (DE.b (de_ix (ix_B (hu65 hr)) o_ixB (DE.b (de_var 3)) (DE.b (de_var 4)))) (DE.b de_int))) (dss_one (ds_set 4 (de_ix (ix_B (hu65 hr)) o_ixB (DE.b (de_ix (ix_B (hu65 hr)) o_ixB (DE.b (de_var 3)) (DE.b (de_var 4)))) (DE.b de_int)) nd)))) (dss_one (ds_ret (de_callTy call_tuple_of n_tupleOf B.n_tuple boot_tuple (dbs_cons (DE.b (de_revA (db_own 5))) dbs_nil))))))))
theorem sc_is_deed : FnScope ["rooms", "value"] ["rooms", "value"] (defScope st_is_deed) := C8.fnScope_by (by decide +kernel)
theorem ok_is_deed {P : Program} {w0 : World} {K : PySem.W.Frag} {mg : Str → Option Value} {base : Heap} {S : Par} (hK : S.K = K) (B : Names mg) {f : Addr} {fd : FuncData} {cdv : Value} (F : FunC K "is_deed" "is_deed" st_is_deed f fd cdv) (C_are_numbers : Cal P w0 K mg base S 6 "are_numbers" ps_are_numbers are_numbers_s) (C_deeds_of : Cal P w0 K mg base S 3 "deeds_of" ps_deeds_of deeds_of_s) :
    FnOk P w0 K mg base (L2.CX P w0) 7 f fd ["rooms", "value"] (SpD S (mkF 2 2 is_deed_w)) := by
  refine fn_D F hK sc_is_deed fun N0 A outer s H E hr => ?_
  have nd := sc_is_deed.nd
  have hx : XP (S.inn N0 H E) (bodyCx P w0 K mg base ["rooms", "value"] "is_deed" st_is_deed f cdv A outer s H E) := body_xp (S := S) (N0 := N0) (H := H)
  have lk : Like ((S.inn N0 H E).at K) S := ⟨hK.symm, rfl, rfl, rfl, rfl, rfl, rfl, rfl⟩
  have own_ : PassesOwn (model P w0) (bodyCx P w0 K mg base ["rooms", "value"] "is_deed" st_is_deed f cdv A outer s H E).A (bodyCx P w0 K mg base ["rooms", "value"] "is_deed" st_is_deed f cdv A outer s H E).env (bodyCx P w0 K mg base ["rooms", "value"] "is_deed" st_is_deed f cdv A outer s H E).xe := body_own
  exact (dss_one (ds_ret (de_and (de_callC C_are_numbers lk hr hx (dws_cons (de_var 1) (dws_cons de_int (dws_cons (de_globI B.c_EMPTY) (dws_cons (de_globI B.c_MOST_VESSELS) dws_nil))))) (de_one (de_cmp (op_inB (hu65 hr)) c_inB (DE.b (de_var 1)) (DE.b (de_callC C_deeds_of lk hr hx (dws_cons (de_var 0) dws_nil))))))))
theorem sc_are_steps : FnScope ["rooms", "value", "deed"] ["rooms", "value"] (defScope st_are_steps) := C8.fnScope_by (by decide +kernel)
theorem ok_are_steps {P : Program} {w0 : World} {K : PySem.W.Frag} {mg : Str → Option Value} {base : Heap} {S : Par} (hK : S.K = K) (B : Names mg) {f : Addr} {fd : FuncData} {cc PP : Addr} (tb : LamX.TabB base mg cc PP) (hPG : PP ∈ S.G) (F : FunC K "are_steps" "are_steps" st_are_steps f fd (.ref cc)) (C_is_deed : Cal P w0 K mg base S 7 "is_deed" ps_is_deed is_deed_s) :
    FnOk P w0 K mg base (L2.CX P w0) 10 f fd ["rooms", "value"] (SpD S (mkF 2 3 are_steps_w)) := by
  refine fn_D F hK sc_are_steps fun N0 A outer s H E hr => ?_
  have nd := sc_are_steps.nd
  have hx : XP (S.inn N0 H E) (bodyCx P w0 K mg base ["rooms", "value", "deed"] "are_steps" st_are_steps f (.ref cc) A outer s H E) := body_xp (S := S) (N0 := N0) (H := H)
  have lk : Like ((S.inn N0 H E).at K) S := ⟨hK.symm, rfl, rfl, rfl, rfl, rfl, rfl, rfl⟩
  have own_ : PassesOwn (model P w0) (bodyCx P w0 K mg base ["rooms", "value", "deed"] "are_steps" st_are_steps f (.ref cc) A outer s H E).A (bodyCx P w0 K mg base ["rooms", "value", "deed"] "are_steps" st_are_steps f (.ref cc) A outer s H E).env (bodyCx P w0 K mg base ["rooms", "value", "deed"] "are_steps" st_are_steps f (.ref cc) A outer s H E).xe := body_own
  exact (dss_one (ds_ret (de_and (de_isi B.n_isinstance B.n_tuple boot_tuple ok_tuple (DE.b (de_var 1))) (de_one (de_all (gp (own := [("deed", 2)]) nd lk tb hPG hr (di_seqB (DB.h (DE.b (de_var 1)))) (fun _ _ _ _ _ _ _ => (dg_name 2 nd)) (fun _ _ _ _ _ _ _ hr hx lk => dts_nil) (fun _ _ _ _ _ _ _ hr hx lk => (de_callC C_is_deed lk hr hx (dws_cons (de_var 0) (dws_cons (de_var 2) dws_nil))))) B.n_all)))))
theorem sc_after_deeds : FnScope ["rooms", "state", "steps", "here", "deed"] ["rooms", "state", "steps"] (defScope st_after_deeds) := C8.fnScope_by (by decide +kernel)
theorem ok_after_deeds {P : Program} {w0 : World} {K : PySem.W.Frag} {mg : Str → Option Value} {base : Heap} {S : Par} (hK : S.K = K) (B : Names mg) {f : Addr} {fd : FuncData} {cdv : Value} (F : FunC K "after_deeds" "after_deeds" st_after_deeds f fd cdv) (C_are_steps : Cal P w0 K mg base S 10 "are_steps" ps_are_steps are_steps_s) (C_behind : Cal P w0 K mg base S 3 "behind" ps_behind behind_s) (C_check : Cal P w0 K mg base S 3 "check" ps_check check_s) (C_check_state : Cal P w0 K mg base S 10 "check_state" ps_check_state check_state_s) :
    FnOk P w0 K mg base (L2.CX P w0) 11 f fd ["rooms", "state", "steps"] (SpD S (mkF 3 5 after_deeds_w)) := by
  refine fn_D F hK sc_after_deeds fun N0 A outer s H E hr => ?_
  have nd := sc_after_deeds.nd
  have hx : XP (S.inn N0 H E) (bodyCx P w0 K mg base ["rooms", "state", "steps", "here", "deed"] "after_deeds" st_after_deeds f cdv A outer s H E) := body_xp (S := S) (N0 := N0) (H := H)
  have lk : Like ((S.inn N0 H E).at K) S := ⟨hK.symm, rfl, rfl, rfl, rfl, rfl, rfl, rfl⟩
  have own_ : PassesOwn (model P w0) (bodyCx P w0 K mg base ["rooms", "state", "steps", "here", "deed"] "after_deeds" st_after_deeds f cdv A outer s H E).A (bodyCx P w0 K mg base ["rooms", "state", "steps", "here", "deed"] "after_deeds" st_after_deeds f cdv A outer s H E).env (bodyCx P w0 K mg base ["rooms", "state", "steps", "here", "deed"] "after_deeds" st_after_deeds f cdv A outer s H E).xe := body_own
  exact (dss_cons (ds_expr (DE.b (de_callC C_check_state lk hr hx (dws_cons (de_var 0) (dws_cons (de_var 1) dws_nil))))) (dss_cons (ds_expr (DE.b (de_callC C_check lk hr hx (dws_cons (de_callC C_are_steps lk hr hx (dws_cons (de_var 0) (dws_cons (de_var 2) dws_nil))) (dws_cons de_str dws_nil))))) (dss_cons (ds_set 3 (de_var 1) nd) (dss_cons (ds_for own_ rfl (di_seqB (DE.h (de_var 2))) (dg_name 4 nd) (dss_one (ds_set 3 (de_callC C_behind lk hr hx (dws_cons (de_var 0) (dws_cons (de_var 3) (dws_cons (de_var 4) dws_nil)))) nd))) (dss_one (ds_ret (de_var 3)))))))
theorem sc_are_deeds : FnScope ["rooms", "state", "goal", "value", "fewest"] ["rooms", "state", "goal", "value"] (defScope st_are_deeds) := C8.fnScope_by (by decide +kernel)
theorem ok_are_deeds {P : Program} {w0 : World} {K : PySem.W.Frag} {mg : Str → Option Value} {base : Heap} {S : Par} (hK : S.K = K) (B : Names mg) {f : Addr} {fd : FuncData} {cdv : Value} (F : FunC K "are_deeds" "are_deeds" st_are_deeds f fd cdv) (C_after_deeds : Cal P w0 K mg base S 11 "after_deeds" ps_after_deeds after_deeds_s) (C_are_steps : Cal P w0 K mg base S 10 "are_steps" ps_are_steps are_steps_s) (C_fewest_deeds : Cal P w0 K mg base S 12 "fewest_deeds" ps_fewest_deeds fewest_deeds_s) :
    FnOk P w0 K mg base (L2.CX P w0) 13 f fd ["rooms", "state", "goal", "value"] (SpD S (mkF 4 5 are_deeds_w)) := by
  refine fn_D F hK sc_are_deeds fun N0 A outer s H E hr => ?_
  have nd := sc_are_deeds.nd
  have hx : XP (S.inn N0 H E) (bodyCx P w0 K mg base ["rooms", "state", "goal", "value", "fewest"] "are_deeds" st_are_deeds f cdv A outer s H E) := body_xp (S := S) (N0 := N0) (H := H)
  have lk : Like ((S.inn N0 H E).at K) S := ⟨hK.symm, rfl, rfl, rfl, rfl, rfl, rfl, rfl⟩
  have own_ : PassesOwn (model P w0) (bodyCx P w0 K mg base ["rooms", "state", "goal", "value", "fewest"] "are_deeds" st_are_deeds f cdv A outer s H E).A (bodyCx P w0 K mg base ["rooms", "state", "goal", "value", "fewest"] "are_deeds" st_are_deeds f cdv A outer s H E).env (bodyCx P w0 K mg base ["rooms", "state", "goal", "value", "fewest"] "are_deeds" st_are_deeds f cdv A outer s H E).xe := body_own
  exact (dss_cons (ds_set 4 (de_callC C_fewest_deeds lk hr hx (dws_cons (de_var 0) (dws_cons (de_var 1) (dws_cons (de_var 2) dws_nil)))) nd) (dss_cons (ds_if (DW.t (dw_or (dt_cmp op_isN c_isN (DE.b (de_var 4)) (DE.b de_non)) (dw_or (dt_not (dt_val (DE.b (de_callC C_are_steps lk hr hx (dws_cons (de_var 0) (dws_cons (de_var 3) dws_nil)))))) (dw_or1 (dt_cmp (op_neD hr.units) c_ne (DE.b (de_callB call_lenB n_lenB B.n_len boot_len (dbs_cons (DE.b (de_var 3)) dbs_nil))) (DE.b (de_var 4))))))) (dss_one (ds_ret de_bl)) dss_nil) (dss_one (ds_ret (de_cmp (op_inB (hu65 hr)) c_inB (DE.b (de_var 2)) (DE.b (de_callC C_after_deeds lk hr hx (dws_cons (de_var 0) (dws_cons (de_var 1) (dws_cons (de_var 3) dws_nil))))))))))
theorem sc_goals : FnScope ["rooms", "state", "found", "own", "much"] ["rooms", "state"] (defScope st_goals) := C8.fnScope_by (by decide +kernel)
theorem ok_goals {P : Program} {w0 : World} {K : PySem.W.Frag} {mg : Str → Option Value} {base : Heap} {S : Par} (hK : S.K = K) (B : Names mg) {f : Addr} {fd : FuncData} {cdv : Value} (F : FunC K "goals" "goals" st_goals f fd cdv) (C_all_reached : Cal P w0 K mg base S 4 "all_reached" ps_all_reached all_reached_s) (C_check_state : Cal P w0 K mg base S 10 "check_state" ps_check_state check_state_s) :
    FnOk P w0 K mg base (L2.CX P w0) 11 f fd ["rooms", "state"] (SpD S (mkF 2 5 goals_w)) := by
  refine fn_D F hK sc_goals fun N0 A outer s H E hr => ?_
  have nd := sc_goals.nd
  have hx : XP (S.inn N0 H E) (bodyCx P w0 K mg base ["rooms", "state", "found", "own", "much"] "goals" st_goals f cdv A outer s H E) := body_xp (S := S) (N0 := N0) (H := H)
  have lk : Like ((S.inn N0 H E).at K) S := ⟨hK.symm, rfl, rfl, rfl, rfl, rfl, rfl, rfl⟩
  have own_ : PassesOwn (model P w0) (bodyCx P w0 K mg base ["rooms", "state", "found", "own", "much"] "goals" st_goals f cdv A outer s H E).A (bodyCx P w0 K mg base ["rooms", "state", "found", "own", "much"] "goals" st_goals f cdv A outer s H E).env (bodyCx P w0 K mg base ["rooms", "state", "found", "own", "much"] "goals" st_goals f cdv A outer s H E).xe := body_own
  exact (dss_cons (ds_expr (DE.b (de_callC C_check_state lk hr hx (dws_cons (de_var 0) (dws_cons (de_var 1) dws_nil))))) (dss_cons (ds_setO 2 df_d0 nd) (dss_cons (ds_for own_ rfl (di_seqB (DE.h (de_callC C_all_reached lk hr hx (dws_cons (de_var 0) (dws_cons (de_var 1) dws_nil))))) (dg_name 3 nd) (dss_one (ds_for own_ rfl (di_seqB (DE.h (de_var 3))) (dg_name 4 nd) (dss_one (ds_putD 2 (hu65 hr) de_bl (de_var 4)))))) (dss_one (ds_ret (de_callTy call_tuple_of n_tupleOf B.n_tuple boot_tuple (dbs_cons (DE.b (DF.e (df_callB (cr_sortedB rfl) n_sortedB B.n_sorted boot_sorted (dbs_cons (db_own 2) dbs_nil)))) dbs_nil)))))))
theorem sc__law_taken : FnScope ["row", "many", "found", "cell"] ["row", "many"] (defScope st__law_taken) := C8.fnScope_by (by decide +kernel)
theorem ok__law_taken {P : Program} {w0 : World} {K : PySem.W.Frag} {mg : Str → Option Value} {base : Heap} {S : Par} (hK : S.K = K) (B : Names mg) {f : Addr} {fd : FuncData} {cdv : Value} (F : FunC K "_law_taken" "_law_taken" st__law_taken f fd cdv) :
    FnOk P w0 K mg base (L2.CX P w0) 1 f fd ["row", "many"] (SpD S _law_taken_s) := by
  obtain ⟨oc, od, kV, doc, pm, an, ct, osl, rfl, lk, hcd⟩ := F.ex
  subst hK
  have nd := sc__law_taken.nd
  refine fn_of lk hcd sc__law_taken (fun vs H Q E h => ?_) fun A outer s H vs Q E hr h => ⟨t_taken _, ?_, pure_taken h⟩
  · obtain ⟨N0, ws, EX, _, _, hp, ⟨n, rfl, _⟩, _⟩ := h
    rw [paired_len hp]; rfl
  · exact pss_cons (ps_if (pt_cmpR op_gt (pe_ix ix_list (pv 0) pe_int (by intro _ _; rfl)) pe_int (nomark _)) (pss_cons (ps_set (i := 2) nd rfl (Or.inl rfl) (pe_op op_mod (pe_callTy call_int1 rfl B.n_int boot_int (pa_cons (pe_ix ix_list (pv 0) pe_int (by intro _ _; rfl)) pa_nil)) (pv 1))) (pss_cons (ps_asg (pe_op op_fdivW (pe_ix ix_list (pv 0) pe_int (by intro _ _; rfl)) (pv 1)) (pg_sub (pv 0) pe_int set_list (by intro _; rfl))) (pss_one (ps_ret (pv 2))))) pss_nil) (pss_cons (ps_asg (pe_op op_add (pe_ix ix_list (pv 0) pe_int (by intro _ _; rfl)) pe_int) (pg_sub (pv 0) pe_int set_list (by intro _; rfl))) (pss_cons (ps_if (pt_cmpR op_gt (pe_ix ix_list (pv 0) pe_int (by intro _ _; rfl)) (pe_callB call_len rfl B.n_len boot_len (pa_cons (pe_ix ix_list (pv 0) pe_int (by intro _ _; rfl)) pa_nil)) (nomark _)) (pss_cons (ps_asg (pe_op op_mod (pe_callTy call_int1 rfl B.n_int boot_int (pa_cons (pe_op op_add (pe_op op_mul (pe_ix ix_list (pv 0) pe_int (by intro _ _; rfl)) pe_int) pe_int) pa_nil)) pe_int) (pg_sub (pv 0) pe_int set_list (by intro _; rfl))) (pss_one (ps_ret (pe_op op_mod (pe_callTy call_int1 rfl B.n_int boot_int (pa_cons (pe_op op_fdivW (pe_ix ix_list (pv 0) pe_int (by intro _ _; rfl)) pe_int) pa_nil)) (pv 1))))) pss_nil) (pss_cons (ps_set (i := 3) nd rfl (Or.inl rfl) (pe_ix ix_list (pe_ix ix_list (pv 0) pe_int (by intro _ _; rfl)) (pe_op op_sub (pe_ix ix_list (pv 0) pe_int (by intro _ _; rfl)) pe_int) (by intro _ _; rfl))) (pss_cons (ps_asg (pe_op op_mod (pe_callTy call_int1 rfl B.n_int boot_int (pa_cons (pe_op op_add (pe_op op_add (pe_op op_mul (pe_ix ix_list (pv 0) pe_int (by intro _ _; rfl)) pe_int) (pv 3)) pe_int) pa_nil)) pe_int) (pg_sub (pv 0) pe_int set_list (by intro _; rfl))) (pss_cons (ps_if (pt_cmpR op_ge (pv 3) (pe_op op_pow pe_int pe_int) (nomark _)) (pss_one (ps_asg (pe_op op_fdivW (pv 3) (pv 1)) (pg_sub (pv 0) pe_int set_list (by intro _; rfl)))) pss_nil) (pss_one (ps_ret (pe_op op_mod (pe_callTy call_int1 rfl B.n_int boot_int (pa_cons (pv 3) pa_nil)) (pv 1)))))))))
theorem sc__law_pick : FnScope ["row", "some"] ["row", "some"] (defScope st__law_pick) := C8.fnScope_by (by decide +kernel)
theorem ok__law_pick {P : Program} {w0 : World} {K : PySem.W.Frag} {mg : Str → Option Value} {base : Heap} {S : Par} (hK : S.K = K) (B : Names mg) {f : Addr} {fd : FuncData} {cdv : Value} (F : FunC K "_law_pick" "_law_pick" st__law_pick f fd cdv) (C__law_taken : Cal P w0 K mg base S 1 "_law_taken" ps__law_taken _law_taken_s) :
    FnOk P w0 K mg base (L2.CX P w0) 3 f fd ["row", "some"] (SpD S (mkF 2 2 _law_pick_w)) := by
  refine fn_D F hK sc__law_pick fun N0 A outer s H E hr => ?_
  have nd := sc__law_pick.nd
  have hx : XP (S.inn N0 H E) (bodyCx P w0 K mg base ["row", "some"] "_law_pick" st__law_pick f cdv A outer s H E) := body_xp (S := S) (N0 := N0) (H := H)
  have lk : Like ((S.inn N0 H E).at K) S := ⟨hK.symm, rfl, rfl, rfl, rfl, rfl, rfl, rfl⟩
  have own_ : PassesOwn (model P w0) (bodyCx P w0 K mg base ["row", "some"] "_law_pick" st__law_pick f cdv A outer s H E).A (bodyCx P w0 K mg base ["row", "some"] "_law_pick" st__law_pick f cdv A outer s H E).env (bodyCx P w0 K mg base ["row", "some"] "_law_pick" st__law_pick f cdv A outer s H E).xe := body_own
  exact (dss_one (ds_ret (de_ix ix_seq o_ix (DE.b (de_var 1)) (DE.b (de_callC C__law_taken lk hr hx (dws_row 0 (dws_cons (de_callB call_len n_len B.n_len boot_len (dbs_cons (DE.b (de_var 1)) dbs_nil)) dws_nil)))))))
theorem sc__law_behind : FnScope ["rooms", "state", "deed", "one", "what", "much", "k"] ["rooms", "state", "deed"] (defScope st__law_behind) := C8.fnScope_by (by decide +kernel)
theorem ok__law_behind {P : Program} {w0 : World} {K : PySem.W.Frag} {mg : Str → Option Value} {base : Heap} {S : Par} (hK : S.K = K) (B : Names mg) {f : Addr} {fd : FuncData} {cdv : Value} (F : FunC K "_law_behind" "_law_behind" st__law_behind f fd cdv)  :
    FnOk P w0 K mg base (L2.CX P w0) 3 f fd ["rooms", "state", "deed"] (SpD S (mkF 3 7 _law_behind_w)) := by
  refine fn_D F hK sc__law_behind fun N0 A outer s H E hr => ?_
  have nd := sc__law_behind.nd
  have hx : XP (S.inn N0 H E) (bodyCx P w0 K mg base ["rooms", "state", "deed", "one", "what", "much", "k"] "_law_behind" st__law_behind f cdv A outer s H E) := body_xp (S := S) (N0 := N0) (H := H)
  have lk : Like ((S.inn N0 H E).at K) S := ⟨hK.symm, rfl, rfl, rfl, rfl, rfl, rfl, rfl⟩
  have own_ : PassesOwn (model P w0) (bodyCx P w0 K mg base ["rooms", "state", "deed", "one", "what", "much", "k"] "_law_behind" st__law_behind f cdv A outer s H E).A (bodyCx P w0 K mg base ["rooms", "state", "deed", "one", "what", "much", "k"] "_law_behind" st__law_behind f cdv A outer s H E).env (bodyCx P w0 K mg base ["rooms", "state", "deed", "one", "what", "much", "k"] "_law_behind" st__law_behind f cdv A outer s H E).xe := body_own
  exact (dss_cons (ds_asg (de_var 2) (dg_tup rfl (dgs_cons (dg_name 3 nd) (dgs_cons (dg_name 4 nd) dgs_nil)))) (dss_cons (ds_if (dt_cmp (op_ltA hr.units0) c_lt (DE.b (de_var 4)) (DE.b de_int)) (dss_one (ds_ret (de_op op_addA o_add (DE.b (de_op op_addA o_add (DE.b (de_cut (DE.b (de_var 1)) do_none (do_some (DE.b (de_var 3))))) (DE.b (de_tup (an_cons (de_if (dt_cmp (op_eqD hr.units) c_eq (DE.b (de_var 4)) (DE.b (de_neg (DE.b de_int)))) (de_ix (ix_B (hu65 hr)) o_ixB (DE.b (de_var 0)) (DE.b (de_var 3))) de_int) an_nil))))) (DE.b (de_cut (DE.b (de_var 1)) (do_some (DE.b (de_op op_addA o_add (DE.b (de_var 3)) (DE.b de_int)))) do_none))))) dss_nil) (dss_cons (ds_set 5 (de_callB (call_min2 rfl) n_min2 B.n_min boot_min (dbs_cons (DE.b (de_ix (ix_B (hu65 hr)) o_ixB (DE.b (de_var 1)) (DE.b (de_var 3)))) (dbs_cons (DE.b (de_op op_sub o_int0 (DE.b (de_ix (ix_B (hu65 hr)) o_ixB (DE.b (de_var 0)) (DE.b (de_var 4)))) (DE.b (de_ix (ix_B (hu65 hr)) o_ixB (DE.b (de_var 1)) (DE.b (de_var 4)))))) dbs_nil))) nd) (dss_one (ds_ret (de_callTy call_tuple_of n_tupleOf B.n_tuple boot_tuple (dbs_cons (DE.b (DF.e (df_lc (lp (own := [("k", 6)]) nd lk (di_rng1 B.n_range (DE.b (de_callB call_lenB n_lenB B.n_len boot_len (dbs_cons (DE.b (de_var 0)) dbs_nil)))) (fun _ _ _ _ _ => (dg_name 6 nd)) (fun _ _ _ _ _ hx lk => dts_nil) (fun _ _ _ _ _ hx lk => (de_if (dt_cmp (op_eqD hr.units) c_eq (DE.b (de_var 6)) (DE.b (de_var 3))) (de_op op_sub o_int0 (DE.b (de_ix (ix_B (hu65 hr)) o_ixB (DE.b (de_var 1)) (DE.b (de_var 6)))) (DE.b (de_var 5))) (de_if (dt_cmp (op_eqD hr.units) c_eq (DE.b (de_var 6)) (DE.b (de_var 4))) (de_op op_addA o_add (DE.b (de_ix (ix_B (hu65 hr)) o_ixB (DE.b (de_var 1)) (DE.b (de_var 6)))) (DE.b (de_var 5))) (de_ix (ix_B (hu65 hr)) o_ixB (DE.b (de_var 1)) (DE.b (de_var 6)))))))))) dbs_nil)))))))
theorem sc__law_levels : FnScope ["rooms", "state", "known", "level", "many", "later", "own", "k", "deed", "new"] ["rooms", "state"] (defScope st__law_levels) := C8.fnScope_by (by decide +kernel)
theorem ok__law_levels {P : Program} {w0 : World} {K : PySem.W.Frag} {mg : Str → Option Value} {base : Heap} {S : Par} (hK : S.K = K) (B : Names mg) {f : Addr} {fd : FuncData} {cdv : Value} (F : FunC K "_law_levels" "_law_levels" st__law_levels f fd cdv) (C__law_behind : Cal P w0 K mg base S 3 "_law_behind" ps__law_behind _law_behind_s) :
    FnOk P w0 K mg base (L2.CX P w0) 4 f fd ["rooms", "state"] (SpD S (mkF 2 10 _law_levels_w)) := by
  refine fn_D F hK sc__law_levels fun N0 A outer s H E hr => ?_
  have nd := sc__law_levels.nd
  have hx : XP (S.inn N0 H E) (bodyCx P w0 K mg base ["rooms", "state", "known", "level", "many", "later", "own", "k", "deed", "new"] "_law_levels" st__law_levels f cdv A outer s H E) := body_xp (S := S) (N0 := N0) (H := H)
  have lk : Like ((S.inn N0 H E).at K) S := ⟨hK.symm, rfl, rfl, rfl, rfl, rfl, rfl, rfl⟩
  have own_ : PassesOwn (model P w0) (bodyCx P w0 K mg base ["rooms", "state", "known", "level", "many", "later", "own", "k", "deed", "new"] "_law_levels" st__law_levels f cdv A outer s H E).A (bodyCx P w0 K mg base ["rooms", "state", "known", "level", "many", "later", "own", "k", "deed", "new"] "_law_levels" st__law_levels f cdv A outer s H E).env (bodyCx P w0 K mg base ["rooms", "state", "known", "level", "many", "later", "own", "k", "deed", "new"] "_law_levels" st__law_levels f cdv A outer s H E).xe := body_own
  exact (dss_cons (ds_par3 2 3 4 (dm_o (df_d1 true (hu65 hr) (de_var 1) de_int) (dm_d (DF.e (df_lst (an_cons (de_var 1) an_nil))) (dm_d de_int dm_nil))) rfl nd rfl) (dss_cons (ds_while own_ (dt_cmp (op_neD hr.units) c_ne (DE.b (de_var 3)) (DE.b (DF.e (df_lst an_nil)))) (dss_cons (ds_par2 5 4 (dm_o (df_lst an_nil) (dm_d (de_op op_addA o_add (DE.b (de_var 4)) (DE.b de_int)) dm_nil)) rfl nd rfl) (dss_cons (ds_for own_ rfl (di_seqB (DE.h (de_var 3))) (dg_name 6 nd) (dss_one (ds_for own_ rfl (di_rng1 B.n_range (DE.b (de_op op_mulA o_mul (DE.b (de_callB call_lenB n_lenB B.n_len boot_len (dbs_cons (DE.b (de_var 0)) dbs_nil))) (DE.b (de_op op_addA o_add (DE.b (de_callB call_lenB n_lenB B.n_len boot_len (dbs_cons (DE.b (de_var 0)) dbs_nil))) (DE.b de_int)))))) (dg_name 7 nd) (dss_cons (ds_set 8 (de_tup (an_cons (de_op op_fdiv o_int (DE.b (de_var 7)) (DE.b (de_op op_addA o_add (DE.b (de_callB call_lenB n_lenB B.n_len boot_len (dbs_cons (DE.b (de_var 0)) dbs_nil))) (DE.b de_int)))) (an_cons (de_op op_sub o_int0 (DE.b (de_op op_mod o_int (DE.b (de_var 7)) (DE.b (de_op op_addA o_add (DE.b (de_callB call_lenB n_lenB B.n_len boot_len (dbs_cons (DE.b (de_var 0)) dbs_nil))) (DE.b de_int))))) (DE.b de_int)) an_nil))) nd) (dss_cons (ds_set 9 (de_if (dt_cmp (op_neD hr.units) c_ne (DE.b (de_ix (ix_B (hu65 hr)) o_ixB (DE.b (de_var 8)) (DE.b de_int))) (DE.b (de_ix (ix_B (hu65 hr)) o_ixB (DE.b (de_var 8)) (DE.b de_int)))) (de_callC C__law_behind lk hr hx (dws_cons (de_var 0) (dws_cons (de_var 6) (dws_cons (de_var 8) dws_nil)))) (de_var 6)) nd) (dss_one (ds_if (dt_cmp (op_notInB (hu65 hr)) c_notInB (DE.b (de_var 9)) (db_own 2)) (dss_cons (ds_putD 2 (hu65 hr) (de_var 4) (de_var 9)) (dss_one (ds_app 5 (de_var 9)))) dss_nil))))))) (dss_one (ds_frz 5 (ds_set 3 (de_var 5) nd)))))) (dss_one (ds_frz 2 (ds_ret (de_var 2))))))
theorem sc__law_alike : FnScope ["found", "due", "k", "key"] ["found", "due"] (defScope st__law_alike) := C8.fnScope_by (by decide +kernel)
theorem ok__law_alike {P : Program} {w0 : World} {K : PySem.W.Frag} {mg : Str → Option Value} {base : Heap} {S : Par} {j : Nat} {sp : FD} (hK : S.K = K) (B : Names mg) {f : Addr} {fd : FuncData} {cdv : Value} (F : FunC K "_law_alike" "_law_alike" st__law_alike f fd cdv) (C__law_alike : Cal P w0 K mg base S j "_law_alike" ps__law_alike sp) :
    FnOk P w0 K mg base (L2.CX P w0) (j + 1) f fd ["found", "due"] (SpD S (mkF 2 4 (_law_alike_w sp))) := by
  refine fn_D F hK sc__law_alike fun N0 A outer s H E hr => ?_
  have nd := sc__law_alike.nd
  have hx : XP (S.inn N0 H E) (bodyCx P w0 K mg base ["found", "due", "k", "key"] "_law_alike" st__law_alike f cdv A outer s H E) := body_xp
  have lk : Like ((S.inn N0 H E).at K) S := ⟨hK.symm, rfl, rfl, rfl, rfl, rfl, rfl, rfl⟩
  exact (dss_cons (ds_if (dt_val (DE.b (de_isi2 B.n_isinstance B.n_tuple B.n_list boot_tuple boot_list ok_tuple ok_list (DE.b (de_var 1))))) (dss_cons (ds_if (DW.t (dw_or (dt_not (dt_val (DE.b (de_isi2 B.n_isinstance B.n_tuple B.n_list boot_tuple boot_list ok_tuple ok_list (DE.b (de_var 0)))))) (dw_or1 (dt_cmp (op_neD hr.units) c_ne (DE.b (de_isi B.n_isinstance B.n_list boot_list ok_list (DE.b (de_var 0)))) (DE.b (de_isi B.n_isinstance B.n_list boot_list ok_list (DE.b (de_var 1)))))))) (dss_one (ds_ret de_bl)) dss_nil) (dss_cons (ds_if (dt_cmp (op_neD hr.units) c_ne (DE.b (de_callB call_len n_len B.n_len boot_len (dbs_cons (DE.b (de_var 0)) dbs_nil))) (DE.b (de_callB call_len n_len B.n_len boot_len (dbs_cons (DE.b (de_var 1)) dbs_nil)))) (dss_one (ds_ret de_bl)) dss_nil) (dss_one (ds_ret (de_cmp (op_eqD hr.units) c_eq (DE.b (DF.e (df_lc (lp (own := [("k", 2)]) nd lk (di_rng1 B.n_range (DE.b (de_callB call_len n_len B.n_len boot_len (dbs_cons (DE.b (de_var 1)) dbs_nil)))) (fun _ _ _ _ _ => (dg_name 2 nd)) (fun _ _ _ _ _ hx lk => (dts_one (dt_not (dt_val (DE.b (de_callC C__law_alike lk hr hx (dws_cons (de_ix ix_seq o_ix (DE.b (de_var 0)) (DE.b (de_var 2))) (dws_cons (de_ix ix_seq o_ix (DE.b (de_var 1)) (DE.b (de_var 2))) dws_nil)))))))) (fun _ _ _ _ _ hx lk => (de_var 2)))))) (DE.b (DF.e (df_lst an_nil)))))))) dss_nil) (dss_cons (ds_if (dt_val (DE.b (de_isi B.n_isinstance B.n_dict boot_dict ok_dict (DE.b (de_var 1))))) (dss_cons (ds_if (DW.t (dw_or (dt_not (dt_val (DE.b (de_isi B.n_isinstance B.n_dict boot_dict ok_dict (DE.b (de_var 0)))))) (dw_or1 (dt_cmp (op_neD hr.units) c_ne (DE.b (DF.e (df_callTy call_list_of n_listOf B.n_list boot_list (dbs_cons (DE.b (de_var 0)) dbs_nil)))) (DE.b (DF.e (df_callTy call_list_of n_listOf B.n_list boot_list (dbs_cons (DE.b (de_var 1)) dbs_nil)))))))) (dss_one (ds_ret de_bl)) dss_nil) (dss_one (ds_ret (de_cmp (op_eqD hr.units) c_eq (DE.b (DF.e (df_lc (lp (own := [("key", 3)]) nd lk (di_seq (DB.h (DE.b (de_var 1)))) (fun _ _ _ _ _ => (dg_name 3 nd)) (fun _ _ _ _ _ hx lk => (dts_one (dt_not (dt_val (DE.b (de_callC C__law_alike lk hr hx (dws_cons (de_ix ix_seq o_ix (DE.b (de_var 0)) (DE.b (de_var 3))) (dws_cons (de_ix ix_seq o_ix (DE.b (de_var 1)) (DE.b (de_var 3))) dws_nil)))))))) (fun _ _ _ _ _ hx lk => (de_var 3)))))) (DE.b (DF.e (df_lst an_nil))))))) dss_nil) (dss_cons (ds_if (DW.t (dw_or (dt_cmp op_isN c_isN (DE.b (de_var 1)) (DE.b de_non)) (dw_or1 (dt_val (DE.b (de_isi B.n_isinstance B.n_str boot_str ok_str (DE.b (de_var 1)))))))) (dss_one (ds_ret (de_and (de_cmp (op_eqD hr.units) c_eq (DE.b (de_var 0)) (DE.b (de_var 1))) (de_one (de_cmp (op_eqD hr.units) c_eq (DE.b (de_isi B.n_isinstance B.n_str boot_str ok_str (DE.b (de_var 0)))) (DE.b (de_isi B.n_isinstance B.n_str boot_str ok_str (DE.b (de_var 1))))))))) dss_nil) (dss_one (ds_ret (de_and (de_isi B.n_isinstance B.n_int boot_int ok_int (DE.b (de_var 0))) (de_and (de_cmp (op_eqD hr.units) c_eq (DE.b (de_isi B.n_isinstance B.n_bool boot_bool ok_bool (DE.b (de_var 0)))) (DE.b (de_isi B.n_isinstance B.n_bool boot_bool ok_bool (DE.b (de_var 1))))) (de_one (de_cmp (op_eqD hr.units) c_eq (DE.b (de_var 0)) (DE.b (de_var 1)))))))))))
theorem sc__law_are_deeds : FnScope ["rooms", "value", "k", "one", "what"] ["rooms", "value"] (defScope st__law_are_deeds) := C8.fnScope_by (by decide +kernel)
theorem ok__law_are_deeds {P : Program} {w0 : World} {K : PySem.W.Frag} {mg : Str → Option Value} {base : Heap} {S : Par} (hK : S.K = K) (B : Names mg) {f : Addr} {fd : FuncData} {cdv : Value} (F : FunC K "_law_are_deeds" "_law_are_deeds" st__law_are_deeds f fd cdv)  :
    FnOk P w0 K mg base (L2.CX P w0) 3 f fd ["rooms", "value"] (SpD S (mkF 2 5 _law_are_deeds_w)) := by
  refine fn_D F hK sc__law_are_deeds fun N0 A outer s H E hr => ?_
  have nd := sc__law_are_deeds.nd
  have hx : XP (S.inn N0 H E) (bodyCx P w0 K mg base ["rooms", "value", "k", "one", "what"] "_law_are_deeds" st__law_are_deeds f cdv A outer s H E) := body_xp (S := S) (N0 := N0) (H := H)
  have lk : Like ((S.inn N0 H E).at K) S := ⟨hK.symm, rfl, rfl, rfl, rfl, rfl, rfl, rfl⟩
  have own_ : PassesOwn (model P w0) (bodyCx P w0 K mg base ["rooms", "value", "k", "one", "what"] "_law_are_deeds" st__law_are_deeds f cdv A outer s H E).A (bodyCx P w0 K mg base ["rooms", "value", "k", "one", "what"] "_law_are_deeds" st__law_are_deeds f cdv A outer s H E).env (bodyCx P w0 K mg base ["rooms", "value", "k", "one", "what"] "_law_are_deeds" st__law_are_deeds f cdv A outer s H E).xe := body_own
  exact (dss_cons (ds_if (DW.t (dw_or (dt_not (dt_val (DE.b (de_isi B.n_isinstance B.n_tuple boot_tuple ok_tuple (DE.b (de_var 1)))))) (dw_or1 (dt_cmp (op_neD hr.units) c_ne (DE.b (DF.e (df_lc (lp (own := [("k", 2)]) nd lk (di_seqB (DB.h (DE.b (de_var 1)))) (fun _ _ _ _ _ => (dg_name 2 nd)) (fun _ _ _ _ _ hx lk => (dts_one (DW.t (dw_or (dt_not (dt_val (DE.b (de_isi B.n_isinstance B.n_tuple boot_tuple ok_tuple (DE.b (de_var 2)))))) (dw_or1 (dt_cmp (op_neD hr.units) c_ne (DE.b (de_callB call_lenB n_lenB B.n_len boot_len (dbs_cons (DE.b (de_var 2)) dbs_nil))) (DE.b de_int))))))) (fun _ _ _ _ _ hx lk => (de_var 2)))))) (DE.b (DF.e (df_lst an_nil))))))) (dss_one (ds_ret de_bl)) dss_nil) (dss_cons (ds_for own_ rfl (di_seqB (DE.h (de_var 1))) (dg_tup rfl (dgs_cons (dg_name 3 nd) (dgs_cons (dg_name 4 nd) dgs_nil))) (dss_cons (ds_if (dt_cmp (op_neD hr.units) c_ne (DE.b (DF.e (df_lc (lp (own := [("k", 2)]) nd lk (di_seqB (DB.h (DE.b (de_tup (an_cons (de_var 3) (an_cons (de_var 4) an_nil)))))) (fun _ _ _ _ _ => (dg_name 2 nd)) (fun _ _ _ _ _ hx lk => (dts_one (DW.t (dw_or (dt_not (dt_val (DE.b (de_isi B.n_isinstance B.n_int boot_int ok_int (DE.b (de_var 2)))))) (dw_or1 (dt_val (DE.b (de_isi B.n_isinstance B.n_bool boot_bool ok_bool (DE.b (de_var 2)))))))))) (fun _ _ _ _ _ hx lk => (de_var 2)))))) (DE.b (DF.e (df_lst an_nil)))) (dss_one (ds_ret de_bl)) dss_nil) (dss_one (ds_if (DW.t (dw_or (dt_not (dt_chain (op_leA hr.units0) (op_ltA hr.units0) c_le c_lt (DE.b de_int) (DE.b (de_var 3)) (DE.b (de_callB call_lenB n_lenB B.n_len boot_len (dbs_cons (DE.b (de_var 0)) dbs_nil))))) (dw_or (dt_not (dt_chain (op_leA hr.units0) (op_ltA hr.units0) c_le c_lt (DE.b (de_neg (DE.b de_int))) (DE.b (de_var 4)) (DE.b (de_callB call_lenB n_lenB B.n_len boot_len (dbs_cons (DE.b (de_var 0)) dbs_nil))))) (dw_or1 (dt_cmp (op_eqD hr.units) c_eq (DE.b (de_var 3)) (DE.b (de_var 4))))))) (dss_one (ds_ret de_bl)) dss_nil)))) (dss_one (ds_ret de_bl))))
theorem sc__law_refused : FnScope ["row", "rooms", "state", "bad", "heard"] ["row", "rooms", "state"] (defScope st__law_refused) := C8.fnScope_by (by decide +kernel)
theorem ok__law_refused {P : Program} {w0 : World} {K : PySem.W.Frag} {mg : Str → Option Value} {base : Heap} {S : Par} (hK : S.K = K) (B : Names mg) {f : Addr} {fd : FuncData} {cc PP : Addr} (tb : LamX.TabB base mg cc PP) {gH Cb Vb : Addr} (heard : ∀ X : Cx, X.K = K → X.mg = mg → HeardC X gH Cb Vb) (hCb : S.cBad = Cb) (hPT : (PP, QT__law_refused) ∈ S.T) (hTu : ∀ r ∈ S.T, r.1 = PP → r.2 = QT__law_refused) (F : FunC K "_law_refused" "_law_refused" st__law_refused f fd (.ref cc)) (C__law_alike : Cal P w0 K mg base S 13 "_law_alike" ps__law_alike _law_alike_s) (C__law_pick : Cal P w0 K mg base S 3 "_law_pick" ps__law_pick _law_pick_s) (C_after_deeds : Cal P w0 K mg base S 11 "after_deeds" ps_after_deeds after_deeds_s) (C_are_deeds : Cal P w0 K mg base S 13 "are_deeds" ps_are_deeds are_deeds_s) (C_deeds : Cal P w0 K mg base S 12 "deeds" ps_deeds deeds_s) (C_fewest_deeds : Cal P w0 K mg base S 12 "fewest_deeds" ps_fewest_deeds fewest_deeds_s) (C_goals : Cal P w0 K mg base S 11 "goals" ps_goals goals_s) (C_many_states : Cal P w0 K mg base S 11 "many_states" ps_many_states many_states_s) :
    FnOk P w0 K mg base (L2.CX P w0) 16 f fd ["row", "rooms", "state"] (SpD S (mkF 3 5 _law_refused_w)) := by
  refine fn_D F hK sc__law_refused fun N0 A outer s H E hr => ?_
  have nd := sc__law_refused.nd
  have hx : XP (S.inn N0 H E) (bodyCx P w0 K mg base ["row", "rooms", "state", "bad", "heard"] "_law_refused" st__law_refused f (.ref cc) A outer s H E) := body_xp (S := S) (N0 := N0) (H := H)
  have lk : Like ((S.inn N0 H E).at K) S := ⟨hK.symm, rfl, rfl, rfl, rfl, rfl, rfl, rfl⟩
  have own_ : PassesOwn (model P w0) (bodyCx P w0 K mg base ["row", "rooms", "state", "bad", "heard"] "_law_refused" st__law_refused f (.ref cc) A outer s H E).A (bodyCx P w0 K mg base ["row", "rooms", "state", "bad", "heard"] "_law_refused" st__law_refused f (.ref cc) A outer s H E).env (bodyCx P w0 K mg base ["row", "rooms", "state", "bad", "heard"] "_law_refused" st__law_refused f (.ref cc) A outer s H E).xe := body_own
  exact (dss_cons (ds_set 3 (de_callC C__law_pick lk hr hx (dws_row 0 (dws_cons (DF.e (df_lst (an_cons de_non (an_cons (de_neg (DE.b de_int)) (an_cons de_int (an_cons de_bl (an_cons de_str an_nil))))))) dws_nil))) nd) (dss_cons (ds_set 4 (DF.e (df_lst (an_cons (hd (heard _ rfl rfl) hCb tb lk hPT hTu hr (fun _ _ _ _ _ _ _ _ _ hr hx lk => (de_callC C_deeds lk hr hx (dws_cons (de_var 1) (dws_cons (de_var 2) (dws_cons (de_var 3) dws_nil)))))) (an_cons (hd (heard _ rfl rfl) hCb tb lk hPT hTu hr (fun _ _ _ _ _ _ _ _ _ hr hx lk => (de_callC C_fewest_deeds lk hr hx (dws_cons (de_var 1) (dws_cons (de_var 2) (dws_cons (de_var 3) dws_nil)))))) (an_cons (hd (heard _ rfl rfl) hCb tb lk hPT hTu hr (fun _ _ _ _ _ _ _ _ _ hr hx lk => (de_callC C_are_deeds lk hr hx (dws_cons (de_var 1) (dws_cons (de_var 2) (dws_cons (de_var 3) (dws_cons (de_tup an_nil) dws_nil))))))) an_nil))))) nd) (dss_cons (ds_if (dt_not (dt_val (DE.b (de_callC C__law_alike lk hr hx (dws_cons (de_var 4) (dws_cons (DF.e (df_op op_mulA o_mulL (DE.b (DF.e (df_lst (an_cons (de_tup (an_cons de_str (an_cons de_str (an_cons de_bl an_nil)))) an_nil)))) (DE.b de_int))) dws_nil)))))) (dss_one (ds_ret de_bl)) dss_nil) (dss_cons (ds_set 3 (de_callC C__law_pick lk hr hx (dws_row 0 (dws_cons (DF.e (df_lst (an_cons de_non (an_cons (DF.e (df_callTy call_list_of n_listOf B.n_list boot_list (dbs_cons (DE.b (de_var 2)) dbs_nil))) (an_cons (de_op op_addA o_add (DE.b (de_var 2)) (DE.b (de_tup (an_cons de_int an_nil)))) (an_cons (de_op op_addA o_add (DE.b (de_tup (an_cons (de_op op_addA o_add (DE.b (de_ix (ix_B (hu65 hr)) o_ixB (DE.b (de_var 1)) (DE.b de_int))) (DE.b de_int)) an_nil))) (DE.b (de_cut (DE.b (de_var 2)) (do_some (DE.b de_int)) do_none))) (an_cons (de_op op_addA o_add (DE.b (de_tup (an_cons (de_neg (DE.b de_int)) an_nil))) (DE.b (de_cut (DE.b (de_var 2)) (do_some (DE.b de_int)) do_none))) (an_cons (de_op op_addA o_add (DE.b (de_tup (an_cons de_bl an_nil))) (DE.b (de_cut (DE.b (de_var 2)) (do_some (DE.b de_int)) do_none))) (an_cons de_str an_nil))))))))) dws_nil))) nd) (dss_cons (ds_set 4 (DF.e (df_lst (an_cons (hd (heard _ rfl rfl) hCb tb lk hPT hTu hr (fun _ _ _ _ _ _ _ _ _ hr hx lk => (de_callC C_deeds lk hr hx (dws_cons (de_var 1) (dws_cons (de_var 3) (dws_cons de_non dws_nil)))))) (an_cons (hd (heard _ rfl rfl) hCb tb lk hPT hTu hr (fun _ _ _ _ _ _ _ _ _ hr hx lk => (de_callC C_many_states lk hr hx (dws_cons (de_var 1) (dws_cons (de_var 3) dws_nil))))) (an_cons (hd (heard _ rfl rfl) hCb tb lk hPT hTu hr (fun _ _ _ _ _ _ _ _ _ hr hx lk => (de_callC C_goals lk hr hx (dws_cons (de_var 1) (dws_cons (de_var 3) dws_nil))))) (an_cons (hd (heard _ rfl rfl) hCb tb lk hPT hTu hr (fun _ _ _ _ _ _ _ _ _ hr hx lk => (de_callC C_after_deeds lk hr hx (dws_cons (de_var 1) (dws_cons (de_var 3) (dws_cons de_non dws_nil)))))) an_nil)))))) nd) (dss_cons (ds_if (dt_not (dt_val (DE.b (de_callC C__law_alike lk hr hx (dws_cons (de_var 4) (dws_cons (DF.e (df_op op_mulA o_mulL (DE.b (DF.e (df_lst (an_cons (de_tup (an_cons de_str (an_cons de_str (an_cons de_bl an_nil)))) an_nil)))) (DE.b de_int))) dws_nil)))))) (dss_one (ds_ret de_bl)) dss_nil) (dss_cons (ds_set 3 (de_callC C__law_pick lk hr hx (dws_row 0 (dws_cons (DF.e (df_lst (an_cons de_non (an_cons (DF.e (df_callTy call_list_of n_listOf B.n_list boot_list (dbs_cons (DE.b (de_var 1)) dbs_nil))) (an_cons (de_tup an_nil) (an_cons (de_tup (an_cons de_int an_nil)) (an_cons (de_tup (an_cons de_int an_nil)) (an_cons (de_tup (an_cons de_int (an_cons de_int (an_cons de_int (an_cons de_int an_nil))))) (an_cons (de_tup (an_cons de_bl an_nil)) (an_cons de_str an_nil)))))))))) dws_nil))) nd) (dss_cons (ds_set 4 (DF.e (df_lst (an_cons (hd (heard _ rfl rfl) hCb tb lk hPT hTu hr (fun _ _ _ _ _ _ _ _ _ hr hx lk => (de_callC C_deeds lk hr hx (dws_cons (de_var 3) (dws_cons de_non (dws_cons de_non dws_nil)))))) (an_cons (hd (heard _ rfl rfl) hCb tb lk hPT hTu hr (fun _ _ _ _ _ _ _ _ _ hr hx lk => (de_callC C_many_states lk hr hx (dws_cons (de_var 3) (dws_cons de_non dws_nil))))) (an_cons (hd (heard _ rfl rfl) hCb tb lk hPT hTu hr (fun _ _ _ _ _ _ _ _ _ hr hx lk => (de_callC C_goals lk hr hx (dws_cons (de_var 3) (dws_cons (de_tup an_nil) dws_nil))))) (an_cons (hd (heard _ rfl rfl) hCb tb lk hPT hTu hr (fun _ _ _ _ _ _ _ _ _ hr hx lk => (de_callC C_after_deeds lk hr hx (dws_cons (de_var 3) (dws_cons de_non (dws_cons de_non dws_nil)))))) (an_cons (hd (heard _ rfl rfl) hCb tb lk hPT hTu hr (fun _ _ _ _ _ _ _ _ _ hr hx lk => (de_callC C_are_deeds lk hr hx (dws_cons (de_var 3) (dws_cons (de_tup an_nil) (dws_cons de_int (dws_cons (de_tup an_nil) dws_nil))))))) an_nil))))))) nd) (dss_one (ds_ret (de_callC C__law_alike lk hr hx (dws_cons (de_var 4) (dws_cons (DF.e (df_op op_mulA o_mulL (DE.b (DF.e (df_lst (an_cons (de_tup (an_cons de_str (an_cons de_str (an_cons de_bl an_nil)))) an_nil)))) (DE.b de_int))) dws_nil)))))))))))))
theorem sc_law : FnScope ["script", "row", "rooms", "k", "state", "known", "held", "own", "turn", "goal", "counts", "fewest", "value", "here", "deed", "start", "drawn", "bad", "some", "right"] ["script"] (defScope st_law) := C8.fnScope_by (by decide +kernel)
def law_N : List Str := ["script", "row", "rooms", "k", "state", "known", "held", "own", "turn", "goal", "counts", "fewest", "value", "here", "deed", "start", "drawn", "bad", "some", "right"]
theorem ok_law {P : Program} {w0 : World} {K : PySem.W.Frag} {mg : Str → Option Value} {base : Heap} {S : Par} (hK : S.K = K) (B : Names mg) {f : Addr} {cc PP : Addr} (tb : LamX.TabB base mg cc PP) {gH Cb Vb : Addr} (heard : ∀ X : Cx, X.K = K → X.mg = mg → HeardC X gH Cb Vb) (hCb : S.cBad = Cb) (hPT : (PP, QT_law) ∈ S.T) (hTu : ∀ r ∈ S.T, r.1 = PP → r.2 = QT_law) (C__law_alike : Cal P w0 K mg base S 13 "_law_alike" ps__law_alike _law_alike_s) (C__law_are_deeds : Cal P w0 K mg base S 3 "_law_are_deeds" ps__law_are_deeds _law_are_deeds_s) (C__law_behind : Cal P w0 K mg base S 3 "_law_behind" ps__law_behind _law_behind_s) (C__law_levels : Cal P w0 K mg base S 4 "_law_levels" ps__law_levels _law_levels_s) (C__law_pick : Cal P w0 K mg base S 3 "_law_pick" ps__law_pick _law_pick_s) (C__law_refused : Cal P w0 K mg base S 16 "_law_refused" ps__law_refused _law_refused_s) (C__law_taken : Cal P w0 K mg base S 1 "_law_taken" ps__law_taken _law_taken_s) (C_after_deeds : Cal P w0 K mg base S 11 "after_deeds" ps_after_deeds after_deeds_s) (C_are_deeds : Cal P w0 K mg base S 13 "are_deeds" ps_are_deeds are_deeds_s) (C_deeds : Cal P w0 K mg base S 12 "deeds" ps_deeds deeds_s) (C_fewest_deeds : Cal P w0 K mg base S 12 "fewest_deeds" ps_fewest_deeds fewest_deeds_s) (C_goals : Cal P w0 K mg base S 11 "goals" ps_goals goals_s) (C_many_states : Cal P w0 K mg base S 11 "many_states" ps_many_states many_states_s) (N0 : Addr → Prop) (H0 : Hp) (A : Around) (outer : List Env) (s : Shared) (H : Hp) (E : XK) (hr : Room 18 (A.deeper (envOfC "law" (defScope st_law) s.heap.objs.size f (.ref cc)))) :
    DSs (S.inn N0 H0 E) (bodyCx P w0 K mg base ["script", "row", "rooms", "k", "state", "known", "held", "own", "turn", "goal", "counts", "fewest", "value", "here", "deed", "start", "drawn", "bad", "some", "right"] "law" st_law f (.ref cc) A outer s H E) ((defBody st_law).drop 1) law_w := by
  have nd := sc_law.nd
  have hx : XP (S.inn N0 H0 E) (bodyCx P w0 K mg base ["script", "row", "rooms", "k", "state", "known", "held", "own", "turn", "goal", "counts", "fewest", "value", "here", "deed", "start", "drawn", "bad", "some", "right"] "law" st_law f (.ref cc) A outer s H E) := body_xp (S := S) (N0 := N0) (H := H)
  have lk : Like ((S.inn N0 H0 E).at K) S := ⟨hK.symm, rfl, rfl, rfl, rfl, rfl, rfl, rfl⟩
  have own_ : PassesOwn (model P w0) (bodyCx P w0 K mg base ["script", "row", "rooms", "k", "state", "known", "held", "own", "turn", "goal", "counts", "fewest", "value", "here", "deed", "start", "drawn", "bad", "some", "right"] "law" st_law f (.ref cc) A outer s H E).A (bodyCx P w0 K mg base ["script", "row", "rooms", "k", "state", "known", "held", "own", "turn", "goal", "counts", "fewest", "value", "here", "deed", "start", "drawn", "bad", "some", "right"] "law" st_law f (.ref cc) A outer s H E).env (bodyCx P w0 K mg base ["script", "row", "rooms", "k", "state", "known", "held", "own", "turn", "goal", "counts", "fewest", "value", "here", "deed", "start", "drawn", "bad", "some", "right"] "law" st_law f (.ref cc) A outer s H E).xe := body_own
  exact (dss_cons (ds_set 2 (de_callTy call_tuple_of n_tupleOf B.n_tuple boot_tuple (dbs_cons (DE.b (DF.e (df_lc (lp (own := [("k", 3)]) nd lk (di_rng1 B.n_range (DE.b (de_op op_addA o_add (DE.b de_int) (DE.b (de_callC C__law_taken lk hr hx (dws_row 1 (dws_cons de_int dws_nil))))))) (fun _ _ _ _ _ => (dg_name 3 nd)) (fun _ _ _ _ _ hx lk => dts_nil) (fun _ _ _ _ _ hx lk => (de_op op_addA o_add (DE.b de_int) (DE.b (de_callC C__law_taken lk hr hx (dws_row 1 (dws_cons (de_callC C__law_pick lk hr hx (dws_row 1 (dws_cons (DF.e (df_lst (an_cons de_int (an_cons de_int (an_cons de_int an_nil))))) dws_nil))) dws_nil)))))))))) dbs_nil)) nd) (dss_cons (ds_set 4 (de_callTy call_tuple_of n_tupleOf B.n_tuple boot_tuple (dbs_cons (DE.b (DF.e (df_lc (lp (own := [("k", 3)]) nd lk (di_seqB (DB.h (DE.b (de_var 2)))) (fun _ _ _ _ _ => (dg_name 3 nd)) (fun _ _ _ _ _ hx lk => dts_nil) (fun _ _ _ _ _ hx lk => (de_callC C__law_pick lk hr hx (dws_row 1 (dws_cons (DF.e (df_lst (an_cons de_int (an_cons (de_var 3) (an_cons (de_callC C__law_taken lk hr hx (dws_row 1 (dws_cons (de_op op_addA o_add (DE.b (de_var 3)) (DE.b de_int)) dws_nil))) an_nil))))) dws_nil)))))))) dbs_nil)) nd) (dss_cons (ds_set 5 (de_callC C__law_levels lk hr hx (dws_cons (de_var 2) (dws_cons (de_var 4) dws_nil))) nd) (dss_cons (ds_setLc 6 (lp (own := [("k", 3)]) nd lk (di_rng1 B.n_range (DE.b de_int)) (fun _ _ _ _ _ => (dg_name 3 nd)) (fun _ _ _ _ _ hx lk => (dts_one (dt_cmp (op_neD hr.units) c_ne (DE.b (DF.e (df_lc (lp (own := [("own", 7)]) nd lk (di_seqB (DB.h (DE.b (de_var 5)))) (fun _ _ _ _ _ => (dg_name 7 nd)) (fun _ _ _ _ _ hx lk => (dts_one (dt_cmp (op_inB (hu65 hr)) c_inB (DE.b (de_var 3)) (DE.b (de_var 7))))) (fun _ _ _ _ _ hx lk => (de_var 7)))))) (DE.b (DF.e (df_lst an_nil)))))) (fun _ _ _ _ _ hx lk => (de_var 3))) (sw_true rfl rfl rfl rfl)) (dss_cons (ds_if (DW.t (dw_or (dt_not (dt_val (DE.b (de_callC C__law_alike lk hr hx (dws_cons (de_callC C_many_states lk hr hx (dws_cons (de_var 2) (dws_cons (de_var 4) dws_nil))) (dws_cons (de_callB call_lenB n_lenB B.n_len boot_len (dbs_cons (DE.b (de_var 5)) dbs_nil)) dws_nil)))))) (dw_or1 (dt_not (dt_val (DE.b (de_callC C__law_alike lk hr hx (dws_cons (de_callC C_goals lk hr hx (dws_cons (de_var 2) (dws_cons (de_var 4) dws_nil))) (dws_cons (de_callTy call_tuple_of n_tupleOf B.n_tuple boot_tuple (dbs_cons (DE.b (de_var 6)) dbs_nil)) dws_nil))))))))) (dss_one (ds_ret de_bl)) dss_nil) (dss_cons (ds_for own_ rfl (di_rng1 B.n_range (DE.b de_int)) (dg_name 8 nd) (dss_cons (ds_set 9 (de_callC C__law_pick lk hr hx (dws_row 1 (dws_cons (DF.e (df_lst (an_cons (de_callC C__law_taken lk hr hx (dws_row 1 (dws_cons de_int dws_nil))) (an_cons (de_callC C__law_taken lk hr hx (dws_row 1 (dws_cons de_int dws_nil))) (an_cons (de_callC C__law_pick lk hr hx (dws_row 1 (dws_cons (de_var 6) dws_nil))) an_nil))))) dws_nil))) nd) (dss_cons (ds_setLc 10 (lp (own := [("own", 7)]) nd lk (di_seqB (DB.h (DE.b (de_var 5)))) (fun _ _ _ _ _ => (dg_name 7 nd)) (fun _ _ _ _ _ hx lk => (dts_one (dt_cmp (op_inB (hu65 hr)) c_inB (DE.b (de_var 9)) (DE.b (de_var 7))))) (fun _ _ _ _ _ hx lk => (de_ix (ix_B (hu65 hr)) o_ixB (DE.b (de_var 5)) (DE.b (de_var 7))))) (sw_true rfl rfl rfl rfl)) (dss_cons (ds_par2 11 12 (dm_d (de_if (dt_cmp (op_neD hr.units) c_ne (DE.b (de_var 10)) (DE.b (DF.e (df_lst an_nil)))) (de_callB (cr_minA rfl hr.units) n_best B.n_min boot_min (dbs_cons (DE.b (de_var 10)) dbs_nil)) de_non) (dm_d (de_callC C_deeds lk hr hx (dws_cons (de_var 2) (dws_cons (de_var 4) (dws_cons (de_var 9) dws_nil)))) dm_nil)) rfl nd rfl) (dss_cons (ds_if (DW.t (dw_or (dt_not (dt_val (DE.b (de_callC C__law_alike lk hr hx (dws_cons (de_callC C_fewest_deeds lk hr hx (dws_cons (de_var 2) (dws_cons (de_var 4) (dws_cons (de_var 9) dws_nil)))) (dws_cons (de_var 11) dws_nil)))))) (dw_or1 (dt_cmp (op_neD hr.units) c_ne (DE.b (de_cmp op_isN c_isN (DE.b (de_var 12)) (DE.b de_non))) (DE.b (de_cmp op_isN c_isN (DE.b (de_var 11)) (DE.b de_non))))))) (dss_one (ds_ret de_bl)) dss_nil) (dss_cons (ds_if (dt_cmp op_notN c_notN (DE.b (de_var 12)) (DE.b de_non)) (dss_cons (ds_set 13 (de_var 4) nd) (dss_cons (ds_for own_ rfl (di_seqB (DE.h (de_var 12))) (dg_name 14 nd) (dss_one (ds_set 13 (de_if (dt_val (DE.b (de_callC C__law_are_deeds lk hr hx (dws_cons (de_var 2) (dws_cons (de_tup (an_cons (de_var 14) an_nil)) dws_nil))))) (de_callC C__law_behind lk hr hx (dws_cons (de_var 2) (dws_cons (de_var 13) (dws_cons (de_var 14) dws_nil)))) de_non) nd))) (dss_one (ds_if (DW.t (dw_or (dt_cmp op_isN c_isN (DE.b (de_var 13)) (DE.b de_non)) (dw_or (dt_cmp (op_neD hr.units) c_ne (DE.b (de_callB call_lenB n_lenB B.n_len boot_len (dbs_cons (DE.b (de_var 12)) dbs_nil))) (DE.b (de_var 11))) (dw_or (dt_cmp (op_notInB (hu65 hr)) c_notInB (DE.b (de_var 9)) (DE.b (de_var 13))) (dw_or1 (dt_cmp op_isnot_bl c_notB (DE.b (de_callC C_are_deeds lk hr hx (dws_cons (de_var 2) (dws_cons (de_var 4) (dws_cons (de_var 9) (dws_cons (de_var 12) dws_nil)))))) (DE.b de_bl))))))) (dss_one (ds_ret de_bl)) dss_nil)))) dss_nil) (dss_cons (ds_set 15 (de_if (dt_cmp op_notN c_notN (DE.b (de_var 12)) (DE.b de_non)) (de_var 12) (de_tup an_nil)) nd) (dss_cons (ds_set 16 (de_callTy call_tuple_of n_tupleOf B.n_tuple boot_tuple (dbs_cons (DE.b (DF.e (df_lc (lp (own := [("k", 3)]) nd lk (di_rng1 B.n_range (DE.b de_int)) (fun _ _ _ _ _ => (dg_name 3 nd)) (fun _ _ _ _ _ hx lk => dts_nil) (fun _ _ _ _ _ hx lk => (de_tup (an_cons (de_callC C__law_taken lk hr hx (dws_row 1 (dws_cons (de_callB call_lenB n_lenB B.n_len boot_len (dbs_cons (DE.b (de_var 2)) dbs_nil)) dws_nil))) (an_cons (de_op op_sub o_int0 (DE.b (de_neg (DE.b de_int))) (DE.b (de_callC C__law_taken lk hr hx (dws_row 1 (dws_cons de_int dws_nil))))) an_nil)))))))) dbs_nil)) nd) (dss_cons (ds_set 17 (DF.e (df_lst (an_cons (de_tup (an_cons (de_tup (an_cons de_int (an_cons de_int an_nil))) an_nil)) (an_cons (de_tup (an_cons (de_tup (an_cons de_int (an_cons de_bl an_nil))) an_nil)) (an_cons (de_tup (an_cons (de_tup (an_cons (de_callB call_lenB n_lenB B.n_len boot_len (dbs_cons (DE.b (de_var 2)) dbs_nil)) (an_cons (de_neg (DE.b de_int)) an_nil))) an_nil)) (an_cons (de_tup (an_cons (de_tup (an_cons de_int (an_cons (de_neg (DE.b de_int)) an_nil))) an_nil)) (an_cons (DF.e (df_callTy call_list_of n_listOf B.n_list boot_list (dbs_cons (DE.b (de_var 15)) dbs_nil))) an_nil))))))) nd) (dss_cons (ds_set 18 (de_callC C__law_pick lk hr hx (dws_row 1 (dws_cons (DF.e (df_op op_addA o_addL (DE.b (de_var 17)) (DE.b (DF.e (df_lst (an_cons (de_var 15) (an_cons (de_cut (DE.b (de_var 15)) (do_some (DE.b de_int)) do_none) (an_cons (de_revA (DE.b (de_var 15))) (an_cons (de_op op_addA o_add (DE.b (de_var 15)) (DE.b (de_tup (an_cons (de_tup (an_cons de_int (an_cons (de_neg (DE.b de_int)) an_nil))) an_nil)))) (an_cons (de_var 16) an_nil)))))))))) dws_nil))) nd) (dss_cons (ds_par2 19 13 (dm_d (de_callC C__law_are_deeds lk hr hx (dws_cons (de_var 2) (dws_cons (de_var 18) dws_nil))) (dm_d (de_var 4) dm_nil)) rfl nd rfl) (dss_cons (ds_for own_ rfl (di_seqB (DE.h (de_if (dt_val (DE.b (de_var 19))) (de_var 18) (de_tup an_nil)))) (dg_name 14 nd) (dss_one (ds_set 13 (de_callC C__law_behind lk hr hx (dws_cons (de_var 2) (dws_cons (de_var 13) (dws_cons (de_var 14) dws_nil)))) nd))) (dss_cons (ds_if (dt_not (dt_val (DE.b (de_callC C__law_alike lk hr hx (dws_cons (de_callC C_are_deeds lk hr hx (dws_cons (de_var 2) (dws_cons (de_var 4) (dws_cons (de_var 9) (dws_cons (de_var 18) dws_nil))))) (dws_cons (de_and (de_var 19) (de_and (de_cmp op_notN c_notN (DE.b (de_var 11)) (DE.b de_non)) (de_and (de_cmp (op_eqD hr.units) c_eq (DE.b (de_callB call_lenB n_lenB B.n_len boot_len (dbs_cons (DE.b (de_var 18)) dbs_nil))) (DE.b (de_var 11))) (de_one (de_cmp (op_inB (hu65 hr)) c_inB (DE.b (de_var 9)) (DE.b (de_var 13))))))) dws_nil)))))) (dss_one (ds_ret de_bl)) dss_nil) (dss_cons (ds_if (DW.t (dw_and (dt_val (DE.b (de_var 19))) (dw_and1 (dt_not (dt_val (DE.b (de_callC C__law_alike lk hr hx (dws_cons (de_callC C_after_deeds lk hr hx (dws_cons (de_var 2) (dws_cons (de_var 4) (dws_cons (de_var 18) dws_nil)))) (dws_cons (de_var 13) dws_nil))))))))) (dss_one (ds_ret de_bl)) dss_nil) (dss_one (ds_if (DW.t (dw_and (dt_not (dt_val (DE.b (de_var 19)))) (dw_and1 (dt_not (dt_val (DE.b (de_callC C__law_alike lk hr hx (dws_cons (hd (heard _ rfl rfl) hCb tb lk hPT hTu hr (fun _ _ _ _ _ _ _ _ _ hr hx lk => (de_callC C_after_deeds lk hr hx (dws_cons (de_var 2) (dws_cons (de_var 4) (dws_cons (de_var 18) dws_nil)))))) (dws_cons (de_tup (an_cons de_str (an_cons de_str (an_cons de_bl an_nil)))) dws_nil))))))))) (dss_one (ds_ret de_bl)) dss_nil)))))))))))))))) (dss_one (ds_ret (de_callC C__law_refused lk hr hx (dws_row 1 (dws_cons (de_var 2) (dws_cons (de_var 4) dws_nil))))))))))))
theorem all_ok {P : Program} {w0 : World} {K : PySem.W.Frag} {mg : Str → Option Value} {base : Heap} {f_is_number f_check f_are_numbers f_check_rooms f_check_state f_deeds_of f_behind f_all_reached f_many_states f_first_with f_fewest_deeds f_deeds f_is_deed f_are_steps f_after_deeds f_are_deeds f_goals f__law_taken f__law_pick f__law_behind f__law_levels f__law_alike f__law_are_deeds f__law_heard f__law_refused f_law : Addr} {fd_is_number fd_check fd_are_numbers fd_check_rooms fd_check_state fd_deeds_of fd_behind fd_all_reached fd_many_states fd_first_with fd_fewest_deeds fd_deeds fd_is_deed fd_are_steps fd_after_deeds fd_are_deeds fd_goals fd__law_taken fd__law_pick fd__law_behind fd__law_levels fd__law_alike fd__law_are_deeds fd__law_heard fd__law_refused fd_law : FuncData} {cd_is_number cd_check cd_check_rooms cd_deeds_of cd_behind cd_all_reached cd_many_states cd_first_with cd_fewest_deeds cd_deeds cd_is_deed cd_after_deeds cd_are_deeds cd_goals cd__law_taken cd__law_pick cd__law_behind cd__law_levels cd__law_alike cd__law_are_deeds cd__law_heard : Value} {cc_are_numbers PP_are_numbers cc_check_state PP_check_state cc_are_steps PP_are_steps cc__law_refused PP__law_refused cc_law PP_law : Addr} {Cb fI ccb Vb : Addr} (B : Names mg) (BAD : BadTxt P K mg Cb fI ccb) (HT : HeardTxt K mg Cb Vb)
    (F_is_number : FunC K "is_number" "is_number" st_is_number f_is_number fd_is_number cd_is_number) (m_is_number : mg "is_number" = some (.ref f_is_number))
    (F_check : FunC K "check" "check" st_check f_check fd_check cd_check) (m_check : mg "check" = some (.ref f_check))
    (F_are_numbers : FunC K "are_numbers" "are_numbers" st_are_numbers f_are_numbers fd_are_numbers (.ref cc_are_numbers)) (m_are_numbers : mg "are_numbers" = some (.ref f_are_numbers))
    (F_check_rooms : FunC K "check_rooms" "check_rooms" st_check_rooms f_check_rooms fd_check_rooms cd_check_rooms) (m_check_rooms : mg "check_rooms" = some (.ref f_check_rooms))
    (F_check_state : FunC K "check_state" "check_state" st_check_state f_check_state fd_check_state (.ref cc_check_state)) (m_check_state : mg "check_state" = some (.ref f_check_state))
    (F_deeds_of : FunC K "deeds_of" "deeds_of" st_deeds_of f_deeds_of fd_deeds_of cd_deeds_of) (m_deeds_of : mg "deeds_of" = some (.ref f_deeds_of))
    (F_behind : FunC K "behind" "behind" st_behind f_behind fd_behind cd_behind) (m_behind : mg "behind" = some (.ref f_behind))
    (F_all_reached : FunC K "all_reached" "all_reached" st_all_reached f_all_reached fd_all_reached cd_all_reached) (m_all_reached : mg "all_reached" = some (.ref f_all_reached))
    (F_many_states : FunC K "many_states" "many_states" st_many_states f_many_states fd_many_states cd_many_states) (m_many_states : mg "many_states" = some (.ref f_many_states))
    (F_first_with : FunC K "first_with" "first_with" st_first_with f_first_with fd_first_with cd_first_with) (m_first_with : mg "first_with" = some (.ref f_first_with))
    (F_fewest_deeds : FunC K "fewest_deeds" "fewest_deeds" st_fewest_deeds f_fewest_deeds fd_fewest_deeds cd_fewest_deeds) (m_fewest_deeds : mg "fewest_deeds" = some (.ref f_fewest_deeds))
    (F_deeds : FunC K "deeds" "deeds" st_deeds f_deeds fd_deeds cd_deeds) (m_deeds : mg "deeds" = some (.ref f_deeds))
    (F_is_deed : FunC K "is_deed" "is_deed" st_is_deed f_is_deed fd_is_deed cd_is_deed) (m_is_deed : mg "is_deed" = some (.ref f_is_deed))
    (F_are_steps : FunC K "are_steps" "are_steps" st_are_steps f_are_steps fd_are_steps (.ref cc_are_steps)) (m_are_steps : mg "are_steps" = some (.ref f_are_steps))
    (F_after_deeds : FunC K "after_deeds" "after_deeds" st_after_deeds f_after_deeds fd_after_deeds cd_after_deeds) (m_after_deeds : mg "after_deeds" = some (.ref f_after_deeds))
    (F_are_deeds : FunC K "are_deeds" "are_deeds" st_are_deeds f_are_deeds fd_are_deeds cd_are_deeds) (m_are_deeds : mg "are_deeds" = some (.ref f_are_deeds))
    (F_goals : FunC K "goals" "goals" st_goals f_goals fd_goals cd_goals) (m_goals : mg "goals" = some (.ref f_goals))
    (F__law_taken : FunC K "_law_taken" "_law_taken" st__law_taken f__law_taken fd__law_taken cd__law_taken) (m__law_taken : mg "_law_taken" = some (.ref f__law_taken))
    (F__law_pick : FunC K "_law_pick" "_law_pick" st__law_pick f__law_pick fd__law_pick cd__law_pick) (m__law_pick : mg "_law_pick" = some (.ref f__law_pick))
    (F__law_behind : FunC K "_law_behind" "_law_behind" st__law_behind f__law_behind fd__law_behind cd__law_behind) (m__law_behind : mg "_law_behind" = some (.ref f__law_behind))
    (F__law_levels : FunC K "_law_levels" "_law_levels" st__law_levels f__law_levels fd__law_levels cd__law_levels) (m__law_levels : mg "_law_levels" = some (.ref f__law_levels))
    (F__law_alike : FunC K "_law_alike" "_law_alike" st__law_alike f__law_alike fd__law_alike cd__law_alike) (m__law_alike : mg "_law_alike" = some (.ref f__law_alike))
    (F__law_are_deeds : FunC K "_law_are_deeds" "_law_are_deeds" st__law_are_deeds f__law_are_deeds fd__law_are_deeds cd__law_are_deeds) (m__law_are_deeds : mg "_law_are_deeds" = some (.ref f__law_are_deeds))
    (F__law_heard : FunC K "_law_heard" "_law_heard" st__law_heard f__law_heard fd__law_heard cd__law_heard) (m__law_heard : mg "_law_heard" = some (.ref f__law_heard))
    (F__law_refused : FunC K "_law_refused" "_law_refused" st__law_refused f__law_refused fd__law_refused (.ref cc__law_refused)) (m__law_refused : mg "_law_refused" = some (.ref f__law_refused))
    (F_law : FunC K "law" "law" st_law f_law fd_law (.ref cc_law))
    (HF : ∀ X : Cx, X.K = K → X.mg = mg → HeardC X f__law_heard Cb Vb)
    (tb_are_numbers : LamX.TabB base mg cc_are_numbers PP_are_numbers)
    (tb_check_state : LamX.TabB base mg cc_check_state PP_check_state)
    (tb_are_steps : LamX.TabB base mg cc_are_steps PP_are_steps)
    (tb__law_refused : LamX.TabB base mg cc__law_refused PP__law_refused)
    (tb_law : LamX.TabB base mg cc_law PP_law)
    (hTu__law_refused : ∀ r ∈ ([(PP__law_refused, QT__law_refused), (PP_law, QT_law)] : List (Addr × Str)), r.1 = PP__law_refused → r.2 = QT__law_refused)
    (hTu_law : ∀ r ∈ ([(PP__law_refused, QT__law_refused), (PP_law, QT_law)] : List (Addr × Str)), r.1 = PP_law → r.2 = QT_law)
    {S : Par} (hK : S.K = K) (hST : S.T = [(PP__law_refused, QT__law_refused), (PP_law, QT_law)]) (hSG : S.G = [PP_are_numbers, PP_check_state, PP_are_steps]) (hSB : S.cBad = Cb)
    (N0 : Addr → Prop) (H0 : Hp) (A : Around) (outer : List Env) (s : Shared) (H : Hp) (E : XK) (hr : Room 18 (A.deeper (envOfC "law" (defScope st_law) s.heap.objs.size f_law (.ref cc_law)))) :
    DSs (S.inn N0 H0 E) (bodyCx P w0 K mg base law_N "law" st_law f_law (.ref cc_law) A outer s H E) ((defBody st_law).drop 1) law_w := by
  have C_is_number : Cal P w0 K mg base S 3 "is_number" ps_is_number is_number_s := cal_of F_is_number m_is_number (F_is_number.binds (ps := ps_is_number) fun _ _ _ _ _ _ us hl => match us, hl with | [_, _, _], _ => rfl) (ok_is_number hK B F_is_number ) mono_is_number meets_is_number
  have C_check : Cal P w0 K mg base S 3 "check" ps_check check_s := cal_of F_check m_check (F_check.binds (ps := ps_check) fun _ _ _ _ _ _ us hl => match us, hl with | [_, _], _ => rfl) (ok_check hK B BAD hSB F_check ) mono_check meets_check
  have C_are_numbers : Cal P w0 K mg base S 6 "are_numbers" ps_are_numbers are_numbers_s := cal_of F_are_numbers m_are_numbers (F_are_numbers.binds (ps := ps_are_numbers) fun _ _ _ _ _ _ us hl => match us, hl with | [_, _, _, _], _ => rfl) (ok_are_numbers hK B tb_are_numbers (by rw [hSG]; exact (.head _)) F_are_numbers C_is_number) mono_are_numbers meets_are_numbers
  have C_check_rooms : Cal P w0 K mg base S 7 "check_rooms" ps_check_rooms check_rooms_s := cal_of F_check_rooms m_check_rooms (F_check_rooms.binds (ps := ps_check_rooms) fun _ _ _ _ _ _ us hl => match us, hl with | [_], _ => rfl) (ok_check_rooms hK B F_check_rooms C_are_numbers C_check) mono_check_rooms meets_check_rooms
  have C_check_state : Cal P w0 K mg base S 10 "check_state" ps_check_state check_state_s := cal_of F_check_state m_check_state (F_check_state.binds (ps := ps_check_state) fun _ _ _ _ _ _ us hl => match us, hl with | [_, _], _ => rfl) (ok_check_state hK B tb_check_state (by rw [hSG]; exact (.tail _ (.head _))) F_check_state C_are_numbers C_check C_check_rooms) mono_check_state meets_check_state
  have C_deeds_of : Cal P w0 K mg base S 3 "deeds_of" ps_deeds_of deeds_of_s := cal_of F_deeds_of m_deeds_of (F_deeds_of.binds (ps := ps_deeds_of) fun _ _ _ _ _ _ us hl => match us, hl with | [_], _ => rfl) (ok_deeds_of hK B F_deeds_of ) mono_deeds_of meets_deeds_of
  have C_behind : Cal P w0 K mg base S 3 "behind" ps_behind behind_s := cal_of F_behind m_behind (F_behind.binds (ps := ps_behind) fun _ _ _ _ _ _ us hl => match us, hl with | [_, _, _], _ => rfl) (ok_behind hK B F_behind ) mono_behind meets_behind
  have C_all_reached : Cal P w0 K mg base S 4 "all_reached" ps_all_reached all_reached_s := cal_of F_all_reached m_all_reached (F_all_reached.binds (ps := ps_all_reached) fun _ _ _ _ _ _ us hl => match us, hl with | [_, _], _ => rfl) (ok_all_reached hK B F_all_reached C_behind C_deeds_of) mono_all_reached meets_all_reached
  have C_many_states : Cal P w0 K mg base S 11 "many_states" ps_many_states many_states_s := cal_of F_many_states m_many_states (F_many_states.binds (ps := ps_many_states) fun _ _ _ _ _ _ us hl => match us, hl with | [_, _], _ => rfl) (ok_many_states hK B F_many_states C_all_reached C_check_state) mono_many_states meets_many_states
  have C_first_with : Cal P w0 K mg base S 11 "first_with" ps_first_with first_with_s := cal_of F_first_with m_first_with (F_first_with.binds (ps := ps_first_with) fun _ _ _ _ _ _ us hl => match us, hl with | [_, _, _], _ => rfl) (ok_first_with hK B F_first_with C_all_reached C_check C_check_state C_is_number) mono_first_with meets_first_with
  have C_fewest_deeds : Cal P w0 K mg base S 12 "fewest_deeds" ps_fewest_deeds fewest_deeds_s := cal_of F_fewest_deeds m_fewest_deeds (F_fewest_deeds.binds (ps := ps_fewest_deeds) fun _ _ _ _ _ _ us hl => match us, hl with | [_, _, _], _ => rfl) (ok_fewest_deeds hK B F_fewest_deeds C_first_with) mono_fewest_deeds meets_fewest_deeds
  have C_deeds : Cal P w0 K mg base S 12 "deeds" ps_deeds deeds_s := cal_of F_deeds m_deeds (F_deeds.binds (ps := ps_deeds) fun _ _ _ _ _ _ us hl => match us, hl with | [_, _, _], _ => rfl) (ok_deeds hK B F_deeds C_first_with) mono_deeds meets_deeds
  have C_is_deed : Cal P w0 K mg base S 7 "is_deed" ps_is_deed is_deed_s := cal_of F_is_deed m_is_deed (F_is_deed.binds (ps := ps_is_deed) fun _ _ _ _ _ _ us hl => match us, hl with | [_, _], _ => rfl) (ok_is_deed hK B F_is_deed C_are_numbers C_deeds_of) mono_is_deed meets_is_deed
  have C_are_steps : Cal P w0 K mg base S 10 "are_steps" ps_are_steps are_steps_s := cal_of F_are_steps m_are_steps (F_are_steps.binds (ps := ps_are_steps) fun _ _ _ _ _ _ us hl => match us, hl with | [_, _], _ => rfl) (ok_are_steps hK B tb_are_steps (by rw [hSG]; exact (.tail _ (.tail _ (.head _)))) F_are_steps C_is_deed) mono_are_steps meets_are_steps
  have C_after_deeds : Cal P w0 K mg base S 11 "after_deeds" ps_after_deeds after_deeds_s := cal_of F_after_deeds m_after_deeds (F_after_deeds.binds (ps := ps_after_deeds) fun _ _ _ _ _ _ us hl => match us, hl with | [_, _, _], _ => rfl) (ok_after_deeds hK B F_after_deeds C_are_steps C_behind C_check C_check_state) mono_after_deeds meets_after_deeds
  have C_are_deeds : Cal P w0 K mg base S 13 "are_deeds" ps_are_deeds are_deeds_s := cal_of F_are_deeds m_are_deeds (F_are_deeds.binds (ps := ps_are_deeds) fun _ _ _ _ _ _ us hl => match us, hl with | [_, _, _, _], _ => rfl) (ok_are_deeds hK B F_are_deeds C_after_deeds C_are_steps C_fewest_deeds) mono_are_deeds meets_are_deeds
  have C_goals : Cal P w0 K mg base S 11 "goals" ps_goals goals_s := cal_of F_goals m_goals (F_goals.binds (ps := ps_goals) fun _ _ _ _ _ _ us hl => match us, hl with | [_, _], _ => rfl) (ok_goals hK B F_goals C_all_reached C_check_state) mono_goals meets_goals
  have C__law_taken : Cal P w0 K mg base S 1 "_law_taken" ps__law_taken _law_taken_s := ⟨⟨_, _, ok__law_taken hK B F__law_taken, m__law_taken, F__law_taken.kp, (F__law_taken.binds (ps := ps__law_taken) fun _ _ _ _ _ _ us hl => match us, hl with | [_, _], _ => rfl)⟩, mono__law_taken⟩
  have C__law_pick : Cal P w0 K mg base S 3 "_law_pick" ps__law_pick _law_pick_s := cal_of F__law_pick m__law_pick (F__law_pick.binds (ps := ps__law_pick) fun _ _ _ _ _ _ us hl => match us, hl with | [_, _], _ => rfl) (ok__law_pick hK B F__law_pick C__law_taken) mono__law_pick meets__law_pick
  have C__law_behind : Cal P w0 K mg base S 3 "_law_behind" ps__law_behind _law_behind_s := cal_of F__law_behind m__law_behind (F__law_behind.binds (ps := ps__law_behind) fun _ _ _ _ _ _ us hl => match us, hl with | [_, _, _], _ => rfl) (ok__law_behind hK B F__law_behind ) mono__law_behind meets__law_behind
  have C__law_levels : Cal P w0 K mg base S 4 "_law_levels" ps__law_levels _law_levels_s := cal_of F__law_levels m__law_levels (F__law_levels.binds (ps := ps__law_levels) fun _ _ _ _ _ _ us hl => match us, hl with | [_, _], _ => rfl) (ok__law_levels hK B F__law_levels C__law_behind) mono__law_levels meets__law_levels
  have C__law_alike : Cal P w0 K mg base S 13 "_law_alike" ps__law_alike (alikeS 12) := cal_alike F__law_alike m__law_alike (F__law_alike.binds (ps := ps__law_alike) fun _ _ _ _ _ _ us hl => match us, hl with | [_, _], _ => rfl) (fun j sp C => ok__law_alike hK B F__law_alike C) 12
  have C__law_are_deeds : Cal P w0 K mg base S 3 "_law_are_deeds" ps__law_are_deeds _law_are_deeds_s := cal_of F__law_are_deeds m__law_are_deeds (F__law_are_deeds.binds (ps := ps__law_are_deeds) fun _ _ _ _ _ _ us hl => match us, hl with | [_, _], _ => rfl) (ok__law_are_deeds hK B F__law_are_deeds ) mono__law_are_deeds meets__law_are_deeds
  have C__law_refused : Cal P w0 K mg base S 16 "_law_refused" ps__law_refused _law_refused_s := cal_of F__law_refused m__law_refused (F__law_refused.binds (ps := ps__law_refused) fun _ _ _ _ _ _ us hl => match us, hl with | [_, _, _], _ => rfl) (ok__law_refused hK B tb__law_refused HF hSB (by rw [hST]; exact (.head _)) (by rw [hST]; exact hTu__law_refused) F__law_refused C__law_alike C__law_pick C_after_deeds C_are_deeds C_deeds C_fewest_deeds C_goals C_many_states) mono__law_refused meets__law_refused
  exact ok_law hK B tb_law HF hSB (by rw [hST]; exact (.tail _ (.head _))) (by rw [hST]; exact hTu_law) C__law_alike C__law_are_deeds C__law_behind C__law_levels C__law_pick C__law_refused C__law_taken C_after_deeds C_are_deeds C_deeds C_fewest_deeds C_goals C_many_states N0 H0 A outer s H E hr
theorem all_mk {l : PySem.W.OpenLaw} {q : Program} {w : World} {K : PySem.W.Frag} {h : Heap} {mg : Str → Option Value} {fa : Addr} (X : K.In h) (G : h.Ns mainGlobals mg) (hfa : mg "law" = some (.ref fa))
    (hTab : ∀ (y : Str) (c P : Addr), ((recsOf q).find? (fun e => e.name == y)).isSome = true → PySem.W.tabIn K y = some (c, P) → PySem.W.CodeHd h c P ∧ h.get? P = some { cls := .none, data := .fields #[] })
    {f_is_number : Addr} {od_is_number an_is_number : Option Addr} {oc_is_number kV_is_number dc_is_number pm_is_number cd_is_number ct_is_number : Value} {sl_is_number : Array (Option Value)}
    (a_is_number : PySem.W.nsIn K mainGlobals "is_number" = some (some (.ref f_is_number))) (l_is_number : K.lookup f_is_number = some ⟨oc_is_number, od_is_number, .func (PySem.W.fnOf "is_number" "is_number" (defArgs st_is_number) (defBody st_is_number) (defScope st_is_number) .none kV_is_number dc_is_number pm_is_number an_is_number cd_is_number ct_is_number), sl_is_number⟩) (c_is_number : PySem.W.codeIn K cd_is_number "is_number" = true) (k_is_number : PySem.W.keepIn K (.ref f_is_number) = true)
    {f_check : Addr} {od_check an_check : Option Addr} {oc_check kV_check dc_check pm_check cd_check ct_check : Value} {sl_check : Array (Option Value)}
    (a_check : PySem.W.nsIn K mainGlobals "check" = some (some (.ref f_check))) (l_check : K.lookup f_check = some ⟨oc_check, od_check, .func (PySem.W.fnOf "check" "check" (defArgs st_check) (defBody st_check) (defScope st_check) .none kV_check dc_check pm_check an_check cd_check ct_check), sl_check⟩) (c_check : PySem.W.codeIn K cd_check "check" = true) (k_check : PySem.W.keepIn K (.ref f_check) = true)
    {f_are_numbers : Addr} {od_are_numbers an_are_numbers : Option Addr} {oc_are_numbers kV_are_numbers dc_are_numbers pm_are_numbers ct_are_numbers : Value} {sl_are_numbers : Array (Option Value)} {cc_are_numbers PP_are_numbers : Addr}
    (a_are_numbers : PySem.W.nsIn K mainGlobals "are_numbers" = some (some (.ref f_are_numbers))) (l_are_numbers : K.lookup f_are_numbers = some ⟨oc_are_numbers, od_are_numbers, .func (PySem.W.fnOf "are_numbers" "are_numbers" (defArgs st_are_numbers) (defBody st_are_numbers) (defScope st_are_numbers) .none kV_are_numbers dc_are_numbers pm_are_numbers an_are_numbers (.ref cc_are_numbers) ct_are_numbers), sl_are_numbers⟩) (c_are_numbers : PySem.W.codeIn K (.ref cc_are_numbers) "are_numbers" = true) (k_are_numbers : PySem.W.keepIn K (.ref f_are_numbers) = true) (t_are_numbers : PySem.W.tabIn K "are_numbers" = some (cc_are_numbers, PP_are_numbers)) (n_are_numbers : K.lookup PP_are_numbers = none) (r_are_numbers : ((recsOf q).find? (fun e => e.name == ("are_numbers" : Str))).isSome = true)
    {f_check_rooms : Addr} {od_check_rooms an_check_rooms : Option Addr} {oc_check_rooms kV_check_rooms dc_check_rooms pm_check_rooms cd_check_rooms ct_check_rooms : Value} {sl_check_rooms : Array (Option Value)}
    (a_check_rooms : PySem.W.nsIn K mainGlobals "check_rooms" = some (some (.ref f_check_rooms))) (l_check_rooms : K.lookup f_check_rooms = some ⟨oc_check_rooms, od_check_rooms, .func (PySem.W.fnOf "check_rooms" "check_rooms" (defArgs st_check_rooms) (defBody st_check_rooms) (defScope st_check_rooms) .none kV_check_rooms dc_check_rooms pm_check_rooms an_check_rooms cd_check_rooms ct_check_rooms), sl_check_rooms⟩) (c_check_rooms : PySem.W.codeIn K cd_check_rooms "check_rooms" = true) (k_check_rooms : PySem.W.keepIn K (.ref f_check_rooms) = true)
    {f_check_state : Addr} {od_check_state an_check_state : Option Addr} {oc_check_state kV_check_state dc_check_state pm_check_state ct_check_state : Value} {sl_check_state : Array (Option Value)} {cc_check_state PP_check_state : Addr}
    (a_check_state : PySem.W.nsIn K mainGlobals "check_state" = some (some (.ref f_check_state))) (l_check_state : K.lookup f_check_state = some ⟨oc_check_state, od_check_state, .func (PySem.W.fnOf "check_state" "check_state" (defArgs st_check_state) (defBody st_check_state) (defScope st_check_state) .none kV_check_state dc_check_state pm_check_state an_check_state (.ref cc_check_state) ct_check_state), sl_check_state⟩) (c_check_state : PySem.W.codeIn K (.ref cc_check_state) "check_state" = true) (k_check_state : PySem.W.keepIn K (.ref f_check_state) = true) (t_check_state : PySem.W.tabIn K "check_state" = some (cc_check_state, PP_check_state)) (n_check_state : K.lookup PP_check_state = none) (r_check_state : ((recsOf q).find? (fun e => e.name == ("check_state" : Str))).isSome = true)
    {f_deeds_of : Addr} {od_deeds_of an_deeds_of : Option Addr} {oc_deeds_of kV_deeds_of dc_deeds_of pm_deeds_of cd_deeds_of ct_deeds_of : Value} {sl_deeds_of : Array (Option Value)}
    (a_deeds_of : PySem.W.nsIn K mainGlobals "deeds_of" = some (some (.ref f_deeds_of))) (l_deeds_of : K.lookup f_deeds_of = some ⟨oc_deeds_of, od_deeds_of, .func (PySem.W.fnOf "deeds_of" "deeds_of" (defArgs st_deeds_of) (defBody st_deeds_of) (defScope st_deeds_of) .none kV_deeds_of dc_deeds_of pm_deeds_of an_deeds_of cd_deeds_of ct_deeds_of), sl_deeds_of⟩) (c_deeds_of : PySem.W.codeIn K cd_deeds_of "deeds_of" = true) (k_deeds_of : PySem.W.keepIn K (.ref f_deeds_of) = true)
    {f_behind : Addr} {od_behind an_behind : Option Addr} {oc_behind kV_behind dc_behind pm_behind cd_behind ct_behind : Value} {sl_behind : Array (Option Value)}
    (a_behind : PySem.W.nsIn K mainGlobals "behind" = some (some (.ref f_behind))) (l_behind : K.lookup f_behind = some ⟨oc_behind, od_behind, .func (PySem.W.fnOf "behind" "behind" (defArgs st_behind) (defBody st_behind) (defScope st_behind) .none kV_behind dc_behind pm_behind an_behind cd_behind ct_behind), sl_behind⟩) (c_behind : PySem.W.codeIn K cd_behind "behind" = true) (k_behind : PySem.W.keepIn K (.ref f_behind) = true)
    {f_all_reached : Addr} {od_all_reached an_all_reached : Option Addr} {oc_all_reached kV_all_reached dc_all_reached pm_all_reached cd_all_reached ct_all_reached : Value} {sl_all_reached : Array (Option Value)}
    (a_all_reached : PySem.W.nsIn K mainGlobals "all_reached" = some (some (.ref f_all_reached))) (l_all_reached : K.lookup f_all_reached = some ⟨oc_all_reached, od_all_reached, .func (PySem.W.fnOf "all_reached" "all_reached" (defArgs st_all_reached) (defBody st_all_reached) (defScope st_all_reached) .none kV_all_reached dc_all_reached pm_all_reached an_all_reached cd_all_reached ct_all_reached), sl_all_reached⟩) (c_all_reached : PySem.W.codeIn K cd_all_reached "all_reached" = true) (k_all_reached : PySem.W.keepIn K (.ref f_all_reached) = true)
    {f_many_states : Addr} {od_many_states an_many_states : Option Addr} {oc_many_states kV_many_states dc_many_states pm_many_states cd_many_states ct_many_states : Value} {sl_many_states : Array (Option Value)}
    (a_many_states : PySem.W.nsIn K mainGlobals "many_states" = some (some (.ref f_many_states))) (l_many_states : K.lookup f_many_states = some ⟨oc_many_states, od_many_states, .func (PySem.W.fnOf "many_states" "many_states" (defArgs st_many_states) (defBody st_many_states) (defScope st_many_states) .none kV_many_states dc_many_states pm_many_states an_many_states cd_many_states ct_many_states), sl_many_states⟩) (c_many_states : PySem.W.codeIn K cd_many_states "many_states" = true) (k_many_states : PySem.W.keepIn K (.ref f_many_states) = true)
    {f_first_with : Addr} {od_first_with an_first_with : Option Addr} {oc_first_with kV_first_with dc_first_with pm_first_with cd_first_with ct_first_with : Value} {sl_first_with : Array (Option Value)}
    (a_first_with : PySem.W.nsIn K mainGlobals "first_with" = some (some (.ref f_first_with))) (l_first_with : K.lookup f_first_with = some ⟨oc_first_with, od_first_with, .func (PySem.W.fnOf "first_with" "first_with" (defArgs st_first_with) (defBody st_first_with) (defScope st_first_with) .none kV_first_with dc_first_with pm_first_with an_first_with cd_first_with ct_first_with), sl_first_with⟩) (c_first_with : PySem.W.codeIn K cd_first_with "first_with" = true) (k_first_with : PySem.W.keepIn K (.ref f_first_with) = true)
    {f_fewest_deeds : Addr} {od_fewest_deeds an_fewest_deeds : Option Addr} {oc_fewest_deeds kV_fewest_deeds dc_fewest_deeds pm_fewest_deeds cd_fewest_deeds ct_fewest_deeds : Value} {sl_fewest_deeds : Array (Option Value)}
    (a_fewest_deeds : PySem.W.nsIn K mainGlobals "fewest_deeds" = some (some (.ref f_fewest_deeds))) (l_fewest_deeds : K.lookup f_fewest_deeds = some ⟨oc_fewest_deeds, od_fewest_deeds, .func (PySem.W.fnOf "fewest_deeds" "fewest_deeds" (defArgs st_fewest_deeds) (defBody st_fewest_deeds) (defScope st_fewest_deeds) .none kV_fewest_deeds dc_fewest_deeds pm_fewest_deeds an_fewest_deeds cd_fewest_deeds ct_fewest_deeds), sl_fewest_deeds⟩) (c_fewest_deeds : PySem.W.codeIn K cd_fewest_deeds "fewest_deeds" = true) (k_fewest_deeds : PySem.W.keepIn K (.ref f_fewest_deeds) = true)
    {f_deeds : Addr} {od_deeds an_deeds : Option Addr} {oc_deeds kV_deeds dc_deeds pm_deeds cd_deeds ct_deeds : Value} {sl_deeds : Array (Option Value)}
    (a_deeds : PySem.W.nsIn K mainGlobals "deeds" = some (some (.ref f_deeds))) (l_deeds : K.lookup f_deeds = some ⟨oc_deeds, od_deeds, .func (PySem.W.fnOf "deeds" "deeds" (defArgs st_deeds) (defBody st_deeds) (defScope st_deeds) .none kV_deeds dc_deeds pm_deeds an_deeds cd_deeds ct_deeds), sl_deeds⟩) (c_deeds : PySem.W.codeIn K cd_deeds "deeds" = true) (k_deeds : PySem.W.keepIn K (.ref f_deeds) = true)
    {f_is_deed : Addr} {od_is_deed an_is_deed : Option Addr} {oc_is_deed kV_is_deed dc_is_deed pm_is_deed cd_is_deed ct_is_deed : Value} {sl_is_deed : Array (Option Value)}
    (a_is_deed : PySem.W.nsIn K mainGlobals "is_deed" = some (some (.ref f_is_deed))) (l_is_deed : K.lookup f_is_deed = some ⟨oc_is_deed, od_is_deed, .func (PySem.W.fnOf "is_deed" "is_deed" (defArgs st_is_deed) (defBody st_is_deed) (defScope st_is_deed) .none kV_is_deed dc_is_deed pm_is_deed an_is_deed cd_is_deed ct_is_deed), sl_is_deed⟩) (c_is_deed : PySem.W.codeIn K cd_is_deed "is_deed" = true) (k_is_deed : PySem.W.keepIn K (.ref f_is_deed) = true)
    {f_are_steps : Addr} {od_are_steps an_are_steps : Option Addr} {oc_are_steps kV_are_steps dc_are_steps pm_are_steps ct_are_steps : Value} {sl_are_steps : Array (Option Value)} {cc_are_steps PP_are_steps : Addr}
    (a_are_steps : PySem.W.nsIn K mainGlobals "are_steps" = some (some (.ref f_are_steps))) (l_are_steps : K.lookup f_are_steps = some ⟨oc_are_steps, od_are_steps, .func (PySem.W.fnOf "are_steps" "are_steps" (defArgs st_are_steps) (defBody st_are_steps) (defScope st_are_steps) .none kV_are_steps dc_are_steps pm_are_steps an_are_steps (.ref cc_are_steps) ct_are_steps), sl_are_steps⟩) (c_are_steps : PySem.W.codeIn K (.ref cc_are_steps) "are_steps" = true) (k_are_steps : PySem.W.keepIn K (.ref f_are_steps) = true) (t_are_steps : PySem.W.tabIn K "are_steps" = some (cc_are_steps, PP_are_steps)) (n_are_steps : K.lookup PP_are_steps = none) (r_are_steps : ((recsOf q).find? (fun e => e.name == ("are_steps" : Str))).isSome = true)
    {f_after_deeds : Addr} {od_after_deeds an_after_deeds : Option Addr} {oc_after_deeds kV_after_deeds dc_after_deeds pm_after_deeds cd_after_deeds ct_after_deeds : Value} {sl_after_deeds : Array (Option Value)}
    (a_after_deeds : PySem.W.nsIn K mainGlobals "after_deeds" = some (some (.ref f_after_deeds))) (l_after_deeds : K.lookup f_after_deeds = some ⟨oc_after_deeds, od_after_deeds, .func (PySem.W.fnOf "after_deeds" "after_deeds" (defArgs st_after_deeds) (defBody st_after_deeds) (defScope st_after_deeds) .none kV_after_deeds dc_after_deeds pm_after_deeds an_after_deeds cd_after_deeds ct_after_deeds), sl_after_deeds⟩) (c_after_deeds : PySem.W.codeIn K cd_after_deeds "after_deeds" = true) (k_after_deeds : PySem.W.keepIn K (.ref f_after_deeds) = true)
    {f_are_deeds : Addr} {od_are_deeds an_are_deeds : Option Addr} {oc_are_deeds kV_are_deeds dc_are_deeds pm_are_deeds cd_are_deeds ct_are_deeds : Value} {sl_are_deeds : Array (Option Value)}
    (a_are_deeds : PySem.W.nsIn K mainGlobals "are_deeds" = some (some (.ref f_are_deeds))) (l_are_deeds : K.lookup f_are_deeds = some ⟨oc_are_deeds, od_are_deeds, .func (PySem.W.fnOf "are_deeds" "are_deeds" (defArgs st_are_deeds) (defBody st_are_deeds) (defScope st_are_deeds) .none kV_are_deeds dc_are_deeds pm_are_deeds an_are_deeds cd_are_deeds ct_are_deeds), sl_are_deeds⟩) (c_are_deeds : PySem.W.codeIn K cd_are_deeds "are_deeds" = true) (k_are_deeds : PySem.W.keepIn K (.ref f_are_deeds) = true)
    {f_goals : Addr} {od_goals an_goals : Option Addr} {oc_goals kV_goals dc_goals pm_goals cd_goals ct_goals : Value} {sl_goals : Array (Option Value)}
    (a_goals : PySem.W.nsIn K mainGlobals "goals" = some (some (.ref f_goals))) (l_goals : K.lookup f_goals = some ⟨oc_goals, od_goals, .func (PySem.W.fnOf "goals" "goals" (defArgs st_goals) (defBody st_goals) (defScope st_goals) .none kV_goals dc_goals pm_goals an_goals cd_goals ct_goals), sl_goals⟩) (c_goals : PySem.W.codeIn K cd_goals "goals" = true) (k_goals : PySem.W.keepIn K (.ref f_goals) = true)
    {f__law_taken : Addr} {od__law_taken an__law_taken : Option Addr} {oc__law_taken kV__law_taken dc__law_taken pm__law_taken cd__law_taken ct__law_taken : Value} {sl__law_taken : Array (Option Value)}
    (a__law_taken : PySem.W.nsIn K mainGlobals "_law_taken" = some (some (.ref f__law_taken))) (l__law_taken : K.lookup f__law_taken = some ⟨oc__law_taken, od__law_taken, .func (PySem.W.fnOf "_law_taken" "_law_taken" (defArgs st__law_taken) (defBody st__law_taken) (defScope st__law_taken) .none kV__law_taken dc__law_taken pm__law_taken an__law_taken cd__law_taken ct__law_taken), sl__law_taken⟩) (c__law_taken : PySem.W.codeIn K cd__law_taken "_law_taken" = true) (k__law_taken : PySem.W.keepIn K (.ref f__law_taken) = true)
    {f__law_pick : Addr} {od__law_pick an__law_pick : Option Addr} {oc__law_pick kV__law_pick dc__law_pick pm__law_pick cd__law_pick ct__law_pick : Value} {sl__law_pick : Array (Option Value)}
    (a__law_pick : PySem.W.nsIn K mainGlobals "_law_pick" = some (some (.ref f__law_pick))) (l__law_pick : K.lookup f__law_pick = some ⟨oc__law_pick, od__law_pick, .func (PySem.W.fnOf "_law_pick" "_law_pick" (defArgs st__law_pick) (defBody st__law_pick) (defScope st__law_pick) .none kV__law_pick dc__law_pick pm__law_pick an__law_pick cd__law_pick ct__law_pick), sl__law_pick⟩) (c__law_pick : PySem.W.codeIn K cd__law_pick "_law_pick" = true) (k__law_pick : PySem.W.keepIn K (.ref f__law_pick) = true)
    {f__law_behind : Addr} {od__law_behind an__law_behind : Option Addr} {oc__law_behind kV__law_behind dc__law_behind pm__law_behind cd__law_behind ct__law_behind : Value} {sl__law_behind : Array (Option Value)}
    (a__law_behind : PySem.W.nsIn K mainGlobals "_law_behind" = some (some (.ref f__law_behind))) (l__law_behind : K.lookup f__law_behind = some ⟨oc__law_behind, od__law_behind, .func (PySem.W.fnOf "_law_behind" "_law_behind" (defArgs st__law_behind) (defBody st__law_behind) (defScope st__law_behind) .none kV__law_behind dc__law_behind pm__law_behind an__law_behind cd__law_behind ct__law_behind), sl__law_behind⟩) (c__law_behind : PySem.W.codeIn K cd__law_behind "_law_behind" = true) (k__law_behind : PySem.W.keepIn K (.ref f__law_behind) = true)
    {f__law_levels : Addr} {od__law_levels an__law_levels : Option Addr} {oc__law_levels kV__law_levels dc__law_levels pm__law_levels cd__law_levels ct__law_levels : Value} {sl__law_levels : Array (Option Value)}
    (a__law_levels : PySem.W.nsIn K mainGlobals "_law_levels" = some (some (.ref f__law_levels))) (l__law_levels : K.lookup f__law_levels = some ⟨oc__law_levels, od__law_levels, .func (PySem.W.fnOf "_law_levels" "_law_levels" (defArgs st__law_levels) (defBody st__law_levels) (defScope st__law_levels) .none kV__law_levels dc__law_levels pm__law_levels an__law_levels cd__law_levels ct__law_levels), sl__law_levels⟩) (c__law_levels : PySem.W.codeIn K cd__law_levels "_law_levels" = true) (k__law_levels : PySem.W.keepIn K (.ref f__law_levels) = true)
    {f__law_alike : Addr} {od__law_alike an__law_alike : Option Addr} {oc__law_alike kV__law_alike dc__law_alike pm__law_alike cd__law_alike ct__law_alike : Value} {sl__law_alike : Array (Option Value)}
    (a__law_alike : PySem.W.nsIn K mainGlobals "_law_alike" = some (some (.ref f__law_alike))) (l__law_alike : K.lookup f__law_alike = some ⟨oc__law_alike, od__law_alike, .func (PySem.W.fnOf "_law_alike" "_law_alike" (defArgs st__law_alike) (defBody st__law_alike) (defScope st__law_alike) .none kV__law_alike dc__law_alike pm__law_alike an__law_alike cd__law_alike ct__law_alike), sl__law_alike⟩) (c__law_alike : PySem.W.codeIn K cd__law_alike "_law_alike" = true) (k__law_alike : PySem.W.keepIn K (.ref f__law_alike) = true)
    {f__law_are_deeds : Addr} {od__law_are_deeds an__law_are_deeds : Option Addr} {oc__law_are_deeds kV__law_are_deeds dc__law_are_deeds pm__law_are_deeds cd__law_are_deeds ct__law_are_deeds : Value} {sl__law_are_deeds : Array (Option Value)}
    (a__law_are_deeds : PySem.W.nsIn K mainGlobals "_law_are_deeds" = some (some (.ref f__law_are_deeds))) (l__law_are_deeds : K.lookup f__law_are_deeds = some ⟨oc__law_are_deeds, od__law_are_deeds, .func (PySem.W.fnOf "_law_are_deeds" "_law_are_deeds" (defArgs st__law_are_deeds) (defBody st__law_are_deeds) (defScope st__law_are_deeds) .none kV__law_are_deeds dc__law_are_deeds pm__law_are_deeds an__law_are_deeds cd__law_are_deeds ct__law_are_deeds), sl__law_are_deeds⟩) (c__law_are_deeds : PySem.W.codeIn K cd__law_are_deeds "_law_are_deeds" = true) (k__law_are_deeds : PySem.W.keepIn K (.ref f__law_are_deeds) = true)
    {f__law_heard : Addr} {od__law_heard an__law_heard : Option Addr} {oc__law_heard kV__law_heard dc__law_heard pm__law_heard cd__law_heard ct__law_heard : Value} {sl__law_heard : Array (Option Value)}
    (a__law_heard : PySem.W.nsIn K mainGlobals "_law_heard" = some (some (.ref f__law_heard))) (l__law_heard : K.lookup f__law_heard = some ⟨oc__law_heard, od__law_heard, .func (PySem.W.fnOf "_law_heard" "_law_heard" (defArgs st__law_heard) (defBody st__law_heard) (defScope st__law_heard) .none kV__law_heard dc__law_heard pm__law_heard an__law_heard cd__law_heard ct__law_heard), sl__law_heard⟩) (c__law_heard : PySem.W.codeIn K cd__law_heard "_law_heard" = true) (k__law_heard : PySem.W.keepIn K (.ref f__law_heard) = true)
    {f__law_refused : Addr} {od__law_refused an__law_refused : Option Addr} {oc__law_refused kV__law_refused dc__law_refused pm__law_refused ct__law_refused : Value} {sl__law_refused : Array (Option Value)} {cc__law_refused PP__law_refused : Addr}
    (a__law_refused : PySem.W.nsIn K mainGlobals "_law_refused" = some (some (.ref f__law_refused))) (l__law_refused : K.lookup f__law_refused = some ⟨oc__law_refused, od__law_refused, .func (PySem.W.fnOf "_law_refused" "_law_refused" (defArgs st__law_refused) (defBody st__law_refused) (defScope st__law_refused) .none kV__law_refused dc__law_refused pm__law_refused an__law_refused (.ref cc__law_refused) ct__law_refused), sl__law_refused⟩) (c__law_refused : PySem.W.codeIn K (.ref cc__law_refused) "_law_refused" = true) (k__law_refused : PySem.W.keepIn K (.ref f__law_refused) = true) (t__law_refused : PySem.W.tabIn K "_law_refused" = some (cc__law_refused, PP__law_refused)) (n__law_refused : K.lookup PP__law_refused = none) (r__law_refused : ((recsOf q).find? (fun e => e.name == ("_law_refused" : Str))).isSome = true)
    {f_law : Addr} {od_law an_law : Option Addr} {oc_law kV_law dc_law pm_law ct_law : Value} {sl_law : Array (Option Value)} {cc_law PP_law : Addr}
    (a_law : PySem.W.nsIn K mainGlobals "law" = some (some (.ref f_law))) (l_law : K.lookup f_law = some ⟨oc_law, od_law, .func (PySem.W.fnOf "law" "law" (defArgs st_law) (defBody st_law) (defScope st_law) .none kV_law dc_law pm_law an_law (.ref cc_law) ct_law), sl_law⟩) (c_law : PySem.W.codeIn K (.ref cc_law) "law" = true) (k_law : PySem.W.keepIn K (.ref f_law) = true) (t_law : PySem.W.tabIn K "law" = some (cc_law, PP_law)) (n_law : K.lookup PP_law = none) (r_law : ((recsOf q).find? (fun e => e.name == ("law" : Str))).isSome = true)
    (z_all : PySem.W.nsIn K mainGlobals "all" = some none)
    (z_bool : PySem.W.nsIn K mainGlobals "bool" = some none)
    (z_dict : PySem.W.nsIn K mainGlobals "dict" = some none)
    (z_int : PySem.W.nsIn K mainGlobals "int" = some none)
    (z_isinstance : PySem.W.nsIn K mainGlobals "isinstance" = some none)
    (z_len : PySem.W.nsIn K mainGlobals "len" = some none)
    (z_list : PySem.W.nsIn K mainGlobals "list" = some none)
    (z_min : PySem.W.nsIn K mainGlobals "min" = some none)
    (z_range : PySem.W.nsIn K mainGlobals "range" = some none)
    (z_sorted : PySem.W.nsIn K mainGlobals "sorted" = some none)
    (z_str : PySem.W.nsIn K mainGlobals "str" = some none)
    (z_tuple : PySem.W.nsIn K mainGlobals "tuple" = some none)
    (z_zip : PySem.W.nsIn K mainGlobals "zip" = some none)
    {tk_EMPTY : Tok} (z_EMPTY : PySem.W.nsIn K mainGlobals "EMPTY" = some (some (.int (-2) tk_EMPTY)))
    {tk_FILL : Tok} (z_FILL : PySem.W.nsIn K mainGlobals "FILL" = some (some (.int (-1) tk_FILL)))
    {tk_MOST_ROOM : Tok} (z_MOST_ROOM : PySem.W.nsIn K mainGlobals "MOST_ROOM" = some (some (.int (12) tk_MOST_ROOM)))
    {tk_MOST_VESSELS : Tok} (z_MOST_VESSELS : PySem.W.nsIn K mainGlobals "MOST_VESSELS" = some (some (.int (3) tk_MOST_VESSELS)))
    {nm qn : Str} {NC : Addr} {bs : List Value} {sn : List Str} {sub : List Value} {ab : Bool} {col : Option Bool} {dd : Option Addr} {m0 m1 m2 m3 m5 : Option Value} {bm : List Value} {Cb Vb fI ccb cda : Addr}
    (aC : PySem.W.nsIn K mainGlobals "BadArgument" = some (some (.ref Cb))) (aV : PySem.W.nsIn K mainGlobals "VanError" = some (some (.ref Vb))) (zS : PySem.W.nsIn K mainGlobals "super" = some none) (zE : PySem.W.nsIn K mainGlobals "ValueError" = some none)
    (xC : K.lookup Cb = some (excC nm qn Cb NC bs bm sn sub ab col dd m0 m1 m2 m3 m5)) (xR : PySem.HandSPX.refsVE bm = true) (xS : PySem.W.ks_superIn K Cb Cb "__init__" = some (some (.builtin "ValueError.__init__")))
    (x1 : PySem.W.findIn K (.ref Cb) "__setattr__" = some (some (.builtin "object.__setattr__"))) (x2 : PySem.W.findIn K (.ref Cb) "name" = some none) (x3 : PySem.W.findIn K (.ref Cb) "__init__" = some (some (.ref fI))) (x4 : PySem.W.typeIn K (.ref fI) = some (.type "function"))
    (x5 : PySem.W.keepIn K (.ref Cb) = true) (x6 : PySem.W.subIn K (.ref Cb) (.type "BaseException") = some true) (x7 : PySem.W.subIn K (.ref Cb) (.type "ValueError") = some true) (x8 : PySem.W.typeIn K (.ref Cb) = some (.type "type"))
    (x9 : PySem.W.nsIn K cStatics "thirdparty.any" = some none) (y0 : (l.prog.main.scope.names.lookup ("super" : Str)).isSome = false)
    {ocI dcI pmI ctI : Value} {odI anI : Option Addr} {slI : Array (Option Value)}
    {msg : Str} {jI : Nat} {p1 p2 q1 q2 q3 q4 q5 q6 q7 q8 q9 q10 q11 q12 q13 : Pos} {ccl : Value} {cdd : Option Addr} {vs : Array Value} {ccs : Array (Option Value)} {file : Str} {tf : Tok}
    (lI : K.lookup fI = some ⟨ocI, odI, .func (PySem.W.ksFn "__init__" "BadArgument.__init__" (badA p1 p2) (badB msg jI q1 q2 q3 q4 q5 q6 q7 q8 q9 q10 q11 q12 q13) badS .none .none dcI pmI anI (.ref cda) ctI ccb), slI⟩) (cI : PySem.W.codeIn K (.ref cda) "BadArgument.__init__" = true)
    (lD : K.lookup cda = some ⟨ccl, cdd, .fields vs, ccs⟩) (lF : vs[2]? = some (.str file tf)) (lP : ((l.prog.main.file : Str) == file) = true) (lM : msg.length ≤ 100) (lL : (q3.endLine == q8.line) = true)
    {cl1 : Value} {cl2 : Option Addr} {cl3 : Array (Option Value)} (lC : K.lookup ccb = some ⟨cl1, cl2, .cell (some (.ref Cb)), cl3⟩)
    (u1 : PySem.W.findIn K (.ref Cb) "__getattribute__" = some (some (.builtin "BaseException.__getattribute__"))) (u2 : PySem.W.findIn K (.ref Cb) "__getattr__" = some none) (u3 : PySem.W.hasDictIn K Cb = true) (u4 : PySem.W.findIn K (.ref Cb) "__class__" = some (some (.builtin "object.__class__")))
    (u5 : PySem.W.specialIn K (.builtin "object.__class__") "__get__" = some (some (.builtin "getset_descriptor.__get__"))) (u6 : PySem.W.takesIn K (.builtin "object.__class__") = some true) (u7 : PySem.W.mroIn K Cb (.type "object") = some true)
    (u8 : PySem.W.exmOne K (.ref Cb) (.ref Cb) = some true) (u9 : PySem.W.kitOne K (.ref Cb) (.ref Vb) = some true) (u10 : PySem.W.kitOne K (.ref Cb) (.type "ValueError") = some true)
    (hTu__law_refused : ∀ r ∈ ([(PP__law_refused, QT__law_refused), (PP_law, QT_law)] : List (Addr × Str)), r.1 = PP__law_refused → r.2 = QT__law_refused)
    (hTu_law : ∀ r ∈ ([(PP__law_refused, QT__law_refused), (PP_law, QT_law)] : List (Addr × Str)), r.1 = PP_law → r.2 = QT_law)
    (hTG : ∀ q ∈ ([PP_are_numbers, PP_check_state, PP_are_steps] : List Addr), ∀ t ∈ ([(PP__law_refused, QT__law_refused), (PP_law, QT_law)] : List (Addr × Str)), t.1 ≠ q)
    (plain : law_w { nx := fun _ => False, rt := fun d => d = .bool true, ex := noX } (none :: some .row :: List.replicate 18 none)) :
    LamX.LawAtS l w K (L2.CX l.prog w) 19 63 "script" mg fa h := by
  have e := hfa.symm.trans (PySem.W.mg_of X G a_law)
  cases e
  have F_is_number := funC_mk (st := st_is_number) l_is_number c_is_number k_is_number
  have m_is_number := PySem.W.mg_of X G a_is_number
  have F_check := funC_mk (st := st_check) l_check c_check k_check
  have m_check := PySem.W.mg_of X G a_check
  have F_are_numbers := funC_mk (st := st_are_numbers) l_are_numbers c_are_numbers k_are_numbers
  have m_are_numbers := PySem.W.mg_of X G a_are_numbers
  have F_check_rooms := funC_mk (st := st_check_rooms) l_check_rooms c_check_rooms k_check_rooms
  have m_check_rooms := PySem.W.mg_of X G a_check_rooms
  have F_check_state := funC_mk (st := st_check_state) l_check_state c_check_state k_check_state
  have m_check_state := PySem.W.mg_of X G a_check_state
  have F_deeds_of := funC_mk (st := st_deeds_of) l_deeds_of c_deeds_of k_deeds_of
  have m_deeds_of := PySem.W.mg_of X G a_deeds_of
  have F_behind := funC_mk (st := st_behind) l_behind c_behind k_behind
  have m_behind := PySem.W.mg_of X G a_behind
  have F_all_reached := funC_mk (st := st_all_reached) l_all_reached c_all_reached k_all_reached
  have m_all_reached := PySem.W.mg_of X G a_all_reached
  have F_many_states := funC_mk (st := st_many_states) l_many_states c_many_states k_many_states
  have m_many_states := PySem.W.mg_of X G a_many_states
  have F_first_with := funC_mk (st := st_first_with) l_first_with c_first_with k_first_with
  have m_first_with := PySem.W.mg_of X G a_first_with
  have F_fewest_deeds := funC_mk (st := st_fewest_deeds) l_fewest_deeds c_fewest_deeds k_fewest_deeds
  have m_fewest_deeds := PySem.W.mg_of X G a_fewest_deeds
  have F_deeds := funC_mk (st := st_deeds) l_deeds c_deeds k_deeds
  have m_deeds := PySem.W.mg_of X G a_deeds
  have F_is_deed := funC_mk (st := st_is_deed) l_is_deed c_is_deed k_is_deed
  have m_is_deed := PySem.W.mg_of X G a_is_deed
  have F_are_steps := funC_mk (st := st_are_steps) l_are_steps c_are_steps k_are_steps
  have m_are_steps := PySem.W.mg_of X G a_are_steps
  have F_after_deeds := funC_mk (st := st_after_deeds) l_after_deeds c_after_deeds k_after_deeds
  have m_after_deeds := PySem.W.mg_of X G a_after_deeds
  have F_are_deeds := funC_mk (st := st_are_deeds) l_are_deeds c_are_deeds k_are_deeds
  have m_are_deeds := PySem.W.mg_of X G a_are_deeds
  have F_goals := funC_mk (st := st_goals) l_goals c_goals k_goals
  have m_goals := PySem.W.mg_of X G a_goals
  have F__law_taken := funC_mk (st := st__law_taken) l__law_taken c__law_taken k__law_taken
  have m__law_taken := PySem.W.mg_of X G a__law_taken
  have F__law_pick := funC_mk (st := st__law_pick) l__law_pick c__law_pick k__law_pick
  have m__law_pick := PySem.W.mg_of X G a__law_pick
  have F__law_behind := funC_mk (st := st__law_behind) l__law_behind c__law_behind k__law_behind
  have m__law_behind := PySem.W.mg_of X G a__law_behind
  have F__law_levels := funC_mk (st := st__law_levels) l__law_levels c__law_levels k__law_levels
  have m__law_levels := PySem.W.mg_of X G a__law_levels
  have F__law_alike := funC_mk (st := st__law_alike) l__law_alike c__law_alike k__law_alike
  have m__law_alike := PySem.W.mg_of X G a__law_alike
  have F__law_are_deeds := funC_mk (st := st__law_are_deeds) l__law_are_deeds c__law_are_deeds k__law_are_deeds
  have m__law_are_deeds := PySem.W.mg_of X G a__law_are_deeds
  have F__law_heard := funC_mk (st := st__law_heard) l__law_heard c__law_heard k__law_heard
  have m__law_heard := PySem.W.mg_of X G a__law_heard
  have F__law_refused := funC_mk (st := st__law_refused) l__law_refused c__law_refused k__law_refused
  have m__law_refused := PySem.W.mg_of X G a__law_refused
  have F_law := funC_mk (st := st_law) l_law c_law k_law
  have B : Names mg := ⟨PySem.W.mg_none_of X G z_all, PySem.W.mg_none_of X G z_bool, PySem.W.mg_none_of X G z_dict, PySem.W.mg_none_of X G z_int, PySem.W.mg_none_of X G z_isinstance, PySem.W.mg_none_of X G z_len, PySem.W.mg_none_of X G z_list, PySem.W.mg_none_of X G z_min, PySem.W.mg_none_of X G z_range, PySem.W.mg_none_of X G z_sorted, PySem.W.mg_none_of X G z_str, PySem.W.mg_none_of X G z_tuple, PySem.W.mg_none_of X G z_zip, ⟨_, PySem.W.mg_of X G z_EMPTY⟩, ⟨_, PySem.W.mg_of X G z_FILL⟩, ⟨_, PySem.W.mg_of X G z_MOST_ROOM⟩, ⟨_, PySem.W.mg_of X G z_MOST_VESSELS⟩⟩
  have BAD : BadTxt l.prog K mg Cb fI ccb :=
    { gC := PySem.W.mg_of X G aC, gS := PySem.W.mg_none_of X G zS, cls := ⟨nm, qn, NC, bs, bm, sn, sub, ab, col, dd, m0, m1, m2, m3, m5, xC, xR⟩, sup := xS, sa := x1, noN := x2, iC := x3, tC := x4, kC := x5, exC := x6, veC := x7, tyC := x8, own := x9, top := y0,
      fn := ⟨_, _, _, _, _, _, _, _, _, _, _, _, _, _, _, _, _, _, _, _, _, _, _, _, _, _, _, _, _, _, _, lI, cI, lD, lF, lP, lM, lL⟩, cell := ⟨_, _, _, lC⟩ }
  have HT : HeardTxt K mg Cb Vb := ⟨PySem.W.mg_of X G aC, PySem.W.mg_of X G aV, B.n_isinstance, PySem.W.mg_none_of X G zE, ⟨u1, u2, x6, u3, u4, u5, u6, u7⟩, x2, u8, u9, u10⟩
  have HF : ∀ X' : Cx, X'.K = K → X'.mg = mg → HeardC X' f__law_heard Cb Vb := fun X' e1 e2 => by
    refine ⟨by rw [e1, e2]; exact HT, by rw [e2]; exact m__law_heard, by rw [e1]; exact k__law_heard, ?_⟩
    rw [e1]
    exact ⟨_, _, _, _, _, _, _, _, _, _, _, _, _, _, _, _, _, _, _, _, _, _, _, _, _, _, _, _, _, _, _, _, _, _, _, _, _, _, l__law_heard, c__law_heard, F__law_heard.binds (ps := ["ask"]) fun _ _ _ _ _ _ us hl => match us, hl with | [_], _ => rfl, C8.fnScope_by (by decide +kernel), .inl rfl, rfl, rfl, rfl, rfl, rfl⟩
  obtain ⟨h1_are_numbers, h2_are_numbers⟩ := hTab _ _ _ r_are_numbers t_are_numbers
  obtain ⟨h1_check_state, h2_check_state⟩ := hTab _ _ _ r_check_state t_check_state
  obtain ⟨h1_are_steps, h2_are_steps⟩ := hTab _ _ _ r_are_steps t_are_steps
  obtain ⟨h1__law_refused, h2__law_refused⟩ := hTab _ _ _ r__law_refused t__law_refused
  obtain ⟨h1_law, h2_law⟩ := hTab _ _ _ r_law t_law
  refine ⟨PySem.W.fnOf "law" "law" (defArgs st_law) (defBody st_law) (defScope st_law) .none kV_law dc_law pm_law an_law (.ref cc_law) ct_law, [(cc_are_numbers, PP_are_numbers), (cc_check_state, PP_check_state), (cc_are_steps, PP_are_steps), (cc__law_refused, PP__law_refused), (cc_law, PP_law)], spLaw K [(cc_are_numbers, PP_are_numbers), (cc_check_state, PP_check_state), (cc_are_steps, PP_are_steps), (cc__law_refused, PP__law_refused), (cc_law, PP_law)], (fun p hp => by
    simp only [List.mem_cons, List.not_mem_nil, or_false] at hp
    rcases hp with rfl | rfl | rfl | rfl | rfl
    · exact h2_are_numbers
    · exact h2_check_state
    · exact h2_are_steps
    · exact h2__law_refused
    · exact h2_law), (fun p hp => by
    simp only [List.mem_cons, List.not_mem_nil, or_false] at hp
    rcases hp with rfl | rfl | rfl | rfl | rfl
    · exact n_are_numbers
    · exact n_check_state
    · exact n_are_steps
    · exact n__law_refused
    · exact n_law), (fun p hp => by
    simp only [List.mem_cons, List.not_mem_nil, or_false] at hp
    rcases hp with rfl | rfl | rfl | rfl | rfl
    · exact h1_are_numbers
    · exact h1_check_state
    · exact h1_are_steps
    · exact h1__law_refused
    · exact h1_law), fun s u => .of_eq rfl, fun H a ns hl hb hT hS => ⟨a, ns, rfl, hT, hS, fun _ => rfl⟩, fun base hKb hNb hTB => ?_⟩
  have tb_are_numbers := hTB (cc_are_numbers, PP_are_numbers) (.head _)
  have tb_check_state := hTB (cc_check_state, PP_check_state) (.tail _ (.head _))
  have tb_are_steps := hTB (cc_are_steps, PP_are_steps) (.tail _ (.tail _ (.head _)))
  have tb__law_refused := hTB (cc__law_refused, PP__law_refused) (.tail _ (.tail _ (.tail _ (.head _))))
  have tb_law := hTB (cc_law, PP_law) (.tail _ (.tail _ (.tail _ (.tail _ (.head _)))))
  refine law_fn (by decide) (by decide) (cB := Cb) (cU := 0) (T := [(PP__law_refused, QT__law_refused), (PP_law, QT_law)]) (G := [PP_are_numbers, PP_check_state, PP_are_steps]) (N := law_N) (m := 18) (h0 := (defBody st_law).headD (.Pass ⟨0, 0, 0, 0⟩)) (rest := (defBody st_law).drop 1) F_law sc_law rfl rfl ?_ ?_ hTG (fun A outer s H E => ps_set sc_law.nd rfl (by first | exact .inl rfl | exact .inr rfl) (pe_lst (pa_cons (pv 0) (pa_cons pe_int (pa_cons pe_int (pa_cons pe_int pa_nil)))))) (fun S e1 e2 e3 e4 e5 => all_ok B BAD HT F_is_number m_is_number F_check m_check F_are_numbers m_are_numbers F_check_rooms m_check_rooms F_check_state m_check_state F_deeds_of m_deeds_of F_behind m_behind F_all_reached m_all_reached F_many_states m_many_states F_first_with m_first_with F_fewest_deeds m_fewest_deeds F_deeds m_deeds F_is_deed m_is_deed F_are_steps m_are_steps F_after_deeds m_after_deeds F_are_deeds m_are_deeds F_goals m_goals F__law_taken m__law_taken F__law_pick m__law_pick F__law_behind m__law_behind F__law_levels m__law_levels F__law_alike m__law_alike F__law_are_deeds m__law_are_deeds F__law_heard m__law_heard F__law_refused m__law_refused F_law HF tb_are_numbers tb_check_state tb_are_steps tb__law_refused tb_law hTu__law_refused hTu_law e1 e2 e3 e4) plain
  · intro q hq; simp at hq ⊢; grind
  · intro q hq; simp at hq ⊢; grind
end DD
open PySem PySem.W PyProof.Rows
set_option maxRecDepth 100000 in
set_option maxHeartbeats 0 in
theorem PySem.Challenge.cw_loadedvan_k25_whole_vessels_holds : PySem.Challenge.rw_loadedvan_k25_whole_vessels.Holds := by
  w_on; o_law; k_head; (case hw => w_witness2)
  k_fill
  refine DD.walk_end (l := PySem.Challenge.rw_loadedvan_k25_whole_vessels) (n := 63) (k := 19) (x := "script") (CX := fun w => L2.CX PySem.Challenge.rw_loadedvan_k25_whole_vessels.prog w) rfl (by decide) rfl ⟨rfl, by decide, by decide⟩ (fun w h Y => km_in_of Y) ?F ?Z
  case F =>
    intro w mg fa h hTab KX G hmg
    refine' DD.all_mk KX G hmg hTab ?a_is_number ?l_is_number ?c_is_number ?k_is_number ?a_check ?l_check ?c_check ?k_check ?a_are_numbers ?l_are_numbers ?c_are_numbers ?k_are_numbers ?t_are_numbers ?n_are_numbers ?r_are_numbers ?a_check_rooms ?l_check_rooms ?c_check_rooms ?k_check_rooms ?a_check_state ?l_check_state ?c_check_state ?k_check_state ?t_check_state ?n_check_state ?r_check_state ?a_deeds_of ?l_deeds_of ?c_deeds_of ?k_deeds_of ?a_behind ?l_behind ?c_behind ?k_behind ?a_all_reached ?l_all_reached ?c_all_reached ?k_all_reached ?a_many_states ?l_many_states ?c_many_states ?k_many_states ?a_first_with ?l_first_with ?c_first_with ?k_first_with ?a_fewest_deeds ?l_fewest_deeds ?c_fewest_deeds ?k_fewest_deeds ?a_deeds ?l_deeds ?c_deeds ?k_deeds ?a_is_deed ?l_is_deed ?c_is_deed ?k_is_deed ?a_are_steps ?l_are_steps ?c_are_steps ?k_are_steps ?t_are_steps ?n_are_steps ?r_are_steps ?a_after_deeds ?l_after_deeds ?c_after_deeds ?k_after_deeds ?a_are_deeds ?l_are_deeds ?c_are_deeds ?k_are_deeds ?a_goals ?l_goals ?c_goals ?k_goals ?a__law_taken ?l__law_taken ?c__law_taken ?k__law_taken ?a__law_pick ?l__law_pick ?c__law_pick ?k__law_pick ?a__law_behind ?l__law_behind ?c__law_behind ?k__law_behind ?a__law_levels ?l__law_levels ?c__law_levels ?k__law_levels ?a__law_alike ?l__law_alike ?c__law_alike ?k__law_alike ?a__law_are_deeds ?l__law_are_deeds ?c__law_are_deeds ?k__law_are_deeds ?a__law_heard ?l__law_heard ?c__law_heard ?k__law_heard ?a__law_refused ?l__law_refused ?c__law_refused ?k__law_refused ?t__law_refused ?n__law_refused ?r__law_refused ?a_law ?l_law ?c_law ?k_law ?t_law ?n_law ?r_law ?z_all ?z_bool ?z_dict ?z_int ?z_isinstance ?z_len ?z_list ?z_min ?z_range ?z_sorted ?z_str ?z_tuple ?z_zip ?z_EMPTY ?z_FILL ?z_MOST_ROOM ?z_MOST_VESSELS ?aC ?aV ?zS ?zE ?xC ?xR ?xS ?x1 ?x2 ?x3 ?x4 ?x5 ?x6 ?x7 ?x8 ?x9 ?y0 ?lI ?cI ?lD ?lF ?lP ?lM ?lL ?lC ?u1 ?u2 ?u3 ?u4 ?u5 ?u6 ?u7 ?u8 ?u9 ?u10 ?hTu__law_refused ?hTu_law ?hTG DD.plain_law
    (case a_is_number => k_is)
    (case l_is_number => k_is)
    (case c_is_number => k_is)
    (case k_is_number => k_is)
    (case a_check => k_is)
    (case l_check => k_is)
    (case c_check => k_is)
    (case k_check => k_is)
    (case a_are_numbers => k_is)
    (case l_are_numbers => k_is)
    (case c_are_numbers => k_is)
    (case k_are_numbers => k_is)
    (case t_are_numbers => first | k_is | rfl)
    (case n_are_numbers => first | k_is | rfl)
    (case r_are_numbers => decide +kernel)
    (case a_check_rooms => k_is)
    (case l_check_rooms => k_is)
    (case c_check_rooms => k_is)
    (case k_check_rooms => k_is)
    (case a_check_state => k_is)
    (case l_check_state => k_is)
    (case c_check_state => k_is)
    (case k_check_state => k_is)
    (case t_check_state => first | k_is | rfl)
    (case n_check_state => first | k_is | rfl)
    (case r_check_state => decide +kernel)
    (case a_deeds_of => k_is)
    (case l_deeds_of => k_is)
    (case c_deeds_of => k_is)
    (case k_deeds_of => k_is)
    (case a_behind => k_is)
    (case l_behind => k_is)
    (case c_behind => k_is)
    (case k_behind => k_is)
    (case a_all_reached => k_is)
    (case l_all_reached => k_is)
    (case c_all_reached => k_is)
    (case k_all_reached => k_is)
    (case a_many_states => k_is)
    (case l_many_states => k_is)
    (case c_many_states => k_is)
    (case k_many_states => k_is)
    (case a_first_with => k_is)
    (case l_first_with => k_is)
    (case c_first_with => k_is)
    (case k_first_with => k_is)
    (case a_fewest_deeds => k_is)
    (case l_fewest_deeds => k_is)
    (case c_fewest_deeds => k_is)
    (case k_fewest_deeds => k_is)
    (case a_deeds => k_is)
    (case l_deeds => k_is)
    (case c_deeds => k_is)
    (case k_deeds => k_is)
    (case a_is_deed => k_is)
    (case l_is_deed => k_is)
    (case c_is_deed => k_is)
    (case k_is_deed => k_is)
    (case a_are_steps => k_is)
    (case l_are_steps => k_is)
    (case c_are_steps => k_is)
    (case k_are_steps => k_is)
    (case t_are_steps => first | k_is | rfl)
    (case n_are_steps => first | k_is | rfl)
    (case r_are_steps => decide +kernel)
    (case a_after_deeds => k_is)
    (case l_after_deeds => k_is)
    (case c_after_deeds => k_is)
    (case k_after_deeds => k_is)
    (case a_are_deeds => k_is)
    (case l_are_deeds => k_is)
    (case c_are_deeds => k_is)
    (case k_are_deeds => k_is)
    (case a_goals => k_is)
    (case l_goals => k_is)
    (case c_goals => k_is)
    (case k_goals => k_is)
    (case a__law_taken => k_is)
    (case l__law_taken => k_is)
    (case c__law_taken => k_is)
    (case k__law_taken => k_is)
    (case a__law_pick => k_is)
    (case l__law_pick => k_is)
    (case c__law_pick => k_is)
    (case k__law_pick => k_is)
    (case a__law_behind => k_is)
    (case l__law_behind => k_is)
    (case c__law_behind => k_is)
    (case k__law_behind => k_is)
    (case a__law_levels => k_is)
    (case l__law_levels => k_is)
    (case c__law_levels => k_is)
    (case k__law_levels => k_is)
    (case a__law_alike => k_is)
    (case l__law_alike => k_is)
    (case c__law_alike => k_is)
    (case k__law_alike => k_is)
    (case a__law_are_deeds => k_is)
    (case l__law_are_deeds => k_is)
    (case c__law_are_deeds => k_is)
    (case k__law_are_deeds => k_is)
    (case a__law_heard => k_is)
    (case l__law_heard => k_is)
    (case c__law_heard => k_is)
    (case k__law_heard => k_is)
    (case a__law_refused => k_is)
    (case l__law_refused => k_is)
    (case c__law_refused => k_is)
    (case k__law_refused => k_is)
    (case t__law_refused => first | k_is | rfl)
    (case n__law_refused => first | k_is | rfl)
    (case r__law_refused => decide +kernel)
    (case a_law => k_is)
    (case l_law => k_is)
    (case c_law => k_is)
    (case k_law => k_is)
    (case t_law => first | k_is | rfl)
    (case n_law => first | k_is | rfl)
    (case r_law => decide +kernel)
    (case z_all => k_is)
    (case z_bool => k_is)
    (case z_dict => k_is)
    (case z_int => k_is)
    (case z_isinstance => k_is)
    (case z_len => k_is)
    (case z_list => k_is)
    (case z_min => k_is)
    (case z_range => k_is)
    (case z_sorted => k_is)
    (case z_str => k_is)
    (case z_tuple => k_is)
    (case z_zip => k_is)
    (case z_EMPTY => k_is)
    (case z_FILL => k_is)
    (case z_MOST_ROOM => k_is)
    (case z_MOST_VESSELS => k_is)
    (case aC => k_is)
    (case aV => k_is)
    (case zS => k_is)
    (case zE => k_is)
    (case xC => k_is)
    (case xR => decide +kernel)
    (case xS => first | k_is | kernel_rfl | rfl)
    (case x1 => k_is)
    (case x2 => k_is)
    (case x3 => k_is)
    (case x4 => k_is)
    (case x5 => k_is)
    (case x6 => k_is)
    (case x7 => k_is)
    (case x8 => k_is)
    (case x9 => k_is)
    (case y0 => decide +kernel)
    (case lI => k_is)
    (case cI => k_is)
    (case lD => k_is)
    (case lF => first | rfl | k_is)
    (case lP => decide +kernel)
    (case lM => decide +kernel)
    (case lL => decide +kernel)
    (case lC => k_is)
    (case u1 => first | k_is | rfl)
    (case u2 => first | k_is | rfl)
    (case u3 => first | k_is | rfl)
    (case u4 => first | k_is | rfl)
    (case u5 => first | k_is | rfl)
    (case u6 => first | k_is | rfl)
    (case u7 => first | k_is | rfl)
    (case u8 => first | k_is | rfl)
    (case u9 => first | k_is | rfl)
    (case u10 => first | k_is | rfl)
    (case hTu__law_refused => decide +kernel)
    (case hTu_law => decide +kernel)
    (case hTG => decide +kernel)
  case Z => 
    intro w H s e s' h
    exact DD.no_cx h
