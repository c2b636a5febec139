import PyProof.Rows.All
import HandS.ForMost
import HandS.Exc
import HandS.Lambda
import HandS.GenList
import HandS.AnyAll
import PyProof.TupleOfGen
import PyProof.SumAny
import HandS.ExcOwn
import HandS.IsInst
import HandS.SortInts
import HandS.TupMul
import HandS.TupAny
import HandS.TupLe
import HandS.Deep
import HandS.Style
import HandS.More
import HandS.Flow
import HandS.SortKw
import KE.DataMinMax
import HandS.Iter
import HandS.Zip
import HandS.Words
import HandS.Codes
import KE.KExcSuper
import KE.KExcInit
import KE.KSuper
import HandS.Ends
import HandS.ExcInit
import HandS.FStr
import HandS.ExcIs
import HandS.ExcField
import HandS.TryMany
import HandS.Wide
import HandS.EndTab
import KE.KNest
import KE.GoesMore
import Wide.All
import OpenK.AllK
import Wide.FinOn
import PyProof.EqAt
import PyProof.EqKinds
import PyProof.TupleCall
import PySem.Challenge.RW_loadedvan_k19_whole_shares
set_option Elab.async false
set_option linter.all false
set_option maxRecDepth 100000
set_option maxHeartbeats 2000000
/-! GenX: all, any, sum, tuple of a generator expression whose element is any expression of the layer. -/
namespace GX
open PySem PySem.Spec PyProof.Rows L2 GenW
/-- the context of a generator expression's frame -/
abbrev gcx (X : Cx) (A : Around) (s : Shared) (H : Hp) (cenv : Env) (fp : List Addr) (pn : List (Addr × Obj)) : Cx :=
  { X with A := A, s_0 := s, H_0 := H, env := cenv, outer := X.stack, stack := cenv :: X.stack, ex := fp, fn := fun _ => false, pn := pn, xe := fun _ _ => False }
/-- the scope of a generator expression -/
structure GOk (scope : Scope) : Prop where
  co : scope.isCoroutine = false
  cell : ∀ y ∈ scope.names, y.2 ≠ .cell
  dot : scope.names.lookup (".0" : Str) = some NameKind.local
abbrev genv (X : Cx) (scope : Scope) (C : Addr) (code : Value) : Env := genEnv scope (cloFrom X.env.cells scope.names []) C code builtinsNs X.env
section
variable {X : Cx} {pins : List (Addr × Obj)} {σ : L2.St} {H : Hp} {s : Shared}
theorem gen_inv {A : Around} {scope : Scope} {own : List (Str × Nat)} {fp : List Addr} {code : Value} {pn : List (Addr × Obj)} {h5 : Heap} {g5 : Array GenState} {t5 : Nat} {m : Str → Option Value}
    (I : Inv X pins σ H s) (ok : BlkOk X.N X.env.scope scope own) (gk : GOk scope) (hN : X.N.Nodup) (hfp : ∀ b ∈ fp, FpOk X pins H b ∧ b < s.heap.objs.size)
    (hA : A.frames = some (genv X scope s.heap.objs.size code :: X.stack)) (hh : A.handled = none)
    (kp : ∀ b o, s.heap.get? b = some o → h5.get? b = some o) (hn : h5.Ns s.heap.objs.size m) (hg : AllBare g5)
    (hpn : ∀ p ∈ pn, h5.get? p.1 = some p.2 ∧ s.heap.objs.size < p.1 ∧ ∀ v, p.2.data ≠ .cell v) :
    Inv (gcx X A s H (genv X scope s.heap.objs.size code) fp pn) [] (wipe σ (own.map (·.2))) H { s with heap := h5, gens := g5, toks := t5 } := by
  have hfree : ∀ y ∈ scope.names, y.2 = .free → ∃ c, X.env.cells.lookup y.1 = some c := fun y hy e => by
    rcases ok.free y hy e with k | k
    · exact I.ok.has _ (.inl k)
    · exact I.ok.has _ (.inr k)
  have cm : ∀ {y c}, (cloFrom X.env.cells scope.names []).lookup y = some c → X.env.cells.lookup y = some c := fun {y c} e => by
    rcases cloFrom_mem (PySem.mem_of_lookup e) with hm | ⟨h1, h2⟩
    · cases hm
    · obtain ⟨c1, hc⟩ := hfree _ h1 rfl
      have hc : X.env.cells.lookup y = some c1 := hc
      have e2 : c = c1 := by
        rw [h2, hc] <;> rfl
      rw [e2]
      exact hc
  have look : ∀ {y}, scope.names.lookup y = some .free → ∃ c, (cloFrom X.env.cells scope.names []).lookup y = some c := fun {y} hl => by
    have hy : (y, NameKind.free) ∈ scope.names := PySem.mem_of_lookup hl
    exact mem_lookup (cloFrom_has (cells := X.env.cells) (acc := []) hy)
  have clt : ∀ {y c}, X.env.cells.lookup y = some c → c < s.heap.objs.size := fun {y c} e => by
    obtain ⟨w', z⟩ := I.cell y c e
    exact z.lt
  refine ⟨⟨I.ok.mod, ok.kind, I.ok.glob, rfl, Nat.le_refl _, fun y z c e1 e2 => I.ok.inj y z c (cm e1) (cm e2), fun y hy => ?_, fun y c z _ => ?_, fun _ => hh, hA, .inr ⟨rfl, rfl⟩, fun b hb => ⟨?_, fun y c e z => ?_⟩, I.bs, Nat.le_trans I.ok.bsz I.sz,
      fun b o e hb => ?_, fun b hb z => ?_, I.stack, I.stkFree⟩,
    rfl, hg, Un.kept kp, ⟨m, hn, fun i y v e1 e2 e3 => ?_⟩, fun y c e => ?_, I.hok.fresh (Nat.le_refl _), fun y c e => ?_, fun q hq => ?_, I.hok.kept kp, by rw [wipe_length]; exact I.len⟩
  · have hy : scope.names.lookup y = some .cell ∨ scope.names.lookup y = some .free := hy
    rcases hy with hy | hy
    · exact absurd rfl (gk.cell _ (PySem.mem_of_lookup hy))
    · exact look hy
  · cases z
  · exact Nat.ne_of_lt (hfp b hb).2
  · exact (hfp b hb).1.2.2.2.2.1 y c (cm e) z
  · rcases (hfp b hb).1.2.2.2.1 with z | z
    · exact I.ok.noex b o e z
    · exact absurd (Nat.lt_of_lt_of_le (Heap.lt_size e) (Nat.le_trans I.ok.bsz z)) (Nat.lt_irrefl _)
  · rcases List.mem_cons.mp (I.stkSub b z) with z | z
    · exact (hfp b hb).1.2.1 z
    · exact (hfp b hb).1.2.2.1 z
  · obtain ⟨e2, hne⟩ := wipe_some e2
    have e3 : Vis scope y := e3
    have noown : scope.names.lookup y = some .local → False := fun k => by
      rcases ok.own _ (PySem.mem_of_lookup k) (.inl rfl) with e' | e'
      · obtain ⟨p, hp, hpy⟩ := List.mem_map.mp e'
        have e4 := ok.ix p hp
        have : p.1 = y := hpy
        rw [this] at e4
        exact hne (List.mem_map.mpr ⟨p, hp, nodup_ix hN e4 e1⟩)
      · exact e' (List.mem_of_getElem? e1)
    rcases e3 with k | k | k
    · exact (noown k).elim
    · exact absurd rfl (gk.cell _ (PySem.mem_of_lookup k))
    · obtain ⟨m0, hn0, hl⟩ := I.loc
      have hvis : Vis X.env.scope y := (ok.free _ (PySem.mem_of_lookup k) rfl).elim (fun k => .inr (.inl k)) (fun k => .inr (.inr k))
      obtain ⟨w', r, q⟩ := hl i y v e1 e2 hvis
      obtain ⟨c2, h2⟩ := look k
      refine ⟨w', r, .inr ⟨.inr k, c2, h2, ?_⟩⟩
      have c1 := cm h2
      rcases q with ⟨k', _⟩ | ⟨_, c3, e', z⟩
      · have k' : X.env.scope.names.lookup y = some .local := k'
        rcases ok.free _ (PySem.mem_of_lookup k) rfl with k2 | k2 <;> rw [show X.env.scope.names.lookup y = _ from k2] at k' <;> cases k'
      · rw [c1] at e'
        cases e'
        exact z.keeps kp
  · obtain ⟨w', z⟩ := I.cell y c (cm e)
    exact ⟨w', z.keeps kp⟩
  · exact I.freeC y c (cm e)
  · have hq : q ∈ pn ++ [] := hq
    rw [List.append_nil] at hq
    obtain ⟨h1, h2, h3⟩ := hpn q hq
    exact ⟨h1, I.hok.fresh (Nat.le_of_lt h2), Nat.ne_of_gt h2, fun z => by
      rcases List.mem_cons.mp (I.stkSub q.1 z) with z | z
      · have := I.lt
        rw [z] at h2
        exact absurd (Nat.lt_trans this h2) (Nat.lt_irrefl _)
      · exact I.nofs (Nat.le_of_lt h2) z, h3⟩
end
theorem wipe_get (σ : L2.St) (vs : List Nat) (i : Nat) : (wipe σ vs)[i]? = if i ∈ vs then (σ[i]?).map fun _ => none else σ[i]? := by
  induction vs with
  | nil => simp [wipe]
  | cons v vs ih =>
    unfold wipe
    rw [List.getElem?_set]
    by_cases h : v = i
    · subst h
      simp only [if_true, List.mem_cons, true_or]
      rw [wipe_length]
      by_cases hl : v < σ.length
      · rw [if_pos hl, List.getElem?_eq_getElem hl]; rfl
      · rw [if_neg hl, List.getElem?_eq_none (by omega)]; rfl
    · rw [if_neg h, ih]
      by_cases hm : i ∈ vs
      · rw [if_pos hm, if_pos (List.mem_cons_of_mem _ hm)]
      · rw [if_neg hm, if_neg (fun z => (List.mem_cons.mp z).elim (fun e => h e.symm) hm)]
theorem wipe_wipe (σ : L2.St) (vs : List Nat) : wipe (wipe σ vs) vs = wipe σ vs := by
  apply List.ext_getElem?
  intro i
  rw [wipe_get, wipe_get]
  by_cases h : i ∈ vs
  · rw [if_pos h, if_pos h]
    cases σ[i]? <;> rfl
  · rw [if_neg h, if_neg h]
/-! ### the generator's run -/
section
variable {X : Cx} {A : Around} {s0 : Shared} {H0 : Hp} {cenv : Env} {fp : List Addr} {pn : List (Addr × Obj)} {α : Type}
/-- handed out: the consumer's state a (Tie: the objects that bear it), the item y, what it may do with it -/
def YG (X' : Cx) (fp : List Addr) (Tie : α → List (Addr × Obj) → Prop) (C : α → V → Hp → (α → Hp → Prop) → Prop) : Protocol := fun _ s₀ v s kap =>
  ∃ a pins σ' H y Nx, Tie a pins ∧ (∀ p ∈ pins, s₀.heap.get? p.1 = some p.2) ∧ Inv X' pins σ' H s ∧ (∀ b ∈ fp, H b = none) ∧ RelV y v ∧ C a y H Nx ∧
    ∀ a' pins' s'', Tie a' pins' → Inv X' pins' σ' H s'' → (∀ b ∈ fp, ∀ o, s.heap.get? b = some o → s''.heap.get? b = some o) → Nx a' H → kap (.send .none) s''
def RG (X' : Cx) (Tie : α → List (Addr × Obj) → Prop) (fin : α → Hp → Prop) : GenEnd := fun _ s₀ r s => r = .ok .next ∧ ∃ a pins σ' H, Tie a pins ∧ (∀ p ∈ pins, s₀.heap.get? p.1 = some p.2) ∧ Inv X' pins σ' H s ∧ fin a H
/-- the turns: W by the turn, a measure, the consumer's state, the heap -/
def GTurns (J : It) (g : TG) (tt : TT) (te : TE) (σw : L2.St) (vs : List Nat) (C : α → V → Hp → (α → Hp → Prop) → Prop) (fin : α → Hp → Prop) (W : Nat → Nat → α → Hp → Prop) : Prop :=
  ∀ i m a H, W i m a H → (J.stop i H ∧ fin a H) ∨ (J.go i H ∧ ∃ Nx : α → Hp → Prop, (∀ a' H', Nx a' H' → ∃ m', m' < m ∧ W (i + 1) m' a' H') ∧
    ∀ x H', J.yld i H x H' → g x σw H' fun σ2 H2 => wipe σ2 vs = σw ∧ tt σ2 H2 fun b H3 => if b = true then te σ2 H3 fun y H4 => C a y H4 Nx else Nx a H3)
theorem wf {α : Type} {M : Model} {A : Around} {t : Sem α} {Q Q' : α → Shared → Prop} {E : Value → Shared → Prop} {s : Shared} (h : wpAny M A t Q (fun _ _ => False) s) (hq : ∀ a s', Q a s' → Q' a s') : wpAny M A t Q' E s :=
  wpAny_mono h hq fun _ _ z => z.elim
theorem seg_gloop {B : Around} {elt tg iter : Expr} {ifs : List Expr} {scope : Scope} {pos : Pos} {it : Addr} {tn : Nat → Heap → Prop} {J : It} {g : TG} {tt : TT} {te : TE} {σw : L2.St} {vs : List Nat}
    {Tie : α → List (Addr × Obj) → Prop} {C : α → V → Hp → (α → Hp → Prop) → Prop} {fin : α → Hp → Prop} {W : Nat → Nat → α → Hp → Prop}
    (hA : A = B.over (.compLoop (.GeneratorExp elt [⟨tg, iter, ifs, 0⟩] scope pos) 0 (.ref it) .none cenv) [])
    (hc : X.calm = true) (hco : cenv.scope.isCoroutine = false)
    (T : Turn X.prog X.w X.K tg J fp it tn) (pg : PG (gcx X A s0 H0 cenv fp pn) tg g) (pt : PTs (gcx X A s0 H0 cenv fp pn) ifs tt) (pe : PE (gcx X A s0 H0 cenv fp pn) elt te)
    (hwl : wipe σw vs = σw) (hpn : ∀ p ∈ pn, p.1 ∉ fp) (hT : ∀ a pins, Tie a pins → ∀ p ∈ pins, p.1 ∉ fp) (turn : GTurns J g tt te σw vs C fin W) :
    ∀ (m n i : Nat) (a : α) (pins : List (Addr × Obj)) (H : Hp) (s s₀ : Shared), m < n → W i m a H → Tie a pins → (∀ p ∈ pins, s₀.heap.get? p.1 = some p.2) → Inv (gcx X A s0 H0 cenv fp pn) pins σw H s → tn i s.heap → (∀ b ∈ fp, H b = none) →
      Seg (model X.prog X.w) B (RG (gcx X A s0 H0 cenv fp pn) Tie fin) (YG (gcx X A s0 H0 cenv fp pn) fp Tie C) n s₀ (.compLoop (.GeneratorExp elt [⟨tg, iter, ifs, 0⟩] scope pos) 0 (.ref it) .none cenv)
        ((model X.prog X.w).den (.compLoop (.GeneratorExp elt [⟨tg, iter, ifs, 0⟩] scope pos) 0 (.ref it) .none cenv)) [] s := by
  intro m
  induction m using Nat.strongRecOn with
  | ind m ih =>
  intro n i a pins H s s₀ hmn w hTie hs0 I st hn
  have stat : ∀ {a : α} {pins : List (Addr × Obj)} {σ' : L2.St} {H' : Hp} {s' : Shared}, Tie a pins → Inv (gcx X A s0 H0 cenv fp pn) pins σ' H' s' → (∀ b ∈ fp, H' b = none) → ∀ b ∈ fp, FpOk (gcx X A s0 H0 cenv fp pn) pins H' b := fun {a pins σ' H' s'} hTie I' hn b hb =>
    ⟨hn b hb, (I'.ok.exf b hb).1, I'.ok.exfs b hb, .inl hb, fun x c e => (I'.ok.exf b hb).2 x c e, fun p hp z => (List.mem_append.mp hp).elim (fun q => hpn p q (by rw [z]; exact hb)) fun q => hT a pins hTie p q (by rw [z]; exact hb)⟩
  have eA : (gcx X A s0 H0 cenv fp pn).A = B.over (.compLoop (.GeneratorExp elt [⟨tg, iter, ifs, 0⟩] scope pos) 0 (.ref it) .none cenv) [] := hA
  show Seg _ B _ _ n s₀ _ ((compTurn (.GeneratorExp elt [⟨tg, iter, ifs, 0⟩] scope pos) 0 (.ref it) .none cenv).onRaise (leaving cenv)) [] s
  rw [compTurn_gen, Sem.onRaise_eq_wrap]
  refine seg_bind_wrap (wpAny_standAt ?_)
  rcases turn i m a H w with ⟨stop, qf⟩ | ⟨go, Nx, hNx, step⟩
  · refine seg_bind_wrap ?_
    rw [← eA]
    refine wf (T.done (gcx X A s0 H0 cenv fp pn) rfl rfl rfl hc i pins s σw H (fun _ _ => False) I (stat hTie I hn) st stop) fun r s1 h1 => ?_
    obtain ⟨hr, I1⟩ := h1
    subst hr
    exact seg_end (.ok .next) ⟨rfl, a, pins, σw, H, hTie, hs0, I1, qf⟩
  · refine seg_bind_wrap ?_
    rw [← eA]
    refine wf (T.item (gcx X A s0 H0 cenv fp pn) rfl rfl rfl hc i pins s σw H (fun _ _ => False) I (stat hTie I hn) st go) fun r s1 h1 => ?_
    obtain ⟨u, hr, h1⟩ := h1
    subst hr
    refine seg_bind_wrap ?_
    rw [← eA]
    refine wf h1 fun _ s2 h2 => ?_
    obtain ⟨x, H2, I2, r2, y2, st2, n2⟩ := h2
    have I2' := I2.pinned (stat hTie I2 n2) (T.obj _ _ st2)
    refine seg_bind_wrap ?_
    rw [← eA]
    refine wf (pg.run _ s2 σw H2 x u _ I2' r2 (step x H2 y2)) fun _ s3 h3 => ?_
    obtain ⟨σ3, H3, I3, hw3, q3⟩ := h3
    refine seg_bind_wrap ?_
    rw [← eA]
    refine wf (pt.run _ s3 σ3 H3 _ I3 q3) fun b s4 h4 => ?_
    obtain ⟨H4, I4, q4⟩ := h4
    have pin' : ∀ {σ' : L2.St} {H' : Hp} {s' : Shared}, Inv (gcx X A s0 H0 cenv fp pn) (pins ++ pinsAt fp s2.heap) σ' H' s' → ∀ b ∈ fp, ∀ o, s2.heap.get? b = some o → s'.heap.get? b = some o ∧ H' b = none := fun {σ' H' s'} I' b hb o e =>
      let z := I'.pin (b, o) (List.mem_append_right _ (List.mem_append_right _ (mem_pinsAt hb e)))
      ⟨z.1, z.2.1⟩
    have keepT : ∀ {σ' : L2.St} {H' : Hp} {s' : Shared}, Inv (gcx X A s0 H0 cenv fp pn) (pins ++ pinsAt fp s2.heap) σ' H' s' → tn (i + 1) s'.heap ∧ ∀ b ∈ fp, H' b = none := fun {σ' H' s'} I' =>
      ⟨T.keep _ _ _ st2 fun b hb o e => (pin' I' b hb o e).1, fun b hb => by
        obtain ⟨o, e, _⟩ := T.obj _ _ st2 b hb
        exact (pin' I' b hb o e).2⟩
    have hl3 : σw.length = σ3.length := by rw [← hw3, wipe_length]
    have wk : ∀ {pins' : List (Addr × Obj)} {H' : Hp} {s' : Shared}, Inv (gcx X A s0 H0 cenv fp pn) pins' σ3 H' s' → Inv (gcx X A s0 H0 cenv fp pn) pins' σw H' s' := fun {pins' H' s'} I' =>
      I'.weak hl3 fun j v e => by
        rw [← hw3] at e
        exact (wipe_some e).1
    cases b with
    | false =>
      simp only [Bool.false_eq_true, if_false] at q4 ⊢
      obtain ⟨m', hm', w'⟩ := hNx a H4 q4
      have k4 := keepT I4
      exact seg_again rfl (ih m' hm' n (i + 1) a pins H4 s4 s₀ (by omega) w' hTie hs0 (wk I4.unpinned) k4.1 k4.2)
    | true =>
      simp only [if_true] at q4 ⊢
      obtain ⟨n', rfl⟩ : ∃ n', n = n' + 1 := ⟨n - 1, by omega⟩
      have hy : ∀ v, yieldOut cenv v = yieldValue v := fun v => by simp only [yieldOut, hco, Bool.false_eq_true, if_false]
      simp only [hy]
      rw [Sem.bind_eq_wrap', Sem.bind_eq_wrap', Sem.wrap_wrap, Sem.wrap_wrap]
      refine seg_wrap ?_
      rw [← eA]
      refine wf (pe.run _ s4 σ3 H4 _ I4 q4) fun v s5 h5 => ?_
      obtain ⟨y, H5, I5, r5, q5⟩ := h5
      have k5 := keepT I5
      refine seg_at (seg_yield rfl rfl rfl ?_)
      refine ⟨a, pins, σ3, H5, y, Nx, hTie, hs0, I5.unpinned, k5.2, r5, q5, fun a' pins' s'' hTie' I'' hk hNx' => ?_⟩
      obtain ⟨m', hm', w'⟩ := hNx a' H5 hNx'
      exact seg_again rfl (ih m' hm' n' (i + 1) a' pins' H5 s'' s'' (by omega) w' hTie' (fun p hp => (I''.pin p (List.mem_append_right _ hp)).1) (wk I'') (T.keep _ _ _ k5.1 hk) k5.2)
theorem seg_gstart {B : Around} {elt tg iter : Expr} {ifs : List Expr} {scope : Scope} {pos : Pos} {it : Addr} {tn : Nat → Heap → Prop} {J : It}
    {R : GenEnd} {Y : Protocol} (T : Turn X.prog X.w X.K tg J fp it tn) {n : Nat} {s s₀ : Shared} (st : tn 0 s.heap)
    (h : Seg (model X.prog X.w) B R Y n s₀ (.compLoop (.GeneratorExp elt [⟨tg, iter, ifs, 0⟩] scope pos) 0 (.ref it) .none cenv)
        ((model X.prog X.w).den (.compLoop (.GeneratorExp elt [⟨tg, iter, ifs, 0⟩] scope pos) 0 (.ref it) .none cenv)) [] s) :
    Seg (model X.prog X.w) B R Y n s₀ (.compStart (.GeneratorExp elt [⟨tg, iter, ifs, 0⟩] scope pos) 0 (.ref it) .none cenv)
        ((model X.prog X.w).den (.compStart (.GeneratorExp elt [⟨tg, iter, ifs, 0⟩] scope pos) 0 (.ref it) .none cenv)) [] s := by
  show Seg _ B _ _ _ s₀ _ ((compStart (.GeneratorExp elt [⟨tg, iter, ifs, 0⟩] scope pos) 0 (.ref it) .none cenv).onRaise (leaving cenv)) [] s
  unfold compStart
  rw [Sem.onRaise_eq_wrap]
  show Seg _ B _ _ _ s₀ _ ((ask >>= _).wrap _ _ _ _) [] s
  refine seg_bind_wrap (wpAny_askSetting ?_)
  split
  · exact seg_again rfl h
  · first
      | exact seg_bind_wrap (wpAny_rule (seg_bind_wrap (wpAny_standAt (seg_bind_wrap (T.self _ 0 s _ _ st (seg_again rfl h))))))
      | (refine seg_bind_wrap (wpAny_rule ?_); show Seg _ B _ _ _ s₀ _ ((standAt iter.pos >>= _).wrap _ _ _ _) [] s; exact seg_bind_wrap (wpAny_standAt (seg_bind_wrap (T.self _ 0 s _ _ st (seg_again rfl h)))))
/-- the generator sleeps: at most n - 1 items more -/
def Sleep (X' : Cx) (fp : List Addr) (Tie : α → List (Addr × Obj) → Prop) (C : α → V → Hp → (α → Hp → Prop) → Prop) (fin : α → Hp → Prop) (B : Around) (gi n : Nat) (s : Shared) : Prop :=
  ∃ gs, s.gens[gi]? = some gs ∧ gs.Goes (model X'.prog X'.w) B (RG X' Tie fin) (YG X' fp Tie C) n (.send .none) (s.setGen gi .running)
theorem inv_gens {X' : Cx} {pins : List (Addr × Obj)} {σ : L2.St} {H : Hp} {s : Shared} {gi : Nat} {x : GenState} (I : Inv X' pins σ H s) (hx : x.bare = true) : Inv X' pins σ H (s.setGen gi x) :=
  I.call' (ch := []) rfl Un.refl I.hok (allBare_setGen I.bare hx) fun b z => absurd z (by simp)
theorem gstep {X' : Cx} {Tie : α → List (Addr × Obj) → Prop} {C : α → V → Hp → (α → Hp → Prop) → Prop} {fin : α → Hp → Prop} {B : Around} {E : Value → Shared → Prop} {Q : Option Value → Shared → Prop}
    {a gi n : Nat} {go : Obj} {pins : List (Addr × Obj)} {σ : L2.St} {H : Hp} {s : Shared} (hB : B.handled = none) (hd : B.depth < recursionLimit)
    (hgo : ∀ h : Heap, h.get? a = some go → h.IsGen a gi) (hpn : (a, go) ∈ X'.pn) (I : Inv X' pins σ H s) (S : Sleep X' fp Tie C fin B.in1 gi n s)
    (hY : ∀ v s2 aS pins' σ' H' y Nx, Tie aS pins' → (∀ p ∈ pins', s.heap.get? p.1 = some p.2) → Inv X' pins' σ' H' s2 → RelV y v → C aS y H' Nx →
      (∀ a' pins'' h' t', Tie a' pins'' → Inv X' pins'' σ' H' { s2 with heap := h', toks := t' } → (∀ b ∈ fp, ∀ o, s2.heap.get? b = some o → h'.get? b = some o) → Nx a' H' → ∃ n', n' < n ∧ Sleep X' fp Tie C fin B.in1 gi n' { s2 with heap := h', toks := t' }) → Q (some v) s2)
    (hP : ∀ s2 aS pins' σ' H', Tie aS pins' → (∀ p ∈ pins', s.heap.get? p.1 = some p.2) → Inv X' pins' σ' H' s2 → fin aS H' → Q none s2) :
    wpAny (model X'.prog X'.w) B (pyNext (.ref a)) Q E s := by
  obtain ⟨gs, hgs, hg⟩ := S
  have gen : ∀ {pins : List (Addr × Obj)} {σ : L2.St} {H : Hp} {s : Shared}, Inv X' pins σ H s → s.heap.IsGen a gi := fun I' => hgo _ (I'.pin (a, go) (List.mem_append_left _ hpn)).1
  have hgl : gi < s.gens.size := (Array.getElem?_eq_some_iff.mp hgs).1
  refine wpAny_gsz (n := gi + 1) hgl (wpAny_pyNext_genexpQ (P := fun _ s₀ s => ∃ a pins σ' H, Tie a pins ∧ (∀ p ∈ pins, s₀.heap.get? p.1 = some p.2) ∧ Inv X' pins σ' H s ∧ fin a H) hB I.nolimit hd (gen I) hgs hg (fun v s₁ gs' hb hv hsz => ?_) fun s₁ hp h' hk hsz => ?_)
  · obtain ⟨aS, pins', σ', H', y, Nx, hTie, hs0, I1, hn1, r1, hC, hkap⟩ := hv
    have hsz1 : gi < s₁.gens.size := by
      have q : (s₁.setGen gi gs').gens.size = s₁.gens.size := setGen_size _ _ _
      have hsz' : gi + 1 ≤ (s₁.setGen gi gs').gens.size := hsz
      omega
    refine hY v _ aS pins' σ' H' y Nx hTie hs0 (inv_gens I1 hb) r1 hC fun a' pins'' h' t' hTie' I2 hk hNx => ?_
    have q := hkap a' pins'' (({ s₁.setGen gi gs' with heap := h', toks := t' } : Shared).setGen gi .running) hTie' (inv_gens I2 rfl) (show ∀ b ∈ fp, ∀ o, s₁.heap.get? b = some o → h'.get? b = some o from hk) hNx
    cases n with
    | zero => exact q.elim
    | succ n' => exact ⟨n', Nat.lt_succ_self _, gs', setGen_at (s := s₁) hsz1, q⟩
  · obtain ⟨aS, pins', σ', H', hTie, hs0, I1, hf⟩ := hp
    have I2 : Inv X' pins' σ' H' { s₁.setGen gi .finished with heap := h' } := (inv_gens (x := .finished) (gi := gi) I1 rfl).kept (t' := s₁.toks) hk
    exact hP _ aS pins' σ' H' hTie hs0 I2 hf
end
theorem over_gen {A : Around} {elt tg iter : Expr} {ifs : List Expr} {scope : Scope} {pos : Pos} {it acc : Value} {env : Env} :
    A.over (.compLoop (.GeneratorExp elt [⟨tg, iter, ifs, 0⟩] scope pos) 0 it acc env) [] = A.deeper env := by
  first
    | rfl
    | (obtain ⟨hd, d, fr, gs, u⟩ := A; simp [Around.over, Around.deeper, marksOver, frameCount, unitsOf, envsOf, guardsOf, pushEnvs, pushGuards, Code.envs, Code.env?, Code.isFrame, Code.guards, Code.isGuard, Code.weight, Code.frames, Code.isCreation, Code.isCaller, Code.cUnits])
/-- a generator that has not begun, as its consumer sees it -/
def GReady (X : Cx) (pins : List (Addr × Obj)) (σ : L2.St) (k : Nat) (J : It) (g : TG) (tt : TT) (te : TE) (vs : List Nat) (H2 : Hp) (a : Addr) (s5 : Shared) : Prop :=
  ∀ (α : Type) (Tie : α → List (Addr × Obj) → Prop) (C : α → V → Hp → (α → Hp → Prop) → Prop) (fin : α → Hp → Prop) (W : Nat → Nat → α → Hp → Prop) (m0 : Nat) (a0 : α) (B : Around),
    GTurns J g tt te (wipe σ vs) vs C fin W → W 0 m0 a0 H2 → B.frames = some X.stack → Room (k + 1) B → (∀ aS ps, Tie aS ps → ∀ p ∈ ps, s5.heap.objs.size ≤ p.1) →
    ∃ (X' : Cx) (fp : List Addr) (gi : Nat) (go : Obj), X'.prog = X.prog ∧ X'.w = X.w ∧ (a, go) ∈ X'.pn ∧ (∀ h : Heap, h.get? a = some go → h.IsGen a gi) ∧
      (∀ pins0 h6 t6, Tie a0 pins0 → (∀ b o, s5.heap.get? b = some o → h6.get? b = some o) → (∀ p ∈ pins0, h6.get? p.1 = some p.2 ∧ ∀ v, p.2.data ≠ .cell v) →
        Inv X' pins0 (wipe σ vs) H2 { s5 with heap := h6, toks := t6 } ∧ Sleep X' fp Tie C fin B gi (m0 + 1) { s5 with heap := h6, toks := t6 }) ∧
      (∀ pins' σ' H' s', Inv X' pins' σ' H' s' → Inv X pins σ H' s') ∧
      (∀ S, s5.heap.objs.size ≤ S → Apart X' S ∧ S ∉ fp ∧ (∀ p ∈ X'.pn, p.1 ≠ S)) ∧ a < s5.heap.objs.size
section
variable {X : Cx} {pins : List (Addr × Obj)} {σ : L2.St} {H : Hp} {s : Shared}
theorem gready {elt tg iter : Expr} {ifs : List Expr} {scope : Scope} {own : List (Str × Nat)} {pos : Pos} {it : Addr} {fp : List Addr} {tn : Nat → Heap → Prop} {J : It} {g : TG} {tt : TT} {te : TE} {k : Nat} {code : Value} {h' : Heap} {go : Obj} {gi t5 : Nat}
    (I : Inv X pins σ H s) (hN : X.N.Nodup) (hc : X.calm = true) (ok : BlkOk X.N X.env.scope scope own) (gk : GOk scope)
    (T : Turn X.prog X.w X.K tg J fp it tn) (st : tn 0 s.heap) (hf : ∀ b ∈ fp, FpOk X pins H b)
    (hg : ∀ (A : Around) (s : Shared) (H : Hp) (C : Addr) (code : Value) (fp : List Addr) (pn : List (Addr × Obj)), Room k A → PG (gcx X A s H (genv X scope C code) fp pn) tg g)
    (ht : ∀ (A : Around) (s : Shared) (H : Hp) (C : Addr) (code : Value) (fp : List Addr) (pn : List (Addr × Obj)), Room k A → PTs (gcx X A s H (genv X scope C code) fp pn) ifs tt)
    (he : ∀ (A : Around) (s : Shared) (H : Hp) (C : Addr) (code : Value) (fp : List Addr) (pn : List (Addr × Obj)), Room k A → PE (gcx X A s H (genv X scope C code) fp pn) elt te)
    (hn : h'.Ns s.heap.objs.size (fun y => if y = ".0" then some (.ref it) else none)) (kp : ∀ b o, s.heap.get? b = some o → h'.get? b = some o) (hsz : s.heap.objs.size < h'.objs.size)
    (hgo : ∀ h : Heap, h.get? h'.objs.size = some go → h.IsGen h'.objs.size gi) (hgd : ∀ v, go.data ≠ .cell v) (hgp : (h'.push go).get? h'.objs.size = some go) (hgi : gi = s.gens.size) :
    GReady X pins σ k J g tt te (own.map (·.2)) H h'.objs.size { s with gens := s.gens.push (.fresh (.compStart (.GeneratorExp elt [⟨tg, iter, ifs, 0⟩] scope pos) 0 (.ref it) .none (genv X scope s.heap.objs.size code))), toks := t5, heap := h'.push go } := by
  intro α Tie C fin W m0 a0 B turn w0 hBf hBr hTie
  have sz5 : (h'.push go).objs.size = h'.objs.size + 1 := Heap.size_push ..
  have low5 : s.heap.objs.size ≤ (h'.push go).objs.size := by rw [sz5]; exact Nat.le_trans (Nat.le_of_lt hsz) (Nat.le_succ _)
  have fsz : ∀ b ∈ fp, b < s.heap.objs.size := fun b hb => by
    obtain ⟨o, e, _⟩ := T.obj _ _ st b hb
    exact Heap.lt_size e
  have kp5 : ∀ b o, s.heap.get? b = some o → (h'.push go).get? b = some o := fun b o e => Heap.get?_push_of_some _ (kp b o e)
  have bare5 : AllBare (s.gens.push (.fresh (.compStart (.GeneratorExp elt [⟨tg, iter, ifs, 0⟩] scope pos) 0 (.ref it) .none (genv X scope s.heap.objs.size code)))) := AllBare.push I.bare rfl
  have hAf : (B.deeper (genv X scope s.heap.objs.size code)).frames = some (genv X scope s.heap.objs.size code :: X.stack) := Around.frames_deeper hBf
  have hr' : Room k (B.deeper (genv X scope s.heap.objs.size code)) := hBr.deeper _
  have inv6 : ∀ pins0 h6 t6, (∀ p ∈ pins0, h6.get? p.1 = some p.2 ∧ (∀ v, p.2.data ≠ .cell v) ∧ (h'.push go).objs.size ≤ p.1) → (∀ b o, (h'.push go).get? b = some o → h6.get? b = some o) →
      Inv (gcx X (B.deeper (genv X scope s.heap.objs.size code)) s H (genv X scope s.heap.objs.size code) fp [(h'.objs.size, go)]) pins0 (wipe σ (own.map (·.2))) H
        { s with gens := s.gens.push (.fresh (.compStart (.GeneratorExp elt [⟨tg, iter, ifs, 0⟩] scope pos) 0 (.ref it) .none (genv X scope s.heap.objs.size code))), toks := t6, heap := h6 } := by
    intro pins0 h6 t6 hp h6k
    have J0 := gen_inv (A := B.deeper (genv X scope s.heap.objs.size code)) (code := code) (pn := [(h'.objs.size, go)]) (h5 := h6) (t5 := t6) (m := fun y => if y = ".0" then some (.ref it) else none) I ok gk hN (fun b hb => ⟨hf b hb, fsz b hb⟩) hAf hr'.hd
      (fun b o e => h6k b o (kp5 b o e)) ((hn.push _).keeps h6k) bare5 (fun p hp => by
        rw [List.mem_singleton.mp hp]
        exact ⟨h6k _ _ hgp, hsz, hgd⟩)
    refine J0.pins_of fun p hp2 => ?_
    obtain ⟨e1, e2, e3⟩ := hp p hp2
    have hlt : s.heap.objs.size < p.1 := by omega
    refine ⟨e1, I.hok.fresh (Nat.le_of_lt hlt), Nat.ne_of_gt hlt, fun z => ?_, e2⟩
    rcases List.mem_cons.mp (I.stkSub p.1 z) with z | z
    · have := I.lt
      rw [z] at hlt
      exact absurd (Nat.lt_trans this hlt) (Nat.lt_irrefl _)
    · exact I.nofs (Nat.le_of_lt hlt) z
  refine ⟨gcx X (B.deeper (genv X scope s.heap.objs.size code)) s H (genv X scope s.heap.objs.size code) fp [(h'.objs.size, go)], fp, gi, go, rfl, rfl, List.mem_singleton.mpr rfl, hgo, ?_, ?_, ?_, ?_⟩
  · intro pins0 h6 t6 hT0 h6k hp0
    have hp0' : ∀ p ∈ pins0, h6.get? p.1 = some p.2 ∧ (∀ v, p.2.data ≠ .cell v) ∧ (h'.push go).objs.size ≤ p.1 := fun p hp => ⟨(hp0 p hp).1, (hp0 p hp).2, hTie a0 pins0 hT0 p hp⟩
    have J1 := inv6 pins0 h6 t6 hp0' h6k
    refine ⟨J1, .fresh (.compStart (.GeneratorExp elt [⟨tg, iter, ifs, 0⟩] scope pos) 0 (.ref it) .none (genv X scope s.heap.objs.size code)), by rw [hgi]; exact Array.getElem?_push_size .., rfl, ?_⟩
    have st6 : tn 0 h6 := T.keep _ _ _ st fun b _ o e => h6k b o (kp5 b o e)
    refine seg_gstart (X := X) T st6 ?_
    refine seg_gloop (X := X) (A := B.deeper (genv X scope s.heap.objs.size code)) (s0 := s) (H0 := H) (cenv := genv X scope s.heap.objs.size code) (fp := fp) (pn := [(h'.objs.size, go)]) (σw := wipe σ (own.map (·.2))) (vs := own.map (·.2)) (by rw [over_gen]) hc gk.co T
      (hg _ s H _ code fp _ hr') (ht _ s H _ code fp _ hr') (he _ s H _ code fp _ hr') (wipe_wipe σ _) (fun p hp z => ?_) (fun aS ps hTT p hp z => ?_) turn m0 (m0 + 1) 0 a0 pins0 H _ _ (Nat.lt_succ_self _) w0 hT0 (fun p hp => (hp0 p hp).1) (inv_gens J1 rfl) st6 (fun b hb => (hf b hb).1)
    · rw [List.mem_singleton.mp hp] at z
      have := fsz _ z
      have h9 : s.heap.objs.size < h'.objs.size := hsz
      exact absurd (Nat.lt_trans this h9) (Nat.lt_irrefl _)
    · have h1 := fsz _ z
      have h2 : (h'.push go).objs.size ≤ p.1 := hTie aS ps hTT p hp
      exact absurd (Nat.lt_of_lt_of_le h1 (Nat.le_trans low5 h2)) (Nat.lt_irrefl _)
  · intro pins' σ' H' s' J
    exact I.call' (ch := fp) J.os J.base J.hok J.bare fun b hb => ⟨(hf b hb).2.2.2.1, (hf b hb).2.1, (hf b hb).2.2.2.2.1, (hf b hb).2.2.2.2.2⟩
  · intro S hS
    have hS : (h'.push go).objs.size ≤ S := hS
    have hS2 : h'.objs.size < S := by rw [sz5] at hS; exact hS
    refine ⟨⟨Nat.le_trans low5 hS, Nat.ne_of_gt (Nat.lt_trans hsz hS2), fun y c e z => ?_⟩, fun z => absurd (Nat.lt_of_lt_of_le (fsz S z) (Nat.le_trans low5 hS)) (Nat.lt_irrefl _), fun p hp => by rw [List.mem_singleton.mp hp]; exact Nat.ne_of_lt hS2⟩
    have e : (cloFrom X.env.cells scope.names []).lookup y = some c := e
    rcases cloFrom_mem (PySem.mem_of_lookup e) with hm | ⟨h1, h2⟩
    · cases hm
    · have hfree : ∃ c, X.env.cells.lookup y = some c := by
        rcases ok.free _ h1 rfl with k | k
        · exact I.ok.has _ (.inl k)
        · exact I.ok.has _ (.inr k)
      obtain ⟨c1, hc1⟩ := hfree
      obtain ⟨w', q⟩ := I.cell y c1 hc1
      have : c = c1 := by rw [h2, hc1] <;> rfl
      have h7 := q.lt
      rw [← this, z] at h7
      exact absurd (Nat.lt_of_lt_of_le h7 (Nat.le_trans low5 hS)) (Nat.lt_irrefl _)
  · show h'.objs.size < (h'.push go).objs.size
    rw [sz5]
    exact Nat.lt_succ_self _
/-- the expression: its iterable, the table grown, a generator ready -/
theorem gen_eval {elt tg iter : Expr} {ifs : List Expr} {scope : Scope} {own : List (Str × Nat)} {gpos : Pos} {wi : TI} {g : TG} {tt : TT} {te : TE} {k : Nat} {c P : Addr} {Q' : Value → Shared → Prop} {R : It → Hp → Prop}
    (hr : Room (k + 2) X.A) (TB : GxR.TabB X.base X.mg c P) (hcode : X.env.code = .ref c) (hN : X.N.Nodup) (hc : X.calm = true) (hi : PI X tg iter wi) (ok : BlkOk X.N X.env.scope scope own) (gk : GOk scope)
    (hg : ∀ (A : Around) (s : Shared) (H : Hp) (C : Addr) (code : Value) (fp : List Addr) (pn : List (Addr × Obj)), Room k A → PG (gcx X A s H (genv X scope C code) fp pn) tg g)
    (ht : ∀ (A : Around) (s : Shared) (H : Hp) (C : Addr) (code : Value) (fp : List Addr) (pn : List (Addr × Obj)), Room k A → PTs (gcx X A s H (genv X scope C code) fp pn) ifs tt)
    (he : ∀ (A : Around) (s : Shared) (H : Hp) (C : Addr) (code : Value) (fp : List Addr) (pn : List (Addr × Obj)), Room k A → PE (gcx X A s H (genv X scope C code) fp pn) elt te)
    (hs : ∀ v, genFold iter X.env v = pure v) (I : Inv X pins σ H s) (h : wi σ H fun J H1 => GxR.TabG H1 P ∧ ∀ H2, GxR.Tabbed P H1 H2 → R J H2)
    (hQ : ∀ J H2 a s5, R J H2 → a < s5.heap.objs.size → s5.heap.NoLimit → (∃ gi, s5.heap.IsGen a gi) → GReady X pins σ k J g tt te (own.map (·.2)) H2 a s5 → Q' (.ref a) s5) :
    wpAny (model X.prog X.w) X.A (eval (.GeneratorExp elt [⟨tg, iter, ifs, 0⟩] scope gpos) X.env) Q' X.xe s := by
  have hfree : ∀ y ∈ scope.names, y.2 = .free → ∃ c, X.env.cells.lookup y.1 = some c := fun y hy e => by
    rcases ok.free y hy e with k | k
    · exact I.ok.has _ (.inl k)
    · exact I.ok.has _ (.inr k)
  refine wpAny_GeneratorExp_make gk.co (closure_ok hfree) gk.cell gk.dot ok.kind (by have := hr.dp; omega) ?_ hs
  refine thn (hi.run pins s σ H _ I h) fun xv s1 h1 => thn h1 fun itv s2 h2 => ?_
  obtain ⟨it, fp, tn, J, H2, e, I2, T, st2, f2, ⟨ps, hP, htr⟩, q⟩ := h2
  subst e
  refine ⟨I2.nolimit, ?_⟩
  have hPs : s2.heap.get? P = some { cls := .none, data := .fields ps } := I2.hok P _ hP
  have cd : PySem.W.CodeHd s2.heap c P := TB.code.keeps fun b u e => I2.bk b u e
  have nfP : ∀ b ∈ fp, b ≠ P := fun b hb z => by
    have := (f2 b hb).1
    rw [z, hP] at this
    cases this
  have cont : ∀ (code : Value) (h3 : Heap) (tk : Nat) (more : Array Value), Heap.ExtBut P s2.heap h3 → s2.heap.objs.size ≤ h3.objs.size → h3.get? P = some { cls := .none, data := .fields (ps ++ more) } → TriplesOk (ps ++ more).toList →
      wpAny (model X.prog X.w) X.A (builtinsFor X.env.globals X.env.builtins) (fun bi s₄ =>
        ∀ h', h'.Ns s₄.heap.objs.size (fun y => if y = ".0" then some (.ref it) else none) → Heap.SameBut s₄.heap.objs.size (s₄.heap.push { cls := .type "frame", data := .dict #[] }) h' →
          Q' (.ref h'.objs.size) { s₄ with
            gens := s₄.gens.push (.fresh (.compStart (.GeneratorExp elt [⟨tg, iter, ifs, 0⟩] scope gpos) 0 (.ref it) .none (genEnv scope (cloFrom X.env.cells scope.names []) s₄.heap.objs.size code bi X.env))),
            toks := s₄.toks + 1 + 1 + 1,
            heap := h'.push { cls := .type "generator", data := .fields #[.int s₄.gens.size 0, .str "<genexpr>" (s₄.toks + 1), .str (X.env.qual ++ "<genexpr>") (s₄.toks + 1 + 1)] } }) X.xe { s2 with heap := h3, toks := tk } := by
    intro code h3 tk more hx hsz hP3 ht3
    have I3 : Inv X pins σ (upd H2 P (.tbl (ps ++ more))) { s2 with heap := h3, toks := tk } :=
      GxR.inv_tab (g' := s2.gens) (d' := s2.drawn) I2 hP hx hP3 I2.bare
    obtain ⟨bm, ob, e1, e2, e3, e4, e5, e6, e7, e8⟩ := TB.bm
    refine wpAny_builtinsFor (m := X.mg) (by rw [I3.ok.glob]; exact I3.mod.glob.keeps I3.bk) e1 e2 (I3.bk _ _ e5) e6 e7 e8 ?_
    intro h' hn' hs'
    have hsz4 : h'.objs.size = h3.objs.size + 1 := by
      have := hs'.1
      rw [Heap.size_push] at this
      exact this
    have kp' : ∀ b o, h3.get? b = some o → h'.get? b = some o := fun b o e => hs'.extBut b o (Nat.ne_of_lt (Heap.lt_size e)) (Heap.get?_push_of_some _ e)
    have qR := q (upd H2 P (.tbl (ps ++ more))) ⟨⟨ps ++ more, upd_same, ht3⟩, fun b hb => upd_ne hb⟩
    have f3 : ∀ b ∈ fp, FpOk X pins (upd H2 P (.tbl (ps ++ more))) b := fun b hb => ⟨by rw [upd_ne (nfP b hb)]; exact (f2 b hb).1, (f2 b hb).2⟩
    have st3 : tn 0 h3 := T.keep _ _ _ st2 fun b hb o e => hx b o (nfP b hb) e
    have hgen : ∀ h : Heap, h.get? h'.objs.size = some { cls := .type "generator", data := .fields #[.int s2.gens.size 0, .str "<genexpr>" (tk + 1), .str (X.env.qual ++ "<genexpr>") (tk + 1 + 1)] } → h.IsGen h'.objs.size s2.gens.size := fun h e => ⟨_, _, _, e, rfl, rfl, rfl⟩
    refine hQ J _ _ _ qR (by show h'.objs.size < (h'.push _).objs.size; rw [Heap.size_push]; exact Nat.lt_succ_self _) (I3.nolimit.keeps fun b o e => Heap.get?_push_of_some _ (kp' b o e)) ⟨_, hgen _ (Heap.get?_push_size _ rfl)⟩ ?_
    exact gready (s := { s2 with heap := h3, toks := tk }) (gi := s2.gens.size) (own := own) I3 hN hc ok gk T st3 f3 hg ht he hn' kp' (by rw [hsz4]; exact Nat.lt_succ_self _) hgen (fun v z => by cases z) (Heap.get?_push_size _ rfl) rfl
  cases hf : codeAmong gpos ps.toList with
  | none =>
    refine wpAny_genexprCodeX hcode (cd.code hPs htr) (cd.tab hPs) hf fun c' h' tk hx hge hlt hco' _ htab' _ => ?_
    obtain ⟨o1, vs, f1, tf, fl, tg, inF, tx, tt, op, _, _, _, _, _, _, _, _, _, htr', _⟩ := hco'
    exact cont _ h' tk _ hx (Nat.le_trans hge (Nat.le_of_lt hlt)) htab'.2 htr'
  | some cv =>
    refine wpAny_genexprCode_hit hcode (cd.code hPs htr) hf ?_
    exact cont cv s2.heap s2.toks #[] (Heap.ExtBut.refl _ _) (Nat.le_refl _) (by rw [Array.append_empty]; exact hPs) (by rw [Array.append_empty]; exact htr)
end
end GX
set_option maxRecDepth 100000
set_option maxHeartbeats 2000000
/-! GenY: what walks a generator expression: all, any, sum, tuple. -/
namespace GX
open PySem PySem.Spec PyProof.Rows L2 GenW
/-- the reading: a walk with a consumer's state -/
def tGx (P : Addr) (wi : TI) (g : TG) (tt : TT) (te : TE) (vs : List Nat) {α : Type} (a0 : α) (C : α → V → Hp → (α → Hp → Prop) → Prop) (fin : α → Hp → Prop) : L2.St → Hp → Prop := fun σ H =>
  wi σ H fun J H1 => GxR.TabG H1 P ∧ ∀ H2, GxR.Tabbed P H1 H2 → ∃ W : Nat → Nat → α → Hp → Prop, (∃ m, W 0 m a0 H2) ∧ GTurns J g tt te (wipe σ vs) vs C fin W
/-- what a generator expression's rule wants of its parts -/
structure GParts (X : Cx) (k : Nat) (elt tg iter : Expr) (ifs : List Expr) (scope : Scope) (own : List (Str × Nat)) (c P : Addr) (wi : TI) (g : TG) (tt : TT) (te : TE) : Prop where
  hr : Room (k + 2) X.A
  TB : GxR.TabB X.base X.mg c P
  hcode : X.env.code = .ref c
  hN : X.N.Nodup
  hc : X.calm = true
  hi : PI X tg iter wi
  ok : BlkOk X.N X.env.scope scope own
  gk : GOk scope
  hg : ∀ (A : Around) (s : Shared) (H : Hp) (C : Addr) (code : Value) (fp : List Addr) (pn : List (Addr × Obj)), Room k A → PG (gcx X A s H (genv X scope C code) fp pn) tg g
  ht : ∀ (A : Around) (s : Shared) (H : Hp) (C : Addr) (code : Value) (fp : List Addr) (pn : List (Addr × Obj)), Room k A → PTs (gcx X A s H (genv X scope C code) fp pn) ifs tt
  he : ∀ (A : Around) (s : Shared) (H : Hp) (C : Addr) (code : Value) (fp : List Addr) (pn : List (Addr × Obj)), Room k A → PE (gcx X A s H (genv X scope C code) fp pn) elt te
  hs : ∀ v, genFold iter X.env v = pure v
section
variable {X' : Cx} {fp : List Addr} {a gi : Nat} {go : Obj} {A : Around} {R : Result → Shared → Prop}
theorem all_loop {C : Unit → V → Hp → (Unit → Hp → Prop) → Prop} {fin : Unit → Hp → Prop} (hB : A.handled = none) (hd : A.depth < recursionLimit) (hgo : ∀ h : Heap, h.get? a = some go → h.IsGen a gi) (hpn : (a, go) ∈ X'.pn)
    (hC : ∀ y H Nx, C () y H Nx → ∃ k, y = .bl k ∧ (k = false → ∀ pins σ s, Inv X' pins σ H s → R (.ok (.ret (.bool false))) s) ∧ (k = true → Nx () H)) (hF : ∀ pins σ H s, Inv X' pins σ H s → fin () H → R (.ok (.ret (.bool true))) s) :
    ∀ (n : Nat) (pins : List (Addr × Obj)) (σ : L2.St) (H : Hp) (s : Shared), pins = [] → Inv X' pins σ H s → Sleep X' fp (fun _ ps => ps = []) C fin A.in1.in1 gi n s → codeAny (model X'.prog X'.w) A (.builtin "all.loop" ⟨[.ref a], []⟩) R s := by
  intro n
  induction n using Nat.strongRecOn with
  | ind n ih =>
  intro pins σ H s hp I S
  refine codeAny_builtin F.entry_all_loop ?_
  rw [Around.under_plainId F.plain_all_loop _]
  show wpAny _ A.in1 (pyNext (.ref a) >>= _) _ _ s
  refine wpAny_bind (gstep (B := A.in1) hB hd hgo hpn I S (fun v s2 aS pins' σ' H' y Nx hT _ I2 r2 hCy nxt => ?_) fun s2 aS pins' σ' H' hT _ I2 hf => ?_)
  · obtain ⟨k, rfl, hk0, hk1⟩ := hC y H' Nx hCy
    cases r2
    refine wpAny_bind (wpAny_holding (wpAny_truthy_bool ?_))
    refine wpAny_bind (wpAny_letGo ?_)
    cases k with
    | true =>
      simp only [if_true]
      obtain ⟨n', hn', S'⟩ := nxt () pins' s2.heap s2.toks hT I2 (fun _ _ _ e => e) (hk1 rfl)
      exact wpAny_pure ⟨plainId_quiet F.plain_all_loop _, ih n' hn' pins' σ' H' s2 hT I2 S'⟩
    | false =>
      simp only [Bool.false_eq_true, if_false]
      exact wpAny_bind (wpAny_rule (wpAny_pure (hk0 rfl _ _ _ I2)))
  · exact wpAny_bind (wpAny_rule (wpAny_pure (hF _ _ _ _ I2 hf)))
theorem any_loop {C : Unit → V → Hp → (Unit → Hp → Prop) → Prop} {fin : Unit → Hp → Prop} (hB : A.handled = none) (hd : A.depth < recursionLimit) (hgo : ∀ h : Heap, h.get? a = some go → h.IsGen a gi) (hpn : (a, go) ∈ X'.pn)
    (hC : ∀ y H Nx, C () y H Nx → ∃ k, y = .bl k ∧ (k = true → ∀ pins σ s, Inv X' pins σ H s → R (.ok (.ret (.bool true))) s) ∧ (k = false → Nx () H)) (hF : ∀ pins σ H s, Inv X' pins σ H s → fin () H → R (.ok (.ret (.bool false))) s) :
    ∀ (n : Nat) (pins : List (Addr × Obj)) (σ : L2.St) (H : Hp) (s : Shared), pins = [] → Inv X' pins σ H s → Sleep X' fp (fun _ ps => ps = []) C fin A.in1.in1 gi n s → codeAny (model X'.prog X'.w) A (.builtin "any.loop" ⟨[.ref a], []⟩) R s := by
  intro n
  induction n using Nat.strongRecOn with
  | ind n ih =>
  intro pins σ H s hp I S
  refine codeAny_builtin F.entry_any_loop ?_
  rw [Around.under_plainId F.plain_any_loop _]
  show wpAny _ A.in1 (pyNext (.ref a) >>= _) _ _ s
  refine wpAny_bind (gstep (B := A.in1) hB hd hgo hpn I S (fun v s2 aS pins' σ' H' y Nx hT _ I2 r2 hCy nxt => ?_) fun s2 aS pins' σ' H' hT _ I2 hf => ?_)
  · obtain ⟨k, rfl, hk0, hk1⟩ := hC y H' Nx hCy
    cases r2
    refine wpAny_bind (wpAny_holding (wpAny_truthy_bool ?_))
    refine wpAny_bind (wpAny_letGo ?_)
    cases k with
    | false =>
      simp only [Bool.false_eq_true, if_false]
      obtain ⟨n', hn', S'⟩ := nxt () pins' s2.heap s2.toks hT I2 (fun _ _ _ e => e) (hk1 rfl)
      exact wpAny_pure ⟨plainId_quiet F.plain_any_loop _, ih n' hn' pins' σ' H' s2 hT I2 S'⟩
    | true =>
      simp only [if_true]
      exact wpAny_bind (wpAny_rule (wpAny_pure (hk0 rfl _ _ _ I2)))
  · exact wpAny_bind (wpAny_rule (wpAny_pure (hF _ _ _ _ I2 hf)))
end
section
variable {X : Cx} {k : Nat} {elt tg iter : Expr} {ifs : List Expr} {scope : Scope} {own : List (Str × Nat)} {c P : Addr} {wi : TI} {g : TG} {tt : TT} {te : TE} {p pos gpos : Pos}
def tAll (P : Addr) (wi : TI) (g : TG) (tt : TT) (te : TE) (vs : List Nat) : TE := fun σ H Q =>
  tGx P wi g tt te vs () (fun _ y H Nx => ∃ k, y = .bl k ∧ (k = false → Q (.bl false) H) ∧ (k = true → Nx () H)) (fun _ H => Q (.bl true) H) σ H
def tAny (P : Addr) (wi : TI) (g : TG) (tt : TT) (te : TE) (vs : List Nat) : TE := fun σ H Q =>
  tGx P wi g tt te vs () (fun _ y H Nx => ∃ k, y = .bl k ∧ (k = true → Q (.bl true) H) ∧ (k = false → Nx () H)) (fun _ H => Q (.bl false) H) σ H
theorem Room.in1' {k : Nat} {A : Around} (r : Room (k + 2) A) : Room (k + 1) A.in1.in1 :=
  ⟨r.hd, by have := r.dp; show A.depth + 3 * (k + 1) + 5 < _; omega, by have := r.un; show A.units + 1 + 1 + 16 * (k + 1) + 200 < _; omega⟩
theorem pe_all (G : GParts X k elt tg iter ifs scope own c P wi g tt te) (hg : Gl X "all") (hm : X.mg "all" = none) (hb : bootBuiltins "all" = some (.builtin "all") := by decide +kernel) :
    PE X (.Call (.Name "all" p) [.GeneratorExp elt [⟨tg, iter, ifs, 0⟩] scope gpos] [] pos) (tAll P wi g tt te (own.map (·.2))) := by
  have he : starEach [.GeneratorExp elt [⟨tg, iter, ifs, 0⟩] scope gpos] X.env = (false, eval (.GeneratorExp elt [⟨tg, iter, ifs, 0⟩] scope gpos) X.env) :: starEach [] X.env := by rfl
  refine ⟨fun pins s σ H Q I h => ?_⟩
  refine wpAny_Call_Name_kw (ld_blt I hg hm hb ?_)
  refine PyProof.Rows.callWith_builtin1 ?_ he (by rfl)
  rw [he]
  show wpAny _ _ (spliced ((false, eval (.GeneratorExp elt [⟨tg, iter, ifs, 0⟩] scope gpos) X.env) :: backTo pos (starEach [] X.env))) _ _ s
  refine Calls.spliced_cons (gen_eval G.hr G.TB G.hcode G.hN G.hc G.hi G.ok G.gk G.hg G.ht G.he G.hs I h fun J H2 a s5 hR ha hl hig hG => ?_)
  refine Calls.spliced_nil ?_
  obtain ⟨W, ⟨m0, w0⟩, turn⟩ := hR
  obtain ⟨X', fp, gi, go, e1, e2, hpn, hgo, hst, hback, _, _⟩ := hG Unit (fun _ ps => ps = []) _ _ W m0 () X.A.in1.in1 turn w0 I.ok.frames (Room.in1' G.hr) (fun _ ps e p hp => by rw [e] at hp; cases hp)
  obtain ⟨I5, S5⟩ := hst [] s5.heap s5.toks rfl (fun _ _ e => e) (fun p hp => by cases hp)
  have hdep : X.A.depth < recursionLimit := by have := G.hr.dp; omega
  refine call_function_tree F.kind_all F.plain_all F.entry_all (F.args_all1 _) ?_
  unfold Builtin.«all»
  refine wpAny_bind (m := oneArg "all" _) (wpAny_pure ?_)
  obtain ⟨gi', hig⟩ := hig
  refine wpAny_bind (wpAny_pyIter_gen hig ?_)
  refine wpAny_pure ⟨plainId_quiet F.plain_all_loop _, ?_⟩
  have L := all_loop (X' := X') (R := fun r s' => match r with
      | .ok (.ret v) => EP X pins σ Q v s'
      | _ => False) (C := fun _ y H Nx => ∃ k, y = .bl k ∧ (k = false → Q (.bl false) H) ∧ (k = true → Nx () H)) (fin := fun _ H => Q (.bl true) H) (A := X.A) (fp := fp) (go := go) (gi := gi) G.hr.hd hdep hgo hpn
    (fun y H Nx ⟨k, e, q0, q1⟩ => ⟨k, e, fun z pins' σ' s' J => ⟨.bl false, H, hback _ _ _ _ J, rfl, q0 z⟩, q1⟩) (fun pins' σ' H' s' J hf => ⟨.bl true, H', hback _ _ _ _ J, rfl, hf⟩) _ [] _ _ s5 rfl I5 S5
  rw [e1, e2] at L
  exact codeAny_mono L fun r s' z => by
    rcases r with e | (v | _ | _ | _) <;> first | exact z | exact z.elim
theorem pe_any (G : GParts X k elt tg iter ifs scope own c P wi g tt te) (hg : Gl X "any") (hm : X.mg "any" = none) :
    PE X (.Call (.Name "any" p) [.GeneratorExp elt [⟨tg, iter, ifs, 0⟩] scope gpos] [] pos) (tAny P wi g tt te (own.map (·.2))) := by
  have he : starEach [.GeneratorExp elt [⟨tg, iter, ifs, 0⟩] scope gpos] X.env = (false, eval (.GeneratorExp elt [⟨tg, iter, ifs, 0⟩] scope gpos) X.env) :: starEach [] X.env := by rfl
  refine ⟨fun pins s σ H Q I h => ?_⟩
  refine wpAny_Call_Name_kw (ld_blt I hg hm boot_any ?_)
  refine PyProof.Rows.callWith_builtin1 ?_ he (by rfl)
  rw [he]
  show wpAny _ _ (spliced ((false, eval (.GeneratorExp elt [⟨tg, iter, ifs, 0⟩] scope gpos) X.env) :: backTo pos (starEach [] X.env))) _ _ s
  refine Calls.spliced_cons (gen_eval G.hr G.TB G.hcode G.hN G.hc G.hi G.ok G.gk G.hg G.ht G.he G.hs I h fun J H2 a s5 hR ha hl hig hG => ?_)
  refine Calls.spliced_nil ?_
  obtain ⟨W, ⟨m0, w0⟩, turn⟩ := hR
  obtain ⟨X', fp, gi, go, e1, e2, hpn, hgo, hst, hback, _, _⟩ := hG Unit (fun _ ps => ps = []) _ _ W m0 () X.A.in1.in1 turn w0 I.ok.frames (Room.in1' G.hr) (fun _ ps e p hp => by rw [e] at hp; cases hp)
  obtain ⟨I5, S5⟩ := hst [] s5.heap s5.toks rfl (fun _ _ e => e) (fun p hp => by cases hp)
  have hdep : X.A.depth < recursionLimit := by have := G.hr.dp; omega
  refine call_function_tree F.kind_any F.plain_any F.entry_any (F.args_any1 _) ?_
  unfold Builtin.«any»
  refine wpAny_bind (m := oneArg "any" _) (wpAny_pure ?_)
  obtain ⟨gi', hig⟩ := hig
  refine wpAny_bind (wpAny_pyIter_gen hig ?_)
  refine wpAny_pure ⟨plainId_quiet F.plain_any_loop _, ?_⟩
  have L := any_loop (X' := X') (R := fun r s' => match r with
      | .ok (.ret v) => EP X pins σ Q v s'
      | _ => False) (C := fun _ y H Nx => ∃ k, y = .bl k ∧ (k = true → Q (.bl true) H) ∧ (k = false → Nx () H)) (fin := fun _ H => Q (.bl false) H) (A := X.A) (fp := fp) (go := go) (gi := gi) G.hr.hd hdep hgo hpn
    (fun y H Nx ⟨k, e, q0, q1⟩ => ⟨k, e, fun z pins' σ' s' J => ⟨.bl true, H, hback _ _ _ _ J, rfl, q0 z⟩, q1⟩) (fun pins' σ' H' s' J hf => ⟨.bl false, H', hback _ _ _ _ J, rfl, hf⟩) _ [] _ _ s5 rfl I5 S5
  rw [e1, e2] at L
  exact codeAny_mono L fun r s' z => by
    rcases r with e | (v | _ | _ | _) <;> first | exact z | exact z.elim
end
/-! ### a consumer with an object of its own -/
section
variable {X' : Cx} {fp : List Addr} {a gi : Nat} {go : Obj} {A : Around} {R : Result → Shared → Prop} {S : Addr}
/-- the consumer's object is written -/
theorem inv_cell {o o' : Obj} {σ : L2.St} {H : Hp} {s : Shared} {h' : Heap} {t' : Nat} (I : Inv X' [(S, o)] σ H s) (hA : Apart X' S) (hpn : ∀ p ∈ X'.pn, p.1 ≠ S) (k : ∀ b u, b ≠ S → s.heap.get? b = some u → h'.get? b = some u)
    (ho : h'.get? S = some o') (hd : ∀ v, o'.data ≠ .cell v) : Inv X' [(S, o')] σ H { s with heap := h', toks := t' } := by
  obtain ⟨eS, hS0, hSL, hSf, _⟩ := I.pin (S, o) (List.mem_append_right _ (List.mem_singleton.mpr rfl))
  have I0 : Inv X' [] σ H s := I.pins_of fun p hp => by cases hp
  have nt : ∀ b u, H b = some u → b ≠ S := fun b u q hb => by
    have hS0 : H S = none := hS0
    rw [hb, hS0] at q; cases q
  have nc : ∀ b, b ∉ [S] → b ≠ S := fun b hb e => hb (by rw [e]; exact List.mem_singleton.mpr rfl)
  have J : Inv X' [] σ H { s with heap := h', toks := t' } := by
    refine I0.step (g' := s.gens) (t' := t') (d' := s.drawn) (ch := [S]) (fun b hb => ?_)
      (fun b ob _ _ hc q _ => k b ob (nc b hc) q) (fun b ob _ _ hc q _ => ⟨ob.slots, k b ob (nc b hc) q⟩) (fun _ _ _ _ n => n) (fun b ob hc q => ⟨ob, k b ob (nc b hc) q⟩)
      (fun _ _ q => q) (fun _ _ _ q => q) (fun b ps q => ⟨#[], by rw [q]; simp⟩) (fun m hm => ?_) (fun b u q => ?_) I0.bare
    · rw [List.mem_singleton.mp hb]
      exact ⟨.inr hA.1, hA.2.1, hA.2.2, fun p hp => hpn p (by rw [List.append_nil] at hp; exact hp)⟩
    · obtain ⟨ob, es, ep, ho, r⟩ := hm
      exact ⟨ob, es, ep, k _ ob (Ne.symm hSL) ho, r⟩
    · refine (I0.hok b u q).stay (fun c v hc y => k c v ?_ y) (fun _ y => y) fun _ _ y => y
      rcases hc with y | y
      · rw [y]; exact nt b u q
      · exact nt c _ y
  refine J.pins_of fun p hp => ?_
  rw [List.mem_singleton.mp hp]
  exact ⟨ho, hS0, hSL, hSf, hd⟩
abbrev accO (i : Int) (t : Tok) (c : Nat) : Obj := { cls := .type "list", dict := none, data := .seq #[.int i t] c, slots := #[] }
def TieS (S : Addr) (i : Int) (ps : List (Addr × Obj)) : Prop := ∃ t c, ps = [(S, accO i t c)]
theorem sum_loop {C : Int → V → Hp → (Int → Hp → Prop) → Prop} {fin : Int → Hp → Prop} (hB : A.handled = none) (hd : A.depth < recursionLimit) (hgo : ∀ h : Heap, h.get? a = some go → h.IsGen a gi) (hpn : (a, go) ∈ X'.pn)
    (hA : Apart X' S) (hSf : S ∉ fp) (hpS : ∀ p ∈ X'.pn, p.1 ≠ S)
    (hC : ∀ i y H Nx, C i y H Nx → ∃ j, y = .int j ∧ Nx (i + j) H) (hF : ∀ i pins σ H s t, Inv X' pins σ H s → fin i H → R (.ok (.ret (.int i t))) s) :
    ∀ (n : Nat) (i : Int) (tA : Tok) (c : Nat) (st : Int) (σ : L2.St) (H : Hp) (s : Shared), (st = 0 ∨ st = 2) → Inv X' [(S, accO i tA c)] σ H s → Sleep X' fp (TieS S) C fin A.in1.in1 gi n s →
      codeAny (model X'.prog X'.w) A (.builtin "sum.loop" ⟨[.ref a, .ref S, rawInt st, rawInt 0], []⟩) R s := by
  intro n
  induction n using Nat.strongRecOn with
  | ind n ih =>
  intro i tA c st σ H s hst2 I Sl
  have hS : s.heap.get? S = some (accO i tA c) := (I.pin (S, accO i tA c) (List.mem_append_right _ (List.mem_singleton.mpr rfl))).1
  refine codeAny_builtin F.entry_sum_loop ?_
  rw [Around.under_plainId F.plain_sum_loop _]
  show wpAny _ A.in1 (seqItems? (.ref S) >>= _) _ _ s
  refine wpAny_bind (wpAny_seqItems hS rfl ?_)
  show wpAny _ A.in1 (tryCatch (pyNext (.ref a)) _ >>= _) _ _ s
  have keepU : ∀ (h : Heap) (f : Obj → Obj) (b : Addr) (u : Obj), b ≠ S → h.get? b = some u → (h.update S f).get? b = some u := fun h f b u hb e => (Heap.get?_update_other _ _ (Ne.symm hb)).trans e
  refine wpAny_bind (wpAny_tryCatch (gstep (B := A.in1) hB hd hgo hpn I Sl (fun v s2 aS pins' σ' H' y Nx hT hs0 I2 r2 hCy nxt => ?_) fun s2 aS pins' σ' H' hT hs0 I2 hf => ?_))
  · obtain ⟨t2, c2, rfl⟩ := hT
    have e0 := hs0 _ (List.mem_singleton.mpr rfl)
    have e0 : s.heap.get? S = some (accO aS t2 c2) := e0
    rw [hS] at e0
    cases e0
    obtain ⟨j, rfl, hNx⟩ := hC i y H' Nx hCy
    obtain ⟨t, rfl⟩ := r2
    have hS' : s2.heap.get? S = some (accO i tA c) := (I2.pin (S, accO i tA c) (List.mem_append_right _ (List.mem_singleton.mpr rfl))).1
    have go2 : ∀ (t' : Tok) (c' : Nat) (h' : Heap) (tk : Nat), (∀ b u, b ≠ S → s2.heap.get? b = some u → h'.get? b = some u) → h'.get? S = some (accO (i + j) t' c') → ∀ st', (st' = 0 ∨ st' = 2) →
        codeAny (model X'.prog X'.w) A (.builtin "sum.loop" ⟨[.ref a, .ref S, rawInt st', rawInt 0], []⟩) R { s2 with heap := h', toks := tk } := by
      intro t' c' h' tk hk ho st' hst'
      have I3 : Inv X' [(S, accO (i + j) t' c')] σ' H' { s2 with heap := h', toks := tk } := inv_cell (t' := tk) I2 hA hpS hk ho (fun v z => by cases z)
      obtain ⟨n', hn', S'⟩ := nxt (i + j) _ h' tk ⟨t', c', rfl⟩ I3 (fun b hb o e => hk b o (fun z => hSf (by rw [← z]; exact hb)) e) hNx
      exact ih n' hn' (i + j) t' c' st' σ' H' _ hst' I3 S'
    rcases hst2 with rfl | rfl
    · show wpAny _ A.in1 (if (_ : Bool) = true then (mkInt (i + j) >>= _) else _) _ _ _
      split
      · refine wpAny_bind (wpAny_mkInt ?_)
        show wpAny _ A.in1 (updateSeq S (fun _ => #[.int (i + j) s2.toks]) >>= _) _ _ _
        refine wpAny_bind ?_
        refine wpAny_updateSeq hS' rfl (wpAny_pure ⟨plainId_quiet F.plain_sum_loop _, ?_⟩)
        have hS₁ := Heap.get?_update_self (Obj.mapSeq fun _ => #[Value.int (i + j) s2.toks]) hS' rfl
        exact go2 _ _ _ _ (keepU _ _) hS₁ _ (.inl rfl)
      · refine wpAny_bind (wpAny_rule ?_)
        refine wpAny_bind (wpAny_attempt (wpAny_holding (wpAny_add_int ?_)))
        show wpAny _ A.in1 (updateSeq S (fun _ => #[.int (i + j) s2.toks]) >>= _) _ _ _
        refine wpAny_bind (wpAny_updateSeq hS' rfl ?_)
        have hS₂ := Heap.get?_update_self (Obj.mapSeq fun _ => #[Value.int (i + j) s2.toks]) hS' rfl
        refine wpAny_bind (wpAny_letGo ?_)
        refine wpAny_bind (wpAny_updateSeq hS₂ rfl (wpAny_pure ⟨plainId_quiet F.plain_sum_loop _, ?_⟩))
        have hS₃ := Heap.get?_update_self (Obj.mapSeq fun _ => #[Value.int (i + j) s2.toks]) hS₂ rfl
        exact go2 _ _ _ _ (fun b u hb e => keepU _ _ b u hb (keepU _ _ b u hb e)) hS₃ _ (.inr rfl)
    · show wpAny _ A.in1 ((holding [Value.int j t] (binaryOp .Add (.int i tA) (.int j t))).attempt >>= _) _ _ _
      refine wpAny_bind (wpAny_attempt (wpAny_holding (wpAny_add_int ?_)))
      show wpAny _ A.in1 (updateSeq S (fun _ => #[.int (i + j) s2.toks]) >>= _) _ _ _
      refine wpAny_bind (wpAny_updateSeq hS' rfl ?_)
      have hS₂ := Heap.get?_update_self (Obj.mapSeq fun _ => #[Value.int (i + j) s2.toks]) hS' rfl
      refine wpAny_bind (wpAny_letGo ?_)
      refine wpAny_bind (wpAny_updateSeq hS₂ rfl (wpAny_pure ⟨plainId_quiet F.plain_sum_loop _, ?_⟩))
      have hS₃ := Heap.get?_update_self (Obj.mapSeq fun _ => #[Value.int (i + j) s2.toks]) hS₂ rfl
      exact go2 _ _ _ _ (fun b u hb e => keepU _ _ b u hb (keepU _ _ b u hb e)) hS₃ _ (.inr rfl)
  · obtain ⟨t2, c2, rfl⟩ := hT
    have e0 := hs0 _ (List.mem_singleton.mpr rfl)
    have e0 : s.heap.get? S = some (accO aS t2 c2) := e0
    rw [hS] at e0
    cases e0
    exact wpAny_pure (hF i _ _ _ _ tA I2 hf)
/-! ### a list filled -/
def TieL (S : Addr) (ys : List V) (ps : List (Addr × Obj)) : Prop := ∃ acc c, Vals ys acc.toList ∧ ps = [(S, lstObj acc c)]
theorem ext_loop {C : List V → V → Hp → (List V → Hp → Prop) → Prop} {fin : List V → Hp → Prop} {res : Value} (hB : A.handled = none) (hd : A.depth < recursionLimit) (hgo : ∀ h : Heap, h.get? a = some go → h.IsGen a gi) (hpn : (a, go) ∈ X'.pn)
    (hA : Apart X' S) (hSf : S ∉ fp) (hpS : ∀ p ∈ X'.pn, p.1 ≠ S)
    (hC : ∀ ys y H Nx, C ys y H Nx → ys.length < sizeLine ∧ Nx (ys ++ [y]) H) (hF : ∀ ys acc c σ H s, Vals ys acc.toList → Inv X' [(S, lstObj acc c)] σ H s → fin ys H → R (.ok (.ret res)) s) :
    ∀ (n : Nat) (ys : List V) (acc : Array Value) (c : Nat) (σ : L2.St) (H : Hp) (s : Shared), Vals ys acc.toList → Inv X' [(S, lstObj acc c)] σ H s → Sleep X' fp (TieL S) C fin A.in1.in1 gi n s →
      codeAny (model X'.prog X'.w) A (.builtin "list.extend.loop" ⟨[.ref S, .ref a, res], []⟩) R s := by
  intro n
  induction n using Nat.strongRecOn with
  | ind n ih =>
  intro ys acc c σ H s hv I Sl
  have hS : s.heap.get? S = some (lstObj acc c) := (I.pin (S, lstObj acc c) (List.mem_append_right _ (List.mem_singleton.mpr rfl))).1
  refine codeAny_builtin F.entry_extend_loop ?_
  rw [Around.under_plainId F.plain_extend_loop _]
  show wpAny _ A.in1 (pyNext (.ref a) >>= _) _ _ s
  refine wpAny_bind (gstep (B := A.in1) hB hd hgo hpn I Sl (fun v s2 aS pins' σ' H' y Nx hT hs0 I2 r2 hCy nxt => ?_) fun s2 aS pins' σ' H' hT hs0 I2 hf => ?_)
  · obtain ⟨acc2, c2, hv2, rfl⟩ := hT
    obtain ⟨hlt, hNx⟩ := hC aS y H' Nx hCy
    have hS' : s2.heap.get? S = some (lstObj acc2 c2) := (I2.pin (S, lstObj acc2 c2) (List.mem_append_right _ (List.mem_singleton.mpr rfl))).1
    have hasz : acc2.size < sizeLine := by
      have e1 := hv2.length
      have e2 : acc2.toList.length = acc2.size := by simp
      omega
    show wpAny _ A.in1 (updateSeq S (·.push v) >>= _) _ _ _
    refine wpAny_bind ?_
    refine wpAny_updateSeq hS' rfl (wpAny_pure ⟨plainId_quiet F.plain_extend_loop _, ?_⟩) (Nat.le_of_lt hasz) (by show (acc2.push v).size ≤ sizeLine + 1; rw [Array.size_push]; omega)
    have hS₂ := Heap.get?_update_self (Obj.mapSeq (·.push v)) hS' rfl
    have kU : ∀ b u, b ≠ S → s2.heap.get? b = some u → (s2.heap.update S (Obj.mapSeq (·.push v))).get? b = some u := fun b u hb e => (Heap.get?_update_other _ _ (Ne.symm hb)).trans e
    have hv3 : Vals (aS ++ [y]) (acc2.push v).toList := by
      rw [Array.toList_push]
      exact hv2.append (.cons r2 .nil)
    have I3 := inv_cell (t' := s2.toks) I2 hA hpS kU hS₂ (fun v z => by cases z)
    obtain ⟨n', hn', S'⟩ := nxt (aS ++ [y]) _ _ s2.toks ⟨acc2.push v, _, hv3, rfl⟩ I3 (fun b hb o e => kU b o (fun z => hSf (by rw [← z]; exact hb)) e) hNx
    exact ih n' hn' (aS ++ [y]) (acc2.push v) _ σ' H' _ hv3 I3 S'
  · obtain ⟨acc2, c2, hv2, rfl⟩ := hT
    exact wpAny_pure (hF aS acc2 c2 _ _ _ hv2 I2 hf)
end
section
variable {X : Cx} {k : Nat} {elt tg iter : Expr} {ifs : List Expr} {scope : Scope} {own : List (Str × Nat)} {c P : Addr} {wi : TI} {g : TG} {tt : TT} {te : TE} {p pos gpos : Pos}
def tSum (P : Addr) (wi : TI) (g : TG) (tt : TT) (te : TE) (vs : List Nat) : TE := fun σ H Q =>
  tGx P wi g tt te vs (0 : Int) (fun i y H Nx => ∃ j, y = .int j ∧ Nx (i + j) H) (fun i H => Q (.int i) H) σ H
def tTupG (P : Addr) (wi : TI) (g : TG) (tt : TT) (te : TE) (vs : List Nat) : TE := fun σ H Q =>
  tGx P wi g tt te vs ([] : List V) (fun ys y H Nx => ys.length < sizeLine ∧ Nx (ys ++ [y]) H) (fun ys H => ys.length ≤ sizeLine ∧ ∀ p, H p = none → Q (.ref p) (upd H p (.tup ys))) σ H
theorem Room.in1'' {k : Nat} {A : Around} (r : Room (k + 2) A) : Room (k + 1) A.in1.in1.in1.in1.in1 :=
  ⟨r.hd, by have := r.dp; show A.depth + 3 * (k + 1) + 5 < _; omega, by have := r.un; show A.units + 1 + 1 + 1 + 1 + 1 + 16 * (k + 1) + 200 < _; omega⟩
theorem pe_sum (G : GParts X k elt tg iter ifs scope own c P wi g tt te) (hg : Gl X "sum") (hm : X.mg "sum" = none) (hb : bootBuiltins "sum" = some (.builtin "sum") := by decide +kernel) :
    PE X (.Call (.Name "sum" p) [.GeneratorExp elt [⟨tg, iter, ifs, 0⟩] scope gpos] [] pos) (tSum P wi g tt te (own.map (·.2))) := by
  have he : starEach [.GeneratorExp elt [⟨tg, iter, ifs, 0⟩] scope gpos] X.env = (false, eval (.GeneratorExp elt [⟨tg, iter, ifs, 0⟩] scope gpos) X.env) :: starEach [] X.env := by rfl
  refine ⟨fun pins s σ H Q I h => ?_⟩
  refine wpAny_Call_Name_kw (ld_blt I hg hm hb ?_)
  refine PyProof.Rows.callWith_builtin1 ?_ he (by rfl)
  rw [he]
  show wpAny _ _ (spliced ((false, eval (.GeneratorExp elt [⟨tg, iter, ifs, 0⟩] scope gpos) X.env) :: backTo pos (starEach [] X.env))) _ _ s
  refine Calls.spliced_cons (gen_eval G.hr G.TB G.hcode G.hN G.hc G.hi G.ok G.gk G.hg G.ht G.he G.hs I h fun J H2 a s5 hR ha hl hig hG => ?_)
  refine Calls.spliced_nil ?_
  obtain ⟨W, ⟨m0, w0⟩, turn⟩ := hR
  have hdep : X.A.depth < recursionLimit := by have := G.hr.dp; omega
  refine call_function_tree F.kind_sum F.plain_sum F.entry_sum (F.args_sum1 _) ?_
  unfold Builtin.«sum»
  simp only [List.length_cons, List.length_nil]
  rw [if_neg (by decide)]
  obtain ⟨gi', hig⟩ := hig
  refine wpAny_bind (wpAny_of_eq (show Builtin.Builtins.bindParams "sum" ["start"] 0 { } = pure [none] from rfl) ?_)
  refine wpAny_bind (wpAny_pyIter_gen hig ?_)
  refine wpAny_bind (wpAny_mkInt ?_)
  refine wpAny_bind (wpAny_pure ?_)
  simp only [List.forIn_cons, List.forIn_nil]
  refine wpAny_bind (wpAny_bind (wpAny_bind (wpAny_isInstance (T := "int") (b := false) (typeIs_int _ _ _) PySem.sub_int_str ?_)))
  simp only [Bool.false_eq_true, if_false]
  refine wpAny_pure (wpAny_bind (wpAny_bind (wpAny_isInstance (T := "int") (b := false) (typeIs_int _ _ _) PySem.sub_int_bytes ?_)))
  simp only [Bool.false_eq_true, if_false]
  refine wpAny_pure (wpAny_bind (wpAny_bind (wpAny_isInstance (T := "int") (b := false) (typeIs_int _ _ _) PySem.sub_int_bytearray ?_)))
  simp only [Bool.false_eq_true, if_false]
  refine wpAny_pure (wpAny_pure ?_)
  refine wpAny_bind (wpAny_newObj_type ?_)
  obtain ⟨X', fp, gi, go, e1, e2, hpn, hgo, hst, hback, hap, _⟩ := hG Int (TieS s5.heap.objs.size) (fun i y H Nx => ∃ j, y = .int j ∧ Nx (i + j) H) (fun i H => Q (.int i) H) W m0 0 X.A.in1.in1 turn w0 I.ok.frames (Room.in1' G.hr)
    (fun _ ps e p hp => by obtain ⟨t, c, rfl⟩ := e; rw [List.mem_singleton.mp hp]; exact Nat.le_refl _)
  obtain ⟨hA, hSf, hpS⟩ := hap s5.heap.objs.size (Nat.le_refl _)
  have hS := Heap.get?_push_size s5.heap (o := accO 0 s5.toks 0) rfl
  obtain ⟨I5, S5⟩ := hst [(s5.heap.objs.size, accO 0 s5.toks 0)] (s5.heap.push (accO 0 s5.toks 0)) (s5.toks + 1) ⟨_, _, rfl⟩ (fun b o e => Heap.get?_push_of_some _ e) (fun p hp => by
    rw [List.mem_singleton.mp hp]
    exact ⟨hS, fun v z => by cases z⟩)
  refine wpAny_pure ⟨plainId_quiet F.plain_sum_loop _, ?_⟩
  have L := sum_loop (X' := X') (R := fun r s' => match r with
      | .ok (.ret v) => EP X pins σ Q v s'
      | _ => False) (S := s5.heap.objs.size) (C := fun i y H Nx => ∃ j, y = .int j ∧ Nx (i + j) H) (fin := fun i H => Q (.int i) H) (A := X.A) (fp := fp) (go := go) (gi := gi) G.hr.hd hdep hgo hpn hA hSf hpS
    (fun i y H Nx h => h) (fun i pins' σ' H' s' t J hf => ⟨.int i, H', hback _ _ _ _ J, ⟨t, rfl⟩, hf⟩) _ 0 s5.toks 0 0 _ _ _ (.inl rfl) I5 S5
  rw [e1, e2] at L
  exact codeAny_mono L fun r s' z => by
    rcases r with e | (v | _ | _ | _) <;> first | exact z | exact z.elim
theorem Room.in1''' {k : Nat} {A : Around} (r : Room (k + 2) A) : Room (k + 1) A.in1.in1.in1.in1 :=
  ⟨r.hd, by have := r.dp; show A.depth + 3 * (k + 1) + 5 < _; omega, by have := r.un; show A.units + 1 + 1 + 1 + 1 + 16 * (k + 1) + 200 < _; omega⟩
/-- collect over the generator -/
theorem collect_gen {A : Around} {R : Result → Shared → Prop} {pins : List (Addr × Obj)} {σ : L2.St} {J : It} {H2 : Hp} {a : Addr} {s5 : Shared} {vs : List Nat} {fin : List V → Hp → Prop}
    (hG : GReady X pins σ k J g tt te vs H2 a s5) (hig : ∃ gi, s5.heap.IsGen a gi) (hfr : A.frames = some X.stack) (hroom : Room (k + 1) A.in1.in1) (hB : A.handled = none) (hd : A.depth < recursionLimit)
    (hW : ∃ W : Nat → Nat → List V → Hp → Prop, (∃ m, W 0 m [] H2) ∧ GTurns J g tt te (wipe σ vs) vs (fun ys y H Nx => ys.length < sizeLine ∧ Nx (ys ++ [y]) H) fin W)
    (hQ : ∀ acc c ys H' s', s'.heap.get? s5.heap.objs.size = some (lstObj acc c) → Vals ys acc.toList → Inv X pins σ H' s' → fin ys H' → R (.ok (.ret (.ref s5.heap.objs.size))) s') : codeAny (model X.prog X.w) A (.builtin "proto.collect" ⟨[.ref a], []⟩) R s5 := by
  obtain ⟨W, ⟨m0, w0⟩, turn⟩ := hW
  obtain ⟨gi', hig⟩ := hig
  obtain ⟨X', fp, gi, go, e1, e2, hpn, hgo, hst, hback, hap, halt⟩ := hG (List V) (TieL s5.heap.objs.size) (fun ys y H Nx => ys.length < sizeLine ∧ Nx (ys ++ [y]) H) fin W m0 [] A.in1.in1 turn w0 hfr hroom
    (fun _ ps e p hp => by obtain ⟨acc, c, _, rfl⟩ := e; rw [List.mem_singleton.mp hp]; exact Nat.le_refl _)
  obtain ⟨hA, hSf, hpS⟩ := hap s5.heap.objs.size (Nat.le_refl _)
  have hSI : s5.heap.objs.size ≠ a := Nat.ne_of_gt halt
  refine codeAny_builtin F.entry_proto_collect ?_
  rw [Around.under_plainId F.plain_proto_collect _]
  show wpAny _ A.in1 (newList [] >>= fun l => again (.builtin "list.__iadd__" ⟨[l, .ref a], []⟩)) _ _ s5
  refine wpAny_bind (wpAny_newObj_type ?_)
  refine wpAny_pure ⟨plainId_quiet F.plain_list_iadd _, codeAny_builtin F.entry_list_iadd ?_⟩
  rw [Around.under_plainId F.plain_list_iadd _]
  have gty : ∀ {h : Heap}, (∀ b o, s5.heap.get? b = some o → h.get? b = some o) → h.IsGen a gi' := fun {h} q => hig.keeps q
  have k1 : ∀ b o, s5.heap.get? b = some o → (s5.heap.push { cls := .type "list", data := .seq ([] : List Value).toArray }).get? b = some o := fun b o e => Heap.get?_push_of_some _ e
  show wpAny _ A.in1 (Builtin.List.listExtendWith (.ref s5.heap.objs.size) (.ref a) (.ref s5.heap.objs.size)) _ _ _
  unfold Builtin.List.listExtendWith
  refine wpAny_bind (wpAny_typeOf (Heap.IsGen.typeIs (s := { s5 with heap := _ }) (gty k1)) ?_)
  have h1 : Builtin.List.listSameRef (.ref s5.heap.objs.size) (.ref a) = false := by simp [Builtin.List.listSameRef, hSI]
  have h2 : (Value.type "generator" == Value.type "list") = false := by decide
  have h3 : (Value.type "generator" == Value.type "tuple") = false := by decide
  simp only [h1, h2, h3, Bool.or_false, Bool.false_eq_true, if_false]
  refine wpAny_bind (wpAny_pyIter_gen (s := { s5 with heap := _ }) (gty k1) ?_)
  refine wpAny_bind (wpAny_holding ?_)
  unfold Builtin.List.listLengthHint
  refine wpAny_bind (wpAny_specialOf (Heap.IsGen.typeIs (s := { s5 with heap := _ }) (gty k1)) F.gen_no_len ?_)
  show wpAny _ A.in1 (specialOf (Value.ref a) (Str.ofString "__length_hint__") >>= _) _ _ _
  refine wpAny_bind (wpAny_specialOf (Heap.IsGen.typeIs (s := { s5 with heap := _ }) (gty k1)) F.gen_no_hint ?_)
  refine wpAny_pure ?_
  show wpAny _ A.in1 (rule "list.extend.makes-room" >>= fun _ => Builtin.List.listTouch (.ref s5.heap.objs.size) >>= fun _ =>
    again (.builtin "list.extend.loop" ⟨[.ref s5.heap.objs.size, .ref a, .ref s5.heap.objs.size], []⟩)) _ _ _
  refine wpAny_bind (wpAny_rule ?_)
  have hS₁ : (s5.heap.push { cls := .type "list", data := .seq ([] : List Value).toArray }).get? s5.heap.objs.size = some { cls := .type "list", data := .seq ([] : List Value).toArray } := Heap.get?_push_size _ rfl
  refine wpAny_bind ?_
  show wpAny _ A.in1 (updateSeq s5.heap.objs.size (·.push .none) >>= fun _ => updateSeq s5.heap.objs.size (·.pop)) _ _ _
  refine wpAny_bind (wpAny_updateSeq hS₁ rfl ?_)
  have hS₂ := Heap.get?_update_self (Obj.mapSeq (·.push Value.none)) hS₁ rfl
  refine wpAny_updateSeq (hz := by seq_fits) hS₂ rfl ?_
  have hS₃ := Heap.get?_update_self (Obj.mapSeq (·.pop)) hS₂ rfl
  have up : ∀ (h : Heap) (f : Obj → Obj), (∀ b o, s5.heap.get? b = some o → h.get? b = some o) → ∀ b o, s5.heap.get? b = some o → (h.update s5.heap.objs.size f).get? b = some o := fun h f q b o e =>
    (Heap.get?_update_other _ _ (Ne.symm (Nat.ne_of_lt (Heap.lt_size e)))).trans (q b o e)
  have k3 := up _ (Obj.mapSeq (·.pop)) (up _ (Obj.mapSeq (·.push Value.none)) k1)
  obtain ⟨I5, S5⟩ := hst [(s5.heap.objs.size, lstObj #[] _)] _ s5.toks ⟨_, _, .nil, rfl⟩ k3 (fun p hp => by
    rw [List.mem_singleton.mp hp]
    exact ⟨hS₃, fun v z => by cases z⟩)
  refine wpAny_pure ⟨plainId_quiet F.plain_extend_loop _, ?_⟩
  have L := ext_loop (X' := X') (R := fun r s' => ∃ acc c ys H', r = .ok (.ret (.ref s5.heap.objs.size)) ∧ s'.heap.get? s5.heap.objs.size = some (lstObj acc c) ∧ Vals ys acc.toList ∧ Inv X pins σ H' s' ∧ fin ys H')
      (res := .ref s5.heap.objs.size) (S := s5.heap.objs.size) (C := fun ys y H Nx => ys.length < sizeLine ∧ Nx (ys ++ [y]) H) (fin := fin) (A := A) (fp := fp) (go := go) (gi := gi) hB hd hgo hpn hA hSf hpS
    (fun i y H Nx h => h) (fun ys acc c σ' H' s' hv J hf => ⟨acc, c, ys, H', rfl, (J.pin (s5.heap.objs.size, lstObj acc c) (List.mem_append_right _ (List.mem_singleton.mpr rfl))).1, hv, hback _ _ _ _ J, hf⟩) _ [] #[] _ _ _ _ .nil I5 S5
  rw [e1, e2] at L
  refine codeAny_mono L fun r s' z => ?_
  obtain ⟨acc, c, ys, H', rfl, hS', hv, J, hf⟩ := z
  exact hQ acc c ys H' s' hS' hv J hf
theorem pe_tupG (G : GParts X k elt tg iter ifs scope own c P wi g tt te) (hg : Gl X "tuple") (hm : X.mg "tuple" = none) (hv : bootBuiltins "tuple" = some (.type "tuple") := by decide +kernel) :
    PE X (.Call (.Name "tuple" p) [.GeneratorExp elt [⟨tg, iter, ifs, 0⟩] scope gpos] [] pos) (tTupG P wi g tt te (own.map (·.2))) := by
  have he : starEach [.GeneratorExp elt [⟨tg, iter, ifs, 0⟩] scope gpos] X.env = (false, eval (.GeneratorExp elt [⟨tg, iter, ifs, 0⟩] scope gpos) X.env) :: starEach [] X.env := by rfl
  refine ⟨fun pins s σ H Q I h => ?_⟩
  refine wpAny_Call_Name_kw (ld_blt I hg hm hv ?_)
  refine PyProof.Rows.callWith_type1 ?_ he rfl
  rw [he]
  show wpAny _ _ (spliced ((false, eval (.GeneratorExp elt [⟨tg, iter, ifs, 0⟩] scope gpos) X.env) :: backTo pos (starEach [] X.env))) _ _ s
  refine Calls.spliced_cons (gen_eval G.hr G.TB G.hcode G.hN G.hc G.hi G.ok G.gk G.hg G.ht G.he G.hs I h fun J H2 a s5 hR ha hl hig hG => ?_)
  refine Calls.spliced_nil ?_
  have hdep : X.A.depth < recursionLimit := by have := G.hr.dp; omega
  have hTI : s5.TypeIs (.ref a) "generator" := by
    obtain ⟨gi, hig⟩ := hig
    exact Heap.IsGen.typeIs hig
  refine callType_codes (Q₁ := fun obj s₁ => s₁.TypeIs obj "tuple" ∧ EP X pins σ Q obj s₁) F.called_tuple (F.typeCall_tuple_1 _) F.entry_object_init ?_ fun obj s₁ h₁ => ?_
  · refine codeAny_of_tree ?_
    show wpAny _ X.A.in1.in1 (do checkBuiltinCall "tuple.__new__" ⟨[.type "tuple", .ref a], []⟩; again (.builtin "tuple.__new__" ⟨[.type "tuple", .ref a], []⟩)) _ _ s5
    refine wpAny_bind (wpAny_of_eq (F.newCall_tuple_1 _) (wpAny_pure ⟨plainId_quiet F.plain_tuple_new _, codeAny_builtin F.entry_tuple_new ?_⟩))
    rw [Around.under_plainId F.plain_tuple_new _]
    have hsub := sub_tuple_self
    have hinit := init_tuple_lookup
    have hmh := madeHere_tuple
    wp_walk using wpAny_typeOf hTI
    refine collect_gen hG hig I.ok.frames (Room.in1''' G.hr) G.hr.hd hdep hR (fun acc c ys H' s' hS' hv J hf => ?_)
    show wpAny _ _ (load s5.heap.objs.size >>= _) _ _ s'
    refine wpAny_bind (wpAny_load hS' (wpAny_pure ?_))
    obtain ⟨hz, hq⟩ := hf
    show wpAny _ _ (Builtin.Tuple.tupleExact acc.toList.toArray >>= fun v => ret v) _ _ _
    unfold Builtin.Tuple.tupleExact
    have hacc : acc.size ≤ sizeLine := by
      have e1 := hv.length
      have e2 : acc.toList.length = acc.size := by simp
      omega
    refine wpAny_bind (wpAny_newObj_type ?_ (by show acc.toList.toArray.size ≤ sizeLine; simp only [Array.toArray_toList]; exact hacc))
    refine wpAny_pure ?_
    have e : acc.toList.toArray = acc := by simp
    rw [e]
    have hn : H' s'.heap.objs.size = none := J.hok.fresh (Nat.le_refl _)
    have ob : ObjOk X.prog X.w (upd H' s'.heap.objs.size (.tup ys)) (s'.heap.push { cls := .type "tuple", data := .seq acc }) s'.heap.objs.size (.tup ys) := ⟨hz, acc.toList, hv, ⟨_, Heap.get?_push_size _ rfl, rfl, 0, rfl⟩⟩
    exact ⟨⟨_, Heap.get?_push_size _ rfl, rfl⟩, .ref s'.heap.objs.size, _, J.laid (t' := s'.toks) (fun b o e => Heap.get?_push_of_some _ e) (Nat.le_refl _) ob, rfl, hq _ hn⟩
  · exact ⟨h₁.1, F.args_object_init_2 obj _, object_init_meets F.called_tuple.init.lookup F.called_tuple.made (by decide) X.prog X.w X.A.in1 _ s₁ ⟨h₁.1, rfl, h₁.2⟩⟩
end
end GX
set_option maxRecDepth 100000
set_option maxHeartbeats 2000000
/-! SemA: plain data over the layer's heap: what represents what, the states, the judgements. -/
namespace DD
open PySem PySem.Spec PyProof.Rows L2
abbrev D := PyData
/-- an error that a def lets out -/
inductive Exn where
  | bad (name : Str)
  | unread (off : Int) (why : Str)
/-- the key of a dict as data -/
def keyD : Key → D
  | .inl i => .int i
  | .inr x => .str x
/-! ### representation -/
mutual
/-- v, in the heap, is the data; N: the addresses that may be held by many -/
def RepV (K : PySem.W.Frag) (N : Addr → Prop) (H : Hp) : V → D → Prop
  | v, .none => v = .non
  | v, .bool b => v = .bl b
  | v, .int i => v = .int i
  | v, .str s => v = .str s
  | v, .list ds => ∃ a vs, v = .ref a ∧ N a ∧ H a = some (.lst vs) ∧ RepAll K N H vs ds
  | v, .tuple ds => ∃ a vs, v = .ref a ∧ SqT K H a vs ∧ RepAll K N H vs ds
  | v, .dict kvs => ∃ a, v = .ref a ∧ N a ∧ ∃ vs, RepKV K N H vs kvs ∧
      ((∃ ks : List Key, H a = some (.dK (ks.zip vs)) ∧ ks.length = vs.length ∧ kvs.map (·.1) = ks.map keyD) ∨
       (∃ ks : List (List Key), H a = some (.dT (ks.zip vs)) ∧ ks.length = vs.length ∧ kvs.map (·.1) = ks.map fun l => .tuple (l.map keyD)))
def RepAll (K : PySem.W.Frag) (N : Addr → Prop) (H : Hp) : List V → List D → Prop
  | [], [] => True
  | v :: vs, d :: ds => RepV K N H v d ∧ RepAll K N H vs ds
  | _, _ => False
def RepKV (K : PySem.W.Frag) (N : Addr → Prop) (H : Hp) : List V → List (D × D) → Prop
  | [], [] => True
  | v :: vs, (_, d) :: r => RepV K N H v d ∧ RepKV K N H vs r
  | _, _ => False
end
/-- the object at a is the data (a list, a dict), whoever holds it -/
def RepO (K : PySem.W.Frag) (N : Addr → Prop) (H : Hp) (a : Addr) : D → Prop
  | .list ds => ∃ vs, H a = some (.lst vs) ∧ RepAll K N H vs ds
  | .dict kvs => ∃ vs, RepKV K N H vs kvs ∧
      ((∃ ks : List Key, H a = some (.dK (ks.zip vs)) ∧ ks.length = vs.length ∧ kvs.map (·.1) = ks.map keyD) ∨
       (∃ ks : List (List Key), H a = some (.dT (ks.zip vs)) ∧ ks.length = vs.length ∧ kvs.map (·.1) = ks.map fun l => .tuple (l.map keyD)))
  | _ => False
section
variable {K : PySem.W.Frag} {N N' : Addr → Prop} {H H' : Hp}
theorem RepO.v {a : Addr} {d : D} (h : RepO K N H a d) (n : N a) : RepV K N H (.ref a) d := by
  cases d with
  | list ds => obtain ⟨vs, h1, h2⟩ := h; rw [RepV]; exact ⟨a, vs, rfl, n, h1, h2⟩
  | dict kvs => obtain ⟨vs, h1, h2⟩ := h; rw [RepV]; exact ⟨a, rfl, n, vs, h1, h2⟩
  | _ => exact h.elim
theorem rep_int {i : Int} : RepV K N H (.int i) (.int i) := by rw [RepV]
theorem rep_bool {i : Bool} : RepV K N H (.bl i) (.bool i) := by rw [RepV]
theorem rep_str {i : Str} : RepV K N H (.str i) (.str i) := by rw [RepV]
theorem rep_none : RepV K N H .non .none := by rw [RepV]
theorem rep_tuple {a : Addr} {vs : List V} {ds : List D} (h : SqT K H a vs) (r : RepAll K N H vs ds) : RepV K N H (.ref a) (.tuple ds) := by rw [RepV]; exact ⟨a, vs, rfl, h, r⟩
theorem rep_list {a : Addr} {vs : List V} {ds : List D} (n : N a) (h : H a = some (.lst vs)) (r : RepAll K N H vs ds) : RepV K N H (.ref a) (.list ds) := by rw [RepV]; exact ⟨a, vs, rfl, n, h, r⟩
theorem rall_nil : RepAll K N H [] [] := by rw [RepAll]; trivial
theorem rall_cons {v : V} {vs : List V} {d : D} {ds : List D} (h : RepV K N H v d) (t : RepAll K N H vs ds) : RepAll K N H (v :: vs) (d :: ds) := by rw [RepAll]; exact ⟨h, t⟩
theorem RepAll.length : ∀ {vs : List V} {ds : List D}, RepAll K N H vs ds → vs.length = ds.length
  | [], [], _ => rfl
  | v :: vs, d :: ds, h => by
    rw [RepAll] at h
    rw [List.length_cons, List.length_cons, RepAll.length h.2]
  | [], _ :: _, h => by simp [RepAll] at h
  | _ :: _, [], h => by simp [RepAll] at h
theorem RepAll.get : ∀ {vs : List V} {ds : List D} {i : Nat} {d : D}, RepAll K N H vs ds → ds[i]? = some d → ∃ v, vs[i]? = some v ∧ RepV K N H v d
  | [], [], _, _, _, e => by simp at e
  | v :: vs, d :: ds, 0, x, h, e => by
    rw [RepAll] at h
    simp at e
    subst e
    exact ⟨v, rfl, h.1⟩
  | v :: vs, d :: ds, i + 1, x, h, e => by
    rw [RepAll] at h
    obtain ⟨w, h1, h2⟩ := RepAll.get (i := i) (d := x) h.2 (by simpa using e)
    exact ⟨w, by simpa using h1, h2⟩
  | [], _ :: _, _, _, h, _ => by simp [RepAll] at h
  | _ :: _, [], _, _, h, _ => by simp [RepAll] at h
theorem RepAll.get' {vs : List V} {ds : List D} {i : Nat} {v : V} (h : RepAll K N H vs ds) (e : vs[i]? = some v) : ∃ d, ds[i]? = some d ∧ RepV K N H v d := by
  have hl := h.length
  have hi : i < ds.length := by
    have := (List.getElem?_eq_some_iff.mp e).1
    omega
  obtain ⟨w, h1, h2⟩ := h.get (List.getElem?_eq_getElem hi)
  rw [e] at h1
  cases h1
  exact ⟨_, List.getElem?_eq_getElem hi, h2⟩
theorem RepAll.append : ∀ {vs ws : List V} {ds es : List D}, RepAll K N H vs ds → RepAll K N H ws es → RepAll K N H (vs ++ ws) (ds ++ es)
  | [], _, [], _, _, h => h
  | v :: vs, _, d :: ds, _, h, g => by
    rw [RepAll] at h
    exact rall_cons h.1 (RepAll.append h.2 g)
  | [], _, _ :: _, _, h, _ => by simp [RepAll] at h
  | _ :: _, _, [], _, h, _ => by simp [RepAll] at h
theorem RepAll.set : ∀ {vs : List V} {ds : List D} {v : V} {d : D} (i : Nat), RepAll K N H vs ds → RepV K N H v d → RepAll K N H (vs.set i v) (ds.set i d)
  | [], [], _, _, _, h, _ => h
  | w :: vs, e :: ds, v, d, 0, h, r => by
    rw [RepAll] at h
    exact rall_cons r h.2
  | w :: vs, e :: ds, v, d, i + 1, h, r => by
    rw [RepAll] at h
    exact rall_cons h.1 (RepAll.set i h.2 r)
  | [], _ :: _, _, _, _, h, _ => by simp [RepAll] at h
  | _ :: _, [], _, _, _, h, _ => by simp [RepAll] at h
theorem RepAll.take : ∀ {vs : List V} {ds : List D} (n : Nat), RepAll K N H vs ds → RepAll K N H (vs.take n) (ds.take n)
  | _, _, 0, _ => rall_nil
  | [], [], n + 1, h => by simpa using h
  | v :: vs, d :: ds, n + 1, h => by
    rw [RepAll] at h
    exact rall_cons h.1 (RepAll.take n h.2)
  | [], _ :: _, _, h => by simp [RepAll] at h
  | _ :: _, [], _, h => by simp [RepAll] at h
theorem RepAll.drop : ∀ {vs : List V} {ds : List D} (n : Nat), RepAll K N H vs ds → RepAll K N H (vs.drop n) (ds.drop n)
  | _, _, 0, h => h
  | [], [], n + 1, h => by simpa using h
  | v :: vs, d :: ds, n + 1, h => by
    rw [RepAll] at h
    exact RepAll.drop n h.2
  | [], _ :: _, _, h => by simp [RepAll] at h
  | _ :: _, [], _, h => by simp [RepAll] at h
theorem RepAll.reverse : ∀ {vs : List V} {ds : List D}, RepAll K N H vs ds → RepAll K N H vs.reverse ds.reverse
  | [], [], h => h
  | v :: vs, d :: ds, h => by
    rw [RepAll] at h
    rw [List.reverse_cons, List.reverse_cons]
    exact (RepAll.reverse h.2).append (rall_cons h.1 rall_nil)
  | [], _ :: _, h => by simp [RepAll] at h
  | _ :: _, [], h => by simp [RepAll] at h
theorem RepAll.rep {v : V} {d : D} (h : RepV K N H v d) (n : Nat) : RepAll K N H (List.replicate n v) (List.replicate n d) := by
  induction n with
  | zero => exact rall_nil
  | succ n ih => exact rall_cons h ih
theorem RepAll.ints : ∀ ns : List Int, RepAll K N H (ns.map V.int) (ns.map PyData.int)
  | [] => rall_nil
  | n :: r => rall_cons rep_int (RepAll.ints r)
/-- what data leans on stays: lists and dicts that may be held by many, tuples -/
structure Keeps2 (N N' : Addr → Prop) (H H' : Hp) : Prop where
  n : ∀ a, N a → H a ≠ none → N' a
  ob : ∀ a o, N a → H a = some o → (∀ ps, o ≠ .tbl ps) → H' a = some o
  tp : ∀ a xs, H a = some (.tup xs) → H' a = some (.tup xs)
  fz : ∀ a o xs, H a = some (.frz o (.tup xs)) → H' a = some (.frz o (.tup xs))
theorem Keeps2.sqt {K : PySem.W.Frag} (k : Keeps2 N N' H H') {a : Addr} {xs : List V} (h : SqT K H a xs) : SqT K H' a xs := by
  rcases h with (h | ⟨o, h⟩) | h
  · exact .inl (.inl (k.tp a xs h))
  · exact .inl (.inr ⟨o, k.fz a o xs h⟩)
  · exact .inr h
mutual
theorem RepV.keep (k : Keeps2 N N' H H') : ∀ (d : D) (v : V), RepV K N H v d → RepV K N' H' v d
  | .none, _, h => by rw [RepV] at h ⊢; exact h
  | .bool b, _, h => by rw [RepV] at h ⊢; exact h
  | .int i, _, h => by rw [RepV] at h ⊢; exact h
  | .str s, _, h => by rw [RepV] at h ⊢; exact h
  | .list ds, v, h => by
    rw [RepV] at h ⊢
    obtain ⟨a, vs, e, n, h1, h2⟩ := h
    exact ⟨a, vs, e, k.n a n (by rw [h1]; simp), k.ob a _ n h1 (fun ps z => by cases z), RepAll.keep k ds vs h2⟩
  | .tuple ds, v, h => by
    rw [RepV] at h ⊢
    obtain ⟨a, vs, e, h1, h2⟩ := h
    exact ⟨a, vs, e, k.sqt h1, RepAll.keep k ds vs h2⟩
  | .dict kvs, v, h => by
    rw [RepV] at h ⊢
    obtain ⟨a, e, n, vs, h2, h3⟩ := h
    have hne : H a ≠ Option.none := by rcases h3 with ⟨ks, h3, _⟩ | ⟨ks, h3, _⟩ <;> (rw [h3]; simp)
    refine ⟨a, e, k.n a n hne, vs, RepKV.keep k kvs vs h2, ?_⟩
    rcases h3 with ⟨ks, h3, r⟩ | ⟨ks, h3, r⟩
    · exact .inl ⟨ks, k.ob a _ n h3 (fun ps z => by cases z), r⟩
    · exact .inr ⟨ks, k.ob a _ n h3 (fun ps z => by cases z), r⟩
theorem RepAll.keep (k : Keeps2 N N' H H') : ∀ (ds : List D) (vs : List V), RepAll K N H vs ds → RepAll K N' H' vs ds
  | [], [], _ => rall_nil
  | d :: ds, v :: vs, h => by
    rw [RepAll] at h
    exact rall_cons (RepV.keep k d v h.1) (RepAll.keep k ds vs h.2)
  | [], _ :: _, h => by simp [RepAll] at h
  | _ :: _, [], h => by simp [RepAll] at h
theorem RepKV.keep (k : Keeps2 N N' H H') : ∀ (ds : List (D × D)) (vs : List V), RepKV K N H vs ds → RepKV K N' H' vs ds
  | [], [], _ => by rw [RepKV]; trivial
  | (_, d) :: ds, v :: vs, h => by
    rw [RepKV] at h ⊢
    exact ⟨RepV.keep k d v h.1, RepKV.keep k ds vs h.2⟩
  | [], _ :: _, h => by simp [RepKV] at h
  | _ :: _, [], h => by simp [RepKV] at h
end
theorem RepO.keep (k : Keeps2 N N' H H') {a : Addr} {d : D} (ha : H' a = H a) (h : RepO K N H a d) : RepO K N' H' a d := by
  cases d with
  | list ds => obtain ⟨vs, h1, h2⟩ := h; exact ⟨vs, by rw [ha]; exact h1, RepAll.keep k ds vs h2⟩
  | dict kvs =>
    obtain ⟨vs, h1, h2⟩ := h
    refine ⟨vs, RepKV.keep k kvs vs h1, ?_⟩
    rw [ha]
    exact h2
  | _ => exact h.elim
end
/-! ### the parameters, the world's facts -/
/-- T, G: the tables of code objects of defs with lambdas, with generator expressions; r: the drawing row, scr: the script, ns: its numbers; cBad, cUnr: the error classes; N: what a caller lets be held by many; H0: the heap at the entry; E: the wish of an error -/
structure Par where
  K : PySem.W.Frag
  w : World
  T : List (Addr × Str)
  G : List Addr
  r : Addr
  scr : Addr
  ns : List Int
  cBad : Addr
  cUnr : Addr
  N : Addr → Prop
  H0 : Hp
  E : XK
def RowI (_ns : List Int) (i s c : Int) : Prop := 0 ≤ i ∧ 0 ≤ s ∧ s < 2147483647 ∧ 0 ≤ c
def RowAt (K : PySem.W.Frag) (scr : Addr) (ns : List Int) (H : Hp) (r : Addr) : Prop :=
  (∃ i s c : Int, H r = some (.lst [.ref scr, .int i, .int s, .int c]) ∧ RowI ns i s c) ∧ SqL K H scr (ns.map V.int)
structure Wd (p : Par) (H : Hp) : Prop where
  dj : ∀ P ∈ p.G, ∀ q ∈ p.T, q.1 ≠ P
  g : ∀ P ∈ p.G, GxR.TabG H P
  t : LamX.Tabs p.T H
  row : RowAt p.K p.scr p.ns H p.r
/-- the script stands in the written part -/
def KScr (p : Par) : Prop := ∃ (o : Obj) (its : Array Value) (n : Nat), p.K.lookup p.scr = some o ∧ o.cls = .type "list" ∧ o.dict = none ∧ o.data = .seq its n ∧ its.size ≤ sizeLine ∧ Vals (p.ns.map V.int) its.toList
structure Ext (p : Par) (H H' : Hp) : Prop where
  ob : ∀ b o, H b = some o → (∀ ps, o ≠ .tbl ps) → b ≠ p.r → H' b = some o
  dom : ∀ b, H b ≠ none → H' b ≠ none
  wd : Wd p H'
theorem Ext.refl {p : Par} {H : Hp} (h : Wd p H) : Ext p H H := ⟨fun _ _ e _ _ => e, fun _ e => e, h⟩
theorem Ext.trans {p : Par} {H H1 H2 : Hp} (a : Ext p H H1) (b : Ext p H1 H2) : Ext p H H2 := ⟨fun c o e n m => b.ob c o (a.ob c o e n m) n m, fun c e => b.dom c (a.dom c e), b.wd⟩
/-- the same with another entry, another wish -/
theorem Ext.par {p q : Par} {H H' : Hp} (h : Ext p H H') (e1 : p.K = q.K) (e2 : p.T = q.T) (e3 : p.G = q.G) (e4 : p.r = q.r) (e5 : p.scr = q.scr) (e6 : p.ns = q.ns) : Ext q H H' := by
  obtain ⟨h1, h2, ⟨w0, w1, w2, w3⟩⟩ := h
  exact ⟨fun b o e n m => h1 b o e n (by rw [e4]; exact m), h2, ⟨by rw [← e3, ← e2]; exact w0, by rw [← e3]; exact w1, by rw [← e2]; exact w2, by rw [← e1, ← e5, ← e6, ← e4]; exact w3⟩⟩
theorem Wd.r_some {p : Par} {H : Hp} (h : Wd p H) : ∃ xs, H p.r = some (.lst xs) := let ⟨⟨_, _, _, e, _⟩, _⟩ := h.row; ⟨_, e⟩
/-- what may be written anew: nothing, a list, a dict -/
def Soft : Option HO → Prop
  | none => True
  | some (.lst _) => True
  | some (.dK _) => True
  | some (.dT _) => True
  | _ => False
theorem Wd.upd {p : Par} {H : Hp} {a : Addr} {o : HO} (h : Wd p H) (ha : Soft (H a)) (nr : a ≠ p.r) (sc : H a = none ∨ a ≠ p.scr ∨ KScr p) : Wd p (upd H a o) := by
  have nt : ∀ {P : Addr} {ps : Array Value}, H P = some (.tbl ps) → P ≠ a := fun {P ps} e z => by rw [z] at e; rw [e] at ha; exact ha
  have nx : ∀ {P : Addr} {φ : Heap → Prop}, H P = some (.ext φ) → P ≠ a := fun {P ps} e z => by rw [z] at e; rw [e] at ha; exact ha
  refine ⟨h.dj, fun P hP => ?_, fun P hP => ?_, ?_⟩
  · obtain ⟨ps, e, q⟩ := h.g P hP
    exact ⟨ps, by rw [upd_ne (nt e)]; exact e, q⟩
  · obtain ⟨ps, e, q, q2⟩ := h.t P hP
    refine ⟨ps, by rw [upd_ne (nt e)]; exact e, q, fun pos cv hc => ?_⟩
    obtain ⟨c, e1, e2⟩ := q2 pos cv hc
    exact ⟨c, e1, by rw [upd_ne (nx e2)]; exact e2⟩
  · obtain ⟨⟨i, s, c, e, q⟩, hs⟩ := h.row
    refine ⟨⟨i, s, c, by rw [upd_ne (Ne.symm nr)]; exact e, q⟩, ?_⟩
    rcases hs with hs | hs
    · have keep : p.scr ≠ a → SqL p.K (L2.upd H a o) p.scr (p.ns.map V.int) := fun z => by
        rcases hs with hs | ⟨ob, hs⟩
        · exact .inl (.inl (by rw [upd_ne z]; exact hs))
        · exact .inl (.inr ⟨ob, by rw [upd_ne z]; exact hs⟩)
      rcases sc with sc | sc | sc
      · refine keep fun z => ?_
        rw [← z] at sc
        rcases hs with hs | ⟨ob, hs⟩ <;> (rw [sc] at hs; cases hs)
      · exact keep fun z => sc z.symm
      · exact .inr sc
    · exact .inr hs
theorem Ext.new {p : Par} {H : Hp} {a : Addr} {o : HO} (h : Wd p H) (ha : H a = none) : Ext p H (upd H a o) := by
  have nr : a ≠ p.r := fun z => by
    obtain ⟨xs, e⟩ := h.r_some
    rw [← z, ha] at e; cases e
  refine ⟨fun b ob e _ _ => by rw [upd_ne (ne_of_none e ha)]; exact e, fun b e => ?_, h.upd (by rw [ha]; trivial) nr (.inl ha)⟩
  by_cases z : b = a
  · rw [z]; unfold L2.upd; rw [if_pos rfl]; simp
  · rw [upd_ne z]; exact e
/-! ### states -/
/-- what a slot holds: data, a list or a dict of its own, the drawing row -/
inductive W where
  | d (x : D)
  | own (x : D)
  | row
abbrev Env' := List (Option W)
/-- the slots' own objects; values that are kept in hand (what a loop walks over) -/
structure Own where
  fn : Nat → Option Addr
  ks : List (V × D)
instance : CoeFun Own (fun _ => Nat → Option Addr) := ⟨Own.fn⟩
/-- the addresses that may be held by many -/
def NN (p : Par) (O : Own) (a : Addr) : Prop := (p.N a ∨ p.H0 a = none) ∧ a ≠ p.r ∧ ∀ i, O i ≠ some a
def SlotOk (p : Par) (O : Own) (H : Hp) (i : Nat) (sv : Option (Option V)) : W → Prop
  | .d x => ∃ v, sv = some (some v) ∧ RepV p.K (NN p O) H v x
  | .own x => ∃ a, O i = some a ∧ sv = some (some (.ref a)) ∧ RepO p.K (NN p O) H a x
  | .row => sv = some (some (.ref p.r))
structure Rel (p : Par) (O : Own) (ρ : Env') (σ : L2.St) (H : Hp) : Prop where
  wd : Wd p H
  ext : Ext p p.H0 H
  len : σ.length = ρ.length
  slot : ∀ i w, ρ[i]? = some (some w) → SlotOk p O H i σ[i]? w
  inj : ∀ i j a, O i = some a → O j = some a → i = j
  keep : ∀ x ∈ O.ks, RepV p.K (NN p O) H x.1 x.2
  own : ∀ i a, O i = some a → p.H0 a = none ∧ a ≠ p.r ∧ (a ≠ p.scr ∨ KScr p) ∧ H a ≠ none ∧ Soft (H a)
theorem Keeps2.of_ext {p : Par} {H H' : Hp} {N N' : Addr → Prop} (e : Ext p H H') (hw : Wd p H) (hn : ∀ a, N a → a ≠ p.r) (h : ∀ a, N a → H a ≠ none → N' a) : Keeps2 N N' H H' := by
  obtain ⟨xs, hr⟩ := hw.r_some
  refine ⟨h, fun a o n ho nt => e.ob a o ho nt (hn a n), fun a ys ho => e.ob a _ ho (fun _ z => by cases z) (fun z => ?_), fun a o ys ho => e.ob a _ ho (fun _ z => by cases z) (fun z => ?_)⟩
  · rw [z, hr] at ho; cases ho
  · rw [z, hr] at ho; cases ho
theorem RepV.ext {p : Par} {H H' : Hp} {O : Own} {v : V} {d : D} (e : Ext p H H') (hw : Wd p H) (h : RepV p.K (NN p O) H v d) : RepV p.K (NN p O) H' v d :=
  RepV.keep (Keeps2.of_ext e hw (fun _ n => n.2.1) fun _ n _ => n) d v h
theorem RepAll.ext {p : Par} {H H' : Hp} {O : Own} {v : List V} {d : List D} (e : Ext p H H') (hw : Wd p H) (h : RepAll p.K (NN p O) H v d) : RepAll p.K (NN p O) H' v d :=
  RepAll.keep (Keeps2.of_ext e hw (fun _ n => n.2.1) fun _ n _ => n) d v h
theorem Rel.ext' {p : Par} {O : Own} {ρ : Env'} {σ : L2.St} {H H' : Hp} (R : Rel p O ρ σ H) (e : Ext p H H') : Rel p O ρ σ H' := by
  have oh : ∀ i a, O i = some a → H' a = H a := fun i a hi => by
    obtain ⟨_, nr, _, ne, sf⟩ := R.own i a hi
    cases q : H a with
    | none => exact absurd q ne
    | some o =>
      refine e.ob a o q (fun ps z => ?_) nr
      rw [q, z] at sf; exact sf
  refine ⟨e.wd, R.ext.trans e, R.len, fun i w hw => ?_, R.inj, fun i w => ?_, fun i a hi => ?_⟩
  · have h := R.slot i w hw
    cases w with
    | d x => obtain ⟨v, e1, e2⟩ := h; exact ⟨v, e1, e2.ext e R.wd⟩
    | own x =>
      obtain ⟨a, e1, e2, e3⟩ := h
      exact ⟨a, e1, e2, RepO.keep (Keeps2.of_ext e R.wd (fun _ n => n.2.1) fun _ n _ => n) (oh i a e1) e3⟩
    | row => exact h
  · exact (R.keep i w).ext e R.wd
  · obtain ⟨h1, h2, h3, h4, h5⟩ := R.own i a hi
    rw [oh i a hi]
    exact ⟨h1, h2, h3, h4, h5⟩
def clr (O : Own) (i : Nat) : Own := ⟨fun j => if j = i then none else O j, O.ks⟩
def put (O : Own) (i : Nat) (a : Addr) : Own := ⟨fun j => if j = i then some a else O j, O.ks⟩
theorem NN.clr {p : Par} {O : Own} {i : Nat} {a : Addr} (h : NN p O a) : NN p (clr O i) a := ⟨h.1, h.2.1, fun j z => by
  unfold DD.clr at z
  dsimp only at z
  split at z
  · cases z
  · exact h.2.2 j z⟩
theorem keeps_clr {p : Par} {O : Own} {H : Hp} (i : Nat) : Keeps2 (NN p O) (NN p (clr O i)) H H := ⟨fun _ n _ => n.clr, fun _ _ _ e _ => e, fun _ _ e => e, fun _ _ _ e => e⟩
/-- a slot takes data -/
theorem Rel.set_d {p : Par} {O : Own} {ρ : Env'} {σ : L2.St} {H : Hp} {i : Nat} {v : V} {d : D} (R : Rel p O ρ σ H) (r : RepV p.K (NN p O) H v d) : Rel p (clr O i) (ρ.set i (some (.d d))) (σ.set i (some v)) H := by
  refine ⟨R.wd, R.ext, by rw [List.length_set, List.length_set]; exact R.len, fun j w hw => ?_, fun j k a hj hk => ?_, fun x hx => RepV.keep (keeps_clr i) x.2 x.1 (R.keep x hx), fun j a hj => ?_⟩
  · rw [List.getElem?_set] at hw ⊢
    by_cases z : i = j
    · subst z
      rw [if_pos rfl] at hw ⊢
      split at hw
      · rename_i hlt
        cases hw
        rw [if_pos (by rw [R.len]; exact hlt)]
        exact ⟨v, rfl, RepV.keep (keeps_clr i) d v r⟩
      · cases hw
    · rw [if_neg z] at hw ⊢
      have h := R.slot j w hw
      cases w with
      | d x => obtain ⟨v, e1, e2⟩ := h; exact ⟨v, e1, RepV.keep (keeps_clr i) x v e2⟩
      | own x =>
        obtain ⟨a, e1, e2, e3⟩ := h
        exact ⟨a, (if_neg (Ne.symm z)).trans e1, e2, RepO.keep (keeps_clr i) rfl e3⟩
      | row => exact h
  · unfold clr at hj hk
    dsimp only at hj hk
    split at hj
    · cases hj
    · split at hk
      · cases hk
      · exact R.inj j k a hj hk
  · unfold clr at hj
    dsimp only at hj
    split at hj
    · cases hj
    · exact R.own j a hj
/-- a slot takes a fresh list or dict of its own -/
theorem Rel.set_own {p : Par} {O : Own} {ρ : Env'} {σ : L2.St} {H H' : Hp} {i : Nat} {a : Addr} {d : D} (R : Rel p O ρ σ H) (e : Ext p H H') (ha : H a = none) (r : RepO p.K (fun b => NN p O b ∧ b ≠ a) H' a d) : Rel p (put O i a) (ρ.set i (some (.own d))) (σ.set i (some (.ref a))) H' := by
  have R' := R.ext' e
  have h0 : p.H0 a = none := by
    cases q : p.H0 a with
    | none => rfl
    | some o => exact absurd ha (R.ext.dom a (by rw [q]; simp))
  have nr : a ≠ p.r := fun z => by
    obtain ⟨xs, q⟩ := R.wd.r_some
    rw [← z, ha] at q; cases q
  have no : ∀ j, O j ≠ some a := fun j z => (R.own j a z).2.2.2.1 ha
  have scr : a ≠ p.scr ∨ KScr p := by
    rcases R.wd.row.2 with h | h
    · refine .inl fun z => ?_
      rw [z] at ha
      rcases h with h | ⟨ob, h⟩ <;> (rw [ha] at h; cases h)
    · exact .inr h
  have sf : H' a ≠ none ∧ Soft (H' a) := by
    cases d with
    | list ds => obtain ⟨vs, h1, _⟩ := r; rw [h1]; exact ⟨by simp, trivial⟩
    | dict kvs => obtain ⟨vs, _, h1⟩ := r; rcases h1 with ⟨ks, h1, _⟩ | ⟨ks, h1, _⟩ <;> (rw [h1]; exact ⟨by simp, trivial⟩)
    | _ => exact r.elim
  have kk : Keeps2 (fun b => NN p O b ∧ b ≠ a) (NN p (put O i a)) H' H' := ⟨fun b n _ => ⟨n.1.1, n.1.2.1, fun j z => by
    unfold put at z
    dsimp only at z
    split at z
    · cases z; exact n.2 rfl
    · exact n.1.2.2 j z⟩, fun _ _ _ e _ => e, fun _ _ e => e, fun _ _ _ e => e⟩
  have kold : Keeps2 (NN p O) (NN p (put O i a)) H H' := by
    refine Keeps2.of_ext e R.wd (fun _ n => n.2.1) fun b n hb => ⟨n.1, n.2.1, fun j z => ?_⟩
    unfold put at z
    dsimp only at z
    split at z
    · cases z; exact hb ha
    · exact n.2.2 j z
  refine ⟨R'.wd, R'.ext, by rw [List.length_set, List.length_set]; exact R.len, fun j w hw => ?_, fun j k b hj hk => ?_, fun x hx => RepV.keep kold x.2 x.1 (R.keep x hx), fun j b hj => ?_⟩
  · rw [List.getElem?_set] at hw ⊢
    by_cases z : i = j
    · subst z
      rw [if_pos rfl] at hw ⊢
      split at hw
      · rename_i hlt
        cases hw
        rw [if_pos (by rw [R.len]; exact hlt)]
        exact ⟨a, if_pos rfl, rfl, RepO.keep kk rfl r⟩
      · cases hw
    · rw [if_neg z] at hw ⊢
      have h := R.slot j w hw
      cases w with
      | d x => obtain ⟨v, e1, e2⟩ := h; exact ⟨v, e1, RepV.keep kold x v e2⟩
      | own x =>
        obtain ⟨b, e1, e2, e3⟩ := h
        have hb := R.own j b e1
        refine ⟨b, (if_neg (Ne.symm z)).trans e1, e2, RepO.keep kold ?_ e3⟩
        cases q : H b with
        | none => exact absurd q hb.2.2.2.1
        | some o => exact e.ob b o q (fun ps z => by have := hb.2.2.2.2; rw [q, z] at this; exact this) hb.2.1
      | row => exact h
  · unfold put at hj hk
    dsimp only at hj hk
    split at hj
    · rename_i q
      cases hj
      split at hk
      · rename_i q2; rw [q, q2]
      · exact absurd hk (no k)
    · split at hk
      · cases hk; exact absurd hj (no j)
      · exact R.inj j k b hj hk
  · unfold put at hj
    dsimp only at hj
    split at hj
    · cases hj; exact ⟨h0, nr, scr, sf.1, sf.2⟩
    · exact R'.own j b hj
/-- an own list or dict is written -/
theorem Rel.write {p : Par} {O : Own} {ρ : Env'} {σ : L2.St} {H : Hp} {i : Nat} {a : Addr} {d d' : D} {o : HO} (R : Rel p O ρ σ H) (hi : ρ[i]? = some (some (.own d))) (ha : O i = some a) (so : Soft (some o)) (r : RepO p.K (NN p O) (upd H a o) a d') : Rel p O (ρ.set i (some (.own d'))) σ (upd H a o) := by
  obtain ⟨h0, nr, hs, hne, sf⟩ := R.own i a ha
  have kk : Keeps2 (NN p O) (NN p O) H (upd H a o) := by
    refine ⟨fun _ n _ => n, fun b ob n e _ => ?_, fun b xs e => ?_, fun b ob xs e => ?_⟩
    · rw [upd_ne (fun z => n.2.2 i (by rw [z]; exact ha))]; exact e
    · rw [upd_ne (fun z => by rw [← z, e] at sf; exact sf)]; exact e
    · rw [upd_ne (fun z => by rw [← z, e] at sf; exact sf)]; exact e
  refine ⟨R.wd.upd sf nr (.inr hs), ⟨fun b ob e n m => ?_, fun b e => ?_, R.wd.upd sf nr (.inr hs)⟩, by rw [List.length_set]; exact R.len, fun j w hw => ?_, R.inj, fun x hx => RepV.keep kk x.2 x.1 (R.keep x hx), fun j b hj => ?_⟩
  · rw [upd_ne (fun z => by rw [z, h0] at e; cases e)]
    exact R.ext.ob b ob e n m
  · by_cases z : b = a
    · rw [z]; unfold L2.upd; rw [if_pos rfl]; simp
    · rw [upd_ne z]; exact R.ext.dom b e
  · rw [List.getElem?_set] at hw
    by_cases z : i = j
    · subst z
      rw [if_pos rfl] at hw
      split at hw
      · cases hw
        obtain ⟨a', e1, e2, _⟩ := R.slot i _ hi
        rw [ha] at e1
        cases e1
        exact ⟨a, ha, e2, r⟩
      · cases hw
    · rw [if_neg z] at hw
      have h := R.slot j w hw
      cases w with
      | d x => obtain ⟨v, e1, e2⟩ := h; exact ⟨v, e1, RepV.keep kk x v e2⟩
      | own x =>
        obtain ⟨b, e1, e2, e3⟩ := h
        refine ⟨b, e1, e2, RepO.keep kk (upd_ne fun q => z ?_) e3⟩
        rw [q] at e1
        exact R.inj i j a ha e1
      | row => exact h
  · obtain ⟨q1, q2, q3, q4, q5⟩ := R.own j b hj
    by_cases z : b = a
    · rw [z] at q1 q2 q3 ⊢
      exact ⟨q1, q2, q3, by unfold L2.upd; rw [if_pos rfl]; simp, by unfold L2.upd; rw [if_pos rfl]; exact so⟩
    · rw [upd_ne z]; exact ⟨q1, q2, q3, q4, q5⟩
/-- forgetting slots -/
theorem Rel.forget {p : Par} {O : Own} {ρ ρ' : Env'} {σ : L2.St} {H : Hp} (R : Rel p O ρ σ H) (hl : ρ'.length = ρ.length) (h : ∀ (i : Nat) (w : W), ρ'[i]? = some (some w) → ρ[i]? = some (some w)) : Rel p O ρ' σ H :=
  ⟨R.wd, R.ext, by rw [hl]; exact R.len, fun i w hw => R.slot i w (h i w hw), R.inj, R.keep, R.own⟩
/-- the same, whoever holds the outermost object -/
def RepB (p : Par) (O : Own) (H : Hp) (v : V) (d : D) : Prop := RepV p.K (NN p O) H v d ∨ ∃ a, v = .ref a ∧ a ≠ p.r ∧ RepO p.K (NN p O) H a d
section
variable {p : Par} {O : Own} {H : Hp}
theorem RepV.b {v : V} {d : D} (h : RepV p.K (NN p O) H v d) : RepB p O H v d := .inl h
theorem RepB.list {v : V} {ds : List D} (h : RepB p O H v (.list ds)) : ∃ a vs, v = .ref a ∧ a ≠ p.r ∧ H a = some (.lst vs) ∧ RepAll p.K (NN p O) H vs ds := by
  rcases h with h | ⟨a, rfl, na, vs, h1, h2⟩
  · rw [RepV] at h
    obtain ⟨a, vs, e, n, h1, h2⟩ := h
    exact ⟨a, vs, e, n.2.1, h1, h2⟩
  · exact ⟨a, vs, rfl, na, h1, h2⟩
theorem RepB.tuple {v : V} {ds : List D} (h : RepB p O H v (.tuple ds)) : ∃ a vs, v = .ref a ∧ SqT p.K H a vs ∧ RepAll p.K (NN p O) H vs ds := by
  rcases h with h | ⟨a, rfl, _, h⟩
  · rw [RepV] at h; exact h
  · exact h.elim
theorem RepB.int {v : V} {i : Int} (h : RepB p O H v (.int i)) : v = .int i := by
  rcases h with h | ⟨a, rfl, _, h⟩
  · rw [RepV] at h; exact h
  · exact h.elim
theorem RepB.bool {v : V} {i : Bool} (h : RepB p O H v (.bool i)) : v = .bl i := by
  rcases h with h | ⟨a, rfl, _, h⟩
  · rw [RepV] at h; exact h
  · exact h.elim
theorem RepB.str {v : V} {i : Str} (h : RepB p O H v (.str i)) : v = .str i := by
  rcases h with h | ⟨a, rfl, _, h⟩
  · rw [RepV] at h; exact h
  · exact h.elim
theorem RepB.none {v : V} (h : RepB p O H v .none) : v = .non := by
  rcases h with h | ⟨a, rfl, _, h⟩
  · rw [RepV] at h; exact h
  · exact h.elim
theorem RepB.dict {v : V} {kvs : List (D × D)} (h : RepB p O H v (.dict kvs)) : ∃ a, v = .ref a ∧ a ≠ p.r ∧ RepO p.K (NN p O) H a (.dict kvs) := by
  rcases h with h | ⟨a, rfl, na, h⟩
  · rw [RepV] at h
    obtain ⟨a, e, n, vs, h1, h2⟩ := h
    exact ⟨a, e, n.2.1, vs, h1, h2⟩
  · exact ⟨a, rfl, na, h⟩
end
theorem RepB.ext {q : Par} {H H' : Hp} {O : Own} {v : V} {d : D} (w : Wd q H) (e : Ext q H H') (h : RepB q O H v d) : RepB q O H' v d := by
  rcases h with h | ⟨a, rfl, na, h⟩
  · exact .inl (h.ext e w)
  · refine .inr ⟨a, rfl, na, RepO.keep (Keeps2.of_ext e w (fun _ n => n.2.1) fun _ n _ => n) ?_ h⟩
    cases d with
    | list ds => obtain ⟨vs, h1, _⟩ := h; rw [h1]; exact e.ob a _ h1 (fun ps z => by cases z) na
    | dict kvs => obtain ⟨vs, _, h1⟩ := h; rcases h1 with ⟨ks, h1, _⟩ | ⟨ks, h1, _⟩ <;> (rw [h1]; exact e.ob a _ h1 (fun ps z => by cases z) na)
    | _ => exact h.elim
end DD
set_option maxRecDepth 100000
set_option maxHeartbeats 2000000
/-! SemB: the judgements over plain data; names, constants, operators in general, tests, displays. -/
namespace DD
open PySem PySem.Spec PyProof.Rows L2
/-- what holds of any tracked heap -/
structure Hk (K : PySem.W.Frag) (H : Hp) : Prop where
  lenL : ∀ a xs, SqL K H a xs → xs.length ≤ sizeLine
  lenT : ∀ a xs, SqT K H a xs → xs.length ≤ sizeLine
  injL : ∀ a xs ys, SqL K H a xs → SqL K H a ys → xs = ys
  injT : ∀ a xs ys, SqT K H a xs → SqT K H a ys → xs = ys
  lenD : ∀ a kvs, H a = some (.dK kvs) → kvs.length ≤ sizeLine
  lenDT : ∀ a kvs, H a = some (.dT kvs) → kvs.length ≤ sizeLine
theorem hk_of {X : Cx} {pins : List (Addr × Obj)} {σ : L2.St} {H : Hp} {s : Shared} (I : Inv X pins σ H s) : Hk X.K H where
  lenL := fun a xs h => let ⟨_, _, _, z⟩ := I.list h; z
  lenT := fun a xs h => let ⟨_, _, _, z⟩ := I.tuple h; z
  injL := fun a xs ys h h' => I.list_inj h h'
  injT := fun a xs ys h h' => I.tuple_inj h h'
  lenD := fun a kvs e => (I.hok a _ e).1
  lenDT := fun a kvs e => (I.hok a _ e).1
abbrev Par.at (p : Par) (K : PySem.W.Frag) : Par := { p with K := K }
/-! ### using a rule of the layer -/
section
variable {X : Cx}
theorem pe_use {e : Expr} {t t' : TE} (h : PE X e t) (imp : ∀ σ H Q, Hk X.K H → t' σ H Q → t σ H (fun v H' => Hk X.K H' → Q v H')) : PE X e t' :=
  ⟨fun pins s σ H Q I ht => thn (h.run pins s σ H _ I (imp σ H Q (hk_of I) ht)) fun _ _ ⟨x, H', I', r, q⟩ => ⟨x, H', I', r, q (hk_of I')⟩⟩
theorem pt_use {e : Expr} {t t' : TT} (h : PT X e t) (imp : ∀ σ H Q, Hk X.K H → t' σ H Q → t σ H (fun v H' => Hk X.K H' → Q v H')) : PT X e t' :=
  ⟨fun pins s σ H Q I ht => thn (h.run pins s σ H _ I (imp σ H Q (hk_of I) ht)) fun _ _ ⟨H', I', q⟩ => ⟨H', I', q (hk_of I')⟩⟩
theorem pts_use {e : List Expr} {t t' : TT} (h : PTs X e t) (imp : ∀ σ H Q, Hk X.K H → t' σ H Q → t σ H (fun v H' => Hk X.K H' → Q v H')) : PTs X e t' :=
  ⟨fun pins s σ H Q I ht => thn (h.run pins s σ H _ I (imp σ H Q (hk_of I) ht)) fun _ _ ⟨H', I', q⟩ => ⟨H', I', q (hk_of I')⟩⟩
theorem pw_use {e : Expr} {t t' : TT} (h : PW X e t) (imp : ∀ σ H Q, Hk X.K H → t' σ H Q → t σ H (fun v H' => Hk X.K H' → Q v H')) : PW X e t' :=
  ⟨fun wh pins s σ H Q I ht => thn (h.run wh pins s σ H _ I (imp σ H Q (hk_of I) ht)) fun _ _ ⟨H', I', q⟩ => ⟨H', I', q (hk_of I')⟩⟩
theorem pa_use {es : List Expr} {t t' : TA} (h : PA X es t) (imp : ∀ σ H Q, Hk X.K H → t' σ H Q → t σ H (fun v H' => Hk X.K H' → Q v H')) : PA X es t' :=
  ⟨fun pos pins s σ H Q I ht => thn (h.run pos pins s σ H _ I (imp σ H Q (hk_of I) ht)) fun _ _ ⟨x, H', I', r, q⟩ => ⟨x, H', I', r, q (hk_of I')⟩⟩
theorem ps_use {st : Stmt} {t t' : TS} (h : PS X st t) (imp : ∀ D σ H, Hk X.K H → t' D σ H → t { nx := fun σ' H' => Hk X.K H' → D.nx σ' H', rt := fun v H' => Hk X.K H' → D.rt v H', bk := fun σ' H' => Hk X.K H' → D.bk σ' H', ct := fun σ' H' => Hk X.K H' → D.ct σ' H' } σ H) : PS X st t' :=
  ⟨fun pins s σ H D I ht => thn (h.run pins s σ H _ I (imp D σ H (hk_of I) ht)) fun f s' q => by
    cases f with
    | next => obtain ⟨σ', H', I', q⟩ := q; exact ⟨σ', H', I', q (hk_of I')⟩
    | brk => obtain ⟨σ', H', I', q⟩ := q; exact ⟨σ', H', I', q (hk_of I')⟩
    | cont => obtain ⟨σ', H', I', q⟩ := q; exact ⟨σ', H', I', q (hk_of I')⟩
    | ret u => obtain ⟨v, σ', H', I', r, q⟩ := q; exact ⟨v, σ', H', I', r, q (hk_of I')⟩⟩
theorem pss_use {st : List Stmt} {t t' : TS} (h : PSs X st t) (imp : ∀ D σ H, Hk X.K H → t' D σ H → t { nx := fun σ' H' => Hk X.K H' → D.nx σ' H', rt := fun v H' => Hk X.K H' → D.rt v H', bk := fun σ' H' => Hk X.K H' → D.bk σ' H', ct := fun σ' H' => Hk X.K H' → D.ct σ' H' } σ H) : PSs X st t' :=
  ⟨fun pins s σ H D I ht => thn (h.run pins s σ H _ I (imp D σ H (hk_of I) ht)) fun f s' q => by
    cases f with
    | next => obtain ⟨σ', H', I', q⟩ := q; exact ⟨σ', H', I', q (hk_of I')⟩
    | brk => obtain ⟨σ', H', I', q⟩ := q; exact ⟨σ', H', I', q (hk_of I')⟩
    | cont => obtain ⟨σ', H', I', q⟩ := q; exact ⟨σ', H', I', q (hk_of I')⟩
    | ret u => obtain ⟨v, σ', H', I', r, q⟩ := q; exact ⟨v, σ', H', I', r, q (hk_of I')⟩⟩
end
/-! ### the judgements -/
/-- the wish of an error as data -/
abbrev EXn := Exn → Prop
abbrev WE := Env' → (D → Prop) → EXn → Prop
abbrev WT := Env' → (Bool → Prop) → EXn → Prop
abbrev WA := Env' → (List D → Prop) → EXn → Prop
/-- arguments of own defs: data, the drawing row -/
abbrev WW := Env' → (List W → Prop) → EXn → Prop
structure EndsW where
  nx : Env' → Prop
  rt : D → Prop
  bk : Env' → Prop := fun _ => False
  ct : Env' → Prop := fun _ => False
  ex : EXn
abbrev WS := EndsW → Env' → Prop
/-- an error in the heap -/
def ExnAt (p : Par) (H : Hp) : Exn → Value → Option Addr → Prop
  | .bad n, cls, dd => cls = .ref p.cBad ∧ ∃ d, dd = some d ∧ H d = some (.xd [(("name" : Str), .str n)])
  | .unread o y, cls, dd => cls = .ref p.cUnr ∧ ∃ d, dd = some d ∧ H d = some (.xd [(("why" : Str), .str y), (("offset" : Str), .int o)])
def ExOk (p : Par) (EX : EXn) : Prop := ∀ x cls dd H', EX x → Ext p p.H0 H' → ExnAt p H' x cls dd → p.E cls dd H'
/-- a state that is read -/
def At (p : Par) (σ : L2.St) (H : Hp) (R : Own → Env' → EXn → Prop) : Prop := ∃ ρ O EX, Rel p O ρ σ H ∧ ExOk p EX ∧ R O ρ EX
def RE (p : Par) (O : Own) (H : Hp) (Q : VK) (d : D) : Prop := ∀ v H', Hk p.K H' → Ext p H H' → RepV p.K (NN p O) H' v d → Q v H'
def RB (p : Par) (O : Own) (H : Hp) (Q : VK) (d : D) : Prop := ∀ v H', Hk p.K H' → Ext p H H' → RepB p O H' v d → Q v H'
def RF (p : Par) (O : Own) (H : Hp) (Q : VK) (d : D) : Prop := ∀ a H', Hk p.K H' → Ext p H H' → H a = none → RepO p.K (fun b => NN p O b ∧ b ≠ a) H' a d → Q (.ref a) H'
def LE (p : Par) (w : WE) : TE := fun σ H Q => At p σ H fun O ρ EX => w ρ (RE p O H Q) EX
/-- the outermost object may be one's own -/
def LB (p : Par) (w : WE) : TE := fun σ H Q => At p σ H fun O ρ EX => w ρ (RB p O H Q) EX
/-- a fresh list or dict -/
def LF (p : Par) (w : WE) : TE := fun σ H Q => At p σ H fun O ρ EX => w ρ (RF p O H Q) EX
def LT (p : Par) (w : WT) : TT := fun σ H Q => At p σ H fun O ρ EX => w ρ (fun b => ∀ H', Hk p.K H' → Ext p H H' → Q b H') EX
def LA (p : Par) (w : WA) : TA := fun σ H Q => At p σ H fun O ρ EX => w ρ (fun ds => ∀ vs H', Hk p.K H' → Ext p H H' → RepAll p.K (NN p O) H' vs ds → Q vs H') EX
/-- arguments whose outermost objects may be one's own -/
def LBs (p : Par) (w : WA) : TA := fun σ H Q => At p σ H fun O ρ EX => w ρ (fun ds => ∀ vs H', Hk p.K H' → Ext p H H' → Paired (RepB p O H') vs ds → Q vs H') EX
def RepW (p : Par) (N : Addr → Prop) (H : Hp) (v : V) : W → Prop
  | .d x => RepV p.K N H v x
  | .row => v = .ref p.r
  | .own _ => False
def LW (p : Par) (w : WW) : TA := fun σ H Q => At p σ H fun O ρ EX => w ρ (fun ds => ∀ vs H', Hk p.K H' → Ext p H H' → Paired (RepW p (NN p O) H') vs ds → Q vs H') EX
def noOwn : Own := ⟨fun _ => none, []⟩
def LS (p : Par) (w : WS) : TS := fun D σ H => At p σ H fun O ρ EX => w { nx := fun ρ' => ∀ O' σ' H', O'.ks = O.ks → Hk p.K H' → Rel p O' ρ' σ' H' → D.nx σ' H', rt := fun d => ∀ v H', Hk p.K H' → Ext p p.H0 H' → RepV p.K (NN p noOwn) H' v d → D.rt v H', bk := fun ρ' => ∀ O' σ' H', O'.ks = O.ks → Hk p.K H' → Rel p O' ρ' σ' H' → D.bk σ' H', ct := fun ρ' => ∀ O' σ' H', O'.ks = O.ks → Hk p.K H' → Rel p O' ρ' σ' H' → D.ct σ' H', ex := EX } ρ
def MonoE (w : WE) : Prop := ∀ ρ Q Q' EX, (∀ d, Q d → Q' d) → w ρ Q EX → w ρ Q' EX
def MonoT (w : WT) : Prop := ∀ ρ Q Q' EX, (∀ d, Q d → Q' d) → w ρ Q EX → w ρ Q' EX
def MonoA (w : WA) : Prop := ∀ ρ Q Q' EX, (∀ d, Q d → Q' d) → w ρ Q EX → w ρ Q' EX
def MonoW (w : WW) : Prop := ∀ ρ Q Q' EX, (∀ d, Q d → Q' d) → w ρ Q EX → w ρ Q' EX
structure EndsW.le (D D' : EndsW) : Prop where
  nx : ∀ ρ, D.nx ρ → D'.nx ρ
  rt : ∀ d, D.rt d → D'.rt d
  bk : ∀ ρ, D.bk ρ → D'.bk ρ
  ct : ∀ ρ, D.ct ρ → D'.ct ρ
  ex : D.ex = D'.ex
def MonoS (w : WS) : Prop := ∀ D D' ρ, D.le D' → w D ρ → w D' ρ
structure DE (p : Par) (X : Cx) (e : Expr) (w : WE) : Prop where
  pe : PE X e (LE (p.at X.K) w)
  mono : MonoE w
structure DB (p : Par) (X : Cx) (e : Expr) (w : WE) : Prop where
  pe : PE X e (LB (p.at X.K) w)
  mono : MonoE w
structure DF (p : Par) (X : Cx) (e : Expr) (w : WE) : Prop where
  pe : PE X e (LF (p.at X.K) w)
  mono : MonoE w
structure DT (p : Par) (X : Cx) (e : Expr) (w : WT) : Prop where
  pt : PT X e (LT (p.at X.K) w)
  mono : MonoT w
structure DW (p : Par) (X : Cx) (e : Expr) (w : WT) : Prop where
  pw : PW X e (LT (p.at X.K) w)
  mono : MonoT w
structure DA (p : Par) (X : Cx) (es : List Expr) (w : WA) : Prop where
  pa : PA X es (LA (p.at X.K) w)
  mono : MonoA w
structure DBs (p : Par) (X : Cx) (es : List Expr) (w : WA) : Prop where
  pa : PA X es (LBs (p.at X.K) w)
  mono : MonoA w
structure DWs (p : Par) (X : Cx) (es : List Expr) (w : WW) : Prop where
  pa : PA X es (LW (p.at X.K) w)
  mono : MonoW w
structure DS (p : Par) (X : Cx) (st : Stmt) (w : WS) : Prop where
  ps : PS X st (LS (p.at X.K) w)
  mono : MonoS w
structure DSs (p : Par) (X : Cx) (st : List Stmt) (w : WS) : Prop where
  ps : PSs X st (LS (p.at X.K) w)
  mono : MonoS w
/-! ### states, posts -/
section
variable {p : Par} {O : Own} {ρ : Env'} {σ : L2.St} {H H1 H2 : Hp} {Q : VK} {d : D}
/-- what a rule about values may lean on -/
structure Ok (p : Par) (O : Own) (H : Hp) : Prop where
  hk : Hk p.K H
  wd : Wd p H
  fr : ∀ a, H a = none → NN p O a
theorem Rel.fresh0 {a : Addr} (R : Rel p O ρ σ H) (ha : H a = none) : NN p O a := by
  refine ⟨.inr ?_, fun z => ?_, fun i z => (R.own i a z).2.2.2.1 ha⟩
  · cases e : p.H0 a with
    | none => rfl
    | some o => exact absurd ha (R.ext.dom a (by rw [e]; simp))
  · obtain ⟨xs, e⟩ := R.wd.r_some
    rw [← z, ha] at e; cases e
theorem Rel.ok (R : Rel p O ρ σ H) (hk : Hk p.K H) : Ok p O H := ⟨hk, R.wd, fun _ h => R.fresh0 h⟩
theorem RE.to (q : RE p O H Q d) (e : Ext p H H1) : RE p O H1 Q d := fun v H' hk e' r => q v H' hk (e.trans e') r
theorem RB.to (q : RB p O H Q d) (e : Ext p H H1) : RB p O H1 Q d := fun v H' hk e' r => q v H' hk (e.trans e') r
theorem Ext.none {a : Addr} (e : Ext p H H1) (h : H1 a = none) : H a = none := by
  cases q : H a with
  | none => rfl
  | some o => exact absurd h (e.dom a (by rw [q]; simp))
theorem RF.to (q : RF p O H Q d) (e : Ext p H H1) : RF p O H1 Q d := fun a H' hk e' n r => q a H' hk (e.trans e') (e.none n) r
theorem RB.e (q : RB p O H Q d) : RE p O H Q d := fun v H' hk e r => q v H' hk e r.b
theorem RE.f (ok : Ok p O H) (q : RE p O H Q d) : RF p O H Q d := fun a H' hk e n r => q _ H' hk e (RepO.v (RepO.keep ⟨fun _ n _ => n.1, fun _ _ _ e _ => e, fun _ _ e => e, fun _ _ _ e => e⟩ rfl r) (ok.fr a n))
theorem RE.imp {Q' : VK} (h : ∀ v H', Hk p.K H' → Q v H' → Q' v H') (q : RE p O H Q d) : RE p O H Q' d := fun v H' hk e r => h v H' hk (q v H' hk e r)
/-- an immediate value, the heap as it is -/
theorem RE.now (q : RE p O H Q d) (ok : Ok p O H) {v : V} (r : RepV p.K (NN p O) H v d) : Q v H := q v H ok.hk (Ext.refl ok.wd) r
theorem RB.now (q : RB p O H Q d) (ok : Ok p O H) {v : V} (r : RepB p O H v d) : Q v H := q v H ok.hk (Ext.refl ok.wd) r
theorem rep_new {a : Addr} {o : HO} {ds : List D} {vs : List V} (ok : Ok p O H) (ha : H a = none) (r : RepAll p.K (NN p O) H vs ds) : RepAll p.K (fun b => NN p O b ∧ b ≠ a) (upd H a o) vs ds :=
  RepAll.keep (Keeps2.of_ext (Ext.new ok.wd ha) ok.wd (fun _ n => n.2.1) fun b n h => ⟨n, fun z => h (by rw [z]; exact ha)⟩) ds vs r
theorem repkv_new {a : Addr} {o : HO} {ds : List (D × D)} {vs : List V} (ok : Ok p O H) (ha : H a = none) (r : RepKV p.K (NN p O) H vs ds) : RepKV p.K (fun b => NN p O b ∧ b ≠ a) (upd H a o) vs ds :=
  RepKV.keep (Keeps2.of_ext (Ext.new ok.wd ha) ok.wd (fun _ n => n.2.1) fun b n h => ⟨n, fun z => h (by rw [z]; exact ha)⟩) ds vs r
/-- a fresh list comes -/
theorem RF.list {ds : List D} {vs : List V} {a : Addr} (q : RF p O H Q (.list ds)) (ok : Ok p O H) (ha : H a = none) (r : RepAll p.K (NN p O) H vs ds) (hk : Hk p.K (upd H a (.lst vs))) : Q (.ref a) (upd H a (.lst vs)) :=
  q a _ hk (Ext.new ok.wd ha) ha ⟨vs, by unfold L2.upd; rw [if_pos rfl], rep_new ok ha r⟩
theorem RE.tup {ds : List D} {vs : List V} {a : Addr} (q : RE p O H Q (.tuple ds)) (ok : Ok p O H) (ha : H a = none) (r : RepAll p.K (NN p O) H vs ds) (hk : Hk p.K (upd H a (.tup vs))) : Q (.ref a) (upd H a (.tup vs)) :=
  q _ _ hk (Ext.new ok.wd ha) (rep_tuple (.of (by unfold L2.upd; rw [if_pos rfl])) (r.ext (Ext.new ok.wd ha) ok.wd))
end
/-! ### values: functions, tests -/
abbrev F1 := D → (D → Prop) → Prop
abbrev F2 := D → D → (D → Prop) → Prop
abbrev FN := List D → (D → Prop) → Prop
abbrev G1 := D → (Bool → Prop) → Prop
abbrev G2 := D → D → (Bool → Prop) → Prop
/-- monotone in the post -/
def M0 {α : Type} (f : (α → Prop) → Prop) : Prop := ∀ Q Q', (∀ d, Q d → Q' d) → f Q → f Q'
/-- two values to a value (the outermost object fresh: RF, else RE) -/
structure Op2 (p : Par) (f : F2) (r : R2) : Prop where
  ok : ∀ O H x y a b (Q : VK), Ok p O H → RepB p O H x a → RepB p O H y b → f a b (RE p O H Q) → r x y H (fun v H' => Hk p.K H' → Q v H')
  mono : ∀ a b, M0 (f a b)
structure Op2F (p : Par) (f : F2) (r : R2) : Prop where
  ok : ∀ O H x y a b (Q : VK), Ok p O H → RepB p O H x a → RepB p O H y b → f a b (RF p O H Q) → r x y H (fun v H' => Hk p.K H' → Q v H')
  mono : ∀ a b, M0 (f a b)
structure Cmp2 (p : Par) (g : G2) (r : R2) : Prop where
  ok : ∀ O H x y a b (Qb : Bool → Prop) (Q : VK), Ok p O H → RepB p O H x a → RepB p O H y b → g a b Qb → (∀ k, Qb k → Q (.bl k) H) → r x y H Q
  mono : ∀ a b, M0 (g a b)
structure OpN (p : Par) (f : FN) (r : List V → Hp → VK → Prop) : Prop where
  ok : ∀ O H xs ds (Q : VK), Ok p O H → Paired (RepB p O H) xs ds → f ds (RE p O H Q) → r xs H (fun v H' => Hk p.K H' → Q v H')
  mono : ∀ a, M0 (f a)
structure OpNF (p : Par) (f : FN) (r : List V → Hp → VK → Prop) : Prop where
  ok : ∀ O H xs ds (Q : VK), Ok p O H → Paired (RepB p O H) xs ds → f ds (RF p O H Q) → r xs H (fun v H' => Hk p.K H' → Q v H')
  mono : ∀ a, M0 (f a)
def wOp2 (f : F2) (wa wb : WE) : WE := fun ρ Q EX => wa ρ (fun a => wb ρ (fun b => f a b Q) EX) EX
def wOp1 (f : F1) (wa : WE) : WE := fun ρ Q EX => wa ρ (fun a => f a Q) EX
def wOpN (f : FN) (wa : WA) : WE := fun ρ Q EX => wa ρ (fun a => f a Q) EX
def wCmp2 (g : G2) (wa wb : WE) : WE := fun ρ Q EX => wa ρ (fun a => wb ρ (fun b => g a b fun k => Q (.bool k)) EX) EX
def wTst2 (g : G2) (wa wb : WE) : WT := fun ρ Q EX => wa ρ (fun a => wb ρ (fun b => g a b Q) EX) EX
theorem mono_Op2 {f : F2} {wa wb : WE} (mf : ∀ a b, M0 (f a b)) (ma : MonoE wa) (mb : MonoE wb) : MonoE (wOp2 f wa wb) := fun ρ Q Q' EX h q => ma _ _ _ _ (fun a q => mb _ _ _ _ (fun b q => mf a b _ _ h q) q) q
theorem mono_OpN {f : FN} {wa : WA} (mf : ∀ a, M0 (f a)) (ma : MonoA wa) : MonoE (wOpN f wa) := fun ρ Q Q' EX h q => ma _ _ _ _ (fun a q => mf a _ _ h q) q
theorem mono_Cmp2 {f : G2} {wa wb : WE} (mf : ∀ a b, M0 (f a b)) (ma : MonoE wa) (mb : MonoE wb) : MonoE (wCmp2 f wa wb) := fun ρ Q Q' EX h q => ma _ _ _ _ (fun a q => mb _ _ _ _ (fun b q => mf a b _ _ (fun _ => h _) q) q) q
theorem mono_Tst2 {f : G2} {wa wb : WE} (mf : ∀ a b, M0 (f a b)) (ma : MonoE wa) (mb : MonoE wb) : MonoT (wTst2 f wa wb) := fun ρ Q Q' EX h q => ma _ _ _ _ (fun a q => mb _ _ _ _ (fun b q => mf a b _ _ (fun _ => h _) q) q) q
section
variable {p : Par} {X : Cx} {pos : Pos} {a b : Expr} {wa wb : WE}
/-- two borrowed values, one after the other -/
theorem two {R : V → V → Hp → Prop} {σ : L2.St} {H : Hp} {O : Own} {ρ : Env'} {EX : EXn} {S : D → D → Prop} (ha : DB p X a wa) (hb : DB p X b wb) (Rl : Rel (p.at X.K) O ρ σ H) (ex : ExOk (p.at X.K) EX)
    (hw : wa ρ (fun a => wb ρ (fun b => S a b) EX) EX) (h : ∀ x y da db H2, Ok (p.at X.K) O H2 → Ext (p.at X.K) H H2 → RepB (p.at X.K) O H2 x da → RepB (p.at X.K) O H2 y db → S da db → R x y H2) :
    LB (p.at X.K) wa σ H fun x H1 => LB (p.at X.K) wb σ H1 fun y H2 => R x y H2 :=
  ⟨ρ, O, EX, Rl, ex, ha.mono _ _ _ _ (fun da q v H1 hk1 e1 r1 => ⟨ρ, O, EX, Rl.ext' e1, ex, hb.mono _ _ _ _ (fun db q u H2 hk2 e2 r2 =>
    h v u da db H2 ((Rl.ext' (e1.trans e2)).ok hk2) (e1.trans e2) (r1.ext e1.wd e2) r2 q) q⟩) hw⟩
theorem de_op {op : Operator} {r : R2} {f : F2} (ho : OpR X (binaryOp op) r) (hr : Op2 (p.at X.K) f r) (ha : DB p X a wa) (hb : DB p X b wb) : DE p X (.BinOp a op b pos) (wOp2 f wa wb) :=
  ⟨pe_use (pe_op ho ha.pe hb.pe) fun σ H Q hk ⟨ρ, O, EX, R, ex, hw⟩ => two (S := fun a b => f a b _) ha hb R ex hw fun x y da db H2 ok e rx ry q => hr.ok O H2 x y da db Q ok rx ry (hr.mono _ _ _ _ (fun d q => q.to e) q), mono_Op2 hr.mono ha.mono hb.mono⟩
theorem df_op {op : Operator} {r : R2} {f : F2} (ho : OpR X (binaryOp op) r) (hr : Op2F (p.at X.K) f r) (ha : DB p X a wa) (hb : DB p X b wb) : DF p X (.BinOp a op b pos) (wOp2 f wa wb) :=
  ⟨pe_use (pe_op ho ha.pe hb.pe) fun σ H Q hk ⟨ρ, O, EX, R, ex, hw⟩ => two (S := fun a b => f a b _) ha hb R ex hw fun x y da db H2 ok e rx ry q => hr.ok O H2 x y da db Q ok rx ry (hr.mono _ _ _ _ (fun d q => q.to e) q), mono_Op2 hr.mono ha.mono hb.mono⟩
theorem de_ix {r : R2} {f : F2} (ho : IxR X r) (hr : Op2 (p.at X.K) f r) (ha : DB p X a wa) (hb : DB p X b wb) (hs : PlainIx b := by intro _ _; rfl) : DE p X (.Subscript a b pos) (wOp2 f wa wb) :=
  ⟨pe_use (pe_ix ho ha.pe hb.pe hs) fun σ H Q hk ⟨ρ, O, EX, R, ex, hw⟩ => two (S := fun a b => f a b _) ha hb R ex hw fun x y da db H2 ok e rx ry q => hr.ok O H2 x y da db Q ok rx ry (hr.mono _ _ _ _ (fun d q => q.to e) q), mono_Op2 hr.mono ha.mono hb.mono⟩
theorem de_cmp {op : CmpOp} {r : R2} {g : G2} (ho : OpR X (compareOp op) r) (hr : Cmp2 (p.at X.K) g r) (ha : DB p X a wa) (hb : DB p X b wb) (hm : behindInMarks op b = false := by first | exact nomark _ | rfl) : DE p X (.Compare a [op] [b] pos) (wCmp2 g wa wb) :=
  ⟨pe_use (pe_cmpR ho ha.pe hb.pe hm) fun σ H Q hk ⟨ρ, O, EX, R, ex, hw⟩ => two (S := fun a b => g a b _) ha hb R ex hw fun x y da db H2 ok e rx ry q => hr.ok O H2 x y da db _ _ ok rx ry q fun k q hk' => q _ _ hk' e rep_bool, mono_Cmp2 hr.mono ha.mono hb.mono⟩
theorem dt_cmp {op : CmpOp} {r : R2} {g : G2} (ho : OpR X (compareOp op) r) (hr : Cmp2 (p.at X.K) g r) (ha : DB p X a wa) (hb : DB p X b wb) (hm : behindInMarks op b = false := by first | exact nomark _ | rfl) : DT p X (.Compare a [op] [b] pos) (wTst2 g wa wb) :=
  ⟨pt_use (pt_cmpR ho ha.pe hb.pe hm) fun σ H Q hk ⟨ρ, O, EX, R, ex, hw⟩ => two (S := fun a b => g a b _) ha hb R ex hw fun x y da db H2 ok e rx ry q => hr.ok O H2 x y da db _ _ ok rx ry q fun k q => ⟨k, rfl, fun hk' => q _ hk' e⟩, mono_Tst2 hr.mono ha.mono hb.mono⟩
/-- a chain x < y < z -/
def wChain (g g' : G2) (wa wb wc : WE) : WT := fun ρ Q EX => wa ρ (fun a => wb ρ (fun b => g a b fun k => if k = true then wc ρ (fun c => g' b c Q) EX else Q false) EX) EX
def wChainE (g g' : G2) (wa wb wc : WE) : WE := fun ρ Q EX => wChain g g' wa wb wc ρ (fun k => Q (.bool k)) EX
theorem mono_Chain {g g' : G2} {wa wb wc : WE} (m1 : ∀ a b, M0 (g a b)) (m2 : ∀ a b, M0 (g' a b)) (ma : MonoE wa) (mb : MonoE wb) (mc : MonoE wc) : MonoT (wChain g g' wa wb wc) := fun ρ Q Q' EX h q =>
  ma _ _ _ _ (fun a q => mb _ _ _ _ (fun b q => m1 a b _ _ (fun k q => by
    by_cases z : k = true
    · rw [if_pos z] at q ⊢; exact mc _ _ _ _ (fun c q => m2 b c _ _ h q) q
    · rw [if_neg z] at q ⊢; exact h _ q) q) q) q
end
/-! ### names, constants -/
section
variable {p : Par} {X : Cx} {pos : Pos}
def wC (d : D) : WE := fun _ Q _ => Q d
def wVar (i : Nat) : WE := fun ρ Q _ => match ρ[i]? with
  | some (some (.d d)) => Q d
  | _ => False
def wOwn (i : Nat) : WE := fun ρ Q _ => match ρ[i]? with
  | some (some (.own d)) => Q d
  | _ => False
theorem mono_C {d : D} : MonoE (wC d) := fun _ _ _ _ h q => h _ q
theorem mono_Var {i : Nat} : MonoE (wVar i) := fun ρ Q Q' EX h q => by
  unfold wVar at q ⊢
  split at q <;> first | exact h _ q | exact q.elim
theorem mono_Own {i : Nat} : MonoE (wOwn i) := fun ρ Q Q' EX h q => by
  unfold wOwn at q ⊢
  split at q <;> first | exact h _ q | exact q.elim
theorem de_C {e : Expr} {v : V} {d : D} (h : PE X e (tC v)) (r : ∀ (K : PySem.W.Frag) (N : Addr → Prop) (H : Hp), RepV K N H v d) : DE p X e (wC d) :=
  ⟨pe_use h fun σ H Q hk ⟨ρ, O, EX, R, ex, hw⟩ => fun hk' => hw v H hk' (Ext.refl R.wd) (r _ _ _), mono_C⟩
theorem de_int {i : Int} {j : Nat} : DE p X (.Constant (.int i) j pos) (wC (.int i)) := de_C pe_int fun _ _ _ => rep_int
theorem de_bl {b : Bool} {j : Nat} : DE p X (.Constant (.bool b) j pos) (wC (.bool b)) := de_C pe_bl fun _ _ _ => rep_bool
theorem de_non {j : Nat} : DE p X (.Constant .none j pos) (wC .none) := de_C pe_non fun _ _ _ => rep_none
theorem de_str {x : Str} {j : Nat} : DE p X (.Constant (.str x) j pos) (wC (.str x)) := de_C pe_str fun _ _ _ => rep_str
/-- a module's constant -/
theorem de_globI {x : Str} {i : Int} (hm : ∃ t, X.mg x = some (.int i t)) (hg : Gl X x := by rfl) (hd : (x == ("__debug__" : Str)) = false := by decide) : DE p X (.Name x pos) (wC (.int i)) := by
  obtain ⟨t, hm⟩ := hm
  exact de_C (v := .int i) (pe_glob hg hm ⟨t, rfl⟩ hd) fun _ _ _ => rep_int
theorem de_globS {x : Str} {i : Str} (hm : ∃ t, X.mg x = some (.str i t)) (hg : Gl X x := by rfl) (hd : (x == ("__debug__" : Str)) = false := by decide) : DE p X (.Name x pos) (wC (.str i)) := by
  obtain ⟨t, hm⟩ := hm
  exact de_C (v := .str i) (pe_glob hg hm ⟨t, rfl⟩ hd) fun _ _ _ => rep_str
theorem de_var (i : Nat) {x : Str} (hN : X.N[i]? = some x := by rfl) (hv : Vis X.env.scope x := by first | exact .inl rfl | exact .inr (.inl rfl) | exact .inr (.inr rfl)) (hd : (x == ("__debug__" : Str)) = false := by decide) (hcd : (x == ("__classdict__" : Str)) = false := by decide) : DE p X (.Name x pos) (wVar i) := by
  refine ⟨pe_use (pe_var (i := i) hN hv hd hcd) fun σ H Q hk ⟨ρ, O, EX, R, ex, hw⟩ => ?_, mono_Var⟩
  have hw2 : wVar i ρ _ EX := hw
  unfold wVar at hw2
  split at hw2
  · rename_i d e
    obtain ⟨v, e1, r⟩ := R.slot i _ e
    exact ⟨v, e1, fun hk' => hw2 v H hk' (Ext.refl R.wd) r⟩
  · exact hw2.elim
theorem db_own (i : Nat) {x : Str} (hN : X.N[i]? = some x := by rfl) (hv : Vis X.env.scope x := by first | exact .inl rfl | exact .inr (.inl rfl) | exact .inr (.inr rfl)) (hd : (x == ("__debug__" : Str)) = false := by decide) (hcd : (x == ("__classdict__" : Str)) = false := by decide) : DB p X (.Name x pos) (wOwn i) := by
  refine ⟨pe_use (pe_var (i := i) hN hv hd hcd) fun σ H Q hk ⟨ρ, O, EX, R, ex, hw⟩ => ?_, mono_Own⟩
  have hw2 : wOwn i ρ _ EX := hw
  unfold wOwn at hw2
  split at hw2
  · rename_i d e
    obtain ⟨a, ha, e1, r⟩ := R.slot i _ e
    exact ⟨.ref a, e1, fun hk' => hw2 (.ref a) H hk' (Ext.refl R.wd) (.inr ⟨a, rfl, (R.own i a ha).2.1, r⟩)⟩
  · exact hw2.elim
theorem DE.b {e : Expr} {w : WE} (h : DE p X e w) : DB p X e w :=
  ⟨pe_use h.pe fun σ H Q hk ⟨ρ, O, EX, R, ex, hw⟩ => ⟨ρ, O, EX, R, ex, h.mono _ _ _ _ (fun d q => RB.e fun v H' hk' e r _ => q v H' hk' e r) hw⟩, h.mono⟩
theorem DF.e {e : Expr} {w : WE} (h : DF p X e w) : DE p X e w :=
  ⟨pe_use h.pe fun σ H Q hk ⟨ρ, O, EX, R, ex, hw⟩ => ⟨ρ, O, EX, R, ex, h.mono _ _ _ _ (fun d q => RE.f (R.ok hk) fun v H' hk' e r _ => q v H' hk' e r) hw⟩, h.mono⟩
/-! ### arguments, displays -/
def waNil : WA := fun _ Q _ => Q []
def waCons (w : WE) (r : WA) : WA := fun ρ Q EX => w ρ (fun d => r ρ (fun ds => Q (d :: ds)) EX) EX
theorem mono_aNil : MonoA waNil := fun _ _ _ _ h q => h _ q
theorem mono_aCons {w : WE} {r : WA} (h1 : MonoE w) (h2 : MonoA r) : MonoA (waCons w r) := fun ρ Q Q' EX h q => h1 _ _ _ _ (fun d q => h2 _ _ _ _ (fun ds q => h _ q) q) q
theorem da_nil : DA p X [] waNil := ⟨pa_use pa_nil fun σ H Q hk ⟨ρ, O, EX, R, ex, hw⟩ => fun hk' => hw [] H hk' (Ext.refl R.wd) rall_nil, mono_aNil⟩
theorem da_cons {e : Expr} {es : List Expr} {w : WE} {r : WA} (h : DE p X e w) (t : DA p X es r) (hs : starEach (e :: es) X.env = (false, eval e X.env) :: starEach es X.env := by rfl) : DA p X (e :: es) (waCons w r) :=
  ⟨pa_use (pa_cons h.pe t.pa hs) fun σ H Q hk ⟨ρ, O, EX, R, ex, hw⟩ => ⟨ρ, O, EX, R, ex, h.mono _ _ _ _ (fun d q v H1 hk1 e1 r1 => ⟨ρ, O, EX, R.ext' e1, ex, t.mono _ _ _ _ (fun ds q vs H2 hk2 e2 r2 _ =>
    q (v :: vs) H2 hk2 (e1.trans e2) (rall_cons (r1.ext e2 e1.wd) r2)) q⟩) hw⟩, mono_aCons h.mono t.mono⟩
theorem dbs_nil : DBs p X [] waNil := ⟨pa_use pa_nil fun σ H Q hk ⟨ρ, O, EX, R, ex, hw⟩ => fun hk' => hw [] H hk' (Ext.refl R.wd) .nil, mono_aNil⟩
theorem RepBs.ext {q : Par} {H H' : Hp} {O : Own} (w : Wd q H) (e : Ext q H H') : ∀ {vs : List V} {ds : List D}, Paired (RepB q O H) vs ds → Paired (RepB q O H') vs ds
  | _, _, .nil => .nil
  | _, _, .cons h t => .cons (h.ext w e) (RepBs.ext w e t)
theorem dbs_cons {e : Expr} {es : List Expr} {w : WE} {r : WA} (h : DB p X e w) (t : DBs p X es r) (hs : starEach (e :: es) X.env = (false, eval e X.env) :: starEach es X.env := by rfl) : DBs p X (e :: es) (waCons w r) :=
  ⟨pa_use (pa_cons h.pe t.pa hs) fun σ H Q hk ⟨ρ, O, EX, R, ex, hw⟩ => ⟨ρ, O, EX, R, ex, h.mono _ _ _ _ (fun d q v H1 hk1 e1 r1 => ⟨ρ, O, EX, R.ext' e1, ex, t.mono _ _ _ _ (fun ds q vs H2 hk2 e2 r2 _ =>
    q (v :: vs) H2 hk2 (e1.trans e2) (.cons (r1.ext e1.wd e2) r2)) q⟩) hw⟩, mono_aCons h.mono t.mono⟩
/-- arguments of own defs -/
def wwNil : WW := fun _ Q _ => Q []
def wwCons (w : WE) (r : WW) : WW := fun ρ Q EX => w ρ (fun d => r ρ (fun ds => Q (.d d :: ds)) EX) EX
def wwRow (i : Nat) (r : WW) : WW := fun ρ Q EX => ρ[i]? = some (some .row) ∧ r ρ (fun ds => Q (.row :: ds)) EX
theorem RepW.ext {q : Par} {H H' : Hp} {O : Own} {v : V} {x : W} (w : Wd q H) (e : Ext q H H') (h : RepW q (NN q O) H v x) : RepW q (NN q O) H' v x := by
  cases x with
  | d x => exact RepV.ext e w h
  | own x => exact h
  | row => exact h
theorem dws_nil : DWs p X [] wwNil := ⟨pa_use pa_nil fun σ H Q hk ⟨ρ, O, EX, R, ex, hw⟩ => fun hk' => hw [] H hk' (Ext.refl R.wd) .nil, fun _ _ _ _ h q => h _ q⟩
theorem dws_cons {e : Expr} {es : List Expr} {w : WE} {r : WW} (h : DE p X e w) (t : DWs p X es r) (hs : starEach (e :: es) X.env = (false, eval e X.env) :: starEach es X.env := by rfl) : DWs p X (e :: es) (wwCons w r) :=
  ⟨pa_use (pa_cons h.pe t.pa hs) fun σ H Q hk ⟨ρ, O, EX, R, ex, hw⟩ => ⟨ρ, O, EX, R, ex, h.mono _ _ _ _ (fun d q v H1 hk1 e1 r1 => ⟨ρ, O, EX, R.ext' e1, ex, t.mono _ _ _ _ (fun ds q vs H2 hk2 e2 r2 _ =>
    q (v :: vs) H2 hk2 (e1.trans e2) (.cons (show RepW _ _ _ v (.d d) from r1.ext e2 e1.wd) r2)) q⟩) hw⟩, fun ρ Q Q' EX h2 q => h.mono _ _ _ _ (fun d q => t.mono _ _ _ _ (fun ds q => h2 _ q) q) q⟩
theorem dws_row (i : Nat) {x : Str} {es : List Expr} {r : WW} (t : DWs p X es r) (hN : X.N[i]? = some x := by rfl) (hv : Vis X.env.scope x := by first | exact .inl rfl | exact .inr (.inl rfl) | exact .inr (.inr rfl)) (hd : (x == ("__debug__" : Str)) = false := by decide) (hcd : (x == ("__classdict__" : Str)) = false := by decide)
    (hs : starEach (.Name x pos :: es) X.env = (false, eval (.Name x pos) X.env) :: starEach es X.env := by rfl) : DWs p X (.Name x pos :: es) (wwRow i r) :=
  ⟨pa_use (pa_cons (pe_var (i := i) hN hv hd hcd) t.pa hs) fun σ H Q hk ⟨ρ, O, EX, R, ex, e, hw⟩ => ⟨_, R.slot i .row e, ρ, O, EX, R, ex, t.mono _ _ _ _ (fun ds q vs H2 hk2 e2 r2 _ =>
    q (_ :: vs) H2 hk2 e2 (.cons (show RepW _ _ _ _ .row from rfl) r2)) hw⟩, fun ρ Q Q' EX h2 ⟨e, q⟩ => ⟨e, t.mono _ _ _ _ (fun ds q => h2 _ q) q⟩⟩
/-- (.., ..) -/
def wTup (w : WA) : WE := fun ρ Q EX => w ρ (fun ds => Q (.tuple ds)) EX
def wLst (w : WA) : WE := fun ρ Q EX => w ρ (fun ds => Q (.list ds)) EX
theorem upd_tup_hk {P : Program} {K : PySem.W.Frag} : True := trivial
theorem pa_len {es : List Expr} {w : WA} : True := trivial
end
end DD
set_option maxRecDepth 100000
set_option maxHeartbeats 2000000
/-! SemC: the operators, the subscripts, the built-ins over plain data. -/
namespace DD
open PySem PySem.Spec PyProof.Rows L2
/-! ### arithmetic -/
def aAdd : F2
  | .int i, .int j, Q => Q (.int (i + j))
  | .str i, .str j, Q => i.length + j.length ≤ sizeLine ∧ Q (.str (i ++ j))
  | .list xs, .list ys, Q => xs.length + ys.length ≤ sizeLine ∧ Q (.list (xs ++ ys))
  | .tuple xs, .tuple ys, Q => xs.length + ys.length ≤ sizeLine ∧ Q (.tuple (xs ++ ys))
  | _, _, _ => False
def aAddL : F2
  | .list xs, .list ys, Q => xs.length + ys.length ≤ sizeLine ∧ Q (.list (xs ++ ys))
  | _, _, _ => False
def rStrCat : R2 := fun x y H Q => ∃ i j, x = .str i ∧ y = .str j ∧ i.length + j.length ≤ sizeLine ∧ Q (.str (i ++ j)) H
def rAddA (K : PySem.W.Frag) : R2 := fun x y H Q => rI0 (fun i j => .int (i + j)) x y H Q ∨ rStrCat x y H Q ∨ rCat x y H Q ∨ rCatA K x y H Q
section
variable {p : Par} {X : Cx}
theorem op_addA : OpR X (binaryOp .Add) (rAddA X.K) := op_add.or (op_add_str.or (op_cat.or op_catA))
theorem cat_ok {O : Own} {H : Hp} {x y : V} {xs ys : List D} {Q : VK} (ok : Ok p O H) (rx : RepB p O H x (.list xs)) (ry : RepB p O H y (.list ys)) (hl : xs.length + ys.length ≤ sizeLine) (q : RF p O H Q (.list (xs ++ ys))) : rCat x y H (fun v H' => Hk p.K H' → Q v H') := by
  obtain ⟨a, vs, rfl, _, h1, r1⟩ := rx.list
  obtain ⟨b, ws, rfl, _, h2, r2⟩ := ry.list
  exact ⟨a, b, vs, ws, rfl, rfl, h1, h2, by rw [r1.length, r2.length]; exact hl, fun c hc hk => q.list ok hc (r1.append r2) hk⟩
theorem o_add : Op2 p aAdd (rAddA p.K) := by
  refine ⟨fun O H x y a b Q ok rx ry hf => ?_, fun a b Q Q' h q => ?_⟩
  · cases a <;> cases b <;> first | exact hf.elim | skip
    · rw [rx.int, ry.int]
      exact .inl ⟨_, _, rfl, rfl, fun _ => RE.now hf ok rep_int⟩
    · rw [rx.str, ry.str]
      exact .inr (.inl ⟨_, _, rfl, rfl, hf.1, fun _ => RE.now hf.2 ok rep_str⟩)
    · exact .inr (.inr (.inl (cat_ok ok rx ry hf.1 (hf.2.f ok))))
    · obtain ⟨a, vs, rfl, h1, r1⟩ := rx.tuple
      obtain ⟨b, ws, rfl, h2, r2⟩ := ry.tuple
      obtain ⟨hl, q⟩ := hf
      refine .inr (.inr (.inr ⟨a, b, vs, ws, rfl, rfl, h1, h2, by rw [r1.length, r2.length]; exact hl, fun e _ => ?_, fun _ e _ => ?_, fun _ _ c hc hk => q.tup ok hc (r1.append r2) hk⟩))
      · subst e
        exact q.now ok (rep_tuple h2 (by simpa using r1.append r2))
      · subst e
        exact q.now ok (rep_tuple h1 (by simpa using r1.append r2))
  · cases a <;> cases b <;> first | exact q.elim | exact h _ q | exact ⟨q.1, h _ q.2⟩
theorem o_addL : Op2F p aAddL (rAddA p.K) := by
  refine ⟨fun O H x y a b Q ok rx ry hf => ?_, fun a b Q Q' h q => ?_⟩
  · cases a <;> cases b <;> first | exact hf.elim | skip
    exact .inr (.inr (.inl (cat_ok ok rx ry hf.1 hf.2)))
  · cases a <;> cases b <;> first | exact q.elim | exact ⟨q.1, h _ q.2⟩
/-- two ints to an int -/
def aI (C : Int → Int → Prop) (g : Int → Int → Int) : F2
  | .int i, .int j, Q => C i j ∧ Q (.int (g i j))
  | _, _, _ => False
def aI0 (g : Int → Int → Int) : F2
  | .int i, .int j, Q => Q (.int (g i j))
  | _, _, _ => False
theorem o_int {C : Int → Int → Prop} {g : Int → Int → Int} : Op2 p (aI C g) (rI C fun i j => .int (g i j)) := by
  refine ⟨fun O H x y a b Q ok rx ry hf => ?_, fun a b Q Q' h q => ?_⟩
  · cases a <;> cases b <;> first | exact hf.elim | skip
    rw [rx.int, ry.int]
    exact ⟨_, _, rfl, rfl, hf.1, fun _ => RE.now hf.2 ok rep_int⟩
  · cases a <;> cases b <;> first | exact q.elim | exact ⟨q.1, h _ q.2⟩
theorem o_int0 {g : Int → Int → Int} : Op2 p (aI0 g) (rI0 fun i j => .int (g i j)) := by
  refine ⟨fun O H x y a b Q ok rx ry hf => ?_, fun a b Q Q' h q => ?_⟩
  · cases a <;> cases b <;> first | exact hf.elim | skip
    rw [rx.int, ry.int]
    exact ⟨_, _, rfl, rfl, fun _ => RE.now hf ok rep_int⟩
  · cases a <;> cases b <;> first | exact q.elim | exact h _ q
abbrev aSub : F2 := aI0 fun i j => i - j
abbrev aFdiv : F2 := aI CDiv fun i j => i / j
abbrev aMod : F2 := aI (fun _ j => 0 < j) fun i j => i % j
abbrev aPow : F2 := aI CPow fun i j => i ^ j.toNat
abbrev aShl : F2 := aI CPow fun i j => i * 2 ^ j.toNat
abbrev aShr : F2 := aI (fun _ j => 0 ≤ j) fun i j => i / 2 ^ j.toNat
abbrev aAnd : F2 := aI0 fun i j => Builtin.bitAnd i j
abbrev aOr : F2 := aI0 fun i j => Builtin.bitOr i j
abbrev aXor : F2 := aI0 fun i j => Builtin.bitXor i j
theorem flat_rep {α : Type} (xs : List α) (n : Nat) : (List.replicate n xs).flatten.length = xs.length * n := by
  induction n with
  | zero => simp
  | succ n ih => simp [List.replicate_succ, ih, Nat.mul_succ, Nat.add_comm]
theorem RepAll.flat {K : PySem.W.Frag} {N : Addr → Prop} {H : Hp} {vs : List V} {ds : List D} (r : RepAll K N H vs ds) (n : Nat) : RepAll K N H (List.replicate n vs).flatten (List.replicate n ds).flatten := by
  induction n with
  | zero => exact rall_nil
  | succ n ih =>
    rw [List.replicate_succ, List.replicate_succ, List.flatten_cons, List.flatten_cons]
    exact r.append ih
def aMul : F2
  | .int i, .int j, Q => CMul i j ∧ Q (.int (i * j))
  | .list xs, .int k, Q => (-(2 ^ 63) ≤ k ∧ k < 2 ^ 63 ∧ xs.length * k.toNat ≤ sizeLine) ∧ Q (.list (List.replicate k.toNat xs).flatten)
  | .tuple xs, .int k, Q => (xs ≠ [] ∧ 2 ≤ k ∧ k ≤ 1000 ∧ xs.length ≤ 1000) ∧ Q (.tuple (List.replicate k.toNat xs).flatten)
  | _, _, _ => False
def aMulL : F2
  | .list xs, .int k, Q => (-(2 ^ 63) ≤ k ∧ k < 2 ^ 63 ∧ xs.length * k.toNat ≤ sizeLine) ∧ Q (.list (List.replicate k.toNat xs).flatten)
  | _, _, _ => False
def rMulA (K : PySem.W.Frag) : R2 := fun x y H Q => rI CMul (fun i j => .int (i * j)) x y H Q ∨ rRep x y H Q ∨ rRepT K x y H Q
theorem op_mulA : OpR X (binaryOp .Mult) (rMulA X.K) := op_mul.or (op_rep.or op_repT)
theorem rep_ok {O : Own} {H : Hp} {x : V} {xs : List D} {k : Int} {Q : VK} (ok : Ok p O H) (rx : RepB p O H x (.list xs)) (hl : -(2 ^ 63) ≤ k ∧ k < 2 ^ 63 ∧ xs.length * k.toNat ≤ sizeLine) (q : RF p O H Q (.list (List.replicate k.toNat xs).flatten)) : rRep x (.int k) H (fun v H' => Hk p.K H' → Q v H') := by
  obtain ⟨a, vs, rfl, _, h1, r1⟩ := rx.list
  exact ⟨a, k, vs, rfl, rfl, h1, hl.1, hl.2.1, by rw [r1.length]; exact hl.2.2, fun c hc hk => q.list ok hc (r1.flat _) hk⟩
theorem o_mul : Op2 p aMul (rMulA p.K) := by
  refine ⟨fun O H x y a b Q ok rx ry hf => ?_, fun a b Q Q' h q => ?_⟩
  · cases a <;> cases b <;> first | exact hf.elim | skip
    · rw [rx.int, ry.int]
      exact .inl ⟨_, _, rfl, rfl, hf.1, fun _ => RE.now hf.2 ok rep_int⟩
    · rw [ry.int]
      exact .inr (.inl (rep_ok ok rx hf.1 (hf.2.f ok)))
    · rw [ry.int]
      obtain ⟨a, vs, rfl, h1, r1⟩ := rx.tuple
      obtain ⟨⟨h2, h3, h4, h5⟩, q⟩ := hf
      refine .inr (.inr ⟨a, _, vs, rfl, rfl, h1, fun z => h2 ?_, h3, h4, by rw [r1.length]; exact h5, fun c hc hk => q.tup ok hc (r1.flat _) hk⟩)
      have := r1.length
      rw [z] at this
      exact List.length_eq_zero_iff.mp this.symm
  · cases a <;> cases b <;> first | exact q.elim | exact ⟨q.1, h _ q.2⟩
theorem o_mulL : Op2F p aMulL (rMulA p.K) := by
  refine ⟨fun O H x y a b Q ok rx ry hf => ?_, fun a b Q Q' h q => ?_⟩
  · cases a <;> cases b <;> first | exact hf.elim | skip
    rw [ry.int]
    exact .inr (.inl (rep_ok ok rx hf.1 hf.2))
  · cases a <;> cases b <;> first | exact q.elim | exact ⟨q.1, h _ q.2⟩
/-! ### comparisons -/
def gI (g : Int → Int → Bool) : G2
  | .int i, .int j, Q => Q (g i j)
  | _, _, _ => False
theorem c_int {g : Int → Int → Bool} : Cmp2 p (gI g) (rI0 fun i j => .bl (g i j)) := by
  refine ⟨fun O H x y a b Qb Q ok rx ry hf hq => ?_, fun a b Q Q' h q => ?_⟩
  · cases a <;> cases b <;> first | exact hf.elim | skip
    rw [rx.int, ry.int]
    exact ⟨_, _, rfl, rfl, hq _ hf⟩
  · cases a <;> cases b <;> first | exact q.elim | exact h _ q
abbrev gGt : G2 := gI fun i j => decide (j < i)
abbrev gGe : G2 := gI fun i j => decide (j ≤ i)
/-- a row of ints -/
def intsD : List D → Option (List Int)
  | [] => some []
  | .int i :: r => (intsD r).map (i :: ·)
  | _ => none
theorem intsD_vals {K : PySem.W.Frag} {N : Addr → Prop} {H : Hp} : ∀ {vs : List V} {ds : List D} {ns : List Int}, RepAll K N H vs ds → intsD ds = some ns → vs = ns.map V.int
  | [], [], ns, _, e => by cases e; rfl
  | v :: vs, d :: ds, ns, r, e => by
    rw [RepAll] at r
    cases d <;> first | (exact (by cases e)) | skip
    rename_i i
    have r1 := r.1
    rw [RepV] at r1
    unfold intsD at e
    cases q : intsD ds with
    | none => rw [q] at e; cases e
    | some ms =>
      rw [q] at e
      cases e
      rw [r1, intsD_vals r.2 q]
      rfl
  | [], _ :: _, _, r, _ => by simp [RepAll] at r
  | _ :: _, [], _, r, _ => by simp [RepAll] at r
theorem intsD_map (ns : List Int) : intsD (ns.map PyData.int) = some ns := by
  induction ns with
  | nil => rfl
  | cons n r ih => unfold intsD List.map; simp only; rw [show intsD (List.map PyData.int r) = some r from ih]; rfl
def leT (ns ms : List Int) : Bool := Ob.lexAt (fun j => decide (ns.getD j 0 = ms.getD j 0)) (fun j => decide (ns.getD j 0 ≤ ms.getD j 0)) (decide (ns.length ≤ ms.length)) 0 (min ns.length ms.length)
def gLt : G2
  | .int i, .int j, Q => Q (decide (i < j))
  | .str i, .str j, Q => Q (decide (i.cps.toList < j.cps.toList))
  | .tuple xs, .tuple ys, Q => ∃ ns ms, intsD xs = some ns ∧ intsD ys = some ms ∧ Q (HT.lexLt ns ms)
  | _, _, _ => False
def rLtStr : R2 := fun x y H Q => ∃ i j, x = .str i ∧ y = .str j ∧ Q (.bl (decide (i.cps.toList < j.cps.toList))) H
def rLtA (K : PySem.W.Frag) : R2 := fun x y H Q => rI0 (fun i j => .bl (decide (i < j))) x y H Q ∨ rLtStr x y H Q ∨ rLtT K x y H Q
theorem op_ltA (hu : X.A.units < cLine) : OpR X (compareOp .Lt) (rLtA X.K) := op_lt.or (op_lt_str.or (op_ltT hu))
theorem c_lt : Cmp2 p gLt (rLtA p.K) := by
  refine ⟨fun O H x y a b Qb Q ok rx ry hf hq => ?_, fun a b Q Q' h q => ?_⟩
  · cases a <;> cases b <;> first | exact hf.elim | skip
    · rw [rx.int, ry.int]; exact .inl ⟨_, _, rfl, rfl, hq _ hf⟩
    · rw [rx.str, ry.str]; exact .inr (.inl ⟨_, _, rfl, rfl, hq _ hf⟩)
    · obtain ⟨a, vs, rfl, h1, r1⟩ := rx.tuple
      obtain ⟨b, ws, rfl, h2, r2⟩ := ry.tuple
      obtain ⟨ns, ms, e1, e2, q⟩ := hf
      rw [intsD_vals r1 e1] at h1
      rw [intsD_vals r2 e2] at h2
      exact .inr (.inr ⟨a, b, ns, ms, rfl, rfl, h1, h2, hq _ q⟩)
  · cases a <;> cases b <;> first | exact q.elim | exact h _ q | (obtain ⟨ns, ms, e1, e2, q⟩ := q; exact ⟨ns, ms, e1, e2, h _ q⟩)
def gLe : G2
  | .int i, .int j, Q => Q (decide (i ≤ j))
  | .tuple xs, .tuple ys, Q => ∃ ns ms, intsD xs = some ns ∧ intsD ys = some ms ∧ Q (leT ns ms)
  | _, _, _ => False
def rLeA (K : PySem.W.Frag) : R2 := fun x y H Q => rI0 (fun i j => .bl (decide (i ≤ j))) x y H Q ∨ rLeT K x y H Q
theorem op_leA (hu : X.A.units < cLine) : OpR X (compareOp .LtE) (rLeA X.K) := op_le.or (op_leT hu)
theorem c_le : Cmp2 p gLe (rLeA p.K) := by
  refine ⟨fun O H x y a b Qb Q ok rx ry hf hq => ?_, fun a b Q Q' h q => ?_⟩
  · cases a <;> cases b <;> first | exact hf.elim | skip
    · rw [rx.int, ry.int]; exact .inl ⟨_, _, rfl, rfl, hq _ hf⟩
    · obtain ⟨a, vs, rfl, h1, r1⟩ := rx.tuple
      obtain ⟨b, ws, rfl, h2, r2⟩ := ry.tuple
      obtain ⟨ns, ms, e1, e2, q⟩ := hf
      rw [intsD_vals r1 e1] at h1
      rw [intsD_vals r2 e2] at h2
      exact .inr ⟨a, b, ns, ms, rfl, rfl, h1, h2, hq _ q⟩
  · cases a <;> cases b <;> first | exact q.elim | exact h _ q | (obtain ⟨ns, ms, e1, e2, q⟩ := q; exact ⟨ns, ms, e1, e2, h _ q⟩)
mutual
theorem dp_of {K : PySem.W.Frag} {N : Addr → Prop} {H : Hp} : ∀ (d : D) (v : V), PyData.canLay0 d = true → RepV K N H v d → Dp K H v d
  | .none, v, _, r => by rw [RepV] at r; rw [r]; exact .non
  | .bool _, v, _, r => by rw [RepV] at r; rw [r]; exact .bl _
  | .int _, v, _, r => by rw [RepV] at r; rw [r]; exact .int _
  | .str _, v, _, r => by rw [RepV] at r; rw [r]; exact .str _
  | .list ds, v, c, r => by
    rw [RepV] at r
    obtain ⟨a, vs, rfl, n, h1, h2⟩ := r
    exact .lst (.of h1) (dps_of ds vs (by rw [PyData.canLay0] at c; exact c) h2)
  | .tuple ds, v, c, r => by
    rw [RepV] at r
    obtain ⟨a, vs, rfl, h1, h2⟩ := r
    exact .tup h1 (dps_of ds vs (by rw [PyData.canLay0] at c; exact c) h2)
  | .dict _, _, c, _ => by simp [PyData.canLay0] at c
theorem dps_of {K : PySem.W.Frag} {N : Addr → Prop} {H : Hp} : ∀ (ds : List D) (vs : List V), PyData.canLayAll0 ds = true → RepAll K N H vs ds → DpAll K H vs ds
  | [], [], _, _ => .nil
  | d :: ds, v :: vs, c, r => by
    rw [RepAll] at r
    rw [PyData.canLayAll0, Bool.and_eq_true] at c
    exact .cons (dp_of d v c.1 r.1) (dps_of ds vs c.2 r.2)
  | [], _ :: _, _, r => by simp [RepAll] at r
  | _ :: _, [], _, r => by simp [RepAll] at r
end
theorem RepB.dp {O : Own} {H : Hp} {v : V} {d : D} (r : RepB p O H v d) (c : PyData.canLay0 d = true) : Dp p.K H v d := by
  rcases r with r | ⟨a, rfl, _, r⟩
  · exact dp_of d v c r
  · cases d with
    | list ds =>
      obtain ⟨vs, h1, h2⟩ := r
      exact .lst (.of h1) (dps_of ds vs (by rw [PyData.canLay0] at c; exact c) h2)
    | dict kvs => simp [PyData.canLay0] at c
    | _ => exact r.elim
/-- == -/
def gEq : G2 := fun a b Q => SeqAt.shaped a = true ∧ SeqAt.shaped b = true ∧ Q (PyData.eqv a b)
def gNe : G2 := fun a b Q => SeqAt.shaped a = true ∧ SeqAt.shaped b = true ∧ Q (!PyData.eqv a b)
theorem c_eq : Cmp2 p gEq (rEqD p.K) :=
  ⟨fun O H x y a b Qb Q ok rx ry ⟨h1, h2, q⟩ hq => ⟨a, b, rx.dp (SeqAt.canLay_of_shaped h1), ry.dp (SeqAt.canLay_of_shaped h2), h1, h2, hq _ q⟩, fun a b Q Q' h ⟨h1, h2, q⟩ => ⟨h1, h2, h _ q⟩⟩
theorem c_ne : Cmp2 p gNe (rNeD p.K) :=
  ⟨fun O H x y a b Qb Q ok rx ry ⟨h1, h2, q⟩ hq => ⟨a, b, rx.dp (SeqAt.canLay_of_shaped h1), ry.dp (SeqAt.canLay_of_shaped h2), h1, h2, hq _ q⟩, fun a b Q Q' h ⟨h1, h2, q⟩ => ⟨h1, h2, h _ q⟩⟩
def isNone : D → Bool
  | .none => true
  | _ => false
/-- x is None -/
def gIsN : G2 := fun a b Q => b = .none ∧ Q (isNone a)
def gNotN : G2 := fun a b Q => b = .none ∧ Q (!isNone a)
theorem RepB.isN {O : Own} {H : Hp} {v : V} {d : D} (r : RepB p O H v d) : decide (v = .non) = isNone d := by
  cases d with
  | none => rw [r.none]; rfl
  | bool b => rw [r.bool]; rfl
  | int b => rw [r.int]; rfl
  | str b => rw [r.str]; rfl
  | list ds => obtain ⟨a, vs, rfl, _⟩ := r.list; rfl
  | tuple ds => obtain ⟨a, vs, rfl, _⟩ := r.tuple; rfl
  | dict ds => obtain ⟨a, rfl, _⟩ := r.dict; rfl
theorem c_isN : Cmp2 p gIsN (fun x y H Q => y = .non ∧ Q (.bl (decide (x = .non))) H) :=
  ⟨fun O H x y a b Qb Q ok rx ry ⟨h1, q⟩ hq => ⟨by subst h1; exact ry.none, by rw [rx.isN]; exact hq _ q⟩, fun a b Q Q' h ⟨h1, q⟩ => ⟨h1, h _ q⟩⟩
theorem c_notN : Cmp2 p gNotN (fun x y H Q => y = .non ∧ Q (.bl (!decide (x = .non))) H) :=
  ⟨fun O H x y a b Qb Q ok rx ry ⟨h1, q⟩ hq => ⟨by subst h1; exact ry.none, by rw [rx.isN]; exact hq _ q⟩, fun a b Q Q' h ⟨h1, q⟩ => ⟨h1, h _ q⟩⟩
/-! ### in -/
def flatD : D → Bool
  | .none => true
  | .bool _ => true
  | .int _ => true
  | .str _ => true
  | _ => false
def vOf : D → V
  | .bool b => .bl b
  | .int i => .int i
  | .str x => .str x
  | _ => .non
theorem rep_flat {K : PySem.W.Frag} {N : Addr → Prop} {H : Hp} {v : V} {d : D} (r : RepV K N H v d) (f : flatD d = true) : v = vOf d := by
  cases d <;> first | exact (Bool.false_ne_true f).elim | skip
  all_goals (rw [RepV] at r; exact r)
theorem flat_vOf {d : D} (f : flatD d = true) : flatV (vOf d) = true := by
  cases d <;> first | exact (Bool.false_ne_true f).elim | rfl
theorem eqV_vOf {d e : D} (f : flatD d = true) (g : flatD e = true) : eqV (vOf d) (vOf e) = PyData.eqv d e := by
  cases d <;> first | exact (Bool.false_ne_true f).elim | skip
  all_goals (cases e <;> first | exact (Bool.false_ne_true g).elim | skip)
  all_goals first | rfl | (simp only [vOf, eqV, PyData.eqv])
theorem eqv_flat {K : PySem.W.Frag} {N N' : Addr → Prop} {H : Hp} {v u : V} {d e : D} (r : RepV K N H v d) (r' : RepV K N' H u e) (f : flatD d = true) (g : flatD e = true) : eqV v u = PyData.eqv d e ∧ flatV v = true ∧ flatV u = true := by
  rw [rep_flat r f, rep_flat r' g]
  exact ⟨eqV_vOf f g, flat_vOf f, flat_vOf g⟩
theorem flat_in {K : PySem.W.Frag} {N : Addr → Prop} {H : Hp} {v : V} {d : D} (r : RepV K N H v d) (f : flatD d = true) : ∀ {vs : List V} {ds : List D}, RepAll K N H vs ds → ds.all flatD = true → (vs.all flatV = true ∧ inV v vs = ds.any fun z => PyData.eqv z d)
  | [], [], _, _ => ⟨rfl, rfl⟩
  | u :: vs, e :: ds, h, g => by
    rw [RepAll] at h
    rw [List.all_cons, Bool.and_eq_true] at g
    obtain ⟨i1, i2⟩ := flat_in r f h.2 g.2
    obtain ⟨e1, e2, e3⟩ := eqv_flat h.1 r g.1 f
    refine ⟨by rw [List.all_cons, e2, i1]; rfl, ?_⟩
    unfold inV at i2 ⊢
    rw [List.any_cons, List.any_cons, e1, i2]
  | [], _ :: _, h, _ => by simp [RepAll] at h
  | _ :: _, [], h, _ => by simp [RepAll] at h
theorem flat_v {O : Own} {H : Hp} {v : V} {d : D} (r : RepB p O H v d) (f : flatD d = true) : RepV p.K (NN p O) H v d := by
  rcases r with r | ⟨a, rfl, _, r⟩
  · exact r
  · cases d <;> first | exact r.elim | exact (Bool.false_ne_true f).elim
/-- x in a list, a tuple: of flat things, or of a list's things of any shape; x in a text -/
def gIn (neg : Bool) : G2
  | d, .list ds, Q => ((flatD d = true ∧ ds.all flatD = true) ∨ (SeqAt.shaped d = true ∧ SeqAt.shaped (.list ds) = true)) ∧ Q (if neg = true then !(ds.any fun z => PyData.eqv z d) else ds.any fun z => PyData.eqv z d)
  | d, .tuple ds, Q => (flatD d = true ∧ ds.all flatD = true) ∧ Q (if neg = true then !(ds.any fun z => PyData.eqv z d) else ds.any fun z => PyData.eqv z d)
  | _, _, _ => False
def rInA (K : PySem.W.Frag) : R2 := fun x y H Q => rIn K false x y H Q ∨ rInD K x y H Q
def rNotInA (K : PySem.W.Frag) : R2 := fun x y H Q => rIn K true x y H Q ∨ rNotInD K x y H Q
theorem op_inA (hu : X.A.units + 65 < cLine) : OpR X (compareOp .In) (rInA X.K) := op_in_seq.or (op_inD hu)
theorem op_notInA (hu : X.A.units + 65 < cLine) : OpR X (compareOp .NotIn) (rNotInA X.K) := op_notIn_seq.or (op_notInD hu)
theorem mono_In {neg : Bool} : ∀ a b, M0 (gIn neg a b) := fun a b Q Q' h q => by
  cases b <;> first | exact ⟨q.1, h _ q.2⟩ | exact q.elim
theorem c_in : Cmp2 p (gIn false) (rInA p.K) := by
  refine ⟨fun O H x y a b Qb Q ok rx ry hf hq => ?_, mono_In⟩
  cases b <;> first | exact hf.elim | skip
  · obtain ⟨hc, q⟩ := hf
    rcases hc with ⟨f1, f2⟩ | ⟨s1, s2⟩
    · obtain ⟨l, vs, rfl, _, h1, r1⟩ := ry.list
      obtain ⟨e1, e2⟩ := flat_in (flat_v rx f1) f1 r1 f2
      refine .inl ⟨l, vs, rfl, .inl (.of h1), (eqv_flat (flat_v rx f1) (flat_v rx f1) f1 f1).2.1, e1, ?_⟩
      simp only [Bool.false_eq_true, if_false, e2]
      exact hq _ q
    · exact .inr ⟨a, _, rx.dp (SeqAt.canLay_of_shaped s1), ry.dp (SeqAt.canLay_of_shaped s2), s1, s2, hq _ q⟩
  · obtain ⟨⟨f1, f2⟩, q⟩ := hf
    obtain ⟨l, vs, rfl, h1, r1⟩ := ry.tuple
    obtain ⟨e1, e2⟩ := flat_in (flat_v rx f1) f1 r1 f2
    refine .inl ⟨l, vs, rfl, .inr h1, (eqv_flat (flat_v rx f1) (flat_v rx f1) f1 f1).2.1, e1, ?_⟩
    simp only [Bool.false_eq_true, if_false, e2]
    exact hq _ q
theorem c_notIn : Cmp2 p (gIn true) (rNotInA p.K) := by
  refine ⟨fun O H x y a b Qb Q ok rx ry hf hq => ?_, mono_In⟩
  cases b <;> first | exact hf.elim | skip
  · obtain ⟨hc, q⟩ := hf
    rcases hc with ⟨f1, f2⟩ | ⟨s1, s2⟩
    · obtain ⟨l, vs, rfl, _, h1, r1⟩ := ry.list
      obtain ⟨e1, e2⟩ := flat_in (flat_v rx f1) f1 r1 f2
      refine .inl ⟨l, vs, rfl, .inl (.of h1), (eqv_flat (flat_v rx f1) (flat_v rx f1) f1 f1).2.1, e1, ?_⟩
      simp only [if_true, e2]
      exact hq _ q
    · exact .inr ⟨a, _, rx.dp (SeqAt.canLay_of_shaped s1), ry.dp (SeqAt.canLay_of_shaped s2), s1, s2, hq _ q⟩
  · obtain ⟨⟨f1, f2⟩, q⟩ := hf
    obtain ⟨l, vs, rfl, h1, r1⟩ := ry.tuple
    obtain ⟨e1, e2⟩ := flat_in (flat_v rx f1) f1 r1 f2
    refine .inl ⟨l, vs, rfl, .inr h1, (eqv_flat (flat_v rx f1) (flat_v rx f1) f1 f1).2.1, e1, ?_⟩
    simp only [if_true, e2]
    exact hq _ q
/-! ### subscripts -/
def atD {α : Type} (xs : List α) (i : Int) : Option α := (ixN xs.length i).bind fun j => xs[j]?
def aIx : F2
  | .list xs, .int i, Q => ∃ d, atD xs i = some d ∧ Q d
  | .tuple xs, .int i, Q => ∃ d, atD xs i = some d ∧ Q d
  | .str z, .int i, Q => z.length ≤ sizeLine ∧ ∃ c, atI z.cps.toList i = some c ∧ Q (.str ⟨#[c]⟩)
  | _, _, _ => False
theorem RepAll.at {K : PySem.W.Frag} {N : Addr → Prop} {H : Hp} {vs : List V} {ds : List D} {i : Int} {d : D} (r : RepAll K N H vs ds) (e : atD ds i = some d) : ∃ v, atI vs i = some v ∧ RepV K N H v d := by
  unfold atD at e
  unfold atI
  rw [r.length]
  cases q : ixN ds.length i with
  | none => rw [q] at e; cases e
  | some j =>
    rw [q] at e
    obtain ⟨v, h1, h2⟩ := r.get (i := j) e
    exact ⟨v, h1, h2⟩
theorem o_ix : Op2 p aIx (rIx p.K) := by
  refine ⟨fun O H x y a b Q ok rx ry hf => ?_, fun a b Q Q' h q => ?_⟩
  · cases a <;> cases b <;> first | exact hf.elim | skip
    · rw [rx.str, ry.int]
      obtain ⟨hl, c, e, q⟩ := hf
      exact .inr (.inr ⟨_, _, c, rfl, rfl, hl, e, fun _ => q.now ok rep_str⟩)
    · obtain ⟨l, vs, rfl, _, h1, r1⟩ := rx.list
      obtain ⟨d, e, q⟩ := hf
      obtain ⟨v, e2, r2⟩ := r1.at e
      rw [ry.int]
      exact .inl ⟨l, vs, _, v, rfl, rfl, .of h1, e2, fun _ => q.now ok r2⟩
    · obtain ⟨l, vs, rfl, h1, r1⟩ := rx.tuple
      obtain ⟨d, e, q⟩ := hf
      obtain ⟨v, e2, r2⟩ := r1.at e
      rw [ry.int]
      exact .inr (.inl ⟨l, vs, _, v, rfl, rfl, h1, e2, fun _ => q.now ok r2⟩)
  · cases a <;> cases b <;> first | exact q.elim | (obtain ⟨d, e, q⟩ := q; exact ⟨d, e, h _ q⟩) | (obtain ⟨hl, d, e, q⟩ := q; exact ⟨hl, d, e, h _ q⟩)
end
end DD
set_option maxRecDepth 100000
set_option maxHeartbeats 2000000
/-! SemD: truth, and/or/not, chains, displays, calls of built-ins, slices, isinstance. -/
namespace DD
open PySem PySem.Spec PyProof.Rows L2
section
variable {p : Par} {X : Cx} {pos : Pos} {e a b c : Expr}
/-! ### truth -/
def truG : G1
  | .none, Q => Q false
  | .bool b, Q => Q b
  | .int i, Q => Q (i != 0)
  | .list xs, Q => Q (!xs.isEmpty)
  | .tuple xs, Q => Q (!xs.isEmpty)
  | .str y, Q => y.length ≤ sizeLine ∧ Q ((y.length : Int) != 0)
  | .dict _, _ => False
theorem mono_tru : ∀ d, M0 (truG d) := fun d Q Q' h q => by
  cases d <;> first | exact h _ q | exact ⟨q.1, h _ q.2⟩ | exact q.elim
theorem empty_of {K : PySem.W.Frag} {N : Addr → Prop} {H : Hp} {vs : List V} {ds : List D} (r : RepAll K N H vs ds) : vs.isEmpty = ds.isEmpty := by
  have := r.length
  cases vs <;> cases ds <;> first | rfl | (simp at this)
theorem truG_ok {O : Own} {H : Hp} {v : V} {d : D} {Q : Bool → Prop} (r : RepB p O H v d) (h : truG d Q) : ∃ k, TruV p.K v H k ∧ Q k := by
  cases d with
  | none => rw [r.none]; exact ⟨false, rfl, h⟩
  | bool b => rw [r.bool]; exact ⟨b, rfl, h⟩
  | int i => rw [r.int]; exact ⟨_, rfl, h⟩
  | str y => rw [r.str]; exact ⟨_, ⟨h.1, rfl⟩, h.2⟩
  | list xs =>
    obtain ⟨l, vs, rfl, _, h1, r1⟩ := r.list
    exact ⟨_, .inl ⟨vs, .of h1, rfl⟩, by rw [empty_of r1]; exact h⟩
  | tuple xs =>
    obtain ⟨l, vs, rfl, h1, r1⟩ := r.tuple
    exact ⟨_, .inr (.inl ⟨vs, h1, rfl⟩), by rw [empty_of r1]; exact h⟩
  | dict kvs => exact h.elim
def wTru (w : WE) : WT := fun ρ Q EX => w ρ (fun d => truG d Q) EX
theorem dt_val {w : WE} (h : DB p X e w) (he : ∀ whole, isTrue e X.env whole = (do let v ← whole; standAt e.pos; holding [v] (truthy v)) := by intro _; rfl) : DT p X e (wTru w) :=
  ⟨pt_use (pt_truth h.pe he) fun σ H Q hk ⟨ρ, O, EX, R, ex, hw⟩ => ⟨ρ, O, EX, R, ex, h.mono _ _ _ _ (fun d q v H1 hk1 e1 r1 => by
    obtain ⟨k, t, q⟩ := truG_ok r1 q
    exact ⟨k, t, fun hk' => q _ hk' e1⟩) hw⟩, fun ρ Q Q' EX hh q => h.mono _ _ _ _ (fun d q => mono_tru d _ _ hh q) q⟩
/-! ### and, or, not: as tests -/
def wAnd (t u : WT) : WT := fun ρ Q EX => t ρ (fun c => if c = true then u ρ Q EX else Q false) EX
def wOr (t u : WT) : WT := fun ρ Q EX => t ρ (fun c => if c = true then Q true else u ρ Q EX) EX
def wNot (t : WT) : WT := fun ρ Q EX => t ρ (fun c => Q (!c)) EX
theorem LT.next {t u : WT} {σ : L2.St} {H : Hp} {Q : Bool → Hp → Prop} {q : Par} : True := trivial
theorem DW.t {w : WT} (h : DW p X e w) : DT p X e w := ⟨h.pw.pt, h.mono⟩
theorem dw_and1 {w : WT} (h : DT p X a w) : DW p X (.BoolOp .And [a] pos) w := ⟨pw_and1 h.pt, h.mono⟩
theorem dw_or1 {w : WT} (h : DT p X a w) : DW p X (.BoolOp .Or [a] pos) w := ⟨pw_or1 h.pt, h.mono⟩
theorem mono_And {t u : WT} (h1 : MonoT t) (h2 : MonoT u) : MonoT (wAnd t u) := fun ρ Q Q' EX hh q => h1 _ _ _ _ (fun k q => by
  by_cases z : k = true
  · rw [if_pos z] at q ⊢; exact h2 _ _ _ _ hh q
  · rw [if_neg z] at q ⊢; exact hh _ q) q
theorem mono_Or {t u : WT} (h1 : MonoT t) (h2 : MonoT u) : MonoT (wOr t u) := fun ρ Q Q' EX hh q => h1 _ _ _ _ (fun k q => by
  by_cases z : k = true
  · rw [if_pos z] at q ⊢; exact hh _ q
  · rw [if_neg z] at q ⊢; exact h2 _ _ _ _ hh q) q
theorem dw_and {t u : WT} {rest : List Expr} (h : DT p X a t) (h2 : DW p X (.BoolOp .And (b :: rest) pos) u) : DW p X (.BoolOp .And (a :: b :: rest) pos) (wAnd t u) :=
  ⟨pw_use (pw_and h.pt h2.pw) fun σ H Q hk ⟨ρ, O, EX, R, ex, hw⟩ => ⟨ρ, O, EX, R, ex, h.mono _ _ _ _ (fun k q H1 hk1 e1 => by
    by_cases z : k = true
    · rw [if_pos z] at q ⊢
      exact ⟨ρ, O, EX, R.ext' e1, ex, h2.mono _ _ _ _ (fun k q H2 hk2 e2 _ => q H2 hk2 (e1.trans e2)) q⟩
    · rw [if_neg z] at q ⊢
      exact fun _ => q H1 hk1 e1) hw⟩, mono_And h.mono h2.mono⟩
theorem dw_or {t u : WT} {rest : List Expr} (h : DT p X a t) (h2 : DW p X (.BoolOp .Or (b :: rest) pos) u) : DW p X (.BoolOp .Or (a :: b :: rest) pos) (wOr t u) :=
  ⟨pw_use (pw_or h.pt h2.pw) fun σ H Q hk ⟨ρ, O, EX, R, ex, hw⟩ => ⟨ρ, O, EX, R, ex, h.mono _ _ _ _ (fun k q H1 hk1 e1 => by
    by_cases z : k = true
    · rw [if_pos z] at q ⊢
      exact fun _ => q H1 hk1 e1
    · rw [if_neg z] at q ⊢
      exact ⟨ρ, O, EX, R.ext' e1, ex, h2.mono _ _ _ _ (fun k q H2 hk2 e2 _ => q H2 hk2 (e1.trans e2)) q⟩) hw⟩, mono_Or h.mono h2.mono⟩
theorem dt_not {t : WT} (h : DT p X a t) : DT p X (.UnaryOp .Not a pos) (wNot t) :=
  ⟨pt_use (pt_not h.pt) fun σ H Q hk ⟨ρ, O, EX, R, ex, hw⟩ => ⟨ρ, O, EX, R, ex, h.mono _ _ _ _ (fun k q H1 hk1 e1 _ => q H1 hk1 e1) hw⟩, fun ρ Q Q' EX hh q => h.mono _ _ _ _ (fun k q => hh _ q) q⟩
/-! ### .. as values -/
def wAndV (wa wb : WE) : WE := fun ρ Q EX => wa ρ (fun d => truG d fun k => if k = true then wb ρ Q EX else Q d) EX
def wOrV (wa wb : WE) : WE := fun ρ Q EX => wa ρ (fun d => truG d fun k => if k = true then Q d else wb ρ Q EX) EX
def wNotV (wa : WE) : WE := fun ρ Q EX => wa ρ (fun d => truG d fun k => Q (.bool !k)) EX
theorem de_one {op : BoolOp} {w : WE} (h : DE p X a w) : DE p X (.BoolOp op [a] pos) w := ⟨pe_one h.pe, h.mono⟩
theorem de_and {wa wb : WE} {rest : List Expr} (h : DE p X a wa) (h2 : DE p X (.BoolOp .And (b :: rest) pos) wb) : DE p X (.BoolOp .And (a :: b :: rest) pos) (wAndV wa wb) :=
  ⟨pe_use (pe_andT h.pe h2.pe) fun σ H Q hk ⟨ρ, O, EX, R, ex, hw⟩ => ⟨ρ, O, EX, R, ex, h.mono _ _ _ _ (fun d q v H1 hk1 e1 r1 => by
    obtain ⟨k, t, q⟩ := truG_ok r1.b q
    refine ⟨k, t, ?_⟩
    by_cases z : k = true
    · rw [if_pos z] at q ⊢
      exact ⟨ρ, O, EX, R.ext' e1, ex, h2.mono _ _ _ _ (fun d q v H2 hk2 e2 r2 _ => q v H2 hk2 (e1.trans e2) r2) q⟩
    · rw [if_neg z] at q ⊢
      exact fun _ => q v H1 hk1 e1 r1) hw⟩, fun ρ Q Q' EX hh q => h.mono _ _ _ _ (fun d q => mono_tru d _ _ (fun k q => by
        by_cases z : k = true
        · rw [if_pos z] at q ⊢; exact h2.mono _ _ _ _ hh q
        · rw [if_neg z] at q ⊢; exact hh _ q) q) q⟩
theorem de_or {wa wb : WE} {rest : List Expr} (h : DE p X a wa) (h2 : DE p X (.BoolOp .Or (b :: rest) pos) wb) : DE p X (.BoolOp .Or (a :: b :: rest) pos) (wOrV wa wb) :=
  ⟨pe_use (pe_orT h.pe h2.pe) fun σ H Q hk ⟨ρ, O, EX, R, ex, hw⟩ => ⟨ρ, O, EX, R, ex, h.mono _ _ _ _ (fun d q v H1 hk1 e1 r1 => by
    obtain ⟨k, t, q⟩ := truG_ok r1.b q
    refine ⟨k, t, ?_⟩
    by_cases z : k = true
    · rw [if_pos z] at q ⊢
      exact fun _ => q v H1 hk1 e1 r1
    · rw [if_neg z] at q ⊢
      exact ⟨ρ, O, EX, R.ext' e1, ex, h2.mono _ _ _ _ (fun d q v H2 hk2 e2 r2 _ => q v H2 hk2 (e1.trans e2) r2) q⟩) hw⟩, fun ρ Q Q' EX hh q => h.mono _ _ _ _ (fun d q => mono_tru d _ _ (fun k q => by
        by_cases z : k = true
        · rw [if_pos z] at q ⊢; exact hh _ q
        · rw [if_neg z] at q ⊢; exact h2.mono _ _ _ _ hh q) q) q⟩
theorem de_not {wa : WE} (h : DB p X a wa) : DE p X (.UnaryOp .Not a pos) (wNotV wa) :=
  ⟨pe_use (pe_notT h.pe) fun σ H Q hk ⟨ρ, O, EX, R, ex, hw⟩ => ⟨ρ, O, EX, R, ex, h.mono _ _ _ _ (fun d q v H1 hk1 e1 r1 => by
    obtain ⟨k, t, q⟩ := truG_ok r1 q
    exact ⟨k, t, fun _ => q _ H1 hk1 e1 rep_bool⟩) hw⟩, fun ρ Q Q' EX hh q => h.mono _ _ _ _ (fun d q => mono_tru d _ _ (fun k q => hh _ q) q) q⟩
/-- a if c else b -/
def wIf (t : WT) (wa wb : WE) : WE := fun ρ Q EX => t ρ (fun k => if k = true then wa ρ Q EX else wb ρ Q EX) EX
theorem mono_If {t : WT} {wa wb : WE} (h : MonoT t) (h1 : MonoE wa) (h2 : MonoE wb) : MonoE (wIf t wa wb) := fun ρ Q Q' EX hh q => h _ _ _ _ (fun k q => by
  by_cases z : k = true
  · rw [if_pos z] at q ⊢; exact h1 _ _ _ _ hh q
  · rw [if_neg z] at q ⊢; exact h2 _ _ _ _ hh q) q
theorem de_if {t : WT} {wa wb : WE} (h : DT p X c t) (h1 : DE p X a wa) (h2 : DE p X b wb) : DE p X (.IfExp c a b pos) (wIf t wa wb) :=
  ⟨pe_use (pe_ifExp h.pt h1.pe h2.pe) fun σ H Q hk ⟨ρ, O, EX, R, ex, hw⟩ => ⟨ρ, O, EX, R, ex, h.mono _ _ _ _ (fun k q H1 hk1 e1 => by
    by_cases z : k = true
    · rw [if_pos z] at q ⊢
      exact ⟨ρ, O, EX, R.ext' e1, ex, h1.mono _ _ _ _ (fun d q v H2 hk2 e2 r2 _ => q v H2 hk2 (e1.trans e2) r2) q⟩
    · rw [if_neg z] at q ⊢
      exact ⟨ρ, O, EX, R.ext' e1, ex, h2.mono _ _ _ _ (fun d q v H2 hk2 e2 r2 _ => q v H2 hk2 (e1.trans e2) r2) q⟩) hw⟩, mono_If h.mono h1.mono h2.mono⟩
theorem df_if {t : WT} {wa wb : WE} (h : DT p X c t) (h1 : DF p X a wa) (h2 : DF p X b wb) : DF p X (.IfExp c a b pos) (wIf t wa wb) :=
  ⟨pe_use (pe_ifExp h.pt h1.pe h2.pe) fun σ H Q hk ⟨ρ, O, EX, R, ex, hw⟩ => ⟨ρ, O, EX, R, ex, h.mono _ _ _ _ (fun k q H1 hk1 e1 => by
    by_cases z : k = true
    · rw [if_pos z] at q ⊢
      exact ⟨ρ, O, EX, R.ext' e1, ex, h1.mono _ _ _ _ (fun d q v H2 hk2 e2 n r2 _ => q v H2 hk2 (e1.trans e2) (e1.none n) r2) q⟩
    · rw [if_neg z] at q ⊢
      exact ⟨ρ, O, EX, R.ext' e1, ex, h2.mono _ _ _ _ (fun d q v H2 hk2 e2 n r2 _ => q v H2 hk2 (e1.trans e2) (e1.none n) r2) q⟩) hw⟩, mono_If h.mono h1.mono h2.mono⟩
/-! ### chains -/
section
variable {op op' : CmpOp} {r r' : R2} {g g' : G2} {wa wb wc : WE}
theorem chain_run {σ : L2.St} {H : Hp} {O : Own} {ρ : Env'} {EX : EXn} {Qb : Bool → Prop} {Q : VK} (hr : Cmp2 (p.at X.K) g r) (hr' : Cmp2 (p.at X.K) g' r') (ha : DB p X a wa) (hb : DB p X b wb) (hc : DB p X c wc)
    (Rl : Rel (p.at X.K) O ρ σ H) (ex : ExOk (p.at X.K) EX) (hw : wChain g g' wa wb wc ρ Qb EX) (hq : ∀ k H', Hk X.K H' → Ext (p.at X.K) H H' → Qb k → Q (.bl k) H') :
    tChain r r' (LB (p.at X.K) wa) (LB (p.at X.K) wb) (LB (p.at X.K) wc) σ H Q := by
  refine two (S := fun a b => g a b fun k => if k = true then wc ρ (fun c => g' b c Qb) EX else Qb false) ha hb Rl ex hw fun x y da db H2 ok e rx ry q => ?_
  refine hr.ok O H2 x y da db _ _ ok rx ry q fun k q => ⟨k, rfl, ?_⟩
  by_cases z : k = true
  · rw [if_pos z] at q ⊢
    exact ⟨ρ, O, EX, Rl.ext' e, ex, hc.mono _ _ _ _ (fun dc q u H3 hk3 e3 r3 => hr'.ok O H3 y u db dc _ _ (((Rl.ext' e).ext' e3).ok hk3) (ry.ext e.wd e3) r3 q fun k q => hq k H3 hk3 (e.trans e3) q) q⟩
  · rw [if_neg z] at q ⊢
    exact hq false H2 ok.hk e q
theorem de_chain (ho : OpR X (compareOp op) r) (ho' : OpR X (compareOp op') r') (hr : Cmp2 (p.at X.K) g r) (hr' : Cmp2 (p.at X.K) g' r') (ha : DB p X a wa) (hb : DB p X b wb) (hc : DB p X c wc)
    (hm : lastMarks [op, op'] [b, c] = false := by with_unfolding_all rfl) : DE p X (.Compare a [op, op'] [b, c] pos) (wChainE g g' wa wb wc) :=
  ⟨pe_use (pe_chain ho ho' ha.pe hb.pe hc.pe hm) fun σ H Q hk ⟨ρ, O, EX, R, ex, hw⟩ => chain_run hr hr' ha hb hc R ex hw fun k H' hk' e q _ => q _ H' hk' e rep_bool,
    fun ρ Q Q' EX hh q => mono_Chain hr.mono hr'.mono ha.mono hb.mono hc.mono ρ _ _ EX (fun k q => hh _ q) q⟩
theorem dt_chain (ho : OpR X (compareOp op) r) (ho' : OpR X (compareOp op') r') (hr : Cmp2 (p.at X.K) g r) (hr' : Cmp2 (p.at X.K) g' r') (ha : DB p X a wa) (hb : DB p X b wb) (hc : DB p X c wc)
    (hm : lastMarks [op, op'] [b, c] = false := by with_unfolding_all rfl) : DT p X (.Compare a [op, op'] [b, c] pos) (wChain g g' wa wb wc) :=
  ⟨pt_use (pt_chain ho ho' ha.pe hb.pe hc.pe hm) fun σ H Q hk ⟨ρ, O, EX, R, ex, hw⟩ => chain_run hr hr' ha hb hc R ex hw fun k H' hk' e q => ⟨k, rfl, fun hk'' => q H' hk' e⟩,
    mono_Chain hr.mono hr'.mono ha.mono hb.mono hc.mono⟩
end
/-! ### displays -/
theorem small_le {n : Nat} (h : n ≤ 1000) : n ≤ sizeLine := by rw [sizeLine_eq]; omega
theorem wa_len {es : List Expr} {w : WA} (h : DA p X es w) : True := trivial
def wTupL (w : WA) : WE := fun ρ Q EX => w ρ (fun ds => ds.length ≤ sizeLine ∧ Q (.tuple ds)) EX
def wLstL (w : WA) : WE := fun ρ Q EX => w ρ (fun ds => ds.length ≤ sizeLine ∧ Q (.list ds)) EX
theorem de_tupL {es : List Expr} {k : Nat} {w : WA} (h : DA p X es w) : DE p X (.Tuple es k pos) (wTupL w) :=
  ⟨pe_use (pe_tup h.pa) fun σ H Q hk ⟨ρ, O, EX, R, ex, hw⟩ => ⟨ρ, O, EX, R, ex, h.mono _ _ _ _ (fun ds q vs H1 hk1 e1 r1 => ⟨by rw [r1.length]; exact q.1, fun c hc hk' => RE.tup (q.2.to e1) ((R.ext' e1).ok hk1) hc r1 hk'⟩) hw⟩,
    fun ρ Q Q' EX hh q => h.mono _ _ _ _ (fun ds q => ⟨q.1, hh _ q.2⟩) q⟩
theorem df_lstL {es : List Expr} {w : WA} (h : DA p X es w) : DF p X (.List es pos) (wLstL w) :=
  ⟨pe_use (pe_lst h.pa) fun σ H Q hk ⟨ρ, O, EX, R, ex, hw⟩ => ⟨ρ, O, EX, R, ex, h.mono _ _ _ _ (fun ds q vs H1 hk1 e1 r1 => ⟨by rw [r1.length]; exact q.1, fun c hc hk' => RF.list (q.2.to e1) ((R.ext' e1).ok hk1) hc r1 hk'⟩) hw⟩,
    fun ρ Q Q' EX hh q => h.mono _ _ _ _ (fun ds q => ⟨q.1, hh _ q.2⟩) q⟩
/-- that the values are as many as the expressions -/
def LenA (n : Nat) (w : WA) : Prop := ∀ ρ Q EX, w ρ Q EX → w ρ (fun ds => ds.length = n ∧ Q ds) EX
theorem lenA_nil : LenA 0 waNil := fun _ _ _ h => ⟨rfl, h⟩
theorem lenA_cons {n : Nat} {w : WE} {r : WA} (m : MonoE w) (h : LenA n r) (mr : MonoA r) : LenA (n + 1) (waCons w r) := fun ρ Q EX q => m _ _ _ _ (fun d q => mr _ _ _ _ (fun ds ⟨e, q⟩ => ⟨by rw [List.length_cons, e], q⟩) (h _ _ _ q)) q
/-- elements, of a known number -/
structure DAn (p : Par) (X : Cx) (n : Nat) (es : List Expr) (w : WA) : Prop where
  da : DA p X es w
  len : LenA n w
theorem an_nil : DAn p X 0 [] waNil := ⟨da_nil, lenA_nil⟩
theorem an_cons {n : Nat} {es : List Expr} {w : WE} {r : WA} (h : DE p X e w) (t : DAn p X n es r) (hs : starEach (e :: es) X.env = (false, eval e X.env) :: starEach es X.env := by rfl) : DAn p X (n + 1) (e :: es) (waCons w r) :=
  ⟨da_cons h t.da hs, lenA_cons h.mono t.len t.da.mono⟩
theorem de_tup {es : List Expr} {k n : Nat} {w : WA} (h : DAn p X n es w) (hn : n ≤ 1000 := by decide) : DE p X (.Tuple es k pos) (wTup w) :=
  ⟨pe_use (de_tupL h.da).pe fun σ H Q hk ⟨ρ, O, EX, R, ex, hw⟩ => ⟨ρ, O, EX, R, ex, h.da.mono _ _ _ _ (fun ds q => ⟨by rw [q.1]; exact small_le hn, RE.imp (fun _ _ _ q _ => q) q.2⟩) (h.len _ _ _ hw)⟩,
    fun ρ Q Q' EX hh q => h.da.mono _ _ _ _ (fun ds q => hh _ q) q⟩
theorem df_lst {es : List Expr} {n : Nat} {w : WA} (h : DAn p X n es w) (hn : n ≤ 1000 := by decide) : DF p X (.List es pos) (wLst w) :=
  ⟨pe_use (df_lstL h.da).pe fun σ H Q hk ⟨ρ, O, EX, R, ex, hw⟩ => ⟨ρ, O, EX, R, ex, h.da.mono _ _ _ _ (fun ds q => ⟨by rw [q.1]; exact small_le hn, fun a H' hk' e n r _ => q.2 a H' hk' e n r⟩) (h.len _ _ _ hw)⟩,
    fun ρ Q Q' EX hh q => h.da.mono _ _ _ _ (fun ds q => hh _ q) q⟩
/-! ### calls of built-ins -/
section
variable {x : Str} {id T : String} {r : List V → Hp → VK → Prop} {f : FN} {q : Pos} {es : List Expr} {w : WA}
theorem argsN {σ : L2.St} {H : Hp} {Q : VK} {O : Own} {ρ : Env'} {EX : EXn} (hr : OpN (p.at X.K) f r) (h : DBs p X es w) (R : Rel (p.at X.K) O ρ σ H) (ex : ExOk (p.at X.K) EX) (hw : wOpN f w ρ (RE (p.at X.K) O H Q) EX) : tCB r (LBs (p.at X.K) w) σ H (fun v H' => Hk X.K H' → Q v H') :=
  ⟨ρ, O, EX, R, ex, h.mono _ _ _ _ (fun ds q vs H1 hk1 e1 r1 => hr.ok O H1 vs ds Q ((R.ext' e1).ok hk1) r1 (hr.mono _ _ _ (fun d q => q.to e1) q)) hw⟩
theorem argsNF {σ : L2.St} {H : Hp} {Q : VK} {O : Own} {ρ : Env'} {EX : EXn} (hr : OpNF (p.at X.K) f r) (h : DBs p X es w) (R : Rel (p.at X.K) O ρ σ H) (ex : ExOk (p.at X.K) EX) (hw : wOpN f w ρ (RF (p.at X.K) O H Q) EX) : tCB r (LBs (p.at X.K) w) σ H (fun v H' => Hk X.K H' → Q v H') :=
  ⟨ρ, O, EX, R, ex, h.mono _ _ _ _ (fun ds q vs H1 hk1 e1 r1 => hr.ok O H1 vs ds Q ((R.ext' e1).ok hk1) r1 (hr.mono _ _ _ (fun d q => q.to e1) q)) hw⟩
theorem de_callB (hc : CallR X (.builtin id) r) (hr : OpN (p.at X.K) f r) (hm : X.mg x = none) (hv : bootBuiltins x = some (.builtin id)) (ha : DBs p X (e :: es) w) (hg : Gl X x := by rfl) (hn : x ≠ "__name__" := by decide) (hdb : (x == ("__debug__" : Str)) = false := by decide)
    (he : starEach (e :: es) X.env = (false, eval e X.env) :: starEach es X.env := by rfl) (hpl : (backTo pos (starEach es X.env)).any (·.1) = false := by rfl) : DE p X (.Call (.Name x q) (e :: es) [] pos) (wOpN f w) :=
  ⟨pe_use (pe_callB hc hg hm hv ha.pa hn hdb he hpl) fun σ H Q hk ⟨ρ, O, EX, R, ex, hw⟩ => argsN hr ha R ex hw, mono_OpN hr.mono ha.mono⟩
theorem df_callB (hc : CallR X (.builtin id) r) (hr : OpNF (p.at X.K) f r) (hm : X.mg x = none) (hv : bootBuiltins x = some (.builtin id)) (ha : DBs p X (e :: es) w) (hg : Gl X x := by rfl) (hn : x ≠ "__name__" := by decide) (hdb : (x == ("__debug__" : Str)) = false := by decide)
    (he : starEach (e :: es) X.env = (false, eval e X.env) :: starEach es X.env := by rfl) (hpl : (backTo pos (starEach es X.env)).any (·.1) = false := by rfl) : DF p X (.Call (.Name x q) (e :: es) [] pos) (wOpN f w) :=
  ⟨pe_use (pe_callB hc hg hm hv ha.pa hn hdb he hpl) fun σ H Q hk ⟨ρ, O, EX, R, ex, hw⟩ => argsNF hr ha R ex hw, mono_OpN hr.mono ha.mono⟩
theorem de_callTy (hc : CallR X (.type T) r) (hr : OpN (p.at X.K) f r) (hm : X.mg x = none) (hv : bootBuiltins x = some (.type T)) (ha : DBs p X (e :: es) w) (hg : Gl X x := by rfl) (hn : x ≠ "__name__" := by decide) (hdb : (x == ("__debug__" : Str)) = false := by decide)
    (he : starEach (e :: es) X.env = (false, eval e X.env) :: starEach es X.env := by rfl) (hpl : (backTo pos (starEach es X.env)).any (·.1) = false := by rfl) : DE p X (.Call (.Name x q) (e :: es) [] pos) (wOpN f w) :=
  ⟨pe_use (pe_callTy hc hg hm hv ha.pa hn hdb he hpl) fun σ H Q hk ⟨ρ, O, EX, R, ex, hw⟩ => argsN hr ha R ex hw, mono_OpN hr.mono ha.mono⟩
theorem df_callTy (hc : CallR X (.type T) r) (hr : OpNF (p.at X.K) f r) (hm : X.mg x = none) (hv : bootBuiltins x = some (.type T)) (ha : DBs p X (e :: es) w) (hg : Gl X x := by rfl) (hn : x ≠ "__name__" := by decide) (hdb : (x == ("__debug__" : Str)) = false := by decide)
    (he : starEach (e :: es) X.env = (false, eval e X.env) :: starEach es X.env := by rfl) (hpl : (backTo pos (starEach es X.env)).any (·.1) = false := by rfl) : DF p X (.Call (.Name x q) (e :: es) [] pos) (wOpN f w) :=
  ⟨pe_use (pe_callTy hc hg hm hv ha.pa hn hdb he hpl) fun σ H Q hk ⟨ρ, O, EX, R, ex, hw⟩ => argsNF hr ha R ex hw, mono_OpN hr.mono ha.mono⟩
end
/-- one argument -/
def f1 (f : F1) : FN
  | [d], Q => f d Q
  | _, _ => False
def f2 (f : F2) : FN
  | [d, e], Q => f d e Q
  | _, _ => False
theorem mono_f1 {f : F1} (h : ∀ d, M0 (f d)) : ∀ ds, M0 (f1 f ds) := fun ds Q Q' hh q => by
  unfold f1 at q ⊢
  split at q
  · exact h _ _ _ hh q
  · exact q.elim
theorem mono_f2 {f : F2} (h : ∀ d e, M0 (f d e)) : ∀ ds, M0 (f2 f ds) := fun ds Q Q' hh q => by
  unfold f2 at q ⊢
  split at q
  · exact h _ _ _ _ hh q
  · exact q.elim
theorem op1 {f : F1} {r : List V → Hp → VK → Prop} (m : ∀ d, M0 (f d)) (h : ∀ O H x a (Q : VK), Ok p O H → RepB p O H x a → f a (RE p O H Q) → r [x] H (fun v H' => Hk p.K H' → Q v H')) : OpN p (f1 f) r := by
  refine ⟨fun O H xs ds Q ok r hf => ?_, mono_f1 m⟩
  cases r with
  | nil => exact hf.elim
  | cons r1 t => cases t with
    | nil => exact h O H _ _ Q ok r1 hf
    | cons _ _ => exact hf.elim
theorem op1F {f : F1} {r : List V → Hp → VK → Prop} (m : ∀ d, M0 (f d)) (h : ∀ O H x a (Q : VK), Ok p O H → RepB p O H x a → f a (RF p O H Q) → r [x] H (fun v H' => Hk p.K H' → Q v H')) : OpNF p (f1 f) r := by
  refine ⟨fun O H xs ds Q ok r hf => ?_, mono_f1 m⟩
  cases r with
  | nil => exact hf.elim
  | cons r1 t => cases t with
    | nil => exact h O H _ _ Q ok r1 hf
    | cons _ _ => exact hf.elim
theorem op2 {f : F2} {r : List V → Hp → VK → Prop} (m : ∀ d e, M0 (f d e)) (h : ∀ O H x y a b (Q : VK), Ok p O H → RepB p O H x a → RepB p O H y b → f a b (RE p O H Q) → r [x, y] H (fun v H' => Hk p.K H' → Q v H')) : OpN p (f2 f) r := by
  refine ⟨fun O H xs ds Q ok r hf => ?_, mono_f2 m⟩
  cases r with
  | nil => exact hf.elim
  | cons r1 t => cases t with
    | nil => exact hf.elim
    | cons r2 t => cases t with
      | nil => exact h O H _ _ _ _ Q ok r1 r2 hf
      | cons _ _ => exact hf.elim
def aLen : F1
  | .list xs, Q => Q (.int xs.length)
  | .tuple xs, Q => Q (.int xs.length)
  | .str x, Q => x.length ≤ sizeLine ∧ Q (.int x.length)
  | _, _ => False
theorem n_len : OpN p (f1 aLen) (fun xs H Q => ∃ x n, xs = [x] ∧ LenV p.K x H n ∧ Q (.int n) H) := by
  refine op1 (fun d Q Q' h q => ?_) fun O H x a Q ok r hf => ?_
  · cases d <;> first | exact h _ q | exact ⟨q.1, h _ q.2⟩ | exact q.elim
  · cases a <;> first | exact hf.elim | skip
    · rw [r.str]; exact ⟨_, _, rfl, ⟨hf.1, rfl⟩, fun _ => RE.now hf.2 ok rep_int⟩
    · obtain ⟨l, vs, rfl, _, h1, r1⟩ := r.list
      exact ⟨_, vs.length, rfl, .inl ⟨vs, .of h1, rfl⟩, fun _ => by rw [r1.length]; exact RE.now hf ok rep_int⟩
    · obtain ⟨l, vs, rfl, h1, r1⟩ := r.tuple
      exact ⟨_, vs.length, rfl, .inr ⟨vs, h1, rfl⟩, fun _ => by rw [r1.length]; exact RE.now hf ok rep_int⟩
def aAbs : F1
  | .int i, Q => Q (.int (if i < 0 then -i else i))
  | _, _ => False
theorem n_abs : OpN p (f1 aAbs) (fun xs H Q => ∃ i, xs = [.int i] ∧ Q (.int (if i < 0 then -i else i)) H) := by
  refine op1 (fun d Q Q' h q => ?_) fun O H x a Q ok r hf => ?_
  · cases d <;> first | exact h _ q | exact q.elim
  · cases a <;> first | exact hf.elim | skip
    rw [r.int]; exact ⟨_, rfl, fun _ => RE.now hf ok rep_int⟩
def aMax2 : F2
  | .int i, .int j, Q => Q (.int (max i j))
  | _, _, _ => False
def aMin2 : F2
  | .int i, .int j, Q => Q (.int (min i j))
  | _, _, _ => False
theorem n_max2 : OpN p (f2 aMax2) (fun xs H Q => ∃ i j, xs = [.int i, .int j] ∧ Q (.int (if j > i then j else i)) H) := by
  refine op2 (fun d e Q Q' h q => ?_) fun O H x y a b Q ok r r' hf => ?_
  · cases d <;> cases e <;> first | exact h _ q | exact q.elim
  · cases a <;> cases b <;> first | exact hf.elim | skip
    rename_i i j
    rw [r.int, r'.int]
    refine ⟨i, j, rfl, fun _ => ?_⟩
    have e : (if j > i then j else i) = max i j := by rw [Int.max_def]; split <;> split <;> omega
    rw [e]
    exact RE.now hf ok rep_int
theorem n_min2 : OpN p (f2 aMin2) (fun xs H Q => ∃ i j, xs = [.int i, .int j] ∧ Q (.int (if j < i then j else i)) H) := by
  refine op2 (fun d e Q Q' h q => ?_) fun O H x y a b Q ok r r' hf => ?_
  · cases d <;> cases e <;> first | exact h _ q | exact q.elim
  · cases a <;> cases b <;> first | exact hf.elim | skip
    rename_i i j
    rw [r.int, r'.int]
    refine ⟨i, j, rfl, fun _ => ?_⟩
    have e : (if j < i then j else i) = min i j := by rw [Int.min_def]; split <;> split <;> omega
    rw [e]
    exact RE.now hf ok rep_int
def aSum : F1
  | .list xs, Q => ∃ ns, intsD xs = some ns ∧ Q (.int ns.sum)
  | _, _ => False
theorem n_sum : OpN p (f1 aSum) (rSum p.K) := by
  refine op1 (fun d Q Q' h q => ?_) fun O H x a Q ok r hf => ?_
  · cases d <;> first | (obtain ⟨ns, e, q⟩ := q; exact ⟨ns, e, h _ q⟩) | exact q.elim
  · cases a <;> first | exact hf.elim | skip
    obtain ⟨l, vs, rfl, _, h1, r1⟩ := r.list
    obtain ⟨ns, e, q⟩ := hf
    rw [intsD_vals r1 e] at h1
    exact ⟨l, ns, rfl, .of h1, fun _ => q.now ok rep_int⟩
def aSorted : F1
  | .list xs, Q => ∃ ns, intsD xs = some ns ∧ ∀ ns' : List Int, ns'.Perm ns → ns'.Pairwise (· ≤ ·) → Q (.list (ns'.map PyData.int))
  | _, _ => False
theorem n_sorted : OpNF p (f1 aSorted) (rSortedI p.K) := by
  refine op1F (fun d Q Q' h q => ?_) fun O H x a Q ok r hf => ?_
  · cases d <;> first | (obtain ⟨ns, e, q⟩ := q; exact ⟨ns, e, fun ns' h1 h2 => h _ (q ns' h1 h2)⟩) | exact q.elim
  · cases a <;> first | exact hf.elim | skip
    obtain ⟨l, vs, rfl, _, h1, r1⟩ := r.list
    obtain ⟨ns, e, q⟩ := hf
    rw [intsD_vals r1 e] at h1
    exact ⟨l, ns, rfl, .of h1, fun ns' c h2 h3 hc hk => (q ns' h2 h3).list ok hc (RepAll.ints _) hk⟩
/-- list(..), tuple(..) of a list, a tuple -/
def aListOf : F1
  | .list xs, Q => Q (.list xs)
  | .tuple xs, Q => Q (.list xs)
  | _, _ => False
def aTupleOf : F1
  | .list xs, Q => Q (.tuple xs)
  | .tuple xs, Q => Q (.tuple xs)
  | _, _ => False
theorem n_listOf : OpNF p (f1 aListOf) (fun xs H Q => ∃ a ys, xs = [.ref a] ∧ (SqL p.K H a ys ∨ SqT p.K H a ys) ∧ ∀ l, H l = none → Q (.ref l) (upd H l (.lst ys))) := by
  refine op1F (fun d Q Q' h q => ?_) fun O H x a Q ok r hf => ?_
  · cases d <;> first | exact h _ q | exact q.elim
  · cases a <;> first | exact hf.elim | skip
    · obtain ⟨l, vs, rfl, _, h1, r1⟩ := r.list
      exact ⟨l, vs, rfl, .inl (.of h1), fun c hc hk => RF.list hf ok hc r1 hk⟩
    · obtain ⟨l, vs, rfl, h1, r1⟩ := r.tuple
      exact ⟨l, vs, rfl, .inr h1, fun c hc hk => RF.list hf ok hc r1 hk⟩
theorem n_tupleOf : OpN p (f1 aTupleOf) (fun xs H Q => ∃ a ys, xs = [.ref a] ∧ ((SqL p.K H a ys ∧ ∀ l, H l = none → Q (.ref l) (upd H l (.tup ys))) ∨ (SqT p.K H a ys ∧ Q (.ref a) H))) := by
  refine op1 (fun d Q Q' h q => ?_) fun O H x a Q ok r hf => ?_
  · cases d <;> first | exact h _ q | exact q.elim
  · cases a <;> first | exact hf.elim | skip
    · obtain ⟨l, vs, rfl, _, h1, r1⟩ := r.list
      exact ⟨l, vs, rfl, .inl ⟨.of h1, fun c hc hk => RE.tup hf ok hc r1 hk⟩⟩
    · obtain ⟨l, vs, rfl, h1, r1⟩ := r.tuple
      exact ⟨l, vs, rfl, .inr ⟨h1, fun _ => RE.now hf ok (rep_tuple h1 r1)⟩⟩
def aInt : F1
  | .int i, Q => Q (.int i)
  | .bool k, Q => Q (.int (if k then 1 else 0))
  | _, _ => False
theorem n_int : OpN p (f1 aInt) (fun xs H Q => (∃ i, xs = [.int i] ∧ Q (.int i) H) ∨ ∃ k, xs = [.bl k] ∧ Q (.int (if k then 1 else 0)) H) := by
  refine op1 (fun d Q Q' h q => ?_) fun O H x a Q ok r hf => ?_
  · cases d <;> first | exact h _ q | exact q.elim
  · cases a <;> first | exact hf.elim | skip
    · rw [r.bool]; exact .inr ⟨_, rfl, fun _ => RE.now hf ok rep_int⟩
    · rw [r.int]; exact .inl ⟨_, rfl, fun _ => RE.now hf ok rep_int⟩
/-! ### slices -/
/-- a part -/
def woNone : Env' → (Option Int → Prop) → EXn → Prop := fun _ Q _ => Q none
def woSome (w : WE) : Env' → (Option Int → Prop) → EXn → Prop := fun ρ Q EX => w ρ (fun d => ∃ i, d = .int i ∧ Q (some i)) EX
structure DO (p : Par) (X : Cx) (e : Option Expr) (w : Env' → (Option Int → Prop) → EXn → Prop) : Prop where
  po : PO X e (fun σ H Q => At (p.at X.K) σ H fun O ρ EX => w ρ (fun i => ∀ H', Hk X.K H' → Ext (p.at X.K) H H' → Q i H') EX)
  mono : ∀ ρ Q Q' EX, (∀ d, Q d → Q' d) → w ρ Q EX → w ρ Q' EX
theorem po_use {e : Option Expr} {t t' : TO} (h : PO X e t) (imp : ∀ σ H Q, Hk X.K H → t' σ H Q → t σ H Q) : PO X e t' :=
  ⟨fun pins s σ H Q I ht => h.run pins s σ H _ I (imp σ H Q (hk_of I) ht)⟩
theorem pe_hk {t : TE} (h : PE X e t) : PE X e (fun σ H Q => t σ H fun v H' => Hk X.K H' → Q v H') :=
  ⟨fun pins s σ H Q I ht => thn (h.run pins s σ H _ I ht) fun _ _ ⟨x, H', I', r, q⟩ => ⟨x, H', I', r, q (hk_of I')⟩⟩
theorem do_none : DO p X none woNone := ⟨po_use po_none fun σ H Q hk ⟨ρ, O, EX, R, ex, hw⟩ => hw H hk (Ext.refl R.wd), fun _ _ _ _ h q => h _ q⟩
theorem do_some {w : WE} (h : DB p X e w) : DO p X (some e) (woSome w) :=
  ⟨po_use (po_some (pe_hk h.pe)) fun σ H Q hk ⟨ρ, O, EX, R, ex, hw⟩ => ⟨ρ, O, EX, R, ex, h.mono _ _ _ _ (fun d ⟨i, z, q⟩ v H1 hk1 e1 r1 hk' => by
    subst z
    rw [r1.int]
    exact ⟨i, rfl, q _ hk' e1⟩) hw⟩, fun ρ Q Q' EX hh q => h.mono _ _ _ _ (fun d ⟨i, z, q⟩ => ⟨i, z, hh _ q⟩) q⟩
def cutD {α : Type} (xs : List α) (lo hi : Option Int) : List α := (xs.drop (HT.sIx xs.length 0 lo)).take (HT.sIx xs.length xs.length hi - HT.sIx xs.length 0 lo)
def aCut (lo hi : Option Int) : F1
  | .list xs, Q => Q (.list (cutD xs lo hi))
  | .tuple xs, Q => Q (.tuple (cutD xs lo hi))
  | _, _ => False
theorem mono_cut {lo hi : Option Int} : ∀ d, M0 (aCut lo hi d) := fun d Q Q' h q => by
  cases d <;> first | exact h _ q | exact q.elim
theorem RepAll.cut {K : PySem.W.Frag} {N : Addr → Prop} {H : Hp} {vs : List V} {ds : List D} (r : RepAll K N H vs ds) (lo hi : Option Int) : RepAll K N H (cutV vs lo hi) (cutD ds lo hi) := by
  unfold cutV cutD
  rw [r.length]
  exact (r.drop _).take _
def rSlD (K : PySem.W.Frag) : V → Option Int → Option Int → Hp → VK → Prop := fun x lo hi H Q => rSlL K x lo hi H Q ∨ rSlA K x lo hi H Q
theorem sl_D : SlR X (rSlD X.K) := sl_list.or sl_tupA
def wCut (w : WE) (wl wh : Env' → (Option Int → Prop) → EXn → Prop) : WE := fun ρ Q EX => w ρ (fun d => wl ρ (fun lo => wh ρ (fun hi => aCut lo hi d Q) EX) EX) EX
theorem cut_whole {vs : List V} {lo hi : Option Int} (h : HT.sIx vs.length 0 lo = 0 ∧ HT.sIx vs.length vs.length hi = vs.length) : cutV vs lo hi = vs := by
  unfold cutV
  rw [h.1, h.2, List.drop_zero, Nat.sub_zero, List.take_length]
theorem mono_Cut {w : WE} {wl wh : Env' → (Option Int → Prop) → EXn → Prop} {lo hi : Option Expr} (h : MonoE w) (hl : DO p X lo wl) (hh : DO p X hi wh) : MonoE (wCut w wl wh) := fun ρ Q Q' EX h2 q =>
  h _ _ _ _ (fun d q => hl.mono _ _ _ _ (fun lo q => hh.mono _ _ _ _ (fun hi q => mono_cut d _ _ h2 q) q) q) q
theorem de_cut {w : WE} {wl wh : Env' → (Option Int → Prop) → EXn → Prop} {lo hi : Option Expr} {p2 : Pos} (h : DB p X e w) (hl : DO p X lo wl) (hh : DO p X hi wh) : DE p X (.Subscript e (.Slice lo hi none p2) pos) (wCut w wl wh) := by
  refine ⟨pe_use (pe_slice sl_D (pe_hk h.pe) hl.po hh.po) fun σ H Q hk ⟨ρ, O, EX, R, ex, hw⟩ => ⟨ρ, O, EX, R, ex, h.mono _ _ _ _ (fun d q v H1 hk1 e1 r1 _ => ⟨ρ, O, EX, R.ext' e1, ex, hl.mono _ _ _ _ (fun lo q H2 hk2 e2 => ⟨ρ, O, EX, (R.ext' e1).ext' e2, ex,
    hh.mono _ _ _ _ (fun hi q H3 hk3 e3 => ?_) q⟩) q⟩) hw⟩, mono_Cut h.mono hl hh⟩
  have r3 := (r1.ext e1.wd e2).ext e2.wd e3
  have e13 := (e1.trans e2).trans e3
  have ok := (R.ext' e13).ok hk3
  cases d <;> first | exact q.elim | skip
  · obtain ⟨l, vs, rfl, _, h1, r4⟩ := r3.list
    exact .inl ⟨l, vs, rfl, .of h1, fun c hc hk' => RF.list (RE.f ok (RE.to q e13)) ok hc (r4.cut lo hi) hk'⟩
  · obtain ⟨l, vs, rfl, h1, r4⟩ := r3.tuple
    refine .inr ⟨l, vs, rfl, h1, fun z hk' => ?_, fun _ c hc hk' => RE.tup (RE.to q e13) ok hc (r4.cut lo hi) hk'⟩
    have r5 := r4.cut lo hi
    rw [cut_whole z] at r5
    exact RE.now (RE.to q e13) ok (rep_tuple h1 r5)
theorem df_cut {w : WE} {wl wh : Env' → (Option Int → Prop) → EXn → Prop} {lo hi : Option Expr} {p2 : Pos} (h : DB p X e w) (hl : DO p X lo wl) (hh : DO p X hi wh) : DF p X (.Subscript e (.Slice lo hi none p2) pos) (fun ρ Q EX => wCut w wl wh ρ (fun d => (∃ xs, d = .list xs) ∧ Q d) EX) := by
  refine ⟨pe_use (pe_slice sl_D (pe_hk h.pe) hl.po hh.po) fun σ H Q hk ⟨ρ, O, EX, R, ex, hw⟩ => ⟨ρ, O, EX, R, ex, h.mono _ _ _ _ (fun d q v H1 hk1 e1 r1 _ => ⟨ρ, O, EX, R.ext' e1, ex, hl.mono _ _ _ _ (fun lo q H2 hk2 e2 => ⟨ρ, O, EX, (R.ext' e1).ext' e2, ex,
    hh.mono _ _ _ _ (fun hi q H3 hk3 e3 => ?_) q⟩) q⟩) hw⟩, fun ρ Q Q' EX h2 q => mono_Cut h.mono hl hh _ _ _ _ (fun d q => ⟨q.1, h2 _ q.2⟩) q⟩
  have r3 := (r1.ext e1.wd e2).ext e2.wd e3
  have e13 := (e1.trans e2).trans e3
  have ok := (R.ext' e13).ok hk3
  cases d <;> first | exact q.elim | skip
  · obtain ⟨l, vs, rfl, _, h1, r4⟩ := r3.list
    exact .inl ⟨l, vs, rfl, .of h1, fun c hc hk' => RF.list (RF.to q.2 e13) ok hc (r4.cut lo hi) hk'⟩
  · obtain ⟨⟨xs, z⟩, _⟩ := q
    cases z
def wRev (w : WE) : WE := fun ρ Q EX => w ρ (fun d => ∃ xs, d = .list xs ∧ Q (.list xs.reverse)) EX
theorem df_rev {w : WE} {k : Nat} {p1 p2 p3 : Pos} (h : DB p X e w) : DF p X (.Subscript e (.Slice none none (some (.UnaryOp .USub (.Constant (.int 1) k p1) p2)) p3) pos) (wRev w) :=
  ⟨pe_use (pe_revL h.pe) fun σ H Q hk ⟨ρ, O, EX, R, ex, hw⟩ => ⟨ρ, O, EX, R, ex, h.mono _ _ _ _ (fun d ⟨xs, z, q⟩ v H1 hk1 e1 r1 => by
    subst z
    obtain ⟨l, vs, rfl, _, h1, r2⟩ := r1.list
    exact ⟨l, vs, rfl, .of h1, fun c hc hk' => RF.list (q.to e1) ((R.ext' e1).ok hk1) hc r2.reverse hk'⟩) hw⟩, fun ρ Q Q' EX hh q => h.mono _ _ _ _ (fun d ⟨xs, z, q⟩ => ⟨xs, z, hh _ q⟩) q⟩
/-- unary minus -/
def wNeg (w : WE) : WE := fun ρ Q EX => w ρ (fun d => ∃ i, d = .int i ∧ Q (.int (-i))) EX
theorem de_neg {w : WE} (h : DB p X e w) : DE p X (.UnaryOp .USub e pos) (wNeg w) :=
  ⟨pe_use (pe_un un_neg h.pe) fun σ H Q hk ⟨ρ, O, EX, R, ex, hw⟩ => ⟨ρ, O, EX, R, ex, h.mono _ _ _ _ (fun d ⟨i, z, q⟩ v H1 hk1 e1 r1 => by
    subst z
    rw [r1.int]
    exact ⟨i, rfl, fun _ => q _ H1 hk1 e1 rep_int⟩) hw⟩, fun ρ Q Q' EX hh q => h.mono _ _ _ _ (fun d ⟨i, z, q⟩ => ⟨i, z, hh _ q⟩) q⟩
/-! ### isinstance -/
def tyD : D → String
  | .none => "NoneType"
  | .bool _ => "bool"
  | .int _ => "int"
  | .str _ => "str"
  | .list _ => "list"
  | .tuple _ => "tuple"
  | .dict _ => "dict"
end
end DD
set_option maxRecDepth 100000
set_option maxHeartbeats 2000000
/-! SemE: max, min of rows of ints (with default), isinstance. -/
namespace DD
open PySem PySem.Spec PyProof.Rows L2
/-! ### max, min -/
theorem reads_ints {h : Heap} : ∀ {ns : List Int} {us : List Value}, Vals (ns.map V.int) us → ReadsAll h us (ns.map PyData.int) []
  | [], _, .nil => .nil
  | n :: ns, _, .cons r t => by
    obtain ⟨k, rfl⟩ := r
    exact ReadsAll.cons (as := []) (bs := []) (.int n k) (reads_ints t)
theorem alike_ints (ns : List Int) : PySem.W.AlikeAll (ns.map PyData.int) := by
  refine ⟨fun x hx y hy => ?_, fun x hx => ?_⟩
  · obtain ⟨i, _, rfl⟩ := List.mem_map.mp hx
    obtain ⟨j, _, rfl⟩ := List.mem_map.mp hy
    rfl
  · obtain ⟨i, _, rfl⟩ := List.mem_map.mp hx
    simp
theorem depth_ints (ns : List Int) : PyData.depthAll (ns.map PyData.int) = 0 := by
  induction ns with
  | nil => rfl
  | cons n r ih => rw [List.map_cons, PyData.depthAll, ih]; rfl
def maxI (n : Int) (ns : List Int) : Int := ns.foldl max n
def minI (n : Int) (ns : List Int) : Int := ns.foldl min n
def rMM (K : PySem.W.Frag) (f : Int → List Int → Int) : List V → Hp → VK → Prop := fun vs H Q => ∃ (a : Addr) (n : Int) (ns : List Int), vs = [.ref a] ∧ (SqL K H a ((n :: ns).map V.int) ∨ SqT K H a ((n :: ns).map V.int)) ∧ Q (.int (f n ns)) H
/-- with default: a row that may be empty -/
def rMMd (K : PySem.W.Frag) (f : Int → List Int → Int) : List V → List V → Hp → VK → Prop := fun vs zs H Q => ∃ (a : Addr) (ns : List Int) (z : V), vs = [.ref a] ∧ zs = [z] ∧ (SqL K H a (ns.map V.int) ∨ SqT K H a (ns.map V.int)) ∧
  match ns with
  | [] => Q z H
  | n :: ns => Q (.int (f n ns)) H
section
variable {X : Cx}
theorem reads_int {h : Heap} {v : Value} {i : Int} {as : List Addr} (r : Reads h v (.int i) as) : ∃ t, v = .int i t := by
  cases r; exact ⟨_, rfl⟩
theorem cr_maxA (hc : X.calm = true) (hu : X.A.units + 64 < cLine) : CallR X (.builtin "max") (rMM X.K maxI) := by
  intro pins s σ H vs us Q I r h
  obtain ⟨a, n, ns, rfl, hs, q⟩ := h
  rw [Vals.ref1 r]
  rcases hs with hs | hs
  · obtain ⟨its, rv, hl, _⟩ := I.list hs
    refine PySem.W.max_list_data (I.ok.hd hc) hl.isList (x := .int n) (xs := ns.map PyData.int) (as := []) (by simpa using reads_ints rv) (alike_ints (n :: ns)) (by rw [show (PyData.int n :: ns.map PyData.int) = (n :: ns).map PyData.int from rfl, depth_ints]; omega) fun i v h' tk bs _ rd hk => ?_
    rw [PySem.W.maxD_ints] at rd
    obtain ⟨t, rfl⟩ := reads_int rd
    exact ⟨.int _, H, I.kept hk, ⟨_, rfl⟩, q⟩
  · obtain ⟨its, rv, hl, _⟩ := I.tuple hs
    refine PySem.W.max_tuple_data (I.ok.hd hc) hl (x := .int n) (xs := ns.map PyData.int) (as := []) (by simpa using reads_ints rv) (alike_ints (n :: ns)) (by rw [show (PyData.int n :: ns.map PyData.int) = (n :: ns).map PyData.int from rfl, depth_ints]; omega) fun i v h' tk bs _ rd hk => ?_
    rw [PySem.W.maxD_ints] at rd
    obtain ⟨t, rfl⟩ := reads_int rd
    exact ⟨.int _, H, I.kept hk, ⟨_, rfl⟩, q⟩
theorem cr_minA (hc : X.calm = true) (hu : X.A.units + 64 < cLine) : CallR X (.builtin "min") (rMM X.K minI) := by
  intro pins s σ H vs us Q I r h
  obtain ⟨a, n, ns, rfl, hs, q⟩ := h
  rw [Vals.ref1 r]
  rcases hs with hs | hs
  · obtain ⟨its, rv, hl, _⟩ := I.list hs
    refine PySem.W.min_list_data (I.ok.hd hc) hl.isList (x := .int n) (xs := ns.map PyData.int) (as := []) (by simpa using reads_ints rv) (alike_ints (n :: ns)) (by rw [show (PyData.int n :: ns.map PyData.int) = (n :: ns).map PyData.int from rfl, depth_ints]; omega) fun i v h' tk bs _ rd hk => ?_
    rw [PySem.W.minD_ints] at rd
    obtain ⟨t, rfl⟩ := reads_int rd
    exact ⟨.int _, H, I.kept hk, ⟨_, rfl⟩, q⟩
  · obtain ⟨its, rv, hl, _⟩ := I.tuple hs
    refine PySem.W.min_tuple_data (I.ok.hd hc) hl (x := .int n) (xs := ns.map PyData.int) (as := []) (by simpa using reads_ints rv) (alike_ints (n :: ns)) (by rw [show (PyData.int n :: ns.map PyData.int) = (n :: ns).map PyData.int from rfl, depth_ints]; omega) fun i v h' tk bs _ rd hk => ?_
    rw [PySem.W.minD_ints] at rd
    obtain ⟨t, rfl⟩ := reads_int rd
    exact ⟨.int _, H, I.kept hk, ⟨_, rfl⟩, q⟩
theorem crk_maxA (hc : X.calm = true) (hu : X.A.units + 64 < cLine) : CallRK X (.builtin "max") ["default"] (rMMd X.K maxI) := by
  intro pins s σ H vs zs us ws Q I r r' h
  obtain ⟨a, ns, z, rfl, rfl, hs, q⟩ := h
  rw [Vals.ref1 r]
  obtain ⟨w, rfl, rz⟩ := Vals.one r'
  show wpAny _ _ (call (.builtin "max") [.ref a] [(Str.ofString "default", w)]) _ _ _
  rcases hs with hs | hs
  · obtain ⟨its, rv, hl, _⟩ := I.list hs
    refine PySem.W.max_list_default (I.ok.hd hc) hl.isList (xs := ns.map PyData.int) (as := []) (by simpa using reads_ints rv) (alike_ints ns) (by rw [depth_ints]; omega) (fun e h' tk hk => ?_) fun y ys i v h' tk bs e _ rd hk => ?_
    · rw [List.map_eq_nil_iff] at e
      subst e
      exact ⟨z, H, I.kept hk, rz, q⟩
    · obtain ⟨n, ns', rfl, rfl, rfl⟩ := List.map_eq_cons_iff.mp e
      rw [PySem.W.maxD_ints] at rd
      obtain ⟨t, rfl⟩ := reads_int rd
      exact ⟨.int _, H, I.kept hk, ⟨_, rfl⟩, q⟩
  · obtain ⟨its, rv, hl, _⟩ := I.tuple hs
    refine PySem.W.max_tuple_default (I.ok.hd hc) hl (xs := ns.map PyData.int) (as := []) (by simpa using reads_ints rv) (alike_ints ns) (by rw [depth_ints]; omega) (fun e h' tk hk => ?_) fun y ys i v h' tk bs e _ rd hk => ?_
    · rw [List.map_eq_nil_iff] at e
      subst e
      exact ⟨z, H, I.kept hk, rz, q⟩
    · obtain ⟨n, ns', rfl, rfl, rfl⟩ := List.map_eq_cons_iff.mp e
      rw [PySem.W.maxD_ints] at rd
      obtain ⟨t, rfl⟩ := reads_int rd
      exact ⟨.int _, H, I.kept hk, ⟨_, rfl⟩, q⟩
end
section
variable {p : Par} {X : Cx} {pos : Pos} {e a b c : Expr}
def rowD : D → Option (List Int)
  | .list xs => intsD xs
  | .tuple xs => intsD xs
  | _ => none
def aBest (f : Int → List Int → Int) : F1 := fun d Q => ∃ n ns, rowD d = some (n :: ns) ∧ Q (.int (f n ns))
theorem row_of {O : Own} {H : Hp} {v : V} {d : D} {ns : List Int} (r : RepB p O H v d) (e : rowD d = some ns) : ∃ a, v = .ref a ∧ (SqL p.K H a (ns.map V.int) ∨ SqT p.K H a (ns.map V.int)) := by
  cases d <;> first | (exact absurd e (fun z => by cases z)) | skip
  · obtain ⟨l, vs, rfl, _, h1, r1⟩ := r.list
    rw [intsD_vals r1 e] at h1
    exact ⟨l, rfl, .inl (.of h1)⟩
  · obtain ⟨l, vs, rfl, h1, r1⟩ := r.tuple
    rw [intsD_vals r1 e] at h1
    exact ⟨l, rfl, .inr h1⟩
theorem n_best {f : Int → List Int → Int} : OpN p (f1 (aBest f)) (rMM p.K f) := by
  refine op1 (fun d Q Q' h ⟨n, ns, e, q⟩ => ⟨n, ns, e, h _ q⟩) fun O H x a Q ok r ⟨n, ns, e, q⟩ => ?_
  obtain ⟨l, rfl, hs⟩ := row_of r e
  exact ⟨l, n, ns, rfl, hs, fun _ => q.now ok rep_int⟩
abbrev aMaxR : F1 := aBest maxI
abbrev aMinR : F1 := aBest minI
/-- max(row, default=..) -/
def wMaxD (wa wb : WE) : WE := fun ρ Q EX => wa ρ (fun a => wb ρ (fun b => ∃ ns, rowD a = some ns ∧ match ns with
  | [] => Q b
  | n :: ns => Q (.int (maxI n ns))) EX) EX
theorem de_maxD {wa wb : WE} {q kpos : Pos} (hc : X.calm = true) (hu : X.A.units + 64 < cLine) (hm : X.mg "max" = none) (ha : DB p X a wa) (hb : DE p X b wb) (hg : Gl X "max" := by rfl)
    (he : backTo pos (starEach [a] X.env) = (false, eval a X.env) :: backTo pos (starEach [] X.env) := by rfl) (hpl : (backTo pos (starEach [a] X.env)).any (·.1) = false := by rfl) (hs : starEach [a] X.env = (false, eval a X.env) :: starEach [] X.env := by rfl)
    (hv : bootBuiltins "max" = some (.builtin "max") := by decide +kernel) : DE p X (.Call (.Name "max" q) [a] [⟨some "default", b, kpos⟩] pos) (wMaxD wa wb) := by
  refine ⟨pe_use (pe_callBK (crk_maxA hc hu) hg hm hv (pa_cons ha.pe pa_nil hs) (pk_cons (pe_hk hb.pe) pk_nil) (by decide) (by decide) he hpl (by rfl) (by rfl) (by rfl)) fun σ H Q hk ⟨ρ, O, EX, R, ex, hw⟩ => ?_, fun ρ Q Q' EX hh q => ha.mono _ _ _ _ (fun da q => hb.mono _ _ _ _ (fun db ⟨ns, e, q⟩ => ⟨ns, e, by
    cases ns with
    | nil => exact hh _ q
    | cons n ns => exact hh _ q⟩) q) q⟩
  refine ⟨ρ, O, EX, R, ex, ha.mono _ _ _ _ (fun da q v H1 hk1 e1 r1 => ⟨ρ, O, EX, R.ext' e1, ex, hb.mono _ _ _ _ (fun db ⟨ns, e, q⟩ u H2 hk2 e2 r2 _ => ?_) q⟩) hw⟩
  obtain ⟨l, rfl, hs⟩ := row_of (r1.ext e1.wd e2) e
  refine ⟨l, ns, u, rfl, rfl, hs, ?_⟩
  cases ns with
  | nil => exact fun _ => q u H2 hk2 (e1.trans e2) r2
  | cons n ns => exact fun _ => q _ H2 hk2 (e1.trans e2) rep_int
/-! ### isinstance -/
theorem ty_of {O : Own} {H : Hp} {v : V} {d : D} (hk : Hk p.K H) (r : RepB p O H v d) : TyX p.K H v (.type (tyD d)) := by
  cases d with
  | none => rw [r.none]; exact .base .non
  | bool b => rw [r.bool]; exact .base (.bl _)
  | int i => rw [r.int]; exact .base (.int _)
  | str y => rw [r.str]; exact .base (.str _)
  | list xs =>
    obtain ⟨l, vs, rfl, _, h1, r1⟩ := r.list
    exact .base (.lst h1)
  | tuple xs =>
    obtain ⟨l, vs, rfl, h1, r1⟩ := r.tuple
    rcases h1 with (h1 | ⟨o, h1⟩) | ⟨o, its, n, h1, h2, _⟩
    · exact .base (.tup h1)
    · exact .fTuple h1
    · exact .kTuple h1 h2
  | dict kvs =>
    obtain ⟨l, rfl, _, vs, _, h1⟩ := r.dict
    rcases h1 with ⟨ks, h1, _⟩ | ⟨ks, h1, _⟩
    · exact .base (.dK h1)
    · exact .base (.dT h1)
/-- is the data of the type -/
def isTy (T : String) (d : D) : Bool := tyD d == T || (T == "int" && tyD d == "bool")
def TyOk (T : String) : Bool := ["NoneType", "bool", "int", "str", "list", "tuple", "dict"].all fun t => kitB t T == some (t == T || (T == "int" && t == "bool"))
theorem kit_at {T : String} (h : TyOk T = true) (d : D) {K : PySem.W.Frag} : PySem.W.kitOne K (.type (tyD d)) (.type T) = some (isTy T d) := by
  unfold TyOk at h
  rw [List.all_eq_true] at h
  refine kit_ty (eq_of_beq (h (tyD d) ?_))
  cases d <;> simp [tyD]
def wIsi (T : String) (w : WE) : WE := fun ρ Q EX => w ρ (fun d => Q (.bool (isTy T d))) EX
theorem de_isi {w : WE} {T : String} {x : Str} {q q2 : Pos} (hm : X.mg "isinstance" = none) (hmT : X.mg x = none) (hT : bootBuiltins x = some (.type T)) (ok : TyOk T = true) (h : DB p X a w) (hg : Gl X "isinstance" := by rfl) (hgT : Gl X x := by rfl)
    (hn : x ≠ "__name__" := by decide) (hd : (x == ("__debug__" : Str)) = false := by decide) (hs : starEach [a, .Name x q2] X.env = (false, eval a X.env) :: starEach [.Name x q2] X.env := by rfl) (hs2 : starEach [.Name x q2] X.env = (false, eval (.Name x q2) X.env) :: starEach [] X.env := by rfl)
    (hpl : (backTo pos (starEach [.Name x q2] X.env)).any (·.1) = false := by rfl) (hv : bootBuiltins "isinstance" = some (.builtin "isinstance") := by decide +kernel) : DE p X (.Call (.Name "isinstance" q) [a, .Name x q2] [] pos) (wIsi T w) :=
  ⟨pe_use (pe_callB call_isi hg hm hv (pa_cons h.pe (pa_cons (pe_bltn (v := .ty T) hgT hmT hT rfl hn hd) pa_nil hs2) hs) (by decide) (by decide) hs hpl) fun σ H Q hk ⟨ρ, O, EX, R, ex, hw⟩ => ⟨ρ, O, EX, R, ex, h.mono _ _ _ _ (fun d q v H1 hk1 e1 r1 =>
    ⟨v, .ty T, _, _, _, rfl, .ty T, ty_of hk1 r1, kit_at ok d, fun _ => q _ H1 hk1 e1 rep_bool⟩) hw⟩, fun ρ Q Q' EX hh q => h.mono _ _ _ _ (fun d q => hh _ q) q⟩
/-- isinstance(x, (S, T)) -/
def wIsi2 (S T : String) (w : WE) : WE := fun ρ Q EX => w ρ (fun d => Q (.bool (isTy S d || isTy T d))) EX
theorem de_isi2 {w : WE} {S T : String} {x y : Str} {k : Nat} {q q1 q2 q3 : Pos} (hm : X.mg "isinstance" = none) (hmS : X.mg x = none) (hmT : X.mg y = none) (hS : bootBuiltins x = some (.type S)) (hT : bootBuiltins y = some (.type T)) (okS : TyOk S = true) (okT : TyOk T = true) (h : DB p X a w) (hg : Gl X "isinstance" := by rfl) (hgS : Gl X x := by rfl) (hgT : Gl X y := by rfl)
    (hnS : x ≠ "__name__" := by decide) (hdS : (x == ("__debug__" : Str)) = false := by decide) (hnT : y ≠ "__name__" := by decide) (hdT : (y == ("__debug__" : Str)) = false := by decide)
    (hs : starEach [a, .Tuple [.Name x q1, .Name y q2] k q3] X.env = (false, eval a X.env) :: starEach [.Tuple [.Name x q1, .Name y q2] k q3] X.env := by rfl) (hs2 : starEach [.Tuple [.Name x q1, .Name y q2] k q3] X.env = (false, eval (.Tuple [.Name x q1, .Name y q2] k q3) X.env) :: starEach [] X.env := by rfl)
    (hs3 : starEach [.Name x q1, .Name y q2] X.env = (false, eval (.Name x q1) X.env) :: starEach [.Name y q2] X.env := by rfl) (hs4 : starEach [.Name y q2] X.env = (false, eval (.Name y q2) X.env) :: starEach [] X.env := by rfl)
    (hpl : (backTo pos (starEach [.Tuple [.Name x q1, .Name y q2] k q3] X.env)).any (·.1) = false := by rfl) (hv : bootBuiltins "isinstance" = some (.builtin "isinstance") := by decide +kernel) : DE p X (.Call (.Name "isinstance" q) [a, .Tuple [.Name x q1, .Name y q2] k q3] [] pos) (wIsi2 S T w) := by
  refine ⟨pe_use (pe_callB call_isiT hg hm hv (pa_cons (pe_hk h.pe) (pa_cons (pe_hk (pe_tup (pa_cons (pe_bltn (v := .ty S) hgS hmS hS rfl hnS hdS) (pa_cons (pe_bltn (v := .ty T) hgT hmT hT rfl hnT hdT) pa_nil hs4) hs3))) pa_nil hs2) hs) (by decide) (by decide) hs hpl) fun σ H Q hk ⟨ρ, O, EX, R, ex, hw⟩ => ⟨ρ, O, EX, R, ex, h.mono _ _ _ _ (fun d q v H1 hk1 e1 r1 _ =>
    ⟨small_le (show 2 ≤ 1000 by decide), fun c hc hk2 => ?_⟩) hw⟩, fun ρ Q Q' EX hh q => h.mono _ _ _ _ (fun d q => hh _ q) q⟩
  have e2 := Ext.new (o := .tup [.ty S, .ty T]) e1.wd hc
  refine ⟨v, c, [.ty S, .ty T], _, [.type S, .type T], _, rfl, by unfold L2.upd; rw [if_pos rfl], .cons (.ty S) (.cons (.ty T) .nil), ty_of hk2 (r1.ext e1.wd e2), ?_, fun _ => q _ _ hk2 (e1.trans e2) rep_bool⟩
  refine kitAny_cons (b := isTy S d) (kit_at okS d) (fun z => ?_) (fun z => by rw [z]; rfl)
  rw [z, Bool.false_or]
  exact kitAny_cons (kit_at okT d) (fun z => by rw [z]; exact kitAny_nil) (fun z => z)
theorem ok_int : TyOk "int" = true := by decide +kernel
theorem ok_bool : TyOk "bool" = true := by decide +kernel
theorem ok_str : TyOk "str" = true := by decide +kernel
theorem ok_list : TyOk "list" = true := by decide +kernel
theorem ok_tuple : TyOk "tuple" = true := by decide +kernel
theorem ok_dict : TyOk "dict" = true := by decide +kernel
end
end DD
set_option maxRecDepth 100000
set_option maxHeartbeats 2000000
/-! SemF: statements without loops. -/
namespace DD
open PySem PySem.Spec PyProof.Rows L2
/-! ### states -/
section
variable {p : Par} {O : Own} {ρ : Env'} {σ : L2.St} {H H1 H2 : Hp}
/-- a slot's own object given away: it is data from now on -/
theorem Rel.freeze {i : Nat} {d : D} (R : Rel p O ρ σ H) (h : ρ[i]? = some (some (.own d))) : Rel p (clr O i) (ρ.set i (some (.d d))) σ H := by
  obtain ⟨a, ha, e1, r⟩ := R.slot i _ h
  obtain ⟨h0, nr, _, _, _⟩ := R.own i a ha
  have hn : NN p (clr O i) a := ⟨.inr h0, nr, fun j z => by
    unfold clr at z
    dsimp only at z
    split at z
    · cases z
    · rename_i hj; exact hj (R.inj j i a z ha)⟩
  have hs : σ = σ.set i (some (.ref a)) := by
    apply List.ext_getElem?
    intro j
    rw [List.getElem?_set]
    by_cases z : i = j
    · subst z
      rw [if_pos rfl, e1]
      have : i < σ.length := (List.getElem?_eq_some_iff.mp e1).1
      rw [if_pos this]
    · rw [if_neg z]
  have r2 := RepO.v (RepO.keep (keeps_clr i) rfl r) hn
  refine ⟨R.wd, R.ext, by rw [List.length_set]; exact R.len, fun j w hw => ?_, fun j k b hj hk => ?_, fun x hx => RepV.keep (keeps_clr i) x.2 x.1 (R.keep x hx), fun j b hj => ?_⟩
  · rw [List.getElem?_set] at hw
    by_cases z : i = j
    · subst z
      rw [if_pos rfl] at hw
      split at hw
      · cases hw
        exact ⟨_, e1, r2⟩
      · cases hw
    · rw [if_neg z] at hw
      have h := R.slot j w hw
      cases w with
      | d x => obtain ⟨v, e1, e2⟩ := h; exact ⟨v, e1, RepV.keep (keeps_clr i) x v e2⟩
      | own x =>
        obtain ⟨b, e1, e2, e3⟩ := h
        exact ⟨b, (if_neg (Ne.symm z)).trans e1, e2, RepO.keep (keeps_clr i) rfl e3⟩
      | row => exact h
  · unfold clr at hj hk
    dsimp only at hj hk
    split at hj
    · cases hj
    · split at hk
      · cases hk
      · exact R.inj j k b hj hk
  · unfold clr at hj
    dsimp only at hj
    split at hj
    · cases hj
    · exact R.own j b hj
/-- values kept in hand: taken up, laid down -/
theorem Rel.hold {ks : List (V × D)} (R : Rel p O ρ σ H) (h : ∀ x ∈ ks, RepV p.K (NN p O) H x.1 x.2) : Rel p ⟨O.fn, ks ++ O.ks⟩ ρ σ H :=
  ⟨R.wd, R.ext, R.len, R.slot, R.inj, fun x hx => (List.mem_append.mp hx).elim (fun z => h x z) (fun z => R.keep x z), R.own⟩
theorem Rel.drop {ks : List (V × D)} (R : Rel p O ρ σ H) (h : ∀ x ∈ ks, x ∈ O.ks) : Rel p ⟨O.fn, ks⟩ ρ σ H :=
  ⟨R.wd, R.ext, R.len, R.slot, R.inj, fun x hx => R.keep x (h x hx), R.own⟩
/-- an own object at the hidden place L goes to the slot i -/
def mv (O : Own) (i L : Nat) (a : Addr) : Own := ⟨fun j => if j = i then some a else if j = L then none else O j, O.ks⟩
theorem keeps_mv {i L : Nat} {a : Addr} (hL : O L = some a) : Keeps2 (NN p O) (NN p (mv O i L a)) H H := ⟨fun b n _ => ⟨n.1, n.2.1, fun j z => by
  unfold mv at z
  dsimp only at z
  split at z
  · cases z; exact n.2.2 L hL
  · split at z
    · cases z
    · exact n.2.2 j z⟩, fun _ _ _ e _ => e, fun _ _ e => e, fun _ _ _ e => e⟩
theorem Rel.move {i L : Nat} {a : Addr} {d : D} (R : Rel p O ρ σ H) (hL : O L = some a) (hl : ρ.length ≤ L) (r : RepO p.K (NN p O) H a d) : Rel p (mv O i L a) (ρ.set i (some (.own d))) (σ.set i (some (.ref a))) H := by
  refine ⟨R.wd, R.ext, by rw [List.length_set, List.length_set]; exact R.len, fun j w hw => ?_, fun j k b hj hk => ?_, fun x hx => RepV.keep (keeps_mv hL) x.2 x.1 (R.keep x hx), fun j b hj => ?_⟩
  · rw [List.getElem?_set] at hw ⊢
    by_cases z : i = j
    · subst z
      rw [if_pos rfl] at hw ⊢
      split at hw
      · rename_i hlt
        cases hw
        rw [if_pos (by rw [R.len]; exact hlt)]
        exact ⟨a, if_pos rfl, rfl, RepO.keep (keeps_mv hL) rfl r⟩
      · cases hw
    · rw [if_neg z] at hw ⊢
      have hj : j < ρ.length := (List.getElem?_eq_some_iff.mp hw).1
      have h := R.slot j w hw
      cases w with
      | d x => obtain ⟨v, e1, e2⟩ := h; exact ⟨v, e1, RepV.keep (keeps_mv hL) x v e2⟩
      | own x =>
        obtain ⟨b, e1, e2, e3⟩ := h
        refine ⟨b, ?_, e2, RepO.keep (keeps_mv hL) rfl e3⟩
        exact (if_neg (Ne.symm z)).trans ((if_neg (by omega)).trans e1)
      | row => exact h
  · unfold mv at hj hk
    dsimp only at hj hk
    split at hj
    · rename_i q
      cases hj
      split at hk
      · rename_i q2; rw [q, q2]
      · split at hk
        · cases hk
        · rename_i q3; exact absurd (R.inj k L _ hk hL) q3
    · split at hj
      · cases hj
      · rename_i q3
        split at hk
        · cases hk; exact absurd (R.inj j L _ hj hL) q3
        · split at hk
          · cases hk
          · exact R.inj j k b hj hk
  · unfold mv at hj
    dsimp only at hj
    split at hj
    · cases hj; exact R.own L _ hL
    · split at hj
      · cases hj
      · exact R.own j b hj
end
/-! ### posts of statements -/
section
variable {p : Par} {X : Cx} {pos : Pos} {e a b c : Expr} {st : Stmt} {sts : List Stmt}
/-- the ends over data, read over the heap -/
abbrev endsW (p : Par) (D : Ends) (ks : List (V × DD.D)) (EX : EXn) : EndsW where
  nx := fun ρ' => ∀ O' σ' H', O'.ks = ks → Hk p.K H' → Rel p O' ρ' σ' H' → D.nx σ' H'
  rt := fun d => ∀ v H', Hk p.K H' → Ext p p.H0 H' → RepV p.K (NN p noOwn) H' v d → D.rt v H'
  bk := fun ρ' => ∀ O' σ' H', O'.ks = ks → Hk p.K H' → Rel p O' ρ' σ' H' → D.bk σ' H'
  ct := fun ρ' => ∀ O' σ' H', O'.ks = ks → Hk p.K H' → Rel p O' ρ' σ' H' → D.ct σ' H'
  ex := EX
abbrev hkE (K : PySem.W.Frag) (D : Ends) : Ends := { nx := fun σ' H' => Hk K H' → D.nx σ' H', rt := fun v H' => Hk K H' → D.rt v H', bk := fun σ' H' => Hk K H' → D.bk σ' H', ct := fun σ' H' => Hk K H' → D.ct σ' H' }
theorem le_hk {D : Ends} {ks : List (V × DD.D)} {EX : EXn} : (endsW p D ks EX).le (endsW p (hkE p.K D) ks EX) :=
  ⟨fun _ q O' σ' H' ke hk' R' _ => q O' σ' H' ke hk' R', fun _ q v H' hk' e r _ => q v H' hk' e r, fun _ q O' σ' H' ke hk' R' _ => q O' σ' H' ke hk' R', fun _ q O' σ' H' ke hk' R' _ => q O' σ' H' ke hk' R', rfl⟩
theorem EndsW.le.refl {D : EndsW} : D.le D := ⟨fun _ h => h, fun _ h => h, fun _ h => h, fun _ h => h, rfl⟩
/-- ghost: slot i's own object is data from now on -/
def wFrz (i : Nat) (w : WS) : WS := fun D ρ => match ρ[i]? with
  | some (some (.own d)) => w D (ρ.set i (some (.d d)))
  | _ => False
theorem ds_frz {w : WS} (i : Nat) (h : DS p X st w) : DS p X st (wFrz i w) := by
  refine ⟨ps_use h.ps fun D σ H hk ⟨ρ, O, EX, R, ex, hw⟩ => ?_, fun D D' ρ hd q => ?_⟩
  · have hw2 : wFrz i w (endsW (p.at X.K) D O.ks EX) ρ := hw
    unfold wFrz at hw2
    split at hw2
    · rename_i d e
      exact ⟨_, _, EX, R.freeze e, ex, h.mono _ _ _ le_hk hw2⟩
    · exact hw2.elim
  · unfold wFrz at q ⊢
    split at q
    · exact h.mono _ _ _ hd q
    · exact q.elim
/-- ghost: slots forgotten -/
def wForget (i : Nat) (w : WS) : WS := fun D ρ => w D (ρ.set i none)
theorem ds_forget {w : WS} (i : Nat) (h : DS p X st w) : DS p X st (wForget i w) := by
  refine ⟨ps_use h.ps fun D σ H hk ⟨ρ, O, EX, R, ex, hw⟩ => ?_, fun D D' ρ hd q => h.mono _ _ _ hd q⟩
  exact ⟨_, O, EX, R.forget (ρ' := ρ.set i none) (by rw [List.length_set]) (fun j w hw => by
    rw [List.getElem?_set] at hw
    split at hw
    · split at hw <;> cases hw
    · exact hw), ex, h.mono _ _ _ le_hk hw⟩
def wSkip : WS := fun D ρ => D.nx ρ
def wNever : WS := fun _ _ => False
def wBreak : WS := fun D ρ => D.bk ρ
def wCont : WS := fun D ρ => D.ct ρ
def wSeq (w u : WS) : WS := fun D ρ => w { D with nx := u D } ρ
theorem ds_never : DS p X st wNever := ⟨⟨fun _ _ _ _ _ _ ⟨_, _, _, _, _, hw⟩ => hw.elim⟩, fun _ _ _ _ q => q⟩
theorem dss_never : DSs p X sts wNever := ⟨⟨fun _ _ _ _ _ _ ⟨_, _, _, _, _, hw⟩ => hw.elim⟩, fun _ _ _ _ q => q⟩
theorem ds_pass : DS p X (.Pass pos) wSkip := ⟨ps_use ps_pass fun D σ H hk ⟨ρ, O, EX, R, ex, hw⟩ => fun hk' => hw O σ H rfl hk' R, fun _ _ _ hd q => hd.nx _ q⟩
theorem ds_break : DS p X (.Break pos) wBreak := ⟨ps_use ps_break fun D σ H hk ⟨ρ, O, EX, R, ex, hw⟩ => fun hk' => hw O σ H rfl hk' R, fun _ _ _ hd q => hd.bk _ q⟩
theorem ds_continue : DS p X (.Continue pos) wCont := ⟨ps_use ps_continue fun D σ H hk ⟨ρ, O, EX, R, ex, hw⟩ => fun hk' => hw O σ H rfl hk' R, fun _ _ _ hd q => hd.ct _ q⟩
theorem dss_nil : DSs p X [] wSkip := ⟨pss_use pss_nil fun D σ H hk ⟨ρ, O, EX, R, ex, hw⟩ => fun hk' => hw O σ H rfl hk' R, fun _ _ _ hd q => hd.nx _ q⟩
theorem dss_cons {w u : WS} (h : DS p X st w) (t : DSs p X sts u) : DSs p X (st :: sts) (wSeq w u) := by
  refine ⟨pss_use (pss_cons h.ps t.ps) fun D σ H hk ⟨ρ, O, EX, R, ex, hw⟩ => ?_, fun D D' ρ hd q => ?_⟩
  · have hw2 : w { endsW (p.at X.K) D O.ks EX with nx := u (endsW (p.at X.K) D O.ks EX) } ρ := hw
    have key : ∀ ρ', u (endsW (p.at X.K) D O.ks EX) ρ' → ∀ O' σ' H', O'.ks = O.ks → Hk X.K H' → Rel (p.at X.K) O' ρ' σ' H' → LS (p.at X.K) u (hkE X.K D) σ' H' := fun ρ' q O' σ' H' ke hk' R' => by
      refine ⟨ρ', O', EX, R', ex, ?_⟩
      have q2 := t.mono (endsW (p.at X.K) D O.ks EX) (endsW (p.at X.K) (hkE X.K D) O.ks EX) ρ' le_hk q
      rw [← ke] at q2
      exact q2
    exact ⟨ρ, O, EX, R, ex, h.mono { endsW (p.at X.K) D O.ks EX with nx := u (endsW (p.at X.K) D O.ks EX) } (endsW (p.at X.K) { hkE X.K D with nx := LS (p.at X.K) u (hkE X.K D) } O.ks EX) ρ
      ⟨key, fun _ q v H' hk' e r _ => q v H' hk' e r, fun _ q O' σ' H' ke hk' R' _ => q O' σ' H' ke hk' R', fun _ q O' σ' H' ke hk' R' _ => q O' σ' H' ke hk' R', rfl⟩ hw2⟩
  · have q2 : w { D with nx := u D } ρ := q
    exact h.mono { D with nx := u D } { D' with nx := u D' } ρ ⟨fun ρ' q => t.mono _ _ _ hd q, hd.rt, hd.bk, hd.ct, hd.ex⟩ q2
theorem dss_one {w : WS} (h : DS p X st w) : DSs p X [st] w := ⟨pss_one h.ps, h.mono⟩
/-- an expression's statement -/
def wExpr (w : WE) : WS := fun D ρ => w ρ (fun _ => D.nx ρ) D.ex
theorem ds_expr {w : WE} (h : DB p X e w) (hs : swapsWith e none pos.line X.env = pure false := by rfl) : DS p X (.Expr e pos) (wExpr w) :=
  ⟨ps_use (ps_expr h.pe hs) fun D σ H hk ⟨ρ, O, EX, R, ex, hw⟩ => ⟨ρ, O, EX, R, ex, h.mono _ _ _ _ (fun d q v H1 hk1 e1 r1 hk' => q O σ H1 rfl hk' (R.ext' e1)) hw⟩, fun D D' ρ hd q => by
    unfold wExpr at q ⊢
    rw [← hd.ex]
    exact h.mono _ _ _ _ (fun _ q => hd.nx _ q) q⟩
def wRet (w : WE) : WS := fun D ρ => w ρ (fun d => D.rt d) D.ex
theorem NN.no {O : Own} {x : Addr} (h : NN p O x) : NN p noOwn x := ⟨h.1, h.2.1, fun i z => by cases z⟩
theorem keeps_no {O : Own} {H : Hp} : Keeps2 (NN p O) (NN p noOwn) H H := ⟨fun _ n _ => n.no, fun _ _ _ e _ => e, fun _ _ e => e, fun _ _ _ e => e⟩
theorem ds_ret {w : WE} (h : DE p X e w) : DS p X (.Return (some e) pos) (wRet w) :=
  ⟨ps_use (ps_ret h.pe) fun D σ H hk ⟨ρ, O, EX, R, ex, hw⟩ => ⟨ρ, O, EX, R, ex, h.mono _ _ _ _ (fun d q v H1 hk1 e1 r1 hk' => q v H1 hk' (R.ext.trans e1) (RepV.keep keeps_no d v r1)) hw⟩, fun D D' ρ hd q => by
    unfold wRet at q ⊢
    rw [← hd.ex]
    exact h.mono _ _ _ _ (fun _ q => hd.rt _ q) q⟩
def wRetN : WS := fun D _ => D.rt .none
theorem ds_retN : DS p X (.Return none pos) wRetN := ⟨ps_use ps_retN fun D σ H hk ⟨ρ, O, EX, R, ex, hw⟩ => fun hk' => hw _ H hk' R.ext rep_none, fun D D' ρ hd q => hd.rt _ q⟩
def wIfS (t : WT) (u v : WS) : WS := fun D ρ => t ρ (fun k => if k = true then u D ρ else v D ρ) D.ex
theorem ds_if {t : WT} {u v : WS} {s1 s2 : List Stmt} (h : DT p X c t) (h1 : DSs p X s1 u) (h2 : DSs p X s2 v) : DS p X (.If c s1 s2 pos) (wIfS t u v) := by
  refine ⟨ps_use (ps_if h.pt h1.ps h2.ps) fun D σ H hk ⟨ρ, O, EX, R, ex, hw⟩ => ?_, fun D D' ρ hd q => ?_⟩
  · refine ⟨ρ, O, EX, R, ex, h.mono _ _ _ _ (fun k q H1 hk1 e1 => ?_) hw⟩
    by_cases z : k = true
    · rw [if_pos z] at q ⊢
      exact ⟨ρ, O, EX, R.ext' e1, ex, h1.mono _ _ _ le_hk q⟩
    · rw [if_neg z] at q ⊢
      exact ⟨ρ, O, EX, R.ext' e1, ex, h2.mono _ _ _ le_hk q⟩
  · unfold wIfS at q ⊢
    rw [← hd.ex]
    refine h.mono _ _ _ _ (fun k q => ?_) q
    by_cases z : k = true
    · rw [if_pos z] at q ⊢; exact h1.mono _ _ _ hd q
    · rw [if_neg z] at q ⊢; exact h2.mono _ _ _ hd q
/-! ### assignments -/
def wSet (i : Nat) (w : WE) : WS := fun D ρ => w ρ (fun d => D.nx (ρ.set i (some (.d d)))) D.ex
def wSetO (i : Nat) (w : WE) : WS := fun D ρ => w ρ (fun d => D.nx (ρ.set i (some (.own d)))) D.ex
theorem mono_Set {i : Nat} {w : WE} (h : MonoE w) : MonoS (wSet i w) := fun D D' ρ hd q => by
  unfold wSet at q ⊢
  rw [← hd.ex]
  exact h _ _ _ _ (fun _ q => hd.nx _ q) q
theorem mono_SetO {i : Nat} {w : WE} (h : MonoE w) : MonoS (wSetO i w) := fun D D' ρ hd q => by
  unfold wSetO at q ⊢
  rw [← hd.ex]
  exact h _ _ _ _ (fun _ q => hd.nx _ q) q
theorem ds_set (i : Nat) {x : Str} {w : WE} {pos' : Pos} (h : DE p X e w) (hN : X.N.Nodup) (hi : X.N[i]? = some x := by rfl) (hx : Loc X.env.scope x := by first | exact .inl rfl | exact .inr rfl) (hs : swapsWith e (some (.Name x pos')) pos.line X.env = pure false := by rfl)
    (hf : X.fn x = true ∨ X.env.scope.names.lookup x = some .local := by first | exact .inl rfl | exact .inr rfl) : DS p X (.Assign [.Name x pos'] e pos) (wSet i w) :=
  ⟨ps_use (ps_set hN hi hx h.pe hs hf) fun D σ H hk ⟨ρ, O, EX, R, ex, hw⟩ => ⟨ρ, O, EX, R, ex, h.mono _ _ _ _ (fun d q v H1 hk1 e1 r1 hk' => q (clr O i) _ H1 rfl hk' ((R.ext' e1).set_d r1)) hw⟩, mono_Set h.mono⟩
theorem ds_setO (i : Nat) {x : Str} {w : WE} {pos' : Pos} (h : DF p X e w) (hN : X.N.Nodup) (hi : X.N[i]? = some x := by rfl) (hx : Loc X.env.scope x := by first | exact .inl rfl | exact .inr rfl) (hs : swapsWith e (some (.Name x pos')) pos.line X.env = pure false := by rfl)
    (hf : X.fn x = true ∨ X.env.scope.names.lookup x = some .local := by first | exact .inl rfl | exact .inr rfl) : DS p X (.Assign [.Name x pos'] e pos) (wSetO i w) :=
  ⟨ps_use (ps_set hN hi hx h.pe hs hf) fun D σ H hk ⟨ρ, O, EX, R, ex, hw⟩ => ⟨ρ, O, EX, R, ex, h.mono _ _ _ _ (fun d q a H1 hk1 e1 n r1 hk' => q (put O i a) _ H1 rfl hk' (R.set_own e1 n r1)) hw⟩, mono_SetO h.mono⟩
end
end DD
set_option maxRecDepth 100000
set_option maxHeartbeats 2000000
/-! SemG: several targets, stores into own lists. -/
namespace DD
open PySem PySem.Spec PyProof.Rows L2
/-! ### values that move into slots -/
inductive Mv where
  | d (x : D)
  | own (x : D)
def Mv.w : Mv → W
  | .d x => .d x
  | .own x => .own x
abbrev WMv := Env' → (List Mv → Prop) → EXn → Prop
def RepM (p : Par) (O : Own) (H : Hp) : Nat → List V → List Mv → Prop
  | _, [], [] => True
  | L, v :: vs, .d x :: ms => RepV p.K (NN p O) H v x ∧ RepM p O H (L + 1) vs ms
  | L, v :: vs, .own x :: ms => (∃ a, v = .ref a ∧ O L = some a ∧ RepO p.K (NN p O) H a x) ∧ RepM p O H (L + 1) vs ms
  | _, _, _ => False
def LM (p : Par) (L : Nat) (w : WMv) : TA := fun σ H Q => ∃ ρ O EX, Rel p O ρ σ H ∧ ExOk p EX ∧ ρ.length ≤ L ∧ (∀ j, L ≤ j → O j = none) ∧
  w ρ (fun ms => ∀ vs O' H', Hk p.K H' → O'.ks = O.ks → (∀ j, j < L → O' j = O j) → (∀ j a, O' j = some a → O j = some a ∨ H a = none) → Ext p H H' → Rel p O' ρ σ H' → RepM p O' H' L vs ms → Q vs H') EX
def MonoM (w : WMv) : Prop := ∀ ρ Q Q' EX, (∀ d, Q d → Q' d) → w ρ Q EX → w ρ Q' EX
structure DM (p : Par) (X : Cx) (es : List Expr) (w : WMv) : Prop where
  pa : ∀ L, PA X es (LM (p.at X.K) L w)
  mono : MonoM w
def wmNil : WMv := fun _ Q _ => Q []
def wmD (w : WE) (r : WMv) : WMv := fun ρ Q EX => w ρ (fun d => r ρ (fun ms => Q (.d d :: ms)) EX) EX
def wmO (w : WE) (r : WMv) : WMv := fun ρ Q EX => w ρ (fun d => r ρ (fun ms => Q (.own d :: ms)) EX) EX
section
variable {p : Par} {X : Cx} {pos : Pos} {e a b c : Expr} {es : List Expr} {st : Stmt} {sts : List Stmt}
theorem set_out {α : Type} {l : List α} {i : Nat} {x : α} (h : l.length ≤ i) : l.set i x = l := List.set_eq_of_length_le h
theorem keeps_more {O O' : Own} {H H' : Hp} (w : Wd p H) (e : Ext p H H') (h : ∀ j a, O' j = some a → O j = some a ∨ H a = none) : Keeps2 (NN p O) (NN p O') H H' :=
  Keeps2.of_ext e w (fun _ n => n.2.1) fun b n hb => ⟨n.1, n.2.1, fun j z => (h j b z).elim (n.2.2 j) hb⟩
theorem dm_nil : DM p X [] wmNil := ⟨fun L => pa_use pa_nil fun σ H Q hk ⟨ρ, O, EX, R, ex, hl, hO, hw⟩ => fun hk' => hw [] O H hk' rfl (fun _ _ => rfl) (fun _ _ z => .inl z) (Ext.refl R.wd) R trivial, fun _ _ _ _ h q => h _ q⟩
theorem dm_d {w : WE} {r : WMv} (h : DE p X e w) (t : DM p X es r) (hs : starEach (e :: es) X.env = (false, eval e X.env) :: starEach es X.env := by rfl) : DM p X (e :: es) (wmD w r) :=
  ⟨fun L => pa_use (pa_cons h.pe (t.pa (L + 1)) hs) fun σ H Q hk ⟨ρ, O, EX, R, ex, hl, hO, hw⟩ => ⟨ρ, O, EX, R, ex, h.mono _ _ _ _ (fun d q v H1 hk1 e1 r1 => ⟨ρ, O, EX, R.ext' e1, ex, by omega, fun j hj => hO j (by omega), t.mono _ _ _ _ (fun ms q vs O' H2 hk2 k1 k2 k3 e2 R2 r2 _ => by
    refine q (v :: vs) O' H2 hk2 k1 (fun j hj => k2 j (by omega)) (fun j a z => (k3 j a z).elim .inl fun n => .inr (e1.none n)) (e1.trans e2) R2 ⟨?_, r2⟩
    exact RepV.keep (keeps_more e1.wd e2 k3) d v r1) q⟩) hw⟩, fun ρ Q Q' EX hh q => h.mono _ _ _ _ (fun d q => t.mono _ _ _ _ (fun ms q => hh _ q) q) q⟩
theorem dm_o {w : WE} {r : WMv} (h : DF p X e w) (t : DM p X es r) (hs : starEach (e :: es) X.env = (false, eval e X.env) :: starEach es X.env := by rfl) : DM p X (e :: es) (wmO w r) := by
  refine ⟨fun L => pa_use (pa_cons h.pe (t.pa (L + 1)) hs) fun σ H Q hk ⟨ρ, O, EX, R, ex, hl, hO, hw⟩ => ⟨ρ, O, EX, R, ex, h.mono _ _ _ _ (fun d q c H1 hk1 e1 n r1 => ?_) hw⟩, fun ρ Q Q' EX hh q => h.mono _ _ _ _ (fun d q => t.mono _ _ _ _ (fun ms q => hh _ q) q) q⟩
  have R1 := R.set_own (i := L) e1 n r1
  rw [set_out hl, set_out (by rw [R.len]; exact hl)] at R1
  have rO : RepO (p.at X.K).K (NN (p.at X.K) (put O L c)) H1 c d := RepO.keep ⟨fun b n _ => ⟨n.1.1, n.1.2.1, fun j z => by
    unfold put at z
    dsimp only at z
    split at z
    · cases z; exact n.2 rfl
    · exact n.1.2.2 j z⟩, fun _ _ _ e _ => e, fun _ _ e => e, fun _ _ _ e => e⟩ rfl r1
  refine ⟨ρ, put O L c, EX, R1, ex, by omega, fun j hj => (if_neg (by omega)).trans (hO j (by omega)), t.mono _ _ _ _ (fun ms q vs O' H2 hk2 k1 k2 k3 e2 R2 r2 _ => ?_) q⟩
  have hcL : O' L = some c := (k2 L (by omega)).trans (if_pos rfl)
  obtain ⟨_, nr, _, hne, sf⟩ := R1.own L c (if_pos rfl)
  refine q (.ref c :: vs) O' H2 hk2 k1 (fun j hj => (k2 j (by omega)).trans (if_neg (by omega))) (fun j a z => ?_) (e1.trans e2) R2 ⟨⟨c, rfl, hcL, ?_⟩, r2⟩
  · rcases k3 j a z with z | z
    · unfold put at z
      dsimp only at z
      split at z
      · cases z; exact .inr n
      · exact .inl z
    · exact .inr (e1.none z)
  · refine RepO.keep (keeps_more e1.wd e2 k3) ?_ rO
    cases q : H1 c with
    | none => exact absurd q hne
    | some o => exact e2.ob c o q (fun ps z => by rw [q, z] at sf; exact sf) nr
/-- the slots take the values, from the left -/
def setAll (ρ : Env') : List Nat → List Mv → Env'
  | i :: is, m :: ms => setAll (ρ.set i (some m.w)) is ms
  | _, _ => ρ
def setAllV (σ : L2.St) : List Nat → List V → L2.St
  | i :: is, v :: vs => setAllV (σ.set i (some v)) is vs
  | _, _ => σ
theorem setAll_len : ∀ {is : List Nat} {ms : List Mv} {ρ : Env'}, (setAll ρ is ms).length = ρ.length
  | [], _, _ => by simp [setAll]
  | _ :: _, [], _ => by simp [setAll]
  | i :: is, m :: ms, ρ => by
    show (setAll (ρ.set i (some m.w)) is ms).length = _
    rw [setAll_len, List.length_set]
theorem repM_keep {O O' : Own} {H H' : Hp} (hN : Keeps2 (NN p O) (NN p O') H H') : ∀ {L : Nat} {vs : List V} {ms : List Mv}, (∀ j a, L ≤ j → O j = some a → O' j = some a ∧ H' a = H a) → RepM p O H L vs ms → RepM p O' H' L vs ms
  | _, [], [], _, _ => trivial
  | L, v :: vs, .d x :: ms, hO, h => ⟨RepV.keep hN x v h.1, repM_keep hN (fun j a hj => hO j a (by omega)) h.2⟩
  | L, v :: vs, .own x :: ms, hO, h => by
    obtain ⟨a, e1, e2, e3⟩ := h.1
    exact ⟨⟨a, e1, (hO L a (Nat.le_refl _) e2).1, RepO.keep hN (hO L a (Nat.le_refl _) e2).2 e3⟩, repM_keep hN (fun j a hj => hO j a (by omega)) h.2⟩
  | _, [], _ :: _, _, h => h.elim
  | _, _ :: _, [], _, h => h.elim
theorem moves {σ : L2.St} {H : Hp} : ∀ {is : List Nat} {L : Nat} {vs : List V} {ms : List Mv} {O : Own} {ρ : Env'} {σ : L2.St}, Rel p O ρ σ H → RepM p O H L vs ms → ρ.length ≤ L → (∀ i ∈ is, i < ρ.length) → is.length = ms.length →
    ∃ O2, O2.ks = O.ks ∧ Rel p O2 (setAll ρ is ms) (setAllV σ is vs) H
  | [], _, [], [], O, ρ, σ, R, _, _, _, _ => ⟨O, rfl, R⟩
  | i :: is, L, v :: vs, .d x :: ms, O, ρ, σ, R, h, hl, hi, hn => by
    have hi1 : i < ρ.length := hi i (List.mem_cons_self ..)
    obtain ⟨O2, k2, R2⟩ := moves (σ := σ) (is := is) (L := L + 1) (R.set_d (i := i) h.1) (repM_keep (keeps_clr i) (fun j a hj z => ⟨(if_neg (by omega)).trans z, rfl⟩) h.2) (by rw [List.length_set]; omega) (fun j hj => by rw [List.length_set]; exact hi j (List.mem_cons_of_mem _ hj)) (by simpa using hn)
    exact ⟨O2, k2, R2⟩
  | i :: is, L, v :: vs, .own x :: ms, O, ρ, σ, R, h, hl, hi, hn => by
    have hi1 : i < ρ.length := hi i (List.mem_cons_self ..)
    obtain ⟨⟨a, rfl, hL, r⟩, t⟩ := h
    obtain ⟨O2, k2, R2⟩ := moves (σ := σ) (is := is) (L := L + 1) (R.move (i := i) hL hl r) (repM_keep (keeps_mv hL) (fun j a hj z => ⟨(if_neg (by omega)).trans ((if_neg (by omega)).trans z), rfl⟩) t) (by rw [List.length_set]; omega) (fun j hj => by rw [List.length_set]; exact hi j (List.mem_cons_of_mem _ hj)) (by simpa using hn)
    exact ⟨O2, k2, R2⟩
  | [], _, _ :: _, _ :: _, _, _, _, _, _, _, _, hn => by simp at hn
  | _ :: _, _, [], [], _, _, _, _, _, _, _, hn => by simp at hn
  | _, _, [], _ :: _, _, _, _, _, h, _, _, _ => h.elim
  | _, _, _ :: _, [], _, _, _, _, h, _, _, _ => h.elim
def wPar (is : List Nat) (w : WMv) : WS := fun D ρ => w ρ (fun ms => is.length = ms.length ∧ (∀ i ∈ is, i < ρ.length) ∧ D.nx (setAll ρ is ms)) D.ex
theorem mono_Par {is : List Nat} {w : WMv} (h : MonoM w) : MonoS (wPar is w) := fun D D' ρ hd q => by
  unfold wPar at q ⊢
  rw [← hd.ex]
  exact h _ _ _ _ (fun ms q => ⟨q.1, q.2.1, hd.nx _ q.2.2⟩) q
/-- no hidden objects: a place for them -/
theorem Rel.clean {O : Own} {ρ : Env'} {σ : L2.St} {H : Hp} (R : Rel p O ρ σ H) : ∃ O', O'.ks = O.ks ∧ (∀ j, ρ.length ≤ j → O' j = none) ∧ (∀ a, NN p O a → NN p O' a) ∧ Rel p O' ρ σ H := by
  let O' : Own := ⟨fun j => if j < ρ.length then O j else none, O.ks⟩
  have sub : ∀ j a, O' j = some a → O j = some a := fun j a z => by
    have z2 : (if j < ρ.length then O j else none) = some a := z
    split at z2
    · exact z2
    · cases z2
  have nn : ∀ a, NN p O a → NN p O' a := fun a n => ⟨n.1, n.2.1, fun j z => n.2.2 j (sub j a z)⟩
  have kk : Keeps2 (NN p O) (NN p O') H H := ⟨fun a n _ => nn a n, fun _ _ _ e _ => e, fun _ _ e => e, fun _ _ _ e => e⟩
  refine ⟨O', rfl, fun j hj => if_neg (by omega), nn, R.wd, R.ext, R.len, fun i w hw => ?_, fun i j a h h' => R.inj i j a (sub i a h) (sub j a h'), fun x hx => RepV.keep kk x.2 x.1 (R.keep x hx), fun i a h => R.own i a (sub i a h)⟩
  have h := R.slot i w hw
  have hi : i < ρ.length := (List.getElem?_eq_some_iff.mp hw).1
  cases w with
  | d x => obtain ⟨v, e1, e2⟩ := h; exact ⟨v, e1, RepV.keep kk x v e2⟩
  | own x =>
    obtain ⟨b, e1, e2, e3⟩ := h
    exact ⟨b, (if_pos hi).trans e1, e2, RepO.keep kk rfl e3⟩
  | row => exact h
theorem par_run {is : List Nat} {w : WMv} (h : DM p X es w) {σ : L2.St} {H : Hp} {O : Own} {ρ : Env'} {EX : EXn} {N : Env' → Prop} {Q : List V → Hp → Prop} (R : Rel (p.at X.K) O ρ σ H) (ex : ExOk (p.at X.K) EX)
    (hw : w ρ (fun ms => is.length = ms.length ∧ (∀ i ∈ is, i < ρ.length) ∧ N (setAll ρ is ms)) EX)
    (hQ : ∀ ρ' vs H', Hk X.K H' → Wd (p.at X.K) H' → vs.length = is.length → N ρ' → (∀ H'', Ext (p.at X.K) H' H'' → ∃ O2, O2.ks = O.ks ∧ Rel (p.at X.K) O2 ρ' (setAllV σ is vs) H'') → Q vs H') : LM (p.at X.K) ρ.length w σ H Q := by
  obtain ⟨O1, k1, hO1, _, R1⟩ := R.clean
  refine ⟨ρ, O1, EX, R1, ex, Nat.le_refl _, hO1, h.mono _ _ _ _ (fun ms ⟨hn, hi, q⟩ vs O' H' hk' ke k2 k3 e1 R2 r2 => ?_) hw⟩
  have hlen : ∀ {L : Nat} {vs : List V} {ms : List Mv}, RepM (p.at X.K) O' H' L vs ms → vs.length = ms.length := by
    intro L vs
    induction vs generalizing L with
    | nil => intro ms h; cases ms with
      | nil => rfl
      | cons m ms => exact h.elim
    | cons v vs ih => intro ms h; cases ms with
      | nil => exact h.elim
      | cons m ms => cases m with
        | d x => rw [List.length_cons, List.length_cons, ih h.2]
        | own x => rw [List.length_cons, List.length_cons, ih h.2]
  refine hQ _ vs H' hk' e1.wd (by rw [hlen r2, hn]) q fun H'' e2 => ?_
  have r3 : RepM (p.at X.K) O' H'' ρ.length vs ms := repM_keep (Keeps2.of_ext e2 R2.wd (fun _ n => n.2.1) fun _ n _ => n) (fun j a _ z => ⟨z, by
    obtain ⟨_, nr, _, hne, sf⟩ := R2.own j a z
    cases q : H' a with
    | none => exact absurd q hne
    | some o => exact e2.ob a o q (fun ps z => by rw [q, z] at sf; exact sf) nr⟩) r2
  obtain ⟨O2, k3, R3⟩ := moves (σ := σ) (R2.ext' e2) r3 (Nat.le_refl _) hi hn
  exact ⟨O2, k3.trans (ke.trans k1), R3⟩
theorem ds_par2 (i j : Nat) {x y : Str} {w : WMv} {px py pt : Pos} {kt k2 : Nat} {pt2 : Pos} (h : DM p X [a, b] w) (hc : X.calm = true) (hN : X.N.Nodup)
    (hw : swappedStores [.Tuple [.Name x px, .Name y py] kt pt] (.Tuple [a, b] k2 pt2) X.env = pure (some [x, y])) (hi : X.N[i]? = some x := by rfl) (hj : X.N[j]? = some y := by rfl) (hij : i ≠ j := by decide)
    (hx : X.env.scope.names.lookup x = some .local := by rfl) (hy : X.env.scope.names.lookup y = some .local := by rfl)
    (hs : swapsWithSole [.Tuple [.Name x px, .Name y py] kt pt] (.Tuple [a, b] k2 pt2) pos.line X.env = pure false := by rfl) : DS p X (.Assign [.Tuple [.Name x px, .Name y py] kt pt] (.Tuple [a, b] k2 pt2) pos) (wPar [i, j] w) := by
  refine ⟨⟨fun pins s σ H D I ht => ?_⟩, mono_Par h.mono⟩
  obtain ⟨ρ, O, EX, R, ex, hwp⟩ := ht
  refine (ps_par hc hN hi hj hij hx hy (h.pa ρ.length) hw hs).run pins s σ H D I ?_
  refine par_run (is := [i, j]) (N := (endsW (p.at X.K) D O.ks EX).nx) h R ex hwp fun ρ' vs H' hk' wd' hl q m => ?_
  match vs, hl with
  | [v, w], _ =>
    obtain ⟨O2, k2, R2⟩ := m H' (Ext.refl wd')
    exact ⟨v, w, rfl, q O2 _ H' k2 hk' R2⟩
theorem ds_par3 (i j l : Nat) {x y z : Str} {w : WMv} {px py pz pt : Pos} {kt k2 : Nat} {pt2 : Pos} (h : DM p X [a, b, c] w) (hc : X.calm = true) (hN : X.N.Nodup)
    (hw : swappedStores [.Tuple [.Name x px, .Name y py, .Name z pz] kt pt] (.Tuple [a, b, c] k2 pt2) X.env = pure (some [x, y, z])) (hi : X.N[i]? = some x := by rfl) (hj : X.N[j]? = some y := by rfl) (hl : X.N[l]? = some z := by rfl) (hij : i ≠ j := by decide) (hil : i ≠ l := by decide) (hjl : j ≠ l := by decide)
    (hx : X.env.scope.names.lookup x = some .local := by rfl) (hy : X.env.scope.names.lookup y = some .local := by rfl) (hz : X.env.scope.names.lookup z = some .local := by rfl)
    (hs : swapsWithSole [.Tuple [.Name x px, .Name y py, .Name z pz] kt pt] (.Tuple [a, b, c] k2 pt2) pos.line X.env = pure false := by rfl) : DS p X (.Assign [.Tuple [.Name x px, .Name y py, .Name z pz] kt pt] (.Tuple [a, b, c] k2 pt2) pos) (wPar [i, j, l] w) := by
  refine ⟨⟨fun pins s σ H D I ht => ?_⟩, mono_Par h.mono⟩
  obtain ⟨ρ, O, EX, R, ex, hwp⟩ := ht
  refine (ps_par3 hc hN hi hj hl hij hil hjl hx hy hz (h.pa ρ.length) hw hs).run pins s σ H D I ?_
  refine par_run (is := [i, j, l]) (N := (endsW (p.at X.K) D O.ks EX).nx) h R ex hwp fun ρ' vs H' hk' wd' hl q m => ?_
  match vs, hl with
  | [v, w, u], _ =>
    obtain ⟨O2, k2, R2⟩ := m H' (Ext.refl wd')
    exact ⟨v, w, u, rfl, q O2 _ H' k2 hk' R2⟩
/-- names as targets, one after another -/
inductive PNs (X : Cx) : List Nat → List Expr → Prop
  | nil : PNs X [] []
  | cons {i : Nat} {x : Str} {is : List Nat} {es : List Expr} {q : Pos} (hi : X.N[i]? = some x) (hx : Loc X.env.scope x) (hf : X.fn x = true ∨ X.env.scope.names.lookup x = some .local) (hs : (assignEach (.Name x q :: es) X.env).map (·.2) = assign (.Name x q) X.env :: (assignEach es X.env).map (·.2)) (t : PNs X is es) : PNs X (i :: is) (.Name x q :: es)
def gNames : List Nat → TGs
  | [] => gNil
  | i :: is => gCons (gName i) (gNames is)
theorem pgs_names (hN : X.N.Nodup) : ∀ {is : List Nat} {es : List Expr}, PNs X is es → PGs X es (gNames is)
  | _, _, .nil => pgs_nil
  | _, _, .cons hi hx hf hs t => pgs_cons (pg_name hN hi hx hf) (pgs_names hN t) hs
theorem names_run : ∀ {is : List Nat} {vs : List V} {σ : L2.St} {H : Hp} {Q : L2.St → Hp → Prop}, vs.length = is.length → Q (setAllV σ is vs) H → gNames is vs σ H Q
  | [], [], _, _, _, _, q => ⟨rfl, q⟩
  | i :: is, v :: vs, σ, H, Q, hl, q => ⟨v, vs, rfl, names_run (by simpa using hl) q⟩
  | [], _ :: _, _, _, _, hl, _ => by simp at hl
  | _ :: _, [], _, _, _, hl, _ => by simp at hl
theorem ds_parN {is : List Nat} {ts : List Expr} {w : WMv} {pt : Pos} {kt k2 n : Nat} {pt2 : Pos} (h : DM p X es w) (hc : X.calm = true) (hN : X.N.Nodup) (pn : PNs X is ts) (hn : is.length ≤ 1000 := by decide) (hlen : (assignEach ts X.env).length = is.length := by rfl) (hst : (assignEach ts X.env).findIdx? (·.1) = none := by rfl)
    (hs : swapsWithSole [.Tuple ts kt pt] (.Tuple es k2 pt2) pos.line X.env = pure false := by rfl) (hw : swappedStores [.Tuple ts kt pt] (.Tuple es k2 pt2) X.env = pure none := by rfl) (h1 : (assignEach [.Tuple ts kt pt] X.env).map (·.2) = [assign (.Tuple ts kt pt) X.env] := by rfl) :
    DS p X (.Assign [.Tuple ts kt pt] (.Tuple es k2 pt2) pos) (wPar is w) := by
  refine ⟨⟨fun pins s σ H D I ht => ?_⟩, mono_Par h.mono⟩
  obtain ⟨ρ, O, EX, R, ex, hwp⟩ := ht
  have tup := pe_hk (X := X) (pe_tup (x1 := k2) (pos := pt2) (h.pa ρ.length))
  refine (ps_asg tup (pg_tup (k := kt) (pos := pt) hc (pgs_names hN pn) hlen hst) hs hw h1).run pins s σ H D I ?_
  refine par_run (is := is) (N := (endsW (p.at X.K) D O.ks EX).nx) h R ex hwp fun ρ' vs H' hk' wd' hl q m => ⟨by rw [hl]; exact small_le hn, fun c hc hk2 => ?_⟩
  obtain ⟨O2, k2, R2⟩ := m _ (Ext.new (o := .tup vs) wd' hc)
  exact ⟨c, vs, rfl, .of (by unfold L2.upd; rw [if_pos rfl]), hl, names_run hl (q O2 _ _ k2 hk2 R2)⟩
/-! ### targets that take plain data apart -/
abbrev WG := D → Env' → (Env' → Prop) → Prop
abbrev WGs := List D → Env' → (Env' → Prop) → Prop
def MonoG (g : WG) : Prop := ∀ d ρ Q Q', (∀ ρ, Q ρ → Q' ρ) → g d ρ Q → g d ρ Q'
/-- ix: the slots that may change -/
def LG (p : Par) (ix : List Nat) (g : WG) : TG := fun v σ H Q => ∃ ρ O d, Rel p O ρ σ H ∧ RepV p.K (NN p O) H v d ∧ g d ρ (fun ρ' => ∀ O' σ', O'.ks = O.ks → (∀ j, O' j = O j ∨ (j ∈ ix ∧ O' j = none)) → (∀ j, j ∉ ix → σ'[j]? = σ[j]?) → σ'.length = σ.length → Rel p O' ρ' σ' H → Q σ' H)
def LGs (p : Par) (ix : List Nat) (g : WGs) : TGs := fun vs σ H Q => ∃ ρ O ds, Rel p O ρ σ H ∧ RepAll p.K (NN p O) H vs ds ∧ g ds ρ (fun ρ' => ∀ O' σ', O'.ks = O.ks → (∀ j, O' j = O j ∨ (j ∈ ix ∧ O' j = none)) → (∀ j, j ∉ ix → σ'[j]? = σ[j]?) → σ'.length = σ.length → Rel p O' ρ' σ' H → Q σ' H)
theorem nn_less {O O' : Own} {ix : List Nat} {a : Addr} (h : ∀ j, O' j = O j ∨ (j ∈ ix ∧ O' j = none)) (n : NN p O a) : NN p O' a := ⟨n.1, n.2.1, fun j z => by
  rcases h j with y | ⟨_, y⟩
  · exact n.2.2 j (y.symm.trans z)
  · rw [y] at z; cases z⟩
structure DG (p : Par) (X : Cx) (e : Expr) (ix : List Nat) (g : WG) : Prop where
  pg : PG X e (LG (p.at X.K) ix g)
  mono : MonoG g
structure DGs (p : Par) (X : Cx) (es : List Expr) (ix : List Nat) (g : WGs) : Prop where
  pg : PGs X es (LGs (p.at X.K) ix g)
  mono : ∀ d ρ Q Q', (∀ ρ, Q ρ → Q' ρ) → g d ρ Q → g d ρ Q'
def wgName (i : Nat) : WG := fun d ρ Q => Q (ρ.set i (some (.d d)))
def wgNil : WGs := fun ds ρ Q => ds = [] ∧ Q ρ
def wgCons (g : WG) (u : WGs) : WGs := fun ds ρ Q => ∃ d r, ds = d :: r ∧ g d ρ (fun ρ' => u r ρ' Q)
def wgTup (n : Nat) (u : WGs) : WG := fun d ρ Q => ∃ ds, d = .tuple ds ∧ ds.length = n ∧ u ds ρ Q
theorem pg_imp {t t' : TG} (h : PG X e t) (imp : ∀ v σ H Q, t' v σ H Q → t v σ H Q) : PG X e t' := ⟨fun pins s σ H v u Q I r ht => h.run pins s σ H v u Q I r (imp _ _ _ _ ht)⟩
theorem pgs_imp {t t' : TGs} (h : PGs X es t) (imp : ∀ v σ H Q, t' v σ H Q → t v σ H Q) : PGs X es t' := ⟨fun pins s σ H v u Q I r ht => h.run pins s σ H v u Q I r (imp _ _ _ _ ht)⟩
theorem dg_name (i : Nat) {x : Str} (hN : X.N.Nodup) (hi : X.N[i]? = some x := by rfl) (hx : Loc X.env.scope x := by first | exact .inl rfl | exact .inr rfl) (hf : X.fn x = true ∨ X.env.scope.names.lookup x = some .local := by first | exact .inl rfl | exact .inr rfl) : DG p X (.Name x pos) [i] (wgName i) :=
  ⟨pg_imp (pg_name hN hi hx hf) fun v σ H Q ⟨ρ, O, d, R, r, hw⟩ => hw (clr O i) _ rfl (fun j => by
      by_cases z : j = i
      · exact .inr ⟨by rw [z]; exact List.mem_singleton.mpr rfl, if_pos z⟩
      · exact .inl (if_neg z)) (fun j hj => by
    rw [List.getElem?_set_ne (fun z => hj (by rw [z]; exact List.mem_singleton.mpr rfl))]) (List.length_set ..) (R.set_d r), fun d ρ Q Q' h q => h _ q⟩
theorem dgs_nil : DGs p X [] [] wgNil := ⟨pgs_imp pgs_nil fun v σ H Q ⟨ρ, O, ds, R, r, e, hw⟩ => by
    subst e
    cases v with
    | nil => exact ⟨rfl, hw O σ rfl (fun _ => .inl rfl) (fun _ _ => rfl) rfl R⟩
    | cons v vs => simp [RepAll] at r, fun d ρ Q Q' h q => ⟨q.1, h _ q.2⟩⟩
theorem dgs_cons {ix ix2 : List Nat} {g : WG} {u : WGs} (h : DG p X e ix g) (t : DGs p X es ix2 u) (hs : (assignEach (e :: es) X.env).map (·.2) = assign e X.env :: (assignEach es X.env).map (·.2) := by rfl) : DGs p X (e :: es) (ix ++ ix2) (wgCons g u) := by
  refine ⟨pgs_imp (pgs_cons h.pg t.pg hs) fun v σ H Q ⟨ρ, O, ds, R, r, hw⟩ => ?_, fun d ρ Q Q' hh ⟨d1, r, z, q⟩ => ⟨d1, r, z, h.mono _ _ _ _ (fun ρ q => t.mono _ _ _ _ hh q) q⟩⟩
  obtain ⟨d, ds', rfl, hw⟩ := hw
  cases v with
  | nil => simp [RepAll] at r
  | cons v vs =>
    rw [RepAll] at r
    refine ⟨v, vs, rfl, ρ, O, d, R, r.1, h.mono _ _ _ _ (fun ρ' q O' σ' k1 n1 s1 l1 R1 => ?_) hw⟩
    refine ⟨ρ', O', ds', R1, RepAll.keep ⟨fun a n _ => nn_less n1 n, fun _ _ _ e _ => e, fun _ _ e => e, fun _ _ _ e => e⟩ ds' vs r.2, t.mono _ _ _ _ (fun ρ2 q O2 σ2 k2 n2 s2 l2 R2 => ?_) q⟩
    exact q O2 σ2 (k2.trans k1) (fun j => by
      rcases n2 j with z | ⟨z, z2⟩
      · rcases n1 j with y | ⟨y, y2⟩
        · exact .inl (z.trans y)
        · exact .inr ⟨List.mem_append_left _ y, z.trans y2⟩
      · exact .inr ⟨List.mem_append_right _ z, z2⟩) (fun j hj => by
      rw [List.mem_append, not_or] at hj
      exact (s2 j hj.2).trans (s1 j hj.1)) (l2.trans l1) R2
theorem dg_tup {ix : List Nat} {u : WGs} {k n : Nat} (hc : X.calm = true) (h : DGs p X es ix u) (hn : (assignEach es X.env).length = n := by rfl) (hst : (assignEach es X.env).findIdx? (·.1) = none := by rfl) : DG p X (.Tuple es k pos) ix (wgTup n u) := by
  refine ⟨pg_imp (pg_tup hc h.pg hn hst) fun v σ H Q ⟨ρ, O, d, R, r, ds, e, hl, hw⟩ => ?_, fun d ρ Q Q' hh ⟨ds, e, hl, q⟩ => ⟨ds, e, hl, h.mono _ _ _ _ hh q⟩⟩
  subst e
  rw [RepV] at r
  obtain ⟨a, vs, rfl, h1, r⟩ := r
  exact ⟨a, vs, rfl, h1, by rw [r.length, hl], ρ, O, ds, R, r, hw⟩
/-- target = value, plain data -/
def wAsg (w : WE) (g : WG) : WS := fun D ρ => w ρ (fun d => g d ρ D.nx) D.ex
theorem ds_asg {tg : Expr} {w : WE} {ix : List Nat} {g : WG} (h : DE p X e w) (hg : DG p X tg ix g) (hs : swapsWithSole [tg] e pos.line X.env = pure false := by rfl) (hw : swappedStores [tg] e X.env = pure none := by rfl)
    (h1 : (assignEach [tg] X.env).map (·.2) = [assign tg X.env] := by rfl) : DS p X (.Assign [tg] e pos) (wAsg w g) :=
  ⟨⟨fun pins s σ H D I ⟨ρ, O, EX, R, ex, hwp⟩ => (ps_asg (pe_hk h.pe) hg.pg hs hw h1).run pins s σ H D I ⟨ρ, O, EX, R, ex, h.mono _ _ _ _ (fun d q v H1 hk1 e1 r1 hk2 => ⟨ρ, O, d, R.ext' e1, r1, hg.mono _ _ _ _ (fun ρ' q O' σ' k1 _ _ _ R1 => q O' σ' H1 k1 hk1 R1) q⟩) hwp⟩⟩,
    fun D D' ρ hd q => by
      unfold wAsg at q ⊢
      rw [← hd.ex]
      exact h.mono _ _ _ _ (fun d q => hg.mono _ _ _ _ hd.nx q) q⟩
end
end DD
set_option maxRecDepth 100000
set_option maxHeartbeats 2000000
/-! SemH: own lists written, iterators, for, while. -/
namespace DD
open PySem PySem.Spec PyProof.Rows L2
section
variable {p : Par} {X : Cx} {pos : Pos} {e a b c : Expr} {es : List Expr} {st : Stmt} {sts : List Stmt}
/-! ### own lists written -/
theorem own_list {O : Own} {ρ : Env'} {σ : L2.St} {H : Hp} {i : Nat} {xs : List D} (R : Rel p O ρ σ H) (h : ρ[i]? = some (some (.own (.list xs)))) : ∃ a vs, O i = some a ∧ σ[i]? = some (some (.ref a)) ∧ H a = some (.lst vs) ∧ RepAll p.K (NN p O) H vs xs := by
  obtain ⟨a, ha, e1, vs, h1, r⟩ := R.slot i _ h
  exact ⟨a, vs, ha, e1, h1, r⟩
theorem own_write {O : Own} {ρ : Env'} {σ : L2.St} {H : Hp} {i : Nat} {a : Addr} {xs ys : List D} {ws : List V} (R : Rel p O ρ σ H) (h : ρ[i]? = some (some (.own (.list xs)))) (ha : O i = some a) (r : RepAll p.K (NN p O) H ws ys) : Rel p O (ρ.set i (some (.own (.list ys)))) σ (upd H a (.lst ws)) := by
  refine R.write h ha trivial ⟨ws, by unfold L2.upd; rw [if_pos rfl], RepAll.keep ⟨fun _ n _ => n, fun b ob n e _ => ?_, fun b xs e => ?_, fun b ob xs e => ?_⟩ ys ws r⟩
  · rw [upd_ne (fun z => n.2.2 i (by rw [z]; exact ha))]; exact e
  · have sf := (R.own i a ha).2.2.2.2
    rw [upd_ne (fun z => by rw [← z, e] at sf; exact sf)]; exact e
  · have sf := (R.own i a ha).2.2.2.2
    rw [upd_ne (fun z => by rw [← z, e] at sf; exact sf)]; exact e
def ownL (ρ : Env') (i : Nat) (k : List D → Prop) : Prop := match ρ[i]? with
  | some (some (.own (.list xs))) => k xs
  | _ => False
theorem ownL_iff {ρ : Env'} {i : Nat} {k : List D → Prop} (h : ownL ρ i k) : ∃ xs, ρ[i]? = some (some (.own (.list xs))) ∧ k xs := by
  unfold ownL at h
  split at h
  · rename_i xs e; exact ⟨xs, e, h⟩
  · exact h.elim
theorem ownL_of {ρ : Env'} {i : Nat} {k : List D → Prop} {xs : List D} (e : ρ[i]? = some (some (.own (.list xs)))) (h : k xs) : ownL ρ i k := by
  unfold ownL
  rw [e]
  exact h
theorem ownL_mono {ρ : Env'} {i : Nat} {k k' : List D → Prop} (h : ∀ xs, k xs → k' xs) (q : ownL ρ i k) : ownL ρ i k' := by
  obtain ⟨xs, e, q⟩ := ownL_iff q
  exact ownL_of e (h xs q)
/-- x.append(e) -/
def wApp (i : Nat) (w : WE) : WS := fun D ρ => ownL ρ i fun xs => w ρ (fun d => xs.length < sizeLine ∧ D.nx (ρ.set i (some (.own (.list (xs ++ [d])))))) D.ex
theorem ds_app (i : Nat) {x : Str} {w : WE} {p1 p2 p3 : Pos} (h : DE p X e w) (hN : X.N[i]? = some x := by rfl) (hv : Vis X.env.scope x := by first | exact .inl rfl | exact .inr (.inl rfl) | exact .inr (.inr rfl)) (hd : (x == ("__debug__" : Str)) = false := by decide) (hcd : (x == ("__classdict__" : Str)) = false := by decide)
    (hbase : attributeBase (.Name x p1) "append" X.env (eval (.Name x p1) X.env) = eval (.Name x p1) X.env := by rfl)
    (hfew : ((backTo p3 (starEach [e] X.env)).all (fun x => !x.1) && (backToKw p3 (keywordEach [] X.env)).all (fun x => x.1.isSome) && decide ([e].length + ([] : List Keyword).length + (if ([] : List Keyword).isEmpty then 0 else 1) < 30)) = true := by rfl)
    (hline : (p2.endLine == p3.line) = true := by rfl) (hs : starEach [e] X.env = (false, eval e X.env) :: starEach [] X.env := by rfl) (hplain : (backTo p3 (starEach [] X.env)).any (·.1) = false := by rfl)
    (hsw : swapsWith (.Call (.Attribute (.Name x p1) "append" p2) [e] [] p3) none pos.line X.env = pure false := by rfl) : DS p X (.Expr (.Call (.Attribute (.Name x p1) "append" p2) [e] [] p3) pos) (wApp i w) := by
  have hm : MtR X "list.append" rAppend := mt_append
  refine ⟨ps_use (ps_expr (pe_bm PySem.F.plainAttrs_list PySem.F.slot_list_append PySem.F.type_list_append hm (pe_hk (pe_var (i := i) hN hv hd hcd)) (pa_cons (pe_hk h.pe) pa_nil hs) hbase hfew hline hs hplain) hsw) fun D σ H hk ⟨ρ, O, EX, R, ex, hw⟩ => ?_, fun D D' ρ hd q => ?_⟩
  · obtain ⟨xs, hx, hw⟩ := ownL_iff (show ownL ρ i _ from hw)
    obtain ⟨l, vs, hO, hσ, hH, r⟩ := own_list R hx
    refine ⟨_, hσ, fun _ => ⟨.inl ⟨rfl, vs, .of hH⟩, ρ, O, EX, R, ex, h.mono _ _ _ _ (fun d ⟨hl, q⟩ v H1 hk1 e1 r1 _ => ?_) hw⟩⟩
    have R1 := R.ext' e1
    obtain ⟨l', vs', hO', _, hH', r'⟩ := own_list R1 hx
    rw [hO] at hO'
    cases hO'
    exact ⟨l, vs', v, rfl, rfl, hH', by rw [r'.length]; exact hl, fun hk' => q O σ _ rfl hk' (own_write R1 hx hO (r'.append (rall_cons r1 rall_nil)))⟩
  · unfold wApp at q ⊢
    rw [← hd.ex]
    exact ownL_mono (fun xs q => h.mono _ _ _ _ (fun d q => ⟨q.1, hd.nx _ q.2⟩) q) q
/-- x.extend(a list) -/
def wExt (i : Nat) (w : WE) : WS := fun D ρ => ownL ρ i fun xs => w ρ (fun d => ∃ ys, d = .list ys ∧ xs.length + ys.length ≤ sizeLine ∧ D.nx (ρ.set i (some (.own (.list (xs ++ ys)))))) D.ex
theorem ds_ext (i : Nat) {x : Str} {w : WE} {p1 p2 p3 : Pos} (h : DE p X e w) (hN : X.N[i]? = some x := by rfl) (hv : Vis X.env.scope x := by first | exact .inl rfl | exact .inr (.inl rfl) | exact .inr (.inr rfl)) (hd : (x == ("__debug__" : Str)) = false := by decide) (hcd : (x == ("__classdict__" : Str)) = false := by decide)
    (hbase : attributeBase (.Name x p1) "extend" X.env (eval (.Name x p1) X.env) = eval (.Name x p1) X.env := by rfl)
    (hfew : ((backTo p3 (starEach [e] X.env)).all (fun x => !x.1) && (backToKw p3 (keywordEach [] X.env)).all (fun x => x.1.isSome) && decide ([e].length + ([] : List Keyword).length + (if ([] : List Keyword).isEmpty then 0 else 1) < 30)) = true := by rfl)
    (hline : (p2.endLine == p3.line) = true := by rfl) (hs : starEach [e] X.env = (false, eval e X.env) :: starEach [] X.env := by rfl) (hplain : (backTo p3 (starEach [] X.env)).any (·.1) = false := by rfl)
    (hsw : swapsWith (.Call (.Attribute (.Name x p1) "extend" p2) [e] [] p3) none pos.line X.env = pure false := by rfl) : DS p X (.Expr (.Call (.Attribute (.Name x p1) "extend" p2) [e] [] p3) pos) (wExt i w) := by
  have hm : MtR X "list.extend" rExtend := mt_extend
  refine ⟨ps_use (ps_expr (pe_bm PySem.F.plainAttrs_list PySem.F.slot_list_extend PySem.F.type_list_extend hm (pe_hk (pe_var (i := i) hN hv hd hcd)) (pa_cons (pe_hk h.pe) pa_nil hs) hbase hfew hline hs hplain) hsw) fun D σ H hk ⟨ρ, O, EX, R, ex, hw⟩ => ?_, fun D D' ρ hd q => ?_⟩
  · obtain ⟨xs, hx, hw⟩ := ownL_iff (show ownL ρ i _ from hw)
    obtain ⟨l, vs, hO, hσ, hH, r⟩ := own_list R hx
    refine ⟨_, hσ, fun _ => ⟨.inl ⟨rfl, vs, .of hH⟩, ρ, O, EX, R, ex, h.mono _ _ _ _ (fun d ⟨ys, z, hl, q⟩ v H1 hk1 e1 r1 _ => ?_) hw⟩⟩
    subst z
    have R1 := R.ext' e1
    obtain ⟨l', vs', hO', _, hH', r'⟩ := own_list R1 hx
    rw [hO] at hO'
    cases hO'
    obtain ⟨b, ws, rfl, _, hB, r2⟩ := r1.b.list
    exact ⟨l, b, vs', ws, rfl, rfl, hH', hB, by rw [r'.length, r2.length]; exact hl, fun hk' => q O σ _ rfl hk' (own_write R1 hx hO (r'.append r2))⟩
  · unfold wExt at q ⊢
    rw [← hd.ex]
    exact ownL_mono (fun xs q => h.mono _ _ _ _ (fun d ⟨ys, z, hl, q⟩ => ⟨ys, z, hl, hd.nx _ q⟩) q) q
/-- x[j] = e -/
def wPut (i : Nat) (wj w : WE) : WS := fun D ρ => ownL ρ i fun xs => w ρ (fun d => wj ρ (fun j => ∃ k m, j = .int k ∧ ixN xs.length k = some m ∧ D.nx (ρ.set i (some (.own (.list (xs.set m d)))))) D.ex) D.ex
theorem ds_put (i : Nat) {x : Str} {w wj : WE} {p1 p2 : Pos} (h : DE p X e w) (hj : DE p X a wj) (hN : X.N[i]? = some x := by rfl) (hv : Vis X.env.scope x := by first | exact .inl rfl | exact .inr (.inl rfl) | exact .inr (.inr rfl)) (hd : (x == ("__debug__" : Str)) = false := by decide) (hcd : (x == ("__classdict__" : Str)) = false := by decide)
    (ha : ∀ v, assign (.Subscript (.Name x p1) a p2) X.env v = (do
      let ov ← holding [v] (eval (.Name x p1) X.env)
      let iv ← holding [v, ov] (eval a X.env)
      standAt p2
      holding [v, ov, iv] (setItem ov iv v)
      release [v, ov, iv] []) := by intro _; rfl)
    (hs : swapsWithSole [.Subscript (.Name x p1) a p2] e pos.line X.env = pure false := by rfl) (hw : swappedStores [.Subscript (.Name x p1) a p2] e X.env = pure none := by rfl) (h1 : (assignEach [.Subscript (.Name x p1) a p2] X.env).map (·.2) = [assign (.Subscript (.Name x p1) a p2) X.env] := by rfl) :
    DS p X (.Assign [.Subscript (.Name x p1) a p2] e pos) (wPut i wj w) := by
  refine ⟨ps_use (ps_asg (pe_hk h.pe) (pg_sub (pe_var (i := i) hN hv hd hcd) (pe_hk hj.pe) set_list ha) hs hw h1) fun D σ H hk ⟨ρ, O, EX, R, ex, hw⟩ => ?_, fun D D' ρ hd q => ?_⟩
  · obtain ⟨xs, hx, hw⟩ := ownL_iff (show ownL ρ i _ from hw)
    refine ⟨ρ, O, EX, R, ex, h.mono _ _ _ _ (fun d q v H1 hk1 e1 r1 _ => ?_) hw⟩
    obtain ⟨l, vs, hO, hσ, hH, r⟩ := own_list (R.ext' e1) hx
    refine ⟨_, hσ, ρ, O, EX, R.ext' e1, ex, hj.mono _ _ _ _ (fun j ⟨k, m, z, hm, q⟩ u H2 hk2 e2 r2 _ => ?_) q⟩
    subst z
    obtain ⟨l', vs', hO', _, hH', r'⟩ := own_list ((R.ext' e1).ext' e2) hx
    rw [hO] at hO'
    cases hO'
    rw [r2.b.int]
    exact ⟨l, vs', k, m, rfl, rfl, hH', by rw [r'.length]; exact hm, fun hk' => q O σ _ rfl hk' (own_write ((R.ext' e1).ext' e2) hx hO (r'.set m (r1.ext e2 e1.wd)))⟩
  · unfold wPut at q ⊢
    rw [← hd.ex]
    exact ownL_mono (fun xs q => h.mono _ _ _ _ (fun d q => hj.mono _ _ _ _ (fun j ⟨k, m, z, hm, q⟩ => ⟨k, m, z, hm, hd.nx _ q⟩) q) q) q
/-- x op= e of plain data -/
def InR (X : Cx) (op : Operator) (r : R2) : Prop := OpR X (inplaceOp op) r
structure Ip (X : Cx) (p : Par) (op : Operator) (f : F2) (r : R2) : Prop where
  op : PIp X op (fun x y H Q => r x y H fun v H' => Hk X.K H' → Q v H')
  ok : Op2 (p.at X.K) f r
theorem pip_of {op : Operator} {r : R2} (h : OpR X (inplaceOp op) r) : PIp X op (fun x y H Q => r x y H fun v H' => Hk X.K H' → Q v H') := fun pins s σ H x y v u Q I rx ry hq =>
  thn (h pins s σ H x y v u _ I rx ry hq) fun _ _ ⟨z, H', I', r', q⟩ => ⟨z, H', I', r', q (hk_of I')⟩
theorem ip_addI : Ip X p .Add (aI0 fun i j => i + j) (rI0 fun i j => .int (i + j)) := ⟨pip_of iop_add, o_int0⟩
theorem ip_subI : Ip X p .Sub (aI0 fun i j => i - j) (rI0 fun i j => .int (i - j)) := ⟨pip_of iop_sub, o_int0⟩
theorem ip_mulI : Ip X p .Mult (aI CMul fun i j => i * j) (rI CMul fun i j => .int (i * j)) := ⟨pip_of iop_mul, o_int⟩
theorem ip_fdivI : Ip X p .FloorDiv aFdiv (rI CDiv fun i j => .int (i / j)) := ⟨pip_of iop_fdiv, o_int⟩
theorem ip_orI : Ip X p .BitOr aOr (rI0 fun i j => .int (Builtin.bitOr i j)) := ⟨pip_of iop_or, o_int0⟩
def plainAt (ρ : Env') (i : Nat) (k : D → Prop) : Prop := match ρ[i]? with
  | some (some (.d d)) => k d
  | _ => False
theorem plainAt_iff {ρ : Env'} {i : Nat} {k : D → Prop} (h : plainAt ρ i k) : ∃ d, ρ[i]? = some (some (.d d)) ∧ k d := by
  unfold plainAt at h
  split at h
  · rename_i xs e; exact ⟨xs, e, h⟩
  · exact h.elim
theorem plainAt_of {ρ : Env'} {i : Nat} {k : D → Prop} {d : D} (e : ρ[i]? = some (some (.d d))) (h : k d) : plainAt ρ i k := by
  unfold plainAt
  rw [e]
  exact h
def wAug (i : Nat) (f : F2) (w : WE) : WS := fun D ρ => plainAt ρ i fun d => w ρ (fun y => f d y fun z => D.nx (ρ.set i (some (.d z)))) D.ex
theorem ds_aug (i : Nat) {x : Str} {op : Operator} {w : WE} {f : F2} {r : R2} {p1 : Pos} (ip : Ip X p op f r) (h : DB p X e w) (hN : X.N.Nodup) (hi : X.N[i]? = some x := by rfl) (hx : Loc X.env.scope x := by first | exact .inl rfl | exact .inr rfl)
    (hf : X.fn x = true ∨ X.env.scope.names.lookup x = some .local := by first | exact .inl rfl | exact .inr rfl) : DS p X (.AugAssign (.Name x p1) op e pos) (wAug i f w) := by
  refine ⟨ps_use (ps_aug hN hi hx h.pe ip.op hf) fun D σ H hk ⟨ρ, O, EX, R, ex, hw⟩ => ?_, fun D D' ρ hd q => ?_⟩
  · obtain ⟨d, hx, hw⟩ := plainAt_iff (show plainAt ρ i _ from hw)
    obtain ⟨v, hσ, rv⟩ := R.slot i _ hx
    refine ⟨v, hσ, ρ, O, EX, R, ex, h.mono _ _ _ _ (fun y q u H1 hk1 e1 r1 => ?_) hw⟩
    exact ip.ok.ok O H1 v u d y (fun z H2 => Hk X.K H2 → D.nx (σ.set i (some z)) H2) ((R.ext' e1).ok hk1) ((rv.ext e1 R.wd).b) r1 (ip.ok.mono _ _ _ _ (fun z q v' H2 hk2 e2 r2 hk' => q (clr O i) _ H2 rfl hk' (((R.ext' e1).ext' e2).set_d r2)) q)
  · unfold wAug at q ⊢
    rw [← hd.ex]
    obtain ⟨d, hx, q⟩ := plainAt_iff q
    exact plainAt_of hx (h.mono _ _ _ _ (fun y q => ip.ok.mono _ _ _ _ (fun z q => hd.nx _ q) q) q)
/-- x[j] op= e, x an own list -/
def wAugS (i : Nat) (f : F2) (wj w : WE) : WS := fun D ρ => ownL ρ i fun xs => wj ρ (fun j => ∃ k m d, j = .int k ∧ ixN xs.length k = some m ∧ xs[m]? = some d ∧ w ρ (fun y => f d y fun z => D.nx (ρ.set i (some (.own (.list (xs.set m z)))))) D.ex) D.ex
theorem pget_list : PGet X (rIxL X.K) := by
  intro pins s σ H x y v u Q I rx ry h
  obtain ⟨p, xs, i, z, rfl, rfl, hq, he, q⟩ := h
  cases rx
  obtain ⟨t, rfl⟩ := ry
  obtain ⟨its, r, pl, hz⟩ := I.list hq
  obtain ⟨j, h1, h2, h3, h4, h5⟩ := atI_get he
  obtain ⟨w, ew, rw'⟩ := r.get h2
  have hl := r.length
  have hn := line63
  have fin : EP X pins σ Q w s := ⟨z, H, I, rw', q⟩
  by_cases h0 : 0 ≤ i
  · have hj : i.toNat = j := by
      rw [seqIndex_of h0 h5] at h1
      exact Option.some.inj h1
    exact wpAny_getItem_list pl.isList h0 (by omega) (by rw [hj]; simpa using ew) fin
  · have hj : (i + (its.toArray.size : Int)).toNat = j := by
      rw [seqIndex_neg (by omega) h4] at h1
      rw [List.size_toArray, ← hl]
      exact Option.some.inj h1
    exact wpAny_getItem_list_neg pl.isList (by omega) (by rw [List.size_toArray] <;> omega) (by omega) (by rw [hj]; simpa using ew) fin
theorem ds_augS (i : Nat) {x : Str} {op : Operator} {w wj : WE} {f : F2} {r : R2} {p1 p2 : Pos} (ip : Ip X p op f r) (h : DB p X e w) (hj : DE p X a wj) (hN : X.N[i]? = some x := by rfl) (hv : Vis X.env.scope x := by first | exact .inl rfl | exact .inr (.inl rfl) | exact .inr (.inr rfl)) (hd : (x == ("__debug__" : Str)) = false := by decide) (hcd : (x == ("__classdict__" : Str)) = false := by decide)
    (ha : ∀ ov iv new, augStore a ov iv new = (do holding [new, ov, iv] (setItem ov iv new); release [new, ov, iv] []; pure .next) := by intros; rfl) : DS p X (.AugAssign (.Subscript (.Name x p1) a p2) op e pos) (wAugS i f wj w) := by
  refine ⟨ps_use (ps_augS (pe_var (i := i) hN hv hd hcd) (pe_hk hj.pe) pget_list (pe_hk h.pe) ip.op set_list ha) fun D σ H hk ⟨ρ, O, EX, R, ex, hw⟩ => ?_, fun D D' ρ hd q => ?_⟩
  · obtain ⟨xs, hx, hw⟩ := ownL_iff (show ownL ρ i _ from hw)
    obtain ⟨l, vs, hO, hσ, hH, r0⟩ := own_list R hx
    refine ⟨_, hσ, ρ, O, EX, R, ex, hj.mono _ _ _ _ (fun j ⟨k, m, d, z, hm, hd, q⟩ u H1 hk1 e1 r1 _ => ?_) hw⟩
    subst z
    rw [r1.b.int]
    obtain ⟨l', vs', hO', _, hH', r'⟩ := own_list (R.ext' e1) hx
    rw [hO] at hO'
    cases hO'
    obtain ⟨v, hv', rv⟩ := r'.get hd
    refine ⟨l, vs', k, v, rfl, rfl, .of hH', by unfold atI; rw [r'.length, hm]; exact hv', ρ, O, EX, R.ext' e1, ex, h.mono _ _ _ _ (fun y q w' H2 hk2 e2 r2 _ => ?_) q⟩
    refine ip.ok.ok O H2 v w' d y _ (((R.ext' e1).ext' e2).ok hk2) ((rv.ext e2 e1.wd).b) r2 (ip.ok.mono _ _ _ _ (fun z q v' H3 hk3 e3 r3 => ?_) q)
    have R3 := ((R.ext' e1).ext' e2).ext' e3
    obtain ⟨l2, vs2, hO2, _, hH2, r4⟩ := own_list R3 hx
    rw [hO] at hO2
    cases hO2
    exact ⟨l, vs2, k, m, rfl, rfl, hH2, by rw [r4.length]; exact hm, fun hk' => q O σ _ rfl hk' (own_write R3 hx hO (r4.set m r3))⟩
  · unfold wAugS at q ⊢
    rw [← hd.ex]
    exact ownL_mono (fun xs q => hj.mono _ _ _ _ (fun j ⟨k, m, d, z, hm, he, q⟩ => ⟨k, m, d, z, hm, he, h.mono _ _ _ _ (fun y q => ip.ok.mono _ _ _ _ (fun z q => hd.nx _ q) q) q⟩) q) q
end
end DD
set_option maxRecDepth 100000
set_option maxHeartbeats 2000000
/-! SemI: iterators, for, while. -/
namespace DD
open PySem PySem.Spec PyProof.Rows L2
/-- held: data, or with the outermost object one's own -/
def hold (b : Bool) (p : Par) (O : Own) (H : Hp) (v : V) (d : D) : Prop := match b with
  | true => RepB p O H v d
  | false => RepV p.K (NN p O) H v d
theorem hold_b {b : Bool} {p : Par} {O : Own} {H : Hp} {v : V} {d : D} (h : hold b p O H v d) : RepB p O H v d := by
  cases b with
  | true => exact h
  | false => exact RepV.b h
theorem hold_ext {b : Bool} {p : Par} {O : Own} {H H' : Hp} {v : V} {d : D} (w : Wd p H) (e : Ext p H H') (h : hold b p O H v d) : hold b p O H' v d := by
  cases b with
  | true => exact RepB.ext w e h
  | false => exact RepV.ext e w h
abbrev WI := Env' → (List D → Prop) → EXn → Prop
structure Ok0 (p : Par) (O : Own) (H : Hp) : Prop where
  wd : Wd p H
  fr : ∀ a, H a = none → NN p O a
theorem Rel.ok0 {p : Par} {O : Own} {ρ : Env'} {σ : L2.St} {H : Hp} (R : Rel p O ρ σ H) : Ok0 p O H := ⟨R.wd, fun _ h => R.fresh0 h⟩
/-- J walks over the data, so long as ks is held -/
def ItOk (p : Par) (ds : List D) (J : It) (ks : List (V × D)) : Prop := ∀ O H i, Ok0 p O H → (∀ x ∈ ks, RepB p O H x.1 x.2) →
  (ds.length ≤ i → J.stop i H) ∧ ∀ d, ds[i]? = some d → J.go i H ∧ ∀ x H', J.yld i H x H' → Ext p H H' ∧ RepV p.K (NN p O) H' x d
def LI (b : Bool) (p : Par) (w : WI) : TI := fun σ H R => At p σ H fun O ρ EX => w ρ (fun ds => ∀ J H' ks, Hk p.K H' → Ext p H H' → (∀ x ∈ ks, hold b p O H' x.1 x.2) → ItOk p ds J ks → R J H') EX
structure DI (b : Bool) (p : Par) (X : Cx) (tg e : Expr) (w : WI) : Prop where
  pi : PI X tg e (LI b (p.at X.K) w)
  mono : MonoA w
/-- one value, held -/
structure DH (b : Bool) (p : Par) (X : Cx) (e : Expr) (w : WE) : Prop where
  pe : PE X e (fun σ H Q => At (p.at X.K) σ H fun O ρ EX => w ρ (fun d => ∀ v H', Hk X.K H' → Ext (p.at X.K) H H' → hold b (p.at X.K) O H' v d → Q v H') EX)
  mono : MonoE w
section
variable {b0 : Bool} {p : Par} {X : Cx} {pos : Pos} {tg e a b c : Expr} {es : List Expr} {st : Stmt} {sts : List Stmt}
theorem DE.h {w : WE} (h : DE p X e w) : DH false p X e w := ⟨h.pe, h.mono⟩
theorem DB.h {w : WE} (h : DB p X e w) : DH true p X e w := ⟨h.pe, h.mono⟩
theorem DI.bor {w : WI} (h : DI false p X tg e w) : DI true p X tg e w :=
  ⟨⟨fun pins s σ H R I ⟨ρ, O, EX, Rl, ex, hw⟩ => h.pi.run pins s σ H R I ⟨ρ, O, EX, Rl, ex, h.mono _ _ _ _ (fun ds q J H' ks hk e hh it => q J H' ks hk e (fun x hx => (hh x hx).b) it) hw⟩⟩, h.mono⟩
theorem pi_use {t t' : TI} (h : PI X tg e t) (imp : ∀ σ H R, Hk X.K H → t' σ H R → t σ H R) : PI X tg e t' := ⟨fun pins s σ H R I ht => h.run pins s σ H R I (imp _ _ _ (hk_of I) ht)⟩
/-- held by keeping one value -/
theorem one_held {p : Par} {O : Own} {H : Hp} {v : V} {d : D} (h : hold b0 p O H v d) : ∀ x ∈ [(v, d)], hold b0 p O H x.1 x.2 := fun x hx => by
  rw [List.mem_singleton] at hx
  subst hx
  exact h
theorem itl_ok {p : Par} {a : Addr} {ds : List D} : ItOk p ds (Itl p.K a) [(.ref a, .list ds)] := fun O H i ok hk => by
  obtain ⟨a', vs, z, _, h1, r⟩ := (hk (.ref a, .list ds) (List.mem_singleton.mpr rfl)).list
  cases z
  refine ⟨fun hi => ⟨vs, .of h1, by rw [r.length]; exact hi⟩, fun d hd => ?_⟩
  obtain ⟨v, hv, rv⟩ := r.get hd
  refine ⟨⟨vs, v, .of h1, hv⟩, fun x H' ⟨e1, e2⟩ => ?_⟩
  have e3 := e2 vs (.of h1)
  rw [hv] at e3
  cases e3
  subst e1
  exact ⟨Ext.refl ok.wd, rv⟩
theorem itt_ok {p : Par} {a : Addr} {ds : List D} : ItOk p ds (Itt p.K a) [(.ref a, .tuple ds)] := fun O H i ok hk => by
  obtain ⟨a', vs, z, h1, r⟩ := (hk (.ref a, .tuple ds) (List.mem_singleton.mpr rfl)).tuple
  cases z
  refine ⟨fun hi => ⟨vs, h1, by rw [r.length]; exact hi⟩, fun d hd => ?_⟩
  obtain ⟨v, hv, rv⟩ := r.get hd
  refine ⟨⟨vs, v, h1, hv⟩, fun x H' ⟨e1, e2⟩ => ?_⟩
  have e3 := e2 vs h1
  rw [hv] at e3
  cases e3
  subst e1
  exact ⟨Ext.refl ok.wd, rv⟩
/-- a list or a tuple -/
def seqD : D → Option (List D)
  | .list ds => some ds
  | .tuple ds => some ds
  | _ => none
def iSeq (K : PySem.W.Frag) (tl : TE) : TI := fun σ H R => tl σ H fun x H1 => ∃ a, x = .ref a ∧ (((∃ xs, SqL K H1 a xs) ∧ R (Itl K a) H1) ∨ ((∃ xs, SqT K H1 a xs) ∧ R (Itt K a) H1))
theorem pi_seq {l : Expr} {tl : TE} (hl : PE X l tl) : PI X tg l (iSeq X.K tl) := by
  refine ⟨fun pins s σ H R I h => ?_⟩
  refine thn (hl.run pins s σ H _ I h) fun v s1 ⟨x, H1, I1, r1, q1⟩ => ?_
  obtain ⟨a, e, q⟩ := q1
  subst e
  cases r1
  rcases q with ⟨⟨xs, hq⟩, q⟩ | ⟨⟨xs, hq⟩, q⟩
  · obtain ⟨its, rv, p, hz⟩ := I1.list hq
    refine wpAny_pyIter_list p.isList ?_
    refine ⟨s1.heap.objs.size, [s1.heap.objs.size], _, _, H1, rfl, I1.kept (t' := s1.toks) fun b o e => Heap.get?_push_of_some _ e, turn_list a _, ⟨_, Heap.get?_push_size _ rfl, rfl, rfl⟩, fun b hb => ?_, q⟩
    have e : b = s1.heap.objs.size := by simpa using hb
    subst e
    exact I1.fpOk (Nat.le_refl _) (I1.hok.fresh (Nat.le_refl _))
  · obtain ⟨its, rv, p, hz⟩ := I1.tuple hq
    refine wpAny_pyIter_tuple (show s1.heap.IsTuple a its.toArray from p) ?_
    refine ⟨s1.heap.objs.size, [s1.heap.objs.size], _, _, H1, rfl, I1.kept (t' := s1.toks) fun b o e => Heap.get?_push_of_some _ e, turn_tuple a _, ⟨_, Heap.get?_push_size _ rfl, rfl, rfl⟩, fun b hb => ?_, q⟩
    have e : b = s1.heap.objs.size := by simpa using hb
    subst e
    exact I1.fpOk (Nat.le_refl _) (I1.hok.fresh (Nat.le_refl _))
def wiSeq (w : WE) : WI := fun ρ Q EX => w ρ (fun d => ∃ ds, seqD d = some ds ∧ Q ds) EX
theorem di_seq {w : WE} (h : DH b0 p X e w) : DI b0 p X tg e (wiSeq w) := by
  refine ⟨pi_use (pi_seq (pe_hk h.pe)) fun σ H R hk ⟨ρ, O, EX, Rl, ex, hw⟩ => ⟨ρ, O, EX, Rl, ex, h.mono _ _ _ _ (fun d ⟨ds, z, q⟩ v H1 hk1 e1 r1 _ => ?_) hw⟩, fun ρ Q Q' EX hh q => h.mono _ _ _ _ (fun d ⟨ds, z, q⟩ => ⟨ds, z, hh _ q⟩) q⟩
  cases d with
  | none => cases z
  | bool _ => cases z
  | int _ => cases z
  | str _ => cases z
  | dict _ => cases z
  | list _ =>
    cases z
    obtain ⟨a, vs, rfl, _, h1, r⟩ := (hold_b r1).list
    exact ⟨a, rfl, .inl ⟨⟨vs, .of h1⟩, q _ _ _ hk1 e1 (one_held r1) itl_ok⟩⟩
  | tuple _ =>
    cases z
    obtain ⟨a, vs, rfl, h1, r⟩ := (hold_b r1).tuple
    exact ⟨a, rfl, .inr ⟨⟨vs, h1⟩, q _ _ _ hk1 e1 (one_held r1) itt_ok⟩⟩
/-- range -/
def rngD (lo : Int) (n : Nat) : List D := (List.range n).map fun i => .int (lo + (i : Nat))
theorem rng_get {lo : Int} {n i : Nat} {d : D} (h : (rngD lo n)[i]? = some d) : i < n ∧ d = .int (lo + (i : Nat)) := by
  unfold rngD at h
  rw [List.getElem?_map] at h
  by_cases hi : i < n
  · rw [List.getElem?_range hi] at h
    exact ⟨hi, by simpa using h.symm⟩
  · rw [List.getElem?_eq_none (by simpa using hi)] at h
    cases h
theorem rng_len {lo : Int} {n : Nat} : (rngD lo n).length = n := by unfold rngD; simp
theorem itr_ok {p : Par} {lo : Int} {n : Nat} : ItOk p (rngD lo n) (Itr lo n) [] := fun O H i ok _ => by
  refine ⟨fun hi => by rw [rng_len] at hi; exact hi, fun d hd => ?_⟩
  obtain ⟨hi, rfl⟩ := rng_get hd
  refine ⟨hi, fun x H' ⟨e1, e2⟩ => ?_⟩
  subst e1
  subst e2
  exact ⟨Ext.refl ok.wd, rep_int⟩
def rBnd (i : Int) : Prop := -(2 ^ 62) ≤ i ∧ i < 2 ^ 62
def wiRng1 (w : WE) : WI := fun ρ Q EX => w ρ (fun d => ∃ j, d = .int j ∧ rBnd j ∧ Q (rngD 0 j.toNat)) EX
def wiRng2 (w u : WE) : WI := fun ρ Q EX => w ρ (fun d => u ρ (fun d2 => ∃ i j, d = .int i ∧ d2 = .int j ∧ rBnd i ∧ rBnd j ∧ Q (rngD i (j - i).toNat)) EX) EX
theorem no_held {p : Par} {O : Own} {H : Hp} : ∀ x ∈ ([] : List (V × D)), hold b0 p O H x.1 x.2 := fun x hx => by cases hx
theorem di_rng1 {w : WE} {q : Pos} (hm : X.mg "range" = none) (h : DB p X a w) (hg : Gl X "range" := by rfl) (hs : starEach [a] X.env = [(false, eval a X.env)] := by rfl) : DI b0 p X tg (.Call (.Name "range" q) [a] [] pos) (wiRng1 w) :=
  ⟨pi_use (pi_range1 hg hm (pa_cons (pe_hk h.pe) pa_nil hs) hs) fun σ H R hk ⟨ρ, O, EX, Rl, ex, hw⟩ => ⟨ρ, O, EX, Rl, ex, h.mono _ _ _ _ (fun d ⟨j, z, hb, q⟩ v H1 hk1 e1 r1 _ => by
    subst z
    rw [r1.int]
    exact ⟨j, rfl, hb.1, hb.2, q _ _ [] hk1 e1 no_held itr_ok⟩) hw⟩, fun ρ Q Q' EX hh q => h.mono _ _ _ _ (fun d ⟨j, z, hb, q⟩ => ⟨j, z, hb, hh _ q⟩) q⟩
theorem di_rng2 {w u : WE} {q : Pos} (hm : X.mg "range" = none) (h : DB p X a w) (h2 : DB p X b u) (hg : Gl X "range" := by rfl) (hs : starEach [a, b] X.env = [(false, eval a X.env), (false, eval b X.env)] := by rfl) (hs2 : starEach [b] X.env = [(false, eval b X.env)] := by rfl)
    (hs3 : starEach [a, b] X.env = (false, eval a X.env) :: starEach [b] X.env := by rfl) : DI b0 p X tg (.Call (.Name "range" q) [a, b] [] pos) (wiRng2 w u) :=
  ⟨pi_use (pi_range2 hg hm (pa_cons (pe_hk h.pe) (pa_cons (pe_hk h2.pe) pa_nil hs2) hs3) hs hs2) fun σ H R hk ⟨ρ, O, EX, Rl, ex, hw⟩ => ⟨ρ, O, EX, Rl, ex, h.mono _ _ _ _ (fun d q v H1 hk1 e1 r1 _ => ⟨ρ, O, EX, Rl.ext' e1, ex, h2.mono _ _ _ _ (fun d2 ⟨i, j, z, z2, hi, hj, q'⟩ v2 H2 hk2 e2 r2 _ => by
    subst z
    subst z2
    rw [r1.int, r2.int]
    exact ⟨i, j, rfl, ⟨hi.1, hi.2, hj.1, hj.2⟩, q' _ _ [] hk2 (e1.trans e2) no_held itr_ok⟩) q⟩) hw⟩, fun ρ Q Q' EX hh q => h.mono _ _ _ _ (fun d q => h2.mono _ _ _ _ (fun d2 ⟨i, j, z, z2, hi, hj, q⟩ => ⟨i, j, z, z2, hi, hj, hh _ q⟩) q) q⟩
/-- enumerate of a list -/
def enumD (ds : List D) : List D := (List.range ds.length).map fun i => .tuple [.int ((i : Nat) : Int), ds.getD i .none]
theorem enum_len {ds : List D} : (enumD ds).length = ds.length := by unfold enumD; simp
theorem enum_get {ds : List D} {i : Nat} {d : D} (h : (enumD ds)[i]? = some d) : ∃ x, ds[i]? = some x ∧ d = .tuple [.int ((i : Nat) : Int), x] := by
  unfold enumD at h
  rw [List.getElem?_map] at h
  by_cases hi : i < ds.length
  · rw [List.getElem?_range hi] at h
    refine ⟨ds[i], List.getElem?_eq_getElem hi, ?_⟩
    have h := Option.some.inj h
    rw [← h]
    dsimp only
    rw [List.getD_eq_getElem?_getD, List.getElem?_eq_getElem hi]
    rfl
  · rw [List.getElem?_eq_none (by simpa using hi)] at h
    cases h
theorem pair_new {p : Par} {O : Own} {H : Hp} {T : Addr} {x y : V} {d d' : D} (ok : Ok0 p O H) (hT : H T = none) (r : RepV p.K (NN p O) H x d) (r' : RepV p.K (NN p O) H y d') : Ext p H (upd H T (.tup [x, y])) ∧ RepV p.K (NN p O) (upd H T (.tup [x, y])) (.ref T) (.tuple [d, d']) :=
  ⟨Ext.new ok.wd hT, rep_tuple (.of (by unfold L2.upd; rw [if_pos rfl])) (RepAll.ext (Ext.new ok.wd hT) ok.wd (rall_cons r (rall_cons r' rall_nil)))⟩
theorem ite_ok {p : Par} {a : Addr} {ds : List D} : ItOk p (enumD ds) (Ite p.K a) [(.ref a, .list ds)] := fun O H i ok hk => by
  obtain ⟨a', vs, z, _, h1, r⟩ := (hk (.ref a, .list ds) (List.mem_singleton.mpr rfl)).list
  cases z
  refine ⟨fun hi => ⟨vs, .of h1, by rw [r.length]; rw [enum_len] at hi; exact hi⟩, fun d hd => ?_⟩
  obtain ⟨x, hx, rfl⟩ := enum_get hd
  obtain ⟨v, hv, rv⟩ := r.get hx
  refine ⟨⟨vs, v, .of h1, hv⟩, fun u H' ⟨T, w, e0, hT, e1, e2⟩ => ?_⟩
  have e3 := e2 vs (.of h1)
  rw [hv] at e3
  cases e3
  subst e0
  subst e1
  exact pair_new ok hT rep_int rv
def wiEnum (w : WE) : WI := fun ρ Q EX => w ρ (fun d => ∃ ds, d = .list ds ∧ Q (enumD ds)) EX
theorem di_enum {w : WE} {elts : List Expr} {kk : Nat} {q tpos : Pos} (hm : X.mg "enumerate" = none) (h : DH b0 p X a w) (hg : Gl X "enumerate" := by rfl) (hs : starEach [a] X.env = [(false, eval a X.env)] := by rfl) : DI b0 p X (.Tuple elts kk tpos) (.Call (.Name "enumerate" q) [a] [] pos) (wiEnum w) :=
  ⟨pi_use (pi_enum hg hm (pa_cons (pe_hk h.pe) pa_nil hs) hs) fun σ H R hk ⟨ρ, O, EX, Rl, ex, hw⟩ => ⟨ρ, O, EX, Rl, ex, h.mono _ _ _ _ (fun d ⟨ds, z, q⟩ v H1 hk1 e1 r1 _ => by
    subst z
    obtain ⟨a, vs, rfl, _, h1, r⟩ := (hold_b r1).list
    exact ⟨a, vs, rfl, .of h1, q _ _ _ hk1 e1 (one_held r1) ite_ok⟩) hw⟩, fun ρ Q Q' EX hh q => h.mono _ _ _ _ (fun d ⟨ds, z, q⟩ => ⟨ds, z, hh _ q⟩) q⟩
/-- zip of two lists, of two tuples -/
def zipD (xs ys : List D) : List D := List.zipWith (fun x y => .tuple [x, y]) xs ys
theorem zip_get {xs ys : List D} {i : Nat} {d : D} (h : (zipD xs ys)[i]? = some d) : ∃ x y, xs[i]? = some x ∧ ys[i]? = some y ∧ d = .tuple [x, y] := by
  unfold zipD at h
  rw [List.getElem?_zipWith] at h
  cases hx : xs[i]? with
  | none => rw [hx] at h; cases h
  | some x =>
    cases hy : ys[i]? with
    | none => rw [hx, hy] at h; cases h
    | some y =>
      rw [hx, hy] at h
      exact ⟨x, y, rfl, rfl, (Option.some.inj h).symm⟩
theorem zip_len {xs ys : List D} : (zipD xs ys).length = min xs.length ys.length := by unfold zipD; simp
theorem itz_ok {p : Par} {a b : Addr} {ds es : List D} : ItOk p (zipD ds es) (Itz p.K a b) [(.ref a, .list ds), (.ref b, .list es)] := fun O H i ok hk => by
  obtain ⟨a', vs, z, _, h1, r⟩ := (hk (.ref a, .list ds) (by simp)).list
  cases z
  obtain ⟨b', ws, z, _, h2, r'⟩ := (hk (.ref b, .list es) (by simp)).list
  cases z
  refine ⟨fun hi => ⟨vs, ws, .of h1, .of h2, by rw [zip_len] at hi; rw [r.length, r'.length]; omega⟩, fun d hd => ?_⟩
  obtain ⟨x, y, hx, hy, rfl⟩ := zip_get hd
  obtain ⟨v, hv, rv⟩ := r.get hx
  obtain ⟨w, hw, rw'⟩ := r'.get hy
  refine ⟨⟨vs, ws, v, w, .of h1, .of h2, hv, hw⟩, fun u H' ⟨T, x', y', e0, hT, e1, e2, e3⟩ => ?_⟩
  have e4 := e2 vs (.of h1)
  rw [hv] at e4
  cases e4
  have e5 := e3 ws (.of h2)
  rw [hw] at e5
  cases e5
  subst e0
  subst e1
  exact pair_new ok hT rv rw'
theorem itzT_ok {p : Par} {a b : Addr} {ds es : List D} : ItOk p (zipD ds es) (RZ.ItzT p.K a b) [(.ref a, .tuple ds), (.ref b, .tuple es)] := fun O H i ok hk => by
  obtain ⟨a', vs, z, h1, r⟩ := (hk (.ref a, .tuple ds) (by simp)).tuple
  cases z
  obtain ⟨b', ws, z, h2, r'⟩ := (hk (.ref b, .tuple es) (by simp)).tuple
  cases z
  refine ⟨fun hi => ⟨vs, ws, h1, h2, by rw [zip_len] at hi; rw [r.length, r'.length]; omega⟩, fun d hd => ?_⟩
  obtain ⟨x, y, hx, hy, rfl⟩ := zip_get hd
  obtain ⟨v, hv, rv⟩ := r.get hx
  obtain ⟨w, hw, rw'⟩ := r'.get hy
  refine ⟨⟨vs, ws, v, w, h1, h2, hv, hw⟩, fun u H' ⟨T, x', y', e0, hT, e1, e2, e3⟩ => ?_⟩
  have e4 := e2 vs h1
  rw [hv] at e4
  cases e4
  have e5 := e3 ws h2
  rw [hw] at e5
  cases e5
  subst e0
  subst e1
  exact pair_new ok hT rv rw'
def wiZip (w u : WE) : WI := fun ρ Q EX => w ρ (fun d => u ρ (fun d2 => ∃ ds es, ((d = .list ds ∧ d2 = .list es) ∨ (d = .tuple ds ∧ d2 = .tuple es)) ∧ Q (zipD ds es)) EX) EX
theorem two_held {p : Par} {O : Own} {H : Hp} {v v' : V} {d d' : D} (h : hold b0 p O H v d) (h' : hold b0 p O H v' d') : ∀ x ∈ [(v, d), (v', d')], hold b0 p O H x.1 x.2 := fun x hx => by
  rcases List.mem_cons.mp hx with rfl | hx
  · exact h
  · rw [List.mem_singleton] at hx
    subst hx
    exact h'
theorem di_zip {w u : WE} {elts : List Expr} {kk : Nat} {q tpos : Pos} (hm : X.mg "zip" = none) (h : DH b0 p X a w) (h2 : DH b0 p X b u) (hg : Gl X "zip" := by rfl) (hs : starEach [a, b] X.env = (false, eval a X.env) :: starEach [b] X.env := by rfl) (hs2 : starEach [b] X.env = (false, eval b X.env) :: starEach [] X.env := by rfl) (hpl : (backTo pos (starEach [b] X.env)).any (·.1) = false := by rfl) :
    DI b0 p X (.Tuple elts kk tpos) (.Call (.Name "zip" q) [a, b] [] pos) (wiZip w u) := by
  refine ⟨pi_use (RZ.pi_zipA hg hm (pa_cons (pe_hk h.pe) (pa_cons (pe_hk h2.pe) pa_nil hs2) hs) hs hpl) fun σ H R hk ⟨ρ, O, EX, Rl, ex, hw⟩ => ⟨ρ, O, EX, Rl, ex, h.mono _ _ _ _ (fun d q v H1 hk1 e1 r1 _ => ⟨ρ, O, EX, Rl.ext' e1, ex, h2.mono _ _ _ _ (fun d2 ⟨ds, es, z, q'⟩ v2 H2 hk2 e2 r2 _ => ?_) q⟩) hw⟩,
    fun ρ Q Q' EX hh q => h.mono _ _ _ _ (fun d q => h2.mono _ _ _ _ (fun d2 ⟨ds, es, z, q⟩ => ⟨ds, es, z, hh _ q⟩) q) q⟩
  have r3 := hold_ext e1.wd e2 r1
  rcases z with ⟨rfl, rfl⟩ | ⟨rfl, rfl⟩
  · obtain ⟨a, vs, rfl, _, h1, _⟩ := (hold_b r3).list
    obtain ⟨b, ws, rfl, _, h2, _⟩ := (hold_b r2).list
    exact ⟨a, b, vs, ws, rfl, .inl ⟨.of h1, .of h2, q' _ _ _ hk2 (e1.trans e2) (two_held r3 r2) itz_ok⟩⟩
  · obtain ⟨a, vs, rfl, h1, _⟩ := (hold_b r3).tuple
    obtain ⟨b, ws, rfl, h2, _⟩ := (hold_b r2).tuple
    exact ⟨a, b, vs, ws, rfl, .inr ⟨h1, h2, q' _ _ _ hk2 (e1.trans e2) (two_held r3 r2) itzT_ok⟩⟩
/-! ### for, while -/
def wLoop (g : WG) (bd : WS) (D : EndsW) : List DD.D → Env' → Prop
  | [], ρ => D.nx ρ
  | d :: ds, ρ => g d ρ fun ρ' => bd { nx := wLoop g bd D ds, rt := D.rt, bk := D.nx, ct := wLoop g bd D ds, ex := D.ex } ρ'
def wFor (wi : WI) (g : WG) (bd : WS) : WS := fun D ρ => wi ρ (fun ds => wLoop g bd D ds ρ) D.ex
theorem mono_Loop {g : WG} {bd : WS} (hg : MonoG g) (hb : MonoS bd) {D D' : EndsW} (hd : D.le D') : ∀ (ds : List DD.D) (ρ : Env'), wLoop g bd D ds ρ → wLoop g bd D' ds ρ
  | [], ρ, q => hd.nx _ q
  | d :: ds, ρ, q => hg _ _ _ _ (fun ρ' q => hb { nx := wLoop g bd D ds, rt := D.rt, bk := D.nx, ct := wLoop g bd D ds, ex := D.ex } _ _ ⟨fun ρ q => mono_Loop hg hb hd ds ρ q, hd.rt, fun ρ q => hd.nx ρ q, fun ρ q => mono_Loop hg hb hd ds ρ q, hd.ex⟩ q) q
theorem ds_for {wi : WI} {ix : List Nat} {g : WG} {bd : WS} {body : List Stmt} (hp : PassesOwn (model X.prog X.w) X.A X.env X.xe) (hc : X.calm = true) (hi : DI false p X tg e wi) (hg : DG p X tg ix g) (hb : DSs p X body bd)
    (hs : ∀ x, foldedSetIterable e X.env x = pure x := by intro _; rfl) : DS p X (.For tg e body [] pos) (wFor wi g bd) := by
  refine ⟨ps_use (ps_for hp hc hi.pi hg.pg hb.ps hs) fun D σ H hk ⟨ρ, O, EX, R, ex, hw⟩ => ?_, fun D D' ρ hd q => ?_⟩
  · refine ⟨ρ, O, EX, R, ex, hi.mono _ _ _ _ (fun ds q J H1 ks hk1 e1 hks it => ?_) hw⟩
    let Dw := endsW (p.at X.K) D O.ks EX
    have q : wLoop g bd Dw ds ρ := q
    let St : List DD.D → L2.St → Hp → Prop := fun ds σ H => Hk X.K H ∧ ∃ ρ' O', O'.ks = ks ++ O.ks ∧ Rel (p.at X.K) O' ρ' σ H ∧ wLoop g bd Dw ds ρ'
    refine ⟨fun i m σ H => m = ds.length - i ∧ i ≤ ds.length ∧ St (ds.drop i) σ H, ⟨ds.length, rfl, Nat.zero_le _, hk1, ρ, ⟨O.fn, ks ++ O.ks⟩, rfl, (R.ext' e1).hold hks, q⟩, ?_⟩
    rintro i m σ2 H2 ⟨rfl, hi', hk2, ρ2, O2, k2, R2, q2⟩
    have held : ∀ x ∈ ks, RepB (p.at X.K) O2 H2 x.1 x.2 := fun x hx => (R2.keep x (by rw [k2]; exact List.mem_append_left _ hx)).b
    obtain ⟨t1, t2⟩ := it O2 H2 i R2.ok0 held
    cases hd : ds[i]? with
    | none =>
      have hle : ds.length ≤ i := List.getElem?_eq_none_iff.mp hd
      rw [List.drop_eq_nil_of_le hle] at q2
      refine .inl ⟨t1 hle, fun hk3 => ?_⟩
      have q3 : Dw.nx ρ2 := q2
      exact q3 ⟨O2.fn, O.ks⟩ σ2 H2 rfl hk3 (R2.drop fun x hx => by rw [k2]; exact List.mem_append_right _ hx)
    | some d =>
      have hlt : i < ds.length := (List.getElem?_eq_some_iff.mp hd).1
      obtain ⟨go, yl⟩ := t2 d hd
      have hdrop : ds.drop i = d :: ds.drop (i + 1) := by
        rw [List.drop_eq_getElem_cons hlt]
        congr 1
        have := List.getElem?_eq_getElem hlt
        rw [hd] at this
        exact (Option.some.inj this).symm
      rw [hdrop] at q2
      refine .inr ⟨go, fun σ' H' => St (ds.drop (i + 1)) σ' H', fun σ' H' st => ⟨ds.length - (i + 1), by omega, rfl, hlt, st⟩, fun x H3 y => ?_⟩
      obtain ⟨e3, r3⟩ := yl x H3 y
      refine ⟨ρ2, O2, d, R2.ext' e3, r3, hg.mono _ _ _ _ (fun ρ3 q3 O3 σ3 k3 _ _ _ R3 => ?_) q2⟩
      refine ⟨ρ3, O3, EX, R3, ex, hb.mono { nx := wLoop g bd Dw (ds.drop (i + 1)), rt := Dw.rt, bk := Dw.nx, ct := wLoop g bd Dw (ds.drop (i + 1)), ex := Dw.ex } _ _ ⟨fun ρ4 q4 O4 σ4 H4 k4 hk4 R4 => ?_, fun d q4 v H4 hk4 e4 r4 hk5 => q4 v H4 hk4 e4 r4, fun ρ4 q4 O4 σ4 H4 k4 hk4 R4 hk5 => ?_, fun ρ4 q4 O4 σ4 H4 k4 hk4 R4 => ?_, rfl⟩ q3⟩
      · exact ⟨hk4, ρ4, O4, k4.trans (k3.trans k2), R4, q4⟩
      · have q5 : Dw.nx ρ4 := q4
        exact q5 ⟨O4.fn, O.ks⟩ σ4 H4 rfl hk5 (R4.drop fun x hx => by rw [k4, k3, k2]; exact List.mem_append_right _ hx)
      · exact ⟨hk4, ρ4, O4, k4.trans (k3.trans k2), R4, q4⟩
  · unfold wFor at q ⊢
    rw [← hd.ex]
    exact hi.mono _ _ _ _ (fun ds q => mono_Loop hg.mono hb.mono hd ds ρ q) q
def wWhile (t : WT) (bd : WS) : WS := fun D ρ => ∃ W : Nat → Env' → Prop, (∃ m, W m ρ) ∧ ∀ m ρ, W m ρ → t ρ (fun k => if k = true then bd { nx := fun ρ' => ∃ m', m' < m ∧ W m' ρ', rt := D.rt, bk := D.nx, ct := fun ρ' => ∃ m', m' < m ∧ W m' ρ', ex := D.ex } ρ else D.nx ρ) D.ex
theorem ds_while {t : WT} {bd : WS} {body : List Stmt} (hp : PassesOwn (model X.prog X.w) X.A X.env X.xe) (hc : DT p X c t) (hb : DSs p X body bd) : DS p X (.While c body [] pos) (wWhile t bd) := by
  refine ⟨ps_use (ps_while hp hc.pt hb.ps) fun D σ H hk ⟨ρ, O, EX, R, ex, hw⟩ => ?_, fun D D' ρ hd ⟨W, w0, turn⟩ => ⟨W, w0, fun m ρ w => ?_⟩⟩
  · obtain ⟨W, ⟨m0, w0⟩, turn⟩ := hw
    let Dw := endsW (p.at X.K) D O.ks EX
    let St : Nat → L2.St → Hp → Prop := fun m σ H => Hk X.K H ∧ ∃ ρ' O', O'.ks = O.ks ∧ Rel (p.at X.K) O' ρ' σ H ∧ W m ρ'
    refine ⟨St, ⟨m0, hk, ρ, O, rfl, R, w0⟩, ?_⟩
    rintro m σ2 H2 ⟨hk2, ρ2, O2, k2, R2, w2⟩
    refine ⟨ρ2, O2, EX, R2, ex, hc.mono _ _ _ _ (fun k q H3 hk3 e3 => ?_) (turn m ρ2 w2)⟩
    by_cases z : k = true
    · rw [if_pos z] at q ⊢
      refine ⟨fun σ' H' => ∃ m', m' < m ∧ St m' σ' H', fun _ _ h => h, ρ2, O2, EX, R2.ext' e3, ex, hb.mono { nx := fun ρ' => ∃ m', m' < m ∧ W m' ρ', rt := Dw.rt, bk := Dw.nx, ct := fun ρ' => ∃ m', m' < m ∧ W m' ρ', ex := Dw.ex } _ _ ⟨?_, ?_, ?_, ?_, rfl⟩ q⟩
      · exact fun ρ4 ⟨m', hm, w4⟩ O4 σ4 H4 k4 hk4 R4 => ⟨m', hm, hk4, ρ4, O4, k4.trans k2, R4, w4⟩
      · exact fun d q4 v H4 hk4 e4 r4 hk5 => q4 v H4 hk4 e4 r4
      · exact fun ρ4 q4 O4 σ4 H4 k4 hk4 R4 hk5 => q4 O4 σ4 H4 (k4.trans k2) hk5 R4
      · exact fun ρ4 ⟨m', hm, w4⟩ O4 σ4 H4 k4 hk4 R4 => ⟨m', hm, hk4, ρ4, O4, k4.trans k2, R4, w4⟩
    · rw [if_neg z] at q ⊢
      exact fun hk4 => q O2 σ2 H3 k2 hk4 (R2.ext' e3)
  · rw [← hd.ex]
    refine hc.mono _ _ _ _ (fun k q => ?_) (turn m ρ w)
    by_cases z : k = true
    · rw [if_pos z] at q ⊢; exact hb.mono { nx := fun ρ' => ∃ m', m' < m ∧ W m' ρ', rt := D.rt, bk := D.nx, ct := fun ρ' => ∃ m', m' < m ∧ W m' ρ', ex := D.ex } _ _ ⟨fun _ q => q, hd.rt, hd.nx, fun _ q => q, rfl⟩ q
    · rw [if_neg z] at q ⊢; exact hd.nx _ q
end
end DD
set_option maxRecDepth 100000
set_option maxHeartbeats 2000000
/-! SemJ: comprehensions. -/
namespace DD
open PySem PySem.Spec PyProof.Rows L2
/-! ### a block's slots -/
def wipeE (ρ : Env') : List Nat → Env'
  | [] => ρ
  | v :: vs => (wipeE ρ vs).set v none
theorem wipeE_len {ρ : Env'} : ∀ {vs : List Nat}, (wipeE ρ vs).length = ρ.length
  | [] => rfl
  | v :: vs => by unfold wipeE; rw [List.length_set, wipeE_len]
theorem wipeE_some {ρ : Env'} {i : Nat} {w : W} : ∀ {vs : List Nat}, (wipeE ρ vs)[i]? = some (some w) → ρ[i]? = some (some w) ∧ i ∉ vs
  | [], h => ⟨h, by simp⟩
  | v :: vs, h => by
    unfold wipeE at h
    rw [List.getElem?_set] at h
    by_cases z : v = i
    · rw [if_pos z] at h
      split at h <;> cases h
    · rw [if_neg z] at h
      obtain ⟨h1, h2⟩ := wipeE_some h
      exact ⟨h1, by simp only [List.mem_cons, not_or]; exact ⟨fun e => z e.symm, h2⟩⟩
/-- the owners of wiped slots go to hidden places -/
def shf (O : Own) (vs : List Nat) (L : Nat) : Own := ⟨fun j => if j < L then (if j ∈ vs then none else O j) else if j = L then none else if (j - L - 1) ∈ vs ∨ L ≤ j - L - 1 then O (j - L - 1) else none, O.ks⟩
theorem shf_at {O : Own} {vs : List Nat} {L j : Nat} {a : Addr} (h : shf O vs L j = some a) : ∃ i, O i = some a ∧ ((j < L ∧ j = i ∧ i ∉ vs) ∨ (L < j ∧ i = j - L - 1 ∧ (i ∈ vs ∨ L ≤ i))) := by
  unfold shf at h
  dsimp only at h
  split at h
  · split at h
    · cases h
    · rename_i h1 h2; exact ⟨j, h, .inl ⟨h1, rfl, h2⟩⟩
  · split at h
    · cases h
    · split at h
      · rename_i h1 h2 h3; exact ⟨j - L - 1, h, .inr ⟨by omega, rfl, h3⟩⟩
      · cases h
theorem shf_has {O : Own} {vs : List Nat} {L i : Nat} {a : Addr} (h : O i = some a) : ∃ j, shf O vs L j = some a := by
  by_cases h1 : i < L ∧ i ∉ vs
  · exact ⟨i, (if_pos h1.1).trans ((if_neg h1.2).trans h)⟩
  · refine ⟨i + L + 1, (if_neg (by omega)).trans ((if_neg (by omega)).trans ?_)⟩
    rw [show i + L + 1 - L - 1 = i by omega]
    refine (if_pos ?_).trans h
    by_cases z : i ∈ vs
    · exact .inl z
    · exact .inr (by
        have : ¬ i < L := fun y => h1 ⟨y, z⟩
        omega)
theorem shf_L {O : Own} {vs : List Nat} {L : Nat} : shf O vs L L = none := (if_neg (by omega)).trans (if_pos rfl)
theorem shf_nn {p : Par} {O : Own} {vs : List Nat} {L : Nat} {a : Addr} : NN p (shf O vs L) a ↔ NN p O a :=
  ⟨fun n => ⟨n.1, n.2.1, fun i z => let ⟨j, h⟩ := shf_has (vs := vs) (L := L) z; n.2.2 j h⟩, fun n => ⟨n.1, n.2.1, fun j z => let ⟨i, h, _⟩ := shf_at z; n.2.2 i h⟩⟩
theorem Rel.wipe {p : Par} {O : Own} {ρ : Env'} {σ : L2.St} {H : Hp} {vs : List Nat} {L : Nat} (R : Rel p O ρ σ H) (hl : ρ.length ≤ L) : Rel p (shf O vs L) (wipeE ρ vs) (L2.wipe σ vs) H := by
  have kk : Keeps2 (NN p O) (NN p (shf O vs L)) H H := ⟨fun a n _ => shf_nn.mpr n, fun _ _ _ e _ => e, fun _ _ e => e, fun _ _ _ e => e⟩
  refine ⟨R.wd, R.ext, by rw [wipe_length, wipeE_len]; exact R.len, fun i w hw => ?_, fun i j a hi hj => ?_, fun x hx => RepV.keep kk x.2 x.1 (R.keep x hx), fun i a h => ?_⟩
  · obtain ⟨h1, h2⟩ := wipeE_some hw
    have hi : i < ρ.length := (List.getElem?_eq_some_iff.mp h1).1
    have h := R.slot i w h1
    have e : (L2.wipe σ vs)[i]? = σ[i]? := by rw [GX.wipe_get, if_neg h2]
    rw [e]
    cases w with
    | d x => obtain ⟨v, e1, e2⟩ := h; exact ⟨v, e1, RepV.keep kk x v e2⟩
    | own x =>
      obtain ⟨b, e1, e2, e3⟩ := h
      exact ⟨b, (if_pos (by omega)).trans ((if_neg h2).trans e1), e2, RepO.keep kk rfl e3⟩
    | row => exact h
  · obtain ⟨i', h1, h2⟩ := shf_at hi
    obtain ⟨j', h3, h4⟩ := shf_at hj
    have e := R.inj i' j' a h1 h3
    subst e
    rcases h2 with ⟨a1, a2, a3⟩ | ⟨a1, a2, a3⟩ <;> rcases h4 with ⟨b1, b2, b3⟩ | ⟨b1, b2, b3⟩
    · omega
    · rcases b3 with b3 | b3
      · exact absurd b3 a3
      · omega
    · rcases a3 with a3 | a3
      · exact absurd a3 b3
      · omega
    · omega
  · obtain ⟨i', h1, _⟩ := shf_at h
    exact R.own i' a h1
/-- no error is let out -/
abbrev Par.nox (p : Par) : Par := { p with E := fun _ _ _ => False }
theorem Wd.nox {p : Par} {H : Hp} (h : Wd p H) : Wd p.nox H := ⟨h.dj, h.g, h.t, h.row⟩
theorem Wd.unnox {p : Par} {H : Hp} (h : Wd p.nox H) : Wd p H := ⟨h.dj, h.g, h.t, h.row⟩
theorem Ext.nox {p : Par} {H H' : Hp} (h : Ext p H H') : Ext p.nox H H' := ⟨h.ob, h.dom, h.wd.nox⟩
theorem Ext.unnox {p : Par} {H H' : Hp} (h : Ext p.nox H H') : Ext p H H' := ⟨h.ob, h.dom, h.wd.unnox⟩
theorem Rel.nox {p : Par} {O : Own} {ρ : Env'} {σ : L2.St} {H : Hp} (R : Rel p O ρ σ H) : Rel p.nox O ρ σ H :=
  ⟨R.wd.nox, R.ext.nox, R.len, fun i w hw => by
    have h := R.slot i w hw
    cases w <;> exact h, R.inj, R.keep, R.own⟩
theorem Rel.unnox {p : Par} {O : Own} {ρ : Env'} {σ : L2.St} {H : Hp} (R : Rel p.nox O ρ σ H) : Rel p O ρ σ H :=
  ⟨R.wd.unnox, R.ext.unnox, R.len, fun i w hw => by
    have h := R.slot i w hw
    cases w <;> exact h, R.inj, R.keep, R.own⟩
def noX : EXn := fun _ => False
theorem exok_no {p : Par} : ExOk p noX := fun _ _ _ _ h _ _ => h.elim
/-- writing to an own object at a hidden place -/
theorem Rel.writeH {p : Par} {O : Own} {ρ : Env'} {σ : L2.St} {H : Hp} {L : Nat} {a : Addr} {o : HO} (R : Rel p O ρ σ H) (ha : O L = some a) (hl : ρ.length ≤ L) (so : Soft (some o)) : Rel p O ρ σ (upd H a o) := by
  obtain ⟨h0, nr, hs, hne, sf⟩ := R.own L a ha
  have kk : Keeps2 (NN p O) (NN p O) H (upd H a o) := by
    refine ⟨fun _ n _ => n, fun b ob n e _ => ?_, fun b xs e => ?_, fun b ob xs e => ?_⟩
    · rw [upd_ne (fun z => n.2.2 L (by rw [z]; exact ha))]; exact e
    · rw [upd_ne (fun z => by rw [← z, e] at sf; exact sf)]; exact e
    · rw [upd_ne (fun z => by rw [← z, e] at sf; exact sf)]; exact e
  refine ⟨R.wd.upd sf nr (.inr hs), ⟨fun b ob e n m => ?_, fun b e => ?_, R.wd.upd sf nr (.inr hs)⟩, R.len, fun j w hw => ?_, R.inj, fun x hx => RepV.keep kk x.2 x.1 (R.keep x hx), fun j b hj => ?_⟩
  · rw [upd_ne (fun z => by rw [z, h0] at e; cases e)]
    exact R.ext.ob b ob e n m
  · by_cases z : b = a
    · rw [z]; unfold L2.upd; rw [if_pos rfl]; simp
    · rw [upd_ne z]; exact R.ext.dom b e
  · have hj : j < ρ.length := (List.getElem?_eq_some_iff.mp hw).1
    have h := R.slot j w hw
    cases w with
    | d x => obtain ⟨v, e1, e2⟩ := h; exact ⟨v, e1, RepV.keep kk x v e2⟩
    | own x =>
      obtain ⟨b, e1, e2, e3⟩ := h
      refine ⟨b, e1, e2, RepO.keep kk (upd_ne fun q => ?_) e3⟩
      rw [q] at e1
      have := R.inj L j a ha e1
      omega
    | row => exact h
  · obtain ⟨q1, q2, q3, q4, q5⟩ := R.own j b hj
    by_cases z : b = a
    · rw [z] at q1 q2 q3 ⊢
      exact ⟨q1, q2, q3, by unfold L2.upd; rw [if_pos rfl]; simp, by unfold L2.upd; rw [if_pos rfl]; exact so⟩
    · rw [upd_ne z]; exact ⟨q1, q2, q3, q4, q5⟩
theorem Ext.updF {p : Par} {H H1 : Hp} {a : Addr} {o : HO} (e : Ext p H H1) (ha : H a = Option.none) (w : Wd p (upd H1 a o)) : Ext p H (upd H1 a o) :=
  ⟨fun b ob hb n m => by rw [upd_ne (ne_of_none hb ha)]; exact e.ob b ob hb n m, fun b hb => by
    by_cases z : b = a
    · rw [z]; unfold L2.upd; rw [if_pos rfl]; simp
    · rw [upd_ne z]; exact e.dom b hb, w⟩
/-- what the block's target has left -/
theorem wipe_back {σ σ' : L2.St} {vs ix : List Nat} (hix : ∀ i ∈ ix, i ∈ vs) (hl : σ'.length = σ.length) (h : ∀ j, j ∉ ix → σ'[j]? = σ[j]?) : L2.wipe σ' vs = L2.wipe σ vs := by
  apply List.ext_getElem?
  intro j
  rw [GX.wipe_get, GX.wipe_get]
  by_cases z : j ∈ vs
  · rw [if_pos z, if_pos z]
    by_cases hj : j < σ.length
    · rw [List.getElem?_eq_getElem hj, List.getElem?_eq_getElem (by omega)]
      rfl
    · rw [List.getElem?_eq_none (by omega), List.getElem?_eq_none (by omega)]
  · rw [if_neg z, if_neg z]
    exact h j fun y => z (hix j y)
theorem big (n : Nat) : ∀ vs : List Nat, ∃ L, n ≤ L ∧ ∀ i ∈ vs, i < L
  | [] => ⟨n, Nat.le_refl _, fun i h => by cases h⟩
  | v :: vs => by
    obtain ⟨L, h1, h2⟩ := big n vs
    refine ⟨L + v + 1, by omega, fun i h => ?_⟩
    rcases List.mem_cons.mp h with rfl | h
    · omega
    · have := h2 i h
      omega
/-! ### list comprehensions -/
structure DTs (p : Par) (X : Cx) (es : List Expr) (w : WT) : Prop where
  pts : PTs X es (LT (p.at X.K) w)
  mono : MonoT w
def wYes : WT := fun _ Q _ => Q true
section
variable {p : Par} {X : Cx} {pos : Pos} {tg e a b c elt iter : Expr} {es ifs : List Expr} {st : Stmt} {sts : List Stmt}
theorem dts_nil : DTs p X [] wYes := ⟨pts_use pts_nil fun σ H Q hk ⟨ρ, O, EX, R, ex, hw⟩ => fun hk' => hw H hk' (Ext.refl R.wd), fun _ _ _ _ h q => h _ q⟩
theorem dts_one {w : WT} (h : DT p X c w) : DTs p X [c] w := ⟨pts_one h.pt, h.mono⟩
def wComp (g : WG) (t : WT) (we : WE) (ρ : Env') : List D → List D → (D → Prop) → Prop
  | [], acc, Q => Q (.list acc)
  | d :: ds, acc, Q => g d ρ fun ρ2 => t ρ2 (fun k => if k = true then we ρ2 (fun y => acc.length < sizeLine ∧ wComp g t we ρ ds (acc ++ [y]) Q) noX else wComp g t we ρ ds acc Q) noX
theorem mono_comp {g : WG} {t : WT} {we : WE} (hg : MonoG g) (ht : MonoT t) (he : MonoE we) {ρ : Env'} : ∀ (ds acc : List D), M0 (wComp g t we ρ ds acc)
  | [], acc => fun Q Q' h q => h _ q
  | d :: ds, acc => fun Q Q' h q => hg _ _ _ _ (fun ρ2 q => ht _ _ _ _ (fun k q => by
    by_cases z : k = true
    · rw [if_pos z] at q ⊢
      exact he _ _ _ _ (fun y q => ⟨q.1, mono_comp hg ht he ds _ Q Q' h q.2⟩) q
    · rw [if_neg z] at q ⊢
      exact mono_comp hg ht he ds acc Q Q' h q) q) q
def wLc (wi : WI) (g : WG) (t : WT) (we : WE) (vs : List Nat) : WE := fun ρ Q EX => wi ρ (fun ds => wComp g t we (wipeE ρ vs) ds [] Q) EX
/-- the parts of a comprehension -/
structure LParts (p : Par) (X : Cx) (elt tg iter : Expr) (ifs : List Expr) (scope : Scope) (own : List (Str × Nat)) (wi : WI) (g : WG) (t : WT) (we : WE) : Prop where
  hc : X.calm = true
  hN : X.N.Nodup
  hi : DI true p X tg iter wi
  ok : BlkOk X.N X.env.scope scope own
  hg : ∃ ix : List Nat, (∀ i ∈ ix, i ∈ own.map (·.2)) ∧ ∀ (s : Shared) (H : Hp) (C : Addr) (cl : List (Str × Addr)) (fp : List Addr), DG p.nox (X.blk s H scope (compEnvC scope cl C X.env) fp) tg ix g
  ht : ∀ (s : Shared) (H : Hp) (C : Addr) (cl : List (Str × Addr)) (fp : List Addr), DTs p.nox (X.blk s H scope (compEnvC scope cl C X.env) fp) ifs t
  he : ∀ (s : Shared) (H : Hp) (C : Addr) (cl : List (Str × Addr)) (fp : List Addr), DE p.nox (X.blk s H scope (compEnvC scope cl C X.env) fp) elt we
  hs : ∀ x, foldedSetIterable iter X.env x = pure x
theorem lc_run {scope : Scope} {own : List (Str × Nat)} {wi : WI} {g : WG} {t : WT} {we : WE} (P : LParts p X elt tg iter ifs scope own wi g t we) {ix : List Nat} (hix : ∀ i ∈ ix, i ∈ own.map (·.2)) (hg : MonoG g) {σ : L2.St} {H : Hp} {O : Own} {ρ : Env'} {EX : EXn} {Q : VK} (R : Rel (p.at X.K) O ρ σ H) (ex : ExOk (p.at X.K) EX)
    (hw : wLc wi g t we (own.map (·.2)) ρ (RF (p.at X.K) O H Q) EX) :
    tLc (LI true (p.at X.K) wi) (LG (p.at X.K).nox ix g) (LT (p.at X.K).nox t) (LE (p.at X.K).nox we) (own.map (·.2)) σ H (fun v H' => Hk X.K H' → Q v H') := by
  have mt := (P.ht X.s_0 X.H_0 0 [] []).mono
  have me := (P.he X.s_0 X.H_0 0 [] []).mono
  generalize hvs : own.map (·.2) = vs at hw hix ⊢
  refine ⟨ρ, O, EX, R, ex, P.hi.mono _ _ _ _ (fun ds q J H1 ks hk1 e1 hks it Dd hD => ?_) hw⟩
  obtain ⟨L, hLl, hLv⟩ := big ρ.length vs
  have R1 := (R.ext' e1).wipe (vs := vs) (L := L) hLl
  have lw : (wipeE ρ vs).length ≤ L := by rw [wipeE_len]; exact hLl
  have ls : (L2.wipe σ vs).length ≤ L := by rw [wipe_length, R.len]; exact hLl
  have e2 : Ext (p.at X.K) H1 (upd H1 Dd (.lst [])) := Ext.new R1.wd hD
  have R2 := R1.set_own (i := L) (d := .list []) e2 hD ⟨[], by unfold L2.upd; rw [if_pos rfl], rall_nil⟩
  rw [set_out lw, set_out ls] at R2
  generalize hO1 : put (shf O vs L) L Dd = O1 at R2
  have hL : O1 L = some Dd := by rw [← hO1]; exact if_pos rfl
  have nn1 : ∀ b, NN (p.at X.K) O1 b → NN (p.at X.K) O b ∧ b ≠ Dd := fun b n => by
    rw [← hO1] at n
    refine ⟨(shf_nn (vs := vs) (L := L)).mp ⟨n.1, n.2.1, fun j z => ?_⟩, fun z => n.2.2 L (by rw [z]; exact if_pos rfl)⟩
    by_cases y : j = L
    · rw [y, shf_L] at z; cases z
    · exact n.2.2 j ((if_neg y).trans z)
  have nn2 : ∀ b, NN (p.at X.K) O b → b ≠ Dd → NN (p.at X.K) O1 b := fun b n nb => by
    rw [← hO1]
    refine ⟨n.1, n.2.1, fun j z => ?_⟩
    unfold put at z
    dsimp only at z
    split at z
    · cases z; exact nb rfl
    · exact ((shf_nn (vs := vs) (L := L)).mpr n).2.2 j z
  have none_at : ∀ j ∈ vs, O1 j = none := fun j hj => by
    have h1 := hLv j hj
    rw [← hO1]
    exact (if_neg (by omega)).trans ((if_pos h1).trans (if_pos hj))
  have e02 : Ext (p.at X.K) H1 (upd H1 Dd (.lst [])) := e2
  refine ⟨fun i m Hc => m = ds.length - i ∧ i ≤ ds.length ∧ Ext (p.at X.K) H1 Hc ∧ ∃ acc us, Hc Dd = some (.lst us) ∧ RepAll X.K (NN (p.at X.K) O1) Hc us acc ∧ Rel (p.at X.K) O1 (wipeE ρ vs) (L2.wipe σ vs) Hc ∧ wComp g t we (wipeE ρ vs) (ds.drop i) acc (RF (p.at X.K) O H Q),
    ⟨ds.length, rfl, Nat.zero_le _, e02, [], [], by unfold L2.upd; rw [if_pos rfl], rall_nil, R2, q⟩, ?_⟩
  rintro i m Hc ⟨rfl, hi', ec, acc, us, hD2, r2, Rc, q2⟩
  have held : ∀ x ∈ ks, RepB (p.at X.K) O1 Hc x.1 x.2 := fun x hx => by
    have h1 : RepB (p.at X.K) O H1 x.1 x.2 := hks x hx
    have kk : Keeps2 (NN (p.at X.K) O) (NN (p.at X.K) O1) H1 Hc := Keeps2.of_ext ec R1.wd (fun _ n => n.2.1) fun b n hb => nn2 b n fun z => hb (by rw [z]; exact hD)
    rcases h1 with h1 | ⟨a, e, na, h1⟩
    · exact .inl (RepV.keep kk x.2 x.1 h1)
    · refine .inr ⟨a, e, na, RepO.keep kk ?_ h1⟩
      revert h1
      generalize x.2 = dd
      intro h1
      cases dd with
      | list ds => obtain ⟨vs, h1, _⟩ := h1; rw [h1]; exact ec.ob a _ h1 (fun ps z => by cases z) na
      | dict kvs => obtain ⟨vs, _, h1⟩ := h1; rcases h1 with ⟨ks, h1, _⟩ | ⟨ks, h1, _⟩ <;> (rw [h1]; exact ec.ob a _ h1 (fun ps z => by cases z) na)
      | _ => exact h1.elim
  obtain ⟨t1, t2⟩ := it O1 Hc i Rc.ok0 held
  cases hd : ds[i]? with
  | none =>
    have hle : ds.length ≤ i := List.getElem?_eq_none_iff.mp hd
    rw [List.drop_eq_nil_of_le hle] at q2
    refine .inl ⟨t1 hle, fun hk3 => ?_⟩
    have q3 : RF (p.at X.K) O H Q (.list acc) := q2
    exact q3 Dd Hc hk3 (e1.trans ec) (e1.none hD) ⟨us, hD2, RepAll.keep ⟨fun b n _ => nn1 b n, fun _ _ _ e _ => e, fun _ _ e => e, fun _ _ _ e => e⟩ acc us r2⟩
  | some d =>
    have hlt : i < ds.length := (List.getElem?_eq_some_iff.mp hd).1
    obtain ⟨go, yl⟩ := t2 d hd
    have hdrop : ds.drop i = d :: ds.drop (i + 1) := by
      rw [List.drop_eq_getElem_cons hlt]
      congr 1
      have := List.getElem?_eq_getElem hlt
      rw [hd] at this
      exact (Option.some.inj this).symm
    rw [hdrop] at q2
    refine .inr ⟨go, fun Hn => Ext (p.at X.K) H1 Hn ∧ ∃ acc us, Hn Dd = some (.lst us) ∧ RepAll X.K (NN (p.at X.K) O1) Hn us acc ∧ Rel (p.at X.K) O1 (wipeE ρ vs) (L2.wipe σ vs) Hn ∧ wComp g t we (wipeE ρ vs) (ds.drop (i + 1)) acc (RF (p.at X.K) O H Q),
      fun H' st => ⟨ds.length - (i + 1), by omega, rfl, hlt, st⟩, fun x H3 y => ?_⟩
    obtain ⟨e3, r3⟩ := yl x H3 y
    refine ⟨wipeE ρ vs, O1, d, (Rc.ext' e3).nox, r3, hg _ _ _ _ (fun ρ3 q3 O3 σ3 k3 n3 s3 l3 R3 => ?_) q2⟩
    refine ⟨(wipe_back hix l3 s3).trans (GX.wipe_wipe σ vs), ρ3, O3, noX, R3, exok_no, mt _ _ _ _ (fun k q4 H4 hk4 e4 => ?_) q3⟩
    have e34 : Ext (p.at X.K) Hc H4 := e3.trans e4.unnox
    have keepD : ∀ {H' : Hp}, Ext (p.at X.K) Hc H' → H' Dd = some (.lst us) := fun {H'} e => e.ob Dd _ hD2 (fun ps z => by cases z) (Rc.own L Dd hL).2.1
    by_cases z : k = true
    · dsimp only
      rw [if_pos z] at q4 ⊢
      refine ⟨ρ3, O3, noX, R3.ext' e4, exok_no, me _ _ _ _ (fun y q5 v H5 hk5 e5 r5 => ?_) q4⟩
      have e35 : Ext (p.at X.K) Hc H5 := e34.trans e5.unnox
      refine ⟨us, keepD e35, by rw [r2.length]; exact q5.1, ?_⟩
      have R5 := Rc.ext' e35
      have R6 := R5.writeH (o := .lst (us ++ [v])) hL lw trivial
      refine ⟨(ec.trans e35).updF hD R6.wd, acc ++ [y], us ++ [v], by unfold L2.upd; rw [if_pos rfl], ?_, R6, q5.2⟩
      have rv : RepV X.K (NN (p.at X.K) O1) H5 v y := by
        -- the target's slots own nothing
        have nn3 : ∀ b, NN (p.at X.K).nox O3 b → NN (p.at X.K) O1 b := fun b n => ⟨n.1, n.2.1, fun j zz => by
          rcases n3 j with e | ⟨hj, _⟩
          · exact n.2.2 j (e.trans zz)
          · have hjv := hix j hj
            rw [none_at j hjv] at zz
            cases zz⟩
        exact RepV.keep ⟨fun b n _ => nn3 b n, fun _ _ _ e _ => e, fun _ _ e => e, fun _ _ _ e => e⟩ y v r5
      have kk : Keeps2 (NN (p.at X.K) O1) (NN (p.at X.K) O1) H5 (upd H5 Dd (.lst (us ++ [v]))) := by
        refine ⟨fun _ n _ => n, fun b ob n e _ => ?_, fun b xs e => ?_, fun b ob xs e => ?_⟩
        · rw [upd_ne (nn1 b n).2]; exact e
        · rw [upd_ne (fun zz => by rw [zz, keepD e35] at e; cases e)]; exact e
        · rw [upd_ne (fun zz => by rw [zz, keepD e35] at e; cases e)]; exact e
      exact RepAll.keep kk _ _ ((r2.ext e35 Rc.wd).append (rall_cons rv rall_nil))
    · dsimp only
      rw [if_neg z] at q4 ⊢
      exact ⟨ec.trans e34, acc, us, keepD e34, r2.ext e34 Rc.wd, Rc.ext' e34, q4⟩
theorem mono_Lc {wi : WI} {g : WG} {t : WT} {we : WE} {vs : List Nat} (hi : MonoA wi) (hg : MonoG g) (ht : MonoT t) (he : MonoE we) : MonoE (wLc wi g t we vs) := fun ρ Q Q' EX h q => hi _ _ _ _ (fun ds q => mono_comp hg ht he ds [] Q Q' h q) q
theorem df_lc {scope : Scope} {own : List (Str × Nat)} {wi : WI} {g : WG} {t : WT} {we : WE} (P : LParts p X elt tg iter ifs scope own wi g t we) : DF p X (.ListComp elt [⟨tg, iter, ifs, 0⟩] scope pos) (wLc wi g t we (own.map (·.2))) := by
  obtain ⟨ix, hix, hg⟩ := P.hg
  have mg := (hg X.s_0 X.H_0 0 [] []).mono
  refine ⟨pe_use (pe_lc P.hc P.hN P.hi.pi P.ok (fun s H C cl fp => (hg s H C cl fp).pg) (fun s H C cl fp => (P.ht s H C cl fp).pts) (fun s H C cl fp => (P.he s H C cl fp).pe) P.hs) fun σ H Q hk ⟨ρ, O, EX, R, ex, hw⟩ => lc_run P hix mg R ex hw, ?_⟩
  exact mono_Lc P.hi.mono mg (P.ht X.s_0 X.H_0 0 [] []).mono (P.he X.s_0 X.H_0 0 [] []).mono
/-- name = [..] on one line -/
theorem ds_setLcO (i : Nat) {y : Str} {py spos : Pos} {scope : Scope} {own : List (Str × Nat)} {wi : WI} {g : WG} {t : WT} {we : WE} (P : LParts p X elt tg iter ifs scope own wi g t we)
    (hsw : swapsWith (.ListComp elt [⟨tg, iter, ifs, 0⟩] scope pos) (some (.Name y py)) spos.line X.env = pure true) (hy : X.N[i]? = some y := by rfl) (hyl : X.env.scope.names.lookup y = some .local := by rfl) :
    DS p X (.Assign [.Name y py] (.ListComp elt [⟨tg, iter, ifs, 0⟩] scope pos) spos) (wSetO i (wLc wi g t we (own.map (·.2)))) := by
  obtain ⟨ix, hix, hg⟩ := P.hg
  have mg := (hg X.s_0 X.H_0 0 [] []).mono
  refine ⟨ps_use (ps_setLc (g := LG (p.at X.K).nox ix g) (tt := LT (p.at X.K).nox t) (te := LE (p.at X.K).nox we) P.hc P.hN hy hyl hsw P.hi.pi P.ok (fun s H C cl fp => (hg s H C cl fp).pg) (fun s H C cl fp => (P.ht s H C cl fp).pts) (fun s H C cl fp => (P.he s H C cl fp).pe) P.hs) fun D σ H hk ⟨ρ, O, EX, R, ex, hw⟩ => ?_,
    mono_SetO (mono_Lc P.hi.mono mg (P.ht X.s_0 X.H_0 0 [] []).mono (P.he X.s_0 X.H_0 0 [] []).mono)⟩
  exact lc_run (Q := fun x H1 => D.nx (σ.set i (some x)) H1) P hix mg R ex (mono_Lc P.hi.mono mg (P.ht X.s_0 X.H_0 0 [] []).mono (P.he X.s_0 X.H_0 0 [] []).mono _ _ _ _ (fun d q a H1 hk1 e1 n r1 => q (put O i a) _ H1 rfl hk1 (R.set_own e1 n r1)) hw)
theorem ds_setLc (i : Nat) {y : Str} {py spos : Pos} {scope : Scope} {own : List (Str × Nat)} {wi : WI} {g : WG} {t : WT} {we : WE} (P : LParts p X elt tg iter ifs scope own wi g t we)
    (hsw : swapsWith (.ListComp elt [⟨tg, iter, ifs, 0⟩] scope pos) (some (.Name y py)) spos.line X.env = pure true) (hy : X.N[i]? = some y := by rfl) (hyl : X.env.scope.names.lookup y = some .local := by rfl) :
    DS p X (.Assign [.Name y py] (.ListComp elt [⟨tg, iter, ifs, 0⟩] scope pos) spos) (wSet i (wLc wi g t we (own.map (·.2)))) := by
  obtain ⟨ix, hix, hg⟩ := P.hg
  have mg := (hg X.s_0 X.H_0 0 [] []).mono
  refine ⟨ps_use (ps_setLc (g := LG (p.at X.K).nox ix g) (tt := LT (p.at X.K).nox t) (te := LE (p.at X.K).nox we) P.hc P.hN hy hyl hsw P.hi.pi P.ok (fun s H C cl fp => (hg s H C cl fp).pg) (fun s H C cl fp => (P.ht s H C cl fp).pts) (fun s H C cl fp => (P.he s H C cl fp).pe) P.hs) fun D σ H hk ⟨ρ, O, EX, R, ex, hw⟩ => ?_,
    mono_Set (mono_Lc P.hi.mono mg (P.ht X.s_0 X.H_0 0 [] []).mono (P.he X.s_0 X.H_0 0 [] []).mono)⟩
  exact lc_run (Q := fun x H1 => D.nx (σ.set i (some x)) H1) P hix mg R ex (mono_Lc P.hi.mono mg (P.ht X.s_0 X.H_0 0 [] []).mono (P.he X.s_0 X.H_0 0 [] []).mono _ _ _ _ (fun d q => RE.f (R.ok hk) fun v H1 hk1 e1 r1 => q (clr O i) _ H1 rfl hk1 ((R.ext' e1).set_d r1)) hw)
end
end DD
set_option maxRecDepth 100000
set_option maxHeartbeats 2000000
/-! SemK: all, any, sum, tuple of generator expressions. -/
namespace DD
open PySem PySem.Spec PyProof.Rows L2 GenW
section
variable {p : Par} {X : Cx} {pos : Pos} {tg e a b c elt iter : Expr} {es ifs : List Expr}
/-- a walk with a consumer's state -/
def wFold {β : Type} (g : WG) (t : WT) (we : WE) (C : β → D → (β → Prop) → Prop) (fin : β → Prop) (ρ : Env') : List D → β → Prop
  | [], s => fin s
  | d :: ds, s => g d ρ fun ρ2 => t ρ2 (fun k => if k = true then we ρ2 (fun y => C s y (wFold g t we C fin ρ ds)) noX else wFold g t we C fin ρ ds s) noX
theorem mono_fold {β : Type} {g : WG} {t : WT} {we : WE} {C C' : β → D → (β → Prop) → Prop} {fin fin' : β → Prop} (hg : MonoG g) (ht : MonoT t) (he : MonoE we) (hC : ∀ s d P P', (∀ s, P s → P' s) → C s d P → C' s d P') (hf : ∀ s, fin s → fin' s) {ρ : Env'} : ∀ (ds : List D) (s : β), wFold g t we C fin ρ ds s → wFold g t we C' fin' ρ ds s
  | [], s, q => hf s q
  | d :: ds, s, q => hg _ _ _ _ (fun ρ2 q => ht _ _ _ _ (fun k q => by
    by_cases z : k = true
    · rw [if_pos z] at q ⊢
      exact he _ _ _ _ (fun y q => hC _ _ _ _ (fun s q => mono_fold hg ht he hC hf ds s q) q) q
    · rw [if_neg z] at q ⊢
      exact mono_fold hg ht he hC hf ds s q) q) q
/-- the parts of a generator expression -/
structure GpD (p : Par) (X : Cx) (k : Nat) (elt tg iter : Expr) (ifs : List Expr) (scope : Scope) (own : List (Str × Nat)) (c P : Addr) (wi : WI) (g : WG) (t : WT) (we : WE) : Prop where
  hr : Room (k + 2) X.A
  TB : GxR.TabB X.base X.mg c P
  hP : P ∈ p.G
  hcode : X.env.code = .ref c
  hN : X.N.Nodup
  hc : X.calm = true
  hi : DI true p X tg iter wi
  ok : BlkOk X.N X.env.scope scope own
  gk : GX.GOk scope
  hg : ∃ ix : List Nat, (∀ i ∈ ix, i ∈ own.map (·.2)) ∧ ∀ (A : Around) (s : Shared) (H : Hp) (C : Addr) (code : Value) (fp : List Addr) (pn : List (Addr × Obj)), Room k A → DG p.nox (GX.gcx X A s H (GX.genv X scope C code) fp pn) tg ix g
  ht : ∀ (A : Around) (s : Shared) (H : Hp) (C : Addr) (code : Value) (fp : List Addr) (pn : List (Addr × Obj)), Room k A → DTs p.nox (GX.gcx X A s H (GX.genv X scope C code) fp pn) ifs t
  he : ∀ (A : Around) (s : Shared) (H : Hp) (C : Addr) (code : Value) (fp : List Addr) (pn : List (Addr × Obj)), Room k A → DE p.nox (GX.gcx X A s H (GX.genv X scope C code) fp pn) elt we
  hs : ∀ v, genFold iter X.env v = pure v
theorem tabbed_ext {p : Par} {H H2 : Hp} {P : Addr} (w : Wd p H) (hP : P ∈ p.G) (h : GxR.Tabbed P H H2) : Ext p H H2 := by
  obtain ⟨⟨ps2, e2, q2⟩, hb⟩ := h
  obtain ⟨ps, e, q⟩ := w.g P hP
  have ob : ∀ b o, H b = some o → (∀ ps, o ≠ .tbl ps) → b ≠ p.r → H2 b = some o := fun b o hbo n _ => by
    rw [hb b (fun z => by rw [z, e] at hbo; cases hbo; exact n _ rfl)]
    exact hbo
  have nr : p.r ≠ P := fun z => by
    obtain ⟨xs, hr⟩ := w.r_some
    rw [z, e] at hr; cases hr
  refine ⟨ob, fun b hn => ?_, w.dj, fun P' hP' => ?_, fun q hq => ?_, ?_⟩
  · by_cases z : b = P
    · rw [z, e2]; simp
    · rw [hb b z]; exact hn
  · by_cases z : P' = P
    · rw [z]; exact ⟨ps2, e2, q2⟩
    · obtain ⟨ps', e', q'⟩ := w.g P' hP'
      exact ⟨ps', by rw [hb P' z]; exact e', q'⟩
  · obtain ⟨ps', e', q', q3⟩ := w.t q hq
    refine ⟨ps', by rw [hb q.1 (w.dj P hP q hq)]; exact e', q', fun pos cv hc => ?_⟩
    obtain ⟨c, e1, e2'⟩ := q3 pos cv hc
    refine ⟨c, e1, ?_⟩
    rw [hb c (fun z => by rw [z, e] at e2'; cases e2')]
    exact e2'
  · obtain ⟨⟨i, s, c, e', q'⟩, hs⟩ := w.row
    refine ⟨⟨i, s, c, by rw [hb p.r nr]; exact e', q'⟩, ?_⟩
    rcases hs with (hs | ⟨o, hs⟩) | hs
    · exact .inl (.inl (by rw [hb p.scr (fun z => by rw [z, e] at hs; cases hs)]; exact hs))
    · exact .inl (.inr ⟨o, by rw [hb p.scr (fun z => by rw [z, e] at hs; cases hs)]; exact hs⟩)
    · exact .inr hs
theorem gx_run {α β : Type} {k : Nat} {scope : Scope} {own : List (Str × Nat)} {c P : Addr} {wi : WI} {g : WG} {t : WT} {we : WE} (G : GpD p X k elt tg iter ifs scope own c P wi g t we) {ix : List Nat} (hix : ∀ i ∈ ix, i ∈ own.map (·.2)) (hg : MonoG g) (mt : MonoT t) (me : MonoE we)
    {C : β → D → (β → Prop) → Prop} {fin : β → Prop} {C' : α → V → Hp → (α → Hp → Prop) → Prop} {fin' : α → Hp → Prop} {a0 : α} {b0 : β} {σ : L2.St} {H : Hp} {O : Own} {ρ : Env'} {EX : EXn} (R : Rel (p.at X.K) O ρ σ H) (ex : ExOk (p.at X.K) EX)
    (Rb : β → α → Hp → Prop) (h0 : ∀ H, Rb b0 a0 H) (hext : ∀ s a H1 H2, Wd (p.at X.K) H1 → Ext (p.at X.K) H1 H2 → Rb s a H1 → Rb s a H2)
    (hC : ∀ s a H' v y Nx (N : β → Prop), Hk X.K H' → Ext (p.at X.K) H H' → Rb s a H' → RepV X.K (NN (p.at X.K) O) H' v y → C s y N → (∀ s' a', Rb s' a' H' → N s' → Nx a' H') → C' a v H' Nx)
    (hf : ∀ s a H', Ext (p.at X.K) H H' → Rb s a H' → fin s → fin' a H')
    (hw : wi ρ (fun ds => wFold g t we C fin (wipeE ρ (own.map (·.2))) ds b0) EX) :
    GX.tGx P (LI true (p.at X.K) wi) (LG (p.at X.K).nox ix g) (LT (p.at X.K).nox t) (LE (p.at X.K).nox we) (own.map (·.2)) a0 C' fin' σ H := by
  generalize hvs : own.map (·.2) = vs at hw hix ⊢
  refine ⟨ρ, O, EX, R, ex, G.hi.mono _ _ _ _ (fun ds q J H1 ks hk1 e1 hks it => ?_) hw⟩
  obtain ⟨L, hLl, hLv⟩ := big ρ.length vs
  refine ⟨e1.wd.g P G.hP, fun H2 tab => ?_⟩
  have e2 : Ext (p.at X.K) H1 H2 := tabbed_ext e1.wd G.hP tab
  have R1 := ((R.ext' e1).ext' e2).wipe (vs := vs) (L := L) hLl
  have nn : ∀ b, NN (p.at X.K) (shf O vs L) b ↔ NN (p.at X.K) O b := fun b => shf_nn
  have none_at : ∀ j ∈ vs, shf O vs L j = none := fun j hj => (if_pos (hLv j hj)).trans (if_pos hj)
  refine ⟨fun i m s Hc => m = ds.length - i ∧ i ≤ ds.length ∧ Ext (p.at X.K) H1 Hc ∧ ∃ s', Rb s' s Hc ∧ Rel (p.at X.K) (shf O vs L) (wipeE ρ vs) (L2.wipe σ vs) Hc ∧ wFold g t we C fin (wipeE ρ vs) (ds.drop i) s',
    ⟨ds.length, rfl, Nat.zero_le _, e2, b0, h0 _, R1, q⟩, ?_⟩
  rintro i m s Hc ⟨rfl, hi', ec, s', rb, Rc, q2⟩
  have held : ∀ x ∈ ks, RepB (p.at X.K) (shf O vs L) Hc x.1 x.2 := fun x hx => by
    have h1 : RepB (p.at X.K) O Hc x.1 x.2 := RepB.ext e1.wd ec (hks x hx)
    have kk : Keeps2 (NN (p.at X.K) O) (NN (p.at X.K) (shf O vs L)) Hc Hc := ⟨fun b n _ => (nn b).mpr n, fun _ _ _ e _ => e, fun _ _ e => e, fun _ _ _ e => e⟩
    rcases h1 with h1 | ⟨a, e, na, h1⟩
    · exact .inl (RepV.keep kk x.2 x.1 h1)
    · exact .inr ⟨a, e, na, RepO.keep kk rfl h1⟩
  obtain ⟨t1, t2⟩ := it (shf O vs L) Hc i Rc.ok0 held
  cases hd : ds[i]? with
  | none =>
    have hle : ds.length ≤ i := List.getElem?_eq_none_iff.mp hd
    rw [List.drop_eq_nil_of_le hle] at q2
    exact .inl ⟨t1 hle, hf s' s Hc (e1.trans ec) rb q2⟩
  | some d =>
    have hlt : i < ds.length := (List.getElem?_eq_some_iff.mp hd).1
    obtain ⟨go, yl⟩ := t2 d hd
    have hdrop : ds.drop i = d :: ds.drop (i + 1) := by
      rw [List.drop_eq_getElem_cons hlt]
      congr 1
      have := List.getElem?_eq_getElem hlt
      rw [hd] at this
      exact (Option.some.inj this).symm
    rw [hdrop] at q2
    refine .inr ⟨go, fun sn Hn => Ext (p.at X.K) H1 Hn ∧ ∃ s', Rb s' sn Hn ∧ Rel (p.at X.K) (shf O vs L) (wipeE ρ vs) (L2.wipe σ vs) Hn ∧ wFold g t we C fin (wipeE ρ vs) (ds.drop (i + 1)) s',
      fun sn H' st => ⟨ds.length - (i + 1), by omega, rfl, hlt, st⟩, fun x H3 y => ?_⟩
    obtain ⟨e3, r3⟩ := yl x H3 y
    refine ⟨wipeE ρ vs, shf O vs L, d, (Rc.ext' e3).nox, r3, hg _ _ _ _ (fun ρ3 q3 O3 σ3 k3 n3 s3 l3 R3 => ?_) q2⟩
    refine ⟨(wipe_back hix l3 s3).trans (GX.wipe_wipe σ vs), ρ3, O3, noX, R3, exok_no, mt _ _ _ _ (fun k q4 H4 hk4 e4 => ?_) q3⟩
    have e34 : Ext (p.at X.K) Hc H4 := e3.trans e4.unnox
    by_cases z : k = true
    · dsimp only
      rw [if_pos z] at q4 ⊢
      refine ⟨ρ3, O3, noX, R3.ext' e4, exok_no, me _ _ _ _ (fun y q5 v H5 hk5 e5 r5 => ?_) q4⟩
      have e35 : Ext (p.at X.K) Hc H5 := e34.trans e5.unnox
      have rv : RepV X.K (NN (p.at X.K) O) H5 v y := by
        refine RepV.keep ⟨fun b n _ => (nn b).mp ⟨n.1, n.2.1, fun j zz => ?_⟩, fun _ _ _ e _ => e, fun _ _ e => e, fun _ _ _ e => e⟩ y v r5
        rcases n3 j with e | ⟨hj, _⟩
        · exact n.2.2 j (e.trans zz)
        · rw [none_at j (hix j hj)] at zz
          cases zz
      refine hC s' s H5 v y _ _ hk5 (e1.trans (ec.trans e35)) (hext _ _ _ _ Rc.wd e35 rb) rv q5 fun s2 a2 rb2 q6 => ?_
      exact ⟨ec.trans e35, s2, rb2, Rc.ext' e35, q6⟩
    · dsimp only
      rw [if_neg z] at q4 ⊢
      exact ⟨ec.trans e34, s', hext _ _ _ _ Rc.wd e34 rb, Rc.ext' e34, q4⟩
theorem tup_new {p : Par} {O : Own} {H H' : Hp} {Q : VK} {ds : List D} {vs : List V} {a : Addr} (q : RE p O H Q (.tuple ds)) (e : Ext p H H') (fr : ∀ a, H a = none → NN p O a) (ha : H' a = none) (r : RepAll p.K (NN p O) H' vs ds) (hk : Hk p.K (upd H' a (.tup vs))) : Q (.ref a) (upd H' a (.tup vs)) :=
  q _ _ hk (e.trans (Ext.new e.wd ha)) (rep_tuple (.of (by unfold L2.upd; rw [if_pos rfl])) (r.ext (Ext.new e.wd ha) e.wd))
theorem GpD.parts {k : Nat} {scope : Scope} {own : List (Str × Nat)} {c P : Addr} {wi : WI} {g : WG} {t : WT} {we : WE} (G : GpD p X k elt tg iter ifs scope own c P wi g t we) {ix : List Nat}
    (hg : ∀ (A : Around) (s : Shared) (H : Hp) (C : Addr) (code : Value) (fp : List Addr) (pn : List (Addr × Obj)), Room k A → DG p.nox (GX.gcx X A s H (GX.genv X scope C code) fp pn) tg ix g) :
    GX.GParts X k elt tg iter ifs scope own c P (LI true (p.at X.K) wi) (LG (p.at X.K).nox ix g) (LT (p.at X.K).nox t) (LE (p.at X.K).nox we) :=
  ⟨G.hr, G.TB, G.hcode, G.hN, G.hc, G.hi.pi, G.ok, G.gk, fun A s H C code fp pn r => (hg A s H C code fp pn r).pg, fun A s H C code fp pn r => (G.ht A s H C code fp pn r).pts, fun A s H C code fp pn r => (G.he A s H C code fp pn r).pe, G.hs⟩
theorem GpD.monos {k : Nat} {scope : Scope} {own : List (Str × Nat)} {c P : Addr} {wi : WI} {g : WG} {t : WT} {we : WE} (G : GpD p X k elt tg iter ifs scope own c P wi g t we) : MonoG g ∧ MonoT t ∧ MonoE we := by
  obtain ⟨ix, _, hg⟩ := G.hg
  have r := G.hr.mono (j := k) (by omega)
  exact ⟨(hg X.A X.s_0 X.H_0 0 .none [] [] r).mono, (G.ht X.A X.s_0 X.H_0 0 .none [] [] r).mono, (G.he X.A X.s_0 X.H_0 0 .none [] [] r).mono⟩
def wGen {β : Type} (wi : WI) (g : WG) (t : WT) (we : WE) (vs : List Nat) (C : (D → Prop) → β → D → (β → Prop) → Prop) (fin : (D → Prop) → β → Prop) (b0 : β) : WE := fun ρ Q EX => wi ρ (fun ds => wFold g t we (C Q) (fin Q) (wipeE ρ vs) ds b0) EX
def cAll (Q : D → Prop) (_ : Unit) (y : D) (N : Unit → Prop) : Prop := ∃ b, y = .bool b ∧ if b = true then N () else Q (.bool false)
def cAny (Q : D → Prop) (_ : Unit) (y : D) (N : Unit → Prop) : Prop := ∃ b, y = .bool b ∧ if b = true then Q (.bool true) else N ()
def cSum (_ : D → Prop) (i : Int) (y : D) (N : Int → Prop) : Prop := ∃ j, y = .int j ∧ N (i + j)
def cTup (_ : D → Prop) (ys : List D) (y : D) (N : List D → Prop) : Prop := ys.length < sizeLine ∧ N (ys ++ [y])
abbrev wAllG (wi : WI) (g : WG) (t : WT) (we : WE) (vs : List Nat) : WE := wGen wi g t we vs cAll (fun Q _ => Q (.bool true)) ()
abbrev wAnyG (wi : WI) (g : WG) (t : WT) (we : WE) (vs : List Nat) : WE := wGen wi g t we vs cAny (fun Q _ => Q (.bool false)) ()
abbrev wSumG (wi : WI) (g : WG) (t : WT) (we : WE) (vs : List Nat) : WE := wGen wi g t we vs cSum (fun Q i => Q (.int i)) 0
abbrev wTupG (wi : WI) (g : WG) (t : WT) (we : WE) (vs : List Nat) : WE := wGen wi g t we vs cTup (fun Q ys => ys.length ≤ sizeLine ∧ Q (.tuple ys)) []
theorem mono_all : ∀ (Q Q' : D → Prop), (∀ d, Q d → Q' d) → ∀ s d (P P' : Unit → Prop), (∀ s, P s → P' s) → cAll Q s d P → cAll Q' s d P' := fun Q Q' h s d P P' hp ⟨b, e, q⟩ => ⟨b, e, by
  by_cases z : b = true
  · rw [if_pos z] at q ⊢; exact hp _ q
  · rw [if_neg z] at q ⊢; exact h _ q⟩
theorem mono_any : ∀ (Q Q' : D → Prop), (∀ d, Q d → Q' d) → ∀ s d (P P' : Unit → Prop), (∀ s, P s → P' s) → cAny Q s d P → cAny Q' s d P' := fun Q Q' h s d P P' hp ⟨b, e, q⟩ => ⟨b, e, by
  by_cases z : b = true
  · rw [if_pos z] at q ⊢; exact h _ q
  · rw [if_neg z] at q ⊢; exact hp _ q⟩
variable {k : Nat} {scope : Scope} {own : List (Str × Nat)} {cc P : Addr} {wi : WI} {g : WG} {t : WT} {we : WE} {q gpos : Pos}
theorem de_all (G : GpD p X k elt tg iter ifs scope own cc P wi g t we) (hm : X.mg "all" = none) (hgl : Gl X "all" := by rfl) : DE p X (.Call (.Name "all" q) [.GeneratorExp elt [⟨tg, iter, ifs, 0⟩] scope gpos] [] pos) (wAllG wi g t we (own.map (·.2))) := by
  obtain ⟨ix, hix, hg⟩ := G.hg
  obtain ⟨m1, m2, m3⟩ := G.monos
  refine ⟨pe_use (GX.pe_all (G.parts hg) hgl hm) fun σ H Q hk ⟨ρ, O, EX, R, ex, hw⟩ => ?_, fun ρ Q Q' EX h q => G.hi.mono _ _ _ _ (fun ds q => mono_fold m1 m2 m3 (fun s d P P' hp q => mono_all Q Q' h s d P P' hp q) (fun s q => h _ q) ds () q) q⟩
  refine gx_run (β := Unit) (C := cAll (RE (p.at X.K) O H Q)) (fin := fun _ => RE (p.at X.K) O H Q (.bool true)) (b0 := ()) G hix m1 m2 m3 R ex (fun _ _ _ => True) (fun _ => trivial) (fun _ _ _ _ _ _ _ => trivial) (fun s a H' v y Nx N hk' e' _ rv hc hn => ?_) (fun s a H' e' _ hf hk' => hf _ H' hk' e' rep_bool) hw
  obtain ⟨b, rfl, hc⟩ := hc
  rw [(RepV.b (p := p.at X.K) (O := O) rv).bool]
  refine ⟨b, rfl, fun z hk2 => ?_, fun z => ?_⟩
  · rw [z, if_neg Bool.false_ne_true] at hc
    exact hc _ H' hk' e' rep_bool
  · rw [z, if_pos rfl] at hc
    exact hn _ _ trivial hc
theorem de_any (G : GpD p X k elt tg iter ifs scope own cc P wi g t we) (hm : X.mg "any" = none) (hgl : Gl X "any" := by rfl) : DE p X (.Call (.Name "any" q) [.GeneratorExp elt [⟨tg, iter, ifs, 0⟩] scope gpos] [] pos) (wAnyG wi g t we (own.map (·.2))) := by
  obtain ⟨ix, hix, hg⟩ := G.hg
  obtain ⟨m1, m2, m3⟩ := G.monos
  refine ⟨pe_use (GX.pe_any (G.parts hg) hgl hm) fun σ H Q hk ⟨ρ, O, EX, R, ex, hw⟩ => ?_, fun ρ Q Q' EX h q => G.hi.mono _ _ _ _ (fun ds q => mono_fold m1 m2 m3 (fun s d P P' hp q => mono_any Q Q' h s d P P' hp q) (fun s q => h _ q) ds () q) q⟩
  refine gx_run (β := Unit) (C := cAny (RE (p.at X.K) O H Q)) (fin := fun _ => RE (p.at X.K) O H Q (.bool false)) (b0 := ()) G hix m1 m2 m3 R ex (fun _ _ _ => True) (fun _ => trivial) (fun _ _ _ _ _ _ _ => trivial) (fun s a H' v y Nx N hk' e' _ rv hc hn => ?_) (fun s a H' e' _ hf hk' => hf _ H' hk' e' rep_bool) hw
  obtain ⟨b, rfl, hc⟩ := hc
  rw [(RepV.b (p := p.at X.K) (O := O) rv).bool]
  refine ⟨b, rfl, fun z hk2 => ?_, fun z => ?_⟩
  · rw [z, if_pos rfl] at hc
    exact hc _ H' hk' e' rep_bool
  · rw [z, if_neg Bool.false_ne_true] at hc
    exact hn _ _ trivial hc
theorem de_sumG (G : GpD p X k elt tg iter ifs scope own cc P wi g t we) (hm : X.mg "sum" = none) (hgl : Gl X "sum" := by rfl) : DE p X (.Call (.Name "sum" q) [.GeneratorExp elt [⟨tg, iter, ifs, 0⟩] scope gpos] [] pos) (wSumG wi g t we (own.map (·.2))) := by
  obtain ⟨ix, hix, hg⟩ := G.hg
  obtain ⟨m1, m2, m3⟩ := G.monos
  refine ⟨pe_use (GX.pe_sum (G.parts hg) hgl hm) fun σ H Q hk ⟨ρ, O, EX, R, ex, hw⟩ => ?_, fun ρ Q Q' EX h q => G.hi.mono _ _ _ _ (fun ds q => mono_fold m1 m2 m3 (fun s d P P' hp ⟨j, e, q⟩ => ⟨j, e, hp _ q⟩) (fun s q => h _ q) ds 0 q) q⟩
  refine gx_run (β := Int) (C := cSum (RE (p.at X.K) O H Q)) (fin := fun i => RE (p.at X.K) O H Q (.int i)) (b0 := 0) G hix m1 m2 m3 R ex (fun i j _ => i = j) (fun _ => rfl) (fun _ _ _ _ _ _ h => h) (fun s a H' v y Nx N hk' e' rb rv hc hn => ?_) (fun s a H' e' rb hf hk' => by subst rb; exact hf _ H' hk' e' rep_int) hw
  obtain ⟨j, rfl, hc⟩ := hc
  subst rb
  rw [(RepV.b (p := p.at X.K) (O := O) rv).int]
  exact ⟨j, rfl, hn _ _ rfl hc⟩
theorem de_tupG (G : GpD p X k elt tg iter ifs scope own cc P wi g t we) (hm : X.mg "tuple" = none) (hgl : Gl X "tuple" := by rfl) : DE p X (.Call (.Name "tuple" q) [.GeneratorExp elt [⟨tg, iter, ifs, 0⟩] scope gpos] [] pos) (wTupG wi g t we (own.map (·.2))) := by
  obtain ⟨ix, hix, hg⟩ := G.hg
  obtain ⟨m1, m2, m3⟩ := G.monos
  refine ⟨pe_use (GX.pe_tupG (G.parts hg) hgl hm) fun σ H Q hk ⟨ρ, O, EX, R, ex, hw⟩ => ?_, fun ρ Q Q' EX h q => G.hi.mono _ _ _ _ (fun ds q => mono_fold m1 m2 m3 (fun s d P P' hp q => ⟨q.1, hp _ q.2⟩) (fun s q => ⟨q.1, h _ q.2⟩) ds [] q) q⟩
  refine gx_run (β := List D) (C := cTup (RE (p.at X.K) O H Q)) (fin := fun ys => ys.length ≤ sizeLine ∧ RE (p.at X.K) O H Q (.tuple ys)) (b0 := []) G hix m1 m2 m3 R ex (fun ys vs H => RepAll X.K (NN (p.at X.K) O) H vs ys) (fun _ => rall_nil) (fun s a H1 H2 w e r => RepAll.ext e w r) (fun s a H' v y Nx N hk' e' rb rv hc hn => ?_) (fun s a H' e' rb hf => ?_) hw
  · exact ⟨by rw [rb.length]; exact hc.1, hn _ _ (rb.append (rall_cons rv rall_nil)) hc.2⟩
  · exact ⟨by rw [rb.length]; exact hf.1, fun c hc hk2 => tup_new hf.2 e' (fun a ha => R.fresh0 ha) hc rb hk2⟩
end
end DD
set_option maxRecDepth 100000
set_option maxHeartbeats 2000000
/-! SemL: defs as data: their promises, their calls. -/
namespace DD
open PySem PySem.Spec PyProof.Rows L2 GenW
/-- a def as data -/
abbrev FD := List W → (D → Prop) → EXn → Prop
def MonoF (f : FD) : Prop := ∀ ws Q Q' EX, (∀ d, Q d → Q' d) → f ws Q EX → f ws Q' EX
/-- the parameters of a body that was entered at H -/
abbrev Par.inn (S : Par) (N : Addr → Prop) (H : Hp) (E : XK) : Par := { S with N := N, H0 := H, E := E }
def SpD (S : Par) (f : FD) : Sp := fun vs H Q E => ∃ (N : Addr → Prop) (ws : List W) (EX : EXn), Wd S H ∧ (∀ a, N a → a ≠ S.r) ∧ Paired (RepW S N H) vs ws ∧
  f ws (fun d => ∀ v H', Ext S H H' → RepV S.K (NN (S.inn N H E) noOwn) H' v d → Q v H') EX ∧ ∀ x cls dd H', EX x → Ext S H H' → ExnAt S H' x cls dd → E cls dd H'
/-- the same world -/
structure Like (p q : Par) : Prop where
  K : p.K = q.K
  T : p.T = q.T
  G : p.G = q.G
  r : p.r = q.r
  scr : p.scr = q.scr
  ns : p.ns = q.ns
  b : p.cBad = q.cBad
  u : p.cUnr = q.cUnr
theorem Like.inn {S : Par} {N : Addr → Prop} {H : Hp} {E : XK} : Like (S.inn N H E) S := ⟨rfl, rfl, rfl, rfl, rfl, rfl, rfl, rfl⟩
theorem Like.nox {p S : Par} (h : Like p S) : Like p.nox S := ⟨h.K, h.T, h.G, h.r, h.scr, h.ns, h.b, h.u⟩
theorem Like.symm {p S : Par} (h : Like p S) : Like S p := ⟨h.K.symm, h.T.symm, h.G.symm, h.r.symm, h.scr.symm, h.ns.symm, h.b.symm, h.u.symm⟩
theorem Wd.like {p q : Par} {H : Hp} (w : Wd p H) (l : Like p q) : Wd q H := by
  obtain ⟨w0, w1, w2, w3⟩ := w
  exact ⟨by rw [← l.G, ← l.T]; exact w0, by rw [← l.G]; exact w1, by rw [← l.T]; exact w2, by rw [← l.K, ← l.scr, ← l.ns, ← l.r]; exact w3⟩
theorem Ext.like {p q : Par} {H H' : Hp} (e : Ext p H H') (l : Like p q) : Ext q H H' := ⟨fun b o e1 n m => e.ob b o e1 n (by rw [l.r]; exact m), e.dom, e.wd.like l⟩
theorem ExnAt.like {p q : Par} {H : Hp} {x : Exn} {cls : Value} {dd : Option Addr} (h : ExnAt p H x cls dd) (l : Like p q) : ExnAt q H x cls dd := by
  cases x with
  | bad n => obtain ⟨h1, h2⟩ := h; exact ⟨by rw [← l.b]; exact h1, h2⟩
  | unread o y => obtain ⟨h1, h2⟩ := h; exact ⟨by rw [← l.u]; exact h1, h2⟩
/-- what is let out of X is what p wishes -/
def XP (p : Par) (X : Cx) : Prop := Passes (L2.CX X.prog X.w) X p.E
theorem xp_of {p : Par} {X : Cx} (tk : Takes X (fun cls d _ H => p.E cls d H)) : XP p X := passes_call tk fun _ _ _ _ h => h
theorem xp_nox {p : Par} {X : Cx} : XP p.nox X := fun pins σ H s e s' I c => by
  obtain ⟨a, B, H', cls, d, _, _, _, _, _, _, _, z⟩ := c
  exact z.elim
/-! ### a def's body -/
def mkF (n m : Nat) (w : WS) : FD := fun ws Q EX => ws.length = n ∧ w { nx := fun _ => Q .none, rt := Q, ex := EX } (ws.map some ++ List.replicate (m - n) none)
theorem mono_mkF {n m : Nat} {w : WS} (h : MonoS w) : MonoF (mkF n m w) := fun ws Q Q' EX hh ⟨e, q⟩ => ⟨e, h { nx := fun _ => Q .none, rt := Q, ex := EX } _ _ ⟨fun _ q => hh _ q, fun _ q => hh _ q, fun _ q => q, fun _ q => q, rfl⟩ q⟩
/-- a def of the text, its code object known -/
structure FunC (K : PySem.W.Frag) (x qual : Str) (st : Stmt) (f : Addr) (fd : FuncData) (cdv : Value) : Prop where
  ex : ∃ (oc : Value) (od : Option Addr) (kV doc pm : Value) (an : Option Addr) (ct : Value) (osl : Array (Option Value)),
    fd = PySem.W.fnOf x qual (defArgs st) (defBody st) (defScope st) .none kV doc pm an cdv ct ∧ K.lookup f = some ⟨oc, od, .func fd, osl⟩ ∧ PySem.W.codeIn K cdv qual = true
  kp : PySem.W.keepIn K (.ref f) = true
theorem funC_mk {K : PySem.W.Frag} {x qual : Str} {st : Stmt} {f : Addr} {oc : Value} {od an : Option Addr} {osl : Array (Option Value)} {kV doc pm cdv ct : Value} (l : K.lookup f = some ⟨oc, od, .func (PySem.W.fnOf x qual (defArgs st) (defBody st) (defScope st) .none kV doc pm an cdv ct), osl⟩)
    (c : PySem.W.codeIn K cdv qual = true) (k : PySem.W.keepIn K (.ref f) = true) : FunC K x qual st f (PySem.W.fnOf x qual (defArgs st) (defBody st) (defScope st) .none kV doc pm an cdv ct) cdv := ⟨⟨oc, od, kV, doc, pm, an, ct, osl, rfl, l, c⟩, k⟩
theorem FunC.binds {K : PySem.W.Frag} {x qual : Str} {st : Stmt} {f : Addr} {fd : FuncData} {cdv : Value} {ps : List Str} (F : FunC K x qual st f fd cdv)
    (h : ∀ (kV doc pm : Value) (an : Option Addr) (cdv ct : Value) (us : List Value), us.length = ps.length → bindArgs (PySem.W.fnOf x qual (defArgs st) (defBody st) (defScope st) .none kV doc pm an cdv ct) ⟨us, []⟩ = pure (ps.zip us)) : Binds K fd ps [] := by
  obtain ⟨oc, od, kV, doc, pm, an, ct, osl, rfl, lk, hcd⟩ := F.ex
  exact .all (h kV doc pm an cdv ct)
theorem paired_len {α β : Type} {R : α → β → Prop} : ∀ {l : List α} {m : List β}, Paired R l m → l.length = m.length
  | _, _, .nil => rfl
  | _, _, .cons _ t => by rw [List.length_cons, List.length_cons, paired_len t]
theorem paired_at {α β : Type} {R : α → β → Prop} : ∀ {l : List α} {m : List β} {i : Nat} {b : β}, Paired R l m → m[i]? = some b → ∃ a, l[i]? = some a ∧ R a b
  | _, _, _, _, .nil, e => by simp at e
  | _, _, 0, _, .cons r _, e => by simp at e; subst e; exact ⟨_, rfl, r⟩
  | _, _, i + 1, b, .cons _ t, e => by
    obtain ⟨a, h1, h2⟩ := paired_at (i := i) (b := b) t (by simpa using e)
    exact ⟨a, by simpa using h1, h2⟩
abbrev bodyCx (P : Program) (w0 : World) (K : PySem.W.Frag) (mg : Str → Option Value) (base : Heap) (N : List Str) (qual : Str) (st : Stmt) (f : Addr) (cdv : Value) (A : Around) (outer : List Env) (s : Shared) (H : Hp) (E : XK) : Cx :=
  cxOf (L2.CX P w0) P w0 K mg base N qual (defScope st) f cdv A outer s H E
theorem body_xp {P : Program} {w0 : World} {K : PySem.W.Frag} {mg : Str → Option Value} {base : Heap} {N : List Str} {qual : Str} {st : Stmt} {f : Addr} {cdv : Value} {A : Around} {outer : List Env} {s : Shared} {H : Hp} {E : XK} {S : Par} {N0 : Addr → Prop} : XP (S.inn N0 H E) (bodyCx P w0 K mg base N qual st f cdv A outer s H E) :=
  xp_of (takes_of (E := E) rfl rfl rfl rfl)
theorem body_own {P : Program} {w0 : World} {K : PySem.W.Frag} {mg : Str → Option Value} {base : Heap} {N : List Str} {qual : Str} {st : Stmt} {f : Addr} {cdv : Value} {A : Around} {outer : List Env} {s : Shared} {H : Hp} {E : XK} : PassesOwn (model P w0) (bodyCx P w0 K mg base N qual st f cdv A outer s H E).A (bodyCx P w0 K mg base N qual st f cdv A outer s H E).env (bodyCx P w0 K mg base N qual st f cdv A outer s H E).xe :=
  PassesOwn.leaving
theorem fn_D {P : Program} {w0 : World} {K : PySem.W.Frag} {mg : Str → Option Value} {base : Heap} {S : Par} {x qual : Str} {st : Stmt} {f : Addr} {fd : FuncData} {cdv : Value} {N ps : List Str} {k : Nat} {w : WS} (F : FunC K x qual st f fd cdv) (hK : S.K = K) (Sc : FnScope N ps (defScope st))
    (body : ∀ (N0 : Addr → Prop) (A : Around) (outer : List Env) (s : Shared) (H : Hp) (E : XK), Room k (A.deeper (envOfC qual (defScope st) s.heap.objs.size f cdv)) → DSs (S.inn N0 H E) (bodyCx P w0 K mg base N qual st f cdv A outer s H E) (defBody st) w) :
    FnOk P w0 K mg base (L2.CX P w0) (k + 1) f fd ps (SpD S (mkF ps.length N.length w)) := by
  obtain ⟨oc, od, kV, doc, pm, an, ct, osl, rfl, lk, hcd⟩ := F.ex
  refine fn_of lk hcd Sc (fun vs H Q E ⟨N0, ws, EX, _, _, hp, hf, _⟩ => ?_) fun A outer s H vs Q E hr ⟨N0, ws, EX, wd, hn, hp, hf, hx⟩ => ?_
  · rw [paired_len hp]; exact hf.1
  · have b := body N0 A outer s H E hr
    obtain ⟨hl, hw⟩ := hf
    have hvl := paired_len hp
    have hNl : ps.length ≤ N.length := by
      have := congrArg List.length Sc.pre
      rw [List.length_take] at this
      omega
    refine ⟨_, b.ps, ?_⟩
    have wd' : Wd (S.inn N0 H E) H := wd.like Like.inn.symm
    have R : Rel (S.inn N0 H E) noOwn (ws.map some ++ List.replicate (N.length - ps.length) none) (L2.start N vs) H := by
      refine ⟨wd', Ext.refl wd', ?_, fun i w hi => ?_, fun i j a h _ => (by cases h), fun x hx => (by cases hx), fun i a h => (by cases h)⟩
      · unfold L2.start
        simp
        omega
      · have hi2 : ws[i]? = some w := by
          by_cases hlt : i < ws.length
          · rw [List.getElem?_append_left (by simpa using hlt), List.getElem?_map] at hi
            cases q : ws[i]? with
            | none => rw [q] at hi; cases hi
            | some u => rw [q] at hi; simpa using hi
          · rw [List.getElem?_append_right (by simpa using Nat.le_of_not_lt hlt), List.getElem?_replicate] at hi
            split at hi <;> cases hi
        obtain ⟨v, hv, rv⟩ := paired_at hp hi2
        have hs : (L2.start N vs)[i]? = some (some v) := by
          unfold L2.start
          have hlt : i < vs.length := (List.getElem?_eq_some_iff.mp hv).1
          rw [List.getElem?_append_left (by simpa using hlt), List.getElem?_map, hv]
          rfl
        cases w with
        | d x =>
          refine ⟨v, hs, RepV.keep ⟨fun a n _ => ⟨.inl n, hn a n, fun i z => by cases z⟩, fun _ _ _ e _ => e, fun _ _ e => e, fun _ _ _ e => e⟩ x v rv⟩
        | own x => exact (show False from rv).elim
        | row =>
          have rv : v = .ref S.r := rv
          rw [hs, rv]
          rfl
    have R2 : Rel ((S.inn N0 H E).at K) noOwn (ws.map some ++ List.replicate (N.length - ps.length) none) (L2.start N vs) H := by
      subst hK
      exact R
    refine ⟨_, noOwn, EX, R2, fun y cls dd H' h1 h2 h3 => ?_, ?_⟩
    · subst hK
      exact hx y cls dd H' h1 (h2.like Like.inn) (h3.like Like.inn)
    · subst hK
      exact b.mono { nx := fun _ => ∀ v H', Ext S H H' → RepV S.K (NN (S.inn N0 H E) noOwn) H' v .none → Q v H', rt := fun d => ∀ v H', Ext S H H' → RepV S.K (NN (S.inn N0 H E) noOwn) H' v d → Q v H', ex := EX } _ _
        ⟨fun ρ q O' σ' H' _ _ R' => q .non H' (R'.ext.like Like.inn) rep_none, fun d q v H' _ e r => q v H' (e.like Like.inn) r, fun ρ q => q.elim, fun ρ q => q.elim, rfl⟩ hw
/-! ### calls -/
section
variable {p S : Par} {X : Cx} {pos : Pos} {e : Expr} {es : List Expr}
def wCall (f : FD) (ww : WW) : WE := fun ρ Q EX => ww ρ (fun ws => f ws Q EX) EX
theorem call_run {f : FD} (hf : MonoF f) (hl : Like p S) {O : Own} {ρ : Env'} {σ : L2.St} {H H1 : Hp} {EX : EXn} {vs : List V} {ws : List W} {Q : VK} (R : Rel p O ρ σ H) (ex : ExOk p EX) (e1 : Ext p H H1) (r1 : Paired (RepW p (NN p O) H1) vs ws) (q : f ws (RE p O H Q) EX) :
    SpD S f vs H1 (fun v H' => Hk p.K H' → Q v H') p.E := by
  refine ⟨NN p O, ws, EX, e1.wd.like hl, fun a n => by rw [← hl.r]; exact n.2.1, ?_, hf _ _ _ _ (fun d q v H' e2 r2 hk => q v H' hk (e1.trans (e2.like hl.symm)) ?_) q, fun x cls dd H' h1 h2 h3 => ex x cls dd H' h1 ((R.ext.trans e1).trans (h2.like hl.symm)) (h3.like hl.symm)⟩
  · refine Paired.mapP r1 fun v w h => ?_
    cases w with
    | d x =>
      have h : RepV p.K (NN p O) H1 v x := h
      show RepV S.K (NN p O) H1 v x
      rw [← hl.K]; exact h
    | own x => exact h
    | row =>
      have h : v = .ref p.r := h
      show v = .ref S.r
      rw [← hl.r]; exact h
  · rw [hl.K]
    refine RepV.keep ⟨fun a n _ => ?_, fun _ _ _ e _ => e, fun _ _ e => e, fun _ _ _ e => e⟩ d v r2
    rcases n.1 with n1 | n1
    · exact n1
    · exact (R.ext' e1).fresh0 n1
theorem de_call {f : FD} {x : Str} {g : Addr} {fd : FuncData} {ps : List Str} {k : Nat} {ww : WW} {q : Pos} (F : FnOk X.prog X.w X.K X.mg X.base (L2.CX X.prog X.w) k g fd ps (SpD S f)) (hf : MonoF f) (hl : Like (p.at X.K) S) (hr : Room k X.A) (hm : X.mg x = some (.ref g)) (hk : PySem.W.keepIn X.K (.ref g) = true) (hb : Binds X.K fd ps []) (hx : XP p X)
    (ha : DWs p X (e :: es) ww) (hg : Gl X x := by rfl) (hdb : (x == ("__debug__" : Str)) = false := by decide) (he : starEach (e :: es) X.env = (false, eval e X.env) :: starEach es X.env := by rfl) (hpl : (backTo pos (starEach es X.env)).any (·.1) = false := by rfl) :
    DE p X (.Call (.Name x q) (e :: es) [] pos) (wCall f ww) :=
  ⟨pe_use (pe_call (dvs := []) F hr hg hm hk hb .nil hx ha.pa hdb he hpl) fun σ H Q hk ⟨ρ, O, EX, R, ex, hw⟩ => ⟨ρ, O, EX, R, ex, ha.mono _ _ _ _ (fun ws q vs H1 hk1 e1 r1 => by
    show SpD S f (vs ++ []) H1 _ _
    rw [List.append_nil]
    exact call_run hf hl R ex e1 r1 q) hw⟩, fun ρ Q Q' EX h q => ha.mono _ _ _ _ (fun ws q => hf _ _ _ _ h q) q⟩
theorem de_call0 {f : FD} {x : Str} {g : Addr} {fd : FuncData} {ps : List Str} {k : Nat} {q : Pos} (F : FnOk X.prog X.w X.K X.mg X.base (L2.CX X.prog X.w) k g fd ps (SpD S f)) (hf : MonoF f) (hl : Like (p.at X.K) S) (hr : Room k X.A) (hm : X.mg x = some (.ref g)) (hk : PySem.W.keepIn X.K (.ref g) = true) (hb : Binds X.K fd ps []) (hx : XP p X)
    (hg : Gl X x := by rfl) (hdb : (x == ("__debug__" : Str)) = false := by decide) :
    DE p X (.Call (.Name x q) [] [] pos) (wCall f wwNil) :=
  ⟨pe_use (pe_call0 (dvs := []) F hr hg hm hk hb .nil hx hdb) fun σ H Q hk ⟨ρ, O, EX, R, ex, hw⟩ => by
    show SpD S f ([] ++ []) H _ _
    exact call_run hf hl R ex (Ext.refl R.wd) .nil hw, fun ρ Q Q' EX h q => hf _ _ _ _ h q⟩
end
end DD
set_option maxRecDepth 100000
set_option maxHeartbeats 4000000
/-! SemM: BadArgument: an own error whose __init__ calls super().__init__(f'..') and keeps its name. -/
namespace DD
open PySem PySem.Spec PyProof.Rows L2
def badA (p1 p2 : Pos) : Arguments := { posonlyargs := [], args := [{ arg := "self", annotation := none, pos := p1 }, { arg := "name", annotation := none, pos := p2 }], vararg := none, kwonlyargs := [], kw_defaults := [], kwarg := none, defaults := [] }
def badB (msg : Str) (j : Nat) (q1 q2 q3 q4 q5 q6 q7 q8 q9 q10 q11 q12 q13 : Pos) : List Stmt :=
  [.Expr (.Call (.Attribute (.Call (.Name "super" q1) [] [] q2) "__init__" q3) [.JoinedStr [.Constant (.str msg) j q4, .FormattedValue (.Name "name" q5) (-1) none q6] q7] [] q8) q9, .Assign [.Attribute (.Name "self" q10) "name" q11] (.Name "name" q12) q13]
def badS : Scope := { kind := .function, names := [(PySem.Str.ofString "self", .local), (PySem.Str.ofString "name", .local), (PySem.Str.ofString "__class__", .free), (PySem.Str.ofString "super", .globalImplicit)], isGenerator := false, isCoroutine := false, more := [] }
abbrev excC (nm q : Str) (C N : Addr) (bs bm : List Value) (sn : List Str) (sub : List Value) (ab : Bool) (col : Option Bool) (dd : Option Addr) (k0 k1 k2 k3 k5 : Option Value) : Obj := excClassObj nm q C N bs bm true sn sub ab col dd k0 k1 k2 k3 k5 "ValueError.__new__"
/-- what the written part says of BadArgument, at C, and of its __init__, at fI -/
structure BadTxt (P : Program) (K : PySem.W.Frag) (mg : Str → Option Value) (C fI cc : Addr) : Prop where
  gC : mg "BadArgument" = some (.ref C)
  gS : mg "super" = none
  cls : ∃ nm q N bs bm sn sub ab col dd k0 k1 k2 k3 k5, K.lookup C = some (excC nm q C N bs bm sn sub ab col dd k0 k1 k2 k3 k5) ∧ PySem.HandSPX.refsVE bm = true
  sup : PySem.W.ks_superIn K C C "__init__" = some (some (.builtin "ValueError.__init__"))
  sa : PySem.W.findIn K (.ref C) "__setattr__" = some (some (.builtin "object.__setattr__"))
  noN : PySem.W.findIn K (.ref C) "name" = some none
  iC : PySem.W.findIn K (.ref C) "__init__" = some (some (.ref fI))
  tC : PySem.W.typeIn K (.ref fI) = some (.type "function")
  kC : PySem.W.keepIn K (.ref C) = true
  exC : PySem.W.subIn K (.ref C) (.type "BaseException") = some true
  veC : PySem.W.subIn K (.ref C) (.type "ValueError") = some true
  tyC : PySem.W.typeIn K (.ref C) = some (.type "type")
  own : PySem.W.nsIn K cStatics "thirdparty.any" = some none
  top : (P.main.scope.names.lookup ("super" : Str)).isSome = false
  fn : ∃ (oc : Value) (od : Option Addr) (doc pm : Value) (an : Option Addr) (cda : Addr) (ct : Value) (osl : Array (Option Value)) (msg : Str) (j : Nat) (p1 p2 q1 q2 q3 q4 q5 q6 q7 q8 q9 q10 q11 q12 q13 : Pos) (ccl : Value) (cdd : Option Addr) (vs : Array Value) (ccs : Array (Option Value)) (file : Str) (tf : Tok),
    K.lookup fI = some ⟨oc, od, .func (PySem.W.ksFn "__init__" "BadArgument.__init__" (badA p1 p2) (badB msg j q1 q2 q3 q4 q5 q6 q7 q8 q9 q10 q11 q12 q13) badS .none .none doc pm an (.ref cda) ct cc), osl⟩ ∧ PySem.W.codeIn K (.ref cda) "BadArgument.__init__" = true ∧
      K.lookup cda = some ⟨ccl, cdd, .fields vs, ccs⟩ ∧ vs[2]? = some (.str file tf) ∧ ((P.main.file : Str) == file) = true ∧ msg.length ≤ 100 ∧ (q3.endLine == q8.line) = true
  cell : ∃ (cl : Value) (cld : Option Addr) (csl : Array (Option Value)), K.lookup cc = some ⟨cl, cld, .cell (some (.ref C)), csl⟩
end DD
namespace PySem
namespace BadX
open PySem.W PySem.Calls PyProof.Rows PySem.HandSPX DD
/-- what __init__ leaves of a fresh exception at x -/
structure InitEnd (h h' : Heap) (x C dx t1 : Addr) (v : Value) : Prop where
  keep : ∀ b o, b ≠ x → h.get? b = some o → h'.get? b = some o
  obj : h'.get? x = some { cls := .ref C, dict := some dx, data := .fields #[.ref t1, .none, .none, .none, .bool false, .none] }
  dbig : h.objs.size ≤ dx
  dne : dx ≠ x
  ns : h'.Ns1 dx (fun y => if y = "name" then some v else none)
section
variable {prog : Program} {w : World} {A : Around} {E : Value → Shared → Prop} {R : Result → Shared → Prop} {s : Shared} {K : Frag} {mg mb : Str → Option Value} {C fI cc : Addr}
/-- the wrapper of ValueError.__init__ called -/
theorem call_mw {nm q : Str} {N : Addr} {bs bm : List Value} {sn : List Str} {sub : List Value} {ab : Bool} {col : Option Bool} {dd : Option Addr} {k0 k1 k2 k3 k5 : Option Value} {h : Heap} {g : Array GenState} {d : Drawn} {t : Nat} {os : OsState} {u e t0 : Addr} {rest : List Value} {Q : Value → Shared → Prop}
    (hC : h.get? C = some (excC nm q C N bs bm sn sub ab col dd k0 k1 k2 k3 k5)) (he : h.get? e = some (excO C t0)) (hu : h.get? u = some (kxs_mw "ValueError.__init__" e)) (hrest : rest.length ≤ sizeLine)
    (hq : ∀ h' t1, (∀ b o, b ≠ e → h.get? b = some o → h'.get? b = some o) → h'.get? e = some (excO C t1) → Q .none ⟨h', g, d, t, os⟩) :
    wpAny (model prog w) A (call (.ref u) rest) Q E ⟨h, g, d, t, os⟩ := by
  refine wpAny_call (codeAny_of_tree ?_)
  show wpAny _ A.in1 (callAny (.ref u) ⟨rest, []⟩) _ _ _
  simp only [callAny]
  refine wpAny_bind (wpAny_load hu ?_)
  simp only [kxs_mw, show (Value.type "method-wrapper" == Value.type "method" || Value.type "method-wrapper" == Value.type "builtin_function_or_method" || Value.type "method-wrapper" == Value.type "method-wrapper") = true by decide, if_true]
  refine KFB.if_so (by decide) ?_
  refine wpAny_bind (check_bound_init F.excBase_ValueError.toExcCallFacts hC he rfl ?_)
  refine wpAny_bind (wpAny_pure (wpAny_pure ?_))
  refine ⟨plainId_quiet F.excBase_ValueError.init.plain _, codeAny_builtin F.excBase_ValueError.initEntry ?_⟩
  exact exc_init_tree (cls := .ref C) (t0 := t0) (dv := none) (c2 := .none) (c3 := .none) (b4 := .bool false) he hrest fun h' k e' _ => hq h' _ k e'
theorem bad_init (T : BadTxt prog K mg C fI cc) {x t0 : Addr} {n : Str} {tn : Tok} (X : K.In s.heap) (hlim : s.heap.NoLimit) (hglob : s.heap.Ns mainGlobals mg) (hb : s.heap.Ns builtinsNs mb) (hbs : mb "super" = some (.type "super")) (hx : s.heap.get? x = some (excO C t0)) (hnx : K.lookup x = none) (hroom : A.depth < recursionLimit) (hn : n.length ≤ 1000)
    (hq : ∀ h' tk t1 dx, InitEnd s.heap h' x C dx t1 (.str n tn) → R (.ok (.ret .none)) { s with heap := h', toks := tk }) :
    codeAny (model prog w) A (.call (.ref fI) ⟨[.ref x, .str n tn], []⟩) R s := by
  obtain ⟨oc, od, doc, pm, an, cda, ct, osl, msg, j, p1, p2, q1, q2, q3, q4, q5, q6, q7, q8, q9, q10, q11, q12, q13, ccl, cdd, vs, ccs, file, tf, ho, hcd, hca, hvs, hfile, hmsg, hline⟩ := T.fn
  obtain ⟨nm, q, N, bs, bm, sn, sub, ab, col, dd, k0, k1, k2, k3, k5, hC, hbm⟩ := T.cls
  obtain ⟨cl, cld, csl, hcell⟩ := T.cell
  have hcl : clsIn K C = some { name := nm, bases := bs, mro := .ref C :: bm, ns := N, qualname := q, hasDict := true, slotNames := sn, subclasses := sub, abstract := ab, collection := col, hasDel := false } := by unfold clsIn; rw [hC] <;> rfl
  refine ks_codeAny_call_defAt (fd := ksFn "__init__" "BadArgument.__init__" (badA p1 p2) (badB msg j q1 q2 q3 q4 q5 q6 q7 q8 q9 q10 q11 q12 q13) badS .none .none doc pm an (.ref cda) ct cc) (binds := [("self", .ref x), ("name", .str n tn)])
    hroom (X _ _ ho) rfl hlim (codeRec_of X hcd) rfl (BindsTo.of_eq (by first | rfl | with_unfolding_all rfl)) (show ∀ x ∈ badS.names, x.2 ≠ .cell by decide) (fun y hy => ?_) (fun h₀ hns hk => ?_) rfl rfl rfl
  · rcases List.mem_cons.mp hy with rfl | hy
    · rfl
    · rw [List.mem_singleton] at hy
      subst hy
      rfl
  have X₀ : K.In h₀ := X.keeps hk
  have hxC : x ≠ C := fun z => by
    have h1 := X _ _ hC
    rw [← z, hx] at h1
    cases h1
  have hsup : alongIn K "__init__" (((Value.ref C :: bm).dropWhile (· != .ref C)).drop 1) = some (some (.builtin "ValueError.__init__")) := by
    have := T.sup
    unfold ks_superIn at this
    rw [hcl] at this
    exact this
  have hx₀ := hk _ _ hx
  have I : InstAt h₀ x (excO C t0) C none := ⟨hx₀, rfl, rfl, trivial⟩
  have hml : Looks (model prog w) h₀ (mroOf (.ref C)) (.ref C :: bm) := fun A Q E s k q => wpAny_bind ((looks_clsIn X₀ hcl) A _ E s k (wpAny_pure q))
  have hsubC : Looks (model prog w) h₀ (isSubtype (.ref C) (.ref C)) true := by
    refine looks_mroIn X₀ ?_
    unfold mroIn
    rw [hcl, Option.bind_some, if_neg (show ¬ (List.isEmpty (Value.ref C :: bm) = true) from Bool.false_ne_true), List.contains_cons, beq_self_eq_true, Bool.true_or]
  show wpAt _ _ _ (execs _ _) _ _ _
  refine ks_wpAt_execs_cons (ks_wpAt_Expr_any ?_ (by rfl) (by rfl))
  refine ks_wpAt_MethodCall ?_ (by
    have hpos : ∀ (o : Expr) (env : Env), methodCallPos true o env q3 q8 = pure q8 := fun o env => by unfold methodCallPos; simp [hline]
    rw [arm_eval_Call]
    unfold methodCall
    have hform : ∀ (l : List (Bool × Sem Value)) (k : List (Option Str × Sem Value)), methodCallForm 1 [(false, l.head!.2)] [] = true := fun _ _ => rfl
    show (do
      let ov ← _
      standAt _
      let (f, first) ← holding [ov] (calleeOf true _ _ ov _)
      let callPos ← methodCallPos true _ _ q3 q8
      callWith callPos f first _ _) = _
    simp only [hpos]
    rfl)
  refine ks_wpAt_super_base rfl rfl rfl rfl (X₀ _ _ ho) rfl rfl rfl (X₀ _ _ hca) rfl hvs hfile T.top ?_
  refine ks_loadName_global rfl rfl (loadGlobal_builtin (hglob.keeps hk) T.gS (hb.keeps hk) hbs ⟨rfl, ?_⟩)
  refine wpAny_loadName_free rfl rfl rfl ⟨_, X₀ _ _ hcell, rfl⟩ ?_
  refine wpAny_loadName_local (v := .ref x) rfl rfl hns rfl ?_
  obtain ⟨hh, g, d, t, os⟩ := s
  refine ks_wpAny_isType_cls (X₀ _ _ hC) rfl ⟨rfl, ?_⟩
  refine ks_wpAny_call_super (X₀ _ _ hC) rfl hx₀ rfl (fun c e => by cases e) hsubC fun h1 e1 k1 => ?_
  refine kxs_getMethod kxs_ValueError e1 (looks_opaque (X₀.keeps k1) T.own) (hml.keeps k1) rfl (X₀.keeps k1) hsup ((show InstAt h1 x (excO C t0) C none from ⟨k1 _ _ hx₀, rfl, rfl, trivial⟩).type.andThen (looks_subIn (X₀.keeps k1) T.veC)) hxC (by decide) ?_
  have k2 : ∀ b o, hh.get? b = some o → (h1.push (kxs_mw "ValueError.__init__" x)).get? b = some o := fun b o e => Heap.get?_push_of_some _ (k1 b o (hk b o e))
  have hns2 := (hns.keeps k1).keeps (h' := h1.push (kxs_mw "ValueError.__init__" x)) fun b o e => Heap.get?_push_of_some _ e
  have eu : (h1.push (kxs_mw "ValueError.__init__" x)).get? h1.objs.size = some (kxs_mw "ValueError.__init__" x) := Heap.get?_push_size _ rfl
  refine kxs_callWith (i := "ValueError.__init__") (x := x) (by rfl) ?_
  have l1 : (Str.empty ++ msg).length ≤ sizeLine := by rw [strLen_append, sizeLine_eq]; show 0 + msg.length ≤ _; omega
  have l2 : (Str.empty ++ msg ++ n).length ≤ sizeLine := by rw [strLen_append, strLen_append, sizeLine_eq]; show 0 + msg.length + n.length ≤ _; omega
  refine evalArgs_plain (spliced_cons (wpAny_JoinedStr (pos := q7) (Calls.Constant_str ⟨msg, _, rfl, l1, ?_⟩)))
  refine wpAny_FormattedValue_plain (wpAny_Name (wpAny_loadName_local (v := .str n tn) rfl rfl hns2 rfl (PyProof.Rows.formatField_str (fun t' tk => ⟨n, t', rfl, l2, l2, ?_⟩) (by rw [sizeLine_eq]; omega))) (by decide))
  refine spliced_nil ⟨eu, ?_⟩
  refine call_mw (k2 _ _ (X _ _ hC)) (Heap.get?_push_of_some _ (k1 _ _ hx₀)) eu (by rw [sizeLine_eq]; show 1 ≤ 16777216; omega) fun h3 t1 k3 e3 => ?_
  -- self.name = name
  have k4 : ∀ b o, b ≠ x → hh.get? b = some o → h3.get? b = some o := fun b o hb e => k3 b o hb (k2 b o e)
  have X3 : K.In h3 := fun b o e => k4 b o (fun z => by rw [z, hnx] at e; cases e) (X b o e)
  have hxL : hh.objs.size ≠ x := Nat.ne_of_gt (Heap.lt_size hx)
  have hns3 := hns2.at' (h' := h3) fun o e => k3 _ o hxL e
  refine wpAt_of_wpAny (wpAny_execs_cons (plainObj_wpAny_Assign_Attribute ?_))
  refine wpAny_Name (wpAny_loadName_local (v := .str n tn) rfl rfl hns3 rfl ?_) (by decide)
  refine wpAny_Name (wpAny_loadName_local (v := .ref x) rfl rfl hns3 rfl ?_) (by decide)
  refine set_plain X3 (ox := excO C t1) (od := none) ⟨e3, rfl, rfl, trivial⟩ T.sa ?_
  refine exc_osa X3 e3 hcl (show refsVE (.ref C :: bm) = true from hbm) rfl T.noN (fun h₃ tk₃ dx k₃ dn dne hx₃ hn₃ => ?_)
  have hsz : hh.objs.size ≤ dx := by
    have h1 : h3.get? hh.objs.size ≠ none := by
      obtain ⟨o, es, ep, ho', _⟩ := hns3
      rw [ho']; simp
    have h2 : hh.objs.size < h3.objs.size := by
      cases q : h3.get? hh.objs.size with
      | none => exact absurd q h1
      | some o => exact Heap.lt_size q
    exact Nat.le_of_lt (Nat.lt_of_lt_of_le h2 dn)
  exact wpAny_execs_nil (hq h₃ tk₃ t1 dx ⟨fun b o hb e => k₃ b o hb (k4 b o hb e), hx₃, hsz, dne, hn₃⟩)
/-- a made BadArgument -/
structure Made (h h' : Heap) (e C d : Addr) (v : Value) : Prop where
  keep : ∀ b o, h.get? b = some o → h'.get? b = some o
  new : h.objs.size ≤ e
  obj : ∃ oe vs, h'.get? e = some oe ∧ oe.cls = .ref C ∧ oe.dict = some d ∧ oe.data = .fields vs ∧ vs[1]? = some .none
  dbig : h.objs.size ≤ d
  dne : d ≠ e
  ns : h'.Ns1 d (fun y => if y = "name" then some v else none)
theorem bad_made (T : BadTxt prog K mg C fI cc) {n : Str} {tn : Tok} (X : K.In s.heap) (hlim : s.heap.NoLimit) (hglob : s.heap.Ns mainGlobals mg) (hb : s.heap.Ns builtinsNs mb) (hbs : mb "super" = some (.type "super")) (hroom : A.depth + 1 < recursionLimit) (hn : n.length ≤ 1000)
    (hq : ∀ h' tk e d, Made s.heap h' e C d (.str n tn) → R (.ok (.ret (.ref e))) { s with heap := h', toks := tk }) :
    codeAny (model prog w) A (.call (.ref C) ⟨[.str n tn], []⟩) R s := by
  obtain ⟨nm, q, N, bs, bm, sn, sub, ab, col, dd, k0, k1, k2, k3, k5, hC, hbm⟩ := T.cls
  obtain ⟨hp, g, dr, tk, os⟩ := s
  have k : ∀ b o, hp.get? b = some o → ((hp.push (kdv_tup [.str n tn])).push (excO C hp.objs.size)).get? b = some o := fun b o e => Heap.get?_push_of_some _ (Heap.get?_push_of_some _ e)
  have hget : ((hp.push (kdv_tup [.str n tn])).push (excO C hp.objs.size)).get? (hp.objs.size + 1) = some (excO C hp.objs.size) := by heap_get
  have hnx : K.lookup (hp.objs.size + 1) = none := by
    cases e : K.lookup (hp.objs.size + 1) with
    | none => rfl
    | some o =>
      have z : hp.get? (hp.objs.size + 1) = some o := X _ _ e
      exact absurd (Nat.lt_of_succ_lt (Heap.lt_size z)) (Nat.lt_irrefl _)
  refine call_own F.excBase_ValueError (fun X => refsVE_contains X bm hbm) (X _ _ hC) (looks_findIn X T.iC) (fun self => bind_fn X self T.tC) (by rw [sizeLine_eq]; show 1 ≤ 16777216; omega) ?_
  refine bad_init (mb := mb) (s := ⟨(hp.push (kdv_tup [.str n tn])).push (excO C hp.objs.size), g, dr, tk, os⟩) T (X.keeps k) (hlim.keeps k) (hglob.keeps k) (hb.keeps k) hbs hget hnx ?_ hn fun h' tk' t1 dx ⟨k', hx, dn, dne, hns⟩ => ?_
  · show A.depth + 1 < recursionLimit
    exact hroom
  · have old : ∀ b o, hp.get? b = some o → h'.get? b = some o := fun b o e => k' b o (Nat.ne_of_lt (Nat.lt_succ_of_lt (Heap.lt_size e))) (k b o e)
    have z : hp.objs.size + 1 + 1 ≤ dx := by
      first
        | (simpa only [Heap.size_push] using dn)
        | exact dn
        | (have q := dn; rw [Heap.size_push, Heap.size_push] at q; exact q)
    exact ⟨rfl, hq h' tk' (hp.objs.size + 1) dx ⟨old, Nat.le_succ _, ⟨_, _, hx, rfl, rfl, rfl, rfl⟩, Nat.le_trans (Nat.le_trans (Nat.le_succ _) (Nat.le_succ _)) z, dne, hns⟩⟩
end
end BadX
end PySem
namespace DD
open PySem PySem.Spec PyProof.Rows L2
theorem relO_name {v : V} {v' : Value} (r : RelV v v') (f : Str) : RelO (List.lookup f [(("name" : Str), v)]) (if f = "name" then some v' else none) := by
  rw [lookup_put]
  by_cases h : f = "name"
  · rw [if_pos h, if_pos h]; exact r
  · rw [if_neg h, if_neg h]; trivial
section
variable {X : Cx} {C fI cc : Addr}
/-- BadArgument(e), e a text -/
def tMkBad (C : Addr) (ta : TA) : L2.St → Hp → XK → Prop := fun σ H Q => ta σ H fun vs H1 => ∃ n : Str, vs = [.str n] ∧ n.length ≤ 1000 ∧ ∀ d, H1 d = none → Q (.ref C) (some d) (upd H1 d (.xd [(("name" : Str), .str n)]))
theorem pmk_bad {a : Expr} {ta : TA} {p pos : Pos} {k : Nat} (T : BadTxt X.prog X.K X.mg C fI cc) (hr : Room k X.A) (ha : PA X [a] ta) (hg : Gl X "BadArgument" := by rfl)
    (he : starEach (a :: []) X.env = (false, eval a X.env) :: starEach [] X.env := by rfl) (hpl : (backTo pos (starEach [] X.env)).any (·.1) = false := by rfl) :
    PMk X (.Call (.Name "BadArgument" p) [a] [] pos) (tMkBad C ta) := by
  intro pins s σ H Q I h
  refine wpAny_Call_Name_kw (ld_glob I hg T.gC ?_)
  refine PySem.W.callWith_K (h₀ := X.base) I.ok.mod.kin T.kC (thn (ha.run pos pins s σ H _ I h) fun us s1 hh => ?_) he hpl
  obtain ⟨vs, H1, I1, r1, n, ev, hn, q1⟩ := hh
  subst ev
  refine ⟨I1.kIn, ?_⟩
  cases r1 with
  | cons rv rn =>
    rename_i v' us'
    cases rn
    obtain ⟨tn, rfl⟩ := rv
    show wpAny _ _ (call (.ref C) [.str n tn]) _ _ _
    have hlim := I1.nolimit
    obtain ⟨mb, hmb, hbb⟩ := I1.mod.blt
    have hglob := I1.mod.glob.keeps I1.bk
    have hmb' := hmb.keeps I1.bk
    obtain ⟨hp, g, dr, tk, os⟩ := s1
    refine wpAny_call (PySem.BadX.bad_made (mb := mb) T I1.kIn hlim hglob hmb' ((hbb _ (by decide)).trans (by decide +kernel)) (by have := hr.dp; omega) hn fun h' tk' e d M => ?_)
    show MkP X pins σ Q (.ref e) ⟨h', g, dr, tk', os⟩
    obtain ⟨oe, fv, hoe, hc, hd, hdat, h1⟩ := M.obj
    have hns := M.ns
    obtain ⟨G', g1, g2⟩ := restrict h' fun b => decide (b ≠ e)
    have gk : ∀ b, b ≠ e → G'.get? b = h'.get? b := fun b hb => g1 b (decide_eq_true hb)
    have ge : G'.get? e = none := g2 e (by simp)
    have old : ∀ b o, hp.get? b = some o → G'.get? b = some o := fun b o q => (gk b (Nat.ne_of_lt (Nat.lt_of_lt_of_le (Heap.lt_size q) M.new))).trans (M.keep b o q)
    have ob : ObjOk X.prog X.w (upd H1 d (.xd [(("name" : Str), .str n)])) G' d (.xd [(("name" : Str), .str n)]) :=
      ⟨_, hns.at (fun o q => (gk d M.dne).trans q), fun f => relO_name (v := .str n) ⟨tn, rfl⟩ f⟩
    have J : Inv X pins σ (upd H1 d (.xd [(("name" : Str), .str n)])) ⟨G', g, dr, tk', os⟩ := I1.laid (t' := tk') old M.dbig ob
    refine ⟨e, oe, fv, ⟨G', g, dr, tk', os⟩, _, .ref C, some d, rfl, J, fun b o q => ?_, ge, hoe, ⟨hc, hd⟩, hdat, h1, ?_, rfl, I1.bare, raises_own T.exC T.tyC, q1 d (I1.hok.fresh M.dbig)⟩
    · by_cases hb : b = e
      · have q' : G'.get? b = some o := q
        rw [hb, ge] at q'; cases q'
      · exact (gk b hb).symm.trans q
    · rw [upd_ne (Ne.symm M.dne)]
      exact I1.hok.fresh M.new
end
end DD
set_option maxRecDepth 100000
set_option maxHeartbeats 4000000
/-! SemN: raise BadArgument(..) over data; isinstance of a caught error that has a dict; a try whose first clause catches. -/
namespace PySem.W
open PySem PySem.Spec PySem.Calls PyProof.Rows
section
variable {prog : Program} {w : World} {A : Around} {E : Value → Shared → Prop} {s : Shared} {K : Frag} {x D : Addr} {ox : Obj}
theorem dd_findObj {C : Addr} {od : Option Obj} {name : Str} {a g : Value} (hc : (clsIn K C).isSome = true) (ha : findIn K (.ref C) name = some (some a)) (hg : specialIn K a "__get__" = some (some g)) (ht : takesIn K a = some true) : findObj K C od name = some (.bind g a) := by
  obtain ⟨cd, hc⟩ := Option.isSome_iff_exists.mp hc
  unfold findObj
  rw [hc, Option.bind_some, ha, Option.bind_some]
  simp [hg, ht]
theorem dd_class {od : Option Obj} {Q : Option Value → Shared → Prop} (hga : findIn K (.ref D) "__getattribute__" = some (some (.builtin "BaseException.__getattribute__"))) (hgt : findIn K (.ref D) "__getattr__" = some none) (hsub : subIn K (.ref D) (.type "BaseException") = some true)
    (hdct : hasDictIn K D = true) (ha : findIn K (.ref D) "__class__" = some (some (.builtin "object.__class__")))
    (hn : specialIn K (.builtin "object.__class__") "__get__" = some (some (.builtin "getset_descriptor.__get__"))) (htk : takesIn K (.builtin "object.__class__") = some true) (hm : mroIn K D (.type "object") = some true)
    (X : K.In s.heap) (I : InstAt s.heap x ox D od) (h : Q (some (.ref D)) { s with toks := s.toks + 1 }) : wpAny (model prog w) A (getAttr? (.ref x) "__class__") Q E s := by
  have hf : findObj K D od "__class__" = some (.bind (.builtin "getset_descriptor.__get__") (.builtin "object.__class__")) := dd_findObj (by obtain ⟨cd, hc, _⟩ := any_some hdct; rw [hc]; rfl) ha hn htk
  obtain ⟨hp, g, d, t, os⟩ := s
  have L0 := I.type (M := model prog w)
  have L1 := looks_findIn (M := model prog w) X hga
  have L2 := looks_findIn (M := model prog w) X hgt
  have L3 := looks_find (M := model prog w) X I hf
  have sub : Looks (model prog w) hp (isInstance (.ref x) (.type "BaseException")) true := L0.andThen (looks_subIn X hsub)
  have hx0 : (false && onTheHeap (Value.builtin "BaseException.__getattribute__")) = false := rfl
  have hx2 : (Value.builtin "BaseException.__getattribute__" == Value.builtin "object.__getattribute__") = false := by decide +kernel
  have hx1 : (onTheHeap (Value.ref D) && Value.builtin "BaseException.__getattribute__" == Value.builtin "object.__getattribute__") = false := by rw [hx2]; rfl
  unfold getAttr? getAttrBy? getAttrBy
  refine wpAny_bind (wpAny_mkText (wpAny_bind (wpAny_attempt (wpAny_holding (wpAny_bind (L0.at (wpAny_bind (L1.at ?_))))))))
  show wpAny _ _ (if (onTheHeap (Value.ref D) && Value.builtin "BaseException.__getattribute__" == Value.builtin "object.__getattribute__") = true then _ else _) _ _ _
  rw [hx1, if_neg Bool.false_ne_true]
  unfold getAttrByItsOwn hookBefore
  refine wpAny_bind ?_
  rw [if_pos (show onTheHeap (Value.ref D) = true from rfl)]
  refine L2.at ?_
  refine wpAny_bind (wpAny_attempt (wpAny_holding ?_))
  unfold callGetattribute
  rw [hx0, if_neg Bool.false_ne_true]
  unfold boundAndCalled
  rw [PySem.F.excAttr_ValueError.ga.bind (.ref x)]
  refine wpAny_bind (wpAny_pure ?_)
  show wpAny _ _ (call (.builtin "BaseException.__getattribute__") [.ref x, .str "__class__" t]) _ _ _
  refine wpAny_call (codeAny_call_builtin PySem.F.excAttr_ValueError.ga.plain PySem.F.entry_bexc_ga ?_)
  refine @check_slot (model prog w) _ _ ⟨hp, g, d, t + 1, os⟩ "BaseException.__getattribute__" "BaseException" "__getattribute__" (.ref x) [.str "__class__" t] [] _ (by decide +kernel) (by decide +kernel) sub (PySem.F.args_bexc_ga (.ref x) (.str "__class__" t)) ?_
  unfold Builtin.«object.__getattribute__»
  refine wpAny_bind (wpAny_of_eq (a := ((Value.ref x : Value), [Value.str "__class__" t])) (by first | rfl | (simp only [slotArgs]; rfl)) ?_)
  refine wpAny_bind (wpAny_pure (wpAny_bind (L0.at (wpAny_bind (L3.at ?_)))))
  show wpAny _ _ (holding [Value.builtin "object.__class__"] (call (.builtin "getset_descriptor.__get__") [.builtin "object.__class__", .ref x, .ref D]) >>= ret) _ _ _
  refine wpAny_bind (wpAny_holding (wpAny_call (class_get (s := ⟨hp, g, d, t + 1, os⟩) (ox := ox) (od := od) X I hm ?_)))
  refine wpAny_pure ?_
  show wpAny _ _ (handedOut (.ref D)) _ _ _
  rw [handedOut_of (v := .ref D) rfl]
  first
    | exact wpAny_pure (wpAny_pure h)
    | exact wpAny_pure h
    | exact wpAny_pure (wpAny_bind (wpAny_pure (wpAny_pure h)))
theorem dd_kitx {od : Option Obj} (hga : findIn K (.ref D) "__getattribute__" = some (some (.builtin "BaseException.__getattribute__"))) (hgt : findIn K (.ref D) "__getattr__" = some none) (hsub : subIn K (.ref D) (.type "BaseException") = some true) (hdct : hasDictIn K D = true) (ha : findIn K (.ref D) "__class__" = some (some (.builtin "object.__class__")))
    (hn : specialIn K (.builtin "object.__class__") "__get__" = some (some (.builtin "getset_descriptor.__get__"))) (htk : takesIn K (.builtin "object.__class__") = some true) (hm : mroIn K D (.type "object") = some true) :
    KitX K (.ref x) (.ref D) (fun h => InstAt h x ox D od) where
  ty := fun _ _ _ I => I.type
  it := fun _ _ X _ => by
    obtain ⟨cdD, hcD, _⟩ := any_some hdct
    unfold clsIn at hcD
    split at hcD
    · rename_i c' d' cd' sl' ho
      intro A' Q' E' s' k q
      unfold isType loadHead
      exact wpAny_bind (wpAny_loadPart (k _ _ (X _ _ ho)) (wpAny_pure q))
    · cases hcD
  ne := fun h tp dd its n sl X htp => by
    obtain ⟨cdD, hcD, _⟩ := any_some hdct
    refine Bool.eq_false_iff.mpr fun q => ?_
    have e : D = tp := Value.ref.inj (beq_iff_eq.mp q)
    subst e
    unfold clsIn at hcD
    split at hcD
    · rename_i c' d' cd' sl' ho
      have z := (X _ _ ho).symm.trans htp
      cases z
    · cases hcD
  ca := fun X I k => dd_class hga hgt hsub hdct ha hn htk hm X I k
end
end PySem.W
namespace DD
open PySem PySem.Spec PyProof.Rows L2
/-- isinstance(e, c), e the exception that the suite holds, its dict at d -/
def rIsD (K : PySem.W.Frag) (C a d : Addr) : List V → Hp → VK → Prop := fun xs H Q => ∃ (c : V) (cv : Value) (b : Bool) (fs : List (Str × V)), xs = [.ref a, c] ∧ (∀ u, RelV c u → u = cv) ∧ PySem.W.kitOne K (.ref C) cv = some b ∧ H d = some (.xd fs) ∧ Q (.bl b) H
theorem call_isD {X : Cx} {a C d : Addr} {oe : Obj} {pn : List (Addr × Obj)} (T : ExcC X.K C) (hz : Zc (.ref C) (some d) oe) (hf : ∃ vs, oe.data = .fields vs) : CallR (X.suite a ((a, oe) :: pn)) (.builtin "isinstance") (rIsD X.K C a d) := by
  intro pins s σ H xs us Q I r h
  obtain ⟨c, cv, b, fs, rfl, hcv, e, hd, q⟩ := h
  cases r with
  | cons rx rr =>
    cases rr with
    | cons rt rr =>
      cases rr
      cases rx
      have ec := hcv _ rt
      subst ec
      obtain ⟨hget, _⟩ := I.pin (a, oe) (List.mem_append.mpr (.inl List.mem_cons_self))
      obtain ⟨vs, hv⟩ := hf
      have hx : ObjOk X.prog X.w H s.heap d (.xd fs) := I.hok d _ hd
      obtain ⟨mA, hns, _⟩ := hx
      obtain ⟨od, _, _, ho, _⟩ := hns
      have J : PySem.W.InstAt s.heap a oe C (some od) := ⟨hget, hz.1, by unfold PySem.W.notCls; rw [hv] <;> rfl, by rw [hz.2]; exact ho⟩
      exact PySem.W.kia_one (PySem.W.dd_kitx T.hg T.hk T.hs T.hd T.ha T.hn T.ht T.hm) I.kIn J e (fun z => nomatch z) fun tk => ⟨.bl b, H, I.kept (t' := tk) fun _ _ z => z, rfl, q⟩
/-- what a first clause 'except x as n' wishes: it catches -/
def wFst (K : PySem.W.Frag) (c : Value) (i m : Nat) (ts : Addr → Value → Option Addr → TS) (D : Ends) : WX := fun cls d σ H =>
  PySem.W.exmOne K cls c = some true ∧ ∀ a, H a = none → σ.length = m → ts a cls d { nx := fun σ' H' => D.nx (σ'.set i none) H', rt := D.rt, bk := fun σ' H' => D.bk (σ'.set i none) H', ct := fun σ' H' => D.ct (σ'.set i none) H' } (σ.set i (some (.ref a))) H
section
variable {X : Cx} {x n : Str} {c : Value} {i : Nat} {body suite : List Stmt} {b₀ : Stmt} {hds : List ExceptHandler} {np pos pos' : Pos} {tb : WX → TS} {ts : Addr → Value → Option Addr → TS}
theorem ps_try_first (hs : X.stack = X.env :: X.outer) (hf : X.env.frame = some X.env.locals) (hN : X.N.Nodup) (hi : X.N[i]? = some n) (hln : X.env.kindOf n = some .local) (hc : Names X x c)
    (hb : ∀ (W : WX) (pn : List (Addr × Obj)) (xe : Value → Shared → Prop), Takes (X.tr pn xe) W → PassesOwn (model X.prog X.w) X.A X.env xe → PSs (X.tr pn xe) body (tb W))
    (hsu : ∀ (a : Addr) (oe : Obj) (cls : Value) (d : Option Addr) (pn : List (Addr × Obj)), Zc cls d oe → (∃ vs, oe.data = .fields vs) → PSs (X.suite a ((a, oe) :: pn)) (b₀ :: suite) (ts a cls d)) :
    PS X (.Try body (.ExceptHandler (some (.Name x np)) (some n) (b₀ :: suite) pos' :: hds) [] [] pos) (fun D σ H => tb (wFst X.K c i X.N.length ts D) D σ H) := by
  refine ⟨fun pins s σ H D I h => ?_⟩
  have ok := I.ok
  have hfr : X.A.frames = some (X.env :: X.outer) := by rw [ok.frames, hs]
  have hloc : Loc X.env.scope n := .inl hln
  refine wpAny_Try_except ?_
  refine wpAny_mono ((hb (wFst X.K c i X.N.length ts D) (X.pn ++ pins) (fun e s₁ => wpAny (model X.prog X.w) X.A (noteFrame e X.env) (fun _ s₂ => wpAny (model X.prog X.w) X.A (setFlight e none) (fun _ s₃ =>
    wpAny (model X.prog X.w) X.A (handleBy e X.env (.ExceptHandler (some (.Name x np)) (some n) (b₀ :: suite) pos' :: hds)) (SP X pins D) X.xe s₃) X.xe s₂) X.xe s₁) (fun u s' xx => ?_) PassesOwn.looking).run [] s σ H D (I.toTry _) h) (fun f s1 hsp => ?_) (fun e s1 he => he)
  · -- the catch
    obtain ⟨a, B, sI, pins', σ', H', cls, d, rfl, J', nb, up, sky, na, os, ag, hb1, hyes⟩ := xx
    have J : Inv X pins σ' H' sI := J'.ofTry ok
    have sky' : Sky B (X.env :: X.outer) a (Zc cls d) X.env.locals s'.heap := by rw [← hs]; exact sky
    show wpAny (model X.prog X.w) X.A (noteFrame (.ref a) X.env) _ _ _
    refine Sky.land Zc.steady hfr hf sky' fun h3 fl3 up3 => ?_
    have J3 : Inv X pins σ' H' { s' with heap := h3 } := J.landed nb fl3.1 (up.trans up3) os ag
    obtain ⟨oe3, vs3, he3, hz3, hd3⟩ := fl3.there
    have notFr : ∀ {h : Heap} {o : Obj} {vs : Array Value}, h.FunFrames B (X.env :: X.outer) → h.get? a = some o → o.data = .fields vs → a ∉ frs (X.env :: X.outer) := fun {h o vs} ff e dd hm => by
      obtain ⟨_, o', e', hnf⟩ := ff.mem hm
      rw [e] at e'; cases e'
      exact hnf _ dd
    have nfr := notFr fl3.2.2.1 he3 hd3
    have nL : a ≠ X.env.locals := fun z => nfr (List.mem_filterMap.mpr ⟨X.env, List.mem_cons_self, by rw [hf, z]⟩)
    have nF : a ∉ X.fs := fun hm => by
      obtain ⟨e, he, q⟩ := List.mem_filterMap.mp hm
      exact nfr (List.mem_filterMap.mpr ⟨e, List.mem_cons_of_mem _ he, q⟩)
    have S3 := J3.suite he3 hd3 na nL nF
    refine wpAny_handleBy_cons (codeAny_handlers_test ?_) (by intro q; cases q)
    have LT : PySem.W.Looks (model X.prog X.w) h3 (typeOf (.ref a)) cls := fun A Q E s k q => wpAny_typeOf_ref (k _ _ he3) (by rw [hz3.1]; exact q)
    have LM := PySem.W.exm_one (M := model X.prog X.w) (J3.kIn) LT hb1
    have test : ∀ {Q : Value → Shared → Prop} {E : Value → Shared → Prop}, Q c { s' with heap := h3 } → wpAny (model X.prog X.w) (X.A.mark (some (.ref a))) (eval (.Name x np) X.env) Q E { s' with heap := h3 } := fun {Q E} q => by
      obtain ⟨hg, hdbg, hm | ⟨hm, hv, hnn⟩⟩ := hc
      · exact ld_glob (X := X.suite a ((a, oe3) :: (X.pn ++ pins))) S3 hg hm q hdbg
      · exact ld_blt (X := X.suite a ((a, oe3) :: (X.pn ++ pins))) S3 hg hm hv q hnn hdbg
    refine test (LM.here ?_)
    refine codeAny_handlers_suite_as ?_
    refine HandSPX.lands_againZ fl3 fun h4 fl4 up4 => ?_
    have J4 : Inv X pins σ' H' { s' with heap := h4 } := J.landed nb fl4.1 ((up.trans up3).trans up4) os ag
    obtain ⟨oe4, vs4, he4, hz4, hd4⟩ := fl4.there
    have S4 := J4.suite he4 hd4 na nL nF
    refine store_ok (X := X.suite a ((a, oe4) :: (X.pn ++ pins))) (v := .ref a) S4 hN hi hloc rfl (fun s5 S5 => ?_) (.inr hln)
    refine wpAny_mono ((hsu a oe4 cls d (X.pn ++ pins) hz4 ⟨_, hd4⟩).run [] s5 _ H' _ S5 (hyes a na J.len)) (fun f s6 hsp => ?_) (fun _ _ z => False.elim z)
    have end_ : ∀ {σ6 : L2.St} {H6 : Hp} {Q : Shared → Prop}, Inv (X.suite a ((a, oe4) :: (X.pn ++ pins))) [] σ6 H6 s6 → (∀ s7, Inv X pins (σ6.set i none) H6 s7 → Q s7) →
        wpAny (model X.prog X.w) X.A (do bindName X.env n .none; unbindBehindTheSuite X.env n pos') (fun _ s7 => Q s7) X.xe s6 := fun {σ6 H6 Q} S6 hq => gone_ok (S6.unsuite ok) hN hi hln hq
    cases f with
    | next =>
      obtain ⟨σ6, H6, S6, q6⟩ := hsp
      exact end_ S6 fun s7 J7 => ⟨_, _, J7, q6⟩
    | brk =>
      obtain ⟨σ6, H6, S6, q6⟩ := hsp
      exact end_ S6 fun s7 J7 => ⟨_, _, J7, q6⟩
    | cont =>
      obtain ⟨σ6, H6, S6, q6⟩ := hsp
      exact end_ S6 fun s7 J7 => ⟨_, _, J7, q6⟩
    | ret u =>
      obtain ⟨v6, σ6, H6, S6, r6, q6⟩ := hsp
      exact end_ S6 fun s7 J7 => ⟨_, _, _, J7, r6, q6⟩
  · cases f with
    | next =>
      obtain ⟨σ', H', J', q⟩ := hsp
      exact wpAny_execs_nil ⟨σ', H', J'.ofTry ok, q⟩
    | brk =>
      obtain ⟨σ', H', J', q⟩ := hsp
      exact ⟨σ', H', J'.ofTry ok, q⟩
    | cont =>
      obtain ⟨σ', H', J', q⟩ := hsp
      exact ⟨σ', H', J'.ofTry ok, q⟩
    | ret u =>
      obtain ⟨v, σ', H', J', r, q⟩ := hsp
      exact ⟨v, σ', H', J'.ofTry ok, r, q⟩
end
/-! ### raise BadArgument(..) over data -/
section
variable {p : Par} {X : Cx} {pos : Pos} {a : Expr} {C fI cc : Addr}
def wRaise (w : WE) : WS := fun D ρ => w ρ (fun d => ∃ n, d = .str n ∧ n.length ≤ 1000 ∧ D.ex (.bad n)) D.ex
theorem ds_raiseBad {w : WE} {q pos2 : Pos} {k : Nat} (hc : X.calm = true) (T : BadTxt X.prog X.K X.mg C fI cc) (hC : p.cBad = C) (hr : Room k X.A) (tk : Takes X (fun cls d _ H => p.E cls d H)) (h : DE p X a w) (hg : Gl X "BadArgument" := by rfl)
    (he : starEach (a :: []) X.env = (false, eval a X.env) :: starEach [] X.env := by rfl) (hpl : (backTo pos (starEach [] X.env)).any (·.1) = false := by rfl) : DS p X (.Raise (some (.Call (.Name "BadArgument" q) [a] [] pos)) none pos2) (wRaise w) := by
  refine ⟨ps_use (ps_raise hc tk (pmk_bad T hr (pa_cons h.pe pa_nil he) hg he hpl)) fun D σ H hk ⟨ρ, O, EX, R, ex, hw⟩ => ⟨ρ, O, EX, R, ex, h.mono _ _ _ _ (fun d ⟨n, z, hn, q⟩ v H1 hk1 e1 r1 => ?_) hw⟩, fun D D' ρ hd q => ?_⟩
  · subst z
    rw [r1.b.str]
    refine ⟨n, rfl, hn, fun dd hdd => ?_⟩
    have e2 := Ext.new (o := .xd [(("name" : Str), .str n)]) e1.wd hdd
    exact ex (.bad n) _ _ _ q (R.ext.trans (e1.trans e2)) ⟨by show Value.ref C = .ref p.cBad; rw [hC], dd, rfl, by unfold L2.upd; rw [if_pos rfl]⟩
  · unfold wRaise at q ⊢
    rw [← hd.ex]
    exact q
end
end DD
set_option maxRecDepth 100000
set_option maxHeartbeats 4000000
/-! SemO: _law_heard(lambda: e) over data. -/
namespace DD
open PySem PySem.Spec PyProof.Rows L2 LamX
/-! ### a lambda handed to a def, all other tables told of -/
section
variable {X : Cx} {pins : List (Addr × Obj)} {σ : L2.St} {H : Hp} {s : Shared}
theorem lam_make3 {T : List (Addr × Str)} {c P : Addr} {params : Arguments} {body : Expr} {scope : Scope} {pos : Pos} {E : Value → Shared → Prop} {Q : Value → Shared → Prop} (I : Inv X pins σ H s) (TB : TabB X.base X.mg c P) (hcode : X.env.code = .ref c)
    (hm : (P, X.env.qual ++ "<lambda>") ∈ T) (hu : ∀ p ∈ T, p.1 = P → p.2 = X.env.qual ++ "<lambda>") (hT : Tabs T H) (hdef : defaultsOf params X.env = ([], [])) (hfree : ∀ y ∈ scope.names, y.2 = .free → ∃ c, X.env.cells.lookup y.1 = some c)
    (h : ∀ (f c' : Addr) (pm ctv : Value) (H1 : Hp) (s' : Shared), Inv X pins σ H1 s' → ExtN H H1 → (∀ b, b ≠ P → H b ≠ none → H1 b = H b) → Tabs T H1 →
      s'.heap.get? f = some (PySem.W.kla_obj "<lambda>" (X.env.qual ++ "<lambda>") params body scope (cloFrom X.env.cells scope.names []) pm c' ctv) → H1 f = none → f ∉ frs X.stack → H1 c' = some (CodeO c' (X.env.qual ++ "<lambda>")) → Q (.ref f) s') :
    wpAny (model X.prog X.w) X.A (eval (.Lambda params body scope pos) X.env) Q E s := by
  obtain ⟨ps, hP, ht, ha⟩ := hT _ hm
  refine PySem.W.kla_eval hdef ?_
  have bP : s.heap.BuiltinsAt X.mg P := TB.bm.keeps I.bk
  have hP' : s.heap.get? P = some { cls := .none, data := .fields ps } := I.hok P _ hP
  have nofr : ∀ f, s.heap.objs.size ≤ f → f ∉ frs X.stack := fun f hf z => by
    rcases List.mem_cons.mp (I.stkSub _ z) with e | e
    · have h1 := I.lt
      rw [← e] at h1
      exact Nat.lt_irrefl _ (Nat.lt_of_lt_of_le h1 hf)
    · exact I.nofs hf e
  cases hc : codeAmong pos ps.toList with
  | none =>
    refine PySem.W.kla_makeFunction (mg := X.mg) (c := c) (P := P) (ps := ps) (closure_ok hfree) I.ok.glob (I.mod.glob.keeps I.bk) hcode (TB.code.keeps I.bk) hP' ht hc TB.gP bP fun c' ctv h' tk hx hge hlt hrec htb => ?_
    obtain ⟨c2, oc, vs, t, e2, hoc, hd, hv⟩ := hrec
    cases e2
    have hsz : s.heap.objs.size ≤ h'.objs.size := Nat.le_trans hge (Nat.le_of_lt hlt)
    have nC : H c' = none := I.hok.fresh hge
    have I1 := inv_table (t' := tk) (more := #[rawInt pos.line, rawInt pos.col, .ref c']) (h' := h'.push (PySem.W.kla_obj "<lambda>" (X.env.qual ++ "<lambda>") params body scope (cloFrom X.env.cells scope.names []) ((X.mg "__name__").getD .none) c' ctv)) I hP
      (fun b o hb e => Heap.get?_push_of_some _ (hx b o hb e)) (Heap.get?_push_of_some _ htb) hge ⟨oc, vs, t, Heap.get?_push_of_some _ hoc, hd, hv⟩
    have hE : ExtN H (upd (upd H P (.tbl (ps ++ #[rawInt pos.line, rawInt pos.col, .ref c']))) c' (CodeO c' (X.env.qual ++ "<lambda>"))) := fun b o e n => by
      rw [upd_ne (ne_of_none e nC), upd_ne (fun z => n ps (Option.some.inj (e.symm.trans (by rw [z]; exact hP))))]
      exact e
    have eL : (ps ++ #[rawInt pos.line, rawInt pos.col, .ref c']).toList = ps.toList ++ [rawInt pos.line, rawInt pos.col, .ref c'] := by simp
    refine h h'.objs.size c' ((X.mg "__name__").getD .none) ctv _ _ I1 hE (fun b hb hn => ?_) (fun p hp => ?_) (Heap.get?_push_size _ rfl) ?_ (nofr _ hsz) upd_same
    · rw [upd_ne (fun z => hn (by rw [z]; exact nC)), upd_ne hb]
    · by_cases hb : p.1 = P
      · rw [hu p hp hb, hb]
        refine ⟨_, by rw [upd_ne (ne_of_none hP nC), upd_same], by rw [eL]; exact PySem.TriplesOk_snoc _ _ _ _ ht, fun p' cv hcv => ?_⟩
        rw [eL] at hcv
        rcases among_app _ ht hcv with z | z
        · obtain ⟨c0, e1, e2⟩ := ha p' cv z
          exact ⟨c0, e1, hE _ _ e2 codeO_ne⟩
        · exact ⟨c', z, upd_same⟩
      · obtain ⟨ps', a1, a2, a3⟩ := hT p hp
        refine ⟨ps', by rw [upd_ne (ne_of_none a1 nC), upd_ne hb]; exact a1, a2, fun p' cv hcv => ?_⟩
        obtain ⟨c0, e1, e2⟩ := a3 p' cv hcv
        exact ⟨c0, e1, hE _ _ e2 codeO_ne⟩
    · have n1 : h'.objs.size ≠ c' := Nat.ne_of_gt hlt
      have n2 : h'.objs.size ≠ P := Nat.ne_of_gt (Nat.lt_of_lt_of_le (Heap.lt_size hP') hsz)
      rw [upd_ne n1, upd_ne n2]
      exact I.hok.fresh hsz
  | some cv =>
    obtain ⟨c', e, hco⟩ := ha pos cv hc
    subst e
    refine PySem.W.kla_makeFunctionHit (mg := X.mg) (c := c) (P := P) (ps := ps) (closure_ok hfree) I.ok.glob (I.mod.glob.keeps I.bk) hcode (TB.code.keeps I.bk) hP' ht hc bP fun ctv h' tk hx hsz => ?_
    have I1 : Inv X pins σ H { s with heap := h'.push (PySem.W.kla_obj "<lambda>" (X.env.qual ++ "<lambda>") params body scope (cloFrom X.env.cells scope.names []) ((X.mg "__name__").getD .none) c' ctv), toks := tk } := I.kept fun b o e => Heap.get?_push_of_some _ (hx b o e)
    exact h h'.objs.size c' ((X.mg "__name__").getD .none) ctv H _ I1 (ExtN.refl H) (fun _ _ _ => rfl) hT (Heap.get?_push_size _ rfl) (I.hok.fresh hsz) (nofr _ hsz) hco
def tLam3 (T : List (Addr × Str)) (P : Addr) (TT : (XK → Hp → VK → Prop) → Hp → VK → Prop) (t : XK → TE) : TE := fun σ H Q => Tabs T H ∧ ∀ H1, ExtN H H1 → (∀ b, b ≠ P → H b ≠ none → H1 b = H b) → Tabs T H1 → TT (fun E H' Q' => t E σ H' Q') H1 Q
theorem pe_lamcall3 {T : List (Addr × Str)} {TT : (XK → Hp → VK → Prop) → Hp → VK → Prop} {x a : Str} {g c P : Addr} {k : Nat} {pg : Arguments} {bg : List Stmt} {sg : Scope} {dV kV doc pm cdv ct oc : Value} {an od : Option Addr} {osl : Array (Option Value)} {Ng : List Str}
    {params : Arguments} {body : Expr} {scope : Scope} {t : XK → TE} {p lpos pos : Pos} (hg : Gl X x) (hm : X.mg x = some (.ref g)) (hk : PySem.W.keepIn X.K (.ref g) = true)
    (lk : X.K.lookup g = some ⟨oc, od, .func (PySem.W.fnOf x x pg bg sg dV kV doc pm an cdv ct), osl⟩) (hcg : PySem.W.codeIn X.K cdv x = true) (hb : L2.Binds X.K (PySem.W.fnOf x x pg bg sg dV kV doc pm an cdv ct) [a] []) (Sg : FnScope Ng [a] sg) (hNg : Ng[0]? = some a) (hva : Vis sg a)
    (hG : GivesTo X Ng x sg g cdv bg a (X.env.qual ++ "<lambda>") TT)
    (TB : TabB X.base X.mg c P) (hcode : X.env.code = .ref c) (hmT : (P, X.env.qual ++ "<lambda>") ∈ T) (hu : ∀ p ∈ T, p.1 = P → p.2 = X.env.qual ++ "<lambda>") (hr : Room (k + 2) X.A) (L : LamS X.env.scope scope) (hdef : defaultsOf params X.env = ([], []))
    (hbind : ∀ (q : Str) (cl : List (Str × Addr)) (pm cv ctv : Value), bindArgs (PySem.W.kla_fn "<lambda>" q params body scope cl pm cv ctv) ⟨[], []⟩ = pure [])
    (hbody : ∀ (A : Around) (outer : List Env) (s : Shared) (H : Hp) (E : XK) (f c' : Addr), Room k (A.deeper (lamEnv X scope s.heap.objs.size f c')) → PE (lamCx X A outer s H E scope f c') body (t E))
    (hdb : (x == ("__debug__" : Str)) = false := by decide) (hd : (a == ("__debug__" : Str)) = false := by decide) (hcd : (a == ("__classdict__" : Str)) = false := by decide) :
    PE X (.Call (.Name x p) [.Lambda params body scope lpos] [] pos) (tLam3 T P TT t) := by
  refine ⟨fun pins s σ H Q I h => ?_⟩
  obtain ⟨hT, h⟩ := h
  refine wpAny_Call_Name_kw (ld_glob I hg hm ?_ hdb)
  refine PySem.W.callWith_K (h₀ := X.base) I.ok.mod.kin hk ?_ (by rfl) (by rfl)
  show wpAny _ _ (spliced ((false, eval (.Lambda params body scope lpos) X.env) :: backTo pos (starEach [] X.env))) _ _ s
  refine Calls.spliced_cons (lam_make3 I TB hcode hmT hu hT hdef (L.has I.ok) fun f c' pm' ctv H1 s' I1 eN eD T1 hf hfn hfr hco => ?_)
  refine Calls.spliced_nil ⟨I1.kIn, ?_⟩
  have rc : codeAny (model X.prog X.w) X.A (.call (.ref g) ⟨[.ref f], []⟩) (CR C8.CX0 X.stack X.prog X.w H1 s' Q C8.E0) s' := by
    refine run_ofS (N := Ng) (ps := [a]) (us := [.ref f]) (vs := [.ref f]) lk hcg Sg hr I1.env0 (hb s' [.ref f] I1.kIn rfl) (.cons rfl .nil) rfl fun hr' => ?_
    obtain ⟨t', ht', hq'⟩ := hG f c' s' H1 Q (fun E H' Q' => t E σ H' Q') (fun W pn xe E p1 p2 tk hW => pe_act (i := 0) I1 L hf hfn hfr (hbind _ _ _ _ _) tk hW hr' (fun A outer s H hr2 => hbody A outer s H E f c' hr2) hNg hva hd hcd) hco (h H1 eN eD T1)
    exact ⟨t', ht'.nox, hq'⟩
  refine wpAny_call (codeAny_mono rc fun r s2 hq => ?_)
  cases r with
  | error e => exact (show False from hq).elim
  | ok fl =>
    cases fl with
    | ret u => exact I1.after hq
    | next => exact False.elim hq
    | brk => exact False.elim hq
    | cont => exact False.elim hq
end
/-! ### _law_heard's body -/
/-- the class of the error, its base V -/
structure HeardTxt (K : PySem.W.Frag) (mg : Str → Option Value) (C V : Addr) : Prop where
  gC : mg "BadArgument" = some (.ref C)
  gV : mg "VanError" = some (.ref V)
  gI : mg "isinstance" = none
  gE : mg "ValueError" = none
  exC : ExcC K C
  noN : PySem.W.findIn K (.ref C) "name" = some none
  exm : PySem.W.exmOne K (.ref C) (.ref C) = some true
  kV : PySem.W.kitOne K (.ref C) (.ref V) = some true
  kE : PySem.W.kitOne K (.ref C) (.type "ValueError") = some true
theorem call_isD2 {X : Cx} {a : Addr} {cls : Value} {d : Option Addr} {oe : Obj} {pn : List (Addr × Obj)} (hz : Zc cls d oe) (hf : ∃ vs, oe.data = .fields vs) : CallR (X.suite a ((a, oe) :: pn)) (.builtin "isinstance") (fun xs H Q => ∃ C dd, cls = .ref C ∧ d = some dd ∧ ExcC X.K C ∧ rIsD X.K C a dd xs H Q) := by
  intro pins s σ H xs us Q I r h
  obtain ⟨C, dd, rfl, rfl, T, h⟩ := h
  exact call_isD T hz hf pins s σ H xs us Q I r h
abbrev heardB (j k1 k2 : Nat) (hds : List ExceptHandler) (p1 p2 p3 p4 p5 p6 p7 p8 p9 p10 p11 p12 p13 p14 p15 p16 p17 p18 p19 p20 p21 p22 : Pos) : List Stmt :=
  [.Try [.Expr (.Call (.Name "ask" p1) [] [] p2) p3] (.ExceptHandler (some (.Name "BadArgument" p4)) (some "e") [.Return (some (.Tuple [.Constant (.str "bad") j p5, .Attribute (.Name "e" p6) "name" p7, .BoolOp .And [.Call (.Name "isinstance" p8) [.Name "e" p9, .Name "VanError" p10] [] p11, .Call (.Name "isinstance" p12) [.Name "e" p13, .Name "ValueError" p14] [] p15] p16] k1 p17)) p18] p19 :: hds) [] [] p20, .Return (some (.Tuple [] k2 p21)) p22]
def TTh (C : Addr) : (XK → Hp → VK → Prop) → Hp → VK → Prop := fun tl H Q =>
  tl (fun cls d H' => cls = .ref C ∧ ∃ dd n, d = some dd ∧ H' dd = some (.xd [(("name" : Str), .str n)]) ∧ ∀ t, H' t = none → Q (.ref t) (upd H' t (.tup [.str "bad", .str n, .bl true]))) H (fun _ H1 => ([] : List V).length ≤ sizeLine ∧ ∀ t, H1 t = none → Q (.ref t) (upd H1 t (.tup [])))
def tsH (K : PySem.W.Frag) (C V0 : Addr) (a : Addr) (cls : Value) (d : Option Addr) : TS := tRet (tTup (tCons (tC (.str "bad")) (tCons (tXf a cls d C "name" (tVar 1)) (tCons (tAndV (tCB ((fun xs H Q => ∃ C dd, cls = .ref C ∧ d = some dd ∧ ExcC K C ∧ rIsD K C a dd xs H Q)) (tCons (tVar 1) (tCons (tC (.ref V0)) tNil))) (tCB ((fun xs H Q => ∃ C dd, cls = .ref C ∧ d = some dd ∧ ExcC K C ∧ rIsD K C a dd xs H Q)) (tCons (tVar 1) (tCons (tC (.ty "ValueError")) tNil)))) tNil))))
theorem heard_gives {X : Cx} {g C V : Addr} {cdg : Value} {sg : Scope} {q : Str} {j k1 k2 : Nat} {hds : List ExceptHandler} {p1 p2 p3 p4 p5 p6 p7 p8 p9 p10 p11 p12 p13 p14 p15 p16 p17 p18 p19 p20 p21 p22 : Pos} (T : HeardTxt X.K X.mg C V) (Sg : FnScope ["ask", "e"] ["ask"] sg)
    (he : sg.names.lookup ("e" : Str) = some .local) (h1 : sg.names.lookup ("BadArgument" : Str) = some .globalImplicit) (h2 : sg.names.lookup ("VanError" : Str) = some .globalImplicit) (h3 : sg.names.lookup ("isinstance" : Str) = some .globalImplicit) (h4 : sg.names.lookup ("ValueError" : Str) = some .globalImplicit) :
    GivesTo X ["ask", "e"] "_law_heard" sg g cdg (heardB j k1 k2 hds p1 p2 p3 p4 p5 p6 p7 p8 p9 p10 p11 p12 p13 p14 p15 p16 p17 p18 p19 p20 p21 p22) "ask" q (TTh C) := by
  intro f c' s H Q tl act hc h
  let Z := (cxOf C8.CX0 X.prog X.w X.K X.mg X.base ["ask", "e"] "_law_heard" sg g cdg X.A X.stack s H C8.E0).nox
  have g1 : Gl Z "BadArgument" := h1
  have xf : XfC X.K C := ⟨T.exC.hg, T.exC.hk, T.exC.hs, T.exC.hd⟩
  refine ⟨_, pss_cons (ps_try_first (X := Z) (c := .ref C) (i := 1) (ts := tsH X.K C V)
      (tb := fun W D σ H => ∃ Ech : XK, (∀ cls d σ' H', Ech cls d H' → W cls d σ' H') ∧ σ[0]? = some (some (.ref f)) ∧ H c' = some (CodeO c' q) ∧ tl Ech H (fun _ H1 => D.nx σ H1))
      rfl rfl Sg.nd rfl he ⟨g1, by decide, .inl T.gC⟩ (fun W pn xe tk _ => ?_)
      (fun a oe cls d pn hz hf => ?_)) (pss_one (ps_ret (pe_tup pa_nil))), ?_⟩
  · refine ⟨fun pins s' σ H' D I h' => ?_⟩
    obtain ⟨Ech, hW, h1, h2, h3⟩ := h'
    have hp := act W pn xe Ech p1 p2 tk hW
    have hq := pss_one (ps_expr (pos := p3) hp)
    exact hq.run pins s' σ H' D I ⟨h1, h2, h3⟩
  · have gi : Gl (Z.suite a ((a, oe) :: pn)) "isinstance" := h3
    have gv : Gl (Z.suite a ((a, oe) :: pn)) "VanError" := h2
    have ge : Gl (Z.suite a ((a, oe) :: pn)) "ValueError" := h4
    have ve : Vis (Z.suite a ((a, oe) :: pn)).env.scope "e" := .inl he
    have pvE : ∀ {q : Pos}, PE (Z.suite a ((a, oe) :: pn)) (.Name "e" q) (tVar 1) := fun {q} => pe_var rfl ve
    exact pss_one (ps_ret (pe_tup (pa_cons pe_str (pa_cons (pe_xf (X := Z) xf T.noN hz hf pvE) (pa_cons (pe_and (pe_callB (call_isD2 (X := Z) hz hf) gi T.gI (by decide +kernel) (pa_cons pvE (pa_cons (pe_glob gv T.gV rfl) pa_nil)))
      (pe_one (pe_callB (call_isD2 (X := Z) hz hf) gi T.gI (by decide +kernel) (pa_cons pvE (pa_cons (pe_bltn (v := .ty "ValueError") ge T.gE PyProof.Rows.Boot.«ValueError» rfl (by decide) (by decide)) pa_nil))))) pa_nil)))))
  · -- the reading
    have st0 : (L2.start ["ask", "e"] [L2.V.ref f])[0]? = some (some (L2.V.ref f)) := rfl
    refine ⟨fun cls d H' => cls = .ref C ∧ ∃ dd n, d = some dd ∧ H' dd = some (.xd [(("name" : Str), .str n)]) ∧ ∀ t, H' t = none → Q (.ref t) (upd H' t (.tup [.str "bad", .str n, .bl true])), ?_, st0, hc, h⟩
    rintro cls d σ' H' ⟨rfl, dd, n, rfl, hd, q2⟩
    refine ⟨T.exm, fun a ha hl => ?_⟩
    have hl : σ'.length = 2 := hl
    have s1 : (σ'.set 1 (some (L2.V.ref a)))[1]? = some (some (L2.V.ref a)) := List.getElem?_set_self (by omega)
    have v1 : ∀ u, RelV (L2.V.ref V) u → u = Value.ref V := fun u r => r
    have v2 : ∀ u, RelV (L2.V.ty "ValueError") u → u = Value.type "ValueError" := fun u r => r
    refine ⟨L2.V.ref a, s1, rfl, rfl, dd, [(("name" : Str), L2.V.str n)], L2.V.str n, rfl, hd, by rw [lookup_put, if_pos rfl], ?_⟩
    refine ⟨L2.V.ref a, s1, C, dd, rfl, rfl, T.exC, L2.V.ref V, _, true, _, rfl, v1, T.kV, hd, true, rfl, ?_⟩
    refine (if_pos rfl).mpr ⟨L2.V.ref a, s1, C, dd, rfl, rfl, T.exC, L2.V.ty "ValueError", _, true, _, rfl, v2, T.kE, hd, ?_⟩
    exact ⟨small_le (show 3 ≤ 1000 by decide), fun t ht => q2 t ht⟩
end DD
set_option maxRecDepth 100000
set_option maxHeartbeats 4000000
/-! SemP: _law_heard(lambda: e) over data; the drawing row. -/
namespace DD
open PySem PySem.Spec PyProof.Rows L2 LamX
/-- own slots are not seen -/
def plainE (ρ : Env') : Env' := ρ.map fun w => match w with
  | some (.own _) => none
  | w => w
theorem plainE_some {ρ : Env'} {i : Nat} {w : W} (h : (plainE ρ)[i]? = some (some w)) : ρ[i]? = some (some w) ∧ ∀ x, w ≠ .own x := by
  unfold plainE at h
  rw [List.getElem?_map] at h
  cases q : ρ[i]? with
  | none => rw [q] at h; cases h
  | some u =>
    rw [q] at h
    have h := Option.some.inj h
    cases u with
    | none => cases h
    | some u =>
      cases u with
      | own x => cases h
      | d x => cases h; exact ⟨rfl, fun x z => by cases z⟩
      | row => cases h; exact ⟨rfl, fun x z => by cases z⟩
theorem tab_ext {p : Par} {H H1 : Hp} {P : Addr} {q : Str} (w : Wd p H) (hP : (P, q) ∈ p.T) (e : ExtN H H1) (d : ∀ b, b ≠ P → H b ≠ none → H1 b = H b) (t : Tabs p.T H1) : Ext p H H1 := by
  obtain ⟨ps, e1, _⟩ := t _ hP
  refine ⟨fun b o h n _ => e b o h n, fun b h => ?_, w.dj, fun P' hP' => ?_, t, ?_⟩
  · by_cases z : b = P
    · rw [z, e1]; simp
    · rw [d b z h]; exact h
  · obtain ⟨ps', e2, q2⟩ := w.g P' hP'
    exact ⟨ps', by rw [d P' (fun z => w.dj P' hP' _ hP z.symm) (by rw [e2]; simp)]; exact e2, q2⟩
  · obtain ⟨⟨i, s, c, e', q'⟩, hs⟩ := w.row
    refine ⟨⟨i, s, c, e _ _ e' (fun ps z => by cases z), q'⟩, ?_⟩
    rcases hs with (hs | ⟨o, hs⟩) | hs
    · exact .inl (.inl (e _ _ hs (fun ps z => by cases z)))
    · exact .inl (.inr ⟨o, e _ _ hs (fun ps z => by cases z)⟩)
    · exact .inr hs
def heardX (Q : D → Prop) : EXn := fun x => match x with
  | .bad n => Q (.tuple [.str "bad", .str n, .bool true])
  | .unread _ _ => False
def wHeard (we : WE) : WE := fun ρ Q _ => ∃ Q0 : D → Prop, (∀ d, Q0 d → Q d) ∧ we (plainE ρ) (fun _ => Q0 (.tuple [])) (heardX Q0)
theorem Par.inn_at {p : Par} {N : Addr → Prop} {H : Hp} {E : XK} {K : PySem.W.Frag} : (p.inn N H E).at K = (p.at K).inn N H E := rfl
structure HeardC (X : Cx) (g : Addr) (C V : Addr) : Prop where
  txt : HeardTxt X.K X.mg C V
  hm : X.mg "_law_heard" = some (.ref g)
  kp : PySem.W.keepIn X.K (.ref g) = true
  fn : ∃ (oc : Value) (od : Option Addr) (osl : Array (Option Value)) (pg : Arguments) (sg : Scope) (dV kV doc pm : Value) (an : Option Addr) (cdv ct : Value) (j k1 k2 : Nat) (hds : List ExceptHandler) (p1 p2 p3 p4 p5 p6 p7 p8 p9 p10 p11 p12 p13 p14 p15 p16 p17 p18 p19 p20 p21 p22 : Pos),
    X.K.lookup g = some ⟨oc, od, .func (PySem.W.fnOf "_law_heard" "_law_heard" pg (heardB j k1 k2 hds p1 p2 p3 p4 p5 p6 p7 p8 p9 p10 p11 p12 p13 p14 p15 p16 p17 p18 p19 p20 p21 p22) sg dV kV doc pm an cdv ct), osl⟩ ∧ PySem.W.codeIn X.K cdv "_law_heard" = true ∧
      L2.Binds X.K (PySem.W.fnOf "_law_heard" "_law_heard" pg (heardB j k1 k2 hds p1 p2 p3 p4 p5 p6 p7 p8 p9 p10 p11 p12 p13 p14 p15 p16 p17 p18 p19 p20 p21 p22) sg dV kV doc pm an cdv ct) ["ask"] [] ∧
      FnScope ["ask", "e"] ["ask"] sg ∧ Vis sg "ask" ∧ sg.names.lookup ("e" : Str) = some .local ∧ sg.names.lookup ("BadArgument" : Str) = some .globalImplicit ∧ sg.names.lookup ("VanError" : Str) = some .globalImplicit ∧ sg.names.lookup ("isinstance" : Str) = some .globalImplicit ∧ sg.names.lookup ("ValueError" : Str) = some .globalImplicit
section
variable {p : Par} {X : Cx} {pos : Pos}
theorem de_heard {g C V c P : Addr} {k : Nat} {params : Arguments} {body : Expr} {scope : Scope} {we : WE} {q lpos : Pos} (Y : HeardC X g C V) (hC : p.cBad = C) (TB : TabB X.base X.mg c P) (hcode : X.env.code = .ref c) (hmT : (P, X.env.qual ++ "<lambda>") ∈ p.T) (hu : ∀ r ∈ p.T, r.1 = P → r.2 = X.env.qual ++ "<lambda>") (hr : Room (k + 2) X.A) (L : LamS X.env.scope scope)
    (mw : MonoE we) (hbody : ∀ (N : Addr → Prop) (H0 : Hp) (A : Around) (outer : List Env) (s : Shared) (H : Hp) (E : XK) (f c' : Addr), Room k (A.deeper (lamEnv X scope s.heap.objs.size f c')) → DE (p.inn N H0 E) (lamCx X A outer s H E scope f c') body we)
    (hdef : defaultsOf params X.env = ([], []) := by rfl) (hbind : ∀ (q : Str) (cl : List (Str × Addr)) (pm cv ctv : Value), bindArgs (PySem.W.kla_fn "<lambda>" q params body scope cl pm cv ctv) ⟨[], []⟩ = pure [] := by intros; rfl) (hg : Gl X "_law_heard" := by rfl) :
    DE p X (.Call (.Name "_law_heard" q) [.Lambda params body scope lpos] [] pos) (wHeard we) := by
  obtain ⟨oc, od, osl, pg, sg, dV, kV, doc, pm, an, cdv, ct, j, k1, k2, hds, p1, p2, p3, p4, p5, p6, p7, p8, p9, p10, p11, p12, p13, p14, p15, p16, p17, p18, p19, p20, p21, p22, lk, hcd, hb, Sg, va, l1, l2, l3, l4, l5⟩ := Y.fn
  -- the body's reading, its parameters left open
  let t : XK → TE := fun E => fun σ H Q => ∃ (N : Addr → Prop) (H0 : Hp), LE ((p.inn N H0 E).at X.K) we σ H Q
  have hb2 : ∀ (A : Around) (outer : List Env) (s : Shared) (H : Hp) (E : XK) (f c' : Addr), Room k (A.deeper (lamEnv X scope s.heap.objs.size f c')) → PE (lamCx X A outer s H E scope f c') body (t E) := fun A outer s H E f c' r =>
    ⟨fun pins s' σ H' Q I ⟨N, H0, ht⟩ => (hbody N H0 A outer s H E f c' r).pe.run pins s' σ H' Q I ht⟩
  refine ⟨pe_use (pe_lamcall3 (T := p.T) (P := P) (t := t) hg Y.hm Y.kp lk hcd hb Sg rfl va (heard_gives Y.txt Sg l1 l2 l3 l4 l5) TB hcode hmT hu hr L hdef hbind hb2) fun σ H Q hk ⟨ρ, O, EX, R, ex, Q0, hq0, hw⟩ => ?_,
    fun ρ Q Q' EX h ⟨Q0, h0, q'⟩ => ⟨Q0, fun d q => h d (h0 d q), q'⟩⟩
  · refine ⟨R.wd.t, fun H1 eN eD T1 => ?_⟩
    have e1 : Ext (p.at X.K) H H1 := tab_ext R.wd hmT eN eD T1
    have R1 := R.ext' e1
    let E1 : XK := fun cls d H' => cls = .ref C ∧ ∃ dd n, d = some dd ∧ H' dd = some (.xd [(("name" : Str), .str n)]) ∧ ∀ t, H' t = none → (Hk X.K (upd H' t (.tup [.str "bad", .str n, .bl true])) → Q (.ref t) (upd H' t (.tup [.str "bad", .str n, .bl true])))
    have lk : Like ((p.inn (NN (p.at X.K) O) H1 E1).at X.K) (p.at X.K) := ⟨rfl, rfl, rfl, rfl, rfl, rfl, rfl, rfl⟩
    show ∃ (N : Addr → Prop) (H0 : Hp), LE ((p.inn N H0 E1).at X.K) we σ H1 _
    have w1 : Wd ((p.inn (NN (p.at X.K) O) H1 E1).at X.K) H1 := e1.wd.like lk.symm
    refine ⟨NN (p.at X.K) O, H1, plainE ρ, noOwn, heardX Q0, ⟨w1, Ext.refl w1, by unfold plainE; rw [List.length_map]; exact R.len, fun i w hi => ?_, fun i j a h _ => (by cases h), fun x hx => (by cases hx), fun i a h => (by cases h)⟩, fun x cls dd H' h1 h2 h3 => ?_, mw _ _ _ _ (fun d q v H' hk' e' r => ?_) hw⟩
    · obtain ⟨hi1, hi2⟩ := plainE_some hi
      have hs := R1.slot i w hi1
      cases w with
      | d x =>
        obtain ⟨v, e1, e2⟩ := hs
        exact ⟨v, e1, RepV.keep ⟨fun a n _ => ⟨.inl n, n.2.1, fun i z => by cases z⟩, fun _ _ _ e _ => e, fun _ _ e => e, fun _ _ _ e => e⟩ x v e2⟩
      | own x => exact absurd rfl (hi2 x)
      | row => exact hs
    · cases x with
      | unread o y => exact h1.elim
      | bad n =>
        obtain ⟨rfl, d, rfl, hd⟩ := h3
        refine ⟨by show Value.ref p.cBad = _; rw [hC], d, n, rfl, hd, fun t ht hk' => ?_⟩
        have e2 : Ext (p.at X.K) H H' := e1.trans (h2.like lk)
        exact tup_new (p := p.at X.K) (q := hq0 _ h1) e2 (fun a ha => R.fresh0 ha) ht (rall_cons rep_str (rall_cons rep_str (rall_cons rep_bool rall_nil))) hk'
    · refine ⟨Nat.zero_le _, fun t ht hk2 => ?_⟩
      exact tup_new (p := p.at X.K) (q := hq0 _ q) (e1.trans (e'.like lk)) (fun a ha => R.fresh0 ha) ht rall_nil hk2
end
end DD
set_option maxRecDepth 100000
set_option maxHeartbeats 2000000
/-! SemQ: helpers of the printed derivations: known defs, parts, lambdas, list.index, True/False by is. -/
namespace DD
open PySem PySem.Spec PyProof.Rows L2 GenW
theorem boot_len : bootBuiltins "len" = some (.builtin "len") := by rfl
theorem boot_abs : bootBuiltins "abs" = some (.builtin "abs") := by rfl
theorem boot_sum : bootBuiltins "sum" = some (.builtin "sum") := by rfl
theorem boot_max : bootBuiltins "max" = some (.builtin "max") := by rfl
theorem boot_min : bootBuiltins "min" = some (.builtin "min") := by rfl
theorem boot_sorted : bootBuiltins "sorted" = some (.builtin "sorted") := by rfl
theorem boot_int : bootBuiltins "int" = some (.type "int") := by rfl
theorem boot_bool : bootBuiltins "bool" = some (.type "bool") := by rfl
theorem boot_str : bootBuiltins "str" = some (.type "str") := by rfl
theorem boot_list : bootBuiltins "list" = some (.type "list") := by rfl
theorem boot_tuple : bootBuiltins "tuple" = some (.type "tuple") := by rfl
theorem boot_dict : bootBuiltins "dict" = some (.type "dict") := by rfl
theorem hu65 {k : Nat} {A : Around} (r : Room k A) : A.units + 65 < cLine := by have := r.un; omega
section
variable {p S : Par} {X : Cx} {pos : Pos} {tg e a b c elt iter : Expr} {es ifs : List Expr}
/-! ### is True, is False -/
def gIsB (neg : Bool) : G2
  | .bool i, .bool j, Q => Q (if neg then !decide (i = j) else decide (i = j))
  | _, _, _ => False
theorem mono_IsB {neg : Bool} : ∀ a b, M0 (gIsB neg a b) := fun a b Q Q' h q => by
  cases a <;> cases b <;> first | exact q.elim | exact h _ q
theorem c_isB : Cmp2 p (gIsB false) (fun x y H Q => ∃ a b, x = .bl a ∧ y = .bl b ∧ Q (.bl (decide (a = b))) H) :=
  ⟨fun O H x y a b Qb Q ok rx ry h q => by
    cases a with
    | bool i =>
      cases b with
      | bool j => exact ⟨i, j, rx.bool, ry.bool, q _ h⟩
      | _ => exact h.elim
    | _ => exact h.elim, mono_IsB⟩
theorem c_notB : Cmp2 p (gIsB true) (fun x y H Q => ∃ a b, x = .bl a ∧ y = .bl b ∧ Q (.bl (!decide (a = b))) H) :=
  ⟨fun O H x y a b Qb Q ok rx ry h q => by
    cases a with
    | bool i =>
      cases b with
      | bool j => exact ⟨i, j, rx.bool, ry.bool, q _ h⟩
      | _ => exact h.elim
    | _ => exact h.elim, mono_IsB⟩
/-! ### known defs -/
structure Cal (P : Program) (w0 : World) (K : PySem.W.Frag) (mg : Str → Option Value) (base : Heap) (S : Par) (k : Nat) (x : Str) (ps : List Str) (f : FD) : Prop where
  ok : ∃ (g : Addr) (fd : FuncData), FnOk P w0 K mg base (L2.CX P w0) k g fd ps (SpD S f) ∧ mg x = some (.ref g) ∧ PySem.W.keepIn K (.ref g) = true ∧ Binds K fd ps []
  mono : MonoF f
theorem Cal.lift {P : Program} {w0 : World} {K : PySem.W.Frag} {mg : Str → Option Value} {base : Heap} {S : Par} {j k : Nat} {x : Str} {ps : List Str} {f : FD} (C : Cal P w0 K mg base S j x ps f) (h : j ≤ k) : Cal P w0 K mg base S k x ps f := by
  obtain ⟨⟨g, fd, h1, h2⟩, m⟩ := C
  exact ⟨⟨g, fd, h1.mono h, h2⟩, m⟩
theorem de_callC {f : FD} {x : Str} {ps : List Str} {k j : Nat} {ww : WW} {q : Pos} (C : Cal X.prog X.w X.K X.mg X.base S k x ps f) (lk : Like (p.at X.K) S) (hr : Room j X.A) (hx : XP p X)
    (ha : DWs p X (e :: es) ww) (hkj : k ≤ j := by first | decide | omega) (hg : Gl X x := by rfl) (hdb : (x == ("__debug__" : Str)) = false := by decide) (he : starEach (e :: es) X.env = (false, eval e X.env) :: starEach es X.env := by rfl) (hpl : (backTo pos (starEach es X.env)).any (·.1) = false := by rfl) :
    DE p X (.Call (.Name x q) (e :: es) [] pos) (wCall f ww) := by
  obtain ⟨⟨g, fd, h1, h2, h3, h4⟩, m⟩ := C
  exact de_call h1 m lk (hr.mono hkj) h2 h3 h4 hx ha hg hdb he hpl
theorem de_callC0 {f : FD} {x : Str} {ps : List Str} {k j : Nat} {q : Pos} (C : Cal X.prog X.w X.K X.mg X.base S k x ps f) (lk : Like (p.at X.K) S) (hr : Room j X.A) (hx : XP p X) (hkj : k ≤ j := by first | decide | omega) (hg : Gl X x := by rfl) (hdb : (x == ("__debug__" : Str)) = false := by decide) :
    DE p X (.Call (.Name x q) [] [] pos) (wCall f wwNil) := by
  obtain ⟨⟨g, fd, h1, h2, h3, h4⟩, m⟩ := C
  exact de_call0 h1 m lk (hr.mono hkj) h2 h3 h4 hx hg hdb
/-- a def of the text that keeps a promise -/
theorem cal_of {P : Program} {w0 : World} {K : PySem.W.Frag} {mg : Str → Option Value} {base : Heap} {k : Nat} {x qual : Str} {st : Stmt} {f : Addr} {fd : FuncData} {cdv : Value} {ps : List Str} {fw fs : FD} (F : FunC K x qual st f fd cdv) (hm : mg x = some (.ref f)) (hb : Binds K fd ps [])
    (h : FnOk P w0 K mg base (L2.CX P w0) k f fd ps (SpD S fw)) (m : MonoF fs) (imp : ∀ ws Q EX, fs ws Q EX → fw ws Q EX) : Cal P w0 K mg base S k x ps fs :=
  ⟨⟨f, fd, h.imp fun vs H Q E ⟨N, ws, EX, h1, h2, h3, h4, h5⟩ => ⟨N, ws, EX, h1, h2, h3, imp _ _ _ h4, h5⟩, hm, F.kp, hb⟩, m⟩
/-! ### parts -/
theorem lp {scope : Scope} {own : List (Str × Nat)} {ix : List Nat} {wi : WI} {g : WG} {t : WT} {we : WE} (nd : X.N.Nodup) (lk : Like (p.at X.K) S) (hi : DI true p X tg iter wi)
    (hg : ∀ (s : Shared) (H : Hp) (C : Addr) (cl : List (Str × Addr)) (fp : List Addr), DG p.nox (X.blk s H scope (compEnvC scope cl C X.env) fp) tg ix g)
    (ht : ∀ (s : Shared) (H : Hp) (C : Addr) (cl : List (Str × Addr)) (fp : List Addr), XP p.nox (X.blk s H scope (compEnvC scope cl C X.env) fp) → Like (p.nox.at X.K) S → DTs p.nox (X.blk s H scope (compEnvC scope cl C X.env) fp) ifs t)
    (he : ∀ (s : Shared) (H : Hp) (C : Addr) (cl : List (Str × Addr)) (fp : List Addr), XP p.nox (X.blk s H scope (compEnvC scope cl C X.env) fp) → Like (p.nox.at X.K) S → DE p.nox (X.blk s H scope (compEnvC scope cl C X.env) fp) elt we)
    (hb : blkC X.N X.env.scope scope own = true := by first | decide +kernel | kernel_rfl) (hix : ix.all (fun i => (own.map (·.2)).contains i) = true := by decide) (hc : X.calm = true := by rfl) (hs : ∀ x, foldedSetIterable iter X.env x = pure x := by intro _; rfl) : LParts p X elt tg iter ifs scope own wi g t we :=
  ⟨hc, nd, hi, blkOk_by hb, ⟨ix, fun i h => by simpa using List.all_eq_true.mp hix i h, hg⟩, fun s H C cl fp => ht s H C cl fp xp_nox lk.nox, fun s H C cl fp => he s H C cl fp xp_nox lk.nox, hs⟩
theorem gok_by {scope : Scope} (h : (!scope.isCoroutine && scope.names.all (fun y => !decide (y.2 = .cell)) && decide (scope.names.lookup (".0" : Str) = some NameKind.local)) = true) : GX.GOk scope := by
  simp only [Bool.and_eq_true, Bool.not_eq_true', decide_eq_true_eq, decide_eq_false_iff_not, List.all_eq_true] at h
  exact ⟨h.1.1, h.1.2, h.2⟩
theorem tabG {base : Heap} {mg : Str → Option Value} {c P : Addr} (h : LamX.TabB base mg c P) : GxR.TabB base mg c P := ⟨h.code, h.bm, h.gP⟩
theorem gp {k : Nat} {scope : Scope} {own : List (Str × Nat)} {ix : List Nat} {cc P : Addr} {wi : WI} {g : WG} {t : WT} {we : WE} (nd : X.N.Nodup) (lk : Like (p.at X.K) S) (tb : LamX.TabB X.base X.mg cc P) (hP : P ∈ S.G) (hr : Room (k + 2) X.A) (hi : DI true p X tg iter wi)
    (hg : ∀ (A : Around) (s : Shared) (H : Hp) (C : Addr) (code : Value) (fp : List Addr) (pn : List (Addr × Obj)), DG p.nox (GX.gcx X A s H (GX.genv X scope C code) fp pn) tg ix g)
    (ht : ∀ (A : Around) (s : Shared) (H : Hp) (C : Addr) (code : Value) (fp : List Addr) (pn : List (Addr × Obj)), Room k A → XP p.nox (GX.gcx X A s H (GX.genv X scope C code) fp pn) → Like (p.nox.at X.K) S → DTs p.nox (GX.gcx X A s H (GX.genv X scope C code) fp pn) ifs t)
    (he : ∀ (A : Around) (s : Shared) (H : Hp) (C : Addr) (code : Value) (fp : List Addr) (pn : List (Addr × Obj)), Room k A → XP p.nox (GX.gcx X A s H (GX.genv X scope C code) fp pn) → Like (p.nox.at X.K) S → DE p.nox (GX.gcx X A s H (GX.genv X scope C code) fp pn) elt we)
    (hcode : X.env.code = .ref cc := by rfl) (hb : blkC X.N X.env.scope scope own = true := by first | decide +kernel | kernel_rfl) (hgk : (!scope.isCoroutine && scope.names.all (fun y => !decide (y.2 = .cell)) && decide (scope.names.lookup (".0" : Str) = some NameKind.local)) = true := by decide +kernel) (hix : ix.all (fun i => (own.map (·.2)).contains i) = true := by decide) (hc : X.calm = true := by rfl) (hs : ∀ v, genFold iter X.env v = pure v := by intro _; rfl) : GpD p X k elt tg iter ifs scope own cc P wi g t we :=
  ⟨hr, tabG tb, by have := lk.G; rw [show p.G = S.G from this]; exact hP, hcode, nd, hc, hi, blkOk_by hb, gok_by hgk, ⟨ix, fun i h => by simpa using List.all_eq_true.mp hix i h, fun A s H C code fp pn _ => hg A s H C code fp pn⟩,
    fun A s H C code fp pn r => ht A s H C code fp pn r xp_nox lk.nox, fun A s H C code fp pn r => he A s H C code fp pn r xp_nox lk.nox, hs⟩
theorem Like.inn2 {N : Addr → Prop} {H : Hp} {E : XK} {K : PySem.W.Frag} (h : Like (p.at K) S) : Like ((p.inn N H E).at K) S := ⟨h.K, h.T, h.G, h.r, h.scr, h.ns, h.b, h.u⟩
/-- _law_heard(lambda: e) -/
theorem hd {g C V cc P : Addr} {k : Nat} {params : Arguments} {body : Expr} {scope : Scope} {we : WE} {q lpos : Pos} (Y : HeardC X g C V) (hC : S.cBad = C) (TB : LamX.TabB X.base X.mg cc P) (lk : Like (p.at X.K) S) (hmT : (P, X.env.qual ++ "<lambda>") ∈ S.T) (hu : ∀ r ∈ S.T, r.1 = P → r.2 = X.env.qual ++ "<lambda>") (hr : Room (k + 2) X.A)
    (hbody : ∀ (N : Addr → Prop) (H0 : Hp) (A : Around) (outer : List Env) (s : Shared) (H : Hp) (E : XK) (f c' : Addr), Room k (A.deeper (LamX.lamEnv X scope s.heap.objs.size f c')) → XP (p.inn N H0 E) (LamX.lamCx X A outer s H E scope f c') → Like ((p.inn N H0 E).at X.K) S → DE (p.inn N H0 E) (LamX.lamCx X A outer s H E scope f c') body we)
    (hcode : X.env.code = .ref cc := by rfl) (L : LamX.lamSB X.env.scope scope = true := by first | decide +kernel | kernel_rfl)
    (hdef : defaultsOf params X.env = ([], []) := by rfl) (hbind : ∀ (q : Str) (cl : List (Str × Addr)) (pm cv ctv : Value), bindArgs (PySem.W.kla_fn "<lambda>" q params body scope cl pm cv ctv) ⟨[], []⟩ = pure [] := by intros; rfl) (hg : Gl X "_law_heard" := by rfl) :
    DE p X (.Call (.Name "_law_heard" q) [.Lambda params body scope lpos] [] pos) (wHeard we) := by
  have hb : ∀ (N : Addr → Prop) (H0 : Hp) (A : Around) (outer : List Env) (s : Shared) (H : Hp) (E : XK) (f c' : Addr), Room k (A.deeper (LamX.lamEnv X scope s.heap.objs.size f c')) → DE (p.inn N H0 E) (LamX.lamCx X A outer s H E scope f c') body we :=
    fun N H0 A outer s H E f c' r => hbody N H0 A outer s H E f c' r (xp_of (takes_of (E := E) rfl rfl rfl rfl)) lk.inn2
  refine de_heard (p := p) Y (by rw [← hC]; exact lk.b) TB hcode (by rw [show p.T = S.T from lk.T]; exact hmT) (by rw [show p.T = S.T from lk.T]; exact hu) hr (LamX.lamS_by L) ?_ hb hdef hbind hg
  exact (hb (fun _ => True) X.H_0 X.A [] X.s_0 X.H_0 (fun _ _ _ => False) 0 0 ((hr.mono (j := k + 1) (by omega)).deeper _)).mono
/-! ### list.index -/
/-- the first place -/
def firstAt (ds : List D) (d : D) : Option Nat := ds.findIdx? fun z => PyData.eqv z d
def wIndex (wa wb : WE) : WE := fun ρ Q EX => wa ρ (fun a => ∃ ds, a = .list ds ∧ SeqAt.shaped (.list ds) = true ∧ wb ρ (fun b => SeqAt.shaped b = true ∧ ∃ j, firstAt ds b = some j ∧ Q (.int (j : Nat))) EX) EX
theorem de_index {wa wb : WE} {apos : Pos} (hu : X.A.units + 65 < cLine) (ha : DB p X a wa) (hb : DB p X b wb) (hbase : attributeBase a "index" X.env (eval a X.env) = eval a X.env := by rfl)
    (hfew : ((backTo pos (starEach (b :: []) X.env)).all (fun x => !x.1) && (backToKw pos (keywordEach [] X.env)).all (fun x => x.1.isSome)
      && decide ((b :: ([] : List Expr)).length + ([] : List Keyword).length + (if ([] : List Keyword).isEmpty then 0 else 1) < 30)) = true := by rfl)
    (hline : (apos.endLine == pos.line) = true := by rfl) (hs : starEach (b :: []) X.env = (false, eval b X.env) :: starEach [] X.env := by rfl) (hplain : (backTo pos (starEach [] X.env)).any (·.1) = false := by rfl) : DE p X (.Call (.Attribute a "index" apos) [b] [] pos) (wIndex wa wb) := by
  refine ⟨pe_use (pe_bm PySem.F.plainAttrs_list PySem.F.slot_list_index PySem.F.type_list_index (mt_indexD hu) ha.pe (pa_cons hb.pe pa_nil hs) hbase hfew hline hs hplain) fun σ H Q hk ⟨ρ, O, EX, R, ex, hw⟩ => ?_, fun ρ Q Q' EX h q => ha.mono _ _ _ _ (fun a ⟨ds, h1, h2, q⟩ => ⟨ds, h1, h2, hb.mono _ _ _ _ (fun b ⟨h3, j, h4, q⟩ => ⟨h3, j, h4, h _ q⟩) q⟩) q⟩
  refine ⟨ρ, O, EX, R, ex, ha.mono _ _ _ _ (fun da ⟨ds, z, sl, q⟩ v H1 hk1 e1 r1 => ?_) hw⟩
  subst z
  obtain ⟨l, vs, rfl, hl, h1, r0⟩ := r1.list
  refine ⟨.inl ⟨rfl, _, SqL.of h1⟩, ρ, O, EX, R.ext' e1, ex, hb.mono _ _ _ _ (fun db ⟨sb, j, hj, q⟩ y H2 hk2 e2 r2 => ?_) q⟩
  have rl := r1.ext e1.wd e2
  obtain ⟨hj1, hj2, hj3⟩ := List.findIdx?_eq_some_iff_getElem.mp hj
  refine ⟨l, y, db, ds, j, ds[j], rfl, rfl, rl.dp (SeqAt.canLay_of_shaped sl), r2.dp (SeqAt.canLay_of_shaped sb), sl, sb, List.getElem?_eq_getElem hj1, hj2, fun m z' hm hz => ?_, fun hk4 => q _ H2 hk2 (e1.trans e2) rep_int⟩
  obtain ⟨hm1, rfl⟩ := List.getElem?_eq_some_iff.mp hz
  simpa using hj3 m hm
end
end DD
set_option maxRecDepth 100000
set_option maxHeartbeats 2000000
/-! SemR: the drawing of a number from the script's row. -/
namespace DD
open PySem PySem.Spec PyProof.Rows L2 GenW
abbrev rwGt : R2 := rI0 fun i j => .bl (decide (j < i))
abbrev rwGe : R2 := rI0 fun i j => .bl (decide (j ≤ i))
abbrev rwAdd : R2 := rI0 fun i j => .int (i + j)
abbrev rwSub : R2 := rI0 fun i j => .int (i - j)
abbrev rwMul : R2 := rI CMul fun i j => .int (i * j)
abbrev rwMod : R2 := rI (fun _ j => 0 < j) fun i j => .int (i % j)
abbrev rwDiv : R2 := rI CDivW fun i j => .int (i / j)
abbrev rwPow : R2 := rI CPow fun i j => .int (i ^ j.toNat)
abbrev rwInt : List V → Hp → VK → Prop := fun xs H Q => (∃ i, xs = [.int i] ∧ Q (.int i) H) ∨ ∃ k, xs = [.bl k] ∧ Q (.int (if k then 1 else 0)) H
abbrev rwLen (K : PySem.W.Frag) : List V → Hp → VK → Prop := fun xs H Q => ∃ x n, xs = [x] ∧ LenV K x H n ∧ Q (.int n) H
abbrev tIxR (K : PySem.W.Frag) (k : Int) : TE := tOp (rIxL K) (tVar 0) (tC (.int k))
abbrev tPutR (k : Int) (te : TE) : TS := tAsg te (gSub (tVar 0) (tC (.int k)) rSetL)
abbrev tIntR (te : TE) : TE := tCB rwInt (tCons te tNil)
def t_taken (K : PySem.W.Frag) : TS :=
  tSeq (tIfS (tTest (tOp rwGt (tIxR K 3) (tC (.int 0))))
    (tSeq (tAsg (tOp rwMod (tIntR (tIxR K 3)) (tVar 1)) (gName 2)) (tSeq (tPutR 3 (tOp rwDiv (tIxR K 3) (tVar 1))) (tRet (tVar 2)))) tNext)
  (tSeq (tPutR 1 (tOp rwAdd (tIxR K 1) (tC (.int 1))))
  (tSeq (tIfS (tTest (tOp rwGt (tIxR K 1) (tCB (rwLen K) (tCons (tIxR K 0) tNil))))
    (tSeq (tPutR 2 (tOp rwMod (tIntR (tOp rwAdd (tOp rwMul (tIxR K 2) (tC (.int 48271))) (tC (.int 11)))) (tC (.int 2147483647)))) (tRet (tOp rwMod (tIntR (tOp rwDiv (tIxR K 2) (tC (.int 7)))) (tVar 1)))) tNext)
  (tSeq (tAsg (tOp (rIxL K) (tIxR K 0) (tOp rwSub (tIxR K 1) (tC (.int 1)))) (gName 3))
  (tSeq (tPutR 2 (tOp rwMod (tIntR (tOp rwAdd (tOp rwAdd (tOp rwMul (tIxR K 2) (tC (.int 48271))) (tVar 3)) (tC (.int 11)))) (tC (.int 2147483647))))
  (tSeq (tIfS (tTest (tOp rwGe (tVar 3) (tOp rwPow (tC (.int 10)) (tC (.int 18))))) (tPutR 3 (tOp rwDiv (tVar 3) (tVar 1))) tNext)
    (tRet (tOp rwMod (tIntR (tVar 3)) (tVar 1))))))))
/-- some number below n -/
def _law_taken_s : FD := fun ws Q _ => ∃ n : Int, ws = [.row, .d (.int n)] ∧ 0 < n ∧ n < 2 ^ 64 ∧ ∀ r : Int, 0 ≤ r → r < n → Q (.int r)
theorem mono__law_taken : MonoF _law_taken_s := fun ws Q Q' EX h ⟨n, e, h1, h2, q⟩ => ⟨n, e, h1, h2, fun r a b => h _ (q r a b)⟩
section
variable {S : Par}
abbrev rowL (scr : Addr) (i s c : Int) : HO := .lst [.ref scr, .int i, .int s, .int c]
theorem Ext.row {H : Hp} {i s c : Int} (w : Wd S H) (hi : 0 ≤ i) (hs : 0 ≤ s ∧ s < 2147483647) (hc : 0 ≤ c) : Ext S H (upd H S.r (rowL S.scr i s c)) := by
  obtain ⟨⟨i0, s0, c0, e0, q0⟩, hsc⟩ := w.row
  refine ⟨fun b o e n m => by rw [upd_ne m]; exact e, fun b e => ?_, w.dj, fun P hP => ?_, fun P hP => ?_, ⟨i, s, c, by unfold L2.upd; rw [if_pos rfl], hi, hs.1, hs.2, hc⟩, ?_⟩
  · by_cases z : b = S.r
    · rw [z]; unfold L2.upd; rw [if_pos rfl]; simp
    · rw [upd_ne z]; exact e
  · obtain ⟨ps, e, q⟩ := w.g P hP
    exact ⟨ps, by rw [upd_ne (fun z => by rw [z, e0] at e; cases e)]; exact e, q⟩
  · obtain ⟨ps, e, q, q2⟩ := w.t P hP
    refine ⟨ps, by rw [upd_ne (fun z => by rw [z, e0] at e; cases e)]; exact e, q, fun pos cv hc => ?_⟩
    obtain ⟨c, e1, e2⟩ := q2 pos cv hc
    exact ⟨c, e1, by rw [upd_ne (fun z => by rw [z, e0] at e2; cases e2)]; exact e2⟩
  · rcases hsc with (hsc | ⟨o, hsc⟩) | hsc
    · refine .inl (.inl ?_)
      rw [upd_ne (fun z => ?_)]; exact hsc
      rw [z, e0] at hsc
      have z2 : [V.ref S.scr, .int i0, .int s0, .int c0] = S.ns.map V.int := by
        injection hsc with h1
        injection h1
      cases q : S.ns with
      | nil => rw [q] at z2; cases z2
      | cons a r => rw [q] at z2; simp at z2
    · refine .inl (.inr ⟨o, ?_⟩)
      rw [upd_ne (fun z => by rw [z, e0] at hsc; cases hsc)]; exact hsc
    · exact .inr hsc
theorem ixR {K : PySem.W.Frag} {σ : L2.St} {H : Hp} {r scr : Addr} {i s c : Int} {k : Int} {v : V} {Q : VK} (hH : H r = some (rowL scr i s c)) (hσ : σ[0]? = some (some (.ref r))) (hv : atI [V.ref scr, .int i, .int s, .int c] k = some v) (q : Q v H) : tIxR K k σ H Q :=
  ⟨.ref r, hσ, r, _, k, v, rfl, rfl, .of hH, hv, q⟩
theorem if_true_of {c : Bool} {A B : Prop} (hc : c = true) (h : A) : if c = true then A else B := by
  rw [if_pos hc]
  exact h
theorem if_false_of {c : Bool} {A B : Prop} (hc : c = false) (h : B) : if c = true then A else B := by
  rw [hc, if_neg Bool.false_ne_true]
  exact h
theorem pow18 : (10 : Int) ^ (18 : Int).toNat = 1000000000000000000 := by decide
theorem log64 {n : Int} (h : 0 < n) (h2 : n < 2 ^ 64) : n.natAbs.log2 < 9000 := by
  have : n.natAbs < 2 ^ 64 := by omega
  have := (Nat.log2_lt (by omega)).mpr this
  omega
theorem pure_taken {vs : List V} {H : Hp} {Q : VK} {E : XK} (h : SpD S _law_taken_s vs H Q E) : t_taken S.K { nx := fun _ H' => Q .non H', rt := Q } (L2.start ["row", "many", "found", "cell"] vs) H := by
  obtain ⟨N, ws, EX, wd, hn, hp, ⟨n, rfl, n0, n1, q⟩, _⟩ := h
  cases hp with
  | cons r1 hp =>
    cases hp with
    | cons r2 hp =>
      cases hp
      rename_i v1 v2
      have e1 : v1 = .ref S.r := r1
      have e2 : v2 = .int n := (by
        have r2 : RepV S.K N H v2 (.int n) := r2
        rw [RepV] at r2; exact r2)
      subst e1 e2
      obtain ⟨⟨i, s, c, hr, i0, s0, s1, c0⟩, hsc⟩ := wd.row
      have fin : ∀ (z : Int) (H' : Hp), Ext S H H' → Q (.int (z % n)) H' := fun z H' e => q (z % n) (Int.emod_nonneg z (by omega)) (Int.emod_lt_of_pos z n0) _ H' e rep_int
      -- the carry
      refine ixR hr rfl rfl ⟨c, 0, rfl, rfl, _, rfl, ?_⟩
      by_cases hc : 0 < c
      · refine if_true_of (decide_eq_true hc) ?_
        refine ixR hr rfl rfl (.inl ⟨c, rfl, ⟨_, rfl, c, n, rfl, rfl, n0, ?_⟩⟩)
        refine ixR hr rfl rfl ⟨_, rfl, c, n, rfl, rfl, ⟨n0, log64 n0 n1⟩, ?_⟩
        refine ⟨_, rfl, _, _, 3, 3, rfl, rfl, hr, rfl, ?_⟩
        exact ⟨_, rfl, fin c _ (Ext.row wd i0 ⟨s0, s1⟩ (Int.ediv_nonneg c0 (by omega)))⟩
      · refine if_false_of (decide_eq_false hc) ?_
        refine ixR hr rfl rfl ⟨i, 1, rfl, rfl, ?_⟩
        refine ⟨_, rfl, _, _, 1, 1, rfl, rfl, hr, rfl, ?_⟩
        have e1 : Ext S H (upd H S.r (rowL S.scr (i + 1) s c)) := Ext.row wd (by omega) ⟨s0, s1⟩ c0
        have hr1 : (upd H S.r (rowL S.scr (i + 1) s c)) S.r = some (rowL S.scr (i + 1) s c) := by unfold L2.upd; rw [if_pos rfl]
        have hs1 := e1.wd.row.2
        show tSeq _ _ _ _ (upd H S.r (rowL S.scr (i + 1) s c))
        generalize upd H S.r (rowL S.scr (i + 1) s c) = H1 at e1 hr1 hs1 ⊢
        refine ixR hr1 rfl rfl ?_
        refine ixR hr1 rfl rfl ⟨_, _, rfl, .inl ⟨_, hs1, rfl⟩, i + 1, _, rfl, rfl, _, rfl, ?_⟩
        rw [List.length_map]
        by_cases hi : (S.ns.length : Int) < i + 1
        · refine if_true_of (decide_eq_true hi) ?_
          refine ixR hr1 rfl rfl ⟨s, 48271, rfl, rfl, .inr (by decide), _, _, rfl, rfl, .inl ⟨_, rfl, _, _, rfl, rfl, (show (0 : Int) < 2147483647 by decide), ?_⟩⟩
          refine ⟨_, rfl, _, _, 2, 2, rfl, rfl, hr1, rfl, ?_⟩
          have e2 : Ext S H1 (upd H1 S.r (rowL S.scr (i + 1) ((s * 48271 + 11) % 2147483647) c)) := Ext.row e1.wd (by omega) ⟨Int.emod_nonneg _ (by decide), Int.emod_lt_of_pos _ (by decide)⟩ c0
          have hr2 : (upd H1 S.r (rowL S.scr (i + 1) ((s * 48271 + 11) % 2147483647) c)) S.r = some (rowL S.scr (i + 1) ((s * 48271 + 11) % 2147483647) c) := by unfold L2.upd; rw [if_pos rfl]
          exact ixR hr2 rfl rfl ⟨_, 7, rfl, rfl, (show (0 : Int) < 7 ∧ (7 : Int).natAbs.log2 < 9000 from ⟨by decide, log64 (by decide) (by decide)⟩), .inl ⟨_, rfl, ⟨_, rfl, _, n, rfl, rfl, n0, fin _ _ (e1.trans e2)⟩⟩⟩
        · refine if_false_of (decide_eq_false hi) ?_
          obtain ⟨j, hj⟩ : ∃ j : Nat, i = j := ⟨i.toNat, by omega⟩
          subst hj
          have hj2 : j < S.ns.length := by omega
          have hat : atI (S.ns.map V.int) ((j : Int) + 1 - 1) = some (V.int S.ns[j]) := by
            have : ((j : Int) + 1 - 1) = j := by omega
            rw [this]
            unfold atI ixN
            rw [List.length_map]
            simp [hj2]
          refine ixR hr1 rfl rfl (ixR hr1 rfl rfl ⟨_, 1, rfl, rfl, _, _, _, _, rfl, rfl, hs1, hat, ?_⟩)
          generalize S.ns[j] = z
          refine ixR hr1 rfl rfl ⟨s, 48271, rfl, rfl, .inr (by decide), _, rfl, _, _, rfl, rfl, _, _, rfl, rfl, .inl ⟨_, rfl, _, _, rfl, rfl, (show (0 : Int) < 2147483647 by decide), ?_⟩⟩
          refine ⟨_, rfl, _, _, 2, 2, rfl, rfl, hr1, rfl, ?_⟩
          have e2 : Ext S H1 (upd H1 S.r (rowL S.scr ((j : Int) + 1) ((s * 48271 + z + 11) % 2147483647) c)) := Ext.row e1.wd (by omega) ⟨Int.emod_nonneg _ (by decide), Int.emod_lt_of_pos _ (by decide)⟩ c0
          have hr2 : (upd H1 S.r (rowL S.scr ((j : Int) + 1) ((s * 48271 + z + 11) % 2147483647) c)) S.r = some (rowL S.scr ((j : Int) + 1) ((s * 48271 + z + 11) % 2147483647) c) := by unfold L2.upd; rw [if_pos rfl]
          have b2 : 0 ≤ (s * 48271 + z + 11) % 2147483647 ∧ (s * 48271 + z + 11) % 2147483647 < 2147483647 := ⟨Int.emod_nonneg _ (by decide), Int.emod_lt_of_pos _ (by decide)⟩
          show tSeq _ _ _ _ (upd H1 S.r (rowL S.scr ((j : Int) + 1) ((s * 48271 + z + 11) % 2147483647) c))
          generalize (s * 48271 + z + 11) % 2147483647 = s2 at e2 hr2 b2 ⊢
          generalize upd H1 S.r (rowL S.scr ((j : Int) + 1) s2 c) = H2 at e2 hr2 ⊢
          refine ⟨_, rfl, _, _, rfl, rfl, ⟨by decide, by decide, by decide⟩, z, _, rfl, rfl, _, rfl, ?_⟩
          rw [pow18]
          by_cases hz : 1000000000000000000 ≤ z
          · refine if_true_of (decide_eq_true hz) ?_
            refine ⟨_, rfl, _, rfl, z, n, rfl, rfl, ⟨n0, log64 n0 n1⟩, ?_⟩
            refine ⟨_, rfl, _, _, 3, 3, rfl, rfl, hr2, rfl, ?_⟩
            have e3 : Ext S H2 (upd H2 S.r (rowL S.scr ((j : Int) + 1) s2 (z / n))) := Ext.row e2.wd (by omega) b2 (Int.ediv_nonneg (by omega) (by omega))
            exact ⟨_, rfl, .inl ⟨z, rfl, _, rfl, z, n, rfl, rfl, n0, fin z _ ((e1.trans e2).trans e3)⟩⟩
          · refine if_false_of (decide_eq_false hz) ?_
            exact ⟨_, rfl, .inl ⟨z, rfl, _, rfl, z, n, rfl, rfl, n0, fin z _ (e1.trans e2)⟩⟩
end
end DD
set_option maxRecDepth 100000
set_option maxHeartbeats 2000000
/-! SemS: readings evaluated; the drawing of an item, check, alike. -/
namespace DD
open PySem PySem.Spec PyProof.Rows L2 GenW
section
variable {ρ : Env'} {Q : D → Prop} {Qb : Bool → Prop} {EX : EXn} {D0 : EndsW} {w u v : WS} {a b c : WE} {t t2 t3 : WT}
@[simp ↓] theorem ev_C {d : D} : wC d ρ Q EX = Q d := rfl
@[simp ↓] theorem ev_Var {i : Nat} : wVar i ρ Q EX = (match ρ[i]? with | some (some (.d d)) => Q d | _ => False) := rfl
@[simp ↓] theorem ev_Own {i : Nat} : wOwn i ρ Q EX = (match ρ[i]? with | some (some (.own d)) => Q d | _ => False) := rfl
@[simp ↓] theorem ev_Op2 {f : F2} : wOp2 f a b ρ Q EX = a ρ (fun x => b ρ (fun y => f x y Q) EX) EX := rfl
@[simp ↓] theorem ev_OpN {f : FN} {wa : WA} : wOpN f wa ρ Q EX = wa ρ (fun x => f x Q) EX := rfl
@[simp ↓] theorem ev_Cmp2 {g : G2} : wCmp2 g a b ρ Q EX = a ρ (fun x => b ρ (fun y => g x y fun k => Q (.bool k)) EX) EX := rfl
@[simp ↓] theorem ev_Tst2 {g : G2} : wTst2 g a b ρ Qb EX = a ρ (fun x => b ρ (fun y => g x y Qb) EX) EX := rfl
@[simp ↓] theorem ev_Chain {g g' : G2} : wChain g g' a b c ρ Qb EX = a ρ (fun x => b ρ (fun y => g x y fun k => if k = true then c ρ (fun z => g' y z Qb) EX else Qb false) EX) EX := rfl
@[simp ↓] theorem ev_ChainE {g g' : G2} : wChainE g g' a b c ρ Q EX = a ρ (fun x => b ρ (fun y => g x y fun k => if k = true then c ρ (fun z => g' y z fun k => Q (.bool k)) EX else Q (.bool false)) EX) EX := rfl
@[simp ↓] theorem ev_aNil {Q : List D → Prop} : waNil ρ Q EX = Q [] := rfl
@[simp ↓] theorem ev_aCons {r : WA} {Q : List D → Prop} : waCons a r ρ Q EX = a ρ (fun d => r ρ (fun ds => Q (d :: ds)) EX) EX := rfl
@[simp ↓] theorem ev_wNil {Q : List W → Prop} : wwNil ρ Q EX = Q [] := rfl
@[simp ↓] theorem ev_wCons {r : WW} {Q : List W → Prop} : wwCons a r ρ Q EX = a ρ (fun d => r ρ (fun ds => Q (.d d :: ds)) EX) EX := rfl
@[simp ↓] theorem ev_wRow {i : Nat} {r : WW} {Q : List W → Prop} : wwRow i r ρ Q EX = (ρ[i]? = some (some .row) ∧ r ρ (fun ds => Q (.row :: ds)) EX) := rfl
@[simp ↓] theorem ev_Tup {wa : WA} : wTup wa ρ Q EX = wa ρ (fun ds => Q (.tuple ds)) EX := rfl
@[simp ↓] theorem ev_Lst {wa : WA} : wLst wa ρ Q EX = wa ρ (fun ds => Q (.list ds)) EX := rfl
@[simp ↓] theorem ev_Call {f : FD} {ww : WW} : wCall f ww ρ Q EX = ww ρ (fun ws => f ws Q EX) EX := rfl
@[simp ↓] theorem ev_Tru : wTru a ρ Qb EX = a ρ (fun d => truG d Qb) EX := rfl
@[simp ↓] theorem ev_And : wAnd t t2 ρ Qb EX = t ρ (fun c => if c = true then t2 ρ Qb EX else Qb false) EX := rfl
@[simp ↓] theorem ev_Or : wOr t t2 ρ Qb EX = t ρ (fun c => if c = true then Qb true else t2 ρ Qb EX) EX := rfl
@[simp ↓] theorem ev_Not : wNot t ρ Qb EX = t ρ (fun c => Qb (!c)) EX := rfl
@[simp ↓] theorem ev_AndV : wAndV a b ρ Q EX = a ρ (fun d => truG d fun k => if k = true then b ρ Q EX else Q d) EX := rfl
@[simp ↓] theorem ev_OrV : wOrV a b ρ Q EX = a ρ (fun d => truG d fun k => if k = true then Q d else b ρ Q EX) EX := rfl
@[simp ↓] theorem ev_NotV : wNotV a ρ Q EX = a ρ (fun d => truG d fun k => Q (.bool !k)) EX := rfl
@[simp ↓] theorem ev_If : wIf t a b ρ Q EX = t ρ (fun k => if k = true then a ρ Q EX else b ρ Q EX) EX := rfl
@[simp ↓] theorem ev_Neg : wNeg a ρ Q EX = a ρ (fun d => ∃ i, d = .int i ∧ Q (.int (-i))) EX := rfl
@[simp ↓] theorem ev_Isi {T : String} : wIsi T a ρ Q EX = a ρ (fun d => Q (.bool (isTy T d))) EX := rfl
@[simp ↓] theorem ev_Isi2 {S T : String} : wIsi2 S T a ρ Q EX = a ρ (fun d => Q (.bool (isTy S d || isTy T d))) EX := rfl
@[simp ↓] theorem ev_MaxD : wMaxD a b ρ Q EX = a ρ (fun x => b ρ (fun y => ∃ ns, rowD x = some ns ∧ match ns with | [] => Q y | n :: ns => Q (.int (maxI n ns))) EX) EX := rfl
@[simp ↓] theorem ev_oNone {Q : Option Int → Prop} : woNone ρ Q EX = Q none := rfl
@[simp ↓] theorem ev_oSome {Q : Option Int → Prop} : woSome a ρ Q EX = a ρ (fun d => ∃ i, d = .int i ∧ Q (some i)) EX := rfl
@[simp ↓] theorem ev_Cut {wl wh : Env' → (Option Int → Prop) → EXn → Prop} : wCut a wl wh ρ Q EX = a ρ (fun d => wl ρ (fun lo => wh ρ (fun hi => aCut lo hi d Q) EX) EX) EX := rfl
@[simp ↓] theorem ev_Rev : wRev a ρ Q EX = a ρ (fun d => ∃ xs, d = .list xs ∧ Q (.list xs.reverse)) EX := rfl
@[simp ↓] theorem ev_Lc {wi : WI} {g : WG} {vs : List Nat} : wLc wi g t a vs ρ Q EX = wi ρ (fun ds => wComp g t a (wipeE ρ vs) ds [] Q) EX := rfl
@[simp ↓] theorem ev_Yes : wYes ρ Qb EX = Qb true := rfl
@[simp ↓] theorem ev_iSeq {Q : List D → Prop} : wiSeq a ρ Q EX = a ρ (fun d => ∃ ds, seqD d = some ds ∧ Q ds) EX := rfl
@[simp ↓] theorem ev_iRng1 {Q : List D → Prop} : wiRng1 a ρ Q EX = a ρ (fun d => ∃ j, d = .int j ∧ rBnd j ∧ Q (rngD 0 j.toNat)) EX := rfl
@[simp ↓] theorem ev_iRng2 {Q : List D → Prop} : wiRng2 a b ρ Q EX = a ρ (fun d => b ρ (fun d2 => ∃ i j, d = .int i ∧ d2 = .int j ∧ rBnd i ∧ rBnd j ∧ Q (rngD i (j - i).toNat)) EX) EX := rfl
@[simp ↓] theorem ev_iEnum {Q : List D → Prop} : wiEnum a ρ Q EX = a ρ (fun d => ∃ ds, d = .list ds ∧ Q (enumD ds)) EX := rfl
@[simp ↓] theorem ev_iZip {Q : List D → Prop} : wiZip a b ρ Q EX = a ρ (fun d => b ρ (fun d2 => ∃ ds es, ((d = .list ds ∧ d2 = .list es) ∨ (d = .tuple ds ∧ d2 = .tuple es)) ∧ Q (zipD ds es)) EX) EX := rfl
@[simp ↓] theorem ev_gName {i : Nat} {d : D} {Q : Env' → Prop} : wgName i d ρ Q = Q (ρ.set i (some (.d d))) := rfl
@[simp ↓] theorem ev_gNil {Q : Env' → Prop} : wgNil [] ρ Q ↔ Q ρ := ⟨fun h => h.2, fun h => ⟨rfl, h⟩⟩
@[simp ↓] theorem ev_gCons {g : WG} {us : WGs} {d : D} {r : List D} {Q : Env' → Prop} : wgCons g us (d :: r) ρ Q ↔ g d ρ (fun ρ' => us r ρ' Q) := ⟨fun ⟨_, _, e, h⟩ => by cases e; exact h, fun h => ⟨_, _, rfl, h⟩⟩
@[simp ↓] theorem ev_gTup {n : Nat} {us : WGs} {ds : List D} {Q : Env' → Prop} : wgTup n us (.tuple ds) ρ Q ↔ ds.length = n ∧ us ds ρ Q := ⟨fun ⟨_, e, h⟩ => by cases e; exact h, fun h => ⟨_, rfl, h⟩⟩
@[simp ↓] theorem ev_AugS {i : Nat} {f : F2} : wAugS i f a b D0 ρ = ownL ρ i (fun xs => a ρ (fun j => ∃ k m d, j = .int k ∧ ixN xs.length k = some m ∧ xs[m]? = some d ∧ b ρ (fun y => f d y fun z => D0.nx (ρ.set i (some (.own (.list (xs.set m z)))))) D0.ex) D0.ex) := rfl
@[simp ↓] theorem ev_mNil {Q : List Mv → Prop} : wmNil ρ Q EX = Q [] := rfl
@[simp ↓] theorem ev_mD {r : WMv} {Q : List Mv → Prop} : wmD a r ρ Q EX = a ρ (fun d => r ρ (fun ms => Q (.d d :: ms)) EX) EX := rfl
@[simp ↓] theorem ev_mO {r : WMv} {Q : List Mv → Prop} : wmO a r ρ Q EX = a ρ (fun d => r ρ (fun ms => Q (.own d :: ms)) EX) EX := rfl
@[simp ↓] theorem ev_Skip : wSkip D0 ρ = D0.nx ρ := rfl
@[simp ↓] theorem ev_Break : wBreak D0 ρ = D0.bk ρ := rfl
@[simp ↓] theorem ev_Cont : wCont D0 ρ = D0.ct ρ := rfl
@[simp ↓] theorem ev_Seq : wSeq w u D0 ρ = w { D0 with nx := u D0 } ρ := rfl
@[simp ↓] theorem ev_Expr : wExpr a D0 ρ = a ρ (fun _ => D0.nx ρ) D0.ex := rfl
@[simp ↓] theorem ev_Ret : wRet a D0 ρ = a ρ (fun d => D0.rt d) D0.ex := rfl
@[simp ↓] theorem ev_RetN : wRetN D0 ρ = D0.rt .none := rfl
@[simp ↓] theorem ev_IfS : wIfS t u v D0 ρ = t ρ (fun k => if k = true then u D0 ρ else v D0 ρ) D0.ex := rfl
@[simp ↓] theorem ev_Set {i : Nat} : wSet i a D0 ρ = a ρ (fun d => D0.nx (ρ.set i (some (.d d)))) D0.ex := rfl
@[simp ↓] theorem ev_SetO {i : Nat} : wSetO i a D0 ρ = a ρ (fun d => D0.nx (ρ.set i (some (.own d)))) D0.ex := rfl
@[simp ↓] theorem ev_Raise : wRaise a D0 ρ = a ρ (fun d => ∃ n, d = .str n ∧ n.length ≤ 1000 ∧ D0.ex (.bad n)) D0.ex := rfl
@[simp ↓] theorem ev_Frz {i : Nat} : wFrz i w D0 ρ = (match ρ[i]? with | some (some (.own d)) => w D0 (ρ.set i (some (.d d))) | _ => False) := rfl
@[simp ↓] theorem ev_Par {is : List Nat} {m : WMv} : wPar is m D0 ρ = m ρ (fun ms => is.length = ms.length ∧ (∀ i ∈ is, i < ρ.length) ∧ D0.nx (setAll ρ is ms)) D0.ex := rfl
@[simp ↓] theorem ev_Asg {g : WG} : wAsg a g D0 ρ = a ρ (fun d => g d ρ D0.nx) D0.ex := rfl
@[simp ↓] theorem ev_App {i : Nat} : wApp i a D0 ρ = ownL ρ i (fun xs => a ρ (fun d => xs.length < sizeLine ∧ D0.nx (ρ.set i (some (.own (.list (xs ++ [d])))))) D0.ex) := rfl
@[simp ↓] theorem ev_Put {i : Nat} : wPut i a b D0 ρ = ownL ρ i (fun xs => b ρ (fun d => a ρ (fun j => ∃ k m, j = .int k ∧ ixN xs.length k = some m ∧ D0.nx (ρ.set i (some (.own (.list (xs.set m d)))))) D0.ex) D0.ex) := rfl
@[simp ↓] theorem ev_For {wi : WI} {g : WG} : wFor wi g w D0 ρ = wi ρ (fun ds => wLoop g w D0 ds ρ) D0.ex := rfl
@[simp ↓] theorem ev_Gen {β : Type} {wi : WI} {g : WG} {vs : List Nat} {C : (D → Prop) → β → D → (β → Prop) → Prop} {fin : (D → Prop) → β → Prop} {b0 : β} : wGen wi g t a vs C fin b0 ρ Q EX = wi ρ (fun ds => wFold g t a (C Q) (fin Q) (wipeE ρ vs) ds b0) EX := rfl
@[simp ↓] theorem ev_wipe0 : wipeE ρ [] = ρ := rfl
@[simp ↓] theorem ev_wipe1 {i : Nat} {vs : List Nat} : wipeE ρ (i :: vs) = (wipeE ρ vs).set i none := rfl
@[simp ↓] theorem ev_Index : wIndex a b ρ Q EX = a ρ (fun x => ∃ ds, x = .list ds ∧ SeqAt.shaped (.list ds) = true ∧ b ρ (fun y => SeqAt.shaped y = true ∧ ∃ j, firstAt ds y = some j ∧ Q (.int (j : Nat))) EX) EX := rfl
@[simp ↓] theorem ev_Heard : wHeard a ρ Q EX = ∃ Q0 : D → Prop, (∀ d, Q0 d → Q d) ∧ a (plainE ρ) (fun _ => Q0 (.tuple [])) (heardX Q0) := rfl
@[simp ↓] theorem ev_f1 {f : F1} {x : D} : f1 f [x] Q = f x Q := rfl
@[simp ↓] theorem ev_f2 {f : F2} {x y : D} : f2 f [x, y] Q = f x y Q := rfl
@[simp ↓] theorem ev_truB {k : Bool} : truG (.bool k) Qb = Qb k := rfl
@[simp ↓] theorem ev_truI {k : Int} : truG (.int k) Qb = Qb (k != 0) := rfl
end
/-! ### check -/
def check_w : WS := wIfS (wNot (wTru (wVar 0))) (wRaise (wVar 1)) wSkip
def check_s : FD := fun ws Q EX => ∃ (b : Bool) (n : Str), ws = [.d (.bool b), .d (.str n)] ∧ n.length ≤ 1000 ∧ (b = true → Q .none) ∧ (b = false → EX (.bad n))
theorem mono_check : MonoF check_s := fun ws Q Q' EX h ⟨b, n, e, h1, h2, h3⟩ => ⟨b, n, e, h1, fun z => h _ (h2 z), h3⟩
theorem meets_check (ws : List W) (Q : D → Prop) (EX : EXn) (h : check_s ws Q EX) : mkF 2 2 check_w ws Q EX := by
  obtain ⟨b, n, rfl, hn, h1, h2⟩ := h
  refine ⟨rfl, ?_⟩
  cases b <;> simp [check_w, hn, h1, h2]
/-! ### the drawing of an item -/
def _law_pick_w : WS := wRet (wOp2 aIx (wVar 1) (wCall _law_taken_s (wwRow 0 (wwCons (wOpN (f1 aLen) (waCons (wVar 1) waNil)) wwNil))))
def _law_pick_s : FD := fun ws Q _ => ∃ (d : D) (xs : List D), ws = [.row, .d d] ∧ seqD d = some xs ∧ 0 < xs.length ∧ xs.length < 2 ^ 60 ∧ ∀ x ∈ xs, Q x
theorem mono__law_pick : MonoF _law_pick_s := fun ws Q Q' EX h ⟨d, xs, e, h1, h2, h3, q⟩ => ⟨d, xs, e, h1, h2, h3, fun x m => h _ (q x m)⟩
theorem atD_lt {α : Type} {xs : List α} {i : Int} (h0 : 0 ≤ i) (h1 : i < xs.length) : ∃ x ∈ xs, atD xs i = some x := by
  have h2 : i.toNat < xs.length := by omega
  refine ⟨xs[i.toNat], List.getElem_mem _, ?_⟩
  unfold atD ixN
  rw [if_pos h0, if_pos h1]
  simp [h2]
theorem meets__law_pick (ws : List W) (Q : D → Prop) (EX : EXn) (h : _law_pick_s ws Q EX) : mkF 2 2 _law_pick_w ws Q EX := by
  obtain ⟨d, xs, rfl, hd, h0, h1, q⟩ := h
  refine ⟨rfl, ?_⟩
  cases d with
  | list ys =>
    cases hd
    simp only [_law_pick_w, ev_Ret, ev_Op2, ev_Var, ev_Call, ev_wRow, ev_wCons, ev_OpN, ev_aCons, ev_aNil, ev_wNil, ev_f1]
    refine ⟨rfl, _, rfl, by omega, by omega, fun r r0 r1 => ?_⟩
    obtain ⟨x, hx, e⟩ := atD_lt r0 r1
    exact ⟨x, e, q x hx⟩
  | tuple ys =>
    cases hd
    simp only [_law_pick_w, ev_Ret, ev_Op2, ev_Var, ev_Call, ev_wRow, ev_wCons, ev_OpN, ev_aCons, ev_aNil, ev_wNil, ev_f1]
    refine ⟨rfl, _, rfl, by omega, by omega, fun r r0 r1 => ?_⟩
    obtain ⟨x, hx, e⟩ := atD_lt r0 r1
    exact ⟨x, e, q x hx⟩
  | _ => cases hd
end DD
set_option maxRecDepth 100000
set_option maxHeartbeats 2000000
/-! SemT: comprehensions, folds, loops evaluated; alike. -/
namespace DD
open PySem PySem.Spec PyProof.Rows L2 GenW
section
variable {ρ : Env'} {EX : EXn}
/-- each turn of a comprehension computed: none where the test fails -/
theorem comp_eval {g : WG} {t : WT} {we : WE} (f : D → Option D) : ∀ {ds acc : List D} {Q : D → Prop} (h : ∀ d ∈ ds, ∀ R : Option D → Prop, R (f d) → g d ρ fun ρ2 => t ρ2 (fun k => if k = true then we ρ2 (fun y => R (some y)) noX else R none) noX)
    (hl : acc.length + ds.length ≤ sizeLine) (q : Q (.list (acc ++ ds.filterMap f))), wComp g t we ρ ds acc Q
  | [], acc, Q, h, hl, q => by
    have q : Q (.list (acc ++ [])) := q
    rw [List.append_nil] at q
    exact q
  | d :: ds, acc, Q, h, hl, q => by
    rw [List.length_cons] at hl
    have := h d List.mem_cons_self (fun o => match o with | some y => acc.length < sizeLine ∧ wComp g t we ρ ds (acc ++ [y]) Q | none => wComp g t we ρ ds acc Q) (by
      cases e : f d with
      | none => 
        rw [List.filterMap_cons_none e] at q
        exact comp_eval f (fun x m => h x (List.mem_cons_of_mem _ m)) (by omega) q
      | some y =>
        rw [List.filterMap_cons_some e] at q
        refine ⟨by omega, comp_eval f (fun x m => h x (List.mem_cons_of_mem _ m)) (by rw [List.length_append, List.length_singleton]; omega) ?_⟩
        rw [List.append_assoc]
        exact q)
    exact this
/-- without a test -/
theorem comp_map {g : WG} {we : WE} (f : D → D) {ds : List D} {Q : D → Prop} (h : ∀ d ∈ ds, ∀ R : D → Prop, R (f d) → g d ρ fun ρ2 => we ρ2 R noX) (hl : ds.length ≤ sizeLine) (q : Q (.list (ds.map f))) : wComp g wYes we ρ ds [] Q := by
  refine comp_eval (fun d => some (f d)) (fun d m R r => ?_) (by simpa using hl) (by simpa using q)
  have := h d m (fun y => R (some y)) r
  simpa using this
theorem all_eval {g : WG} {we : WE} (f : D → Bool) {Q : D → Prop} : ∀ {ds : List D} (h : ∀ d ∈ ds, ∀ R : D → Prop, R (.bool (f d)) → g d ρ fun ρ2 => we ρ2 R noX) (q : Q (.bool (ds.all f))), wFold g wYes we (cAll Q) (fun _ => Q (.bool true)) ρ ds ()
  | [], h, q => q
  | d :: ds, h, q => by
    have := h d List.mem_cons_self (fun y => cAll Q () y (fun _ => wFold g wYes we (cAll Q) (fun _ => Q (.bool true)) ρ ds ())) (by
      refine ⟨f d, rfl, ?_⟩
      rw [List.all_cons] at q
      by_cases z : f d = true
      · rw [if_pos z]
        rw [z, Bool.true_and] at q
        exact all_eval f (fun x m => h x (List.mem_cons_of_mem _ m)) q
      · rw [if_neg z]
        rw [Bool.not_eq_true] at z
        rw [z, Bool.false_and] at q
        exact q)
    unfold wFold
    simpa using this
/-- a loop with an invariant -/
theorem loop_inv {g : WG} {bd : WS} {D0 : EndsW} (I : Nat → Env' → Prop) : ∀ {ds : List D} {ρ : Env'} (i0 : Nat) (h0 : I i0 ρ) (hs : ∀ i d ρ (P : Env' → Prop), ds[i]? = some d → I (i0 + i) ρ → (∀ ρ', I (i0 + i + 1) ρ' → P ρ') → g d ρ fun ρ' => bd { nx := P, rt := D0.rt, bk := D0.nx, ct := P, ex := D0.ex } ρ')
    (hn : ∀ ρ, I (i0 + ds.length) ρ → D0.nx ρ), wLoop g bd D0 ds ρ
  | [], ρ, i0, h0, hs, hn => hn ρ h0
  | d :: ds, ρ, i0, h0, hs, hn => by
    refine hs 0 d ρ (wLoop g bd D0 ds) rfl h0 fun ρ' h' => loop_inv I (i0 + 1) h' (fun i d ρ P e hI hP => ?_) (fun ρ h => hn ρ ?_)
    · refine hs (i + 1) d ρ P (by simpa using e) ?_ (fun ρ' h => hP ρ' ?_)
      · rw [show i0 + (i + 1) = i0 + 1 + i by omega]; exact hI
      · rw [show i0 + 1 + i + 1 = i0 + (i + 1) + 1 by omega]; exact h
    · rw [List.length_cons, show i0 + (ds.length + 1) = i0 + 1 + ds.length by omega]; exact h
theorem loop_run {g : WG} {bd : WS} {D0 : EndsW} (I : Nat → Env' → Prop) {ds : List D} {ρ : Env'} (h0 : I 0 ρ) (hs : ∀ i d ρ (P : Env' → Prop), ds[i]? = some d → I i ρ → (∀ ρ', I (i + 1) ρ' → P ρ') → g d ρ fun ρ' => bd { nx := P, rt := D0.rt, bk := D0.nx, ct := P, ex := D0.ex } ρ')
    (hn : ∀ ρ, I ds.length ρ → D0.nx ρ) : wLoop g bd D0 ds ρ :=
  loop_inv I 0 h0 (fun i d ρ P e hI hP => hs i d ρ P e (by simpa using hI) (fun ρ' h => hP ρ' (by simpa using h))) (fun ρ h => hn ρ (by simpa using h))
end
section
variable {Q : Bool → Prop} {Qd : D → Prop}
theorem shaped_int {i : Int} : SeqAt.shaped (.int i) = true := rfl
theorem shaped_bool {i : Bool} : SeqAt.shaped (.bool i) = true := by cases i <;> rfl
theorem shaped_none : SeqAt.shaped .none = true := rfl
@[simp ↓] theorem ev_eqI {i j : Int} : gEq (.int i) (.int j) Q ↔ Q (decide (i = j)) := by
  unfold gEq
  have : PyData.eqv (.int i) (.int j) = decide (i = j) := by
    show (i == j) = _
    by_cases h : i = j
    · rw [h]; simp
    · simp [h]
  rw [this]
  exact ⟨fun h => h.2.2, fun h => ⟨rfl, rfl, h⟩⟩
@[simp ↓] theorem ev_neI {i j : Int} : gNe (.int i) (.int j) Q ↔ Q (!decide (i = j)) := by
  unfold gNe
  have : PyData.eqv (.int i) (.int j) = decide (i = j) := by
    show (i == j) = _
    by_cases h : i = j
    · rw [h]; simp
    · simp [h]
  rw [this]
  exact ⟨fun h => h.2.2, fun h => ⟨rfl, rfl, h⟩⟩
@[simp ↓] theorem ev_eqB {i j : Bool} : gEq (.bool i) (.bool j) Q ↔ Q (decide (i = j)) := by
  unfold gEq
  have : PyData.eqv (.bool i) (.bool j) = decide (i = j) := by cases i <;> cases j <;> rfl
  rw [this, shaped_bool, shaped_bool]
  exact ⟨fun h => h.2.2, fun h => ⟨rfl, rfl, h⟩⟩
@[simp ↓] theorem ev_neB {i j : Bool} : gNe (.bool i) (.bool j) Q ↔ Q (!decide (i = j)) := by
  unfold gNe
  have : PyData.eqv (.bool i) (.bool j) = decide (i = j) := by cases i <;> cases j <;> rfl
  rw [this, shaped_bool, shaped_bool]
  exact ⟨fun h => h.2.2, fun h => ⟨rfl, rfl, h⟩⟩
@[simp ↓] theorem ev_eqS {i j : Str} : gEq (.str i) (.str j) Q ↔ SeqAt.shaped (.str i) = true ∧ SeqAt.shaped (.str j) = true ∧ Q (decide (i = j)) := by
  unfold gEq
  have : PyData.eqv (.str i) (.str j) = decide (i = j) := by
    show (i == j) = _
    by_cases h : i = j
    · rw [h]; simp
    · simp [h]
  rw [this]
@[simp ↓] theorem ev_eqN : gEq .none .none Q ↔ Q true := ⟨fun h => h.2.2, fun h => ⟨rfl, rfl, h⟩⟩
@[simp ↓] theorem ev_eqL0 : gEq (.list []) (.list []) Q ↔ Q true := ⟨fun h => h.2.2, fun h => ⟨rfl, rfl, h⟩⟩
@[simp ↓] theorem ev_ltI {i j : Int} : gLt (.int i) (.int j) Q = Q (decide (i < j)) := rfl
@[simp ↓] theorem ev_leI {i j : Int} : gLe (.int i) (.int j) Q = Q (decide (i ≤ j)) := rfl
@[simp ↓] theorem ev_gtI {i j : Int} : gGt (.int i) (.int j) Q = Q (decide (j < i)) := rfl
@[simp ↓] theorem ev_geI {i j : Int} : gGe (.int i) (.int j) Q = Q (decide (j ≤ i)) := rfl
@[simp ↓] theorem ev_isN {d : D} : gIsN d .none Q ↔ Q (isNone d) := ⟨fun h => h.2, fun h => ⟨rfl, h⟩⟩
@[simp ↓] theorem ev_notN {d : D} : gNotN d .none Q ↔ Q (!isNone d) := ⟨fun h => h.2, fun h => ⟨rfl, h⟩⟩
@[simp ↓] theorem ev_lenL {xs : List D} : aLen (.list xs) Qd = Qd (.int xs.length) := rfl
@[simp ↓] theorem ev_lenT {xs : List D} : aLen (.tuple xs) Qd = Qd (.int xs.length) := rfl
@[simp ↓] theorem ev_addI {i j : Int} : aAdd (.int i) (.int j) Qd = Qd (.int (i + j)) := rfl
@[simp ↓] theorem ev_subI {i j : Int} : aSub (.int i) (.int j) Qd = Qd (.int (i - j)) := rfl
@[simp ↓] theorem ev_aI0 {f : Int → Int → Int} {i j : Int} : aI0 f (.int i) (.int j) Qd = Qd (.int (f i j)) := rfl
@[simp ↓] theorem ev_aI {C : Int → Int → Prop} {f : Int → Int → Int} {i j : Int} : aI C f (.int i) (.int j) Qd = (C i j ∧ Qd (.int (f i j))) := rfl
@[simp ↓] theorem ev_max2 {i j : Int} : aMax2 (.int i) (.int j) Qd = Qd (.int (max i j)) := rfl
@[simp ↓] theorem ev_min2 {i j : Int} : aMin2 (.int i) (.int j) Qd = Qd (.int (min i j)) := rfl
@[simp ↓] theorem ev_ixL {xs : List D} {i : Int} : aIx (.list xs) (.int i) Qd = ∃ d, atD xs i = some d ∧ Qd d := rfl
@[simp ↓] theorem ev_ixT {xs : List D} {i : Int} : aIx (.tuple xs) (.int i) Qd = ∃ d, atD xs i = some d ∧ Qd d := rfl
theorem atD_nat {α : Type} {xs : List α} {i : Nat} {x : α} (h : xs[i]? = some x) : atD xs (i : Int) = some x := atI_nat h
end
/-! ### alike -/
def plainD : Nat → D → Bool
  | _, .none => true
  | _, .bool _ => true
  | _, .int _ => true
  | _, .str s => SeqAt.shaped (.str s)
  | n + 1, .list xs => decide (xs.length ≤ sizeLine) && xs.all (plainD n)
  | n + 1, .tuple xs => decide (xs.length ≤ sizeLine) && xs.all (plainD n)
  | _, _ => false
def _law_alike_w (sp : FD) : WS := wSeq (wIfS (wTru (wIsi2 "tuple" "list" (wVar 1))) (wSeq (wIfS (wOr (wNot (wTru (wIsi2 "tuple" "list" (wVar 0)))) (wTst2 gNe (wIsi "list" (wVar 0)) (wIsi "list" (wVar 1)))) (wRet (wC (.bool false))) wSkip) (wSeq (wIfS (wTst2 gNe (wOpN (f1 aLen) (waCons (wVar 0) waNil)) (wOpN (f1 aLen) (waCons (wVar 1) waNil))) (wRet (wC (.bool false))) wSkip) (wRet (wCmp2 gEq (wLc (wiRng1 (wOpN (f1 aLen) (waCons (wVar 1) waNil))) (wgName 2) (wNot (wTru (wCall sp (wwCons (wOp2 aIx (wVar 0) (wVar 2)) (wwCons (wOp2 aIx (wVar 1) (wVar 2)) wwNil))))) (wVar 2) [2]) (wLst waNil))))) wSkip) (wSeq (wIfS (wTru (wIsi "dict" (wVar 1))) (wSeq (wIfS (wOr (wNot (wTru (wIsi "dict" (wVar 0)))) (wTst2 gNe (wOpN (f1 aListOf) (waCons (wVar 0) waNil)) (wOpN (f1 aListOf) (waCons (wVar 1) waNil)))) (wRet (wC (.bool false))) wSkip) (wRet (wCmp2 gEq (wLc (wiSeq (wVar 1)) (wgName 3) (wNot (wTru (wCall sp (wwCons (wOp2 aIx (wVar 0) (wVar 3)) (wwCons (wOp2 aIx (wVar 1) (wVar 3)) wwNil))))) (wVar 3) [3]) (wLst waNil)))) wSkip) (wSeq (wIfS (wOr (wTst2 gIsN (wVar 1) (wC .none)) (wTru (wIsi "str" (wVar 1)))) (wRet (wAndV (wCmp2 gEq (wVar 0) (wVar 1)) (wCmp2 gEq (wIsi "str" (wVar 0)) (wIsi "str" (wVar 1))))) wSkip) (wRet (wAndV (wIsi "int" (wVar 0)) (wAndV (wCmp2 gEq (wIsi "bool" (wVar 0)) (wIsi "bool" (wVar 1))) (wCmp2 gEq (wVar 0) (wVar 1)))))))
def alikeS (n : Nat) : FD := fun ws Q _ => ∃ d, ws = [.d d, .d d] ∧ plainD n d = true ∧ Q (.bool true)
theorem mono_alikeS {n : Nat} : MonoF (alikeS n) := fun ws Q Q' EX h ⟨d, e, h1, q⟩ => ⟨d, e, h1, h _ q⟩
def neverF : FD := fun _ _ _ => False
theorem filterMap_no {α β : Type} : ∀ xs : List α, xs.filterMap (fun _ => (none : Option β)) = []
  | [] => rfl
  | x :: xs => by rw [List.filterMap_cons_none rfl]; exact filterMap_no xs
theorem alike_items {sp : FD} {n : Nat} {xs : List D} {c : List D → D} (hc : ∀ (i : Nat) (d : D) (Q : D → Prop), xs[i]? = some d → Q d → aIx (c xs) (.int i) Q) (hsp : ∀ d, plainD n d = true → ∀ Q : D → Prop, Q (.bool true) → sp [.d d, .d d] Q noX) (hl : xs.length ≤ sizeLine) (hx : xs.all (plainD n) = true) {Q : D → Prop} (q : Q (.list [])) {ρ : Env'} (h0 : ρ = [some (.d (c xs)), some (.d (c xs)), none, none]) :
    wComp (wgName 2) (wNot (wTru (wCall sp (wwCons (wOp2 aIx (wVar 0) (wVar 2)) (wwCons (wOp2 aIx (wVar 1) (wVar 2)) wwNil))))) (wVar 2) ρ (rngD 0 xs.length) [] Q := by
  subst h0
  refine comp_eval (fun _ => none) (fun d hd R r => ?_) (by unfold rngD; simpa using hl) (by rw [filterMap_no]; exact q)
  unfold rngD at hd
  obtain ⟨i, hi, rfl⟩ := List.mem_map.mp hd
  rw [List.mem_range] at hi
  simp
  refine hc i xs[i] _ (List.getElem?_eq_getElem hi) (hc i xs[i] _ (List.getElem?_eq_getElem hi) (hsp _ (List.all_eq_true.mp hx _ (List.getElem_mem _)) _ ?_))
  simpa using r
theorem meets_alike {n : Nat} {sp : FD} (hsp : ∀ m d, n = m + 1 → plainD m d = true → ∀ Q : D → Prop, Q (.bool true) → sp [.d d, .d d] Q noX) (ws : List W) (Q : D → Prop) (EX : EXn) (h : alikeS n ws Q EX) : mkF 2 4 (_law_alike_w sp) ws Q EX := by
  obtain ⟨d, rfl, hd, q⟩ := h
  refine ⟨rfl, ?_⟩
  cases d with
  | none => simpa [_law_alike_w, isTy, tyD, isNone] using q
  | bool b => simpa [_law_alike_w, isTy, tyD, isNone] using q
  | int i => simpa [_law_alike_w, isTy, tyD, isNone] using q
  | str s =>
    have hs : SeqAt.shaped (.str s) = true := by cases n <;> exact hd
    simpa [_law_alike_w, isTy, tyD, isNone, hs] using q
  | list xs =>
    cases n with
    | zero => simp [plainD] at hd
    | succ m =>
      simp [plainD] at hd
      simp [_law_alike_w, isTy, tyD, isNone]
      refine ⟨?_, alike_items (c := .list) (fun i d Q h q => ⟨d, atD_nat h, q⟩) (fun d hp Q q => hsp m d rfl hp Q q) hd.1 (List.all_eq_true.mpr hd.2) (by simpa using q) rfl⟩
      have := hd.1
      rw [sizeLine_eq] at this
      unfold rBnd; omega
  | tuple xs =>
    cases n with
    | zero => simp [plainD] at hd
    | succ m =>
      simp [plainD] at hd
      simp [_law_alike_w, isTy, tyD, isNone]
      refine ⟨?_, alike_items (c := .tuple) (fun i d Q h q => ⟨d, atD_nat h, q⟩) (fun d hp Q q => hsp m d rfl hp Q q) hd.1 (List.all_eq_true.mpr hd.2) (by simpa using q) rfl⟩
      have := hd.1
      rw [sizeLine_eq] at this
      unfold rBnd; omega
  | dict kvs => cases n <;> simp [plainD] at hd
end DD
set_option maxRecDepth 100000
set_option maxHeartbeats 2000000
/-! SemU: the law's own def, the end. -/
namespace DD
open PySem PySem.Spec PyProof.Rows L2 GenW
/-- the end, the head's empty tables told of -/
theorem walk_end {l : PySem.W.OpenLaw} {n k : Nat} {q : Program} {loose : List Str} {XP : (Str → Option Value) → Heap → Prop} {YP : World → Heap → Prop} {d : DefRec} {K : Params → PySem.W.Frag} {CX : World → CXT} {x : Str}
    (hn : l.most = some n) (hn2 : n ≤ sizeLine) (hdf : d.params.defaults = []) (hr : Room k callerA) (hY : ∀ (w : World) (h : Heap), YP w h → (K w.params).In h)
    (F : ∀ (w : World) (mg : Str → Option Value) (fa : Addr) (h : Heap), (∀ (y : Str) (c P : Addr), ((recsOf q).find? (fun e => e.name == y)).isSome = true → PySem.W.tabIn (K w.params) y = some (c, P) → PySem.W.CodeHd h c P ∧ h.get? P = some { cls := .none, data := .fields #[] }) → (K w.params).In h → h.Ns mainGlobals mg → mg d.name = some (.ref fa) → LamX.LawAtS l w (K w.params) (CX w) k n x mg fa h)
    (hCX : ∀ (w : World) (H : Hp) (s : Shared) (e : Value) (s' : Shared), CX w [] H s (fun _ _ _ => False) e s' → False) :
    PySem.W.WalkO q loose XP YP l.row.toRowW d [] (fun f vs => PySem.call f vs) := by
  refine Att.attach_callB hn hdf fun w s₀ s₁ mg mb fa o pm cd doc a vs ns G Y ho hd hcd hmg hobj hints hlen hbits hg => ?_
  have KX := hY w _ Y
  obtain ⟨fd, cs, sp, hT, nT, C, hb, hsp, hF⟩ := F w mg fa _ (fun y c P hy ht => by
    obtain ⟨d', hd'⟩ := Option.isSome_iff_exists.mp hy
    exact PySem.W.tab_of G.T KX hd' ht) KX G.T.g hmg
  exact LamX.law_callTs KX G.T.g G.T.b G.T.builtins G.T.nolimit hg hT nT C G.T.bmain hobj hints (Nat.le_trans hlen hn2) hr hF hb (fun H hH hS => hsp H a ns hlen hbits hH hS) fun H e s' => hCX w H s₁ e s'
/-- the promise of the law: it gives True -/
def spLaw (K : PySem.W.Frag) (cs : List (Addr × Addr)) : Sp := fun vs H Q E => ∃ (a : Addr) (ns : List Int), vs = [.ref a] ∧ (∀ p ∈ cs, H p.2 = some (.tbl #[])) ∧ SqL K H a (ns.map V.int) ∧ ∀ H', Q (.bl true) H'
theorem law_fn {P : Program} {w0 : World} {K : PySem.W.Frag} {mg : Str → Option Value} {base : Heap} {k : Nat} {st h0 : Stmt} {rest : List Stmt} {f : Addr} {fd : FuncData} {cdv : Value} {m : Nat} {N : List Str} {w : WS} {cs : List (Addr × Addr)} {T : List (Addr × Str)} {G : List Addr} {cB cU : Addr} {sd : Int} (hs0 : 0 ≤ sd) (hs1 : sd < 2147483647)
    (F : FunC K "law" "law" st f fd cdv) (Sc : FnScope N ["script"] (defScope st)) (hm : N.length = m + 2) (hsplit : defBody st = h0 :: rest)
    (hT : ∀ q ∈ T, q.1 ∈ cs.map (·.2)) (hG : ∀ q ∈ G, q ∈ cs.map (·.2)) (hTG : ∀ q ∈ G, ∀ t ∈ T, t.1 ≠ q)
    (hhead : ∀ (A : Around) (outer : List Env) (s : Shared) (H : Hp) (E : XK), PS (bodyCx P w0 K mg base N "law" st f cdv A outer s H E) h0 (tAsg (tLst (tCons (tVar 0) (tCons (tC (.int 0)) (tCons (tC (.int sd)) (tCons (tC (.int 0)) tNil))))) (gName 1)))
    (hbody : ∀ S : Par, S.K = K → S.T = T → S.G = G → S.cBad = cB → S.cUnr = cU → ∀ (N0 : Addr → Prop) (H0 : Hp) (A : Around) (outer : List Env) (s : Shared) (H : Hp) (E : XK), Room k (A.deeper (envOfC "law" (defScope st) s.heap.objs.size f cdv)) → DSs (S.inn N0 H0 E) (bodyCx P w0 K mg base N "law" st f cdv A outer s H E) rest w)
    (plain : w { nx := fun _ => False, rt := fun d => d = .bool true, ex := noX } (none :: some .row :: List.replicate m none)) :
    FnOk P w0 K mg base (L2.CX P w0) (k + 1) f fd ["script"] (spLaw K cs) := by
  obtain ⟨oc, od, kV, doc, pm, an, ct, osl, rfl, lk, hcd⟩ := F.ex
  refine fn_of lk hcd Sc (fun vs H Q E ⟨a, ns, e, _⟩ => by rw [e]; rfl) fun A outer s H vs Q E hr ⟨a, ns, e, hcs, hS, hQ⟩ => ?_
  subst e
  let SS : Addr → Par := fun r => { K := K, w := w0, T := T, G := G, r := r, scr := a, ns := ns, cBad := cB, cUnr := cU, N := fun _ => False, H0 := H, E := E }
  have hrest : PSs (bodyCx P w0 K mg base N "law" st f cdv A outer s H E) rest (fun D σ H' => ∃ (r : Addr) (H0 : Hp), LS (((SS r).inn (fun _ => False) H0 E).at K) w D σ H') :=
    ⟨fun pins s' σ H' D I ⟨r, H0, ht⟩ => (hbody (SS r) rfl rfl rfl rfl rfl (fun _ => False) H0 A outer s H E hr).ps.run pins s' σ H' D I ht⟩
  have hmono := (hbody (SS 0) rfl rfl rfl rfl rfl (fun _ => False) H A outer s H E hr).mono
  refine ⟨_, by rw [hsplit]; exact pss_cons (hhead A outer s H E) hrest, ?_⟩
  have hst : L2.start N [V.ref a] = some (.ref a) :: none :: List.replicate m none := by
    unfold L2.start
    rw [hm]
    rfl
  rw [hst]
  refine ⟨_, rfl, (by rw [sizeLine_eq]; show 4 ≤ 16777216; decide), fun r hr0 => ?_⟩
  let H1 := upd H r (.lst [V.ref a, V.int 0, V.int sd, V.int 0])
  have tb : ∀ P ∈ cs.map (·.2), H1 P = some (.tbl #[]) := fun P hP => by
    obtain ⟨q, hq, e⟩ := List.mem_map.mp hP
    show upd H r _ P = _
    rw [upd_ne (fun z => by rw [← e] at z; rw [← z, hcs q hq] at hr0; cases hr0), ← e]
    exact hcs q hq
  have wd : Wd (((SS r).inn (fun _ => False) H1 E).at K) H1 := by
    refine ⟨hTG, fun P hP => ⟨#[], tb P (hG P hP), ?_⟩, fun q hq => ⟨#[], tb q.1 (hT q hq), ?_, fun pos cv h => ?_⟩, ⟨0, sd, 0, by show upd H r _ r = _; unfold L2.upd; rw [if_pos rfl], by decide, hs0, hs1, by decide⟩, ?_⟩
    · exact trivial
    · exact trivial
    · simp [codeAmong] at h
    · show SqL K (upd H r _) a (ns.map V.int)
      rcases hS with (hS | ⟨o, hS⟩) | hS
      · exact .inl (.inl (by rw [upd_ne (fun z => by rw [z, hr0] at hS; cases hS)]; exact hS))
      · exact .inl (.inr ⟨o, by rw [upd_ne (fun z => by rw [z, hr0] at hS; cases hS)]; exact hS⟩)
      · exact .inr hS
  refine ⟨r, H1, none :: some .row :: List.replicate m none, noOwn, noX, ⟨wd, Ext.refl wd, ?_, fun i w hw => ?_, fun i j a h _ => (by cases h), fun x hx => (by cases hx), fun i a h => (by cases h)⟩, exok_no, hmono { nx := fun _ => False, rt := fun d => d = .bool true, ex := noX } _ _ ⟨fun _ h => h.elim, fun d h v H' _ _ r => ?_, fun _ h => h.elim, fun _ h => h.elim, rfl⟩ plain⟩
  · simp
  · match i, hw with
    | 1, hw =>
      have e : W.row = w := by simpa using hw
      subst e
      rfl
    | i + 2, hw =>
      have : (List.replicate m (none : Option W))[i]? = some (some w) := by simpa using hw
      rw [List.getElem?_replicate] at this
      split at this <;> cases this
  · subst h
    have e := r.b (p := ((SS _).inn (fun _ => False) H1 E).at K) (O := noOwn)
    rw [e.bool]
    exact hQ _
/-- alike, level by level -/
theorem cal_alike {P : Program} {w0 : World} {K : PySem.W.Frag} {mg : Str → Option Value} {base : Heap} {S : Par} {st : Stmt} {f : Addr} {fd : FuncData} {cdv : Value} {ps : List Str} (F : FunC K "_law_alike" "_law_alike" st f fd cdv) (hm : mg "_law_alike" = some (.ref f)) (hb : Binds K fd ps [])
    (step : ∀ (j : Nat) (sp : FD), Cal P w0 K mg base S j "_law_alike" ps sp → FnOk P w0 K mg base (L2.CX P w0) (j + 1) f fd ps (SpD S (mkF 2 4 (_law_alike_w sp)))) : ∀ n : Nat, Cal P w0 K mg base S (n + 1) "_law_alike" ps (alikeS n)
  | 0 => cal_of F hm hb (step 0 neverF ⟨⟨f, fd, ⟨fun _ _ _ _ ⟨_, _, _, _, _, _, h, _⟩ => h.elim, fun _ _ _ _ _ _ _ _ _ _ _ _ _ ⟨_, _, _, _, _, _, h, _⟩ => h.elim⟩, hm, F.kp, hb⟩, fun _ _ _ _ _ h => h.elim⟩) mono_alikeS
      (meets_alike fun m d e => by omega)
  | n + 1 => cal_of F hm hb (step (n + 1) _ (cal_alike F hm hb step n)) mono_alikeS
      (meets_alike fun m d e hp Q q => by
        obtain rfl : n = m := by omega
        exact ⟨d, rfl, hp, q⟩)
theorem no_cx {P : Program} {w : World} {H : Hp} {s : Shared} {e : Value} {s' : Shared} (h : L2.CX P w [] H s (fun _ _ _ => False) e s') : False := by
  obtain ⟨a, B, H', cls, d, _, _, _, _, _, _, _, z⟩ := h
  exact z
end DD
set_option maxRecDepth 100000
set_option maxHeartbeats 2000000
/-! SemV: comprehensions and loops over rows of Lean values. -/
namespace DD
open PySem PySem.Spec PyProof.Rows L2 GenW
section
variable {ρ : Env'} {EX : EXn} {α β : Type}
/-- a comprehension over a row of Lean values -/
theorem comp_evalM {g : WG} {t : WT} {we : WE} {h : α → D} (f : α → Option D) : ∀ {xs : List α} {acc : List D} {Q : D → Prop} (hh : ∀ x ∈ xs, ∀ R : Option D → Prop, R (f x) → g (h x) ρ fun ρ2 => t ρ2 (fun k => if k = true then we ρ2 (fun y => R (some y)) noX else R none) noX)
    (hl : acc.length + xs.length ≤ sizeLine) (q : Q (.list (acc ++ xs.filterMap f))), wComp g t we ρ (xs.map h) acc Q
  | [], acc, Q, hh, hl, q => by
    have q : Q (.list (acc ++ [])) := q
    rw [List.append_nil] at q
    exact q
  | d :: ds, acc, Q, hh, hl, q => by
    rw [List.length_cons] at hl
    have := hh d List.mem_cons_self (fun o => match o with | some y => acc.length < sizeLine ∧ wComp g t we ρ (ds.map h) (acc ++ [y]) Q | none => wComp g t we ρ (ds.map h) acc Q) (by
      cases e : f d with
      | none =>
        rw [List.filterMap_cons_none e] at q
        exact comp_evalM f (fun x m => hh x (List.mem_cons_of_mem _ m)) (by omega) q
      | some y =>
        rw [List.filterMap_cons_some e] at q
        refine ⟨by omega, comp_evalM f (fun x m => hh x (List.mem_cons_of_mem _ m)) (by rw [List.length_append, List.length_singleton]; omega) ?_⟩
        rw [List.append_assoc]
        exact q)
    exact this
theorem comp_mapM {g : WG} {we : WE} {h : α → D} (f : α → D) {xs : List α} {Q : D → Prop} (hh : ∀ x ∈ xs, ∀ R : D → Prop, R (f x) → g (h x) ρ fun ρ2 => we ρ2 R noX) (hl : xs.length ≤ sizeLine) (q : Q (.list (xs.map f))) : wComp g wYes we ρ (xs.map h) [] Q := by
  refine comp_evalM (fun d => some (f d)) (fun d m R r => ?_) (by simpa using hl) (by simpa using q)
  have := hh d m (fun y => R (some y)) r
  simpa using this
theorem filt_map {p : α → Bool} {e : α → β} : ∀ xs : List α, xs.filterMap (fun x => if p x = true then some (e x) else none) = (xs.filter p).map e
  | [] => rfl
  | x :: xs => by
    by_cases z : p x = true
    · rw [List.filterMap_cons_some (b := e x) (by simp [z]), List.filter_cons_of_pos z, List.map_cons, filt_map xs]
    · rw [List.filterMap_cons_none (by simp [z]), List.filter_cons_of_neg z, filt_map xs]
/-- with a test -/
theorem comp_filtM {g : WG} {t : WT} {we : WE} {h : α → D} (p : α → Bool) (e : α → D) {xs : List α} {Q : D → Prop} (hh : ∀ x ∈ xs, ∀ R : Option D → Prop, R (if p x = true then some (e x) else none) → g (h x) ρ fun ρ2 => t ρ2 (fun k => if k = true then we ρ2 (fun y => R (some y)) noX else R none) noX)
    (hl : xs.length ≤ sizeLine) (q : Q (.list ((xs.filter p).map e))) : wComp g t we ρ (xs.map h) [] Q :=
  comp_evalM (fun x => if p x = true then some (e x) else none) hh (by simpa using hl) (by rw [filt_map]; exact q)
theorem all_evalM {g : WG} {we : WE} {h : α → D} (f : α → Bool) {xs : List α} {Q : D → Prop} (hh : ∀ x ∈ xs, ∀ R : D → Prop, R (.bool (f x)) → g (h x) ρ fun ρ2 => we ρ2 R noX) (q : Q (.bool (xs.all f))) : wFold g wYes we (cAll Q) (fun _ => Q (.bool true)) ρ (xs.map h) () := by
  induction xs with
  | nil => exact q
  | cons d ds ih =>
    have := hh d List.mem_cons_self (fun y => cAll Q () y (fun _ => wFold g wYes we (cAll Q) (fun _ => Q (.bool true)) ρ (ds.map h) ())) (by
      refine ⟨f d, rfl, ?_⟩
      rw [List.all_cons] at q
      by_cases z : f d = true
      · rw [if_pos z]
        rw [z, Bool.true_and] at q
        exact ih (fun x m => hh x (List.mem_cons_of_mem _ m)) q
      · rw [if_neg z]
        rw [Bool.not_eq_true] at z
        rw [z, Bool.false_and] at q
        exact q)
    rw [List.map_cons]
    unfold wFold
    simpa using this
theorem loop_runM {g : WG} {bd : WS} {D0 : EndsW} {h : α → D} (I : Nat → Env' → Prop) {xs : List α} (h0 : I 0 ρ) (hs : ∀ i x ρ (P : Env' → Prop), xs[i]? = some x → I i ρ → (∀ ρ', I (i + 1) ρ' → P ρ') → g (h x) ρ fun ρ' => bd { nx := P, rt := D0.rt, bk := D0.nx, ct := P, ex := D0.ex } ρ')
    (hn : ∀ ρ, I xs.length ρ → D0.nx ρ) : wLoop g bd D0 (xs.map h) ρ := by
  refine loop_run I h0 (fun i d ρ P e hI hP => ?_) (fun ρ q => hn ρ (by simpa using q))
  rw [List.getElem?_map] at e
  cases e1 : xs[i]? with
  | none => rw [e1] at e; cases e
  | some x =>
    rw [e1] at e
    cases e
    exact hs i x ρ P e1 hI hP
theorem zipD_map (a : α → D) (b : β → D) : ∀ (xs : List α) (ys : List β), zipD (xs.map a) (ys.map b) = (xs.zip ys).map (fun p => .tuple [a p.1, b p.2])
  | [], ys => by cases ys <;> rfl
  | x :: xs, [] => rfl
  | x :: xs, y :: ys => by
    have := zipD_map a b xs ys
    unfold zipD at this ⊢
    rw [List.map_cons, List.map_cons, List.zipWith_cons_cons, List.zip_cons_cons, List.map_cons, this]
theorem enumD_map (a : α → D) (xs : List α) : enumD (xs.map a) = xs.zipIdx.map (fun p => .tuple [.int ((p.2 : Nat) : Int), a p.1]) := by
  unfold enumD
  apply List.ext_getElem?
  intro i
  rw [List.getElem?_map, List.getElem?_map, List.getElem?_zipIdx, List.length_map]
  by_cases hi : i < xs.length
  · rw [List.getElem?_range hi, List.getElem?_eq_getElem hi]
    simp [hi]
  · rw [List.getElem?_eq_none (by simp; omega), List.getElem?_eq_none (by omega)]
    rfl
theorem rngD_map {lo : Int} {n : Nat} : rngD lo n = (List.range n).map (fun i => .int (lo + (i : Nat))) := rfl
theorem cut1 {α : Type} (xs : List α) : cutD xs (some 1) none = xs.drop 1 := by
  unfold cutD
  have e : HT.sIx xs.length 0 (some 1) = min 1 xs.length := HT.sIx_nat xs.length 0 1
  rw [HT.sIx_none, e]
  cases xs with
  | nil => rfl
  | cons x xs =>
    have : min 1 (x :: xs).length = 1 := by rw [List.length_cons]; omega
    rw [this]
    exact List.take_of_length_le (by simp)
theorem flat1 {α : Type} (x : α) : ∀ n : Nat, (List.replicate n [x]).flatten = List.replicate n x
  | 0 => rfl
  | n + 1 => by rw [List.replicate_succ, List.flatten_cons, flat1 x n]; rfl
section
variable {Q : D → Prop} {f : Int → List Int → Int}
@[simp ↓] theorem ev_tupL {xs : List D} : aTupleOf (.list xs) Q = Q (.tuple xs) := rfl
@[simp ↓] theorem ev_tupT {xs : List D} : aTupleOf (.tuple xs) Q = Q (.tuple xs) := rfl
@[simp ↓] theorem ev_lstL {xs : List D} : aListOf (.list xs) Q = Q (.list xs) := rfl
@[simp ↓] theorem ev_lstT {xs : List D} : aListOf (.tuple xs) Q = Q (.list xs) := rfl
@[simp ↓] theorem ev_mulL {xs : List D} {k : Int} : aMulL (.list xs) (.int k) Q = ((-(2 ^ 63) ≤ k ∧ k < 2 ^ 63 ∧ xs.length * k.toNat ≤ sizeLine) ∧ Q (.list (List.replicate k.toNat xs).flatten)) := rfl
@[simp ↓] theorem ev_mulT {xs : List D} {k : Int} : aMul (.tuple xs) (.int k) Q = ((xs ≠ [] ∧ 2 ≤ k ∧ k ≤ 1000 ∧ xs.length ≤ 1000) ∧ Q (.tuple (List.replicate k.toNat xs).flatten)) := rfl
@[simp ↓] theorem ev_mulA {xs : List D} {k : Int} : aMul (.list xs) (.int k) Q = ((-(2 ^ 63) ≤ k ∧ k < 2 ^ 63 ∧ xs.length * k.toNat ≤ sizeLine) ∧ Q (.list (List.replicate k.toNat xs).flatten)) := rfl
@[simp ↓] theorem ev_addL {xs ys : List D} : aAdd (.list xs) (.list ys) Q = (xs.length + ys.length ≤ sizeLine ∧ Q (.list (xs ++ ys))) := rfl
@[simp ↓] theorem ev_addT {xs ys : List D} : aAdd (.tuple xs) (.tuple ys) Q = (xs.length + ys.length ≤ sizeLine ∧ Q (.tuple (xs ++ ys))) := rfl
@[simp ↓] theorem ev_addLL {xs ys : List D} : aAddL (.list xs) (.list ys) Q = (xs.length + ys.length ≤ sizeLine ∧ Q (.list (xs ++ ys))) := rfl
theorem best_list {n : Int} {ns : List Int} {xs : List D} (e : xs = (n :: ns).map .int) (q : Q (.int (f n ns))) : aBest f (.list xs) Q := ⟨n, ns, by rw [e]; exact intsD_map _, q⟩
theorem best_tuple {n : Int} {ns : List Int} {xs : List D} (e : xs = (n :: ns).map .int) (q : Q (.int (f n ns))) : aBest f (.tuple xs) Q := ⟨n, ns, by rw [e]; exact intsD_map _, q⟩
theorem truG_list {xs : List D} {Qb : Bool → Prop} : truG (.list xs) Qb = Qb (!xs.isEmpty) := rfl
theorem ixN_nat {n i : Nat} (h : i < n) : ixN n (i : Int) = some i := by
  unfold ixN
  rw [if_pos (by omega), if_pos (by omega)]
  simp
end
end
/-! ### shapes -/
def shD (n : Nat) (d : D) : Prop := d.canLay0 = true ∧ d.depth ≤ n
theorem shaped_of {n : Nat} {d : D} (h : shD n d) (hn : n ≤ 64 := by decide) : SeqAt.shaped d = true := by
  unfold SeqAt.shaped
  rw [h.1, Bool.true_and]
  exact decide_eq_true (Nat.le_trans h.2 hn)
theorem shD_int {n : Nat} {i : Int} : shD n (.int i) := ⟨by simp only [PyData.canLay0], by simp only [PyData.depth]; exact Nat.zero_le _⟩
theorem shD_bool {n : Nat} {i : Bool} : shD n (.bool i) := ⟨by simp only [PyData.canLay0], by simp only [PyData.depth]; exact Nat.zero_le _⟩
theorem shD_none {n : Nat} : shD n .none := ⟨by simp only [PyData.canLay0], by simp only [PyData.depth]; exact Nat.zero_le _⟩
theorem shD_str {n : Nat} {x : Str} (h : SeqAt.shaped (.str x) = true) : shD n (.str x) := ⟨SeqAt.canLay_of_shaped h, by simp only [PyData.depth]; exact Nat.zero_le _⟩
theorem canAll {xs : List D} (h : ∀ x ∈ xs, x.canLay0 = true) : PyData.canLayAll0 xs = true := by
  induction xs with
  | nil => simp only [PyData.canLayAll0]
  | cons x xs ih =>
    simp only [PyData.canLayAll0, Bool.and_eq_true]
    exact ⟨h x List.mem_cons_self, ih fun y m => h y (List.mem_cons_of_mem _ m)⟩
theorem depAll {n : Nat} {xs : List D} (h : ∀ x ∈ xs, x.depth ≤ n) : PyData.depthAll xs ≤ n := by
  induction xs with
  | nil => simp only [PyData.depthAll]; exact Nat.zero_le _
  | cons x xs ih =>
    simp only [PyData.depthAll]
    exact Nat.max_le.mpr ⟨h x List.mem_cons_self, ih fun y m => h y (List.mem_cons_of_mem _ m)⟩
theorem shD_list {n : Nat} {xs : List D} (h : ∀ x ∈ xs, shD n x) : shD (n + 1) (.list xs) := by
  refine ⟨?_, ?_⟩
  · simp only [PyData.canLay0]; exact canAll fun x m => (h x m).1
  · simp only [PyData.depth]; exact Nat.succ_le_succ (depAll fun x m => (h x m).2)
theorem shD_tuple {n : Nat} {xs : List D} (h : ∀ x ∈ xs, shD n x) : shD (n + 1) (.tuple xs) := by
  refine ⟨?_, ?_⟩
  · simp only [PyData.canLay0]; exact canAll fun x m => (h x m).1
  · simp only [PyData.depth]; exact Nat.succ_le_succ (depAll fun x m => (h x m).2)
theorem shD_ints {n : Nat} {ns : List Int} : ∀ x ∈ ns.map PyData.int, shD n x := fun x hx => by
  obtain ⟨i, _, rfl⟩ := List.mem_map.mp hx
  exact shD_int
theorem shaped_ints {ns : List Int} : SeqAt.shaped (.list (ns.map .int)) = true := shaped_of (shD_list (n := 0) shD_ints)
theorem shaped_nil : SeqAt.shaped (.list []) = true := rfl
theorem ne_nil {xs : List D} {Q : Bool → Prop} (h : SeqAt.shaped (.list xs) = true) (q : Q (!xs.isEmpty)) : gNe (.list xs) (.list []) Q := by
  refine ⟨h, shaped_nil, ?_⟩
  cases xs with
  | nil => exact q
  | cons x xs => exact q
theorem eq_nil {xs : List D} {Q : Bool → Prop} (h : SeqAt.shaped (.list xs) = true) (q : Q xs.isEmpty) : gEq (.list xs) (.list []) Q := by
  refine ⟨h, shaped_nil, ?_⟩
  cases xs with
  | nil => exact q
  | cons x xs => exact q
end DD
set_option maxRecDepth 100000
set_option maxHeartbeats 4000000
/-! SemW: a row turned round (lists, tuples), tuple * any int. -/
namespace DD
open PySem PySem.Spec PyProof.Rows L2 HT
section
variable {prog : Program} {w : World} {A : Around} {E : Value → Shared → Prop} {s : Shared}
theorem sliceApplied_rev {sl : Addr} {vs : Value} {n : Nat} {Q : Int × Int × Nat → Shared → Prop} (hs : s.heap.IsSliceOf sl .none .none vs) (ps : IsPart vs (some (-1)))
    (h : Q ((n : Int) - 1, -1, n) s) : wpAny (model prog w) A (Builtin.Slice.sliceApplied (.ref sl) (pure (n : Int))) Q E s := by
  obtain ⟨os, hos, hcs, hds⟩ := id hs
  unfold Builtin.Slice.sliceApplied Builtin.Slice.sliceFields
  refine wpAny_bind (wpAny_bind (wpAny_field hos hds (x := .none) rfl (wpAny_bind (wpAny_field hos hds (x := .none) rfl (wpAny_bind (wpAny_field hos hds (x := vs) rfl (wpAny_pure ?_)))))))
  refine wpAny_bind (slicePart_ ps ?_)
  show wpAny _ _ (if ((-1 : Int) == 0) = true then _ else _) _ _ s
  rw [if_neg (by decide)]
  refine wpAny_bind (slicePart_none (wpAny_bind (slicePart_none (wpAny_bind (wpAny_pure ?_)))))
  show wpAny _ _ (match Builtin.Slice.sliceAdjust none none (-1) (n : Int) with | (lo, hi) => pure (lo, (-1 : Int), Builtin.Slice.slicePlaces lo hi (-1))) _ _ s
  have e : Builtin.Slice.sliceAdjust none none (-1) (n : Int) = ((n : Int) - 1, -1) := rfl
  rw [e]
  show wpAny _ _ (pure ((n : Int) - 1, (-1 : Int), Builtin.Slice.slicePlaces ((n : Int) - 1) (-1) (-1))) _ _ s
  have e2 : Builtin.Slice.slicePlaces ((n : Int) - 1) (-1) (-1) = n := by
    unfold Builtin.Slice.slicePlaces
    rw [if_neg (by decide)]
    by_cases h : n = 0
    · subst h; rfl
    · rw [if_pos (by omega)]
      have : ((n : Int) - 1 - -1 - 1) / (- -1) + 1 = n := by
        rw [show (- -1 : Int) = 1 from rfl, Int.ediv_one]; omega
      rw [this]
      omega
  rw [e2]
  exact wpAny_pure h
theorem fm_congr {α β : Type} {f g : α → Option β} : ∀ {l : List α}, (∀ x ∈ l, f x = g x) → l.filterMap f = l.filterMap g
  | [], _ => rfl
  | x :: l, h => by
    have h1 := h x List.mem_cons_self
    have ih := fm_congr (l := l) fun y m => h y (List.mem_cons_of_mem _ m)
    cases e : f x with
    | none => rw [List.filterMap_cons_none e, List.filterMap_cons_none (h1 ▸ e), ih]
    | some b => rw [List.filterMap_cons_some e, List.filterMap_cons_some (h1 ▸ e), ih]
theorem fm_all {α : Type} : ∀ l : List α, (List.range l.length).filterMap (fun m => l[m]?) = l
  | [] => rfl
  | x :: l => by
    have h := fm_all l
    rw [List.length_cons, List.range_succ_eq_map, List.filterMap_cons_some (f := fun m => (x :: l)[m]?) (a := 0) (b := x) rfl, List.filterMap_map]
    congr 1
theorem pick_rev (xs : Array Value) : ((List.range xs.size).filterMap fun (m : Nat) => xs[(((xs.size : Nat) : Int) - 1 + (m : Int) * -1).toNat]?).toArray = xs.toList.reverse.toArray := by
  congr 1
  have e : ∀ m ∈ List.range xs.size, (fun (m : Nat) => xs[(((xs.size : Nat) : Int) - 1 + (m : Int) * -1).toNat]?) m = (fun m => xs.toList.reverse[m]?) m := by
    intro m hm
    rw [List.mem_range] at hm
    show xs[(((xs.size : Nat) : Int) - 1 + (m : Int) * -1).toNat]? = xs.toList.reverse[m]?
    rw [List.getElem?_reverse (by simpa using hm), Array.getElem?_toList, Array.length_toList]
    congr 1
    omega
  rw [fm_congr e]
  have := fm_all xs.toList.reverse
  rw [List.length_reverse, Array.length_toList] at this
  exact this
theorem getItem_tuple_rev {t sl : Addr} {items : Array Value} {vs : Value} {Q : Value → Shared → Prop} (ht : IsTup s.heap t items) (hs : s.heap.IsSliceOf sl .none .none vs) (ps : IsPart vs (some (-1)))
    (h : Q (.ref s.heap.objs.size) { s with heap := s.heap.push { cls := .type "tuple", data := .seq items.toList.reverse.toArray } })
    (hsz : items.size ≤ sizeLine) : wpAny (model prog w) A (getItem (.ref t) (.ref sl)) Q E s := by
  have htake : sizeOk (.seq items.toList.reverse.toArray) := by
    show items.toList.reverse.toArray.size ≤ sizeLine
    rw [List.size_toArray, List.length_reverse, Array.length_toList]
    exact hsz
  obtain ⟨os, hos, hcs, hds⟩ := id hs
  have hTs : s.TypeIs (.ref sl) "slice" := ⟨os, hos, hcs⟩
  unfold getItem
  try with_reducible refine wpAny_holding ?_
  first | refine wpAny_bind (wpAny_pure ?_) | skip
  refine wpAny_bind (wpAny_sequenceKey ht.typeIs (by decide) ?_)
  refine wpAny_bind (wpAny_callSpecial?_slot (name := Str.ofString "__getitem__") ht.typeIs PyProof.Rows.slot_tuple_getitem
    (wpAny_call_entry PyProof.Rows.slot_tuple_getitem ht.typeIs entry_tuple_getitem ?_ (args_tuple_getitem _ _)))
  show wpAny _ _ (Builtin.Tuple.tupleItemsOf (.ref t) >>= _) _ _ s
  refine wpAny_bind (tupleItemsOf_ ht ?_)
  refine wpAny_bind (wpAny_typeOf hTs ?_)
  rw [if_pos (by decide)]
  refine wpAny_bind (sliceApplied_rev hs ps ?_)
  show wpAny _ _ (if ((((items.size : Nat) : Int) - 1) == 0 && (-1 : Int) == 1 && items.size == items.size) = true then _ else _) _ _ s
  rw [if_neg (by simp), pick_rev]
  first
    | exact wpAny_bind (m := Builtin.Tuple.tupleExact _) (wpAny_newObj_type (wpAny_pure ⟨_, rfl, wpAny_pure h⟩) htake)
    | exact wpAny_bind (m := Builtin.Tuple.tupleExact _) (wpAny_newObj_type (wpAny_bind (wpAny_pure (wpAny_pure ⟨_, rfl, wpAny_pure h⟩))) htake)
    | exact wpAny_bind (wpAny_bind (m := Builtin.Tuple.tupleExact _) (wpAny_newObj_type (wpAny_pure (wpAny_pure ⟨_, rfl, wpAny_pure h⟩)) htake))
    | exact wpAny_bind (wpAny_bind (m := Builtin.Tuple.tupleExact _) (wpAny_newObj_type (wpAny_pure ⟨_, rfl, wpAny_pure h⟩) htake))
theorem tuple_mulW1 (l : Addr) (items : Array Value) (n : Nat) (dd : Option Addr) (sl : Array (Option Value)) (x : Int) (u : Tok) (c0 : (decide (x < -(2 ^ 63)) || decide (x ≥ 2 ^ 63)) = false) (c1 : (items.isEmpty || x == 1) = true) :
    Meets (Builtin.«tuple.__mul__» ⟨[.ref l, .int x u], []⟩) (fun _ R s => s.heap.get? l = some { cls := .type "tuple", dict := dd, data := .seq items n, slots := sl } ∧
      R (.ok (.ret (Value.ref l))) { s with heap := s.heap, toks := s.toks }) :=
  .of_wp fun prog w A R s h => by
    obtain ⟨hp, g, d, tk, os⟩ := s
    obtain ⟨hl, h⟩ := h
    have f1 := AutoSeq1.idx_int
    wp_walk using wpAny_loadPart' hl
    repeat (first
      | (refine wpAny_ite_false (decide_eq_false (by rw [c0]; exact Bool.false_ne_true)) ?_; wp_walk using wpAny_loadPart' hl)
      | (refine wpAny_ite_true (decide_eq_true c1) ?_; wp_walk using wpAny_loadPart' hl))
    exact ⟨_, rfl, h⟩
theorem tuple_mulW0 (l : Addr) (items : Array Value) (n : Nat) (dd : Option Addr) (sl : Array (Option Value)) (x : Int) (u : Tok) (c0 : (decide (x < -(2 ^ 63)) || decide (x ≥ 2 ^ 63)) = false) (c1 : (items.isEmpty || x == 1) = false) (c2 : (decide (x ≤ 0) || items.isEmpty) = true) :
    Meets (Builtin.«tuple.__mul__» ⟨[.ref l, .int x u], []⟩) (fun _ R s => s.heap.get? l = some { cls := .type "tuple", dict := dd, data := .seq items n, slots := sl } ∧
      R (.ok (.ret (Value.ref s.heap.objs.size))) { s with heap := s.heap.push { cls := Value.type "tuple", data := Data.seq #[] }, toks := s.toks }) :=
  .of_wp fun prog w A R s h => by
    obtain ⟨hp, g, d, tk, os⟩ := s
    obtain ⟨hl, h⟩ := h
    have f1 := AutoSeq1.idx_int
    wp_walk using wpAny_loadPart' hl
    repeat (first
      | (refine wpAny_ite_false (decide_eq_false (by rw [c0]; exact Bool.false_ne_true)) ?_; wp_walk using wpAny_loadPart' hl)
      | (refine wpAny_ite_false (decide_eq_false (by rw [c1]; exact Bool.false_ne_true)) ?_; wp_walk using wpAny_loadPart' hl)
      | (refine wpAny_ite_true (decide_eq_true c2) ?_; wp_walk using wpAny_loadPart' hl))
    exact ⟨_, rfl, h⟩
end
/-! ### xs[::-1] -/
section
variable {X : Cx} {p : Par} {e : Expr}
def tRevA (K : PySem.W.Frag) (te : TE) : TE := fun σ H Q => te σ H fun x H1 => ∃ a xs, x = .ref a ∧ ((SqL K H1 a xs ∧ ∀ c, H1 c = none → Q (.ref c) (upd H1 c (.lst xs.reverse))) ∨ (SqT K H1 a xs ∧ ∀ c, H1 c = none → Q (.ref c) (upd H1 c (.tup xs.reverse))))
theorem pe_revA {e : Expr} {te : TE} {k : Nat} {p1 p2 p3 pos : Pos} (he : PE X e te) : PE X (.Subscript e (.Slice none none (some (.UnaryOp .USub (.Constant (.int 1) k p1) p2)) p3) pos) (tRevA X.K te) := by
  refine ⟨fun pins s σ H Q I h => ?_⟩
  refine Subscript_ (thn (he.run pins s σ H _ I h) fun v s1 ⟨x, H1, I1, r1, q1⟩ => ?_)
  obtain ⟨a, xs, ex, hq⟩ := q1
  subst ex
  cases r1
  have hst : PO X (some (.UnaryOp .USub (.Constant (.int 1) k p1) p2)) (tPart (tUn (rU fun i => .int (-i)) (tC (.int 1)))) := po_some (pe_un un_neg pe_int)
  refine wpAny_Slice (thn (po_none.run pins s1 σ H1 (fun o H2 => o = none ∧ H2 = H1) I1 ⟨rfl, rfl⟩) fun vl s2 ⟨l, H2, I2, pl, el, e2⟩ => ?_)
  subst el e2
  refine thn (po_none.run pins s2 σ H2 (fun o H3 => o = none ∧ H3 = H2) I2 ⟨rfl, rfl⟩) fun vu s3 ⟨u, H3, I3, pu, eu, e3⟩ => ?_
  subst eu e3
  refine thn (hst.run pins s3 σ H3 (fun o H4 => o = some (-1) ∧ H4 = H3) I3 ⟨1, rfl, -1, rfl, rfl, rfl⟩) fun vs s4 ⟨o, H4, I4, ps, eo, e4⟩ => ?_
  subst eo e4
  have I5 : Inv X pins σ H4 { s4 with heap := s4.heap.push { cls := .type "slice", data := .fields #[vl, vu, vs] } } := I4.kept (t' := s4.toks) fun b ob q => Heap.get?_push_of_some _ q
  show wpAny (model X.prog X.w) X.A (subscriptTail e (.Slice none none (some (.UnaryOp .USub (.Constant (.int 1) k p1) p2)) p3) (.ref a) (.ref s4.heap.objs.size)) (EP X pins σ Q) X.xe { s4 with heap := s4.heap.push { cls := .type "slice", data := .fields #[vl, vu, vs] } }
  cases pl
  cases pu
  rcases hq with ⟨hx, q⟩ | ⟨hx, q⟩
  · obtain ⟨its, r, ht, hz⟩ := I5.list hx
    have hlen := r.length
    refine tail_any (ops := [.ref a, .ref s4.heap.objs.size]) ht.isList.typeIs (PySem.slot_list_getitem.lookup) ?_ (by with_unfolding_all rfl)
    refine wpAny_getItem_list_slice ht.isList (Heap.IsSliceOf.new _ _ _ vs) .none .none ps (by decide) ?_ (by rw [List.size_toArray]; omega)
    rw [PySem.W.krv_pick]
    refine ⟨.ref _, _, I5.laid (t' := s4.toks) (o := .lst xs.reverse) (fun b ob q => Heap.get?_push_of_some _ q) (Nat.le_refl _) ?_, rfl, q _ (I5.hok.fresh (Nat.le_refl _))⟩
    exact ⟨by rw [List.length_reverse]; exact hz, _, 0, r.reverse, Heap.get?_push_size _ rfl⟩
  · obtain ⟨its, r, ht, hz⟩ := I5.tuple hx
    have hlen := r.length
    refine tail_any (ops := [.ref a, .ref s4.heap.objs.size]) ht.typeIs (PyProof.Rows.slot_tuple_getitem.lookup) ?_ (by with_unfolding_all rfl)
    refine getItem_tuple_rev ht (Heap.IsSliceOf.new _ _ _ vs) ps ?_ (by rw [List.size_toArray]; omega)
    refine ⟨.ref _, _, I5.laid (t' := s4.toks) (o := .tup xs.reverse) (fun b ob q => Heap.get?_push_of_some _ q) (Nat.le_refl _) ?_, rfl, q _ (I5.hok.fresh (Nat.le_refl _))⟩
    exact ⟨by rw [List.length_reverse]; exact hz, _, r.reverse, IsTup.new _ _⟩
def aRev : F1
  | .list xs, Q => Q (.list xs.reverse)
  | .tuple xs, Q => Q (.tuple xs.reverse)
  | _, _ => False
def wRevA (w : WE) : WE := fun ρ Q EX => w ρ (fun d => aRev d Q) EX
theorem de_revA {w : WE} {k : Nat} {p1 p2 p3 pos : Pos} (h : DB p X e w) : DE p X (.Subscript e (.Slice none none (some (.UnaryOp .USub (.Constant (.int 1) k p1) p2)) p3) pos) (wRevA w) :=
  ⟨pe_use (pe_revA h.pe) fun σ H Q hk ⟨ρ, O, EX, R, ex, hw⟩ => ⟨ρ, O, EX, R, ex, h.mono _ _ _ _ (fun d hd v H1 hk1 e1 r1 => by
    have ok := (R.ext' e1).ok hk1
    cases d <;> first | exact hd.elim | skip
    · obtain ⟨l, vs, rfl, _, h1, r2⟩ := r1.list
      exact ⟨l, vs, rfl, .inl ⟨.of h1, fun c hc hk' => RF.list (RE.f ok (RE.to hd e1)) ok hc r2.reverse hk'⟩⟩
    · obtain ⟨l, vs, rfl, h1, r2⟩ := r1.tuple
      exact ⟨l, vs, rfl, .inr ⟨h1, fun c hc hk' => RE.tup (RE.to hd e1) ok hc r2.reverse hk'⟩⟩) hw⟩, fun ρ Q Q' EX hh q => h.mono _ _ _ _ (fun d q => by
    cases d <;> first | exact hh _ q | exact q.elim) q⟩
/-! ### tuple * int, whatever the int -/
def rRepTA (K : PySem.W.Frag) : R2 := fun x y H Q => ∃ l k xs, x = .ref l ∧ y = .int k ∧ SqT K H l xs ∧ -(2 ^ 63) ≤ k ∧ k ≤ 1000 ∧ xs.length ≤ 1000 ∧ ((xs = [] ∨ k = 1) → Q (.ref l) H) ∧ (¬ (xs = [] ∨ k = 1) → ∀ c, H c = none → Q (.ref c) (upd H c (.tup (List.replicate k.toNat xs).flatten)))
theorem op_repTA : OpR X (binaryOp .Mult) (rRepTA X.K) := by
  intro pins s σ H x y v u Q I rx ry h
  obtain ⟨l, k, xs, rfl, rfl, hT, hk1, hk2, hz, q1, q2⟩ := h
  by_cases c : xs ≠ [] ∧ 2 ≤ k
  · exact op_repT pins s σ H _ _ v u Q I rx ry ⟨l, k, xs, rfl, rfl, hT, c.1, c.2, hk2, hz, q2 (fun z => by rcases z with z | z; exact c.1 z; omega)⟩
  cases rx
  obtain ⟨t, rfl⟩ := ry
  obtain ⟨its, r, ⟨⟨cls, dd, data, sl⟩, ho, hc, n, hd⟩, hs⟩ := I.tuple hT
  simp only at hc hd
  subst hc hd
  have hle : its.length = xs.length := r.length.symm
  have c0 : (decide (k < -(2 ^ 63)) || decide (k ≥ 2 ^ 63)) = false := by
    rw [decide_eq_false (by omega), decide_eq_false (by omega)] <;> rfl
  have hie : its.toArray.isEmpty = true ↔ xs = [] := by
    cases its with
    | nil => exact ⟨fun _ => List.eq_nil_of_length_eq_zero hle.symm, fun _ => rfl⟩
    | cons a b => exact ⟨fun z => by simp at z, fun z => by rw [z] at hle; simp at hle⟩
  by_cases c1 : xs = [] ∨ k = 1
  · have c1' : (its.toArray.isEmpty || k == 1) = true := by
      rw [Bool.or_eq_true]
      rcases c1 with z | z
      · exact .inl (hie.mpr z)
      · exact .inr (by rw [z]; rfl)
    refine wpAny_binaryOp_repeat_ref (T := "tuple") (U := "int") (by decide) ⟨_, ho, rfl⟩ (fun s' => typeIs_int s' k t) noFill_tuple_mul F.fills_int_mul F.slot_int_rmul repeat_tuple F.slot_int_index.lookup
      (call_meets F.slot_int_rmul (typeIs_int s k t) F.entry_int_rmul (F.args_int_rmul_2 _ _) (int_rmul_tuple k t l its.toArray n dd sl)
        ⟨ho, rfl, ⟨_, ho, rfl⟩, call_meets F.slot_tuple_mul ⟨_, ho, rfl⟩ F.entry_tuple_mul (F.args_tuple_mul_2 _ _) (tuple_mulW1 l its.toArray n dd sl k t c0 c1') ⟨ho, ?_⟩⟩)
    exact ⟨.ref l, H, I, rfl, q1 c1⟩
  · have c1' : (its.toArray.isEmpty || k == 1) = false := by
      rw [Bool.or_eq_false_iff]
      refine ⟨?_, ?_⟩
      · cases z : its.toArray.isEmpty with
        | false => rfl
        | true => exact absurd (.inl (hie.mp z)) c1
      · exact beq_eq_false_iff_ne.mpr fun z => c1 (.inr z)
    have hk0 : k ≤ 0 := by
      rcases Classical.em (xs = []) with z | z
      · exact absurd (.inl z) c1
      · have : ¬ 2 ≤ k := fun z2 => c ⟨z, z2⟩
        have : k ≠ 1 := fun z2 => c1 (.inr z2)
        omega
    have c2 : (decide (k ≤ 0) || its.toArray.isEmpty) = true := by rw [decide_eq_true hk0]; rfl
    refine wpAny_binaryOp_repeat_ref (T := "tuple") (U := "int") (by decide) ⟨_, ho, rfl⟩ (fun s' => typeIs_int s' k t) noFill_tuple_mul F.fills_int_mul F.slot_int_rmul repeat_tuple F.slot_int_index.lookup
      (call_meets F.slot_int_rmul (typeIs_int s k t) F.entry_int_rmul (F.args_int_rmul_2 _ _) (int_rmul_tuple k t l its.toArray n dd sl)
        ⟨ho, rfl, ⟨_, ho, rfl⟩, call_meets F.slot_tuple_mul ⟨_, ho, rfl⟩ F.entry_tuple_mul (F.args_tuple_mul_2 _ _) (tuple_mulW0 l its.toArray n dd sl k t c0 c1' c2) ⟨ho, ?_⟩⟩)
    have e : (List.replicate k.toNat xs).flatten = [] := by rw [show k.toNat = 0 by omega]; rfl
    have q2 := q2 c1
    rw [e] at q2
    refine ⟨.ref s.heap.objs.size, _, I.laid (t' := s.toks) (o := .tup []) (fun b ob q => Heap.get?_push_of_some _ q) (Nat.le_refl _) ?_, rfl, q2 _ (I.hok.fresh (Nat.le_refl _))⟩
    exact ⟨Nat.zero_le _, [], .nil, IsTup.new _ _⟩
def aMulT : F2
  | .tuple xs, .int k, Q => (-(2 ^ 63) ≤ k ∧ k ≤ 1000 ∧ xs.length ≤ 1000) ∧ Q (.tuple (List.replicate k.toNat xs).flatten)
  | _, _, _ => False
theorem o_mulT : Op2 p aMulT (rRepTA p.K) := by
  refine ⟨fun O H x y a b Q ok rx ry hf => ?_, fun a b Q Q' h q => ?_⟩
  · cases a <;> cases b <;> first | exact hf.elim | skip
    rename_i xs k
    rw [ry.int]
    obtain ⟨a, vs, rfl, h1, r1⟩ := rx.tuple
    obtain ⟨⟨h2, h3, h4⟩, q⟩ := hf
    have hl := r1.length
    refine ⟨a, _, vs, rfl, rfl, h1, h2, h3, by rw [hl]; exact h4, fun z => ?_, fun z c hc hk => q.tup ok hc (r1.flat _) hk⟩
    have e : (List.replicate k.toNat xs).flatten = xs := by
      rcases z with z | z
      · rw [z] at hl
        have : xs = [] := List.eq_nil_of_length_eq_zero hl.symm
        rw [this]
        induction k.toNat with
        | zero => rfl
        | succ n ih => rw [List.replicate_succ, List.flatten_cons, ih]; rfl
      · rw [z]; exact List.append_nil xs
    rw [e] at q
    exact fun _ => RE.now q ok (rep_tuple h1 r1)
  · cases a <;> cases b <;> first | exact q.elim | exact ⟨q.1, h _ q.2⟩
end
section
variable {ρ : Env'} {Q : D → Prop} {EX : EXn} {a : WE}
@[simp ↓] theorem ev_RevA : wRevA a ρ Q EX = a ρ (fun d => aRev d Q) EX := rfl
@[simp ↓] theorem ev_revL {xs : List D} : aRev (.list xs) Q = Q (.list xs.reverse) := rfl
@[simp ↓] theorem ev_revT {xs : List D} : aRev (.tuple xs) Q = Q (.tuple xs.reverse) := rfl
@[simp ↓] theorem ev_mulTT {xs : List D} {k : Int} : aMulT (.tuple xs) (.int k) Q = ((-(2 ^ 63) ≤ k ∧ k ≤ 1000 ∧ xs.length ≤ 1000) ∧ Q (.tuple (List.replicate k.toNat xs).flatten)) := rfl
end
/-! ### the sum of a row, a list or a tuple -/
section
variable {X : Cx} {p : Par}
def rSumA (K : PySem.W.Frag) : List V → Hp → VK → Prop := fun vs H Q => ∃ (a : Addr) (ns : List Int), vs = [V.ref a] ∧ (SqL K H a (ns.map V.int) ∨ SqT K H a (ns.map V.int)) ∧ Q (.int ns.sum) H
theorem preSum_take (ns : List Int) : ∀ j, j ≤ ns.length → PySem.preSum (fun i => ns.getD i 0) j = (ns.take j).sum
  | 0, _ => by simp [PySem.preSum]
  | j + 1, h => by
    have e : ns.take (j + 1) = ns.take j ++ [ns[j]] := by rw [List.take_succ, List.getElem?_eq_getElem (by omega)]; rfl
    rw [PySem.preSum, preSum_take ns j (by omega), e, List.sum_append]
    rw [List.getD_eq_getElem?_getD, List.getElem?_eq_getElem (by omega)]
    simp
theorem cr_sumA (hc : X.calm = true) : CallR X (.builtin "sum") (rSumA X.K) := by
  intro pins s σ H vs us Q I r h
  obtain ⟨a, ns, rfl, hs | hs, q⟩ := h
  · exact cr_sum hc pins s σ H _ us Q I r ⟨a, ns, rfl, hs, q⟩
  · rw [Vals.ref1 r]
    obtain ⟨its, rv, hl, _⟩ := I.tuple hs
    have hlen : its.length = ns.length := by have := rv.length; rw [List.length_map] at this; exact this.symm
    refine PySem.call_sum_walkAnyS (PySem.W.iter_tupleW (A := X.A.in1) (I.ok.hd hc) hl fun s₂ e W st hfp hw hk => ?_)
    refine ⟨_, _, _, _, _, _, _, fun i => ns.getD i 0, rfl, W, st, hfp, fun i v hP => ?_, fun s' t' m => ?_⟩
    · have hP' : its[i]? = some v := by simpa using hP
      have hi : i < ns.length := by
        have := (List.getElem?_eq_some_iff.mp hP').1
        omega
      obtain ⟨u, hu, ru⟩ := rv.get (i := i) (x := .int ns[i]) (by rw [List.getElem?_map, List.getElem?_eq_getElem hi]; rfl)
      rw [hP'] at hu
      cases hu
      obtain ⟨t, rfl⟩ := ru
      refine ⟨t, ?_⟩
      show Value.int ns[i] t = Value.int (ns.getD i 0) t
      rw [List.getD_eq_getElem?_getD, List.getElem?_eq_getElem hi]
      rfl
    · obtain ⟨h', tk, rfl, hk'⟩ := PySem.W.moved_old e rfl m
      have e2 : PySem.preSum (fun i => ns.getD i 0) its.toArray.size = ns.sum := by
        rw [List.size_toArray, hlen, preSum_take ns _ (Nat.le_refl _), List.take_length]
      rw [e2]
      exact ⟨.int _, H, I.kept hk', ⟨_, rfl⟩, q⟩
def aSumA : F1 := fun d Q => ∃ ns, rowD d = some ns ∧ Q (.int ns.sum)
theorem n_sumA : OpN p (f1 aSumA) (rSumA p.K) := by
  refine op1 (fun d Q Q' h ⟨ns, e, q⟩ => ⟨ns, e, h _ q⟩) fun O H x a Q ok r ⟨ns, e, q⟩ => ?_
  obtain ⟨l, rfl, hs⟩ := row_of r e
  exact ⟨l, ns, rfl, hs, fun _ => q.now ok rep_int⟩
end
section
variable {Q : D → Prop}
theorem sum_list {ns : List Int} {xs : List D} (e : xs = ns.map .int) (q : Q (.int ns.sum)) : aSumA (.list xs) Q := ⟨ns, by rw [e]; exact intsD_map _, q⟩
theorem sum_tuple {ns : List Int} {xs : List D} (e : xs = ns.map .int) (q : Q (.int ns.sum)) : aSumA (.tuple xs) Q := ⟨ns, by rw [e]; exact intsD_map _, q⟩
end
/-! ### comprehensions of drawn items; sums over generators -/
section
variable {ρ : Env'} {EX : EXn} {α β : Type}
/-- each turn gives some item with a property -/
theorem comp_any {g : WG} {we : WE} {h : α → D} (P : D → Prop) : ∀ {xs : List α} {acc : List D} {Q : D → Prop} (hh : ∀ x ∈ xs, ∀ R : D → Prop, (∀ y, P y → R y) → g (h x) ρ fun ρ2 => we ρ2 R noX)
    (hl : acc.length + xs.length ≤ sizeLine) (q : ∀ ys : List D, ys.length = xs.length → (∀ y ∈ ys, P y) → Q (.list (acc ++ ys))), wComp g wYes we ρ (xs.map h) acc Q
  | [], acc, Q, hh, hl, q => by
    have := q [] rfl (fun y h => (List.not_mem_nil h).elim)
    rw [List.append_nil] at this
    exact this
  | d :: ds, acc, Q, hh, hl, q => by
    rw [List.length_cons] at hl
    have := hh d List.mem_cons_self (fun y => acc.length < sizeLine ∧ wComp g wYes we ρ (ds.map h) (acc ++ [y]) Q) (fun y hy => by
      refine ⟨by omega, comp_any P (fun x m => hh x (List.mem_cons_of_mem _ m)) (by rw [List.length_append, List.length_singleton]; omega) fun ys hys hP => ?_⟩
      have := q (y :: ys) (by rw [List.length_cons, List.length_cons, hys]) (fun z hz => by
        rcases List.mem_cons.mp hz with rfl | hz
        · exact hy
        · exact hP z hz)
      rw [List.append_assoc]
      exact this)
    rw [List.map_cons]
    unfold wComp
    simpa using this
theorem sum_evalM {g : WG} {we : WE} {h : α → D} (f : α → Int) {Q : D → Prop} : ∀ {xs : List α} {a : Int} (hh : ∀ x ∈ xs, ∀ R : D → Prop, R (.int (f x)) → g (h x) ρ fun ρ2 => we ρ2 R noX) (q : Q (.int (a + (xs.map f).sum))), wFold g wYes we (cSum Q) (fun i => Q (.int i)) ρ (xs.map h) a
  | [], a, hh, q => by
    have q : Q (.int (a + 0)) := q
    rw [Int.add_zero] at q
    exact q
  | d :: ds, a, hh, q => by
    have := hh d List.mem_cons_self (fun y => cSum Q a y (fun i => wFold g wYes we (cSum Q) (fun i => Q (.int i)) ρ (ds.map h) i)) (by
      refine ⟨_, rfl, sum_evalM f (fun x m => hh x (List.mem_cons_of_mem _ m)) ?_⟩
      rw [List.map_cons, List.sum_cons, ← Int.add_assoc] at q
      exact q)
    rw [List.map_cons]
    unfold wFold
    simpa using this
end
section
variable {ρ : Env'} {Q : D → Prop} {EX : EXn} {a : WE} {D0 : EndsW}
@[simp ↓] theorem ev_Aug {i : Nat} {f : F2} : wAug i f a D0 ρ = (match ρ[i]? with | some (some (.d d)) => a ρ (fun y => f d y fun z => D0.nx (ρ.set i (some (.d z)))) D0.ex | _ => False) := rfl
end
end DD
set_option maxRecDepth 100000
set_option maxHeartbeats 4000000
/-! SemX: enumerate of a tuple. -/
namespace DD
open PySem PySem.Spec PyProof.Rows L2
open AutoSeq1 (wpAny_loadPart')
theorem meets_enumerate_newT (l : Addr) (items : Array Value) (n : Nat) (dct : Option Addr) (sl : Array (Option Value)) :
    Meets (Builtin.«enumerate.__new__» ⟨[.type "enumerate", .ref l], []⟩) (fun _ R s => s.heap.get? l = some { cls := .type "tuple", dict := dct, data := .seq items n, slots := sl } ∧
      R (.ok (.ret (.ref (s.heap.push { cls := .type "tuple_iterator", data := .fields #[.ref l, .int 0 0] }).objs.size)))
        { s with heap := (s.heap.push { cls := .type "tuple_iterator", data := .fields #[.ref l, .int 0 0] }).push { cls := .type "enumerate", data := .fields #[.none, .bool false, .ref s.heap.objs.size, rawInt 0, .none, .none] } }) :=
  .of_wp fun prog w A R s h => by
    obtain ⟨hp, g, d, tk, os⟩ := s; obtain ⟨hl, h⟩ := h
    have hsub := sub_enumerate
    have hL : Heap.IsTuple (Shared.heap ⟨hp, g, d, tk, os⟩) l items := ⟨_, hl, rfl, n, rfl⟩
    wp_walk using wpAny_loadPart' hl
    refine wpAny_stack_any fun st => wpAny_pure ?_
    split
    · rename_i c _ _ _ _ _
      cases (c == Value.type "enumerate")
      · wp_walk using wpAny_loadPart' hl, wpAny_pyIter_tuple hL
        exact ⟨_, rfl, h⟩
      · wp_walk using wpAny_loadPart' hl, wpAny_pyIter_tuple hL
        exact ⟨_, rfl, h⟩
    · wp_walk using wpAny_loadPart' hl, wpAny_pyIter_tuple hL
      exact ⟨_, rfl, h⟩
section
variable {prog : Program} {w : World} {A : Around} {E : Value → Shared → Prop} {s : Shared}
theorem call_enumerate_tuple {l : Addr} {items : Array Value} {Q : Value → Shared → Prop} (hL : s.heap.IsTuple l items)
    (h : ∀ h', IsEnum h' (s.heap.objs.size + 1) s.heap.objs.size 0 .none → h'.IsTupleIter s.heap.objs.size l 0 → h'.objs.size = s.heap.objs.size + 2 →
      (∀ b o, s.heap.get? b = some o → h'.get? b = some o) → Q (.ref (s.heap.objs.size + 1)) { s with heap := h' }) :
    wpAny (model prog w) A (call (.type "enumerate") [.ref l]) Q E s := by
  obtain ⟨⟨c, dct, dt, sl⟩, hl, hc, n, hd⟩ := hL
  replace hc : c = .type "tuple" := hc
  replace hd : dt = .seq items n := hd
  subst hc hd
  refine callType_new F.called_enumerate (by decide) (F.typeCall_enumerate_1 _) (F.newCall_enumerate_1 _) (fun obj => F.args_object_init_2 obj _) F.entry_enumerate_new
    (meets_enumerate_newT l items n dct sl) ⟨hl, ?_⟩
  have hz : (s.heap.push { cls := .type "tuple_iterator", data := .fields #[.ref l, .int 0 0] }).objs.size = s.heap.objs.size + 1 := Heap.size_push ..
  show _ ∧ _
  rw [hz]
  have he : IsEnum ((s.heap.push { cls := .type "tuple_iterator", data := .fields #[.ref l, .int 0 0] }).push
      { cls := .type "enumerate", data := .fields #[.none, .bool false, .ref s.heap.objs.size, rawInt 0, .none, .none] }) (s.heap.objs.size + 1) s.heap.objs.size 0 .none := by
    have := Heap.get?_push_size (s.heap.push { cls := .type "tuple_iterator", data := .fields #[.ref l, .int 0 0] })
      (o := { cls := .type "enumerate", data := .fields #[.none, .bool false, .ref s.heap.objs.size, rawInt 0, .none, .none] }) rfl
    rw [hz] at this; exact this
  refine ⟨⟨_, he, rfl⟩, h _ he ⟨_, Heap.get?_push_of_some _ (Heap.get?_push_size _ rfl), rfl, rfl⟩ (by rw [Heap.size_push, hz]) fun b o x => Heap.get?_push_of_some _ (Heap.get?_push_of_some _ x)⟩
end
def IteT (K : PySem.W.Frag) (a : Addr) : It :=
  ⟨fun i H => ∃ (xs : List V) (x : V), SqT K H a xs ∧ xs[i]? = some x, fun i H v H' => ∃ T x, v = .ref T ∧ H T = none ∧ H' = upd H T (.tup [.int (i : Nat), x]) ∧ ∀ xs, SqT K H a xs → xs[i]? = some x, fun i H => ∃ xs : List V, SqT K H a xs ∧ xs.length ≤ i⟩
theorem turn_enumT {P : Program} {w : World} {K : PySem.W.Frag} {elts : List Expr} {kk : Nat} {tpos : Pos} {a e it : Addr} (hae : a ≠ e) (hai : a ≠ it) :
    Turn P w K (.Tuple elts kk tpos) (IteT K a) [e, it] e (fun i h => (∃ old, IsEnum h e it ((i : Nat) : Int) old) ∧ h.IsTupleIter it a i ∧ e ≠ it) where
  mem := by simp
  obj := fun i h st b hb => by
    obtain ⟨⟨old, he⟩, ⟨o, ho, hc, hd⟩, _⟩ := st
    have e' : b = e ∨ b = it := by simpa using hb
    rcases e' with z | z
    · rw [z]; exact ⟨_, he, fun v q => nomatch q⟩
    · rw [z]; exact ⟨o, ho, fun v q => by rw [hd] at q; cases q⟩
  keep := fun i h h' st k => let ⟨⟨old, he⟩, hi, hne⟩ := st; ⟨⟨old, k e (by simp) _ he⟩, hi.at fun o q => k it (by simp) o q, hne⟩
  item := by
    intro X hP hw hK hc i pins s σ H E I hf st hg
    subst hP hw hK
    obtain ⟨⟨old, he⟩, hit, hne⟩ := st
    obtain ⟨xs, x, hq, hx⟩ := hg
    obtain ⟨its, rv, p, hz⟩ := I.tuple hq
    obtain ⟨u, hu, ru⟩ := rv.get hx
    have hel : e < s.heap.objs.size := Heap.lt_size he
    have hil : it < s.heap.objs.size := by obtain ⟨_, q, _⟩ := hit; exact Heap.lt_size q
    have hi : i < its.toArray.size := by
      have := (List.getElem?_eq_some_iff.mp hu).1
      simpa using this
    refine wpAny_pyNext_enum_itemD (Draws.tuple (A := X.A.in1) (I.ok.hd hc) it a hai its.toArray) he ⟨hit, p⟩ hi hne (by simp; exact ⟨hne, fun z => hae z.symm⟩) fun x2 h' tk hx2 ho hst hT hsz hk => ?_
    have ex : x2 = u := by
      have : its[i]? = some x2 := by simpa using hx2
      rw [hu] at this
      exact (Option.some.inj this).symm
    subst ex
    have hit' := hst.1
    refine ⟨_, rfl, wpAny_letOwnedTupleGo_enum (s := { s with heap := h', toks := tk + 1 }) ho fun h'' he' sb => ?_⟩
    have hT2 : h''.get? s.heap.objs.size = some { cls := .type "tuple", data := .seq #[.int i tk, x2] } := (sb.2 _ (Nat.ne_of_gt hel)).trans hT
    have new : ObjOk X.prog X.w (upd H s.heap.objs.size (.tup [.int (i : Nat), x])) h'' s.heap.objs.size (.tup [.int (i : Nat), x]) :=
      ⟨by show 2 ≤ sizeLine; decide, [.int i tk, x2], .cons ⟨_, rfl⟩ (.cons ru .nil), ⟨_, hT2, rfl, _, rfl⟩⟩
    have I1 : Inv X pins σ (upd H s.heap.objs.size (.tup [.int (i : Nat), x])) { s with heap := h'', toks := tk + 1 } :=
      I.turnedNew (ch := [e, it]) (fun b ob hb q => (sb.2 b (fun z => hb (by simp [z]))).trans (hk b ob (fun z => hb (by simp [z])) (fun z => hb (by simp [z])) q)) hf (Nat.le_refl _) new
    refine ⟨.ref s.heap.objs.size, _, I1, rfl, ⟨_, x, rfl, I.hok.fresh (Nat.le_refl _), rfl, fun ys hy => by rw [I.tuple_inj hy hq]; exact hx⟩, ⟨⟨x2, ?_⟩, hit'.at fun o q => (sb.2 it (Ne.symm hne)).trans q, hne⟩, fun b hb => ?_⟩
    · have e1 : ((i + 1 : Nat) : Int) = (i : Int) + 1 := by omega
      rw [e1]; exact he'
    · have hb' : b < s.heap.objs.size := by
        have e' : b = e ∨ b = it := by simpa using hb
        rcases e' with z | z
        · rw [z]; exact hel
        · rw [z]; exact hil
      rw [upd_ne (Nat.ne_of_lt hb')]
      exact (hf b hb).1
  done := by
    intro X hP hw hK hc i pins s σ H E I hf st hg
    subst hP hw hK
    obtain ⟨⟨old, he⟩, hit, hne⟩ := st
    obtain ⟨xs, hq, hx⟩ := hg
    obtain ⟨its, rv, p, hz⟩ := I.tuple hq
    obtain ⟨f0, f1, f2, f3, f4, f5⟩ := hf it (by simp)
    have hl := rv.length
    have hT : s.TypeIs (.ref e) "enumerate" := ⟨_, he, rfl⟩
    unfold pyNext
    refine wpAny_bind (wpAny_attempt (wpAny_callSpecial?_slot (name := Str.ofString "__next__") hT F.slot_enumerate_next
      (wpAny_call_entry F.slot_enumerate_next hT F.entry_enumerate_next ?_ (F.args_enumerate_next_1 _))))
    show wpAny _ _ (field (.ref e) 2 >>= _) _ _ _
    refine wpAny_bind (wpAny_field he rfl (x := .ref it) rfl ?_)
    refine wpAny_bind (wpAny_nextOf_tuple_end (A := X.A.in1) (I.ok.hd hc) hit p (by simp; omega) fun h' x he' hx' => ?_)
    obtain ⟨o, ho, hc'⟩ := hx'
    refine wpAny_bind (wpAny_isInstance (T := "StopIteration") (b := true) ⟨o, ho, hc'⟩ isSubtype_stop ?_)
    exact wpAny_pure ⟨rfl, I.turned (t' := s.toks) (fun b o hb q => he' b o hb q) f0 f1 f3 f4 f5⟩
  self := fun A i s Q E st h => let ⟨⟨_, he⟩, _⟩ := st; wpAny_pyIter_enum he h
def iEnumA (K : PySem.W.Frag) (ta : TA) : TI := fun σ H R => ta σ H fun vs H1 => ∃ a xs, vs = [.ref a] ∧ ((SqL K H1 a xs ∧ R (Ite K a) H1) ∨ (SqT K H1 a xs ∧ R (IteT K a) H1))
theorem pi_enumA {X : Cx} {e : Expr} {ta : TA} {p pos tpos : Pos} {elts : List Expr} {kk : Nat} (hg : Gl X "enumerate") (hm : X.mg "enumerate" = none) (ha : PA X [e] ta) (hs : starEach [e] X.env = [(false, eval e X.env)] := by rfl) :
    PI X (.Tuple elts kk tpos) (.Call (.Name "enumerate" p) [e] [] pos) (iEnumA X.K ta) := by
  refine ⟨fun pins s σ H R I h => ?_⟩
  refine Call_ (ld_blt I hg hm boot_enumerate (PyProof.Rows.callWith_type1 (thn (ha.run pos pins s σ H _ I h) fun us s1 ⟨vs, H1, I1, r1, q1⟩ => ?_) hs rfl))
  obtain ⟨a, xs, ex, hq⟩ := q1
  subst ex
  cases r1 with
  | cons r rr =>
    cases rr
    cases r
    rcases hq with ⟨hq, q⟩ | ⟨hq, q⟩
    · obtain ⟨its, rv, p', hz⟩ := I1.list hq
      refine call_enumerate_list p'.isList fun h' he hit hsz hk => wpAny_pyIter_enum he ?_
      have I2 : Inv X pins σ H1 { s1 with heap := h' } := I1.kept (t' := s1.toks) hk
      refine ⟨s1.heap.objs.size + 1, [s1.heap.objs.size + 1, s1.heap.objs.size], _, _, H1, rfl, I2, turn_enum a (s1.heap.objs.size + 1) s1.heap.objs.size, ⟨⟨.none, he⟩, hit, Nat.succ_ne_self _⟩, fun b hb => ?_, q⟩
      have e' : b = s1.heap.objs.size + 1 ∨ b = s1.heap.objs.size := by simpa using hb
      have hle : s1.heap.objs.size ≤ b := by
        rcases e' with z | z
        · rw [z]; exact Nat.le_add_right _ _
        · rw [z]; exact Nat.le_refl _
      exact I1.fpOk hle (I1.hok.fresh hle)
    · obtain ⟨its, rv, p', hz⟩ := I1.tuple hq
      have hal : a < s1.heap.objs.size := by obtain ⟨_, e, _⟩ := p'; exact Heap.lt_size e
      refine call_enumerate_tuple p' fun h' he hit hsz hk => wpAny_pyIter_enum he ?_
      have I2 : Inv X pins σ H1 { s1 with heap := h' } := I1.kept (t' := s1.toks) hk
      refine ⟨s1.heap.objs.size + 1, [s1.heap.objs.size + 1, s1.heap.objs.size], _, _, H1, rfl, I2, turn_enumT (a := a) (e := s1.heap.objs.size + 1) (it := s1.heap.objs.size) (Nat.ne_of_lt (Nat.lt_succ_of_lt hal)) (Nat.ne_of_lt hal), ⟨⟨.none, he⟩, hit, Nat.succ_ne_self _⟩, fun b hb => ?_, q⟩
      have e' : b = s1.heap.objs.size + 1 ∨ b = s1.heap.objs.size := by simpa using hb
      have hle : s1.heap.objs.size ≤ b := by
        rcases e' with z | z
        · rw [z]; exact Nat.le_add_right _ _
        · rw [z]; exact Nat.le_refl _
      exact I1.fpOk hle (I1.hok.fresh hle)
theorem iteT_ok {p : Par} {a : Addr} {ds : List D} : ItOk p (enumD ds) (IteT p.K a) [(.ref a, .tuple ds)] := fun O H i ok hk => by
  obtain ⟨a', vs, z, h1, r⟩ := (hk (.ref a, .tuple ds) (List.mem_singleton.mpr rfl)).tuple
  cases z
  refine ⟨fun hi => ⟨vs, h1, by rw [r.length]; rw [enum_len] at hi; exact hi⟩, fun d hd => ?_⟩
  obtain ⟨x, hx, rfl⟩ := enum_get hd
  obtain ⟨v, hv, rv⟩ := r.get hx
  refine ⟨⟨vs, v, h1, hv⟩, fun u H' ⟨T, w, e0, hT, e1, e2⟩ => ?_⟩
  have e3 := e2 vs h1
  rw [hv] at e3
  cases e3
  subst e0
  subst e1
  exact pair_new ok hT rep_int rv
def wiEnumA (w : WE) : WI := fun ρ Q EX => w ρ (fun d => ∃ ds, seqD d = some ds ∧ Q (enumD ds)) EX
theorem di_enumA {p : Par} {X : Cx} {a : Expr} {pos : Pos} {w : WE} {elts : List Expr} {kk : Nat} {q tpos : Pos} (hm : X.mg "enumerate" = none) (h : DH b0 p X a w) (hg : Gl X "enumerate" := by rfl) (hs : starEach [a] X.env = [(false, eval a X.env)] := by rfl) : DI b0 p X (.Tuple elts kk tpos) (.Call (.Name "enumerate" q) [a] [] pos) (wiEnumA w) :=
  ⟨pi_use (pi_enumA hg hm (pa_cons (pe_hk h.pe) pa_nil hs) hs) fun σ H R hk ⟨ρ, O, EX, Rl, ex, hw⟩ => ⟨ρ, O, EX, Rl, ex, h.mono _ _ _ _ (fun d ⟨ds, z, q⟩ v H1 hk1 e1 r1 _ => by
    cases d with
    | list ds' =>
      cases z
      obtain ⟨a, vs, rfl, _, h1, r⟩ := (hold_b r1).list
      exact ⟨a, vs, rfl, .inl ⟨.of h1, q _ _ _ hk1 e1 (one_held r1) ite_ok⟩⟩
    | tuple ds' =>
      cases z
      obtain ⟨a, vs, rfl, h1, r⟩ := (hold_b r1).tuple
      exact ⟨a, vs, rfl, .inr ⟨h1, q _ _ _ hk1 e1 (one_held r1) iteT_ok⟩⟩
    | _ => cases z) hw⟩, fun ρ Q Q' EX hh q => h.mono _ _ _ _ (fun d ⟨ds, z, q⟩ => ⟨ds, z, hh _ q⟩) q⟩
section
variable {ρ : Env'} {EX : EXn} {a : WE}
@[simp ↓] theorem ev_iEnumA {Q : List D → Prop} : wiEnumA a ρ Q EX = a ρ (fun d => ∃ ds, seqD d = some ds ∧ Q (enumD ds)) EX := rfl
end
end DD
set_option maxRecDepth 100000
set_option maxHeartbeats 4000000
/-! SemY: chains of three comparisons; the least of rows of data. -/
namespace DD
open PySem PySem.Spec PyProof.Rows L2
section
variable {X : Cx} {p : Par} {a b c e : Expr} {pos : Pos}
/-- a op1 b op2 c op3 e -/
def tChain3 (r r' r2 : R2) (ta tb tc te : TE) : TE := fun σ H Q => ta σ H fun x H1 => tb σ H1 fun y H2 => r x y H2 fun z H3 => ∃ k, z = .bl k ∧
  (if k = true then tc σ H3 fun w' H4 => r' y w' H4 fun z2 H5 => ∃ k2, z2 = .bl k2 ∧ (if k2 = true then te σ H5 fun w2 H6 => r2 w' w2 H6 Q else Q (.bl false) H5) else Q (.bl false) H3)
theorem pt_chain3 {ta tb tc te : TE} {op op' op2 : CmpOp} {r r' r2 : R2} (ho : OpR X (compareOp op) r) (ho' : OpR X (compareOp op') r') (ho2 : OpR X (compareOp op2) r2) (ha : PE X a ta) (hb : PE X b tb) (hc : PE X c tc) (he : PE X e te)
    (hm : lastMarks [op, op', op2] [b, c, e] = false := by with_unfolding_all rfl) : PT X (.Compare a [op, op', op2] [b, c, e] pos) (tTest (tChain3 r r' r2 ta tb tc te)) := by
  refine ⟨fun pins s σ H Q I h => ?_⟩
  refine isTrue_chain (thn (ha.run pins s σ H _ I h) fun v s1 ⟨x, H1, I1, r1, q1⟩ => test_link (thn (hb.run pins s1 σ H1 _ I1 q1) fun u s2 ⟨y, H2, I2, r2, q2⟩ =>
    thn (ho pins s2 σ H2 x y v u _ I2 r1 r2 q2) fun d s3 ⟨z, H3, I3, r3, k, e, q3⟩ => ?_)) hm
  subst e
  cases r3
  refine wpAny_truthy_bool ?_
  cases k with
  | false =>
    obtain ⟨k', e', q'⟩ := q3
    cases e'
    exact ite_ff ⟨H3, I3, q'⟩
  | true =>
    refine ite_tt (test_link (thn (hc.run pins s3 σ H3 _ I3 q3) fun w' s4 ⟨z', H4, I4, r4, q4⟩ => thn (ho' pins s4 σ H4 y z' u w' _ I4 r2 r4 q4) fun d' s5 ⟨z2, H5, I5, r5, k2, e2, q5⟩ => ?_))
    subst e2
    cases r5
    refine wpAny_truthy_bool ?_
    cases k2 with
    | false =>
      obtain ⟨k', e', q'⟩ := q5
      cases e'
      exact ite_ff ⟨H5, I5, q'⟩
    | true =>
      refine ite_tt (test_last (thn (he.run pins s5 σ H5 _ I5 q5) fun w2 s6 ⟨z3, H6, I6, r6, q6⟩ => thn (ho2 pins s6 σ H6 z' z3 w' w2 _ I6 r4 r6 q6) fun d2 s7 ⟨z4, H7, I7, r7, k3, e3, q7⟩ => ?_))
      subst e3
      cases r7
      exact wpAny_truthy_bool ⟨H7, I7, q7⟩
variable {op op' op2 : CmpOp} {r r' r2 : R2} {g g' g2 : G2} {wa wb wc we : WE}
def wChain3 (g g' g2 : G2) (wa wb wc we : WE) : WT := fun ρ Qb EX => wa ρ (fun x => wb ρ (fun y => g x y fun k => if k = true then wc ρ (fun z => g' y z fun k2 => if k2 = true then we ρ (fun v => g2 z v Qb) EX else Qb false) EX else Qb false) EX) EX
theorem dt_chain3 (ho : OpR X (compareOp op) r) (ho' : OpR X (compareOp op') r') (ho2 : OpR X (compareOp op2) r2) (hr : Cmp2 (p.at X.K) g r) (hr' : Cmp2 (p.at X.K) g' r') (hr2 : Cmp2 (p.at X.K) g2 r2) (ha : DB p X a wa) (hb : DB p X b wb) (hc : DB p X c wc) (he : DB p X e we)
    (hm : lastMarks [op, op', op2] [b, c, e] = false := by with_unfolding_all rfl) : DT p X (.Compare a [op, op', op2] [b, c, e] pos) (wChain3 g g' g2 wa wb wc we) := by
  refine ⟨pt_use (pt_chain3 ho ho' ho2 ha.pe hb.pe hc.pe he.pe hm) fun σ H Q hk ⟨ρ, O, EX, Rl, ex, hw⟩ => ?_, fun ρ Q Q' EX h q => ?_⟩
  · refine two (S := fun a b => g a b fun k => if k = true then wc ρ (fun z => g' b z fun k2 => if k2 = true then we ρ (fun v => g2 z v fun b => ∀ H', Hk (p.at X.K).K H' → Ext (p.at X.K) H H' → Q b H') EX else ∀ H', Hk (p.at X.K).K H' → Ext (p.at X.K) H H' → Q false H') EX else ∀ H', Hk (p.at X.K).K H' → Ext (p.at X.K) H H' → Q false H') ha hb Rl ex hw fun x y da db H2 ok e rx ry q => ?_
    refine hr.ok O H2 x y da db _ _ ok rx ry q fun k q => ⟨k, rfl, ?_⟩
    by_cases z : k = true
    · rw [if_pos z] at q ⊢
      refine ⟨ρ, O, EX, Rl.ext' e, ex, hc.mono _ _ _ _ (fun dc q u H3 hk3 e3 r3 => ?_) q⟩
      have R3 := (Rl.ext' e).ext' e3
      refine hr'.ok O H3 y u db dc _ _ (R3.ok hk3) (ry.ext e.wd e3) r3 q fun k2 q => ⟨k2, rfl, ?_⟩
      by_cases z2 : k2 = true
      · rw [if_pos z2] at q ⊢
        refine ⟨ρ, O, EX, R3, ex, he.mono _ _ _ _ (fun dd q u2 H4 hk4 e4 r4 => ?_) q⟩
        have e34 := (e.trans e3).trans e4
        exact hr2.ok O H4 u u2 dc dd _ _ ((R3.ext' e4).ok hk4) (r3.ext R3.wd e4) r4 q fun k3 q => ⟨k3, rfl, fun hk' => q H4 hk' e34⟩
      · rw [if_neg z2] at q ⊢
        exact ⟨false, rfl, fun hk' => q H3 hk' (e.trans e3)⟩
    · rw [if_neg z] at q ⊢
      exact ⟨false, rfl, fun hk' => q H2 hk' e⟩
  · refine ha.mono _ _ _ _ (fun x q => hb.mono _ _ _ _ (fun y q => hr.mono _ _ _ _ (fun k q => ?_) q) q) q
    by_cases z : k = true
    · rw [if_pos z] at q ⊢
      refine hc.mono _ _ _ _ (fun z q => hr'.mono _ _ _ _ (fun k2 q => ?_) q) q
      by_cases z2 : k2 = true
      · rw [if_pos z2] at q ⊢
        exact he.mono _ _ _ _ (fun v q => hr2.mono _ _ _ _ (fun k3 q => h _ q) q) q
      · rw [if_neg z2] at q ⊢
        exact h _ q
    · rw [if_neg z] at q ⊢
      exact h _ q
/-! ### the least of a row of data -/
def rMinD (K : PySem.W.Frag) : List V → Hp → VK → Prop := fun vs H Q => ∃ (a : Addr) (ws : List V) (x : D) (xs : List D), vs = [.ref a] ∧ (SqL K H a ws ∨ SqT K H a ws) ∧ DpAll K H ws (x :: xs) ∧ PySem.W.AlikeAll (x :: xs) ∧ PyData.depthAll (x :: xs) ≤ 60 ∧
  ∀ (i : Nat) (w : V), ws[i]? = some w → (x :: xs)[i]? = some (PySem.W.minD x xs) → Q w H
theorem at_of_reads {h h' : Heap} {vs : List Value} {xs : List D} {as bs : List Addr} {i : Nat} {v : Value} {d : D} (hr : ReadsAll h vs xs as) (hk : ∀ b o, h.get? b = some o → h'.get? b = some o) (hv : vs[i]? = some v) (rd : Reads h' v d bs) : xs[i]? = some d := by
  obtain ⟨cs, r1, hi, _, _⟩ := PySem.W.readsAll_at hr i v hv
  have := (PyProof.Rows.reads_det (fun b o e _ => hk b o e) r1 rd).1
  rw [List.getElem?_eq_getElem hi]
  rw [List.getD_eq_getElem?_getD, List.getElem?_eq_getElem hi] at this
  exact congrArg _ this.symm
theorem cr_minD (hc : X.calm = true) (hu : X.A.units + 64 < cLine) : CallR X (.builtin "min") (rMinD X.K) := by
  intro pins s σ H vs us Q I r h
  obtain ⟨a, ws, x, xs, rfl, hs, hd, ha, hdep, q⟩ := h
  rw [Vals.ref1 r]
  rcases hs with hs | hs
  · obtain ⟨its, rv, hl, _⟩ := I.list hs
    obtain ⟨as, hra⟩ := Dp.readsAll I _ _ _ hd rv
    refine PySem.W.min_list_data (I.ok.hd hc) hl.isList (x := x) (xs := xs) (as := as) (by simpa using hra) ha (by omega) fun i v h' tk bs hv rd hk => ?_
    have hv' : its[i]? = some v := by simpa using hv
    have hx := at_of_reads hra hk hv' rd
    have hi : i < ws.length := by
      have := (List.getElem?_eq_some_iff.mp hv').1
      have := rv.length
      omega
    obtain ⟨u, hu', ru⟩ := rv.get (i := i) (x := ws[i]) (List.getElem?_eq_getElem hi)
    rw [hv'] at hu'
    cases hu'
    exact ⟨ws[i], H, I.kept hk, ru, q i _ (List.getElem?_eq_getElem hi) hx⟩
  · obtain ⟨its, rv, hl, _⟩ := I.tuple hs
    obtain ⟨as, hra⟩ := Dp.readsAll I _ _ _ hd rv
    refine PySem.W.min_tuple_data (I.ok.hd hc) hl (x := x) (xs := xs) (as := as) (by simpa using hra) ha (by omega) fun i v h' tk bs hv rd hk => ?_
    have hv' : its[i]? = some v := by simpa using hv
    have hx := at_of_reads hra hk hv' rd
    have hi : i < ws.length := by
      have := (List.getElem?_eq_some_iff.mp hv').1
      have := rv.length
      omega
    obtain ⟨u, hu', ru⟩ := rv.get (i := i) (x := ws[i]) (List.getElem?_eq_getElem hi)
    rw [hv'] at hu'
    cases hu'
    exact ⟨ws[i], H, I.kept hk, ru, q i _ (List.getElem?_eq_getElem hi) hx⟩
def aMinRow : F1 := fun d Q => ∃ x xs, seqD d = some (x :: xs) ∧ PySem.W.AlikeAll (x :: xs) ∧ PyData.depthAll (x :: xs) ≤ 60 ∧ PyData.canLayAll0 (x :: xs) = true ∧ Q (PySem.W.minD x xs)
theorem n_minD : OpN p (f1 aMinRow) (rMinD p.K) := by
  refine op1 (fun d Q Q' h ⟨x, xs, a, b, c, e, q⟩ => ⟨x, xs, a, b, c, e, h _ q⟩) fun O H y d Q ok r ⟨x, xs, e, ha, hdep, hl, q⟩ => ?_
  cases d with
  | list ds =>
    cases e
    obtain ⟨l, vs, rfl, _, h1, r1⟩ := r.list
    refine ⟨l, vs, x, xs, rfl, .inl (.of h1), dps_of _ _ hl r1, ha, hdep, fun i w hw hx hk => ?_⟩
    obtain ⟨d, hd, rw'⟩ := r1.get' hw
    rw [hx] at hd
    cases hd
    exact RE.now q ok rw'
  | tuple ds =>
    cases e
    obtain ⟨l, vs, rfl, h1, r1⟩ := r.tuple
    refine ⟨l, vs, x, xs, rfl, .inr h1, dps_of _ _ hl r1, ha, hdep, fun i w hw hx hk => ?_⟩
    obtain ⟨d, hd, rw'⟩ := r1.get' hw
    rw [hx] at hd
    cases hd
    exact RE.now q ok rw'
  | _ => cases e
end
section
variable {ρ : Env'} {Qb : Bool → Prop} {EX : EXn} {g g' g2 : G2} {a b c e : WE}
@[simp ↓] theorem ev_Chain3 : wChain3 g g' g2 a b c e ρ Qb EX = a ρ (fun x => b ρ (fun y => g x y fun k => if k = true then c ρ (fun z => g' y z fun k2 => if k2 = true then e ρ (fun v => g2 z v Qb) EX else Qb false) EX else Qb false) EX) EX := rfl
end
end DD
set_option maxRecDepth 100000
set_option maxHeartbeats 4000000
/-! SemZ: a module's constant that is a tuple of numbers. -/
namespace DD
open PySem PySem.Spec PyProof.Rows L2
def GlobT (K : PySem.W.Frag) (mg : Str → Option Value) (x : Str) (ns : List Int) : Prop :=
  ∃ (a : Addr) (o : Obj) (its : Array Value) (n : Nat), mg x = some (.ref a) ∧ K.lookup a = some o ∧ o.cls = .type "tuple" ∧ o.data = .seq its n ∧ its.size ≤ sizeLine ∧ Vals (ns.map V.int) its.toList
theorem globT_mk {K : PySem.W.Frag} {mg : Str → Option Value} {x : Str} {ns : List Int} {a : Addr} {oc : Value} {od : Option Addr} {its : Array Value} {n : Nat} {sl : Array (Option Value)} (h : mg x = some (.ref a)) (l : K.lookup a = some ⟨oc, od, .seq its n, sl⟩) (hc : oc = .type "tuple") (hs : its.size ≤ 100) (hv : Vals (ns.map V.int) its.toList) : GlobT K mg x ns :=
  ⟨a, _, its, n, h, l, hc, rfl, by rw [PySem.sizeLine_eq]; omega, hv⟩
section
variable {X : Cx} {p : Par} {pos : Pos}
theorem de_globT {x : Str} {ns : List Int} {K : PySem.W.Frag} (hK : X.K = K) (hm : GlobT K X.mg x ns) (hg : Gl X x := by rfl) (hd : (x == ("__debug__" : Str)) = false := by decide) : DE p X (.Name x pos) (wC (.tuple (ns.map PyData.int))) := by
  obtain ⟨a, o, its, n, hm, h1, h2, h3, h4, h5⟩ := hm
  subst hK
  exact ⟨pe_use (pe_glob (v := .ref a) hg hm rfl hd) fun σ H Q hk ⟨ρ, O, EX, R, ex, hw⟩ => fun hk' => hw (.ref a) H hk' (Ext.refl R.wd) (rep_tuple (.inr ⟨o, its, n, h1, h2, h3, h4, h5⟩) (RepAll.ints ns)), mono_C⟩
end
end DD
set_option maxRecDepth 100000
set_option maxHeartbeats 8000000
/-! BasB: what the laws share: plain values, drawings, refusals heard. -/
namespace DD
open PySem PySem.Spec PyProof.Rows L2 GenW
abbrev _law_alike_s : FD := alikeS 12
theorem plain_list {n : Nat} {xs : List D} (hl : xs.length ≤ sizeLine) (h : ∀ x ∈ xs, plainD n x = true) : plainD (n + 1) (.list xs) = true := by
  unfold plainD
  rw [List.all_eq_true.mpr h, decide_eq_true hl]
  rfl
theorem plain_tuple {n : Nat} {xs : List D} (hl : xs.length ≤ sizeLine) (h : ∀ x ∈ xs, plainD n x = true) : plainD (n + 1) (.tuple xs) = true := by
  unfold plainD
  rw [List.all_eq_true.mpr h, decide_eq_true hl]
  rfl
theorem plain_int {n : Nat} {i : Int} : plainD n (.int i) = true := by cases n <;> rfl
theorem plain_bool {n : Nat} {i : Bool} : plainD n (.bool i) = true := by cases n <;> rfl
theorem plain_none {n : Nat} : plainD n .none = true := by cases n <;> rfl
theorem plain_str {n : Nat} {x : Str} (h : SeqAt.shaped (.str x) = true) : plainD n (.str x) = true := by cases n <;> exact h
theorem plain_ints {n : Nat} {ns : List Int} : ∀ x ∈ ns.map PyData.int, plainD n x = true := fun x hx => by
  obtain ⟨i, _, rfl⟩ := List.mem_map.mp hx
  exact plain_int
theorem plain_bad {n : Nat} {x : Str} (h : SeqAt.shaped (.str x) = true) : plainD (n + 1) (.tuple [.str "bad", .str x, .bool true]) = true := by
  refine plain_tuple (by rw [sizeLine_eq]; simp) fun y hy => ?_
  simp only [List.mem_cons, List.not_mem_nil, or_false] at hy
  rcases hy with rfl | rfl | rfl
  · exact plain_str (by decide +kernel)
  · exact plain_str h
  · exact plain_bool
theorem alike_use {d : D} {Q : D → Prop} {EX : EXn} (h : plainD 12 d = true) (q : Q (.bool true)) : alikeS 12 [.d d, .d d] Q EX := ⟨d, rfl, h, q⟩
/-- a call that raises an error of a name -/
theorem heard_bad {f : FD} {ws : List W} {n : Str} {Q : D → Prop} (h : ∀ Q', f ws Q' (heardX fun d => d = .tuple [.str "bad", .str n, .bool true])) (q : Q (.tuple [.str "bad", .str n, .bool true])) : ∃ Q0 : D → Prop, (∀ d, Q0 d → Q d) ∧ f ws (fun _ => Q0 (.tuple [])) (heardX Q0) :=
  ⟨fun d => d = .tuple [.str "bad", .str n, .bool true], fun d e => by rw [e]; exact q, h _⟩
theorem pick_use {xs : List D} {Q : D → Prop} {EX : EXn} (h0 : 0 < xs.length) (h1 : xs.length < 2 ^ 60) (q : ∀ x ∈ xs, Q x) : _law_pick_s [.row, .d (.list xs)] Q EX := ⟨_, xs, rfl, rfl, h0, h1, q⟩
theorem taken_use {n : Int} {Q : D → Prop} {EX : EXn} (h0 : 0 < n) (h1 : n < 2 ^ 64) (q : ∀ r : Int, 0 ≤ r → r < n → Q (.int r)) : _law_taken_s [.row, .d (.int n)] Q EX := ⟨n, rfl, h0, h1, q⟩
theorem plain_pair {n : Nat} {a b : Int} : plainD (n + 1) (.tuple [.int a, .int b]) = true :=
  plain_tuple (by rw [sizeLine_eq]; simp) fun y hy => by
    simp only [List.mem_cons, List.not_mem_nil, or_false] at hy
    rcases hy with rfl | rfl <;> exact plain_int
theorem zip_int {α β : Type} (f : α → β → Int) : ∀ (xs : List α) (ys : List β), (xs.zip ys).map (fun p => PyData.int (f p.1 p.2)) = (List.zipWith f xs ys).map .int
  | [], ys => by cases ys <;> rfl
  | x :: xs, [] => rfl
  | x :: xs, y :: ys => by rw [List.zip_cons_cons, List.map_cons, List.zipWith_cons_cons, List.map_cons, zip_int f xs ys]
theorem ints_get {xs : List Int} {j : Nat} {x : Int} (h : xs[j]? = some x) : (xs.map PyData.int)[j]? = some (.int x) := by rw [List.getElem?_map, h]; rfl
theorem range_ints {k : Nat} {p : Nat → Bool} : ((List.range k).filter p).map (fun j => PyData.int ((j : Nat) : Int)) = (((List.range k).filter p).map (fun j : Nat => (j : Int))).map .int := by rw [List.map_map]; rfl
/-- all calls of a row raise the same -/
theorem alike_bads {xs : List D} {x : Str} {Q : D → Prop} {EX : EXn} (hx : SeqAt.shaped (.str x) = true) (hl : xs.length ≤ sizeLine) (h : ∀ y ∈ xs, y = .tuple [.str "bad", .str x, .bool true]) (q : Q (.bool true)) : alikeS 12 [.d (.list xs), .d (.list xs)] Q EX :=
  alike_use (plain_list hl fun y hy => by rw [h y hy]; exact plain_bad hx) q
def intsT (ns : List Int) : D := .tuple (ns.map .int)
def rdI : D → Int
  | .int i => i
  | _ => 0
def rdL : D → List Int
  | .tuple xs => xs.map rdI
  | _ => []
theorem rdI_ints : ∀ ns : List Int, (ns.map PyData.int).map rdI = ns
  | [] => rfl
  | n :: ns => by rw [List.map_cons, List.map_cons, rdI_ints ns]; rfl
theorem rdL_ints {ns : List Int} : rdL (intsT ns) = ns := rdI_ints ns
theorem intsT_get {xs : List Int} {j : Nat} {x : Int} {Q : D → Prop} (h : xs[j]? = some x) (q : Q (.int x)) : aIx (intsT xs) (.int (j : Int)) Q := ⟨_, atD_nat (ints_get h), q⟩
theorem cut_to {α : Type} (xs : List α) (j : Nat) : cutD xs none (some (j : Int)) = xs.take j := by
  unfold cutD
  rw [HT.sIx_none, HT.sIx_nat, List.drop_zero, Nat.sub_zero]
  by_cases h : j ≤ xs.length
  · rw [Nat.min_eq_left h]
  · rw [Nat.min_eq_right (by omega), List.take_of_length_le (Nat.le_refl _), List.take_of_length_le (by omega)]
theorem cut_from {α : Type} (xs : List α) (j : Nat) : cutD xs (some (j : Int)) none = xs.drop j := by
  unfold cutD
  rw [HT.sIx_none, HT.sIx_nat]
  by_cases h : j ≤ xs.length
  · rw [Nat.min_eq_left h]
    exact List.take_of_length_le (by simp)
  · rw [Nat.min_eq_right (by omega), List.drop_of_length_le (Nat.le_refl _), List.drop_of_length_le (by omega)]
    simp
theorem enumD_range {n : Nat} (h : Nat → D) : enumD ((List.range n).map h) = (List.range n).map (fun i => .tuple [.int ((i : Nat) : Int), h i]) := by
  unfold enumD
  rw [List.length_map, List.length_range]
  refine List.map_congr_left fun i hi => ?_
  rw [List.mem_range] at hi
  rw [List.getD_eq_getElem?_getD, List.getElem?_map, List.getElem?_range hi]
  rfl
theorem cmul_small {i j : Int} (h : -(2 ^ 60) ≤ i) (h' : i ≤ 2 ^ 60) : CMul i j := Or.inl ⟨by omega, by omega⟩
@[simp ↓] theorem ev_cutT {lo hi : Option Int} {xs : List D} {Q : D → Prop} : aCut lo hi (.tuple xs) Q = Q (.tuple (cutD xs lo hi)) := rfl
@[simp ↓] theorem ev_cutL {lo hi : Option Int} {xs : List D} {Q : D → Prop} : aCut lo hi (.list xs) Q = Q (.list (cutD xs lo hi)) := rfl
theorem cut_len {α : Type} {xs : List α} {lo hi : Option Int} : (cutD xs lo hi).length ≤ xs.length := by
  unfold cutD
  rw [List.length_take, List.length_drop]
  omega
theorem cut_mem {α : Type} {xs : List α} {lo hi : Option Int} {x : α} (h : x ∈ cutD xs lo hi) : x ∈ xs := List.mem_of_mem_drop (List.mem_of_mem_take h)
theorem ints_of {lo hi : Int} : ∀ {ys : List D}, (∀ y ∈ ys, ∃ l : Int, y = .int l ∧ lo ≤ l ∧ l ≤ hi) → ∃ ls : List Int, ys = ls.map .int ∧ ∀ l ∈ ls, lo ≤ l ∧ l ≤ hi
  | [], _ => ⟨[], rfl, fun l h => (List.not_mem_nil h).elim⟩
  | y :: ys, h => by
    obtain ⟨l, rfl, h1⟩ := h y List.mem_cons_self
    obtain ⟨ls, rfl, h2⟩ := ints_of fun z hz => h z (List.mem_cons_of_mem _ hz)
    exact ⟨l :: ls, rfl, fun x hx => by
      rcases List.mem_cons.mp hx with rfl | hx
      · exact h1
      · exact h2 x hx⟩
theorem maxI_rng {lo hi : Int} : ∀ (ls : List Int) (m : Int), lo ≤ m → m ≤ hi → (∀ l ∈ ls, l ≤ hi) → lo ≤ maxI m ls ∧ maxI m ls ≤ hi
  | [], m, h1, h2, _ => ⟨h1, h2⟩
  | l :: ls, m, h1, h2, h => by
    have := h l List.mem_cons_self
    exact maxI_rng ls (max m l) (by omega) (by omega) fun x hx => h x (List.mem_cons_of_mem _ hx)
theorem zip_range (f : Int → Int → Int) {n : Nat} {xs ys : List Int} (hx : xs.length = n) (hy : ys.length = n) : (List.range n).map (fun k => f (xs.getD k 0) (ys.getD k 0)) = List.zipWith f xs ys := by
  apply List.ext_getElem?
  intro i
  rw [List.getElem?_zipWith]
  by_cases h : i < n
  · rw [List.getElem?_map, List.getElem?_range h, List.getElem?_eq_getElem (by omega), List.getElem?_eq_getElem (by omega)]
    simp only [Option.map_some]
    rw [List.getD_eq_getElem?_getD, List.getD_eq_getElem?_getD, List.getElem?_eq_getElem (by omega), List.getElem?_eq_getElem (by omega)]
    rfl
  · rw [List.getElem?_eq_none (by simp; omega), List.getElem?_eq_none (by omega)]
section
variable {ρ : Env'} {EX : EXn} {α : Type}
theorem tup_evalM {g : WG} {we : WE} {h : α → D} {Q : D → Prop} (f : α → D) : ∀ {xs : List α} {acc : List D} (hh : ∀ x ∈ xs, ∀ R : D → Prop, R (f x) → g (h x) ρ fun ρ2 => we ρ2 R noX) (hl : acc.length + xs.length ≤ sizeLine) (q : Q (.tuple (acc ++ xs.map f))), wFold g wYes we (cTup Q) (fun ys => ys.length ≤ sizeLine ∧ Q (.tuple ys)) ρ (xs.map h) acc
  | [], acc, hh, hl, q => by
    have q : Q (.tuple (acc ++ [])) := q
    rw [List.append_nil] at q
    exact ⟨by simpa using hl, q⟩
  | d :: ds, acc, hh, hl, q => by
    rw [List.length_cons] at hl
    have := hh d List.mem_cons_self (fun y => cTup Q acc y (fun ys => wFold g wYes we (cTup Q) (fun ys => ys.length ≤ sizeLine ∧ Q (.tuple ys)) ρ (ds.map h) ys)) (by
      refine ⟨by omega, tup_evalM f (fun x m => hh x (List.mem_cons_of_mem _ m)) (by rw [List.length_append, List.length_singleton]; omega) ?_⟩
      rw [List.append_assoc]
      exact q)
    rw [List.map_cons]
    unfold wFold
    simpa using this
end
section
variable {ρ : Env'} {EX : EXn} {α β : Type}
/-- a comprehension whose test is drawn: any part of the row comes -/
theorem comp_sub {g : WG} {t : WT} {we : WE} {h : α → D} (f : α → D) : ∀ {xs : List α} {acc : List D} {Q : D → Prop} (hh : ∀ x ∈ xs, ∀ R : Option D → Prop, R (some (f x)) → R none → g (h x) ρ fun ρ2 => t ρ2 (fun k => if k = true then we ρ2 (fun y => R (some y)) noX else R none) noX)
    (hl : acc.length + xs.length ≤ sizeLine) (q : ∀ ys : List α, ys.Sublist xs → Q (.list (acc ++ ys.map f))), wComp g t we ρ (xs.map h) acc Q
  | [], acc, Q, hh, hl, q => by
    have q := q [] (List.Sublist.refl _)
    have q : Q (.list (acc ++ [])) := q
    rw [List.append_nil] at q
    exact q
  | d :: ds, acc, Q, hh, hl, q => by
    rw [List.length_cons] at hl
    exact hh d List.mem_cons_self (fun o => match o with | some y => acc.length < sizeLine ∧ wComp g t we ρ (ds.map h) (acc ++ [y]) Q | none => wComp g t we ρ (ds.map h) acc Q)
      ⟨by omega, comp_sub f (fun x m => hh x (List.mem_cons_of_mem _ m)) (by rw [List.length_append, List.length_singleton]; omega) fun ys hys => by
        have := q (d :: ys) (List.Sublist.cons₂ d hys)
        rw [List.append_assoc]
        exact this⟩
      (comp_sub f (fun x m => hh x (List.mem_cons_of_mem _ m)) (by omega) fun ys hys => q ys (List.Sublist.cons d hys))
theorem cut_map {f : α → β} {xs : List α} {lo hi : Option Int} : cutD (xs.map f) lo hi = (cutD xs lo hi).map f := by
  unfold cutD
  rw [List.length_map, List.map_take, List.map_drop]
end
end DD
set_option maxRecDepth 100000
set_option maxHeartbeats 8000000
namespace DD
open PySem PySem.Spec PyProof.Rows L2 GenW
/-! ### numbers -/
def isNum (d : D) (lo hi : Int) : Bool := match d with
  | .int i => decide (lo ≤ i) && decide (i ≤ hi)
  | _ => false
theorem isNum_int {d : D} {lo hi : Int} (h : isNum d lo hi = true) : ∃ i, d = .int i ∧ lo ≤ i ∧ i ≤ hi := by
  cases d with
  | int i => simp [isNum] at h; exact ⟨i, rfl, h⟩
  | _ => simp [isNum] at h
def is_number_w : WS := wRet (wAndV (wIsi "int" (wVar 0)) (wAndV (wNotV (wIsi "bool" (wVar 0))) (wChainE gLe gLe (wVar 1) (wVar 0) (wVar 2))))
def is_number_s : FD := fun ws Q EX => ∃ (d : D) (lo hi : Int), ws = [.d d, .d (.int lo), .d (.int hi)] ∧ Q (.bool (isNum d lo hi))
theorem mono_is_number : MonoF is_number_s := fun ws Q Q' EX h ⟨d, lo, hi, e, q⟩ => ⟨d, lo, hi, e, h _ q⟩
theorem meets_is_number (ws : List W) (Q : D → Prop) (EX : EXn) (h : is_number_s ws Q EX) : mkF 3 3 is_number_w ws Q EX := by
  obtain ⟨d, lo, hi, rfl, q⟩ := h
  refine ⟨rfl, ?_⟩
  cases d with
  | int i =>
    by_cases z : lo ≤ i
    · simpa [is_number_w, isTy, tyD, isNum, z] using q
    · simpa [is_number_w, isTy, tyD, isNum, z] using q
  | _ => simpa [is_number_w, isTy, tyD, isNum] using q
def areNums (d : D) (n lo hi : Int) : Bool := match d with
  | .tuple xs => decide ((xs.length : Int) = n) && xs.all (fun x => isNum x lo hi)
  | _ => false
def are_numbers_w : WS := wRet (wAndV (wIsi "tuple" (wVar 0)) (wAndV (wCmp2 gEq (wOpN (f1 aLen) (waCons (wVar 0) waNil)) (wVar 1)) (wAllG (wiSeq (wVar 0)) (wgName 4) wYes (wCall is_number_s (wwCons (wVar 4) (wwCons (wVar 2) (wwCons (wVar 3) wwNil)))) [4])))
def are_numbers_s : FD := fun ws Q EX => ∃ (d : D) (n lo hi : Int), ws = [.d d, .d (.int n), .d (.int lo), .d (.int hi)] ∧ Q (.bool (areNums d n lo hi))
theorem mono_are_numbers : MonoF are_numbers_s := fun ws Q Q' EX h ⟨d, n, lo, hi, e, q⟩ => ⟨d, n, lo, hi, e, h _ q⟩
theorem meets_are_numbers (ws : List W) (Q : D → Prop) (EX : EXn) (h : are_numbers_s ws Q EX) : mkF 4 5 are_numbers_w ws Q EX := by
  obtain ⟨d, n, lo, hi, rfl, q⟩ := h
  refine ⟨rfl, ?_⟩
  cases d with
  | tuple xs =>
    by_cases z : (xs.length : Int) = n
    · simp [are_numbers_w, isTy, tyD, z]
      refine ⟨xs, rfl, all_eval (fun x => isNum x lo hi) (fun x _ R r => ?_) ?_⟩
      · simp
        exact ⟨x, lo, hi, rfl, r⟩
      · simpa [areNums, z] using q
    · simpa [are_numbers_w, isTy, tyD, areNums, z] using q
  | _ => simpa [are_numbers_w, isTy, tyD, areNums] using q
theorem areNums2 {d : D} {lo hi : Int} (h : areNums d 2 lo hi = true) : ∃ a b, d = .tuple [.int a, .int b] ∧ lo ≤ a ∧ a ≤ hi ∧ lo ≤ b ∧ b ≤ hi := by
  cases d with
  | tuple xs =>
    simp only [areNums, Bool.and_eq_true, decide_eq_true_eq, List.all_eq_true] at h
    obtain ⟨h1, h2⟩ := h
    match xs, h1, h2 with
    | [x, y], _, h2 =>
      obtain ⟨a, rfl, h3⟩ := isNum_int (h2 x (by simp))
      obtain ⟨b, rfl, h4⟩ := isNum_int (h2 y (by simp))
      exact ⟨a, b, rfl, h3.1, h3.2, h4.1, h4.2⟩
    | [], h1, _ => simp at h1
    | [x], h1, _ => simp at h1
    | x :: y :: z :: r, h1, _ => simp at h1; omega
  | _ => simp [areNums] at h
theorem check_use {b : Bool} {n : Str} {Q : D → Prop} {EX : EXn} (hn : n.length ≤ 1000) (h1 : b = true → Q .none) (h2 : b = false → EX (.bad n)) : check_s [.d (.bool b), .d (.str n)] Q EX := ⟨b, n, rfl, hn, h1, h2⟩
theorem nums_read {xs : List D} {lo hi : Int} (h : xs.all (fun x => isNum x lo hi) = true) : (xs.map rdI).map .int = xs ∧ ∀ i ∈ xs.map rdI, lo ≤ i ∧ i ≤ hi := by
  induction xs with
  | nil => exact ⟨rfl, fun i h => (List.not_mem_nil h).elim⟩
  | cons x xs ih =>
    rw [List.all_cons, Bool.and_eq_true] at h
    obtain ⟨i, rfl, h1⟩ := isNum_int h.1
    have ih := ih h.2
    refine ⟨by rw [List.map_cons, List.map_cons, ih.1]; rfl, fun j hj => ?_⟩
    rw [List.map_cons] at hj
    rcases List.mem_cons.mp hj with rfl | hj
    · exact h1
    · exact ih.2 j hj
theorem areNums_read {d : D} {n lo hi : Int} (h : areNums d n lo hi = true) : ∃ ns : List Int, d = intsT ns ∧ (ns.length : Int) = n ∧ ∀ i ∈ ns, lo ≤ i ∧ i ≤ hi := by
  cases d with
  | tuple xs =>
    simp only [areNums, Bool.and_eq_true, decide_eq_true_eq] at h
    obtain ⟨h1, h2⟩ := nums_read h.2
    exact ⟨xs.map rdI, by unfold intsT; rw [h1], by rw [List.length_map]; exact h.1, h2⟩
  | _ => simp [areNums] at h
theorem areNums_ints {ns : List Int} {n lo hi : Int} (h1 : (ns.length : Int) = n) (h2 : ∀ i ∈ ns, lo ≤ i ∧ i ≤ hi) : areNums (intsT ns) n lo hi = true := by
  simp only [intsT, areNums, Bool.and_eq_true, decide_eq_true_eq, List.length_map]
  refine ⟨h1, ?_⟩
  rw [List.all_map, List.all_eq_true]
  intro i hm
  show (decide (lo ≤ i) && decide (i ≤ hi)) = true
  rw [decide_eq_true (h2 i hm).1, decide_eq_true (h2 i hm).2]
  rfl
end DD
set_option maxRecDepth 100000
set_option maxHeartbeats 8000000
/-! BasD: more that the laws share: sums under a test, rows by their places. -/
namespace DD
open PySem PySem.Spec PyProof.Rows L2 GenW
section
variable {ρ : Env'} {EX : EXn} {α β : Type}
/-- a sum over what passes a test: f gives 0 where the test fails -/
theorem sum_filtM {g : WG} {t : WT} {we : WE} {h : α → D} (f : α → Int) {Q : D → Prop} : ∀ {xs : List α} {a : Int} (hh : ∀ x ∈ xs, ∀ R : Int → Prop, R (f x) → g (h x) ρ fun ρ2 => t ρ2 (fun k => if k = true then we ρ2 (fun y => ∃ j, y = .int j ∧ R j) noX else R 0) noX) (q : Q (.int (a + (xs.map f).sum))), wFold g t we (cSum Q) (fun i => Q (.int i)) ρ (xs.map h) a
  | [], a, hh, q => by
    have q : Q (.int (a + 0)) := q
    rw [Int.add_zero] at q
    exact q
  | d :: ds, a, hh, q => by
    have := hh d List.mem_cons_self (fun j => wFold g t we (cSum Q) (fun i => Q (.int i)) ρ (ds.map h) (a + j)) (by
      refine sum_filtM f (fun x m => hh x (List.mem_cons_of_mem _ m)) ?_
      rw [List.map_cons, List.sum_cons, ← Int.add_assoc] at q
      exact q)
    rw [Int.add_zero] at this
    rw [List.map_cons]
    unfold wFold
    exact this
end
theorem map_range {α β : Type} (f : α → β) (x0 : α) (xs : List α) : xs.map f = (List.range xs.length).map fun i => f (xs.getD i x0) := by
  apply List.ext_getElem?
  intro i
  by_cases h : i < xs.length
  · rw [List.getElem?_map, List.getElem?_map, List.getElem?_range h, List.getElem?_eq_getElem h]
    simp only [Option.map_some]
    rw [List.getD_eq_getElem?_getD, List.getElem?_eq_getElem h]
    rfl
  · rw [List.getElem?_eq_none (by simp; omega), List.getElem?_eq_none (by simp; omega)]
theorem range_set {β : Type} (f : Nat → β) {n j : Nat} (v : β) : ((List.range n).map f).set j v = (List.range n).map fun k => if k = j then v else f k := by
  apply List.ext_getElem?
  intro i
  rw [List.getElem?_set]
  by_cases h : i < n
  · by_cases c : j = i
    · subst c
      simp [h]
    · have c' : ¬ i = j := fun z => c z.symm
      simp [h, c, c']
  · have h' : ¬ i < n := h
    by_cases c : j = i
    · subst c
      simp [h]
    · simp [h, c]
theorem range_get {n i x : Nat} (h : (List.range n)[i]? = some x) : x = i ∧ i < n := by
  have hi : i < n := by have := (List.getElem?_eq_some_iff.mp h).1; simpa using this
  rw [List.getElem?_range hi] at h
  exact ⟨by cases h; rfl, hi⟩
theorem range_at {β : Type} {f : Nat → β} {n i : Nat} (h : i < n) : ((List.range n).map f)[i]? = some (f i) := by
  rw [List.getElem?_map, List.getElem?_range h]; rfl
theorem getD_at {xs : List Int} {i : Nat} (h : i < xs.length) : xs[i]? = some (xs.getD i 0) := by
  rw [List.getD_eq_getElem?_getD, List.getElem?_eq_getElem h]; rfl
theorem cmul_right {i j : Int} (h : -(2 ^ 60) ≤ j) (h' : j ≤ 2 ^ 60) : CMul i j := Or.inr ⟨by omega, by omega⟩
theorem cut_nat {α : Type} (xs : List α) {j : Int} (h : 0 ≤ j) : cutD xs none (some j) = xs.take j.toNat := by
  obtain ⟨n, rfl⟩ := Int.eq_ofNat_of_zero_le h
  exact cut_to xs n
theorem cut_natF {α : Type} (xs : List α) {j : Int} (h : 0 ≤ j) : cutD xs (some j) none = xs.drop j.toNat := by
  obtain ⟨n, rfl⟩ := Int.eq_ofNat_of_zero_le h
  exact cut_from xs n
theorem take_ints {xs : List Int} {n : Nat} : (xs.map PyData.int).take n = (xs.take n).map .int := by rw [List.map_take]
theorem drop_ints {xs : List Int} {n : Nat} : (xs.map PyData.int).drop n = (xs.drop n).map .int := by rw [List.map_drop]
end DD
set_option maxRecDepth 100000
set_option maxHeartbeats 2000000
/-! K19M: shares of a road's costs, in plain Lean. -/
namespace K19
open DD
abbrev N0 : Int := 27720
/-! ### sums -/
section
variable {α β : Type}
theorem sum_zero (xs : List α) : (xs.map fun _ => (0 : Int)).sum = 0 := by
  induction xs with
  | nil => rfl
  | cons x xs ih => rw [List.map_cons, List.sum_cons, ih]; rfl
theorem sum_add (f g : α → Int) : ∀ xs : List α, (xs.map fun x => f x + g x).sum = (xs.map f).sum + (xs.map g).sum
  | [] => rfl
  | x :: xs => by rw [List.map_cons, List.map_cons, List.map_cons, List.sum_cons, List.sum_cons, List.sum_cons, sum_add f g xs]; omega
theorem sum_mulr (c : Int) (f : α → Int) : ∀ xs : List α, (xs.map fun x => f x * c).sum = (xs.map f).sum * c
  | [] => by simp
  | x :: xs => by rw [List.map_cons, List.map_cons, List.sum_cons, List.sum_cons, sum_mulr c f xs, Int.add_mul]
theorem sum_mull (c : Int) (f : α → Int) (xs : List α) : (xs.map fun x => c * f x).sum = c * (xs.map f).sum := by
  rw [Int.mul_comm, ← sum_mulr]
  exact congrArg List.sum (List.map_congr_left fun x _ => Int.mul_comm _ _)
theorem sum_swap (f : α → β → Int) (ys : List β) : ∀ xs : List α, (xs.map fun x => (ys.map fun y => f x y).sum).sum = (ys.map fun y => (xs.map fun x => f x y).sum).sum
  | [] => by simp [sum_zero]
  | x :: xs => by
    rw [List.map_cons, List.sum_cons, sum_swap f ys xs, ← sum_add]
    exact congrArg List.sum (List.map_congr_left fun y _ => by rw [List.map_cons, List.sum_cons])
theorem sum_le (f g : α → Int) : ∀ xs : List α, (∀ x ∈ xs, f x ≤ g x) → (xs.map f).sum ≤ (xs.map g).sum
  | [], _ => Int.le_refl _
  | x :: xs, h => by
    rw [List.map_cons, List.map_cons, List.sum_cons, List.sum_cons]
    have := h x List.mem_cons_self
    have := sum_le f g xs fun y hy => h y (List.mem_cons_of_mem _ hy)
    omega
theorem sum_congr {f g : α → Int} {xs : List α} (h : ∀ x ∈ xs, f x = g x) : (xs.map f).sum = (xs.map g).sum := congrArg List.sum (List.map_congr_left h)
theorem sum_nonneg (f : α → Int) (xs : List α) (h : ∀ x ∈ xs, 0 ≤ f x) : 0 ≤ (xs.map f).sum := by
  have := sum_le (fun _ => 0) f xs h
  rw [sum_zero] at this
  exact this
theorem sum_filter (p : α → Bool) (f : α → Int) : ∀ xs : List α, ((xs.filter p).map f).sum = (xs.map fun x => if p x = true then f x else 0).sum
  | [] => rfl
  | x :: xs => by
    rw [List.map_cons, List.sum_cons, ← sum_filter p f xs]
    by_cases h : p x = true
    · rw [List.filter_cons_of_pos h, if_pos h, List.map_cons, List.sum_cons]
    · rw [List.filter_cons_of_neg h, if_neg h]; omega
theorem len_sum (p : α → Bool) : ∀ xs : List α, ((xs.filter p).length : Int) = (xs.map fun x => if p x = true then (1 : Int) else 0).sum := fun xs => by
  rw [← sum_filter p (fun _ => 1) xs]
  induction xs.filter p with
  | nil => rfl
  | cons x xs ih => rw [List.length_cons, List.map_cons, List.sum_cons, ← ih]; omega
end
/-- the first m of cs, as a sum over all -/
theorem take_ind {cs : List Int} {m : Int} : ∀ i : Nat, i ≤ cs.length → ((List.range i).map fun j : Nat => if (j : Int) < m then cs.getD j 0 else 0).sum = (cs.take (min i m.toNat)).sum
  | 0, _ => by rw [show min 0 m.toNat = 0 by omega]; rfl
  | i + 1, h => by
    rw [List.range_succ, List.map_append, List.sum_append, take_ind i (by omega)]
    simp only [List.map_cons, List.map_nil, List.sum_cons, List.sum_nil]
    by_cases c : (i : Int) < m
    · rw [if_pos c, show min (i + 1) m.toNat = i + 1 by omega, show min i m.toNat = i by omega, List.take_succ, List.sum_append, List.getD_eq_getElem?_getD]
      rw [List.getElem?_eq_getElem (by omega : i < cs.length)]
      simp
    · rw [if_neg c, show min (i + 1) m.toNat = min i m.toNat by omega]; omega
/-- what a set that goes as far as m costs -/
def cost (cs : List Int) (ss : List Int) : Int := (cs.take (maxI 0 ss).toNat).sum
theorem maxI_ge : ∀ (ss : List Int) (m : Int), m ≤ maxI m ss
  | [], m => Int.le_refl _
  | s :: ss, m => by have := maxI_ge ss (max m s); show m ≤ maxI (max m s) ss; omega
theorem maxI_mem : ∀ (ss : List Int) (m s : Int), s ∈ ss → s ≤ maxI m ss
  | t :: ss, m, s, h => by
    show s ≤ maxI (max m t) ss
    rcases List.mem_cons.mp h with rfl | h
    · have := maxI_ge ss (max m s); omega
    · exact maxI_mem ss _ s h
theorem maxI_le : ∀ (ss : List Int) (m b : Int), m ≤ b → (∀ s ∈ ss, s ≤ b) → maxI m ss ≤ b
  | [], m, b, h, _ => h
  | t :: ss, m, b, h, h2 => by
    show maxI (max m t) ss ≤ b
    have := h2 t List.mem_cons_self
    exact maxI_le ss _ b (by omega) fun s hs => h2 s (List.mem_cons_of_mem _ hs)
theorem lt_maxI : ∀ (ss : List Int) (m j : Int), j < maxI m ss → j < m ∨ ∃ s ∈ ss, j < s
  | [], m, j, h => .inl h
  | t :: ss, m, j, h => by
    rcases lt_maxI ss (max m t) j h with h | ⟨s, hs, h⟩
    · by_cases c : j < m
      · exact .inl c
      · exact .inr ⟨t, List.mem_cons_self, by omega⟩
    · exact .inr ⟨s, List.mem_cons_of_mem _ hs, h⟩
theorem cost_ind {cs ss : List Int} (hs : ∀ s ∈ ss, s ≤ (cs.length : Int)) : cost cs ss = ((List.range cs.length).map fun j : Nat => if (j : Int) < maxI 0 ss then cs.getD j 0 else 0).sum := by
  have := maxI_le ss 0 cs.length (by omega) hs
  rw [take_ind _ (Nat.le_refl _), show min cs.length (maxI 0 ss).toNat = (maxI 0 ss).toNat by omega]
  rfl
/-! ### shares by legs -/
def users (ss : List Int) (j : Nat) : Nat := (ss.filter fun s => decide ((j : Int) < s)).length
def unit (cs ss : List Int) (j : Nat) : Int := cs.getD j 0 * (N0 / (users ss j : Int))
def val (cs ss : List Int) (i : Nat) (s : Int) : Int := ((List.range i).map fun j : Nat => if (j : Int) < s then unit cs ss j else 0).sum
theorem val_succ {cs ss : List Int} {i : Nat} {s : Int} : val cs ss (i + 1) s = val cs ss i s + if (i : Int) < s then unit cs ss i else 0 := by
  unfold val
  rw [List.range_succ, List.map_append, List.sum_append]
  simp
/-- a leg that is driven -/
theorem val_over {cs ss : List Int} : ∀ {i : Nat} {s : Int}, 0 ≤ s → s ≤ (i : Int) → val cs ss i s = val cs ss s.toNat s
  | 0, s, h0, h => by rw [show s.toNat = 0 by omega]
  | i + 1, s, h0, h => by
    by_cases c : s = ((i + 1 : Nat) : Int)
    · rw [c]; rfl
    · rw [val_succ, if_neg (by omega), val_over h0 (by omega)]; omega
theorem div12 {n : Nat} (h : 0 < n) (h2 : n ≤ 12) : (n : Int) * (N0 / (n : Int)) = N0 := by
  have : ∀ m : Nat, m < 13 → 0 < m → (m : Int) * (N0 / (m : Int)) = N0 := by decide
  exact this n (by omega) h
theorem div12_le {n : Nat} : 0 ≤ N0 / (n : Int) ∧ N0 / (n : Int) ≤ N0 := ⟨Int.ediv_nonneg (by decide) (by omega), Int.ediv_le_self _ (by decide)⟩
theorem users_sum (ss : List Int) (j : Nat) : (users ss j : Int) = (ss.map fun s => if (j : Int) < s then (1 : Int) else 0).sum := by
  unfold users
  rw [len_sum]
  exact sum_congr fun s _ => by by_cases c : (j : Int) < s <;> simp [c]
theorem users_le {ss : List Int} {j : Nat} : users ss j ≤ ss.length := List.length_filter_le _ _
theorem users_pos {ss : List Int} {j : Nat} {s : Int} (hs : s ∈ ss) (h : (j : Int) < s) : 0 < users ss j := List.length_pos_of_mem (List.mem_filter.mpr ⟨hs, decide_eq_true h⟩)
/-- all shares together are the cost -/
theorem shares_sum {cs ss : List Int} (hs : ∀ s ∈ ss, s ≤ (cs.length : Int)) (hn : ss.length ≤ 12) : (ss.map fun s => val cs ss cs.length s).sum = cost cs ss * N0 := by
  unfold val
  rw [sum_swap, cost_ind hs, ← sum_mulr]
  refine sum_congr fun j _ => ?_
  have e : (ss.map fun s => if (j : Int) < s then unit cs ss j else 0).sum = (users ss j : Int) * unit cs ss j := by
    rw [users_sum, ← sum_mulr]
    exact sum_congr fun s _ => by by_cases c : (j : Int) < s <;> simp [c]
  rw [e]
  by_cases c : (j : Int) < maxI 0 ss
  · rcases lt_maxI ss 0 j c with h | ⟨s, h1, h2⟩
    · omega
    · have hu := users_pos h1 h2
      have hl := users_le (ss := ss) (j := j)
      rw [if_pos c, unit, Int.mul_left_comm, div12 hu (by omega)]
  · rw [if_neg c]
    have : users ss j = 0 := by
      unfold users
      rw [List.length_eq_zero_iff, List.filter_eq_nil_iff]
      intro s h
      have := maxI_mem ss 0 s h
      simp
      omega
    rw [this]
    simp
/-! ### fractions -/
structure Fr (V p q : Int) : Prop where
  q0 : 0 < q
  p0 : 0 ≤ p
  qN : q ≤ N0
  pV : p ≤ V
  cop : Int.gcd p q = 1
  eq : p * N0 = q * V
theorem fr_low {a b V : Int} (hb : 0 < b) (ha : 0 ≤ a) (e : a * N0 = b * V) : Fr V (a / (Int.gcd a b : Int)) (b / (Int.gcd a b : Int)) := by
  have hg : 0 < (Int.gcd a b : Int) := by
    have := Int.gcd_pos_of_ne_zero_right a (show b ≠ 0 by omega)
    omega
  obtain ⟨p, hp⟩ : (Int.gcd a b : Int) ∣ a := Int.gcd_dvd_left ..
  obtain ⟨q, hq⟩ : (Int.gcd a b : Int) ∣ b := Int.gcd_dvd_right ..
  have hc : Int.gcd (a / (Int.gcd a b : Int)) (b / (Int.gcd a b : Int)) = 1 := Int.gcd_ediv_gcd_ediv_gcd (by omega)
  generalize (Int.gcd a b : Int) = g at hg hp hq hc
  subst hp hq
  rw [Int.mul_ediv_cancel_left _ (by omega), Int.mul_ediv_cancel_left _ (by omega)] at hc ⊢
  have q0 : 0 < q := by
    by_cases c : 0 < q
    · exact c
    · have := Int.mul_le_mul_of_nonneg_left (show q ≤ 0 by omega) (Int.le_of_lt hg)
      rw [Int.mul_zero] at this
      omega
  have p0 : 0 ≤ p := by
    by_cases c : 0 ≤ p
    · exact c
    · have := Int.mul_lt_mul_of_pos_left (show p < 0 by omega) hg
      omega
  have eq : p * N0 = q * V := by
    rw [Int.mul_assoc, Int.mul_assoc] at e
    exact Int.eq_of_mul_eq_mul_left (by omega) e
  have hd : q ∣ N0 := by
    have h1 : q ∣ p * N0 := ⟨V, eq⟩
    have h2 := Int.natAbs_dvd_natAbs.mpr h1
    rw [Int.natAbs_mul] at h2
    have h3 : Nat.Coprime q.natAbs p.natAbs := by
      unfold Nat.Coprime
      rw [Nat.gcd_comm]
      exact hc
    exact Int.natAbs_dvd_natAbs.mp (h3.dvd_of_dvd_mul_left h2)
  have qN := Int.le_of_dvd (by decide) hd
  refine ⟨q0, p0, qN, ?_, hc, eq⟩
  · -- p ≤ V
    have h1 : p * q ≤ p * N0 := Int.mul_le_mul_of_nonneg_left qN p0
    rw [eq, Int.mul_comm p q] at h1
    exact Int.le_of_mul_le_mul_left h1 q0
theorem fr_plus {a b c d V U : Int} (F : Fr V a b) (G : Fr U c d) : Fr (V + U) ((a * d + c * b) / (Int.gcd (a * d + c * b) (b * d) : Int)) (b * d / (Int.gcd (a * d + c * b) (b * d) : Int)) := by
  refine fr_low (Int.mul_pos F.q0 G.q0) (Int.add_nonneg (Int.mul_nonneg F.p0 (Int.le_of_lt G.q0)) (Int.mul_nonneg G.p0 (Int.le_of_lt F.q0))) ?_
  have e1 := F.eq
  have e2 := G.eq
  calc (a * d + c * b) * N0 = a * N0 * d + c * N0 * b := by rw [Int.add_mul, Int.mul_right_comm, Int.mul_right_comm c b]
    _ = b * V * d + d * U * b := by rw [e1, e2]
    _ = b * d * (V + U) := by rw [Int.mul_add, Int.mul_right_comm b V d, Int.mul_comm (d * U) b, Int.mul_assoc b d U]
theorem fr_unit {x : Int} {n : Nat} (hx : 0 ≤ x) (h0 : 0 < n) (h1 : n ≤ 12) : Fr (x * (N0 / (n : Int))) (x / (Int.gcd x n : Int)) ((n : Int) / (Int.gcd x n : Int)) :=
  fr_low (by omega) hx (by rw [Int.mul_left_comm, div12 h0 h1])
theorem fr_zero : Fr 0 0 1 := ⟨by decide, by decide, by decide, by decide, by decide, by decide⟩
end K19
set_option maxRecDepth 100000
set_option maxHeartbeats 2000000
/-! K19N: shares by all sequences; fairness by all sets; the greatest payment. -/
namespace K19
open DD
/-! ### all sequences -/
def longer (n : Nat) (rows : List (List Nat)) : List (List Nat) := rows.flatMap fun o => ((List.range n).filter fun k => !o.contains k).map fun k => o ++ [k]
def ordsF (n : Nat) : Nat → List (List Nat)
  | 0 => [[]]
  | i + 1 => longer n (ordsF n i)
def ords (n : Nat) : List (List Nat) := ordsF n n
def free (u : List Bool) (o : List Nat) (p : Nat) : Bool := (o.take p).all fun j => !u.getD j false
/-- in how many sequences k is the first of u -/
def cnt (n : Nat) (u : List Bool) (k : Nat) : Int := ((ords n).map fun o => ((List.range o.length).map fun p => if o.getD p 0 = k then (if free u o p = true then (1 : Int) else 0) else 0).sum).sum
def allB : Nat → List (List Bool)
  | 0 => [[]]
  | n + 1 => (allB n).flatMap fun u => [false :: u, true :: u]
theorem allB_mem : ∀ u : List Bool, u ∈ allB u.length
  | [] => .head _
  | b :: u => by
    refine List.mem_flatMap.mpr ⟨u, allB_mem u, ?_⟩
    cases b <;> simp
def fact : Nat → Int := fun n => [1, 1, 2, 6, 24, 120].getD n 0
theorem cnt_all : ∀ n : Nat, n < 6 → ∀ u ∈ allB n, ∀ k : Nat, k < n → u.getD k false = true → cnt n u k * ((u.filter fun b => b).length : Int) = fact n := by decide +kernel
theorem ords_in : ∀ n : Nat, n < 6 → ∀ o ∈ ords n, o.length = n ∧ ∀ k ∈ o, k < n := by decide +kernel
theorem fact_pos : ∀ n : Nat, n < 6 → 0 < fact n := by decide
def ahead (ss : List Int) (o : List Nat) (p : Nat) : List Int := (o.take p).map fun j => ss.getD j 0
def mar (cs ss : List Int) (o : List Nat) (p : Nat) : Int := cost cs (ahead ss o p ++ [ss.getD (o.getD p 0) 0]) - cost cs (ahead ss o p)
def added (cs ss : List Int) (k : Nat) : Int := ((ords ss.length).map fun o => ((List.range o.length).map fun p => if o.getD p 0 = k then mar cs ss o p else 0).sum).sum
def useB (ss : List Int) (j : Nat) : List Bool := ss.map fun s => decide ((j : Int) < s)
theorem useB_get {ss : List Int} {j k : Nat} : (useB ss j).getD k false = decide ((j : Int) < ss.getD k 0) := by
  unfold useB
  rw [List.getD_eq_getElem?_getD, List.getD_eq_getElem?_getD, List.getElem?_map]
  cases ss[k]? with
  | none => simp
  | some s => rfl
theorem maxI_snoc (ss : List Int) (s m : Int) : maxI m (ss ++ [s]) = max (maxI m ss) s := by
  unfold maxI
  rw [List.foldl_append]
  rfl
theorem free_iff {ss : List Int} {o : List Nat} {p j : Nat} : free (useB ss j) o p = true ↔ ¬ (j : Int) < maxI 0 (ahead ss o p) := by
  unfold free
  rw [List.all_eq_true]
  constructor
  · intro h c
    rcases lt_maxI _ 0 _ c with c | ⟨s, hs, c⟩
    · omega
    · obtain ⟨k, hk, rfl⟩ := List.mem_map.mp hs
      have := h k hk
      rw [useB_get] at this
      simp at this
      rw [List.getD_eq_getElem?_getD] at c
      omega
  · intro h k hk
    have : ss.getD k 0 ≤ maxI 0 (ahead ss o p) := maxI_mem _ 0 _ (List.mem_map.mpr ⟨k, hk, rfl⟩ : ss.getD k 0 ∈ ahead ss o p)
    rw [useB_get, decide_eq_false (by omega)]
    rfl
theorem getD_le {cs ss : List Int} (hs : ∀ s ∈ ss, s ≤ (cs.length : Int)) (k : Nat) : ss.getD k 0 ≤ (cs.length : Int) := by
  rw [List.getD_eq_getElem?_getD]
  cases h : ss[k]? with
  | none => simp
  | some s => exact hs s (List.mem_of_getElem? h)
theorem mar_ind {cs ss : List Int} (hs : ∀ s ∈ ss, s ≤ (cs.length : Int)) (o : List Nat) (p : Nat) : mar cs ss o p = ((List.range cs.length).map fun j : Nat => if (j : Int) < ss.getD (o.getD p 0) 0 then (if free (useB ss j) o p = true then cs.getD j 0 else 0) else 0).sum := by
  have h1 : ∀ s ∈ ahead ss o p, s ≤ (cs.length : Int) := fun s h => by
    obtain ⟨k, _, rfl⟩ := List.mem_map.mp h
    exact getD_le hs k
  have h2 : ∀ s ∈ ahead ss o p ++ [ss.getD (o.getD p 0) 0], s ≤ (cs.length : Int) := fun s h => by
    rcases List.mem_append.mp h with h | h
    · exact h1 s h
    · rw [List.mem_singleton.mp h]; exact getD_le hs _
  unfold mar
  rw [cost_ind h1, cost_ind h2]
  have : ∀ a b c : Int, a = b + c → a - c = b := fun a b c h => by omega
  refine this _ _ _ ?_
  rw [← sum_add]
  refine sum_congr fun j _ => ?_
  rw [maxI_snoc]
  by_cases c1 : (j : Int) < maxI 0 (ahead ss o p)
  · have : ¬ free (useB ss j) o p = true := fun z => free_iff.mp z c1
    rw [if_pos (by omega), if_neg this, if_pos c1]
    by_cases c2 : (j : Int) < ss.getD (o.getD p 0) 0
    · rw [if_pos c2]; omega
    · rw [if_neg c2]; omega
  · have : free (useB ss j) o p = true := free_iff.mpr c1
    rw [if_pos this, if_neg c1]
    by_cases c2 : (j : Int) < ss.getD (o.getD p 0) 0
    · rw [if_pos c2, if_pos (by omega)]; omega
    · rw [if_neg c2, if_neg (by omega)]; omega
theorem ite_sum {α : Type} (c : Prop) [Decidable c] (f : α → Int) (xs : List α) : (if c then (xs.map f).sum else 0) = (xs.map fun x => if c then f x else 0).sum := by
  by_cases h : c
  · rw [if_pos h]; exact sum_congr fun x _ => by rw [if_pos h]
  · rw [if_neg h]; exact ((sum_congr (g := fun _ => 0) fun x _ => by rw [if_neg h]).trans (sum_zero xs)).symm
theorem added_ind {cs ss : List Int} (hs : ∀ s ∈ ss, s ≤ (cs.length : Int)) (k : Nat) : added cs ss k = ((List.range cs.length).map fun j : Nat => if (j : Int) < ss.getD k 0 then cs.getD j 0 * cnt ss.length (useB ss j) k else 0).sum := by
  unfold added
  have e1 : ∀ o : List Nat, ((List.range o.length).map fun p => if o.getD p 0 = k then mar cs ss o p else 0).sum = ((List.range cs.length).map fun j : Nat => ((List.range o.length).map fun p => if o.getD p 0 = k then (if (j : Int) < ss.getD k 0 then (if free (useB ss j) o p = true then cs.getD j 0 else 0) else 0) else 0).sum).sum := fun o => by
    rw [← sum_swap]
    refine sum_congr fun p _ => ?_
    rw [← ite_sum]
    by_cases c : o.getD p 0 = k
    · rw [if_pos c, if_pos c, mar_ind hs, c]
    · rw [if_neg c, if_neg c]
  rw [sum_congr fun o _ => e1 o, sum_swap]
  refine sum_congr fun j _ => ?_
  by_cases c : (j : Int) < ss.getD k 0
  · rw [if_pos c]
    unfold cnt
    rw [← sum_mull]
    refine sum_congr fun o _ => ?_
    rw [← sum_mull]
    refine sum_congr fun p _ => ?_
    rw [if_pos c]
    by_cases c1 : o.getD p 0 = k
    · rw [if_pos c1, if_pos c1]
      by_cases c2 : free (useB ss j) o p = true
      · rw [if_pos c2, if_pos c2, Int.mul_one]
      · rw [if_neg c2, if_neg c2, Int.mul_zero]
    · rw [if_neg c1, if_neg c1, Int.mul_zero]
  · rw [if_neg c]
    have : ∀ o ∈ ords ss.length, ((List.range o.length).map fun p => if o.getD p 0 = k then (if (j : Int) < ss.getD k 0 then (if free (useB ss j) o p = true then cs.getD j 0 else 0) else 0) else 0).sum = (0 : Int) := fun o _ => by
      refine Eq.trans (sum_congr (g := fun _ => 0) fun p _ => ?_) (sum_zero _)
      rw [if_neg c]
      by_cases c1 : o.getD p 0 = k
      · rw [if_pos c1]
      · rw [if_neg c1]
    rw [sum_congr this, sum_zero]
theorem useB_users {ss : List Int} {j : Nat} : ((useB ss j).filter fun b => b).length = users ss j := by
  unfold useB users
  rw [List.filter_map, List.length_map]
  rfl
/-- by all sequences as by legs -/
theorem added_val {cs ss : List Int} (hs : ∀ s ∈ ss, s ≤ (cs.length : Int)) (hn : ss.length ≤ 5) {k : Nat} (hk : k < ss.length) : added cs ss k * N0 = fact ss.length * val cs ss cs.length (ss.getD k 0) := by
  rw [added_ind hs k, ← sum_mulr]
  unfold val
  rw [← sum_mull]
  refine sum_congr fun j _ => ?_
  by_cases c : (j : Int) < ss.getD k 0
  · rw [if_pos c, if_pos c]
    have h1 := cnt_all ss.length (by omega) (useB ss j) (by have := allB_mem (useB ss j); rwa [show (useB ss j).length = ss.length from List.length_map _] at this) k hk (by rw [useB_get]; exact decide_eq_true c)
    rw [useB_users] at h1
    have hm : ss.getD k 0 ∈ ss := by rw [List.getD_eq_getElem?_getD, List.getElem?_eq_getElem hk]; exact List.getElem_mem _
    have hu := users_pos hm c
    have hl := users_le (ss := ss) (j := j)
    have h2 := div12 hu (by omega)
    unfold unit
    calc cs.getD j 0 * cnt ss.length (useB ss j) k * N0 = cs.getD j 0 * cnt ss.length (useB ss j) k * ((users ss j : Int) * (N0 / (users ss j : Int))) := by rw [h2]
      _ = (cnt ss.length (useB ss j) k * (users ss j : Int)) * (cs.getD j 0 * (N0 / (users ss j : Int))) := by
        generalize (N0 / (users ss j : Int)) = z
        generalize (users ss j : Int) = y
        generalize cnt ss.length (useB ss j) k = x
        generalize cs.getD j 0 = w
        ac_rfl
      _ = _ := by rw [h1]
  · rw [if_neg c, if_neg c]; simp
theorem share_added {cs ss : List Int} (hs : ∀ s ∈ ss, s ≤ (cs.length : Int)) (hn : ss.length ≤ 5) {k : Nat} (hk : k < ss.length) {p q : Int} (F : Fr (val cs ss cs.length (ss.getD k 0)) p q) : p * fact ss.length = added cs ss k * q := by
  have h1 := added_val hs hn hk
  have h2 := F.eq
  have : (p * fact ss.length) * N0 = (added cs ss k * q) * N0 := by
    calc (p * fact ss.length) * N0 = (p * N0) * fact ss.length := by ac_rfl
      _ = (q * val cs ss cs.length (ss.getD k 0)) * fact ss.length := by rw [h2]
      _ = (fact ss.length * val cs ss cs.length (ss.getD k 0)) * q := by ac_rfl
      _ = (added cs ss k * N0) * q := by rw [h1]
      _ = _ := by ac_rfl
  exact Int.eq_of_mul_eq_mul_right (by decide) this
/-! ### fair payments -/
/-- what those pay who stop no later than t -/
def pay (ps ss : List Int) (t : Int) : Int := (List.zipWith (fun m s => if s ≤ t then m else 0) ps ss).sum
def unf (cs ss ps : List Int) : Option Nat := (List.range (cs.length + 1)).find? fun t => decide ((cs.take t).sum < pay ps ss t)
def Fair (cs ss ps : List Int) : Prop := ∀ t : Nat, t ≤ cs.length → pay ps ss t ≤ (cs.take t).sum
theorem unf_fair {cs ss ps : List Int} : unf cs ss ps = none ↔ Fair cs ss ps := by
  unfold unf Fair
  rw [List.find?_eq_none]
  constructor
  · intro h t ht
    have := h t (List.mem_range.mpr (by omega))
    simp at this
    exact this
  · intro h t ht
    have := h t (by rw [List.mem_range] at ht; omega)
    simp
    exact this
theorem pay_range {ps ss : List Int} (hl : ps.length = ss.length) (t : Int) : pay ps ss t = ((List.range ss.length).map fun k => if ss.getD k 0 ≤ t then ps.getD k 0 else 0).sum := by
  unfold pay
  congr 1
  apply List.ext_getElem?
  intro i
  rw [List.getElem?_zipWith]
  by_cases h : i < ss.length
  · rw [List.getElem?_map, List.getElem?_range h, List.getElem?_eq_getElem (by omega), List.getElem?_eq_getElem (by omega)]
    simp only [Option.map_some]
    rw [List.getD_eq_getElem?_getD, List.getD_eq_getElem?_getD, List.getElem?_eq_getElem (by omega), List.getElem?_eq_getElem (by omega)]
    rfl
  · rw [List.getElem?_eq_none (by omega : ps.length ≤ i), List.getElem?_eq_none (by omega : ss.length ≤ i), List.getElem?_eq_none (by simp; omega)]
/-- the sets -/
def setSum (ps : List Int) (ks : List Nat) : Int := (ks.map fun k => ps.getD k 0).sum
def setCost (cs ss : List Int) (ks : List Nat) : Int := cost cs (ks.map fun k => ss.getD k 0)
theorem take_mono {cs : List Int} (h0 : ∀ c ∈ cs, 0 ≤ c) {a b : Nat} (h : a ≤ b) : (cs.take a).sum ≤ (cs.take b).sum := by
  rw [show b = a + (b - a) by omega, List.take_add, List.sum_append]
  have : 0 ≤ ((cs.drop a).take (b - a)).sum := by
    have := sum_nonneg (fun x : Int => x) ((cs.drop a).take (b - a)) fun x hx => h0 x (List.mem_of_mem_drop (List.mem_of_mem_take hx))
    rwa [List.map_id'] at this
  omega
theorem fair_set {cs ss ps : List Int} (hl : ps.length = ss.length) (hs : ∀ s ∈ ss, 0 ≤ s ∧ s ≤ (cs.length : Int)) (hp : ∀ p ∈ ps, 0 ≤ p) (F : Fair cs ss ps) (f : Nat → Bool) : setSum ps ((List.range ss.length).filter f) ≤ setCost cs ss ((List.range ss.length).filter f) := by
  have h1 : ∀ s ∈ ((List.range ss.length).filter f).map (fun k => ss.getD k 0), s ≤ (cs.length : Int) := fun s h => by
    obtain ⟨k, _, rfl⟩ := List.mem_map.mp h
    exact getD_le (fun s hs' => (hs s hs').2) k
  have hm := maxI_le _ 0 _ (by omega) h1
  have hg := maxI_ge (((List.range ss.length).filter f).map (fun k => ss.getD k 0)) 0
  have h2 := F (maxI 0 (((List.range ss.length).filter f).map (fun k => ss.getD k 0))).toNat (by omega)
  unfold setCost cost
  refine Int.le_trans ?_ h2
  rw [pay_range hl]
  unfold setSum
  rw [sum_filter]
  refine sum_le _ _ _ fun k hk => ?_
  rw [List.mem_range] at hk
  have hpk : 0 ≤ ps.getD k 0 := by
    rw [List.getD_eq_getElem?_getD, List.getElem?_eq_getElem (by omega)]
    exact hp _ (List.getElem_mem _)
  by_cases c : f k = true
  · have := maxI_mem _ 0 _ (List.mem_map.mpr ⟨k, List.mem_filter.mpr ⟨List.mem_range.mpr hk, c⟩, rfl⟩ : ss.getD k 0 ∈ ((List.range ss.length).filter f).map (fun k => ss.getD k 0))
    rw [if_pos c, if_pos (by omega)]
    omega
  · rw [if_neg c]
    split <;> omega
theorem set_fair {cs ss ps : List Int} (hl : ps.length = ss.length) (hc : ∀ c ∈ cs, 0 ≤ c) (hs : ∀ s ∈ ss, 0 ≤ s ∧ s ≤ (cs.length : Int)) (h : ∀ f : Nat → Bool, setSum ps ((List.range ss.length).filter f) ≤ setCost cs ss ((List.range ss.length).filter f)) : Fair cs ss ps := fun t ht => by
  have h := h fun k => decide (ss.getD k 0 ≤ (t : Int))
  rw [pay_range hl]
  unfold setSum setCost cost at h
  rw [sum_filter] at h
  have e : ((List.range ss.length).map fun k => if ss.getD k 0 ≤ (t : Int) then ps.getD k 0 else 0) = (List.range ss.length).map fun k => if decide (ss.getD k 0 ≤ (t : Int)) = true then ps.getD k 0 else 0 := List.map_congr_left fun k _ => by simp
  rw [e]
  refine Int.le_trans h (take_mono hc ?_)
  have := maxI_le (((List.range ss.length).filter fun k => decide (ss.getD k 0 ≤ (t : Int))).map (fun k => ss.getD k 0)) 0 t (by omega) fun s hs => by
    obtain ⟨k, hk, rfl⟩ := List.mem_map.mp hs
    exact of_decide_eq_true (List.mem_filter.mp hk).2
  omega
/-! ### the greatest payment -/
/-- the payment of one is another -/
def put (ps : List Int) (k : Nat) (m : Int) : List Int := ps.take k ++ [m] ++ ps.drop (k + 1)
theorem put_len {ps : List Int} {k : Nat} {m : Int} (h : k < ps.length) : (put ps k m).length = ps.length := by unfold put; simp; omega
theorem pay_put {ps ss : List Int} {k : Nat} {m t : Int} (hl : ps.length = ss.length) (hk : k < ss.length) : pay (put ps k m) ss t = pay (put ps k 0) ss t + if ss.getD k 0 ≤ t then m else 0 := by
  unfold pay put
  have e : ss = ss.take k ++ [ss.getD k 0] ++ ss.drop (k + 1) := by
    rw [List.getD_eq_getElem?_getD, List.getElem?_eq_getElem hk]
    simp
  have ht : (ps.take k).length = (ss.take k).length := by simp; omega
  generalize ss.getD k 0 = s at e
  generalize hA : ss.take k = A at e ht
  generalize hB : ss.drop (k + 1) = B at e
  subst e
  rw [List.zipWith_append (by simp [ht]), List.zipWith_append (by simp [ht]), List.zipWith_append (by simp [ht]), List.zipWith_append (by simp [ht])]
  simp only [List.sum_append, List.zipWith_cons_cons, List.zipWith_nil_left, List.sum_cons, List.sum_nil]
  by_cases c : s ≤ t
  · simp only [if_pos c]; omega
  · simp only [if_neg c]; omega
def restAt (cs ss os : List Int) (t : Nat) : Int := (cs.take t).sum - pay os ss t
/-- the payment m is the greatest: it stands somewhere as the rest, and no rest is less -/
theorem most_fair {cs ss ps : List Int} {k : Nat} {m : Int} (hl : ps.length = ss.length) (hk : k < ss.length) (F : Fair cs ss (put ps k 0)) (hm : ∀ t : Nat, ss.getD k 0 ≤ (t : Int) → t ≤ cs.length → m ≤ restAt cs ss (put ps k 0) t) : Fair cs ss (put ps k m) := fun t ht => by
  rw [pay_put hl hk]
  by_cases c : ss.getD k 0 ≤ (t : Int)
  · rw [if_pos c]
    have := hm t c ht
    unfold restAt at this
    omega
  · rw [if_neg c]
    have := F t ht
    omega
theorem most_unfair {cs ss ps : List Int} {k : Nat} {m : Int} (hl : ps.length = ss.length) (hk : k < ss.length) {t : Nat} (h1 : ss.getD k 0 ≤ (t : Int)) (h2 : t ≤ cs.length) (h3 : m = restAt cs ss (put ps k 0) t) : ¬ Fair cs ss (put ps k (m + 1)) := fun F => by
  have := F t h2
  rw [pay_put hl hk, if_pos h1] at this
  unfold restAt at h3
  omega
end K19
set_option maxRecDepth 100000
set_option maxHeartbeats 8000000
namespace DD
open PySem PySem.Spec PyProof.Rows L2 GenW
open K19 (Fr val unit users cost unf pay put Fair restAt N0)
/-! ### fractions -/
def common_w : WS := wSeq (wWhile (wTru (wVar 1)) (wPar [0, 1] (wmD (wVar 1) (wmD (wOp2 aMod (wVar 0) (wVar 1)) wmNil)))) (wRet (wOpN (f1 aAbs) (waCons (wVar 0) waNil)))
def common_s : FD := fun ws Q _ => ∃ a b : Int, ws = [.d (.int a), .d (.int b)] ∧ 0 ≤ a ∧ 0 ≤ b ∧ Q (.int (Int.gcd a b : Int))
theorem mono_common : MonoF common_s := fun ws Q Q' EX h ⟨a, b, e, h1, h2, q⟩ => ⟨a, b, e, h1, h2, h _ q⟩
theorem gcd_step {x y g : Nat} (h : Nat.gcd x y = g) : Nat.gcd y (x % y) = g := by rw [← h, Nat.gcd_comm x y, Nat.gcd_rec y x, Nat.gcd_comm]
theorem meets_common (ws : List W) (Q : D → Prop) (EX : EXn) (h : common_s ws Q EX) : mkF 2 2 common_w ws Q EX := by
  obtain ⟨a, b, rfl, ha, hb, q⟩ := h
  refine ⟨rfl, ?_⟩
  obtain ⟨x, rfl⟩ := Int.eq_ofNat_of_zero_le ha
  obtain ⟨y, rfl⟩ := Int.eq_ofNat_of_zero_le hb
  have q : Q (.int (Nat.gcd x y : Nat)) := q
  simp [common_w]
  refine ⟨fun m ρ => ∃ u : Nat, ρ = [some (.d (.int (u : Int))), some (.d (.int (m : Int)))] ∧ Nat.gcd u m = Nat.gcd x y, ⟨y, x, rfl, rfl⟩, ?_⟩
  rintro m ρ ⟨u, rfl, hg⟩
  simp
  by_cases c : m = 0
  · subst c
    simp
    rw [Nat.gcd_zero_right] at hg
    rw [hg]
    simp only [aAbs]
    rw [if_neg (by omega)]
    exact q
  · simp [c, setAll, Mv.w]
    refine ⟨by omega, u % m, Nat.mod_lt _ (by omega), m, ⟨rfl, by simp⟩, ?_⟩
    exact gcd_step hg
def lowD (a b : Int) : D := .tuple [.int (a / (Int.gcd a b : Int)), .int (b / (Int.gcd a b : Int))]
def lowest_w : WS := wSeq (wIfS (wTst2 gLt (wVar 1) (wC (.int 0))) (wPar [0, 1] (wmD (wNeg (wVar 0)) (wmD (wNeg (wVar 1)) wmNil))) wSkip) (wSeq (wSet 2 (wCall common_s (wwCons (wVar 0) (wwCons (wVar 1) wwNil)))) (wRet (wTup (waCons (wOp2 aFdiv (wVar 0) (wVar 2)) (waCons (wOp2 aFdiv (wVar 1) (wVar 2)) waNil)))))
def lowest_s : FD := fun ws Q _ => ∃ a b : Int, ws = [.d (.int a), .d (.int b)] ∧ 0 ≤ a ∧ 0 < b ∧ b < 1073741824 ∧ Q (lowD a b)
theorem mono_lowest : MonoF lowest_s := fun ws Q Q' EX h ⟨a, b, e, h1, h2, h3, q⟩ => ⟨a, b, e, h1, h2, h3, h _ q⟩
theorem gcd_le {a b : Int} (hb : 0 < b) : 0 < (Int.gcd a b : Int) ∧ (Int.gcd a b : Int) ≤ b := by
  have h1 := Int.gcd_pos_of_ne_zero_right a (show b ≠ 0 by omega)
  have h2 : (Int.gcd a b : Int) ∣ b := Int.gcd_dvd_right ..
  exact ⟨by omega, Int.le_of_dvd hb h2⟩
theorem meets_lowest (ws : List W) (Q : D → Prop) (EX : EXn) (h : lowest_s ws Q EX) : mkF 2 3 lowest_w ws Q EX := by
  obtain ⟨a, b, rfl, ha, hb, hb2, q⟩ := h
  refine ⟨rfl, ?_⟩
  have c : ¬ b < 0 := by omega
  have hg := gcd_le (a := a) hb
  simp [lowest_w, c]
  refine ⟨a, b, rfl, ha, by omega, ?_⟩
  simp
  exact ⟨⟨hg.1, by omega⟩, ⟨hg.1, by omega⟩, q⟩
def plus_w : WS := wRet (wCall lowest_s (wwCons (wOp2 aAdd (wOp2 aMul (wOp2 aIx (wVar 0) (wC (.int 0))) (wOp2 aIx (wVar 1) (wC (.int 1)))) (wOp2 aMul (wOp2 aIx (wVar 1) (wC (.int 0))) (wOp2 aIx (wVar 0) (wC (.int 1))))) (wwCons (wOp2 aMul (wOp2 aIx (wVar 0) (wC (.int 1))) (wOp2 aIx (wVar 1) (wC (.int 1)))) wwNil)))
def plus_s : FD := fun ws Q _ => ∃ a b c d : Int, ws = [.d (.tuple [.int a, .int b]), .d (.tuple [.int c, .int d])] ∧ 0 ≤ a ∧ 0 < b ∧ b ≤ N0 ∧ 0 ≤ c ∧ 0 < d ∧ d ≤ N0 ∧ Q (lowD (a * d + c * b) (b * d))
theorem mono_plus : MonoF plus_s := fun ws Q Q' EX h ⟨a, b, c, d, e, h1, h2, h3, h4, h5, h6, q⟩ => ⟨a, b, c, d, e, h1, h2, h3, h4, h5, h6, h _ q⟩
theorem meets_plus (ws : List W) (Q : D → Prop) (EX : EXn) (h : plus_s ws Q EX) : mkF 2 2 plus_w ws Q EX := by
  obtain ⟨a, b, c, d, rfl, ha, hb, hb2, hc, hd, hd2, q⟩ := h
  refine ⟨rfl, ?_⟩
  have hb2 : b ≤ 27720 := hb2
  have hd2 : d ≤ 27720 := hd2
  simp [plus_w]
  refine ⟨_, atD_nat (i := 0) rfl, _, atD_nat (i := 1) rfl, cmul_right (by omega) (by omega), _, atD_nat (i := 0) rfl, _, atD_nat (i := 1) rfl, cmul_right (by omega) (by omega), _, atD_nat (i := 1) rfl, _, atD_nat (i := 1) rfl, cmul_right (by omega) (by omega), ?_⟩
  have h1 := Int.mul_le_mul hb2 hd2 (by omega) (by omega)
  exact ⟨_, _, rfl, Int.add_nonneg (Int.mul_nonneg ha (by omega)) (Int.mul_nonneg hc (by omega)), Int.mul_pos hb hd, by omega, q⟩
/-! ### what one asks -/
def costsOk : D → Bool
  | .tuple xs => decide (xs.length ≤ 20) && xs.all (fun x => isNum x 0 1000)
  | _ => false
def stopsOk (n : Nat) : D → Bool
  | .tuple xs => decide (xs.length ≤ 12) && xs.all (fun x => isNum x 0 n)
  | _ => false
structure Ud (cs ss : List Int) : Prop where
  cl : cs.length ≤ 20
  c0 : ∀ c ∈ cs, 0 ≤ c ∧ c ≤ 1000
  sl : ss.length ≤ 12
  s0 : ∀ s ∈ ss, 0 ≤ s ∧ s ≤ (cs.length : Int)
structure UX (l s : D) (EX : EXn) : Prop where
  x1 : costsOk l = false → EX (.bad "costs")
  x2 : costsOk l = true → stopsOk (rdL l).length s = false → EX (.bad "stops")
def uok (l s : D) : Bool := costsOk l && stopsOk (rdL l).length s
theorem costs_read {l : D} (h : costsOk l = true) : ∃ cs, l = intsT cs ∧ cs.length ≤ 20 ∧ ∀ c ∈ cs, 0 ≤ c ∧ c ≤ 1000 := by
  cases l with
  | tuple xs =>
    simp only [costsOk, Bool.and_eq_true, decide_eq_true_eq] at h
    obtain ⟨h1, h2⟩ := nums_read h.2
    exact ⟨xs.map rdI, by unfold intsT; rw [h1], by rw [List.length_map]; exact h.1, h2⟩
  | _ => simp [costsOk] at h
theorem stops_read {n : Nat} {l : D} (h : stopsOk n l = true) : ∃ ss, l = intsT ss ∧ ss.length ≤ 12 ∧ ∀ s ∈ ss, 0 ≤ s ∧ s ≤ (n : Int) := by
  cases l with
  | tuple xs =>
    simp only [stopsOk, Bool.and_eq_true, decide_eq_true_eq] at h
    obtain ⟨h1, h2⟩ := nums_read h.2
    exact ⟨xs.map rdI, by unfold intsT; rw [h1], by rw [List.length_map]; exact h.1, h2⟩
  | _ => simp [stopsOk] at h
theorem allNum {ns : List Int} {lo hi : Int} (h : ∀ i ∈ ns, lo ≤ i ∧ i ≤ hi) : ((ns.map PyData.int).all fun x => isNum x lo hi) = true := by
  have := areNums_ints (n := ns.length) rfl h
  simp only [intsT, areNums, Bool.and_eq_true] at this
  exact this.2
theorem costs_ok {cs : List Int} (h1 : cs.length ≤ 20) (h2 : ∀ c ∈ cs, 0 ≤ c ∧ c ≤ 1000) : costsOk (intsT cs) = true := by
  simp only [costsOk, intsT, Bool.and_eq_true, decide_eq_true_eq, List.length_map]
  exact ⟨h1, allNum h2⟩
theorem stops_ok {n : Nat} {cs : List Int} (h1 : cs.length ≤ 12) (h2 : ∀ c ∈ cs, 0 ≤ c ∧ c ≤ (n : Int)) : stopsOk n (intsT cs) = true := by
  simp only [stopsOk, intsT, Bool.and_eq_true, decide_eq_true_eq, List.length_map]
  exact ⟨h1, allNum h2⟩
theorem uok_read {l s : D} (h : uok l s = true) : ∃ cs ss, l = intsT cs ∧ s = intsT ss ∧ Ud cs ss := by
  simp only [uok, Bool.and_eq_true] at h
  obtain ⟨cs, rfl, h1, h2⟩ := costs_read h.1
  rw [rdL_ints] at h
  obtain ⟨ss, rfl, h3, h4⟩ := stops_read h.2
  exact ⟨cs, ss, rfl, rfl, h1, h2, h3, h4⟩
theorem uok_ok {cs ss : List Int} (U : Ud cs ss) : uok (intsT cs) (intsT ss) = true := by
  simp only [uok, Bool.and_eq_true]
  exact ⟨costs_ok U.cl U.c0, by rw [rdL_ints]; exact stops_ok U.sl U.s0⟩
theorem ux_ok {cs ss : List Int} {EX : EXn} (U : Ud cs ss) : UX (intsT cs) (intsT ss) EX := by
  have h := uok_ok U
  simp only [uok, Bool.and_eq_true] at h
  exact ⟨fun z => by (rw [h.1] at z; cases z), fun _ z => by (rw [h.2] at z; cases z)⟩
theorem ux_bad1 {l s : D} {EX : EXn} (c : costsOk l = false) (hx : EX (.bad "costs")) : UX l s EX := ⟨fun _ => hx, fun z => by (rw [c] at z; cases z)⟩
theorem ux_bad2 {l s : D} {EX : EXn} (h : costsOk l = true) (hx : EX (.bad "stops")) : UX l s EX := ⟨fun z => by (rw [h] at z; cases z), fun _ _ => hx⟩
theorem uok1 {l s : D} (h : costsOk l = false) : uok l s = false := by unfold uok; rw [h]; rfl
theorem uok2 {l s : D} (h : stopsOk (rdL l).length s = false) : uok l s = false := by unfold uok; rw [h, Bool.and_false]
def check_use_r3 : WS := (wExpr (wCall check_s (wwCons (wAndV (wVar 2) (wCall are_numbers_s (wwCons (wVar 1) (wwCons (wOpN (f1 aLen) (waCons (wVar 1) waNil)) (wwCons (wC (.int 0)) (wwCons (wOpN (f1 aLen) (waCons (wVar 0) waNil)) wwNil)))))) (wwCons (wC (.str "stops")) wwNil))))
def check_use_r2 : WS := wSeq (wSet 2 (wAndV (wIsi "tuple" (wVar 1)) (wCmp2 gLe (wOpN (f1 aLen) (waCons (wVar 1) waNil)) (wC (.int 12))))) check_use_r3
def check_use_r1 : WS := wSeq (wExpr (wCall check_s (wwCons (wVar 2) (wwCons (wC (.str "costs")) wwNil)))) check_use_r2
def check_use_r0 : WS := wSeq (wSet 2 (wAndV (wIsi "tuple" (wVar 0)) (wAndV (wCmp2 gLe (wOpN (f1 aLen) (waCons (wVar 0) waNil)) (wC (.int 20))) (wCall are_numbers_s (wwCons (wVar 0) (wwCons (wOpN (f1 aLen) (waCons (wVar 0) waNil)) (wwCons (wC (.int 0)) (wwCons (wC (.int 1000)) wwNil)))))))) check_use_r1
def check_use_w : WS := wSeq (wSet 2 (wAndV (wIsi "tuple" (wVar 0)) (wAndV (wCmp2 gLe (wOpN (f1 aLen) (waCons (wVar 0) waNil)) (wC (.int 20))) (wCall are_numbers_s (wwCons (wVar 0) (wwCons (wOpN (f1 aLen) (waCons (wVar 0) waNil)) (wwCons (wC (.int 0)) (wwCons (wC (.int 1000)) wwNil)))))))) (wSeq (wExpr (wCall check_s (wwCons (wVar 2) (wwCons (wC (.str "costs")) wwNil)))) (wSeq (wSet 2 (wAndV (wIsi "tuple" (wVar 1)) (wCmp2 gLe (wOpN (f1 aLen) (waCons (wVar 1) waNil)) (wC (.int 12))))) (wExpr (wCall check_s (wwCons (wAndV (wVar 2) (wCall are_numbers_s (wwCons (wVar 1) (wwCons (wOpN (f1 aLen) (waCons (wVar 1) waNil)) (wwCons (wC (.int 0)) (wwCons (wOpN (f1 aLen) (waCons (wVar 0) waNil)) wwNil)))))) (wwCons (wC (.str "stops")) wwNil))))))
theorem check_use_r : check_use_w = check_use_r0 := rfl
def check_use_s : FD := fun ws Q EX => ∃ l s : D, ws = [.d l, .d s] ∧ UX l s EX ∧ (uok l s = true → Q .none)
theorem mono_check_use : MonoF check_use_s := fun ws Q Q' EX h ⟨l, m, e, x, q⟩ => ⟨l, m, e, x, fun z => h _ (q z)⟩
theorem meets_check_use (ws : List W) (Q : D → Prop) (EX : EXn) (h : check_use_s ws Q EX) : mkF 2 3 check_use_w ws Q EX := by
  obtain ⟨l, s, rfl, X, q⟩ := h
  refine ⟨rfl, ?_⟩
  rw [check_use_r]
  have rest : ∀ b : Bool, b = costsOk l → check_use_r1 { nx := fun _ => Q .none, rt := Q, ex := EX } [some (.d l), some (.d s), some (.d (.bool b))] := fun b hb => by
    simp [check_use_r1]
    refine check_use (by decide) (fun h1 => ?_) (fun h1 => X.x1 (by rw [← hb]; exact h1))
    rw [hb] at h1
    obtain ⟨cs, rfl, h3, h4⟩ := costs_read h1
    have X2 := X.x2 h1
    rw [rdL_ints] at X2
    have fin : ∀ b : Bool, b = stopsOk cs.length s → check_s [.d (.bool b), .d (.str "stops")] (fun _ => Q .none) EX := fun b hb => by
      refine check_use (by decide) (fun h2 => ?_) (fun h2 => X2 (by rw [← hb]; exact h2))
      refine q ?_
      simp only [uok, Bool.and_eq_true]
      rw [rdL_ints]
      exact ⟨h1, by rw [← hb]; exact h2⟩
    simp [check_use_r2]
    cases s with
    | tuple xs =>
      by_cases z : xs.length ≤ 12
      · have z' : (xs.length : Int) ≤ 12 := by omega
        simp [isTy, tyD, z', check_use_r3, intsT]
        refine ⟨_, _, _, _, rfl, fin _ ?_⟩
        simp [areNums, stopsOk, z]
      · have z' : ¬ (xs.length : Int) ≤ 12 := by omega
        simp [isTy, tyD, z', check_use_r3]
        exact fin false (by simp [stopsOk, z])
    | _ =>
      simp [isTy, tyD, check_use_r3]
      exact fin false rfl
  simp [check_use_r0]
  cases l with
  | tuple xs =>
    by_cases z : xs.length ≤ 20
    · have z' : (xs.length : Int) ≤ 20 := by omega
      simp [isTy, tyD, z']
      refine ⟨_, _, _, _, rfl, rest _ ?_⟩
      simp [areNums, costsOk, z]
    · have z' : ¬ (xs.length : Int) ≤ 20 := by omega
      simp [isTy, tyD, z']
      exact rest false (by simp [costsOk, z])
  | _ =>
    simp [isTy, tyD]
    exact rest false rfl
theorem cu_use {l s : D} {Q : D → Prop} {EX : EXn} (X : UX l s EX) (q : uok l s = true → Q .none) : check_use_s [.d l, .d s] Q EX := ⟨l, s, rfl, X, q⟩
/-! ### promises about costs and stops -/
def useS (K : List Int → List Int → (D → Prop) → Prop) : FD := fun ws Q EX => ∃ l s : D, ws = [.d l, .d s] ∧ UX l s EX ∧ (uok l s = true → K (rdL l) (rdL s) Q)
theorem mono_useS {K : List Int → List Int → (D → Prop) → Prop} (hK : ∀ cs ss Q Q', (∀ d, Q d → Q' d) → K cs ss Q → K cs ss Q') : MonoF (useS K) := fun ws Q Q' EX h ⟨l, m, e, x, q⟩ => ⟨l, m, e, x, fun z => hK _ _ _ _ h (q z)⟩
theorem use_good {K : List Int → List Int → (D → Prop) → Prop} {cs ss : List Int} {Q : D → Prop} {EX : EXn} (U : Ud cs ss) (q : K cs ss Q) : useS K [.d (intsT cs), .d (intsT ss)] Q EX :=
  ⟨_, _, rfl, ux_ok U, fun _ => by rw [rdL_ints, rdL_ints]; exact q⟩
theorem use_bad {K : List Int → List Int → (D → Prop) → Prop} {l s : D} {Q : D → Prop} {EX : EXn} (c : uok l s = false) (X : UX l s EX) : useS K [.d l, .d s] Q EX := ⟨l, s, rfl, X, fun z => by (rw [c] at z; cases z)⟩
abbrev cost_for_s : FD := useS fun cs ss Q => Q (.int (cost cs ss))
theorem mono_cost_for : MonoF cost_for_s := mono_useS fun M ls Q Q' h q => h _ q
theorem maxI_nn (ss : List Int) : 0 ≤ maxI 0 ss := K19.maxI_ge ss 0
def cost_for_w : WS := wSeq (wExpr (wCall check_use_s (wwCons (wVar 0) (wwCons (wVar 1) wwNil)))) (wRet (wOpN (f1 aSumA) (waCons (wCut (wVar 0) woNone (woSome (wMaxD (wVar 1) (wC (.int 0))))) waNil)))
theorem meets_cost_for (ws : List W) (Q : D → Prop) (EX : EXn) (h : cost_for_s ws Q EX) : mkF 2 2 cost_for_w ws Q EX := by
  obtain ⟨l, s, rfl, X, q⟩ := h
  refine ⟨rfl, ?_⟩
  simp [cost_for_w]
  refine cu_use X fun ok => ?_
  have q := q ok
  obtain ⟨cs, ss, rfl, rfl, U⟩ := uok_read ok
  rw [rdL_ints, rdL_ints] at q
  have q : Q (.int (cost cs ss)) := q
  simp [intsT]
  refine ⟨ss, intsD_map _, ?_⟩
  have fin : ∀ m : Int, m = maxI 0 ss → aSumA (.tuple (cutD (cs.map .int) none (some m))) Q := fun m hm => by
    rw [cut_nat _ (by rw [hm]; exact maxI_nn ss), take_ints]
    refine sum_tuple rfl ?_
    rw [hm]
    exact q
  cases ss with
  | nil => 
    simp
    exact fin 0 rfl
  | cons s ss =>
    simp
    refine fin _ ?_
    have := U.s0 s List.mem_cons_self
    show maxI s ss = maxI (max 0 s) ss
    rw [show max 0 s = s by omega]
/-! ### shares -/
def frT (fr : List (Int × Int)) : D := .tuple (fr.map fun p => .tuple [.int p.1, .int p.2])
def Shs (cs ss : List Int) (fr : List (Int × Int)) : Prop := fr.length = ss.length ∧ ∀ k : Nat, k < ss.length → ∃ p : Int × Int, fr[k]? = some p ∧ Fr (val cs ss cs.length (ss.getD k 0)) p.1 p.2
abbrev shares_s : FD := useS fun cs ss Q => ∀ fr, Shs cs ss fr → Q (frT fr)
theorem mono_shares : MonoF shares_s := mono_useS fun M ls Q Q' h q fr S => h _ (q fr S)
def shares_r3 : WS := (wRet (wOpN (f1 aTupleOf) (waCons (wOwn 2) waNil)))
def shares_r2 : WS := wSeq (wFor (wiEnumA (wVar 0)) (wgTup 2 (wgCons (wgName 3) (wgCons (wgName 4) wgNil))) (wSeq (wSet 5 (wLc (wiEnumA (wVar 1)) (wgTup 2 (wgCons (wgName 6) (wgCons (wgName 7) wgNil))) (wTst2 gGt (wVar 7) (wVar 3)) (wVar 6) [6, 7])) (wFor (wiSeq (wVar 5)) (wgName 6) (wPut 2 (wVar 6) (wCall plus_s (wwCons (wOp2 aIx (wOwn 2) (wVar 6)) (wwCons (wCall lowest_s (wwCons (wVar 4) (wwCons (wOpN (f1 aLen) (waCons (wVar 5) waNil)) wwNil))) wwNil))))))) shares_r3
def shares_r1 : WS := wSeq (wSetO 2 (wOp2 aMulL (wLst (waCons (wC (.tuple (List.map PyData.int [0, 1]))) waNil)) (wOpN (f1 aLen) (waCons (wVar 1) waNil)))) shares_r2
def shares_r0 : WS := wSeq (wExpr (wCall check_use_s (wwCons (wVar 0) (wwCons (wVar 1) wwNil)))) shares_r1
def shares_w : WS := wSeq (wExpr (wCall check_use_s (wwCons (wVar 0) (wwCons (wVar 1) wwNil)))) (wSeq (wSetO 2 (wOp2 aMulL (wLst (waCons (wC (.tuple (List.map PyData.int [0, 1]))) waNil)) (wOpN (f1 aLen) (waCons (wVar 1) waNil)))) (wSeq (wFor (wiEnumA (wVar 0)) (wgTup 2 (wgCons (wgName 3) (wgCons (wgName 4) wgNil))) (wSeq (wSet 5 (wLc (wiEnumA (wVar 1)) (wgTup 2 (wgCons (wgName 6) (wgCons (wgName 7) wgNil))) (wTst2 gGt (wVar 7) (wVar 3)) (wVar 6) [6, 7])) (wFor (wiSeq (wVar 5)) (wgName 6) (wPut 2 (wVar 6) (wCall plus_s (wwCons (wOp2 aIx (wOwn 2) (wVar 6)) (wwCons (wCall lowest_s (wwCons (wVar 4) (wwCons (wOpN (f1 aLen) (waCons (wVar 5) waNil)) wwNil))) wwNil))))))) (wRet (wOpN (f1 aTupleOf) (waCons (wOwn 2) waNil)))))
theorem shares_r : shares_w = shares_r0 := rfl
def sh_r1 : WS := (wFor (wiSeq (wVar 5)) (wgName 6) (wPut 2 (wVar 6) (wCall plus_s (wwCons (wOp2 aIx (wOwn 2) (wVar 6)) (wwCons (wCall lowest_s (wwCons (wVar 4) (wwCons (wOpN (f1 aLen) (waCons (wVar 5) waNil)) wwNil))) wwNil)))))
def sh_r0 : WS := wSeq (wSet 5 (wLc (wiEnumA (wVar 1)) (wgTup 2 (wgCons (wgName 6) (wgCons (wgName 7) wgNil))) (wTst2 gGt (wVar 7) (wVar 3)) (wVar 6) [6, 7])) sh_r1
theorem sh_for : shares_r2 = wSeq (wFor (wiEnumA (wVar 0)) (wgTup 2 (wgCons (wgName 3) (wgCons (wgName 4) wgNil))) sh_r0) shares_r3 := rfl
def shE (cs ss : List Int) (A : Nat → Int × Int) (x3 x4 x5 x6 x7 : Option W) : Env' := [some (.d (.tuple (cs.map .int))), some (.d (.tuple (ss.map .int))), some (.own (.list ((List.range ss.length).map fun k => .tuple [.int (A k).1, .int (A k).2]))), x3, x4, x5, x6, x7]
theorem rep_range {α : Type} (x : α) (n : Nat) : List.replicate n x = (List.range n).map fun _ => x := by
  apply List.ext_getElem?
  intro i
  by_cases h : i < n
  · rw [List.getElem?_map, List.getElem?_range h, List.getElem?_replicate, if_pos h]; rfl
  · rw [List.getElem?_eq_none (by simp; omega), List.getElem?_eq_none (by simp; omega)]
theorem users_range (ss : List Int) (j : Nat) : ((List.range ss.length).filter fun k => decide ((j : Int) < ss.getD k 0)).length = users ss j := by
  unfold K19.users
  have e := map_range (fun s : Int => s) 0 ss
  rw [List.map_id'] at e
  conv => rhs; rw [e]
  rw [List.filter_map, List.length_map]
  rfl
theorem meets_shares (ws : List W) (Q : D → Prop) (EX : EXn) (h : shares_s ws Q EX) : mkF 2 8 shares_w ws Q EX := by
  obtain ⟨l, s, rfl, X, q⟩ := h
  refine ⟨rfl, ?_⟩
  rw [shares_r]
  simp [shares_r0]
  refine cu_use X fun ok => ?_
  have q := q ok
  obtain ⟨cs, ss, rfl, rfl, U⟩ := uok_read ok
  rw [rdL_ints, rdL_ints] at q
  have q : ∀ fr, Shs cs ss fr → Q (frT fr) := q
  have hn := U.sl
  simp [shares_r1, intsT]
  refine ⟨by rw [sizeLine_eq]; omega, ?_⟩
  rw [rep_range, sh_for]
  simp
  refine ⟨_, rfl, ?_⟩
  rw [map_range PyData.int 0 cs, enumD_range, ← map_range PyData.int 0 cs]
  refine loop_runM (fun i ρ => ∃ A x3 x4 x5 x6 x7, ρ = shE cs ss A x3 x4 x5 x6 x7 ∧ ∀ k, k < ss.length → Fr (val cs ss i (ss.getD k 0)) (A k).1 (A k).2) ⟨fun _ => (0, 1), none, none, none, none, none, rfl, fun k _ => K19.fr_zero⟩ ?_ ?_
  · rintro i x ρ P e ⟨A, x3, x4, x5, x6, x7, rfl, hA⟩ hP
    obtain ⟨rfl, hx⟩ := range_get e
    have hxc := getD_at hx
    have hc := U.c0 _ (List.mem_of_getElem? hxc)
    simp [shE, sh_r0]
    refine ⟨_, rfl, ?_⟩
    rw [map_range PyData.int 0 ss, enumD_range, ← map_range PyData.int 0 ss]
    refine comp_filtM (fun k => decide ((x : Int) < ss.getD k 0)) (fun k : Nat => .int ((k : Nat) : Int)) (fun k hk R r => ?_) (by rw [List.length_range, sizeLine_eq]; omega) ?_
    · by_cases c : (x : Int) < ss.getD k 0
      · rw [if_pos (decide_eq_true c)] at r
        rw [List.getD_eq_getElem?_getD] at c
        simpa [c] using r
      · rw [if_neg (by simpa using c)] at r
        rw [List.getD_eq_getElem?_getD] at c
        simpa [c] using r
    have hul := users_range ss x
    have hle := K19.users_le (ss := ss) (j := x)
    have hpw : ((List.range ss.length).filter fun k => decide ((x : Int) < ss.getD k 0)).Nodup := (List.Pairwise.filter _ List.pairwise_lt_range).imp (fun h => Nat.ne_of_lt h)
    have hin : ∀ k, k ∈ ((List.range ss.length).filter fun k => decide ((x : Int) < ss.getD k 0)) ↔ k < ss.length ∧ (x : Int) < ss.getD k 0 := fun k => by
      rw [List.mem_filter, List.mem_range, decide_eq_true_eq]
    generalize hus : ((List.range ss.length).filter fun k => decide ((x : Int) < ss.getD k 0)) = us at hul hpw hin
    simp [sh_r1]
    refine ⟨_, rfl, ?_⟩
    refine loop_runM (fun m ρ => ∃ B x6, ρ = shE cs ss B (some (.d (.int (x : Int)))) (some (.d (.int (cs.getD x 0)))) (some (.d (.list (us.map fun k : Nat => .int ((k : Nat) : Int))))) x6 x7 ∧ ∀ k, k < ss.length → Fr (val cs ss x (ss.getD k 0) + if k ∈ us.take m then unit cs ss x else 0) (B k).1 (B k).2) ?_ ?_ ?_
    · exact ⟨A, x6, by simp [shE], fun k hk => by simpa using hA k hk⟩
    · rintro m k ρ P e ⟨B, x6, rfl, hB⟩ hP
      have hk := (hin k).mp (List.mem_of_getElem? e)
      have hu : 0 < users ss x := by rw [← hul]; exact List.length_pos_of_mem (List.mem_of_getElem? e)
      have hg := K19.fr_unit hc.1 hu (by omega)
      have hnot : k ∉ us.take m := fun z => by
        obtain ⟨j, hj⟩ := List.getElem?_of_mem z
        rw [List.getElem?_take] at hj
        split at hj
        · rename_i hjm
          have h1 := (List.getElem?_eq_some_iff.mp e)
          have h2 := (List.getElem?_eq_some_iff.mp hj)
          have := (List.getElem_inj (h₀ := h1.1) (h₁ := h2.1) hpw).mp (by rw [h1.2, h2.2])
          omega
        · cases hj
      have hBk := hB k hk.1
      rw [if_neg hnot, Int.add_zero] at hBk
      have hpl := K19.fr_plus hBk hg
      simp [shE, ownL]
      refine ⟨_, atD_nat (range_at hk.1), ?_⟩
      rw [show (cs[x]?.getD 0) = cs.getD x 0 from (List.getD_eq_getElem?_getD ..).symm, hul]
      refine ⟨_, _, rfl, hc.1, by omega, by omega, ?_⟩
      refine ⟨_, _, _, _, rfl, hBk.p0, hBk.q0, hBk.qN, hg.p0, hg.q0, hg.qN, ?_⟩
      refine ⟨k, ixN_nat hk.1, ?_⟩
      unfold lowD
      generalize ((B k).fst * (↑(users ss x) / ↑((cs.getD x 0).gcd ↑(users ss x))) + cs.getD x 0 / ↑((cs.getD x 0).gcd ↑(users ss x)) * (B k).snd) / ↑(((B k).fst * (↑(users ss x) / ↑((cs.getD x 0).gcd ↑(users ss x))) + cs.getD x 0 / ↑((cs.getD x 0).gcd ↑(users ss x)) * (B k).snd).gcd ((B k).snd * (↑(users ss x) / ↑((cs.getD x 0).gcd ↑(users ss x))))) = p at hpl ⊢
      generalize ((B k).snd * (↑(users ss x) / ↑((cs.getD x 0).gcd ↑(users ss x))) / ↑(((B k).fst * (↑(users ss x) / ↑((cs.getD x 0).gcd ↑(users ss x))) + cs.getD x 0 / ↑((cs.getD x 0).gcd ↑(users ss x)) * (B k).snd).gcd ((B k).snd * (↑(users ss x) / ↑((cs.getD x 0).gcd ↑(users ss x)))))) = q at hpl ⊢
      refine hP _ ⟨fun j => if j = k then (p, q) else B j, some (.d (.int (k : Int))), ?_, fun j hj => ?_⟩
      · have e2 : ((List.range ss.length).map fun j => PyData.tuple [.int (B j).1, .int (B j).2]).set k (.tuple [.int p, .int q]) = (List.range ss.length).map fun j => PyData.tuple [.int (if j = k then (p, q) else B j).1, .int (if j = k then (p, q) else B j).2] := by
          rw [range_set]
          exact List.map_congr_left fun j _ => by by_cases c : j = k <;> simp [c]
        rw [e2]
        rfl
      · rw [List.take_succ, e]
        show K19.Fr _ (if j = k then (p, q) else B j).1 (if j = k then (p, q) else B j).2
        by_cases c : j = k
        · subst c
          rw [if_pos (by simp), if_pos rfl]
          exact hpl
        · rw [if_neg c]
          have := hB j hj
          by_cases d : j ∈ us.take m
          · rw [if_pos d] at this
            rw [if_pos (by simp [d])]
            exact this
          · rw [if_neg d] at this
            rw [if_neg (by simp [d, c])]
            exact this
    · rintro ρ ⟨B, x6, rfl, hB⟩
      refine hP _ ⟨B, _, _, _, x6, x7, rfl, fun k hk => ?_⟩
      have := hB k hk
      rw [List.take_length] at this
      rw [K19.val_succ]
      by_cases c : (x : Int) < ss.getD k 0
      · rw [if_pos c]
        rw [if_pos ((hin k).mpr ⟨hk, c⟩)] at this
        exact this
      · rw [if_neg c]
        rw [if_neg fun z => c ((hin k).mp z).2] at this
        exact this
  · rintro ρ ⟨A, x3, x4, x5, x6, x7, rfl, hA⟩
    simp [shE, shares_r3]
    have := q ((List.range ss.length).map A) ⟨by simp, fun k hk => ⟨A k, range_at hk, by have := hA k hk; rwa [List.length_range] at this⟩⟩
    unfold frT at this
    rw [List.map_map] at this
    exact this
end DD
set_option maxRecDepth 100000
set_option maxHeartbeats 8000000
namespace DD
open PySem PySem.Spec PyProof.Rows L2 GenW
open K19 (Fr val unit users cost unf pay Fair restAt N0)
/-! ### payments -/
abbrev paidOk (n : Nat) (v : D) : Bool := areNums v (n : Int) 0 20000
structure PX (l s v : D) (EX : EXn) : Prop where
  u : UX l s EX
  x3 : uok l s = true → paidOk (rdL s).length v = false → EX (.bad "paid")
structure Pd (cs ss ps : List Int) : Prop where
  u : Ud cs ss
  pl : ps.length = ss.length
  p0 : ∀ p ∈ ps, 0 ≤ p ∧ p ≤ 20000
def pok (l s v : D) : Bool := uok l s && paidOk (rdL s).length v
theorem pok_read {l s v : D} (h : pok l s v = true) : ∃ cs ss ps, l = intsT cs ∧ s = intsT ss ∧ v = intsT ps ∧ Pd cs ss ps := by
  simp only [pok, Bool.and_eq_true] at h
  obtain ⟨cs, ss, rfl, rfl, U⟩ := uok_read h.1
  have h2 := h.2
  rw [rdL_ints] at h2
  obtain ⟨ps, rfl, h3, h4⟩ := areNums_read h2
  exact ⟨cs, ss, ps, rfl, rfl, rfl, U, by omega, h4⟩
theorem pok_ok {cs ss ps : List Int} (P : Pd cs ss ps) : pok (intsT cs) (intsT ss) (intsT ps) = true := by
  simp only [pok, Bool.and_eq_true]
  exact ⟨uok_ok P.u, by rw [rdL_ints]; exact areNums_ints (by rw [P.pl]) P.p0⟩
theorem px_ok {cs ss ps : List Int} {EX : EXn} (P : Pd cs ss ps) : PX (intsT cs) (intsT ss) (intsT ps) EX := by
  have h := pok_ok P
  simp only [pok, Bool.and_eq_true] at h
  exact ⟨ux_ok P.u, fun _ z => by (rw [h.2] at z; cases z)⟩
theorem px_bad {l s v : D} {EX : EXn} (h : uok l s = false) (X : UX l s EX) : PX l s v EX := ⟨X, fun z => by (rw [h] at z; cases z)⟩
theorem px_bad3 {cs ss : List Int} {v : D} {EX : EXn} (U : Ud cs ss) (hx : EX (.bad "paid")) : PX (intsT cs) (intsT ss) v EX := ⟨ux_ok U, fun _ _ => hx⟩
theorem pok1 {l s v : D} (h : uok l s = false) : pok l s v = false := by unfold pok; rw [h]; rfl
theorem pok3 {cs ss : List Int} {v : D} (h : paidOk ss.length v = false) : pok (intsT cs) (intsT ss) v = false := by unfold pok; rw [rdL_ints, h, Bool.and_false]
def payS (K : List Int → List Int → List Int → (D → Prop) → Prop) : FD := fun ws Q EX => ∃ l s v : D, ws = [.d l, .d s, .d v] ∧ PX l s v EX ∧ (pok l s v = true → K (rdL l) (rdL s) (rdL v) Q)
theorem mono_payS {K : List Int → List Int → List Int → (D → Prop) → Prop} (hK : ∀ cs ss ps Q Q', (∀ d, Q d → Q' d) → K cs ss ps Q → K cs ss ps Q') : MonoF (payS K) := fun ws Q Q' EX h ⟨l, m, v, e, x, q⟩ => ⟨l, m, v, e, x, fun z => hK _ _ _ _ _ h (q z)⟩
theorem pay_good {K : List Int → List Int → List Int → (D → Prop) → Prop} {cs ss ps : List Int} {Q : D → Prop} {EX : EXn} (P : Pd cs ss ps) (q : K cs ss ps Q) : payS K [.d (intsT cs), .d (intsT ss), .d (intsT ps)] Q EX :=
  ⟨_, _, _, rfl, px_ok P, fun _ => by rw [rdL_ints, rdL_ints, rdL_ints]; exact q⟩
theorem pay_bad {K : List Int → List Int → List Int → (D → Prop) → Prop} {l s v : D} {Q : D → Prop} {EX : EXn} (c : pok l s v = false) (X : PX l s v EX) : payS K [.d l, .d s, .d v] Q EX := ⟨l, s, v, rfl, X, fun z => by (rw [c] at z; cases z)⟩
/-- the two checks of a payment -/
theorem paid_use {l s v : D} {Q : D → Prop} {EX : EXn} (X : PX l s v EX) {n : Int} (hu : uok l s = true) (hn : n = ((rdL s).length : Int)) (q : pok l s v = true → Q .none) : are_numbers_s [.d v, .d (.int n), .d (.int 0), .d (.int 20000)] (fun d => check_s [.d d, .d (.str "paid")] Q EX) EX := by
  refine ⟨v, n, 0, 20000, rfl, check_use (by decide) (fun h => ?_) (fun h => ?_)⟩
  · refine q ?_
    simp only [pok, Bool.and_eq_true]
    exact ⟨hu, by rw [hn] at h; exact h⟩
  · exact X.x3 hu (by rw [hn] at h; exact h)
def unfD (cs ss ps : List Int) : D := match unf cs ss ps with
  | some t => .int (t : Nat)
  | none => .none
abbrev unfair_s : FD := payS fun cs ss ps Q => Q (unfD cs ss ps)
theorem mono_unfair : MonoF unfair_s := mono_payS fun _ _ _ Q Q' h q => h _ q
def unfair_r3 : WS := (wRet (wC .none))
def unfair_r2 : WS := wSeq (wFor (wiRng1 (wOp2 aAdd (wOpN (f1 aLen) (waCons (wVar 0) waNil)) (wC (.int 1)))) (wgName 3) (wSeq (wSet 4 (wSumG (wiZip (wVar 2) (wVar 1)) (wgTup 2 (wgCons (wgName 5) (wgCons (wgName 6) wgNil))) (wTst2 gLe (wVar 6) (wVar 3)) (wVar 5) [5, 6])) (wIfS (wTst2 gGt (wVar 4) (wOpN (f1 aSumA) (waCons (wCut (wVar 0) woNone (woSome (wVar 3))) waNil))) (wRet (wVar 3)) wSkip))) unfair_r3
def unfair_r1 : WS := wSeq (wExpr (wCall check_s (wwCons (wCall are_numbers_s (wwCons (wVar 2) (wwCons (wOpN (f1 aLen) (waCons (wVar 1) waNil)) (wwCons (wC (.int 0)) (wwCons (wOp2 aMul (wC (.int 1000)) (wC (.int 20))) wwNil))))) (wwCons (wC (.str "paid")) wwNil)))) unfair_r2
def unfair_r0 : WS := wSeq (wExpr (wCall check_use_s (wwCons (wVar 0) (wwCons (wVar 1) wwNil)))) unfair_r1
def unfair_w : WS := wSeq (wExpr (wCall check_use_s (wwCons (wVar 0) (wwCons (wVar 1) wwNil)))) (wSeq (wExpr (wCall check_s (wwCons (wCall are_numbers_s (wwCons (wVar 2) (wwCons (wOpN (f1 aLen) (waCons (wVar 1) waNil)) (wwCons (wC (.int 0)) (wwCons (wOp2 aMul (wC (.int 1000)) (wC (.int 20))) wwNil))))) (wwCons (wC (.str "paid")) wwNil)))) (wSeq (wFor (wiRng1 (wOp2 aAdd (wOpN (f1 aLen) (waCons (wVar 0) waNil)) (wC (.int 1)))) (wgName 3) (wSeq (wSet 4 (wSumG (wiZip (wVar 2) (wVar 1)) (wgTup 2 (wgCons (wgName 5) (wgCons (wgName 6) wgNil))) (wTst2 gLe (wVar 6) (wVar 3)) (wVar 5) [5, 6])) (wIfS (wTst2 gGt (wVar 4) (wOpN (f1 aSumA) (waCons (wCut (wVar 0) woNone (woSome (wVar 3))) waNil))) (wRet (wVar 3)) wSkip))) (wRet (wC .none))))
theorem unfair_r : unfair_w = unfair_r0 := rfl
def uf_r1 : WS := (wIfS (wTst2 gGt (wVar 4) (wOpN (f1 aSumA) (waCons (wCut (wVar 0) woNone (woSome (wVar 3))) waNil))) (wRet (wVar 3)) wSkip)
def uf_r0 : WS := wSeq (wSet 4 (wSumG (wiZip (wVar 2) (wVar 1)) (wgTup 2 (wgCons (wgName 5) (wgCons (wgName 6) wgNil))) (wTst2 gLe (wVar 6) (wVar 3)) (wVar 5) [5, 6])) uf_r1
theorem uf_for : unfair_r2 = wSeq (wFor (wiRng1 (wOp2 aAdd (wOpN (f1 aLen) (waCons (wVar 0) waNil)) (wC (.int 1)))) (wgName 3) uf_r0) unfair_r3 := rfl
def ufE (cs ss ps : List Int) (x3 x4 x5 x6 : Option W) : Env' := [some (.d (.tuple (cs.map .int))), some (.d (.tuple (ss.map .int))), some (.d (.tuple (ps.map .int))), x3, x4, x5, x6]
theorem unf_at {cs ss ps : List Int} {t : Nat} (ht : t ≤ cs.length) (h : (cs.take t).sum < pay ps ss t) (hno : ∀ j, j < t → ¬ (cs.take j).sum < pay ps ss j) : unf cs ss ps = some t := by
  unfold K19.unf
  rw [List.find?_range_eq_some]
  exact ⟨decide_eq_true h, List.mem_range.mpr (by omega), fun j hj => by rw [decide_eq_false (hno j hj)]; rfl⟩
theorem unf_no {cs ss ps : List Int} (h : ∀ j, j ≤ cs.length → ¬ (cs.take j).sum < pay ps ss j) : unf cs ss ps = none := by
  rw [K19.unf_fair]
  exact fun t ht => by have := h t ht; omega
theorem zip_pay (t : Int) : ∀ ps ss : List Int, ((ps.zip ss).map fun p : Int × Int => if p.2 ≤ t then p.1 else 0).sum = pay ps ss t
  | [], ss => by cases ss <;> rfl
  | p :: ps, [] => rfl
  | p :: ps, s :: ss => by
    rw [List.zip_cons_cons, List.map_cons, List.sum_cons, zip_pay t ps ss]
    rfl
theorem meets_unfair (ws : List W) (Q : D → Prop) (EX : EXn) (h : unfair_s ws Q EX) : mkF 3 7 unfair_w ws Q EX := by
  obtain ⟨l, s, v, rfl, X, q⟩ := h
  refine ⟨rfl, ?_⟩
  rw [unfair_r]
  simp [unfair_r0]
  refine cu_use X.u fun hu => ?_
  obtain ⟨cs, ss, rfl, rfl, U⟩ := uok_read hu
  simp [unfair_r1]
  simp only [intsT, ev_lenT, List.length_map]
  refine ⟨cmul_small (by omega) (by omega), ?_⟩
  refine paid_use (s := intsT ss) X hu (by rw [rdL_ints]) fun ok => ?_
  have q := q ok
  obtain ⟨cs', ss', ps, e1, e2, rfl, P⟩ := pok_read ok
  have e1 : cs = cs' := by have := congrArg rdL e1; rwa [rdL_ints, rdL_ints] at this
  have e2 : ss = ss' := by have := congrArg rdL e2; rwa [rdL_ints, rdL_ints] at this
  subst e1 e2
  rw [rdL_ints, rdL_ints, rdL_ints] at q
  have q : Q (unfD cs ss ps) := q
  have hcl := U.cl
  rw [uf_for]
  simp [intsT]
  refine ⟨by unfold rBnd; omega, ?_⟩
  rw [rngD_map]
  have et : ((cs.length : Int) + 1).toNat = cs.length + 1 := by omega
  refine loop_runM (fun i ρ => ∃ x3 x4 x5 x6, ρ = ufE cs ss ps x3 x4 x5 x6 ∧ ∀ j, j < i → ¬ (cs.take j).sum < pay ps ss j) ⟨none, none, none, none, rfl, fun j h => absurd h (Nat.not_lt_zero _)⟩ ?_ ?_
  · rintro i x ρ R e ⟨x3, x4, x5, x6, rfl, hno⟩ hP
    obtain ⟨rfl, hx⟩ := range_get e
    simp [ufE, uf_r0]
    refine ⟨_, _, ⟨rfl, rfl⟩, ?_⟩
    rw [zipD_map]
    refine sum_filtM (fun p => if p.2 ≤ (x : Int) then p.1 else 0) (fun p hp R r => ?_) ?_
    · simp
      by_cases c : p.2 ≤ (x : Int)
      · simpa [c] using r
      · simpa [c] using r
    have es : ((ps.zip ss).map fun p : Int × Int => if p.2 ≤ (x : Int) then p.1 else 0).sum = pay ps ss x := by
      exact zip_pay _ _ _
    rw [es, Int.zero_add]
    simp [uf_r1]
    rw [cut_to, take_ints]
    refine sum_tuple rfl ?_
    simp
    by_cases c : (cs.take x).sum < pay ps ss x
    · rw [if_pos c]
      have : unfD cs ss ps = .int (x : Int) := by
        unfold unfD
        rw [unf_at (by omega) c hno]
      rw [this] at q
      exact q
    · rw [if_neg c]
      refine hP _ ⟨_, _, x5, x6, rfl, fun j hj => ?_⟩
      by_cases z : j = x
      · rw [z]; exact c
      · exact hno j (by omega)
  · rintro ρ ⟨x3, x4, x5, x6, rfl, hno⟩
    rw [List.length_range] at hno
    simp [unfair_r3, ufE]
    have : unfD cs ss ps = .none := by
      unfold unfD
      rw [unf_no fun j hj => hno j (by omega)]
    rw [this] at q
    exact q
abbrev is_fair_s : FD := payS fun cs ss ps Q => Q (.bool (isNone (unfD cs ss ps)))
theorem mono_is_fair : MonoF is_fair_s := mono_payS fun _ _ _ Q Q' h q => h _ q
def is_fair_r2 : WS := (wRet (wCmp2 gIsN (wCall unfair_s (wwCons (wVar 0) (wwCons (wVar 1) (wwCons (wVar 2) wwNil)))) (wC .none)))
def is_fair_r1 : WS := wSeq (wExpr (wCall check_s (wwCons (wCall are_numbers_s (wwCons (wVar 2) (wwCons (wOpN (f1 aLen) (waCons (wVar 1) waNil)) (wwCons (wC (.int 0)) (wwCons (wOp2 aMul (wC (.int 1000)) (wC (.int 20))) wwNil))))) (wwCons (wC (.str "paid")) wwNil)))) is_fair_r2
def is_fair_r0 : WS := wSeq (wExpr (wCall check_use_s (wwCons (wVar 0) (wwCons (wVar 1) wwNil)))) is_fair_r1
def is_fair_w : WS := wSeq (wExpr (wCall check_use_s (wwCons (wVar 0) (wwCons (wVar 1) wwNil)))) (wSeq (wExpr (wCall check_s (wwCons (wCall are_numbers_s (wwCons (wVar 2) (wwCons (wOpN (f1 aLen) (waCons (wVar 1) waNil)) (wwCons (wC (.int 0)) (wwCons (wOp2 aMul (wC (.int 1000)) (wC (.int 20))) wwNil))))) (wwCons (wC (.str "paid")) wwNil)))) (wRet (wCmp2 gIsN (wCall unfair_s (wwCons (wVar 0) (wwCons (wVar 1) (wwCons (wVar 2) wwNil)))) (wC .none))))
theorem is_fair_r : is_fair_w = is_fair_r0 := rfl
theorem meets_is_fair (ws : List W) (Q : D → Prop) (EX : EXn) (h : is_fair_s ws Q EX) : mkF 3 3 is_fair_w ws Q EX := by
  obtain ⟨l, s, v, rfl, X, q⟩ := h
  refine ⟨rfl, ?_⟩
  rw [is_fair_r]
  simp [is_fair_r0]
  refine cu_use X.u fun hu => ?_
  obtain ⟨cs, ss, rfl, rfl, U⟩ := uok_read hu
  simp [is_fair_r1]
  simp only [intsT, ev_lenT, List.length_map]
  refine ⟨cmul_small (by omega) (by omega), ?_⟩
  refine paid_use (s := intsT ss) X hu (by rw [rdL_ints]) fun ok => ?_
  have q := q ok
  obtain ⟨cs', ss', ps, e1, e2, rfl, P⟩ := pok_read ok
  have e1 : cs = cs' := by have := congrArg rdL e1; rwa [rdL_ints, rdL_ints] at this
  have e2 : ss = ss' := by have := congrArg rdL e2; rwa [rdL_ints, rdL_ints] at this
  subst e1 e2
  rw [rdL_ints, rdL_ints, rdL_ints] at q
  simp [is_fair_r2]
  refine pay_good P ?_
  simp
  exact q
/-! ### the greatest payment -/
def Most (cs ss ps : List Int) (k : Nat) (m : Int) : Prop := (∀ t : Nat, ss.getD k 0 ≤ (t : Int) → t ≤ cs.length → m ≤ restAt cs ss (K19.put ps k 0) t) ∧ ∃ t : Nat, ss.getD k 0 ≤ (t : Int) ∧ t ≤ cs.length ∧ m = restAt cs ss (K19.put ps k 0) t
def most_for_s : FD := fun ws Q EX => ∃ l s v n : D, ws = [.d l, .d s, .d v, .d n] ∧ PX l s v EX ∧ (pok l s v = true → isNum n 0 ((rdL s).length - 1) = false → EX (.bad "number")) ∧
  (pok l s v = true → isNum n 0 ((rdL s).length - 1) = true → (unf (rdL l) (rdL s) (K19.put (rdL v) (rdI n).toNat 0) ≠ none → Q .none) ∧ (unf (rdL l) (rdL s) (K19.put (rdL v) (rdI n).toNat 0) = none → ∀ m, Most (rdL l) (rdL s) (rdL v) (rdI n).toNat m → Q (.int m)))
theorem mono_most_for : MonoF most_for_s := fun ws Q Q' EX h ⟨l, s, v, n, e, x, y, q⟩ => ⟨l, s, v, n, e, x, y, fun a b => ⟨fun z => h _ ((q a b).1 z), fun z m hm => h _ ((q a b).2 z m hm)⟩⟩
def most_for_r7 : WS := (wRet (wOpN (f1 (aBest minI)) (waCons (wOwn 5) waNil)))
def most_for_r6 : WS := wSeq (wFor (wiRng2 (wOp2 aIx (wVar 1) (wVar 3)) (wOp2 aAdd (wOpN (f1 aLen) (waCons (wVar 0) waNil)) (wC (.int 1)))) (wgName 6) (wApp 5 (wOp2 aSub (wOpN (f1 aSumA) (waCons (wCut (wVar 0) woNone (woSome (wVar 6))) waNil)) (wSumG (wiZip (wVar 4) (wVar 1)) (wgTup 2 (wgCons (wgName 7) (wgCons (wgName 8) wgNil))) (wTst2 gLe (wVar 8) (wVar 6)) (wVar 7) [7, 8])))) most_for_r7
def most_for_r5 : WS := wSeq (wSetO 5 (wLst waNil)) most_for_r6
def most_for_r4 : WS := wSeq (wIfS (wTst2 gNotN (wCall unfair_s (wwCons (wVar 0) (wwCons (wVar 1) (wwCons (wVar 4) wwNil)))) (wC .none)) (wRet (wC .none)) wSkip) most_for_r5
def most_for_r3 : WS := wSeq (wSet 4 (wOp2 aAdd (wOp2 aAdd (wCut (wVar 2) woNone (woSome (wVar 3))) (wTup (waCons (wC (.int 0)) waNil))) (wCut (wVar 2) (woSome (wOp2 aAdd (wVar 3) (wC (.int 1)))) woNone))) most_for_r4
def most_for_r2 : WS := wSeq (wExpr (wCall check_s (wwCons (wCall is_number_s (wwCons (wVar 3) (wwCons (wC (.int 0)) (wwCons (wOp2 aSub (wOpN (f1 aLen) (waCons (wVar 1) waNil)) (wC (.int 1))) wwNil)))) (wwCons (wC (.str "number")) wwNil)))) most_for_r3
def most_for_r1 : WS := wSeq (wExpr (wCall check_s (wwCons (wCall are_numbers_s (wwCons (wVar 2) (wwCons (wOpN (f1 aLen) (waCons (wVar 1) waNil)) (wwCons (wC (.int 0)) (wwCons (wOp2 aMul (wC (.int 1000)) (wC (.int 20))) wwNil))))) (wwCons (wC (.str "paid")) wwNil)))) most_for_r2
def most_for_r0 : WS := wSeq (wExpr (wCall check_use_s (wwCons (wVar 0) (wwCons (wVar 1) wwNil)))) most_for_r1
def most_for_w : WS := wSeq (wExpr (wCall check_use_s (wwCons (wVar 0) (wwCons (wVar 1) wwNil)))) (wSeq (wExpr (wCall check_s (wwCons (wCall are_numbers_s (wwCons (wVar 2) (wwCons (wOpN (f1 aLen) (waCons (wVar 1) waNil)) (wwCons (wC (.int 0)) (wwCons (wOp2 aMul (wC (.int 1000)) (wC (.int 20))) wwNil))))) (wwCons (wC (.str "paid")) wwNil)))) (wSeq (wExpr (wCall check_s (wwCons (wCall is_number_s (wwCons (wVar 3) (wwCons (wC (.int 0)) (wwCons (wOp2 aSub (wOpN (f1 aLen) (waCons (wVar 1) waNil)) (wC (.int 1))) wwNil)))) (wwCons (wC (.str "number")) wwNil)))) (wSeq (wSet 4 (wOp2 aAdd (wOp2 aAdd (wCut (wVar 2) woNone (woSome (wVar 3))) (wTup (waCons (wC (.int 0)) waNil))) (wCut (wVar 2) (woSome (wOp2 aAdd (wVar 3) (wC (.int 1)))) woNone))) (wSeq (wIfS (wTst2 gNotN (wCall unfair_s (wwCons (wVar 0) (wwCons (wVar 1) (wwCons (wVar 4) wwNil)))) (wC .none)) (wRet (wC .none)) wSkip) (wSeq (wSetO 5 (wLst waNil)) (wSeq (wFor (wiRng2 (wOp2 aIx (wVar 1) (wVar 3)) (wOp2 aAdd (wOpN (f1 aLen) (waCons (wVar 0) waNil)) (wC (.int 1)))) (wgName 6) (wApp 5 (wOp2 aSub (wOpN (f1 aSumA) (waCons (wCut (wVar 0) woNone (woSome (wVar 6))) waNil)) (wSumG (wiZip (wVar 4) (wVar 1)) (wgTup 2 (wgCons (wgName 7) (wgCons (wgName 8) wgNil))) (wTst2 gLe (wVar 8) (wVar 6)) (wVar 7) [7, 8])))) (wRet (wOpN (f1 (aBest minI)) (waCons (wOwn 5) waNil)))))))))
theorem most_for_r : most_for_w = most_for_r0 := rfl
theorem minI_le : ∀ (ns : List Int) (n : Int), minI n ns ≤ n ∧ (∀ x ∈ ns, minI n ns ≤ x) ∧ (minI n ns = n ∨ minI n ns ∈ ns)
  | [], n => ⟨Int.le_refl _, fun x h => (List.not_mem_nil h).elim, .inl rfl⟩
  | a :: ns, n => by
    obtain ⟨h1, h2, h3⟩ := minI_le ns (min n a)
    have e : minI n (a :: ns) = minI (min n a) ns := rfl
    rw [e]
    refine ⟨by omega, fun x hx => ?_, ?_⟩
    · rcases List.mem_cons.mp hx with rfl | hx
      · omega
      · exact h2 x hx
    · rcases h3 with h3 | h3
      · by_cases c : n ≤ a
        · left; omega
        · right; rw [h3, show min n a = a by omega]; exact List.mem_cons_self
      · right; exact List.mem_cons_of_mem _ h3
def mfE (cs ss ps os : List Int) (k : Nat) (rs : List Int) (x6 x7 x8 : Option W) : Env' := [some (.d (.tuple (cs.map .int))), some (.d (.tuple (ss.map .int))), some (.d (.tuple (ps.map .int))), some (.d (.int (k : Int))), some (.d (.tuple (os.map .int))), some (.own (.list (rs.map .int))), x6, x7, x8]
theorem put_ints {ps : List Int} {k : Nat} {m : Int} : (K19.put ps k m).map PyData.int = (ps.map PyData.int).take k ++ [.int m] ++ (ps.map PyData.int).drop (k + 1) := by
  unfold K19.put
  rw [List.map_append, List.map_append, List.map_take, List.map_drop]
  rfl
theorem meets_most_for (ws : List W) (Q : D → Prop) (EX : EXn) (h : most_for_s ws Q EX) : mkF 4 9 most_for_w ws Q EX := by
  obtain ⟨l, s, v, n, rfl, X, X4, q⟩ := h
  refine ⟨rfl, ?_⟩
  rw [most_for_r]
  simp [most_for_r0]
  refine cu_use X.u fun hu => ?_
  obtain ⟨cs, ss, rfl, rfl, U⟩ := uok_read hu
  simp [most_for_r1]
  simp only [intsT, ev_lenT, List.length_map]
  refine ⟨cmul_small (by omega) (by omega), ?_⟩
  refine paid_use (s := intsT ss) X hu (by rw [rdL_ints]) fun ok => ?_
  have q := q ok
  have X4 := X4 ok
  obtain ⟨cs', ss', ps, e1, e2, rfl, P⟩ := pok_read ok
  have e1 : cs = cs' := by have := congrArg rdL e1; rwa [rdL_ints, rdL_ints] at this
  have e2 : ss = ss' := by have := congrArg rdL e2; rwa [rdL_ints, rdL_ints] at this
  subst e1 e2
  rw [rdL_ints, rdL_ints, rdL_ints] at q
  rw [rdL_ints] at X4
  have hcl := U.cl
  have hsl := U.sl
  have hpl := P.pl
  simp [most_for_r2, intsT]
  refine ⟨n, 0, (ss.length : Int) - 1, rfl, check_use (by decide) (fun hk => ?_) (fun hk => X4 ok hk)⟩
  have q := q hk
  obtain ⟨k', rfl, hk0, hk1⟩ := isNum_int hk
  obtain ⟨k, rfl⟩ := Int.eq_ofNat_of_zero_le hk0
  have hkl : k < ss.length := by omega
  have q : (unf cs ss (K19.put ps k 0) ≠ none → Q .none) ∧ (unf cs ss (K19.put ps k 0) = none → ∀ m, Most cs ss ps k m → Q (.int m)) := q
  simp [most_for_r3]
  rw [cut_to, show (k : Int) + 1 = ((k + 1 : Nat) : Int) by omega, cut_from]
  refine ⟨by rw [sizeLine_eq]; simp; omega, by rw [sizeLine_eq]; simp; omega, ?_⟩
  have ep : (ps.map PyData.int).take k ++ PyData.int 0 :: (ps.map PyData.int).drop (k + 1) = (K19.put ps k 0).map .int := by rw [put_ints]; simp
  rw [ep]
  have hol := K19.put_len (ps := ps) (k := k) (m := 0) (by omega)
  have hPo : Pd cs ss (K19.put ps k 0) := ⟨P.u, by omega, fun x hx => by
    unfold K19.put at hx
    rcases List.mem_append.mp hx with hx | hx
    · rcases List.mem_append.mp hx with hx | hx
      · exact P.p0 x (List.mem_of_mem_take hx)
      · rw [List.mem_singleton.mp hx]; omega
    · exact P.p0 x (List.mem_of_mem_drop hx)⟩
  have hM : ∀ m, Most cs ss ps k m ↔ (∀ t : Nat, ss.getD k 0 ≤ (t : Int) → t ≤ cs.length → m ≤ restAt cs ss (K19.put ps k 0) t) ∧ ∃ t : Nat, ss.getD k 0 ≤ (t : Int) ∧ t ≤ cs.length ∧ m = restAt cs ss (K19.put ps k 0) t := fun m => Iff.rfl
  generalize hos : K19.put ps k 0 = os at q hPo hol hM
  simp [most_for_r4]
  refine pay_good (cs := cs) (ss := ss) (ps := os) hPo ?_
  cases hf : unf cs ss os with
  | some t =>
    have : unfD cs ss os = .int (t : Nat) := by unfold unfD; rw [hf]
    rw [this]
    simp [isNone]
    exact q.1 (by rw [hf]; simp)
  | none =>
    have : unfD cs ss os = .none := by unfold unfD; rw [hf]
    rw [this]
    simp [isNone]
    have q := q.2 hf
    have hsk := P.u.s0 (ss.getD k 0) (List.mem_of_getElem? (getD_at hkl))
    simp [most_for_r5, most_for_r6]
    refine ⟨_, atD_nat (ints_get (getD_at hkl)), _, rfl, by unfold rBnd; omega, by unfold rBnd; omega, ?_⟩
    rw [rngD_map]
    obtain ⟨a, ha⟩ := Int.eq_ofNat_of_zero_le hsk.1
    rw [ha] at hsk hM ⊢
    have hn : ((cs.length : Int) + 1 - (a : Int)).toNat = cs.length + 1 - a := by omega
    rw [hn]
    refine loop_runM (fun i ρ => ∃ x6 x7 x8, ρ = mfE cs ss ps os k ((List.range i).map fun j => restAt cs ss os (a + j)) x6 x7 x8) ⟨none, none, none, rfl⟩ ?_ ?_
    · rintro i x ρ R e ⟨x6, x7, x8, rfl⟩ hP
      obtain ⟨rfl, hx⟩ := range_get e
      simp [mfE, ownL]
      rw [show (a : Int) + (x : Int) = ((a + x : Nat) : Int) by omega, cut_to, take_ints]
      refine sum_tuple rfl ?_
      refine ⟨_, _, ⟨rfl, rfl⟩, ?_⟩
      rw [zipD_map]
      refine sum_filtM (fun p => if p.2 ≤ ((a + x : Nat) : Int) then p.1 else 0) (fun p hp R r => ?_) ?_
      · simp
        by_cases c : p.2 ≤ ((a + x : Nat) : Int)
        · rw [if_pos c] at r
          simp at c
          simpa [c] using r
        · rw [if_neg c] at r
          simp at c
          simpa [show ¬ p.2 ≤ (a : Int) + (x : Int) by omega] using r
      have es : ((os.zip ss).map fun p : Int × Int => if p.2 ≤ ((a + x : Nat) : Int) then p.1 else 0).sum = pay os ss ((a + x : Nat) : Int) := by
        exact zip_pay _ _ _
      rw [es, Int.zero_add]
      simp
      refine ⟨by rw [sizeLine_eq]; omega, hP _ ⟨some (.d (.int ((a + x : Nat) : Int))), x7, x8, ?_⟩⟩
      rw [List.range_succ]
      simp [mfE, K19.restAt]
    · rintro ρ ⟨x6, x7, x8, rfl⟩
      simp [mfE, most_for_r7]
      have hpos : cs.length + 1 - a = (cs.length - a) + 1 := by omega
      rw [hpos]
      refine best_list (n := restAt cs ss os a) (ns := (List.range (cs.length - a)).map fun j => restAt cs ss os (a + (j + 1))) (by rw [List.range_succ_eq_map]; simp) ?_
      refine q _ ?_
      rw [hM]
      obtain ⟨h1, h2, h3⟩ := minI_le ((List.range (cs.length - a)).map fun j => restAt cs ss os (a + (j + 1))) (restAt cs ss os a)
      refine ⟨fun t ht1 ht2 => ?_, ?_⟩
      · by_cases c : t = a
        · rw [c]; exact h1
        · exact h2 _ (List.mem_map.mpr ⟨t - a - 1, List.mem_range.mpr (by omega), by rw [show a + (t - a - 1 + 1) = t by omega]⟩)
      · rcases h3 with h3 | h3
        · exact ⟨a, by omega, by omega, h3⟩
        · obtain ⟨j, hj, e⟩ := List.mem_map.mp h3
          rw [List.mem_range] at hj
          exact ⟨a + (j + 1), by omega, by omega, e.symm⟩
end DD
set_option maxRecDepth 100000
set_option maxHeartbeats 8000000
namespace DD
open PySem PySem.Spec PyProof.Rows L2 GenW
open K19 (Fr val unit users cost unf pay Fair restAt N0 ords added mar fact)
/-! ### the law: costs, parts, sums -/
def _law_cost_w : WS := wRet (wOpN (f1 aSumA) (waCons (wCut (wVar 0) woNone (woSome (wOpN (f1 (aBest maxI)) (waCons (wOp2 aAddL (wLst (waCons (wC (.int 0)) waNil)) (wOpN (f1 aListOf) (waCons (wVar 1) waNil))) waNil)))) waNil))
def _law_cost_s : FD := fun ws Q _ => ∃ (cs ss : List Int) (d : D), ws = [.d (intsT cs), .d d] ∧ seqD d = some (ss.map .int) ∧ ss.length ≤ 1000 ∧ Q (.int (cost cs ss))
theorem mono__law_cost : MonoF _law_cost_s := fun ws Q Q' EX h ⟨cs, ss, d, e, h1, h2, q⟩ => ⟨cs, ss, d, e, h1, h2, h _ q⟩
theorem meets__law_cost (ws : List W) (Q : D → Prop) (EX : EXn) (h : _law_cost_s ws Q EX) : mkF 2 2 _law_cost_w ws Q EX := by
  obtain ⟨cs, ss, d, rfl, hd, hn, q⟩ := h
  refine ⟨rfl, ?_⟩
  have fin : (1 + ss.length ≤ sizeLine) ∧ aBest maxI (.list (.int 0 :: ss.map .int)) (fun d => ∃ i, d = .int i ∧ aCut none (some i) (intsT cs) fun d => aSumA d Q) := by
    refine ⟨by rw [sizeLine_eq]; omega, best_list (n := 0) (ns := ss) rfl ⟨_, rfl, ?_⟩⟩
    rw [intsT, ev_cutT, cut_nat _ (maxI_nn ss), take_ints]
    exact sum_tuple rfl q
  cases d with
  | list xs =>
    cases hd
    simpa [_law_cost_w, Nat.add_comm] using fin
  | tuple xs =>
    cases hd
    simpa [_law_cost_w, Nat.add_comm] using fin
  | _ => cases hd
theorem lc_use {cs ss : List Int} {d : D} {Q : D → Prop} {EX : EXn} (hd : seqD d = some (ss.map .int)) (hn : ss.length ≤ 1000) (q : Q (.int (cost cs ss))) : _law_cost_s [.d (intsT cs), .d d] Q EX := ⟨cs, ss, d, rfl, hd, hn, q⟩
def _law_part_r3 : WS := (wRet (wAndV (wCmp2 gGt (wOp2 aIx (wVar 0) (wC (.int 1))) (wC (.int 0))) (wCmp2 gEq (wVar 2) (wC (.int 1)))))
def _law_part_r2 : WS := wSeq (wWhile (wTst2 gNe (wVar 3) (wC (.int 0))) (wPar [2, 3] (wmD (wVar 3) (wmD (wOp2 aMod (wVar 2) (wVar 3)) wmNil)))) _law_part_r3
def _law_part_r1 : WS := wSeq (wPar [2, 3] (wmD (wOpN (f1 aAbs) (waCons (wOp2 aIx (wVar 0) (wC (.int 0))) waNil)) (wmD (wOp2 aIx (wVar 0) (wC (.int 1))) wmNil))) _law_part_r2
def _law_part_r0 : WS := wSeq (wIfS (wOr (wNot (wTru (wIsi "tuple" (wVar 0)))) (wOr (wTst2 gNe (wOpN (f1 aLen) (waCons (wVar 0) waNil)) (wC (.int 2))) (wTst2 gNe (wLc (wiSeq (wVar 0)) (wgName 1) (wOr (wNot (wTru (wIsi "int" (wVar 1)))) (wTru (wIsi "bool" (wVar 1)))) (wVar 1) [1]) (wLst waNil)))) (wRet (wC (.bool false))) wSkip) _law_part_r1
def _law_part_w : WS := wSeq (wIfS (wOr (wNot (wTru (wIsi "tuple" (wVar 0)))) (wOr (wTst2 gNe (wOpN (f1 aLen) (waCons (wVar 0) waNil)) (wC (.int 2))) (wTst2 gNe (wLc (wiSeq (wVar 0)) (wgName 1) (wOr (wNot (wTru (wIsi "int" (wVar 1)))) (wTru (wIsi "bool" (wVar 1)))) (wVar 1) [1]) (wLst waNil)))) (wRet (wC (.bool false))) wSkip) (wSeq (wPar [2, 3] (wmD (wOpN (f1 aAbs) (waCons (wOp2 aIx (wVar 0) (wC (.int 0))) waNil)) (wmD (wOp2 aIx (wVar 0) (wC (.int 1))) wmNil))) (wSeq (wWhile (wTst2 gNe (wVar 3) (wC (.int 0))) (wPar [2, 3] (wmD (wVar 3) (wmD (wOp2 aMod (wVar 2) (wVar 3)) wmNil)))) (wRet (wAndV (wCmp2 gGt (wOp2 aIx (wVar 0) (wC (.int 1))) (wC (.int 0))) (wCmp2 gEq (wVar 2) (wC (.int 1)))))))
theorem _law_part_r : _law_part_w = _law_part_r0 := rfl
def _law_part_s : FD := fun ws Q _ => ∃ p q : Int, ws = [.d (.tuple [.int p, .int q])] ∧ 0 ≤ p ∧ 0 < q ∧ Int.gcd p q = 1 ∧ Q (.bool true)
theorem mono__law_part : MonoF _law_part_s := fun ws Q Q' EX h ⟨a, b, e, h1, h2, h3, q⟩ => ⟨a, b, e, h1, h2, h3, h _ q⟩
theorem meets__law_part (ws : List W) (Q : D → Prop) (EX : EXn) (h : _law_part_s ws Q EX) : mkF 1 4 _law_part_w ws Q EX := by
  obtain ⟨a, b, rfl, ha, hb, hg, q⟩ := h
  refine ⟨rfl, ?_⟩
  obtain ⟨x, rfl⟩ := Int.eq_ofNat_of_zero_le ha
  obtain ⟨y, rfl⟩ := Int.eq_ofNat_of_zero_le (Int.le_of_lt hb)
  have hg : Nat.gcd x y = 1 := hg
  rw [_law_part_r]
  simp [_law_part_r0, isTy, tyD]
  refine ⟨_, rfl, ?_⟩
  refine comp_evalM (xs := [(x : Int), (y : Int)]) (h := PyData.int) (fun _ => none) (fun z hz R r => ?_) (by rw [sizeLine_eq]; simp) ?_
  · simpa [isTy, tyD] using r
  rw [filterMap_no, List.append_nil]
  refine ne_nil shaped_nil ?_
  simp [_law_part_r1]
  refine ⟨_, atD_nat (i := 0) rfl, ?_⟩
  simp only [aAbs]
  rw [if_neg (by omega)]
  refine ⟨_, atD_nat (i := 1) rfl, ?_⟩
  simp [setAll, Mv.w, _law_part_r2]
  refine ⟨fun m ρ => ∃ u : Nat, ρ = [some (.d (.tuple [.int (x : Int), .int (y : Int)])), none, some (.d (.int (u : Int))), some (.d (.int (m : Int)))] ∧ Nat.gcd u m = 1, ⟨y, x, rfl, hg⟩, ?_⟩
  rintro m ρ ⟨u, rfl, hg⟩
  simp
  by_cases c : m = 0
  · subst c
    rw [Nat.gcd_zero_right] at hg
    subst hg
    simp [_law_part_r3]
    refine ⟨_, atD_nat (i := 1) rfl, ?_⟩
    simp
    have : 0 < y := by omega
    simp [this]
    exact q
  · simp [c, setAll, Mv.w]
    refine ⟨by omega, u % m, Nat.mod_lt _ (by omega), m, ⟨rfl, by simp⟩, ?_⟩
    exact gcd_step hg
/-- a row of a sum: how many times which fraction -/
abbrev Row3 := Int × Int × Int
def row3 (r : Row3) : D := .tuple [.int r.1, .tuple [.int r.2.1, .int r.2.2]]
def sumF : List Row3 → Int × Int → Int × Int
  | [], a => a
  | r :: rs, a => sumF rs (a.1 * r.2.2 + r.1 * r.2.1 * a.2, a.2 * r.2.2)
structure RowOk (r : Row3) : Prop where
  m : -(2 ^ 60) ≤ r.1 ∧ r.1 ≤ 2 ^ 60
  q : 0 < r.2.2 ∧ r.2.2 ≤ 2 ^ 60
  mp : -(2 ^ 60) ≤ r.1 * r.2.1 ∧ r.1 * r.2.1 ≤ 2 ^ 60
def _law_sum_w : WS := wSeq (wPar [1, 2] (wmD (wC (.int 0)) (wmD (wC (.int 1)) wmNil))) (wSeq (wFor (wiSeq (wVar 0)) (wgTup 2 (wgCons (wgName 3) (wgCons (wgName 4) wgNil))) (wPar [1, 2] (wmD (wOp2 aAdd (wOp2 aMul (wVar 1) (wOp2 aIx (wVar 4) (wC (.int 1)))) (wOp2 aMul (wOp2 aMul (wVar 3) (wOp2 aIx (wVar 4) (wC (.int 0)))) (wVar 2))) (wmD (wOp2 aMul (wVar 2) (wOp2 aIx (wVar 4) (wC (.int 1)))) wmNil)))) (wRet (wTup (waCons (wVar 1) (waCons (wVar 2) waNil)))))
def _law_sum_s : FD := fun ws Q _ => ∃ rs : List Row3, ws = [.d (.list (rs.map row3))] ∧ (∀ r ∈ rs, RowOk r) ∧ Q (.tuple [.int (sumF rs (0, 1)).1, .int (sumF rs (0, 1)).2])
theorem mono__law_sum : MonoF _law_sum_s := fun ws Q Q' EX h ⟨rs, e, h1, q⟩ => ⟨rs, e, h1, h _ q⟩
theorem meets__law_sum (ws : List W) (Q : D → Prop) (EX : EXn) (h : _law_sum_s ws Q EX) : mkF 1 5 _law_sum_w ws Q EX := by
  obtain ⟨rs, rfl, hr, q⟩ := h
  refine ⟨rfl, ?_⟩
  simp [_law_sum_w, setAll, Mv.w]
  refine ⟨_, rfl, ?_⟩
  refine loop_runM (fun i ρ => ∃ (a : Int × Int) (x3 x4 : Option W), ρ = [some (.d (.list (rs.map row3))), some (.d (.int a.1)), some (.d (.int a.2)), x3, x4] ∧ sumF rs (0, 1) = sumF (rs.drop i) a) ⟨(0, 1), none, none, rfl, rfl⟩ ?_ ?_
  · rintro i r ρ P e ⟨a, x3, x4, rfl, ha⟩ hP
    have hi := (List.getElem?_eq_some_iff.mp e).1
    have er := (List.getElem?_eq_some_iff.mp e).2
    rw [List.drop_eq_getElem_cons hi, er] at ha
    have ok := hr r (List.mem_of_getElem? e)
    have h1 := ok.m
    have h2 := ok.q
    have h3 := ok.mp
    simp [row3]
    refine ⟨_, atD_nat (i := 1) rfl, cmul_right (by omega) (by omega), _, atD_nat (i := 0) rfl, cmul_small (by omega) (by omega), cmul_small (by omega) (by omega), _, atD_nat (i := 1) rfl, cmul_right (by omega) (by omega), ?_⟩
    exact hP _ ⟨(a.1 * r.2.2 + r.1 * r.2.1 * a.2, a.2 * r.2.2), some (.d (.int r.1)), some (.d (.tuple [.int r.2.1, .int r.2.2])), rfl, ha⟩
  · rintro ρ ⟨a, x3, x4, rfl, ha⟩
    rw [List.drop_length] at ha
    simp
    rw [ha] at q
    exact q
/-- the sum in common parts -/
theorem sumF_eq (vs : Row3 → Int) : ∀ (rs : List Row3) (a : Int × Int) (v : Int), 0 < a.2 → a.1 * N0 = a.2 * v → (∀ r ∈ rs, 0 < r.2.2 ∧ r.2.1 * N0 = r.2.2 * vs r) → 0 < (sumF rs a).2 ∧ (sumF rs a).1 * N0 = (sumF rs a).2 * (v + (rs.map fun r => r.1 * vs r).sum)
  | [], a, v, h0, h, _ => ⟨h0, by simpa [sumF] using h⟩
  | r :: rs, a, v, h0, h, hr => by
    obtain ⟨h1, h2⟩ := hr r List.mem_cons_self
    have := sumF_eq vs rs (a.1 * r.2.2 + r.1 * r.2.1 * a.2, a.2 * r.2.2) (v + r.1 * vs r) (Int.mul_pos h0 h1) (by
      show (a.1 * r.2.2 + r.1 * r.2.1 * a.2) * N0 = a.2 * r.2.2 * (v + r.1 * vs r)
      calc (a.1 * r.2.2 + r.1 * r.2.1 * a.2) * N0 = (a.1 * N0) * r.2.2 + r.1 * (r.2.1 * N0) * a.2 := by rw [Int.add_mul]; congr 1 <;> ac_rfl
        _ = (a.2 * v) * r.2.2 + r.1 * (r.2.2 * vs r) * a.2 := by rw [h, h2]
        _ = _ := by rw [Int.mul_add]; congr 1 <;> ac_rfl) fun s hs => hr s (List.mem_cons_of_mem _ hs)
    rw [List.map_cons, List.sum_cons, ← Int.add_assoc]
    exact this
/-- a sum that comes to nothing -/
theorem sumF_zero (vs : Row3 → Int) {rs : List Row3} (hr : ∀ r ∈ rs, 0 < r.2.2 ∧ r.2.1 * N0 = r.2.2 * vs r) (h : (rs.map fun r => r.1 * vs r).sum = 0) : (sumF rs (0, 1)).1 = 0 := by
  obtain ⟨h1, h2⟩ := sumF_eq vs rs (0, 1) 0 (by decide) (by decide) hr
  rw [h, Int.add_zero, Int.mul_zero] at h2
  rcases Int.mul_eq_zero.mp h2 with h2 | h2
  · exact h2
  · exact absurd h2 (by decide)
/-! ### the law: all sequences -/
theorem nat_in {t : List Nat} {i : Nat} {neg : Bool} {Q : Bool → Prop} (q : Q (if neg = true then !t.contains i else t.contains i)) : gIn neg (.int (i : Int)) (.tuple (t.map fun k : Nat => .int (k : Int))) Q := by
  refine ⟨⟨rfl, ?_⟩, ?_⟩
  · rw [List.all_map, List.all_eq_true]
    exact fun x _ => rfl
  · have : ((t.map fun k : Nat => PyData.int (k : Int)).any fun z => PyData.eqv z (.int (i : Int))) = t.contains i := by
      rw [List.any_map, Bool.eq_iff_iff, List.any_eq_true, List.contains_iff_mem]
      constructor
      · intro ⟨x, hx, hx2⟩
        have : (x : Int) = (i : Int) := by simpa [PyData.eqv] using hx2
        have : x = i := by omega
        rw [← this]; exact hx
      · intro h
        exact ⟨i, h, by simp [PyData.eqv]⟩
    rw [this]
    cases neg <;> simpa using q
def natsT (t : List Nat) : D := .tuple (t.map fun k : Nat => .int (k : Int))
def rowsT (o : List (List Nat)) : D := .list (o.map natsT)
def _law_orders_r2 : WS := (wRet (wVar 1))
def _law_orders_r1 : WS := wSeq (wFor (wiRng1 (wVar 0)) (wgName 2) (wSeq (wSet 3 (wLst waNil)) (wSeq (wFor (wiSeq (wVar 1)) (wgName 4) (wSet 3 (wOp2 aAddL (wVar 3) (wLc (wiRng1 (wVar 0)) (wgName 5) (wTst2 (gIn true) (wVar 5) (wVar 4)) (wOp2 aAdd (wVar 4) (wTup (waCons (wVar 5) waNil))) [5])))) (wSet 1 (wVar 3))))) _law_orders_r2
def _law_orders_r0 : WS := wSeq (wSet 1 (wLst (waCons (wTup waNil) waNil))) _law_orders_r1
def _law_orders_w : WS := wSeq (wSet 1 (wLst (waCons (wTup waNil) waNil))) (wSeq (wFor (wiRng1 (wVar 0)) (wgName 2) (wSeq (wSet 3 (wLst waNil)) (wSeq (wFor (wiSeq (wVar 1)) (wgName 4) (wSet 3 (wOp2 aAddL (wVar 3) (wLc (wiRng1 (wVar 0)) (wgName 5) (wTst2 (gIn true) (wVar 5) (wVar 4)) (wOp2 aAdd (wVar 4) (wTup (waCons (wVar 5) waNil))) [5])))) (wSet 1 (wVar 3))))) (wRet (wVar 1)))
theorem _law_orders_r : _law_orders_w = _law_orders_r0 := rfl
def lo_r2 : WS := (wSet 1 (wVar 3))
def lo_r1 : WS := wSeq (wFor (wiSeq (wVar 1)) (wgName 4) (wSet 3 (wOp2 aAddL (wVar 3) (wLc (wiRng1 (wVar 0)) (wgName 5) (wTst2 (gIn true) (wVar 5) (wVar 4)) (wOp2 aAdd (wVar 4) (wTup (waCons (wVar 5) waNil))) [5])))) lo_r2
def lo_r0 : WS := wSeq (wSet 3 (wLst waNil)) lo_r1
theorem lo_for : _law_orders_r1 = wSeq (wFor (wiRng1 (wVar 0)) (wgName 2) lo_r0) _law_orders_r2 := rfl
def _law_orders_s : FD := fun ws Q _ => ∃ n : Nat, ws = [.d (.int (n : Int))] ∧ n ≤ 5 ∧ Q (rowsT (ords n))
theorem mono__law_orders : MonoF _law_orders_s := fun ws Q Q' EX h ⟨n, e, h1, q⟩ => ⟨n, e, h1, h _ q⟩
theorem ords_len : ∀ n : Nat, n < 6 → ∀ i : Nat, i < n + 1 → (K19.ordsF n i).length ≤ 120 := by decide +kernel
theorem ords_row : ∀ n : Nat, n < 6 → ∀ i : Nat, i < n + 1 → ∀ o ∈ K19.ordsF n i, o.length ≤ 5 := by decide +kernel
theorem longer_take {n : Nat} (rows : List (List Nat)) (m : Nat) : (K19.longer n (rows.take m)).length ≤ (K19.longer n rows).length := by
  conv => rhs; rw [← List.take_append_drop m rows]
  unfold K19.longer
  rw [List.flatMap_append, List.length_append]
  omega
theorem meets__law_orders (ws : List W) (Q : D → Prop) (EX : EXn) (h : _law_orders_s ws Q EX) : mkF 1 6 _law_orders_w ws Q EX := by
  obtain ⟨n, rfl, hn, q⟩ := h
  refine ⟨rfl, ?_⟩
  rw [_law_orders_r]
  simp [_law_orders_r0]
  rw [lo_for]
  simp
  refine ⟨by unfold rBnd; omega, ?_⟩
  rw [rngD_map]
  refine loop_runM (fun i ρ => ∃ x2 x3 x4 x5, ρ = [some (.d (.int (n : Int))), some (.d (rowsT (K19.ordsF n i))), x2, x3, x4, x5]) ⟨none, none, none, none, rfl⟩ ?_ ?_
  · rintro i x ρ P e ⟨x2, x3, x4, x5, rfl⟩ hP
    obtain ⟨rfl, hx⟩ := range_get e
    simp [lo_r0]
    simp [lo_r1, rowsT]
    refine ⟨_, rfl, ?_⟩
    have hlen := ords_len n (by omega) (x + 1) (by omega)
    have hlong : K19.ordsF n (x + 1) = K19.longer n (K19.ordsF n x) := rfl
    rw [hlong] at hlen
    generalize hro : K19.ordsF n x = rows at hlong hlen
    refine loop_runM (fun m ρ => ∃ x4, ρ = [some (.d (.int (n : Int))), some (.d (rowsT rows)), some (.d (.int (x : Int))), some (.d (rowsT (K19.longer n (rows.take m)))), x4, x5]) ⟨x4, by simp [rowsT, K19.longer]⟩ ?_ ?_
    · rintro m o ρ R e ⟨x4, rfl⟩ hR
      simp [rowsT, natsT]
      refine ⟨by unfold rBnd; omega, ?_⟩
      rw [rngD_map]
      refine comp_filtM (fun k => !o.contains k) (fun k : Nat => natsT (o ++ [k])) (fun k hk R r => ?_) (by rw [List.length_range, sizeLine_eq]; omega) ?_
      · simp
        refine nat_in ?_
        have hol := ords_row n (by omega) x (by omega) o (by rw [hro]; exact List.mem_of_getElem? e)
        have hsl : o.length + 1 ≤ sizeLine := by rw [sizeLine_eq]; omega
        rw [if_pos rfl]
        by_cases c : (!o.contains k) = true
        · rw [if_pos c] at r ⊢
          refine ⟨hsl, ?_⟩
          unfold natsT at r
          rw [List.map_append] at r
          exact r
        · rw [if_neg c] at r ⊢
          exact r
      · have h1 := longer_take (n := n) rows m
        have h2 : ((List.range n).filter fun k => !o.contains k).length ≤ n := by
          have := List.length_filter_le (fun k => !o.contains k) (List.range n)
          rwa [List.length_range] at this
        rw [ev_addLL]
        refine ⟨by rw [sizeLine_eq, List.length_map, List.length_map]; omega, ?_⟩
        refine hR _ ⟨some (.d (natsT o)), ?_⟩
        have e3 : K19.longer n (rows.take (m + 1)) = K19.longer n (rows.take m) ++ ((List.range n).filter fun k => !o.contains k).map fun k => o ++ [k] := by
          rw [List.take_succ, e]
          unfold K19.longer
          rw [List.flatMap_append]
          simp
        rw [e3]
        simp [rowsT, natsT, Function.comp_def]
    · rintro ρ ⟨x4, rfl⟩
      simp [lo_r2]
      exact hP _ ⟨_, _, _, _, by rw [hlong]⟩
  · rintro ρ ⟨x2, x3, x4, x5, rfl⟩
    simp [_law_orders_r2]
    exact q
def _law_by_orders_r2 : WS := (wFrz 2 (wRet (wVar 2)))
def _law_by_orders_r1 : WS := wSeq (wFor (wiSeq (wCall _law_orders_s (wwCons (wOpN (f1 aLen) (waCons (wVar 1) waNil)) wwNil))) (wgName 4) (wFor (wiRng1 (wOpN (f1 aLen) (waCons (wVar 4) waNil))) (wgName 5) (wSeq (wSet 6 (wLc (wiSeq (wCut (wVar 4) woNone (woSome (wVar 5)))) (wgName 3) wYes (wOp2 aIx (wVar 1) (wVar 3)) [3])) (wPut 2 (wOp2 aIx (wVar 4) (wVar 5)) (wOp2 aSub (wOp2 aAdd (wOp2 aIx (wOwn 2) (wOp2 aIx (wVar 4) (wVar 5))) (wCall _law_cost_s (wwCons (wVar 0) (wwCons (wOp2 aAddL (wVar 6) (wLst (waCons (wOp2 aIx (wVar 1) (wOp2 aIx (wVar 4) (wVar 5))) waNil))) wwNil)))) (wCall _law_cost_s (wwCons (wVar 0) (wwCons (wVar 6) wwNil)))))))) _law_by_orders_r2
def _law_by_orders_r0 : WS := wSeq (wSetO 2 (wLc (wiSeq (wVar 1)) (wgName 3) wYes (wC (.int 0)) [3])) _law_by_orders_r1
def _law_by_orders_w : WS := wSeq (wSetO 2 (wLc (wiSeq (wVar 1)) (wgName 3) wYes (wC (.int 0)) [3])) (wSeq (wFor (wiSeq (wCall _law_orders_s (wwCons (wOpN (f1 aLen) (waCons (wVar 1) waNil)) wwNil))) (wgName 4) (wFor (wiRng1 (wOpN (f1 aLen) (waCons (wVar 4) waNil))) (wgName 5) (wSeq (wSet 6 (wLc (wiSeq (wCut (wVar 4) woNone (woSome (wVar 5)))) (wgName 3) wYes (wOp2 aIx (wVar 1) (wVar 3)) [3])) (wPut 2 (wOp2 aIx (wVar 4) (wVar 5)) (wOp2 aSub (wOp2 aAdd (wOp2 aIx (wOwn 2) (wOp2 aIx (wVar 4) (wVar 5))) (wCall _law_cost_s (wwCons (wVar 0) (wwCons (wOp2 aAddL (wVar 6) (wLst (waCons (wOp2 aIx (wVar 1) (wOp2 aIx (wVar 4) (wVar 5))) waNil))) wwNil)))) (wCall _law_cost_s (wwCons (wVar 0) (wwCons (wVar 6) wwNil)))))))) (wFrz 2 (wRet (wVar 2))))
theorem _law_by_orders_r : _law_by_orders_w = _law_by_orders_r0 := rfl
def bo_r0 : WS := (wFor (wiRng1 (wOpN (f1 aLen) (waCons (wVar 4) waNil))) (wgName 5) (wSeq (wSet 6 (wLc (wiSeq (wCut (wVar 4) woNone (woSome (wVar 5)))) (wgName 3) wYes (wOp2 aIx (wVar 1) (wVar 3)) [3])) (wPut 2 (wOp2 aIx (wVar 4) (wVar 5)) (wOp2 aSub (wOp2 aAdd (wOp2 aIx (wOwn 2) (wOp2 aIx (wVar 4) (wVar 5))) (wCall _law_cost_s (wwCons (wVar 0) (wwCons (wOp2 aAddL (wVar 6) (wLst (waCons (wOp2 aIx (wVar 1) (wOp2 aIx (wVar 4) (wVar 5))) waNil))) wwNil)))) (wCall _law_cost_s (wwCons (wVar 0) (wwCons (wVar 6) wwNil)))))))
theorem bo_for : _law_by_orders_r1 = wSeq (wFor (wiSeq (wCall _law_orders_s (wwCons (wOpN (f1 aLen) (waCons (wVar 1) waNil)) wwNil))) (wgName 4) bo_r0) _law_by_orders_r2 := rfl
def intsL (ns : List Int) : D := .list (ns.map .int)
def _law_by_orders_s : FD := fun ws Q _ => ∃ cs ss : List Int, ws = [.d (intsT cs), .d (intsT ss)] ∧ ss.length ≤ 5 ∧ Q (intsL ((List.range ss.length).map fun k => added cs ss k))
theorem mono__law_by_orders : MonoF _law_by_orders_s := fun ws Q Q' EX h ⟨a, b, e, h1, q⟩ => ⟨a, b, e, h1, h _ q⟩
def boE (cs ss : List Int) (A : Nat → Int) (x3 x4 x5 x6 : Option W) : Env' := [some (.d (.tuple (cs.map .int))), some (.d (.tuple (ss.map .int))), some (.own (.list ((List.range ss.length).map fun k => .int (A k)))), x3, x4, x5, x6]
theorem meets__law_by_orders (ws : List W) (Q : D → Prop) (EX : EXn) (h : _law_by_orders_s ws Q EX) : mkF 2 7 _law_by_orders_w ws Q EX := by
  obtain ⟨cs, ss, rfl, hn, q⟩ := h
  refine ⟨rfl, ?_⟩
  rw [_law_by_orders_r]
  simp [_law_by_orders_r0, intsT]
  refine ⟨_, rfl, ?_⟩
  refine comp_mapM (fun _ => .int 0) (fun s hs R r => by simpa using r) (by rw [sizeLine_eq]; omega) ?_
  rw [show (ss.map fun _ => PyData.int 0) = (List.range ss.length).map fun _ => PyData.int 0 by rw [← rep_range, List.map_const']]
  rw [bo_for]
  simp
  refine ⟨ss.length, rfl, hn, ?_⟩
  refine ⟨_, rfl, ?_⟩
  refine loop_runM (fun i ρ => ∃ A x3 x4 x5 x6, ρ = boE cs ss A x3 x4 x5 x6 ∧ ∀ k, A k = (((ords ss.length).take i).map fun o => ((List.range o.length).map fun p => if o.getD p 0 = k then mar cs ss o p else 0).sum).sum) ⟨fun _ => 0, none, none, none, none, rfl, fun k => rfl⟩ ?_ ?_
  · rintro i o ρ P e ⟨A, x3, x4, x5, x6, rfl, hA⟩ hP
    obtain ⟨hol, hok⟩ := K19.ords_in ss.length (by omega) o (List.mem_of_getElem? e)
    simp [boE, bo_r0, natsT]
    refine ⟨by unfold rBnd; omega, ?_⟩
    rw [rngD_map]
    refine loop_runM (fun m ρ => ∃ B x5 x6, ρ = boE cs ss B x3 (some (.d (natsT o))) x5 x6 ∧ ∀ k, B k = A k + ((List.range m).map fun p => if o.getD p 0 = k then mar cs ss o p else 0).sum) ⟨A, x5, x6, rfl, fun k => by simp⟩ ?_ ?_
    · rintro m x ρ R e2 ⟨B, x5, x6, rfl, hB⟩ hR
      obtain ⟨rfl, hx⟩ := range_get e2
      have hox : o[x]? = some (o.getD x 0) := by rw [List.getD_eq_getElem?_getD, List.getElem?_eq_getElem hx]; rfl
      have hj := hok _ (List.mem_of_getElem? hox)
      generalize hjj : o.getD x 0 = j at hox hj
      have hoi : (o.map fun k : Nat => PyData.int (k : Int))[x]? = some (.int (j : Int)) := by rw [List.getElem?_map, hox]; rfl
      simp [boE, natsT]
      refine ⟨_, rfl, ?_⟩
      rw [cut_to, ← List.map_take]
      refine comp_mapM (fun k : Nat => .int (ss.getD k 0)) (fun k hk R r => ?_) (by rw [sizeLine_eq, List.length_take]; omega) ?_
      · have hk2 := hok k (List.mem_of_mem_take hk)
        simp
        refine ⟨_, atD_nat (ints_get (getD_at hk2)), ?_⟩
        exact r
      have ea : (o.take x).map (fun k => PyData.int (ss.getD k 0)) = (K19.ahead ss o x).map .int := by unfold K19.ahead; rw [List.map_map]; rfl
      have hal : (K19.ahead ss o x).length ≤ 5 := by unfold K19.ahead; rw [List.length_map, List.length_take]; omega
      have hmar : mar cs ss o x = cost cs (K19.ahead ss o x ++ [ss.getD j 0]) - cost cs (K19.ahead ss o x) := by unfold K19.mar; rw [hjj]
      rw [ea]
      generalize K19.ahead ss o x = al at hal hmar
      simp only [ownL]
      refine ⟨_, atD_nat hoi, _, atD_nat (range_at hj), _, atD_nat hoi, _, atD_nat (ints_get (getD_at hj)), by rw [sizeLine_eq]; simp; omega, ?_⟩
      refine lc_use (ss := al ++ [ss.getD j 0]) (by simp [seqD]) (by simp; omega) ?_
      rw [ev_addI]
      refine lc_use (ss := al) (d := .list (al.map .int)) rfl (by omega) ?_
      rw [ev_subI]
      refine ⟨_, atD_nat hoi, _, rfl, j, ixN_nat (by simpa using hj), ?_⟩
      refine hR _ ⟨fun k => if k = j then B j + cost cs (al ++ [ss.getD j 0]) - cost cs al else B k, some (.d (.int (x : Int))), some (.d (.list (al.map .int))), ?_, fun k => ?_⟩
      · rw [range_set]
        unfold boE
        rw [show (fun k => if k = j then PyData.int (B j + cost cs (al ++ [ss.getD j 0]) - cost cs al) else PyData.int (B k)) = fun k => PyData.int (if k = j then B j + cost cs (al ++ [ss.getD j 0]) - cost cs al else B k) from funext fun k => by by_cases c : k = j <;> simp [c]]
        rfl
      · rw [List.range_succ, List.map_append, List.sum_append, ← Int.add_assoc, ← hB k]
        simp only [List.map_cons, List.map_nil, List.sum_cons, List.sum_nil, hjj]
        by_cases c : k = j
        · subst c
          rw [if_pos rfl, if_pos rfl, hmar]
          omega
        · rw [if_neg c, if_neg fun z => c z.symm]
          omega
    · rintro ρ ⟨B, x5, x6, rfl, hB⟩
      refine hP _ ⟨B, _, _, _, _, rfl, fun k => ?_⟩
      rw [hB k, hA k, List.take_succ, e]
      simp
  · rintro ρ ⟨A, x3, x4, x5, x6, rfl, hA⟩
    simp [boE, _law_by_orders_r2]
    rw [List.take_length] at hA
    unfold intsL at q
    rw [List.map_map] at q
    rw [show (fun k => PyData.int (A k)) = PyData.int ∘ fun k => added cs ss k from funext fun k => by show _ = PyData.int (added cs ss k); rw [hA k]; rfl]
    exact q
end DD
set_option maxRecDepth 100000
set_option maxHeartbeats 8000000
namespace DD
open PySem PySem.Spec PyProof.Rows L2 GenW
open K19 (Fr val unit users cost unf pay Fair restAt N0 ords added mar fact)
/-! ### the law: the judge of shares -/
theorem unit_le {cs ss : List Int} (h : ∀ c ∈ cs, 0 ≤ c ∧ c ≤ 1000) (j : Nat) : 0 ≤ unit cs ss j ∧ unit cs ss j ≤ 27720000 := by
  unfold K19.unit
  have hc : 0 ≤ cs.getD j 0 ∧ cs.getD j 0 ≤ 1000 := by
    rw [List.getD_eq_getElem?_getD]
    cases e : cs[j]? with
    | none => simp
    | some c => exact h c (List.mem_of_getElem? e)
  have hd := K19.div12_le (n := users ss j)
  have h1 := Int.mul_nonneg hc.1 hd.1
  have h2 : cs.getD j 0 * (N0 / (users ss j : Int)) ≤ 1000 * N0 := Int.mul_le_mul hc.2 hd.2 hd.1 (by omega)
  exact ⟨h1, Int.le_trans h2 (by decide)⟩
theorem val_le {cs ss : List Int} (h : ∀ c ∈ cs, 0 ≤ c ∧ c ≤ 1000) (s : Int) : ∀ i : Nat, 0 ≤ val cs ss i s ∧ val cs ss i s ≤ 27720000 * (i : Int)
  | 0 => ⟨Int.le_refl _, Int.le_refl _⟩
  | i + 1 => by
    have ih := val_le h s (ss := ss) i
    have hu := unit_le h i (ss := ss)
    rw [K19.val_succ]
    split <;> omega
theorem cost_le {cs ss : List Int} (hl : cs.length ≤ 20) (h : ∀ c ∈ cs, 0 ≤ c ∧ c ≤ 1000) : 0 ≤ cost cs ss ∧ cost cs ss ≤ 20000 := by
  have : ∀ l : List Int, (∀ c ∈ l, 0 ≤ c ∧ c ≤ 1000) → 0 ≤ l.sum ∧ l.sum ≤ 1000 * (l.length : Int) := by
    intro l
    induction l with
    | nil => exact fun _ => ⟨Int.le_refl _, Int.le_refl _⟩
    | cons c l ih =>
      intro h
      have h1 := h c List.mem_cons_self
      have h2 := ih fun x hx => h x (List.mem_cons_of_mem _ hx)
      rw [List.sum_cons, List.length_cons]
      omega
  have h1 := this (cs.take (maxI 0 ss).toNat) fun c hc => h c (List.mem_of_mem_take hc)
  have h2 : (cs.take (maxI 0 ss).toNat).length ≤ 20 := by rw [List.length_take]; omega
  unfold K19.cost
  omega
def vs (r : Row3) : Int := r.2.1 * N0 / r.2.2
theorem vs_fr {V p q m : Int} (F : Fr V p q) : vs (m, p, q) = V := by
  unfold vs
  show p * N0 / q = V
  rw [F.eq]
  exact Int.mul_ediv_cancel_left _ (by have := F.q0; omega)
theorem vs_eq {V p q m : Int} (F : Fr V p q) : 0 < (m, p, q).2.2 ∧ (m, p, q).2.1 * N0 = (m, p, q).2.2 * vs (m, p, q) := ⟨F.q0, by rw [vs_fr F]; exact F.eq⟩
theorem pair_eta (p : Int × Int) : (p.1, p.2) = p := rfl
def _law_are_shares_r4 : WS := (wRet (wC (.bool true)))
def _law_are_shares_r3 : WS := wSeq (wFor (wiRng1 (wOpN (f1 aLen) (waCons (wVar 1) waNil))) (wgName 3) (wSeq (wSet 6 (wLc (wiRng1 (wOp2 aIx (wVar 1) (wVar 3))) (wgName 8) wYes (wTup (waCons (wOp2 aIx (wVar 0) (wVar 8)) (waCons (wTup (waCons (wC (.int 1)) (waCons (wOpN (f1 aLen) (waCons (wLc (wiSeq (wVar 1)) (wgName 7) (wTst2 gGt (wVar 7) (wVar 8)) (wVar 7) [7]) waNil)) waNil))) waNil))) [8])) (wIfS (wTst2 gNe (wOp2 aIx (wCall _law_sum_s (wwCons (wOp2 aAddL (wVar 6) (wLst (waCons (wTup (waCons (wNeg (wC (.int 1))) (waCons (wOp2 aIx (wVar 2) (wVar 3)) waNil))) waNil))) wwNil)) (wC (.int 0))) (wC (.int 0))) (wRet (wC (.bool false))) wSkip))) _law_are_shares_r4
def _law_are_shares_r2 : WS := wSeq (wIfS (wTst2 gLe (wOpN (f1 aLen) (waCons (wVar 1) waNil)) (wC (.int 5))) (wSeq (wSet 4 (wOp2 aIx (wLst (waCons (wC (.int 1)) (waCons (wC (.int 1)) (waCons (wC (.int 2)) (waCons (wC (.int 6)) (waCons (wC (.int 24)) (waCons (wC (.int 120)) waNil))))))) (wOpN (f1 aLen) (waCons (wVar 1) waNil)))) (wSeq (wSet 5 (wCall _law_by_orders_s (wwCons (wVar 0) (wwCons (wVar 1) wwNil)))) (wRet (wCmp2 gEq (wLc (wiRng1 (wOpN (f1 aLen) (waCons (wVar 1) waNil))) (wgName 3) (wTst2 gNe (wOp2 aMul (wOp2 aIx (wOp2 aIx (wVar 2) (wVar 3)) (wC (.int 0))) (wVar 4)) (wOp2 aMul (wOp2 aIx (wVar 5) (wVar 3)) (wOp2 aIx (wOp2 aIx (wVar 2) (wVar 3)) (wC (.int 1))))) (wVar 3) [3]) (wLst waNil))))) wSkip) _law_are_shares_r3
def _law_are_shares_r1 : WS := wSeq (wIfS (wTst2 gNe (wOp2 aIx (wCall _law_sum_s (wwCons (wOp2 aAddL (wLc (wiSeq (wVar 2)) (wgName 3) wYes (wTup (waCons (wC (.int 1)) (waCons (wVar 3) waNil))) [3]) (wLst (waCons (wTup (waCons (wNeg (wC (.int 1))) (waCons (wTup (waCons (wCall _law_cost_s (wwCons (wVar 0) (wwCons (wVar 1) wwNil))) (waCons (wC (.int 1)) waNil))) waNil))) waNil))) wwNil)) (wC (.int 0))) (wC (.int 0))) (wRet (wC (.bool false))) wSkip) _law_are_shares_r2
def _law_are_shares_r0 : WS := wSeq (wIfS (wOr (wNot (wTru (wIsi "tuple" (wVar 2)))) (wOr (wTst2 gNe (wOpN (f1 aLen) (waCons (wVar 2) waNil)) (wOpN (f1 aLen) (waCons (wVar 1) waNil))) (wTst2 gNe (wLc (wiSeq (wVar 2)) (wgName 3) (wNot (wTru (wCall _law_part_s (wwCons (wVar 3) wwNil)))) (wVar 3) [3]) (wLst waNil)))) (wRet (wC (.bool false))) wSkip) _law_are_shares_r1
def _law_are_shares_w : WS := wSeq (wIfS (wOr (wNot (wTru (wIsi "tuple" (wVar 2)))) (wOr (wTst2 gNe (wOpN (f1 aLen) (waCons (wVar 2) waNil)) (wOpN (f1 aLen) (waCons (wVar 1) waNil))) (wTst2 gNe (wLc (wiSeq (wVar 2)) (wgName 3) (wNot (wTru (wCall _law_part_s (wwCons (wVar 3) wwNil)))) (wVar 3) [3]) (wLst waNil)))) (wRet (wC (.bool false))) wSkip) (wSeq (wIfS (wTst2 gNe (wOp2 aIx (wCall _law_sum_s (wwCons (wOp2 aAddL (wLc (wiSeq (wVar 2)) (wgName 3) wYes (wTup (waCons (wC (.int 1)) (waCons (wVar 3) waNil))) [3]) (wLst (waCons (wTup (waCons (wNeg (wC (.int 1))) (waCons (wTup (waCons (wCall _law_cost_s (wwCons (wVar 0) (wwCons (wVar 1) wwNil))) (waCons (wC (.int 1)) waNil))) waNil))) waNil))) wwNil)) (wC (.int 0))) (wC (.int 0))) (wRet (wC (.bool false))) wSkip) (wSeq (wIfS (wTst2 gLe (wOpN (f1 aLen) (waCons (wVar 1) waNil)) (wC (.int 5))) (wSeq (wSet 4 (wOp2 aIx (wLst (waCons (wC (.int 1)) (waCons (wC (.int 1)) (waCons (wC (.int 2)) (waCons (wC (.int 6)) (waCons (wC (.int 24)) (waCons (wC (.int 120)) waNil))))))) (wOpN (f1 aLen) (waCons (wVar 1) waNil)))) (wSeq (wSet 5 (wCall _law_by_orders_s (wwCons (wVar 0) (wwCons (wVar 1) wwNil)))) (wRet (wCmp2 gEq (wLc (wiRng1 (wOpN (f1 aLen) (waCons (wVar 1) waNil))) (wgName 3) (wTst2 gNe (wOp2 aMul (wOp2 aIx (wOp2 aIx (wVar 2) (wVar 3)) (wC (.int 0))) (wVar 4)) (wOp2 aMul (wOp2 aIx (wVar 5) (wVar 3)) (wOp2 aIx (wOp2 aIx (wVar 2) (wVar 3)) (wC (.int 1))))) (wVar 3) [3]) (wLst waNil))))) wSkip) (wSeq (wFor (wiRng1 (wOpN (f1 aLen) (waCons (wVar 1) waNil))) (wgName 3) (wSeq (wSet 6 (wLc (wiRng1 (wOp2 aIx (wVar 1) (wVar 3))) (wgName 8) wYes (wTup (waCons (wOp2 aIx (wVar 0) (wVar 8)) (waCons (wTup (waCons (wC (.int 1)) (waCons (wOpN (f1 aLen) (waCons (wLc (wiSeq (wVar 1)) (wgName 7) (wTst2 gGt (wVar 7) (wVar 8)) (wVar 7) [7]) waNil)) waNil))) waNil))) [8])) (wIfS (wTst2 gNe (wOp2 aIx (wCall _law_sum_s (wwCons (wOp2 aAddL (wVar 6) (wLst (waCons (wTup (waCons (wNeg (wC (.int 1))) (waCons (wOp2 aIx (wVar 2) (wVar 3)) waNil))) waNil))) wwNil)) (wC (.int 0))) (wC (.int 0))) (wRet (wC (.bool false))) wSkip))) (wRet (wC (.bool true))))))
theorem _law_are_shares_r : _law_are_shares_w = _law_are_shares_r0 := rfl
def ls_r1 : WS := (wIfS (wTst2 gNe (wOp2 aIx (wCall _law_sum_s (wwCons (wOp2 aAddL (wVar 6) (wLst (waCons (wTup (waCons (wNeg (wC (.int 1))) (waCons (wOp2 aIx (wVar 2) (wVar 3)) waNil))) waNil))) wwNil)) (wC (.int 0))) (wC (.int 0))) (wRet (wC (.bool false))) wSkip)
def ls_r0 : WS := wSeq (wSet 6 (wLc (wiRng1 (wOp2 aIx (wVar 1) (wVar 3))) (wgName 8) wYes (wTup (waCons (wOp2 aIx (wVar 0) (wVar 8)) (waCons (wTup (waCons (wC (.int 1)) (waCons (wOpN (f1 aLen) (waCons (wLc (wiSeq (wVar 1)) (wgName 7) (wTst2 gGt (wVar 7) (wVar 8)) (wVar 7) [7]) waNil)) waNil))) waNil))) [8])) ls_r1
theorem ls_for : _law_are_shares_r3 = wSeq (wFor (wiRng1 (wOpN (f1 aLen) (waCons (wVar 1) waNil))) (wgName 3) ls_r0) _law_are_shares_r4 := rfl
def _law_are_shares_s : FD := fun ws Q _ => ∃ (cs ss : List Int) (fr : List (Int × Int)), ws = [.d (intsT cs), .d (intsT ss), .d (frT fr)] ∧ Ud cs ss ∧ Shs cs ss fr ∧ Q (.bool true)
theorem mono__law_are_shares : MonoF _law_are_shares_s := fun ws Q Q' EX h ⟨a, b, c, e, h1, h2, q⟩ => ⟨a, b, c, e, h1, h2, h _ q⟩
theorem frs_all {cs ss : List Int} {fr : List (Int × Int)} (S : Shs cs ss fr) : ∀ p ∈ fr, ∃ k, k < ss.length ∧ Fr (val cs ss cs.length (ss.getD k 0)) p.1 p.2 := fun p hp => by
  obtain ⟨k, hk⟩ := List.getElem?_of_mem hp
  have hlt : k < ss.length := by rw [← S.1]; exact (List.getElem?_eq_some_iff.mp hk).1
  obtain ⟨p', h1, h2⟩ := S.2 k hlt
  rw [hk] at h1
  cases h1
  exact ⟨k, hlt, h2⟩
theorem fr_at {fr : List (Int × Int)} {k : Nat} {p : Int × Int} (h : fr[k]? = some p) : (fr.map fun p => PyData.tuple [.int p.1, .int p.2])[k]? = some (.tuple [.int p.1, .int p.2]) := by rw [List.getElem?_map, h]; rfl
theorem shares_zero {cs ss : List Int} {fr : List (Int × Int)} (U : Ud cs ss) (S : Shs cs ss fr) : (sumF ((fr.map fun p => ((1 : Int), p.1, p.2)) ++ [(-1, cost cs ss, 1)]) (0, 1)).1 = 0 := by
  refine sumF_zero vs (fun r hr => ?_) ?_
  · rcases List.mem_append.mp hr with hr | hr
    · obtain ⟨p, hp, rfl⟩ := List.mem_map.mp hr
      obtain ⟨k, hk, F⟩ := frs_all S p hp
      exact vs_eq F
    · rw [List.mem_singleton.mp hr]
      refine ⟨show (0 : Int) < 1 by decide, ?_⟩
      unfold vs
      simp
  · rw [List.map_append, List.sum_append, List.map_map]
    have e : (fr.map ((fun r : Row3 => r.1 * vs r) ∘ fun p => ((1 : Int), p.1, p.2))).sum = (ss.map fun s => val cs ss cs.length s).sum := by
      rw [map_range _ (0, 0) fr, map_range _ 0 ss, S.1]
      refine K19.sum_congr fun k hk => ?_
      obtain ⟨p, h1, h2⟩ := S.2 k (List.mem_range.mp hk)
      rw [List.getD_eq_getElem?_getD, h1]
      show 1 * vs (1, p.1, p.2) = _
      rw [vs_fr h2, Int.one_mul]
    rw [e, K19.shares_sum (fun s hs => (U.s0 s hs).2) U.sl]
    unfold vs
    simp
    omega
theorem leg_fr {cs ss : List Int} (U : Ud cs ss) {j : Nat} {s : Int} (hs : s ∈ ss) (hj : (j : Int) < s) : 0 < (users ss j : Int) ∧ (users ss j : Int) ≤ 12 ∧ (1 : Int) * N0 = (users ss j : Int) * vs (cs.getD j 0, 1, (users ss j : Int)) := by
  have h1 := K19.users_pos hs hj
  have h2 := K19.users_le (ss := ss) (j := j)
  have h3 := U.sl
  refine ⟨by omega, by omega, ?_⟩
  have h4 := K19.div12 h1 (by omega)
  unfold vs
  show (1 : Int) * N0 = (users ss j : Int) * (1 * N0 / (users ss j : Int))
  rw [Int.one_mul]
  exact h4.symm
theorem legs_zero {cs ss : List Int} (U : Ud cs ss) {k : Nat} (hk : k < ss.length) {p : Int × Int} (F : Fr (val cs ss cs.length (ss.getD k 0)) p.1 p.2) : (sumF (((List.range (ss.getD k 0).toNat).map fun j => (cs.getD j 0, (1 : Int), (users ss j : Int))) ++ [(-1, p.1, p.2)]) (0, 1)).1 = 0 := by
  have hs := List.mem_of_getElem? (getD_at hk)
  have hs0 := U.s0 _ hs
  refine sumF_zero vs (fun r hr => ?_) ?_
  · rcases List.mem_append.mp hr with hr | hr
    · obtain ⟨j, hj, rfl⟩ := List.mem_map.mp hr
      rw [List.mem_range] at hj
      obtain ⟨h1, _, h3⟩ := leg_fr U hs (j := j) (by omega)
      exact ⟨h1, h3⟩
    · rw [List.mem_singleton.mp hr]
      exact vs_eq F
  · rw [List.map_append, List.sum_append, List.map_map]
    have e : ((List.range (ss.getD k 0).toNat).map ((fun r : Row3 => r.1 * vs r) ∘ fun j => (cs.getD j 0, (1 : Int), (users ss j : Int)))).sum = val cs ss cs.length (ss.getD k 0) := by
      rw [K19.val_over hs0.1 hs0.2]
      unfold K19.val
      refine K19.sum_congr fun j hj => ?_
      rw [List.mem_range] at hj
      rw [if_pos (by omega)]
      show cs.getD j 0 * vs (cs.getD j 0, 1, (users ss j : Int)) = unit cs ss j
      unfold K19.unit vs
      show cs.getD j 0 * (1 * N0 / (users ss j : Int)) = _
      rw [Int.one_mul]
    rw [e]
    have e2 := vs_fr (m := -1) F
    show val cs ss cs.length (ss.getD k 0) + (-1 * vs (-1, p.1, p.2) + 0) = 0
    rw [e2]
    omega
theorem meets__law_are_shares (ws : List W) (Q : D → Prop) (EX : EXn) (h : _law_are_shares_s ws Q EX) : mkF 3 9 _law_are_shares_w ws Q EX := by
  obtain ⟨cs, ss, fr, rfl, U, S, q⟩ := h
  refine ⟨rfl, ?_⟩
  have hsl := U.sl
  have hcl := U.cl
  have hfl := S.1
  have hc := cost_le (ss := ss) U.cl U.c0
  rw [_law_are_shares_r]
  have hV : ∀ p : Int × Int, ∀ k, Fr (val cs ss cs.length (ss.getD k 0)) p.1 p.2 → p.1 ≤ 2 ^ 40 ∧ p.2 ≤ 27720 := fun p k F => by
    have h1 := val_le (ss := ss) U.c0 (ss.getD k 0) cs.length
    have h2 := F.pV
    have h3 : p.2 ≤ 27720 := F.qN
    omega
  simp [_law_are_shares_r0, isTy, tyD, frT, intsT, hfl]
  refine ⟨_, rfl, ?_⟩
  refine comp_evalM (fun _ => none) (fun p hp R r => ?_) (by rw [sizeLine_eq]; simp; omega) ?_
  · obtain ⟨k, hk, F⟩ := frs_all S p hp
    simp
    exact ⟨p.1, p.2, rfl, F.p0, F.q0, F.cop, by simpa using r⟩
  rw [filterMap_no, List.append_nil]
  refine ne_nil shaped_nil ?_
  simp [_law_are_shares_r1]
  refine ⟨_, rfl, ?_⟩
  refine comp_mapM (fun p => row3 (1, p.1, p.2)) (fun p hp R r => by simpa [row3] using r) (by rw [sizeLine_eq]; omega) ?_
  refine lc_use rfl (by omega) ?_
  rw [ev_addLL]
  refine ⟨by rw [sizeLine_eq]; simp; omega, ?_⟩
  refine ⟨(fr.map fun p => ((1 : Int), p.1, p.2)) ++ [(-1, cost cs ss, 1)], ?_, fun r hr => ?_, ?_⟩
  · rw [List.map_append, List.map_map]
    rfl
  · rcases List.mem_append.mp hr with hr | hr
    · obtain ⟨p, hp, rfl⟩ := List.mem_map.mp hr
      obtain ⟨k, hk, F⟩ := frs_all S p hp
      have := hV p k F
      have := F.p0
      have := F.q0
      exact ⟨⟨by simp, by simp⟩, ⟨F.q0, by simp; omega⟩, ⟨by simp; omega, by simp; omega⟩⟩
    · rw [List.mem_singleton.mp hr]
      exact ⟨⟨by simp, by simp⟩, ⟨by simp, by simp⟩, ⟨by simp; omega, by simp; omega⟩⟩
  rw [shares_zero U S]
  refine ⟨_, atD_nat (i := 0) rfl, ?_⟩
  simp [_law_are_shares_r2]
  by_cases c5 : ss.length ≤ 5
  · have c5' : (ss.length : Int) ≤ 5 := by omega
    simp [c5']
    refine ⟨_, atD_nat (xs := [1, 1, 2, 6, 24, 120].map PyData.int) (x := .int (fact ss.length)) (ints_get (getD_at (by simp; omega))), ?_⟩
    refine ⟨cs, ss, rfl, c5, ?_⟩
    simp [intsL]
    refine ⟨by unfold rBnd; omega, ?_⟩
    rw [rngD_map]
    refine comp_evalM (fun _ => none) (fun k hk R r => ?_) (by rw [List.length_range, sizeLine_eq]; simp; omega) ?_
    · rw [List.mem_range] at hk
      obtain ⟨p, h1, F⟩ := S.2 k hk
      have := hV p k F
      have hfa := K19.fact_pos ss.length (by omega)
      have hfb : fact ss.length ≤ 120 := (by decide : ∀ n : Nat, n < 6 → fact n ≤ 120) ss.length (by omega)
      have hq := F.q0
      simp
      refine ⟨_, atD_nat (fr_at h1), _, atD_nat (i := 0) rfl, cmul_right (by omega) (by omega), _, atD_nat (range_at hk), _, atD_nat (fr_at h1), _, atD_nat (i := 1) rfl, cmul_right (by omega) (by omega), ?_⟩
      rw [K19.share_added (fun s hs => (U.s0 s hs).2) c5 hk F]
      simpa using r
    rw [filterMap_no, List.append_nil]
    refine eq_nil shaped_nil ?_
    exact q
  · have c5' : ¬ (ss.length : Int) ≤ 5 := by omega
    simp [c5']
    rw [ls_for]
    simp
    refine ⟨by unfold rBnd; omega, ?_⟩
    rw [rngD_map]
    refine loop_runM (fun i ρ => ∃ x3 x4 x5 x6 x7 x8, ρ = [some (.d (.tuple (cs.map .int))), some (.d (.tuple (ss.map .int))), some (.d (.tuple (fr.map fun p => .tuple [.int p.1, .int p.2]))), x3, x4, x5, x6, x7, x8]) ⟨none, none, none, none, none, none, rfl⟩ ?_ ?_
    · rintro i k ρ P e ⟨x3, x4, x5, x6, x7, x8, rfl⟩ hP
      obtain ⟨rfl, hk⟩ := range_get e
      obtain ⟨p, h1, F⟩ := S.2 k hk
      have hs := List.mem_of_getElem? (getD_at hk)
      have hs0 := U.s0 _ hs
      have hz := legs_zero U hk F
      simp [ls_r0]
      refine ⟨_, atD_nat (ints_get (getD_at hk)), _, rfl, by unfold rBnd; omega, ?_⟩
      rw [rngD_map]
      refine comp_mapM (fun j : Nat => row3 (cs.getD j 0, 1, (users ss j : Int))) (fun j hj R r => ?_) (by rw [List.length_range, sizeLine_eq]; omega) ?_
      · rw [List.mem_range] at hj
        simp
        refine ⟨_, atD_nat (ints_get (getD_at (by omega))), _, rfl, ?_⟩
        refine comp_filtM (fun s => decide ((j : Int) < s)) PyData.int (fun s hs R r => ?_) (by rw [sizeLine_eq]; omega) ?_
        · by_cases c : (j : Int) < s
          · rw [if_pos (decide_eq_true c)] at r
            simpa [c] using r
          · rw [if_neg (by simpa using c)] at r
            simpa [c] using r
        · simpa [row3, K19.users] using r
      simp [ls_r1]
      refine ⟨_, atD_nat (fr_at h1), ?_⟩
      refine ⟨by rw [sizeLine_eq, ← List.getD_eq_getElem?_getD]; omega, ?_⟩
      refine ⟨((List.range (ss.getD k 0).toNat).map fun j => (cs.getD j 0, (1 : Int), (users ss j : Int))) ++ [(-1, p.1, p.2)], ?_, fun r hr => ?_, ?_⟩
      · rw [List.map_append, List.map_map]
        rfl
      · rcases List.mem_append.mp hr with hr | hr
        · obtain ⟨j, hj, rfl⟩ := List.mem_map.mp hr
          rw [List.mem_range] at hj
          obtain ⟨g1, g2, _⟩ := leg_fr U hs (j := j) (by omega)
          have g3 := U.c0 _ (List.mem_of_getElem? (getD_at (xs := cs) (i := j) (by omega)))
          exact ⟨⟨by show -(2 ^ 60) ≤ cs.getD j 0; omega, by show cs.getD j 0 ≤ 2 ^ 60; omega⟩, ⟨g1, by show (users ss j : Int) ≤ 2 ^ 60; omega⟩, ⟨by show -(2 ^ 60) ≤ cs.getD j 0 * 1; omega, by show cs.getD j 0 * 1 ≤ 2 ^ 60; omega⟩⟩
        · rw [List.mem_singleton.mp hr]
          have := hV p k F
          have := F.p0
          have := F.q0
          exact ⟨⟨by simp, by simp⟩, ⟨F.q0, by show p.2 ≤ 2 ^ 60; omega⟩, ⟨by show -(2 ^ 60) ≤ -1 * p.1; omega, by show -1 * p.1 ≤ 2 ^ 60; omega⟩⟩
      rw [hz]
      refine ⟨_, atD_nat (i := 0) rfl, ?_⟩
      simp
      exact hP _ ⟨_, _, _, _, _, _, rfl⟩
    · rintro ρ ⟨x3, x4, x5, x6, x7, x8, rfl⟩
      simpa [_law_are_shares_r4] using q
end DD
set_option maxRecDepth 100000
set_option maxHeartbeats 8000000
namespace DD
open PySem PySem.Spec PyProof.Rows L2 GenW
open K19 (Fr val unit users cost unf pay Fair restAt N0 ords added mar fact setSum setCost)
/-! ### the law: unfair -/
def _law_unfair_w : WS := wSeq (wFor (wiRng1 (wOp2 aAdd (wOpN (f1 aLen) (waCons (wVar 0) waNil)) (wC (.int 1)))) (wgName 3) (wIfS (wTst2 gGt (wOpN (f1 aSumA) (waCons (wLc (wiRng1 (wOpN (f1 aLen) (waCons (wVar 1) waNil))) (wgName 4) (wTst2 gLe (wOp2 aIx (wVar 1) (wVar 4)) (wVar 3)) (wOp2 aIx (wVar 2) (wVar 4)) [4]) waNil)) (wOpN (f1 aSumA) (waCons (wCut (wVar 0) woNone (woSome (wVar 3))) waNil))) (wRet (wVar 3)) wSkip)) (wRet (wC .none))
def _law_unfair_s : FD := fun ws Q _ => ∃ cs ss ps : List Int, ws = [.d (intsT cs), .d (intsT ss), .d (intsT ps)] ∧ cs.length ≤ 20 ∧ ss.length ≤ 12 ∧ ps.length = ss.length ∧ Q (unfD cs ss ps)
theorem mono__law_unfair : MonoF _law_unfair_s := fun ws Q Q' EX h ⟨a, b, c, e, h1, h2, h3, q⟩ => ⟨a, b, c, e, h1, h2, h3, h _ q⟩
theorem meets__law_unfair (ws : List W) (Q : D → Prop) (EX : EXn) (h : _law_unfair_s ws Q EX) : mkF 3 5 _law_unfair_w ws Q EX := by
  obtain ⟨cs, ss, ps, rfl, hcl, hsl, hpl, q⟩ := h
  refine ⟨rfl, ?_⟩
  simp [_law_unfair_w, intsT]
  refine ⟨by unfold rBnd; omega, ?_⟩
  rw [rngD_map]
  refine loop_runM (fun i ρ => ∃ x3 x4, ρ = [some (.d (.tuple (cs.map .int))), some (.d (.tuple (ss.map .int))), some (.d (.tuple (ps.map .int))), x3, x4] ∧ ∀ j, j < i → ¬ (cs.take j).sum < pay ps ss j) ⟨none, none, rfl, fun j h => absurd h (Nat.not_lt_zero _)⟩ ?_ ?_
  · rintro i x ρ R e ⟨x3, x4, rfl, hno⟩ hP
    obtain ⟨rfl, hx⟩ := range_get e
    simp
    refine ⟨by unfold rBnd; omega, ?_⟩
    rw [rngD_map]
    refine comp_filtM (fun k => decide (ss.getD k 0 ≤ (x : Int))) (fun k : Nat => .int (ps.getD k 0)) (fun k hk R r => ?_) (by rw [List.length_range, sizeLine_eq]; omega) ?_
    · rw [List.mem_range] at hk
      simp
      refine ⟨_, atD_nat (ints_get (getD_at hk)), ?_⟩
      simp only [ev_leI]
      by_cases c : ss.getD k 0 ≤ (x : Int)
      · rw [if_pos (decide_eq_true c)] at r
        rw [if_pos (decide_eq_true c)]
        exact ⟨_, atD_nat (ints_get (getD_at (by omega))), r⟩
      · rw [if_neg (by simpa using c)] at r
        rw [if_neg (by simpa using c)]
        exact r
    refine sum_list (ns := ((List.range ss.length).filter fun k => decide (ss.getD k 0 ≤ (x : Int))).map fun k => ps.getD k 0) (by rw [List.map_map]; rfl) ?_
    have es : (((List.range ss.length).filter fun k => decide (ss.getD k 0 ≤ (x : Int))).map fun k => ps.getD k 0).sum = pay ps ss x := by
      rw [K19.sum_filter, K19.pay_range hpl]
      exact K19.sum_congr fun k _ => by by_cases c : ss.getD k 0 ≤ (x : Int) <;> simp [c]
    rw [es, cut_to, take_ints]
    refine sum_tuple rfl ?_
    simp
    by_cases c : (cs.take x).sum < pay ps ss x
    · rw [if_pos c]
      have : unfD cs ss ps = .int (x : Int) := by
        unfold unfD
        rw [unf_at (by omega) c hno]
      rw [this] at q
      exact q
    · rw [if_neg c]
      refine hP _ ⟨some (.d (.int (x : Int))), x4, rfl, fun j hj => ?_⟩
      by_cases z : j = x
      · rw [z]; exact c
      · exact hno j (by omega)
  · rintro ρ ⟨x3, x4, rfl, hno⟩
    rw [List.length_range] at hno
    simp
    have : unfD cs ss ps = .none := by
      unfold unfD
      rw [unf_no fun j hj => hno j (by omega)]
    rw [this] at q
    exact q
theorem lu_use {cs ss ps : List Int} {Q : D → Prop} {EX : EXn} (h1 : cs.length ≤ 20) (h2 : ss.length ≤ 12) (h3 : ps.length = ss.length) (q : Q (unfD cs ss ps)) : _law_unfair_s [.d (intsT cs), .d (intsT ss), .d (intsT ps)] Q EX := ⟨_, _, _, rfl, h1, h2, h3, q⟩
/-! ### the law: all sets -/
theorem bits_ex (f : Nat → Bool) : ∀ n : Nat, ∃ b : Nat, b < 2 ^ n ∧ ∀ k, k < n → b.testBit k = f k
  | 0 => ⟨0, by decide, fun k h => absurd h (Nat.not_lt_zero _)⟩
  | n + 1 => by
    obtain ⟨b, h1, h2⟩ := bits_ex f n
    cases hf : f n with
    | false =>
      refine ⟨b, by rw [Nat.pow_succ]; omega, fun k hk => ?_⟩
      by_cases c : k = n
      · rw [c, hf]
        exact Nat.testBit_lt_two_pow h1
      · exact h2 k (by omega)
    | true =>
      refine ⟨2 ^ n + b, by rw [Nat.pow_succ]; omega, fun k hk => ?_⟩
      by_cases c : k = n
      · rw [c, hf, Nat.testBit_two_pow_add_eq, Nat.testBit_lt_two_pow h1]
        rfl
      · rw [Nat.testBit_two_pow_add_gt (by omega)]
        exact h2 k (by omega)
theorem bit_val (b k : Nat) : Builtin.bitAnd ((b : Int) / 2 ^ ((k : Int).toNat)) 1 = ((b.testBit k).toNat : Int) := by
  have e : ((b : Int) / 2 ^ ((k : Int).toNat)) = ((b / 2 ^ k : Nat) : Int) := by
    rw [Int.toNat_natCast]
    simp
  rw [e]
  show Builtin.bitAnd ((b / 2 ^ k : Nat) : Int) ((1 : Nat) : Int) = _
  unfold Builtin.bitAnd
  simp only [Int.natCast_nonneg, decide_true, Int.toNat_natCast]
  rw [Nat.testBit_eq_decide_div_mod_eq, Nat.and_one_is_mod]
  by_cases c : b / 2 ^ k % 2 = 1
  · simp [c]
  · have : b / 2 ^ k % 2 = 0 := by omega
    simp [this]
def _law_fair_sets_w : WS := wSeq (wFor (wiRng1 (wOp2 aShl (wC (.int 1)) (wOpN (f1 aLen) (waCons (wVar 1) waNil)))) (wgName 3) (wSeq (wSet 4 (wLc (wiRng1 (wOpN (f1 aLen) (waCons (wVar 1) waNil))) (wgName 5) (wTst2 gEq (wOp2 aAnd (wOp2 aShr (wVar 3) (wVar 5)) (wC (.int 1))) (wC (.int 1))) (wVar 5) [5])) (wIfS (wTst2 gGt (wOpN (f1 aSumA) (waCons (wLc (wiSeq (wVar 4)) (wgName 5) wYes (wOp2 aIx (wVar 2) (wVar 5)) [5]) waNil)) (wCall _law_cost_s (wwCons (wVar 0) (wwCons (wLc (wiSeq (wVar 4)) (wgName 5) wYes (wOp2 aIx (wVar 1) (wVar 5)) [5]) wwNil)))) (wRet (wC (.bool false))) wSkip))) (wRet (wC (.bool true)))
def _law_fair_sets_s : FD := fun ws Q _ => ∃ cs ss ps : List Int, ws = [.d (intsT cs), .d (intsT ss), .d (intsT ps)] ∧ Pd cs ss ps ∧ ss.length ≤ 5 ∧ Q (.bool (isNone (unfD cs ss ps)))
theorem mono__law_fair_sets : MonoF _law_fair_sets_s := fun ws Q Q' EX h ⟨a, b, c, e, h1, h2, q⟩ => ⟨a, b, c, e, h1, h2, h _ q⟩
theorem unfD_fair {cs ss ps : List Int} : isNone (unfD cs ss ps) = true ↔ Fair cs ss ps := by
  rw [← K19.unf_fair]
  unfold unfD
  cases unf cs ss ps <;> simp [isNone]
theorem unfD_not {cs ss ps : List Int} (h : ¬ Fair cs ss ps) : isNone (unfD cs ss ps) = false := by
  cases z : isNone (unfD cs ss ps) with
  | false => rfl
  | true => exact absurd (unfD_fair.mp z) h
theorem meets__law_fair_sets (ws : List W) (Q : D → Prop) (EX : EXn) (h : _law_fair_sets_s ws Q EX) : mkF 3 6 _law_fair_sets_w ws Q EX := by
  obtain ⟨cs, ss, ps, rfl, P, hn, q⟩ := h
  refine ⟨rfl, ?_⟩
  have hpl := P.pl
  simp [_law_fair_sets_w, intsT]
  refine ⟨⟨by omega, by omega, by decide⟩, ?_⟩
  have h2 : (2 : Int) ^ ss.length = ((2 ^ ss.length : Nat) : Int) := by simp
  have h3 : 2 ^ ss.length ≤ 2 ^ 5 := Nat.pow_le_pow_right (by decide) hn
  rw [h2]
  generalize hm2 : (2 ^ ss.length : Nat) = m2 at h2 h3 ⊢
  refine ⟨by unfold rBnd; omega, ?_⟩
  rw [rngD_map, Int.toNat_natCast]
  refine loop_runM (fun i ρ => ∃ x3 x4 x5, ρ = [some (.d (.tuple (cs.map .int))), some (.d (.tuple (ss.map .int))), some (.d (.tuple (ps.map .int))), x3, x4, x5] ∧ ∀ b : Nat, b < i → setSum ps ((List.range ss.length).filter fun k => b.testBit k) ≤ setCost cs ss ((List.range ss.length).filter fun k => b.testBit k)) ⟨none, none, none, rfl, fun j h => absurd h (Nat.not_lt_zero _)⟩ ?_ ?_
  · rintro i b ρ R e ⟨x3, x4, x5, rfl, hno⟩ hP
    obtain ⟨rfl, hb⟩ := range_get e
    simp
    refine ⟨by unfold rBnd; omega, ?_⟩
    rw [rngD_map]
    refine comp_filtM (fun k => b.testBit k) (fun k : Nat => .int (k : Int)) (fun k hk R r => ?_) (by rw [List.length_range, sizeLine_eq]; omega) ?_
    · simp
      have hv := bit_val b k
      rw [Int.toNat_natCast] at hv
      rw [hv]
      cases hbk : b.testBit k with
      | false => rw [hbk] at r; simpa using r
      | true => rw [hbk] at r; simpa using r
    have hin : ∀ k ∈ (List.range ss.length).filter (fun k => b.testBit k), k < ss.length := fun k hk => List.mem_range.mp (List.mem_filter.mp hk).1
    have hkl : ((List.range ss.length).filter fun k => b.testBit k).length ≤ 5 := by
      have := List.length_filter_le (fun k => b.testBit k) (List.range ss.length)
      rw [List.length_range] at this
      omega
    have hset : ∀ j, j < b + 1 → j = b ∨ j < b := fun j hj => by omega
    have hfs := K19.fair_set (cs := cs) (ss := ss) (ps := ps) hpl P.u.s0 (fun p hp => (P.p0 p hp).1)
    have hfb := fun F => hfs F fun k => b.testBit k
    have hst : ∀ j : Nat, j < b → setSum ps ((List.range ss.length).filter fun k => j.testBit k) ≤ setCost cs ss ((List.range ss.length).filter fun k => j.testBit k) := hno
    generalize hks : (List.range ss.length).filter (fun k => b.testBit k) = ks at hin hkl hfb
    refine ⟨_, rfl, ?_⟩
    refine comp_mapM (fun k : Nat => .int (ps.getD k 0)) (fun k hk R r => ?_) (by rw [sizeLine_eq]; omega) ?_
    · simp
      exact ⟨_, atD_nat (ints_get (getD_at (by have := hin k hk; omega))), r⟩
    refine sum_list (ns := ks.map fun k => ps.getD k 0) (by rw [List.map_map]; rfl) ?_
    refine ⟨_, rfl, ?_⟩
    refine comp_mapM (fun k : Nat => .int (ss.getD k 0)) (fun k hk R r => ?_) (by rw [sizeLine_eq]; omega) ?_
    · simp
      exact ⟨_, atD_nat (ints_get (getD_at (hin k hk))), r⟩
    refine lc_use (ss := ks.map fun k => ss.getD k 0) (by rw [List.map_map]; rfl) (by rw [List.length_map]; omega) ?_
    rw [ev_gtI]
    by_cases c : setSum ps ks ≤ setCost cs ss ks
    · rw [if_neg (by rw [decide_eq_true_eq]; exact show ¬ setCost cs ss ks < setSum ps ks by omega)]
      refine hP _ ⟨some (.d (.int (b : Int))), some (.d (.list (ks.map fun k : Nat => .int (k : Int)))), x5, rfl, fun j hj => ?_⟩
      rcases hset j hj with rfl | hj
      · rw [hks]; exact c
      · exact hst j hj
    · rw [if_pos (by rw [decide_eq_true_eq]; exact show setCost cs ss ks < setSum ps ks by omega)]
      have : ¬ Fair cs ss ps := fun F => c (hfb F)
      rw [unfD_not this] at q
      exact q
  · rintro ρ ⟨x3, x4, x5, rfl, hno⟩
    rw [List.length_range] at hno
    simp
    have : Fair cs ss ps := K19.set_fair hpl (fun c hc => (P.u.c0 c hc).1) P.u.s0 fun f => by
      obtain ⟨b, h1, h2⟩ := bits_ex f ss.length
      have := hno b (by rw [← hm2]; exact h1)
      rw [show (List.range ss.length).filter (fun k => b.testBit k) = (List.range ss.length).filter f from List.filter_congr fun k hk => h2 k (List.mem_range.mp hk)] at this
      exact this
    rw [unfD_fair.mpr this] at q
    exact q
/-! ### the law: what is refused -/
def _law_are_refused_r11 : WS := (wRet (wCall _law_alike_s (wwCons (wVar 5) (wwCons (wOp2 aMulL (wLst (waCons (wTup (waCons (wC (.str "bad")) (waCons (wC (.str "costs")) (waCons (wC (.bool true)) waNil)))) waNil)) (wC (.int 3))) wwNil))))
def _law_are_refused_r10 : WS := wSeq (wSet 5 (wLst (waCons (wHeard (wCall shares_s (wwCons (wVar 4) (wwCons (wC .none) wwNil)))) (waCons (wHeard (wCall cost_for_s (wwCons (wVar 4) (wwCons (wC .none) wwNil)))) (waCons (wHeard (wCall is_fair_s (wwCons (wVar 4) (wwCons (wC .none) (wwCons (wC .none) wwNil))))) waNil))))) _law_are_refused_r11
def _law_are_refused_r9 : WS := wSeq (wSet 4 (wCall _law_pick_s (wwRow 0 (wwCons (wLst (waCons (wC .none) (waCons (wOpN (f1 aListOf) (waCons (wVar 1) waNil)) (waCons (wTup (waCons (wNeg (wC (.int 1))) waNil)) (waCons (wTup (waCons (wC (.int 1001)) waNil)) (waCons (wOp2 aMul (wTup (waCons (wC (.int 0)) waNil)) (wC (.int 21))) (waCons (wTup (waCons (wC (.bool true)) waNil)) (waCons (wC (.str "0")) waNil)))))))) wwNil)))) _law_are_refused_r10
def _law_are_refused_r8 : WS := wSeq (wIfS (wNot (wTru (wCall _law_alike_s (wwCons (wVar 5) (wwCons (wOp2 aMulL (wLst (waCons (wTup (waCons (wC (.str "bad")) (waCons (wC (.str "stops")) (waCons (wC (.bool true)) waNil)))) waNil)) (wC (.int 3))) wwNil))))) (wRet (wC (.bool false))) wSkip) _law_are_refused_r9
def _law_are_refused_r7 : WS := wSeq (wSet 5 (wLst (waCons (wHeard (wCall shares_s (wwCons (wVar 1) (wwCons (wVar 4) wwNil)))) (waCons (wHeard (wCall cost_for_s (wwCons (wVar 1) (wwCons (wVar 4) wwNil)))) (waCons (wHeard (wCall unfair_s (wwCons (wVar 1) (wwCons (wVar 4) (wwCons (wC .none) wwNil))))) waNil))))) _law_are_refused_r8
def _law_are_refused_r6 : WS := wSeq (wSet 4 (wCall _law_pick_s (wwRow 0 (wwCons (wLst (waCons (wC .none) (waCons (wOpN (f1 aListOf) (waCons (wVar 2) waNil)) (waCons (wTup (waCons (wOp2 aAdd (wOpN (f1 aLen) (waCons (wVar 1) waNil)) (wC (.int 1))) waNil)) (waCons (wTup (waCons (wNeg (wC (.int 1))) waNil)) (waCons (wTup (waCons (wC (.bool true)) waNil)) (waCons (wOp2 aMul (wTup (waCons (wC (.int 0)) waNil)) (wC (.int 13))) (waCons (wC (.str "0")) waNil)))))))) wwNil)))) _law_are_refused_r7
def _law_are_refused_r5 : WS := wSeq (wIfS (wNot (wTru (wCall _law_alike_s (wwCons (wVar 5) (wwCons (wOp2 aMulL (wLst (waCons (wTup (waCons (wC (.str "bad")) (waCons (wC (.str "paid")) (waCons (wC (.bool true)) waNil)))) waNil)) (wC (.int 3))) wwNil))))) (wRet (wC (.bool false))) wSkip) _law_are_refused_r6
def _law_are_refused_r4 : WS := wSeq (wSet 5 (wLst (waCons (wHeard (wCall unfair_s (wwCons (wVar 1) (wwCons (wVar 2) (wwCons (wVar 4) wwNil))))) (waCons (wHeard (wCall is_fair_s (wwCons (wVar 1) (wwCons (wVar 2) (wwCons (wVar 4) wwNil))))) (waCons (wHeard (wCall most_for_s (wwCons (wVar 1) (wwCons (wVar 2) (wwCons (wVar 4) (wwCons (wC .none) wwNil)))))) waNil))))) _law_are_refused_r5
def _law_are_refused_r3 : WS := wSeq (wSet 4 (wCall _law_pick_s (wwRow 0 (wwCons (wLst (waCons (wC .none) (waCons (wOpN (f1 aListOf) (waCons (wVar 3) waNil)) (waCons (wOp2 aAdd (wVar 3) (wTup (waCons (wC (.int 0)) waNil))) (waCons (wOp2 aAdd (wOp2 aMulT (wTup (waCons (wNeg (wC (.int 1))) waNil)) (wOpN (f1 aLen) (waCons (wVar 2) waNil))) (wTup (waCons (wC (.int 0)) waNil))) (waCons (wOp2 aMulT (wTup (waCons (wC (.int 20001)) waNil)) (wOpN (f2 aMax2) (waCons (wC (.int 1)) (waCons (wOpN (f1 aLen) (waCons (wVar 2) waNil)) waNil)))) (waCons (wC (.str "0")) waNil))))))) wwNil)))) _law_are_refused_r4
def _law_are_refused_r2 : WS := wSeq (wIfS (wNot (wTru (wCall _law_alike_s (wwCons (wHeard (wCall most_for_s (wwCons (wVar 1) (wwCons (wVar 2) (wwCons (wVar 3) (wwCons (wVar 4) wwNil)))))) (wwCons (wTup (waCons (wC (.str "bad")) (waCons (wC (.str "number")) (waCons (wC (.bool true)) waNil)))) wwNil))))) (wRet (wC (.bool false))) wSkip) _law_are_refused_r3
def _law_are_refused_r1 : WS := wSeq (wSet 4 (wCall _law_pick_s (wwRow 0 (wwCons (wLst (waCons (wC .none) (waCons (wNeg (wC (.int 1))) (waCons (wOpN (f1 aLen) (waCons (wVar 2) waNil)) (waCons (wC (.bool true)) (waCons (wC (.str "0")) waNil)))))) wwNil)))) _law_are_refused_r2
def _law_are_refused_r0 : WS := wSeq (wSet 3 (wOp2 aMulT (wTup (waCons (wC (.int 0)) waNil)) (wOpN (f1 aLen) (waCons (wVar 2) waNil)))) _law_are_refused_r1
def _law_are_refused_w : WS := wSeq (wSet 3 (wOp2 aMulT (wTup (waCons (wC (.int 0)) waNil)) (wOpN (f1 aLen) (waCons (wVar 2) waNil)))) (wSeq (wSet 4 (wCall _law_pick_s (wwRow 0 (wwCons (wLst (waCons (wC .none) (waCons (wNeg (wC (.int 1))) (waCons (wOpN (f1 aLen) (waCons (wVar 2) waNil)) (waCons (wC (.bool true)) (waCons (wC (.str "0")) waNil)))))) wwNil)))) (wSeq (wIfS (wNot (wTru (wCall _law_alike_s (wwCons (wHeard (wCall most_for_s (wwCons (wVar 1) (wwCons (wVar 2) (wwCons (wVar 3) (wwCons (wVar 4) wwNil)))))) (wwCons (wTup (waCons (wC (.str "bad")) (waCons (wC (.str "number")) (waCons (wC (.bool true)) waNil)))) wwNil))))) (wRet (wC (.bool false))) wSkip) (wSeq (wSet 4 (wCall _law_pick_s (wwRow 0 (wwCons (wLst (waCons (wC .none) (waCons (wOpN (f1 aListOf) (waCons (wVar 3) waNil)) (waCons (wOp2 aAdd (wVar 3) (wTup (waCons (wC (.int 0)) waNil))) (waCons (wOp2 aAdd (wOp2 aMulT (wTup (waCons (wNeg (wC (.int 1))) waNil)) (wOpN (f1 aLen) (waCons (wVar 2) waNil))) (wTup (waCons (wC (.int 0)) waNil))) (waCons (wOp2 aMulT (wTup (waCons (wC (.int 20001)) waNil)) (wOpN (f2 aMax2) (waCons (wC (.int 1)) (waCons (wOpN (f1 aLen) (waCons (wVar 2) waNil)) waNil)))) (waCons (wC (.str "0")) waNil))))))) wwNil)))) (wSeq (wSet 5 (wLst (waCons (wHeard (wCall unfair_s (wwCons (wVar 1) (wwCons (wVar 2) (wwCons (wVar 4) wwNil))))) (waCons (wHeard (wCall is_fair_s (wwCons (wVar 1) (wwCons (wVar 2) (wwCons (wVar 4) wwNil))))) (waCons (wHeard (wCall most_for_s (wwCons (wVar 1) (wwCons (wVar 2) (wwCons (wVar 4) (wwCons (wC .none) wwNil)))))) waNil))))) (wSeq (wIfS (wNot (wTru (wCall _law_alike_s (wwCons (wVar 5) (wwCons (wOp2 aMulL (wLst (waCons (wTup (waCons (wC (.str "bad")) (waCons (wC (.str "paid")) (waCons (wC (.bool true)) waNil)))) waNil)) (wC (.int 3))) wwNil))))) (wRet (wC (.bool false))) wSkip) (wSeq (wSet 4 (wCall _law_pick_s (wwRow 0 (wwCons (wLst (waCons (wC .none) (waCons (wOpN (f1 aListOf) (waCons (wVar 2) waNil)) (waCons (wTup (waCons (wOp2 aAdd (wOpN (f1 aLen) (waCons (wVar 1) waNil)) (wC (.int 1))) waNil)) (waCons (wTup (waCons (wNeg (wC (.int 1))) waNil)) (waCons (wTup (waCons (wC (.bool true)) waNil)) (waCons (wOp2 aMul (wTup (waCons (wC (.int 0)) waNil)) (wC (.int 13))) (waCons (wC (.str "0")) waNil)))))))) wwNil)))) (wSeq (wSet 5 (wLst (waCons (wHeard (wCall shares_s (wwCons (wVar 1) (wwCons (wVar 4) wwNil)))) (waCons (wHeard (wCall cost_for_s (wwCons (wVar 1) (wwCons (wVar 4) wwNil)))) (waCons (wHeard (wCall unfair_s (wwCons (wVar 1) (wwCons (wVar 4) (wwCons (wC .none) wwNil))))) waNil))))) (wSeq (wIfS (wNot (wTru (wCall _law_alike_s (wwCons (wVar 5) (wwCons (wOp2 aMulL (wLst (waCons (wTup (waCons (wC (.str "bad")) (waCons (wC (.str "stops")) (waCons (wC (.bool true)) waNil)))) waNil)) (wC (.int 3))) wwNil))))) (wRet (wC (.bool false))) wSkip) (wSeq (wSet 4 (wCall _law_pick_s (wwRow 0 (wwCons (wLst (waCons (wC .none) (waCons (wOpN (f1 aListOf) (waCons (wVar 1) waNil)) (waCons (wTup (waCons (wNeg (wC (.int 1))) waNil)) (waCons (wTup (waCons (wC (.int 1001)) waNil)) (waCons (wOp2 aMul (wTup (waCons (wC (.int 0)) waNil)) (wC (.int 21))) (waCons (wTup (waCons (wC (.bool true)) waNil)) (waCons (wC (.str "0")) waNil)))))))) wwNil)))) (wSeq (wSet 5 (wLst (waCons (wHeard (wCall shares_s (wwCons (wVar 4) (wwCons (wC .none) wwNil)))) (waCons (wHeard (wCall cost_for_s (wwCons (wVar 4) (wwCons (wC .none) wwNil)))) (waCons (wHeard (wCall is_fair_s (wwCons (wVar 4) (wwCons (wC .none) (wwCons (wC .none) wwNil))))) waNil))))) (wRet (wCall _law_alike_s (wwCons (wVar 5) (wwCons (wOp2 aMulL (wLst (waCons (wTup (waCons (wC (.str "bad")) (waCons (wC (.str "costs")) (waCons (wC (.bool true)) waNil)))) waNil)) (wC (.int 3))) wwNil))))))))))))))
theorem _law_are_refused_r : _law_are_refused_w = _law_are_refused_r0 := rfl
def _law_are_refused_s : FD := fun ws Q _ => ∃ cs ss : List Int, Ud cs ss ∧ ws = [.row, .d (intsT cs), .d (intsT ss)] ∧ Q (.bool true)
theorem mono__law_are_refused : MonoF _law_are_refused_s := fun ws Q Q' EX h ⟨a, b, h1, e, q⟩ => ⟨a, b, h1, e, h _ q⟩
theorem areNums_len {xs : List D} {n lo hi : Int} (h : (xs.length : Int) ≠ n) : areNums (.tuple xs) n lo hi = false := by
  simp [areNums, h]
theorem areNums_first {x : D} {xs : List D} {n lo hi : Int} (h : isNum x lo hi = false) : areNums (.tuple (x :: xs)) n lo hi = false := by
  simp [areNums, h]
theorem mf_bad {l s v n : D} {Q : D → Prop} {EX : EXn} (c : pok l s v = false) (X : PX l s v EX) : most_for_s [.d l, .d s, .d v, .d n] Q EX := ⟨l, s, v, n, rfl, X, fun z => by (rw [c] at z; cases z), fun z => by (rw [c] at z; cases z)⟩
theorem mf_bad4 {cs ss ps : List Int} {n : D} {Q : D → Prop} {EX : EXn} (P : Pd cs ss ps) (c : isNum n 0 ((ss.length : Int) - 1) = false) (hx : EX (.bad "number")) : most_for_s [.d (intsT cs), .d (intsT ss), .d (intsT ps), .d n] Q EX :=
  ⟨_, _, _, n, rfl, px_ok P, fun _ _ => hx, fun _ z => by (rw [rdL_ints, c] at z; cases z)⟩
theorem rep_ints (m : Int) (n : Nat) : List.replicate n (PyData.int m) = (List.replicate n m).map .int := by rw [List.map_replicate]
theorem meets__law_are_refused (ws : List W) (Q : D → Prop) (EX : EXn) (h : _law_are_refused_s ws Q EX) : mkF 3 6 _law_are_refused_w ws Q EX := by
  obtain ⟨cs, ss, U, rfl, q⟩ := h
  refine ⟨rfl, ?_⟩
  have hcl := U.cl
  have hsl := U.sl
  have hP0 : Pd cs ss (List.replicate ss.length 0) := ⟨U, by simp, fun p hp => by rw [(List.mem_replicate.mp hp).2]; omega⟩
  have ep : PyData.tuple (List.replicate ss.length (PyData.int 0)) = intsT (List.replicate ss.length 0) := by unfold intsT; rw [rep_ints]
  have ec : PyData.tuple (cs.map PyData.int) = intsT cs := rfl
  have es : PyData.tuple (ss.map PyData.int) = intsT ss := rfl
  rw [_law_are_refused_r]
  simp [_law_are_refused_r0, intsT]
  refine ⟨by omega, ?_⟩
  simp [_law_are_refused_r1]
  refine pick_use (by simp) (by simp) fun bad hb => ?_
  have hbad : isNum bad 0 ((ss.length : Int) - 1) = false := by
    simp only [List.mem_cons, List.not_mem_nil, or_false] at hb
    rcases hb with rfl | rfl | rfl | rfl | rfl
    · rfl
    · simp [isNum]
    · simp [isNum]; omega
    · rfl
    · rfl
  simp [_law_are_refused_r2, plainE]
  rw [ep, ec, es]
  refine heard_bad (fun Q' => mf_bad4 hP0 hbad rfl) ?_
  refine alike_use (plain_bad (by decide +kernel)) ?_
  simp [_law_are_refused_r3, intsT]
  refine ⟨by rw [sizeLine_eq]; omega, by omega, by rw [sizeLine_eq]; omega, ⟨by omega, by omega⟩, ?_⟩
  have hm : (max 1 (ss.length : Int)).toNat = max 1 ss.length := by omega
  rw [hm]
  refine pick_use (by simp) (by simp) fun bad hb => ?_
  have hbad : paidOk ss.length bad = false := by
    simp only [List.mem_cons, List.not_mem_nil, or_false] at hb
    rcases hb with rfl | rfl | rfl | rfl | rfl | rfl
    · rfl
    · rfl
    · exact areNums_len (by simp; omega)
    · exact areNums_len (by simp; omega)
    · obtain ⟨n, hn⟩ : ∃ n, max 1 ss.length = n + 1 := ⟨max 1 ss.length - 1, by omega⟩
      rw [hn, List.replicate_succ]
      exact areNums_first rfl
    · rfl
  simp [_law_are_refused_r4, plainE]
  rw [ec, es]
  refine heard_bad (fun Q' => pay_bad (pok3 hbad) (px_bad3 U rfl)) ?_
  refine heard_bad (fun Q' => pay_bad (pok3 hbad) (px_bad3 U rfl)) ?_
  refine heard_bad (fun Q' => mf_bad (pok3 hbad) (px_bad3 U rfl)) ?_
  simp [_law_are_refused_r5]
  refine ⟨by rw [sizeLine_eq]; decide, alike_bads (x := "paid") (by decide +kernel) (by rw [sizeLine_eq]; simp) (by simp) ?_⟩
  simp [_law_are_refused_r6, intsT]
  refine pick_use (by simp) (by simp) fun bad hb => ?_
  have hbad : stopsOk (rdL (intsT cs)).length bad = false := by
    rw [rdL_ints]
    simp only [List.mem_cons, List.not_mem_nil, or_false] at hb
    rcases hb with rfl | rfl | rfl | rfl | rfl | rfl | rfl
    · rfl
    · rfl
    · simp [stopsOk, isNum]
      omega
    · simp [stopsOk, isNum]
    · rfl
    · rfl
    · rfl
  have hc := costs_ok U.cl U.c0
  simp [_law_are_refused_r7, plainE]
  rw [ec]
  refine heard_bad (fun Q' => use_bad (uok2 hbad) (ux_bad2 hc rfl)) ?_
  refine heard_bad (fun Q' => use_bad (uok2 hbad) (ux_bad2 hc rfl)) ?_
  refine heard_bad (fun Q' => pay_bad (pok1 (uok2 hbad)) (px_bad (uok2 hbad) (ux_bad2 hc rfl))) ?_
  simp [_law_are_refused_r8]
  refine ⟨by rw [sizeLine_eq]; decide, alike_bads (x := "stops") (by decide +kernel) (by rw [sizeLine_eq]; simp) (by simp) ?_⟩
  simp [_law_are_refused_r9, intsT]
  refine pick_use (by simp) (by simp) fun bad hb => ?_
  have hbad : costsOk bad = false := by
    simp only [List.mem_cons, List.not_mem_nil, or_false] at hb
    rcases hb with rfl | rfl | rfl | rfl | rfl | rfl | rfl
    · rfl
    · rfl
    · rfl
    · rfl
    · rfl
    · rfl
    · rfl
  simp [_law_are_refused_r10, plainE]
  refine heard_bad (fun Q' => use_bad (uok1 hbad) (ux_bad1 hbad rfl)) ?_
  refine heard_bad (fun Q' => use_bad (uok1 hbad) (ux_bad1 hbad rfl)) ?_
  refine heard_bad (fun Q' => pay_bad (pok1 (uok1 hbad)) (px_bad (uok1 hbad) (ux_bad1 hbad rfl))) ?_
  simp [_law_are_refused_r11]
  exact ⟨by rw [sizeLine_eq]; decide, alike_bads (x := "costs") (by decide +kernel) (by rw [sizeLine_eq]; simp) (by simp) q⟩
end DD
set_option maxRecDepth 100000
set_option maxHeartbeats 8000000
namespace DD
open PySem PySem.Spec PyProof.Rows L2 GenW
open K19 (Fr val unit users cost unf pay Fair restAt N0 ords added mar fact setSum setCost)
def law_r6 : WS := (wRet (wCall _law_are_refused_s (wwRow 1 (wwCons (wVar 3) (wwCons (wVar 5) wwNil)))))
def law_r5 : WS := wSeq (wFor (wiRng1 (wC (.int 4))) (wgName 7) (wSeq (wSet 8 (wOpN (f1 aTupleOf) (waCons (wLc (wiSeq (wVar 6)) (wgName 4) wYes (wOpN (f2 aMin2) (waCons (wC (.int 20000)) (waCons (wCall _law_pick_s (wwRow 1 (wwCons (wLst (waCons (wOp2 aFdiv (wOp2 aIx (wVar 4) (wC (.int 0))) (wOp2 aIx (wVar 4) (wC (.int 1)))) (waCons (wOp2 aAdd (wOp2 aFdiv (wOp2 aIx (wVar 4) (wC (.int 0))) (wOp2 aIx (wVar 4) (wC (.int 1)))) (wC (.int 1))) (waCons (wC (.int 0)) (waCons (wCall _law_taken_s (wwRow 1 (wwCons (wVar 2) wwNil))) waNil))))) wwNil))) waNil))) [4]) waNil))) (wSeq (wSet 9 (wCall _law_unfair_s (wwCons (wVar 3) (wwCons (wVar 5) (wwCons (wVar 8) wwNil))))) (wSeq (wIfS (wOr (wNot (wTru (wCall _law_alike_s (wwCons (wCall unfair_s (wwCons (wVar 3) (wwCons (wVar 5) (wwCons (wVar 8) wwNil)))) (wwCons (wVar 9) wwNil))))) (wNot (wTru (wCall _law_alike_s (wwCons (wCall is_fair_s (wwCons (wVar 3) (wwCons (wVar 5) (wwCons (wVar 8) wwNil)))) (wwCons (wCmp2 gIsN (wVar 9) (wC .none)) wwNil)))))) (wRet (wC (.bool false))) wSkip) (wSeq (wIfS (wAnd (wTst2 gLe (wOpN (f1 aLen) (waCons (wVar 5) waNil)) (wC (.int 5))) (wNot (wTru (wCall _law_alike_s (wwCons (wCall _law_fair_sets_s (wwCons (wVar 3) (wwCons (wVar 5) (wwCons (wVar 8) wwNil)))) (wwCons (wCmp2 gIsN (wVar 9) (wC .none)) wwNil)))))) (wRet (wC (.bool false))) wSkip) (wIfS (wTst2 gNe (wVar 5) (wTup waNil)) (wSeq (wSet 10 (wCall _law_taken_s (wwRow 1 (wwCons (wOpN (f1 aLen) (waCons (wVar 5) waNil)) wwNil)))) (wSeq (wSet 11 (wCall most_for_s (wwCons (wVar 3) (wwCons (wVar 5) (wwCons (wVar 8) (wwCons (wVar 10) wwNil)))))) (wSeq (wSet 12 (wOp2 aAdd (wOp2 aAdd (wCut (wVar 8) woNone (woSome (wVar 10))) (wTup (waCons (wC (.int 0)) waNil))) (wCut (wVar 8) (woSome (wOp2 aAdd (wVar 10) (wC (.int 1)))) woNone))) (wSeq (wIfS (wTst2 gNe (wCmp2 gIsN (wVar 11) (wC .none)) (wCmp2 gNotN (wCall _law_unfair_s (wwCons (wVar 3) (wwCons (wVar 5) (wwCons (wVar 12) wwNil)))) (wC .none))) (wRet (wC (.bool false))) wSkip) (wIfS (wTst2 gNotN (wVar 11) (wC .none)) (wSeq (wSet 13 (wLc (wiRng1 (wC (.int 2))) (wgName 4) wYes (wCmp2 gIsN (wCall _law_unfair_s (wwCons (wVar 3) (wwCons (wVar 5) (wwCons (wOp2 aAdd (wOp2 aAdd (wCut (wVar 8) woNone (woSome (wVar 10))) (wTup (waCons (wOp2 aAdd (wVar 11) (wVar 4)) waNil))) (wCut (wVar 8) (woSome (wOp2 aAdd (wVar 10) (wC (.int 1)))) woNone)) wwNil)))) (wC .none)) [4])) (wIfS (wOr (wNot (wTru (wIsi "int" (wVar 11)))) (wOr (wTru (wIsi "bool" (wVar 11))) (wTst2 gNe (wVar 13) (wLst (waCons (wC (.bool true)) (waCons (wC (.bool false)) waNil)))))) (wRet (wC (.bool false))) wSkip)) wSkip))))) wSkip)))))) law_r6
def law_r4 : WS := wSeq (wIfS (wOr (wNot (wTru (wCall _law_alike_s (wwCons (wCall cost_for_s (wwCons (wVar 3) (wwCons (wVar 5) wwNil))) (wwCons (wCall _law_cost_s (wwCons (wVar 3) (wwCons (wVar 5) wwNil))) wwNil))))) (wNot (wTru (wCall _law_are_shares_s (wwCons (wVar 3) (wwCons (wVar 5) (wwCons (wVar 6) wwNil))))))) (wRet (wC (.bool false))) wSkip) law_r5
def law_r3 : WS := wSeq (wSet 6 (wCall shares_s (wwCons (wVar 3) (wwCons (wVar 5) wwNil)))) law_r4
def law_r2 : WS := wSeq (wSet 5 (wOpN (f1 aTupleOf) (waCons (wLc (wiRng1 (wCall _law_taken_s (wwRow 1 (wwCons (wCall _law_pick_s (wwRow 1 (wwCons (wLst (waCons (wC (.int 5)) (waCons (wC (.int 6)) (waCons (wC (.int 13)) waNil)))) wwNil))) wwNil)))) (wgName 4) wYes (wCall _law_taken_s (wwRow 1 (wwCons (wOp2 aAdd (wOpN (f1 aLen) (waCons (wVar 3) waNil)) (wC (.int 1))) wwNil))) [4]) waNil))) law_r3
def law_r1 : WS := wSeq (wSet 3 (wOpN (f1 aTupleOf) (waCons (wLc (wiRng1 (wCall _law_taken_s (wwRow 1 (wwCons (wCall _law_pick_s (wwRow 1 (wwCons (wLst (waCons (wC (.int 4)) (waCons (wC (.int 8)) (waCons (wC (.int 21)) waNil)))) wwNil))) wwNil)))) (wgName 4) wYes (wCall _law_taken_s (wwRow 1 (wwCons (wVar 2) wwNil))) [4]) waNil))) law_r2
def law_r0 : WS := wSeq (wSet 2 (wCall _law_pick_s (wwRow 1 (wwCons (wLst (waCons (wC (.int 5)) (waCons (wC (.int 60)) (waCons (wC (.int 1001)) waNil)))) wwNil)))) law_r1
def law_w : WS := wSeq (wSet 2 (wCall _law_pick_s (wwRow 1 (wwCons (wLst (waCons (wC (.int 5)) (waCons (wC (.int 60)) (waCons (wC (.int 1001)) waNil)))) wwNil)))) (wSeq (wSet 3 (wOpN (f1 aTupleOf) (waCons (wLc (wiRng1 (wCall _law_taken_s (wwRow 1 (wwCons (wCall _law_pick_s (wwRow 1 (wwCons (wLst (waCons (wC (.int 4)) (waCons (wC (.int 8)) (waCons (wC (.int 21)) waNil)))) wwNil))) wwNil)))) (wgName 4) wYes (wCall _law_taken_s (wwRow 1 (wwCons (wVar 2) wwNil))) [4]) waNil))) (wSeq (wSet 5 (wOpN (f1 aTupleOf) (waCons (wLc (wiRng1 (wCall _law_taken_s (wwRow 1 (wwCons (wCall _law_pick_s (wwRow 1 (wwCons (wLst (waCons (wC (.int 5)) (waCons (wC (.int 6)) (waCons (wC (.int 13)) waNil)))) wwNil))) wwNil)))) (wgName 4) wYes (wCall _law_taken_s (wwRow 1 (wwCons (wOp2 aAdd (wOpN (f1 aLen) (waCons (wVar 3) waNil)) (wC (.int 1))) wwNil))) [4]) waNil))) (wSeq (wSet 6 (wCall shares_s (wwCons (wVar 3) (wwCons (wVar 5) wwNil)))) (wSeq (wIfS (wOr (wNot (wTru (wCall _law_alike_s (wwCons (wCall cost_for_s (wwCons (wVar 3) (wwCons (wVar 5) wwNil))) (wwCons (wCall _law_cost_s (wwCons (wVar 3) (wwCons (wVar 5) wwNil))) wwNil))))) (wNot (wTru (wCall _law_are_shares_s (wwCons (wVar 3) (wwCons (wVar 5) (wwCons (wVar 6) wwNil))))))) (wRet (wC (.bool false))) wSkip) (wSeq (wFor (wiRng1 (wC (.int 4))) (wgName 7) (wSeq (wSet 8 (wOpN (f1 aTupleOf) (waCons (wLc (wiSeq (wVar 6)) (wgName 4) wYes (wOpN (f2 aMin2) (waCons (wC (.int 20000)) (waCons (wCall _law_pick_s (wwRow 1 (wwCons (wLst (waCons (wOp2 aFdiv (wOp2 aIx (wVar 4) (wC (.int 0))) (wOp2 aIx (wVar 4) (wC (.int 1)))) (waCons (wOp2 aAdd (wOp2 aFdiv (wOp2 aIx (wVar 4) (wC (.int 0))) (wOp2 aIx (wVar 4) (wC (.int 1)))) (wC (.int 1))) (waCons (wC (.int 0)) (waCons (wCall _law_taken_s (wwRow 1 (wwCons (wVar 2) wwNil))) waNil))))) wwNil))) waNil))) [4]) waNil))) (wSeq (wSet 9 (wCall _law_unfair_s (wwCons (wVar 3) (wwCons (wVar 5) (wwCons (wVar 8) wwNil))))) (wSeq (wIfS (wOr (wNot (wTru (wCall _law_alike_s (wwCons (wCall unfair_s (wwCons (wVar 3) (wwCons (wVar 5) (wwCons (wVar 8) wwNil)))) (wwCons (wVar 9) wwNil))))) (wNot (wTru (wCall _law_alike_s (wwCons (wCall is_fair_s (wwCons (wVar 3) (wwCons (wVar 5) (wwCons (wVar 8) wwNil)))) (wwCons (wCmp2 gIsN (wVar 9) (wC .none)) wwNil)))))) (wRet (wC (.bool false))) wSkip) (wSeq (wIfS (wAnd (wTst2 gLe (wOpN (f1 aLen) (waCons (wVar 5) waNil)) (wC (.int 5))) (wNot (wTru (wCall _law_alike_s (wwCons (wCall _law_fair_sets_s (wwCons (wVar 3) (wwCons (wVar 5) (wwCons (wVar 8) wwNil)))) (wwCons (wCmp2 gIsN (wVar 9) (wC .none)) wwNil)))))) (wRet (wC (.bool false))) wSkip) (wIfS (wTst2 gNe (wVar 5) (wTup waNil)) (wSeq (wSet 10 (wCall _law_taken_s (wwRow 1 (wwCons (wOpN (f1 aLen) (waCons (wVar 5) waNil)) wwNil)))) (wSeq (wSet 11 (wCall most_for_s (wwCons (wVar 3) (wwCons (wVar 5) (wwCons (wVar 8) (wwCons (wVar 10) wwNil)))))) (wSeq (wSet 12 (wOp2 aAdd (wOp2 aAdd (wCut (wVar 8) woNone (woSome (wVar 10))) (wTup (waCons (wC (.int 0)) waNil))) (wCut (wVar 8) (woSome (wOp2 aAdd (wVar 10) (wC (.int 1)))) woNone))) (wSeq (wIfS (wTst2 gNe (wCmp2 gIsN (wVar 11) (wC .none)) (wCmp2 gNotN (wCall _law_unfair_s (wwCons (wVar 3) (wwCons (wVar 5) (wwCons (wVar 12) wwNil)))) (wC .none))) (wRet (wC (.bool false))) wSkip) (wIfS (wTst2 gNotN (wVar 11) (wC .none)) (wSeq (wSet 13 (wLc (wiRng1 (wC (.int 2))) (wgName 4) wYes (wCmp2 gIsN (wCall _law_unfair_s (wwCons (wVar 3) (wwCons (wVar 5) (wwCons (wOp2 aAdd (wOp2 aAdd (wCut (wVar 8) woNone (woSome (wVar 10))) (wTup (waCons (wOp2 aAdd (wVar 11) (wVar 4)) waNil))) (wCut (wVar 8) (woSome (wOp2 aAdd (wVar 10) (wC (.int 1)))) woNone)) wwNil)))) (wC .none)) [4])) (wIfS (wOr (wNot (wTru (wIsi "int" (wVar 11)))) (wOr (wTru (wIsi "bool" (wVar 11))) (wTst2 gNe (wVar 13) (wLst (waCons (wC (.bool true)) (waCons (wC (.bool false)) waNil)))))) (wRet (wC (.bool false))) wSkip)) wSkip))))) wSkip)))))) (wRet (wCall _law_are_refused_s (wwRow 1 (wwCons (wVar 3) (wwCons (wVar 5) wwNil))))))))))
theorem law_r : law_w = law_r0 := rfl
def lb_r4 : WS := (wIfS (wTst2 gNe (wVar 5) (wTup waNil)) (wSeq (wSet 10 (wCall _law_taken_s (wwRow 1 (wwCons (wOpN (f1 aLen) (waCons (wVar 5) waNil)) wwNil)))) (wSeq (wSet 11 (wCall most_for_s (wwCons (wVar 3) (wwCons (wVar 5) (wwCons (wVar 8) (wwCons (wVar 10) wwNil)))))) (wSeq (wSet 12 (wOp2 aAdd (wOp2 aAdd (wCut (wVar 8) woNone (woSome (wVar 10))) (wTup (waCons (wC (.int 0)) waNil))) (wCut (wVar 8) (woSome (wOp2 aAdd (wVar 10) (wC (.int 1)))) woNone))) (wSeq (wIfS (wTst2 gNe (wCmp2 gIsN (wVar 11) (wC .none)) (wCmp2 gNotN (wCall _law_unfair_s (wwCons (wVar 3) (wwCons (wVar 5) (wwCons (wVar 12) wwNil)))) (wC .none))) (wRet (wC (.bool false))) wSkip) (wIfS (wTst2 gNotN (wVar 11) (wC .none)) (wSeq (wSet 13 (wLc (wiRng1 (wC (.int 2))) (wgName 4) wYes (wCmp2 gIsN (wCall _law_unfair_s (wwCons (wVar 3) (wwCons (wVar 5) (wwCons (wOp2 aAdd (wOp2 aAdd (wCut (wVar 8) woNone (woSome (wVar 10))) (wTup (waCons (wOp2 aAdd (wVar 11) (wVar 4)) waNil))) (wCut (wVar 8) (woSome (wOp2 aAdd (wVar 10) (wC (.int 1)))) woNone)) wwNil)))) (wC .none)) [4])) (wIfS (wOr (wNot (wTru (wIsi "int" (wVar 11)))) (wOr (wTru (wIsi "bool" (wVar 11))) (wTst2 gNe (wVar 13) (wLst (waCons (wC (.bool true)) (waCons (wC (.bool false)) waNil)))))) (wRet (wC (.bool false))) wSkip)) wSkip))))) wSkip)
def lb_r3 : WS := wSeq (wIfS (wAnd (wTst2 gLe (wOpN (f1 aLen) (waCons (wVar 5) waNil)) (wC (.int 5))) (wNot (wTru (wCall _law_alike_s (wwCons (wCall _law_fair_sets_s (wwCons (wVar 3) (wwCons (wVar 5) (wwCons (wVar 8) wwNil)))) (wwCons (wCmp2 gIsN (wVar 9) (wC .none)) wwNil)))))) (wRet (wC (.bool false))) wSkip) lb_r4
def lb_r2 : WS := wSeq (wIfS (wOr (wNot (wTru (wCall _law_alike_s (wwCons (wCall unfair_s (wwCons (wVar 3) (wwCons (wVar 5) (wwCons (wVar 8) wwNil)))) (wwCons (wVar 9) wwNil))))) (wNot (wTru (wCall _law_alike_s (wwCons (wCall is_fair_s (wwCons (wVar 3) (wwCons (wVar 5) (wwCons (wVar 8) wwNil)))) (wwCons (wCmp2 gIsN (wVar 9) (wC .none)) wwNil)))))) (wRet (wC (.bool false))) wSkip) lb_r3
def lb_r1 : WS := wSeq (wSet 9 (wCall _law_unfair_s (wwCons (wVar 3) (wwCons (wVar 5) (wwCons (wVar 8) wwNil))))) lb_r2
def lb_r0 : WS := wSeq (wSet 8 (wOpN (f1 aTupleOf) (waCons (wLc (wiSeq (wVar 6)) (wgName 4) wYes (wOpN (f2 aMin2) (waCons (wC (.int 20000)) (waCons (wCall _law_pick_s (wwRow 1 (wwCons (wLst (waCons (wOp2 aFdiv (wOp2 aIx (wVar 4) (wC (.int 0))) (wOp2 aIx (wVar 4) (wC (.int 1)))) (waCons (wOp2 aAdd (wOp2 aFdiv (wOp2 aIx (wVar 4) (wC (.int 0))) (wOp2 aIx (wVar 4) (wC (.int 1)))) (wC (.int 1))) (waCons (wC (.int 0)) (waCons (wCall _law_taken_s (wwRow 1 (wwCons (wVar 2) wwNil))) waNil))))) wwNil))) waNil))) [4]) waNil))) lb_r1
theorem lb_for : law_r5 = wSeq (wFor (wiRng1 (wC (.int 4))) (wgName 7) lb_r0) law_r6 := rfl
theorem ne_nilT {xs : List D} {Q : Bool → Prop} (h : SeqAt.shaped (.tuple xs) = true) (q : Q (!xs.isEmpty)) : gNe (.tuple xs) (.tuple []) Q := by
  refine ⟨h, rfl, ?_⟩
  cases xs with
  | nil => exact q
  | cons x xs => exact q
theorem shaped_intsT {ns : List Int} : SeqAt.shaped (.tuple (ns.map .int)) = true := shaped_of (shD_tuple (n := 0) shD_ints)
def lwE (wide : Int) (cs ss : List Int) (fr : List (Int × Int)) (x7 x8 x9 x10 x11 x12 x13 : Option W) : Env' := [none, some .row, some (.d (.int wide)), some (.d (.tuple (cs.map .int))), none, some (.d (.tuple (ss.map .int))), some (.d (frT fr)), x7, x8, x9, x10, x11, x12, x13]
theorem plain_unfD {cs ss ps : List Int} {n : Nat} : plainD n (unfD cs ss ps) = true := by
  unfold unfD
  cases unf cs ss ps
  · exact plain_none
  · exact plain_int
theorem mf_good {cs ss ps : List Int} {k : Nat} {Q : D → Prop} {EX : EXn} (P : Pd cs ss ps) (hk : k < ss.length) (q1 : unf cs ss (K19.put ps k 0) ≠ none → Q .none) (q2 : unf cs ss (K19.put ps k 0) = none → ∀ m, Most cs ss ps k m → Q (.int m)) : most_for_s [.d (intsT cs), .d (intsT ss), .d (intsT ps), .d (.int (k : Int))] Q EX := by
  have hn : isNum (.int (k : Int)) 0 ((ss.length : Int) - 1) = true := by simp [isNum]; omega
  refine ⟨_, _, _, _, rfl, px_ok P, fun _ z => (by rw [rdL_ints, hn] at z; cases z), fun _ _ => ?_⟩
  rw [rdL_ints, rdL_ints, rdL_ints]
  exact ⟨q1, q2⟩
theorem unfD_none {cs ss ps : List Int} (h : unf cs ss ps = none) : unfD cs ss ps = .none := by unfold unfD; rw [h]
theorem unfD_some {cs ss ps : List Int} (h : unf cs ss ps ≠ none) : isNone (unfD cs ss ps) = false := by
  unfold unfD
  cases e : unf cs ss ps with
  | none => exact absurd e h
  | some t => rfl
theorem lb_ok {wide : Int} {cs ss : List Int} {fr : List (Int × Int)} {x7 x8 x9 x10 x11 x12 x13 : Option W} {P B : Env' → Prop} (hw0 : 0 < wide) (hw1 : wide ≤ 2000) (U : Ud cs ss) (S : Shs cs ss fr) (h : ∀ x8 x9 x10 x11 x12 x13, P (lwE wide cs ss fr x7 x8 x9 x10 x11 x12 x13)) :
    lb_r0 { nx := P, rt := fun d => d = .bool true, bk := B, ct := P, ex := noX } (lwE wide cs ss fr x7 x8 x9 x10 x11 x12 x13) := by
  have hcl := U.cl
  have hsl := U.sl
  have hfl := S.1
  simp [lb_r0, lwE, frT]
  refine ⟨_, rfl, ?_⟩
  refine comp_any (fun d => ∃ l : Int, d = .int l ∧ 0 ≤ l ∧ l ≤ 20000) (fun p hp R hR => ?_) (by rw [sizeLine_eq]; simp; omega) fun ys hys hP => ?_
  · obtain ⟨k, hk, F⟩ := frs_all S p hp
    have hq := F.q0
    have hqN : p.2 ≤ 27720 := F.qN
    have hdiv := Int.ediv_nonneg F.p0 (Int.le_of_lt hq)
    simp
    refine ⟨_, atD_nat (i := 0) rfl, _, atD_nat (i := 1) rfl, ⟨hq, by omega⟩, _, atD_nat (i := 0) rfl, _, atD_nat (i := 1) rfl, ⟨hq, by omega⟩, ?_⟩
    simp
    refine taken_use hw0 (by omega) fun r hr0 hr1 => ?_
    refine pick_use (by simp) (by simp) fun d hd => ?_
    have hd : ∃ i : Int, d = .int i ∧ 0 ≤ i := by
      simp only [List.mem_cons, List.not_mem_nil, or_false] at hd
      rcases hd with rfl | rfl | rfl | rfl
      · exact ⟨_, rfl, hdiv⟩
      · exact ⟨_, rfl, by omega⟩
      · exact ⟨_, rfl, by omega⟩
      · exact ⟨_, rfl, hr0⟩
    obtain ⟨i, rfl, hi⟩ := hd
    simp
    exact hR _ ⟨_, rfl, by omega, by omega⟩
  obtain ⟨ps, rfl, hps⟩ := ints_of hP
  rw [List.length_map] at hys
  have hpl : ps.length = ss.length := by omega
  have PP : Pd cs ss ps := ⟨U, hpl, hps⟩
  simp [lb_r1]
  refine lu_use hcl hsl hpl ?_
  simp [lb_r2]
  refine pay_good (cs := cs) (ss := ss) (ps := ps) PP ?_
  refine alike_use plain_unfD ⟨rfl, ?_⟩
  refine pay_good (cs := cs) (ss := ss) (ps := ps) PP ?_
  refine alike_use plain_bool ⟨rfl, ?_⟩
  have go : lb_r4 { nx := P, rt := fun d => d = .bool true, bk := B, ct := P, ex := noX } (lwE wide cs ss fr x7 (some (.d (.tuple (ps.map .int)))) (some (.d (unfD cs ss ps))) x10 x11 x12 x13) := by
    simp [lb_r4, lwE]
    refine ne_nilT shaped_intsT ?_
    cases hss : ss.isEmpty with
    | true =>
      simp [hss]
      exact h _ _ _ _ _ _
    | false =>
      simp [hss]
      have hpos : 0 < ss.length := by
        cases ss with
        | nil => simp at hss
        | cons s ss => simp
      refine taken_use (by omega) (by omega) fun n hn0 hn1 => ?_
      obtain ⟨k, rfl⟩ := Int.eq_ofNat_of_zero_le hn0
      have hk : k < ss.length := by omega
      have hc1 : cutD (ps.map PyData.int) none (some (k : Int)) = (ps.map PyData.int).take k := cut_to _ _
      have hc2 : cutD (ps.map PyData.int) (some ((k : Int) + 1)) none = (ps.map PyData.int).drop (k + 1) := cut_from _ (k + 1)
      have ep : ∀ m : Int, (ps.map PyData.int).take k ++ PyData.int m :: (ps.map PyData.int).drop (k + 1) = (K19.put ps k m).map .int := fun m => by rw [put_ints]; simp
      have hs1 : ((ps.map PyData.int).take k).length + 1 ≤ sizeLine := by rw [sizeLine_eq]; simp; omega
      have hs2 : ((ps.map PyData.int).take k).length + 1 + ((ps.map PyData.int).drop (k + 1)).length ≤ sizeLine := by rw [sizeLine_eq]; simp; omega
      have hpm : ∀ m, (K19.put ps k m).length = ss.length := fun m => by rw [K19.put_len (by omega)]; omega
      refine mf_good PP hk (fun hu => ?_) (fun hu m hM => ?_)
      · refine ⟨_, rfl, by rw [hc1]; exact hs1, _, rfl, by rw [hc1, hc2]; exact hs2, ?_⟩
        rw [hc1, hc2, ep]
        refine lu_use hcl hsl (hpm 0) ?_
        rw [unfD_some hu]
        exact ⟨by decide, h _ _ _ _ _ _⟩
      · refine ⟨_, rfl, by rw [hc1]; exact hs1, _, rfl, by rw [hc1, hc2]; exact hs2, ?_⟩
        rw [hc1, hc2, ep]
        refine lu_use hcl hsl (hpm 0) ?_
        rw [unfD_none hu]
        refine ⟨by simp [isNone], ?_⟩
        rw [if_neg (by simp [isNone])]
        refine ⟨by unfold rBnd; omega, ?_⟩
        rw [rngD_map]
        refine comp_mapM (fun j : Nat => .bool (isNone (unfD cs ss (K19.put ps k (m + (j : Int)))))) (fun j hj R r => ?_) (by rw [List.length_range, sizeLine_eq]; decide) ?_
        · simp
          rw [hc1, hc2, ep]
          refine ⟨by simpa using hs1, by simpa using hs2, ?_⟩
          exact lu_use hcl hsl (hpm _) r
        have h1 : isNone (unfD cs ss (K19.put ps k (m + ((0 : Nat) : Int)))) = true := by
          rw [show m + ((0 : Nat) : Int) = m by omega]
          exact unfD_fair.mpr (K19.most_fair hpl hk (K19.unf_fair.mp hu) hM.1)
        have h2 : isNone (unfD cs ss (K19.put ps k (m + ((1 : Nat) : Int)))) = false := by
          obtain ⟨t, ht1, ht2, ht3⟩ := hM.2
          exact unfD_not (K19.most_unfair hpl hk ht1 ht2 ht3)
        have e2 : (List.range 2).map (fun j : Nat => PyData.bool (isNone (unfD cs ss (K19.put ps k (m + (j : Int)))))) = [.bool true, .bool false] := by
          show [PyData.bool (isNone (unfD cs ss (K19.put ps k (m + ((0 : Nat) : Int))))), PyData.bool (isNone (unfD cs ss (K19.put ps k (m + ((1 : Nat) : Int)))))] = _
          rw [h1, h2]
        rw [e2]
        refine ⟨rfl, rfl, by decide +kernel, by decide +kernel, ?_, ?_⟩
        · decide +kernel
        · exact h _ _ _ _ _ _
  simp [lb_r3]
  by_cases c5 : (ss.length : Int) ≤ 5
  · rw [if_pos c5]
    refine ⟨cs, ss, ps, rfl, PP, by omega, ?_⟩
    refine alike_use plain_bool ⟨rfl, ?_⟩
    exact go
  · rw [if_neg c5]
    exact go
theorem plain_law : law_w { nx := fun _ => False, rt := fun d => d = .bool true, ex := noX } (none :: some .row :: List.replicate 12 none) := by
  rw [law_r]
  simp [law_r0]
  refine pick_use (by simp) (by simp) fun n hn => ?_
  have hn : ∃ i : Int, n = .int i ∧ 0 < i ∧ i ≤ 1001 := by
    simp at hn
    rcases hn with rfl | rfl | rfl <;> exact ⟨_, rfl, by decide, by decide⟩
  obtain ⟨wide, rfl, hw0, hw1⟩ := hn
  simp [law_r1]
  refine pick_use (by simp) (by simp) fun n hn => ?_
  have hn : ∃ i : Int, n = .int i ∧ 0 < i ∧ i ≤ 21 := by
    simp at hn
    rcases hn with rfl | rfl | rfl <;> exact ⟨_, rfl, by decide, by decide⟩
  obtain ⟨n, rfl, hn0, hn1⟩ := hn
  refine taken_use hn0 (by omega) fun many hm0 hm1 => ?_
  refine ⟨_, rfl, by unfold rBnd; omega, ?_⟩
  rw [rngD_map]
  refine comp_any (fun d => ∃ l : Int, d = .int l ∧ 0 ≤ l ∧ l ≤ 1000) (fun j hj R hR => ?_) (by simp; rw [sizeLine_eq]; omega) fun ys hys hP => ?_
  · simp
    refine taken_use hw0 (by omega) fun r hr0 hr1 => ?_
    exact hR _ ⟨_, rfl, by omega, by omega⟩
  obtain ⟨cs, rfl, hcs⟩ := ints_of hP
  rw [List.length_map, List.length_range] at hys
  have hcl : cs.length ≤ 20 := by omega
  simp [law_r2]
  refine pick_use (by simp) (by simp) fun n hn => ?_
  have hn : ∃ i : Int, n = .int i ∧ 0 < i ∧ i ≤ 13 := by
    simp at hn
    rcases hn with rfl | rfl | rfl <;> exact ⟨_, rfl, by decide, by decide⟩
  obtain ⟨n2, rfl, h20, h21⟩ := hn
  refine taken_use h20 (by omega) fun many2 hm20 hm21 => ?_
  refine ⟨_, rfl, by unfold rBnd; omega, ?_⟩
  rw [rngD_map]
  refine comp_any (fun d => ∃ l : Int, d = .int l ∧ 0 ≤ l ∧ l ≤ (cs.length : Int)) (fun j hj R hR => ?_) (by simp; rw [sizeLine_eq]; omega) fun ys hys hP => ?_
  · simp
    refine taken_use (by omega) (by omega) fun r hr0 hr1 => ?_
    exact hR _ ⟨_, rfl, by omega, by omega⟩
  obtain ⟨ss, rfl, hss⟩ := ints_of hP
  rw [List.length_map, List.length_range] at hys
  have U : Ud cs ss := ⟨hcl, hcs, by omega, hss⟩
  have hsl := U.sl
  simp [law_r3]
  refine use_good (cs := cs) (ss := ss) U fun fr S => ?_
  simp [law_r4]
  refine use_good (cs := cs) (ss := ss) U ?_
  refine lc_use (cs := cs) (ss := ss) (d := .tuple (ss.map .int)) rfl (by omega) ?_
  refine alike_use plain_int ⟨rfl, ?_⟩
  refine ⟨cs, ss, fr, rfl, U, S, ?_⟩
  refine ⟨rfl, ?_⟩
  rw [lb_for]
  simp
  refine ⟨by unfold rBnd; omega, ?_⟩
  rw [rngD_map]
  refine loop_runM (fun i ρ => ∃ x7 x8 x9 x10 x11 x12 x13, ρ = lwE wide cs ss fr x7 x8 x9 x10 x11 x12 x13) ⟨none, none, none, none, none, none, none, rfl⟩ ?_ ?_
  · rintro i j ρ P e ⟨x7, x8, x9, x10, x11, x12, x13, rfl⟩ hP
    simp [lwE]
    exact lb_ok (x7 := some (.d (.int (j : Int)))) hw0 (by omega) U S fun a b c d e f => hP _ ⟨_, a, b, c, d, e, f, rfl⟩
  · rintro ρ ⟨x7, x8, x9, x10, x11, x12, x13, rfl⟩
    simp [lwE, law_r6]
    exact ⟨cs, ss, U, rfl, rfl⟩
end DD
set_option maxRecDepth 100000
set_option maxHeartbeats 8000000
namespace DD
open PySem PySem.Spec PyProof.Rows L2 GenW
def top (i : Nat) : Stmt := PySem.Challenge.pw_loadedvan_k19_whole_shares.main.body.getD i (.Pass ⟨0, 0, 0, 0⟩)
abbrev st_is_number : Stmt := top 5
abbrev ps_is_number : List Str := ["value", "low", "high"]
abbrev st_check : Stmt := top 6
abbrev ps_check : List Str := ["is_right", "name"]
abbrev st_are_numbers : Stmt := top 7
abbrev ps_are_numbers : List Str := ["value", "many", "low", "high"]
abbrev st_common : Stmt := top 10
abbrev ps_common : List Str := ["one", "other"]
abbrev st_lowest : Stmt := top 11
abbrev ps_lowest : List Str := ["part", "whole"]
abbrev st_plus : Stmt := top 12
abbrev ps_plus : List Str := ["one", "other"]
abbrev st_check_use : Stmt := top 17
abbrev ps_check_use : List Str := ["costs", "stops"]
abbrev st_cost_for : Stmt := top 18
abbrev ps_cost_for : List Str := ["costs", "stops"]
abbrev st_shares : Stmt := top 19
abbrev ps_shares : List Str := ["costs", "stops"]
abbrev st_unfair : Stmt := top 21
abbrev ps_unfair : List Str := ["costs", "stops", "paid"]
abbrev st_is_fair : Stmt := top 20
abbrev ps_is_fair : List Str := ["costs", "stops", "paid"]
abbrev st_most_for : Stmt := top 22
abbrev ps_most_for : List Str := ["costs", "stops", "paid", "number"]
abbrev st__law_taken : Stmt := top 24
abbrev ps__law_taken : List Str := ["row", "many"]
abbrev st__law_pick : Stmt := top 25
abbrev ps__law_pick : List Str := ["row", "some"]
abbrev st__law_alike : Stmt := top 26
abbrev ps__law_alike : List Str := ["found", "due"]
abbrev st__law_cost : Stmt := top 27
abbrev ps__law_cost : List Str := ["costs", "stops"]
abbrev st__law_part : Stmt := top 28
abbrev ps__law_part : List Str := ["fraction"]
abbrev st__law_sum : Stmt := top 29
abbrev ps__law_sum : List Str := ["rows"]
abbrev st__law_orders : Stmt := top 30
abbrev ps__law_orders : List Str := ["many"]
abbrev st__law_by_orders : Stmt := top 31
abbrev ps__law_by_orders : List Str := ["costs", "stops"]
abbrev st__law_are_shares : Stmt := top 32
abbrev ps__law_are_shares : List Str := ["costs", "stops", "found"]
abbrev st__law_unfair : Stmt := top 33
abbrev ps__law_unfair : List Str := ["costs", "stops", "paid"]
abbrev st__law_fair_sets : Stmt := top 34
abbrev ps__law_fair_sets : List Str := ["costs", "stops", "paid"]
abbrev st__law_heard : Stmt := top 35
abbrev ps__law_heard : List Str := ["ask"]
abbrev st__law_are_refused : Stmt := top 36
abbrev ps__law_are_refused : List Str := ["row", "costs", "stops"]
abbrev st_law : Stmt := top 37
abbrev ps_law : List Str := ["script"]
abbrev QT_is_number : Str := "is_number" ++ ".<locals>." ++ "<lambda>"
abbrev QT_check : Str := "check" ++ ".<locals>." ++ "<lambda>"
abbrev QT_are_numbers : Str := "are_numbers" ++ ".<locals>." ++ "<lambda>"
abbrev QT_common : Str := "common" ++ ".<locals>." ++ "<lambda>"
abbrev QT_lowest : Str := "lowest" ++ ".<locals>." ++ "<lambda>"
abbrev QT_plus : Str := "plus" ++ ".<locals>." ++ "<lambda>"
abbrev QT_check_use : Str := "check_use" ++ ".<locals>." ++ "<lambda>"
abbrev QT_cost_for : Str := "cost_for" ++ ".<locals>." ++ "<lambda>"
abbrev QT_shares : Str := "shares" ++ ".<locals>." ++ "<lambda>"
abbrev QT_unfair : Str := "unfair" ++ ".<locals>." ++ "<lambda>"
abbrev QT_is_fair : Str := "is_fair" ++ ".<locals>." ++ "<lambda>"
abbrev QT_most_for : Str := "most_for" ++ ".<locals>." ++ "<lambda>"
abbrev QT__law_taken : Str := "_law_taken" ++ ".<locals>." ++ "<lambda>"
abbrev QT__law_pick : Str := "_law_pick" ++ ".<locals>." ++ "<lambda>"
abbrev QT__law_alike : Str := "_law_alike" ++ ".<locals>." ++ "<lambda>"
abbrev QT__law_cost : Str := "_law_cost" ++ ".<locals>." ++ "<lambda>"
abbrev QT__law_part : Str := "_law_part" ++ ".<locals>." ++ "<lambda>"
abbrev QT__law_sum : Str := "_law_sum" ++ ".<locals>." ++ "<lambda>"
abbrev QT__law_orders : Str := "_law_orders" ++ ".<locals>." ++ "<lambda>"
abbrev QT__law_by_orders : Str := "_law_by_orders" ++ ".<locals>." ++ "<lambda>"
abbrev QT__law_are_shares : Str := "_law_are_shares" ++ ".<locals>." ++ "<lambda>"
abbrev QT__law_unfair : Str := "_law_unfair" ++ ".<locals>." ++ "<lambda>"
abbrev QT__law_fair_sets : Str := "_law_fair_sets" ++ ".<locals>." ++ "<lambda>"
abbrev QT__law_heard : Str := "_law_heard" ++ ".<locals>." ++ "<lambda>"
abbrev QT__law_are_refused : Str := "_law_are_refused" ++ ".<locals>." ++ "<lambda>"
abbrev QT_law : Str := "law" ++ ".<locals>." ++ "<lambda>"
structure Names (K : PySem.W.Frag) (mg : Str → Option Value) : Prop where
  n_abs : mg "abs" = none
  n_all : mg "all" = none
  n_bool : mg "bool" = none
  n_dict : mg "dict" = none
  n_enumerate : mg "enumerate" = none
  n_int : mg "int" = none
  n_isinstance : mg "isinstance" = none
  n_len : mg "len" = none
  n_list : mg "list" = none
  n_max : mg "max" = none
  n_min : mg "min" = none
  n_range : mg "range" = none
  n_str : mg "str" = none
  n_sum : mg "sum" = none
  n_tuple : mg "tuple" = none
  n_zip : mg "zip" = none
  c_MOST_COST : ∃ t, mg "MOST_COST" = some (.int 1000 t)
  c_MOST_CUSTOMERS : ∃ t, mg "MOST_CUSTOMERS" = some (.int 12 t)
  c_MOST_STOP : ∃ t, mg "MOST_STOP" = some (.int 20 t)
  c_NOTHING : GlobT K mg "NOTHING" [0, 1]
theorem sc_is_number : FnScope ["value", "low", "high"] ["value", "low", "high"] (defScope st_is_number) := C8.fnScope_by (by decide +kernel)
theorem ok_is_number {P : Program} {w0 : World} {K : PySem.W.Frag} {mg : Str → Option Value} {base : Heap} {S : Par} (hK : S.K = K) (B : Names K mg) {f : Addr} {fd : FuncData} {cdv : Value} (F : FunC K "is_number" "is_number" st_is_number f fd cdv)  :
    FnOk P w0 K mg base (L2.CX P w0) 3 f fd ["value", "low", "high"] (SpD S (mkF 3 3 is_number_w)) := by
  refine fn_D F hK sc_is_number fun N0 A outer s H E hr => ?_
  have nd := sc_is_number.nd
  have hx : XP (S.inn N0 H E) (bodyCx P w0 K mg base ["value", "low", "high"] "is_number" st_is_number f cdv A outer s H E) := body_xp (S := S) (N0 := N0) (H := H)
  have lk : Like ((S.inn N0 H E).at K) S := ⟨hK.symm, rfl, rfl, rfl, rfl, rfl, rfl, rfl⟩
  have own_ : PassesOwn (model P w0) (bodyCx P w0 K mg base ["value", "low", "high"] "is_number" st_is_number f cdv A outer s H E).A (bodyCx P w0 K mg base ["value", "low", "high"] "is_number" st_is_number f cdv A outer s H E).env (bodyCx P w0 K mg base ["value", "low", "high"] "is_number" st_is_number f cdv A outer s H E).xe := body_own
  exact (dss_one (ds_ret (de_and (de_isi B.n_isinstance B.n_int boot_int ok_int (DE.b (de_var 0))) (de_and (de_not (DE.b (de_isi B.n_isinstance B.n_bool boot_bool ok_bool (DE.b (de_var 0))))) (de_one (de_chain (op_leA hr.units0) (op_leA hr.units0) c_le c_le (DE.b (de_var 1)) (DE.b (de_var 0)) (DE.b (de_var 2))))))))
theorem sc_check : FnScope ["is_right", "name"] ["is_right", "name"] (defScope st_check) := C8.fnScope_by (by decide +kernel)
theorem ok_check {P : Program} {w0 : World} {K : PySem.W.Frag} {mg : Str → Option Value} {base : Heap} {S : Par} (hK : S.K = K) (B : Names K mg) {f : Addr} {fd : FuncData} {cdv : Value} {Cb fI ccb : Addr} (BAD : BadTxt P K mg Cb fI ccb) (hCb : S.cBad = Cb) (F : FunC K "check" "check" st_check f fd cdv)  :
    FnOk P w0 K mg base (L2.CX P w0) 3 f fd ["is_right", "name"] (SpD S (mkF 2 2 check_w)) := by
  refine fn_D F hK sc_check fun N0 A outer s H E hr => ?_
  have nd := sc_check.nd
  have hx : XP (S.inn N0 H E) (bodyCx P w0 K mg base ["is_right", "name"] "check" st_check f cdv A outer s H E) := body_xp (S := S) (N0 := N0) (H := H)
  have lk : Like ((S.inn N0 H E).at K) S := ⟨hK.symm, rfl, rfl, rfl, rfl, rfl, rfl, rfl⟩
  have own_ : PassesOwn (model P w0) (bodyCx P w0 K mg base ["is_right", "name"] "check" st_check f cdv A outer s H E).A (bodyCx P w0 K mg base ["is_right", "name"] "check" st_check f cdv A outer s H E).env (bodyCx P w0 K mg base ["is_right", "name"] "check" st_check f cdv A outer s H E).xe := body_own
  exact (dss_one (ds_if (dt_not (dt_val (DE.b (de_var 0)))) (dss_one (ds_raiseBad rfl BAD hCb hr (takes_of (E := E) rfl rfl rfl rfl) (de_var 1))) dss_nil))
theorem sc_are_numbers : FnScope ["value", "many", "low", "high", "one"] ["value", "many", "low", "high"] (defScope st_are_numbers) := C8.fnScope_by (by decide +kernel)
theorem ok_are_numbers {P : Program} {w0 : World} {K : PySem.W.Frag} {mg : Str → Option Value} {base : Heap} {S : Par} (hK : S.K = K) (B : Names K mg) {f : Addr} {fd : FuncData} {cc PP : Addr} (tb : LamX.TabB base mg cc PP) (hPG : PP ∈ S.G) (F : FunC K "are_numbers" "are_numbers" st_are_numbers f fd (.ref cc)) (C_is_number : Cal P w0 K mg base S 3 "is_number" ps_is_number is_number_s) :
    FnOk P w0 K mg base (L2.CX P w0) 6 f fd ["value", "many", "low", "high"] (SpD S (mkF 4 5 are_numbers_w)) := by
  refine fn_D F hK sc_are_numbers fun N0 A outer s H E hr => ?_
  have nd := sc_are_numbers.nd
  have hx : XP (S.inn N0 H E) (bodyCx P w0 K mg base ["value", "many", "low", "high", "one"] "are_numbers" st_are_numbers f (.ref cc) A outer s H E) := body_xp (S := S) (N0 := N0) (H := H)
  have lk : Like ((S.inn N0 H E).at K) S := ⟨hK.symm, rfl, rfl, rfl, rfl, rfl, rfl, rfl⟩
  have own_ : PassesOwn (model P w0) (bodyCx P w0 K mg base ["value", "many", "low", "high", "one"] "are_numbers" st_are_numbers f (.ref cc) A outer s H E).A (bodyCx P w0 K mg base ["value", "many", "low", "high", "one"] "are_numbers" st_are_numbers f (.ref cc) A outer s H E).env (bodyCx P w0 K mg base ["value", "many", "low", "high", "one"] "are_numbers" st_are_numbers f (.ref cc) A outer s H E).xe := body_own
  exact (dss_one (ds_ret (de_and (de_isi B.n_isinstance B.n_tuple boot_tuple ok_tuple (DE.b (de_var 0))) (de_and (de_cmp (op_eqD hr.units) c_eq (DE.b (de_callB call_len n_len B.n_len boot_len (dbs_cons (DE.b (de_var 0)) dbs_nil))) (DE.b (de_var 1))) (de_one (de_all (gp (own := [("one", 4)]) nd lk tb hPG hr (di_seq (DB.h (DE.b (de_var 0)))) (fun _ _ _ _ _ _ _ => (dg_name 4 nd)) (fun _ _ _ _ _ _ _ hr hx lk => dts_nil) (fun _ _ _ _ _ _ _ hr hx lk => (de_callC C_is_number lk hr hx (dws_cons (de_var 4) (dws_cons (de_var 2) (dws_cons (de_var 3) dws_nil)))))) B.n_all))))))
theorem sc_common : FnScope ["one", "other"] ["one", "other"] (defScope st_common) := C8.fnScope_by (by decide +kernel)
theorem ok_common {P : Program} {w0 : World} {K : PySem.W.Frag} {mg : Str → Option Value} {base : Heap} {S : Par} (hK : S.K = K) (B : Names K mg) {f : Addr} {fd : FuncData} {cdv : Value} (F : FunC K "common" "common" st_common f fd cdv)  :
    FnOk P w0 K mg base (L2.CX P w0) 3 f fd ["one", "other"] (SpD S (mkF 2 2 common_w)) := by
  refine fn_D F hK sc_common fun N0 A outer s H E hr => ?_
  have nd := sc_common.nd
  have hx : XP (S.inn N0 H E) (bodyCx P w0 K mg base ["one", "other"] "common" st_common f cdv A outer s H E) := body_xp (S := S) (N0 := N0) (H := H)
  have lk : Like ((S.inn N0 H E).at K) S := ⟨hK.symm, rfl, rfl, rfl, rfl, rfl, rfl, rfl⟩
  have own_ : PassesOwn (model P w0) (bodyCx P w0 K mg base ["one", "other"] "common" st_common f cdv A outer s H E).A (bodyCx P w0 K mg base ["one", "other"] "common" st_common f cdv A outer s H E).env (bodyCx P w0 K mg base ["one", "other"] "common" st_common f cdv A outer s H E).xe := body_own
  exact (dss_cons (ds_while own_ (dt_val (DE.b (de_var 1))) (dss_one (ds_par2 0 1 (dm_d (de_var 1) (dm_d (de_op op_mod o_int (DE.b (de_var 0)) (DE.b (de_var 1))) dm_nil)) rfl nd rfl))) (dss_one (ds_ret (de_callB call_abs n_abs B.n_abs boot_abs (dbs_cons (DE.b (de_var 0)) dbs_nil)))))
theorem sc_lowest : FnScope ["part", "whole", "shared"] ["part", "whole"] (defScope st_lowest) := C8.fnScope_by (by decide +kernel)
theorem ok_lowest {P : Program} {w0 : World} {K : PySem.W.Frag} {mg : Str → Option Value} {base : Heap} {S : Par} (hK : S.K = K) (B : Names K mg) {f : Addr} {fd : FuncData} {cdv : Value} (F : FunC K "lowest" "lowest" st_lowest f fd cdv) (C_common : Cal P w0 K mg base S 3 "common" ps_common common_s) :
    FnOk P w0 K mg base (L2.CX P w0) 4 f fd ["part", "whole"] (SpD S (mkF 2 3 lowest_w)) := by
  refine fn_D F hK sc_lowest fun N0 A outer s H E hr => ?_
  have nd := sc_lowest.nd
  have hx : XP (S.inn N0 H E) (bodyCx P w0 K mg base ["part", "whole", "shared"] "lowest" st_lowest f cdv A outer s H E) := body_xp (S := S) (N0 := N0) (H := H)
  have lk : Like ((S.inn N0 H E).at K) S := ⟨hK.symm, rfl, rfl, rfl, rfl, rfl, rfl, rfl⟩
  have own_ : PassesOwn (model P w0) (bodyCx P w0 K mg base ["part", "whole", "shared"] "lowest" st_lowest f cdv A outer s H E).A (bodyCx P w0 K mg base ["part", "whole", "shared"] "lowest" st_lowest f cdv A outer s H E).env (bodyCx P w0 K mg base ["part", "whole", "shared"] "lowest" st_lowest f cdv A outer s H E).xe := body_own
  exact (dss_cons (ds_if (dt_cmp (op_ltA hr.units0) c_lt (DE.b (de_var 1)) (DE.b de_int)) (dss_one (ds_par2 0 1 (dm_d (de_neg (DE.b (de_var 0))) (dm_d (de_neg (DE.b (de_var 1))) dm_nil)) rfl nd rfl)) dss_nil) (dss_cons (ds_set 2 (de_callC C_common lk hr hx (dws_cons (de_var 0) (dws_cons (de_var 1) dws_nil))) nd) (dss_one (ds_ret (de_tup (an_cons (de_op op_fdiv o_int (DE.b (de_var 0)) (DE.b (de_var 2))) (an_cons (de_op op_fdiv o_int (DE.b (de_var 1)) (DE.b (de_var 2))) an_nil)))))))
theorem sc_plus : FnScope ["one", "other"] ["one", "other"] (defScope st_plus) := C8.fnScope_by (by decide +kernel)
theorem ok_plus {P : Program} {w0 : World} {K : PySem.W.Frag} {mg : Str → Option Value} {base : Heap} {S : Par} (hK : S.K = K) (B : Names K mg) {f : Addr} {fd : FuncData} {cdv : Value} (F : FunC K "plus" "plus" st_plus f fd cdv) (C_lowest : Cal P w0 K mg base S 4 "lowest" ps_lowest lowest_s) :
    FnOk P w0 K mg base (L2.CX P w0) 5 f fd ["one", "other"] (SpD S (mkF 2 2 plus_w)) := by
  refine fn_D F hK sc_plus fun N0 A outer s H E hr => ?_
  have nd := sc_plus.nd
  have hx : XP (S.inn N0 H E) (bodyCx P w0 K mg base ["one", "other"] "plus" st_plus f cdv A outer s H E) := body_xp (S := S) (N0 := N0) (H := H)
  have lk : Like ((S.inn N0 H E).at K) S := ⟨hK.symm, rfl, rfl, rfl, rfl, rfl, rfl, rfl⟩
  have own_ : PassesOwn (model P w0) (bodyCx P w0 K mg base ["one", "other"] "plus" st_plus f cdv A outer s H E).A (bodyCx P w0 K mg base ["one", "other"] "plus" st_plus f cdv A outer s H E).env (bodyCx P w0 K mg base ["one", "other"] "plus" st_plus f cdv A outer s H E).xe := body_own
  exact (dss_one (ds_ret (de_callC C_lowest lk hr hx (dws_cons (de_op op_addA o_add (DE.b (de_op op_mulA o_mul (DE.b (de_ix ix_seq o_ix (DE.b (de_var 0)) (DE.b de_int))) (DE.b (de_ix ix_seq o_ix (DE.b (de_var 1)) (DE.b de_int))))) (DE.b (de_op op_mulA o_mul (DE.b (de_ix ix_seq o_ix (DE.b (de_var 1)) (DE.b de_int))) (DE.b (de_ix ix_seq o_ix (DE.b (de_var 0)) (DE.b de_int)))))) (dws_cons (de_op op_mulA o_mul (DE.b (de_ix ix_seq o_ix (DE.b (de_var 0)) (DE.b de_int))) (DE.b (de_ix ix_seq o_ix (DE.b (de_var 1)) (DE.b de_int)))) dws_nil)))))
theorem sc_check_use : FnScope ["costs", "stops", "right"] ["costs", "stops"] (defScope st_check_use) := C8.fnScope_by (by decide +kernel)
theorem ok_check_use {P : Program} {w0 : World} {K : PySem.W.Frag} {mg : Str → Option Value} {base : Heap} {S : Par} (hK : S.K = K) (B : Names K mg) {f : Addr} {fd : FuncData} {cdv : Value} (F : FunC K "check_use" "check_use" st_check_use f fd cdv) (C_are_numbers : Cal P w0 K mg base S 6 "are_numbers" ps_are_numbers are_numbers_s) (C_check : Cal P w0 K mg base S 3 "check" ps_check check_s) :
    FnOk P w0 K mg base (L2.CX P w0) 7 f fd ["costs", "stops"] (SpD S (mkF 2 3 check_use_w)) := by
  refine fn_D F hK sc_check_use fun N0 A outer s H E hr => ?_
  have nd := sc_check_use.nd
  have hx : XP (S.inn N0 H E) (bodyCx P w0 K mg base ["costs", "stops", "right"] "check_use" st_check_use f cdv A outer s H E) := body_xp (S := S) (N0 := N0) (H := H)
  have lk : Like ((S.inn N0 H E).at K) S := ⟨hK.symm, rfl, rfl, rfl, rfl, rfl, rfl, rfl⟩
  have own_ : PassesOwn (model P w0) (bodyCx P w0 K mg base ["costs", "stops", "right"] "check_use" st_check_use f cdv A outer s H E).A (bodyCx P w0 K mg base ["costs", "stops", "right"] "check_use" st_check_use f cdv A outer s H E).env (bodyCx P w0 K mg base ["costs", "stops", "right"] "check_use" st_check_use f cdv A outer s H E).xe := body_own
  exact (dss_cons (ds_set 2 (de_and (de_isi B.n_isinstance B.n_tuple boot_tuple ok_tuple (DE.b (de_var 0))) (de_and (de_cmp (op_leA hr.units0) c_le (DE.b (de_callB call_len n_len B.n_len boot_len (dbs_cons (DE.b (de_var 0)) dbs_nil))) (DE.b (de_globI B.c_MOST_STOP))) (de_one (de_callC C_are_numbers lk hr hx (dws_cons (de_var 0) (dws_cons (de_callB call_len n_len B.n_len boot_len (dbs_cons (DE.b (de_var 0)) dbs_nil)) (dws_cons de_int (dws_cons (de_globI B.c_MOST_COST) dws_nil)))))))) nd) (dss_cons (ds_expr (DE.b (de_callC C_check lk hr hx (dws_cons (de_var 2) (dws_cons de_str dws_nil))))) (dss_cons (ds_set 2 (de_and (de_isi B.n_isinstance B.n_tuple boot_tuple ok_tuple (DE.b (de_var 1))) (de_one (de_cmp (op_leA hr.units0) c_le (DE.b (de_callB call_len n_len B.n_len boot_len (dbs_cons (DE.b (de_var 1)) dbs_nil))) (DE.b (de_globI B.c_MOST_CUSTOMERS))))) nd) (dss_one (ds_expr (DE.b (de_callC C_check lk hr hx (dws_cons (de_and (de_var 2) (de_one (de_callC C_are_numbers lk hr hx (dws_cons (de_var 1) (dws_cons (de_callB call_len n_len B.n_len boot_len (dbs_cons (DE.b (de_var 1)) dbs_nil)) (dws_cons de_int (dws_cons (de_callB call_len n_len B.n_len boot_len (dbs_cons (DE.b (de_var 0)) dbs_nil)) dws_nil))))))) (dws_cons de_str dws_nil)))))))))
theorem sc_cost_for : FnScope ["costs", "stops"] ["costs", "stops"] (defScope st_cost_for) := C8.fnScope_by (by decide +kernel)
theorem ok_cost_for {P : Program} {w0 : World} {K : PySem.W.Frag} {mg : Str → Option Value} {base : Heap} {S : Par} (hK : S.K = K) (B : Names K mg) {f : Addr} {fd : FuncData} {cdv : Value} (F : FunC K "cost_for" "cost_for" st_cost_for f fd cdv) (C_check_use : Cal P w0 K mg base S 7 "check_use" ps_check_use check_use_s) :
    FnOk P w0 K mg base (L2.CX P w0) 8 f fd ["costs", "stops"] (SpD S (mkF 2 2 cost_for_w)) := by
  refine fn_D F hK sc_cost_for fun N0 A outer s H E hr => ?_
  have nd := sc_cost_for.nd
  have hx : XP (S.inn N0 H E) (bodyCx P w0 K mg base ["costs", "stops"] "cost_for" st_cost_for f cdv A outer s H E) := body_xp (S := S) (N0 := N0) (H := H)
  have lk : Like ((S.inn N0 H E).at K) S := ⟨hK.symm, rfl, rfl, rfl, rfl, rfl, rfl, rfl⟩
  have own_ : PassesOwn (model P w0) (bodyCx P w0 K mg base ["costs", "stops"] "cost_for" st_cost_for f cdv A outer s H E).A (bodyCx P w0 K mg base ["costs", "stops"] "cost_for" st_cost_for f cdv A outer s H E).env (bodyCx P w0 K mg base ["costs", "stops"] "cost_for" st_cost_for f cdv A outer s H E).xe := body_own
  exact (dss_cons (ds_expr (DE.b (de_callC C_check_use lk hr hx (dws_cons (de_var 0) (dws_cons (de_var 1) dws_nil))))) (dss_one (ds_ret (de_callB (cr_sumA rfl) n_sumA B.n_sum boot_sum (dbs_cons (DE.b (de_cut (DE.b (de_var 0)) do_none (do_some (DE.b (de_maxD rfl hr.units B.n_max (DE.b (de_var 1)) de_int))))) dbs_nil)))))
theorem sc_shares : FnScope ["costs", "stops", "found", "leg", "cost", "users", "number", "stop"] ["costs", "stops"] (defScope st_shares) := C8.fnScope_by (by decide +kernel)
theorem ok_shares {P : Program} {w0 : World} {K : PySem.W.Frag} {mg : Str → Option Value} {base : Heap} {S : Par} (hK : S.K = K) (B : Names K mg) {f : Addr} {fd : FuncData} {cdv : Value} (F : FunC K "shares" "shares" st_shares f fd cdv) (C_check_use : Cal P w0 K mg base S 7 "check_use" ps_check_use check_use_s) (C_lowest : Cal P w0 K mg base S 4 "lowest" ps_lowest lowest_s) (C_plus : Cal P w0 K mg base S 5 "plus" ps_plus plus_s) :
    FnOk P w0 K mg base (L2.CX P w0) 8 f fd ["costs", "stops"] (SpD S (mkF 2 8 shares_w)) := by
  refine fn_D F hK sc_shares fun N0 A outer s H E hr => ?_
  have nd := sc_shares.nd
  have hx : XP (S.inn N0 H E) (bodyCx P w0 K mg base ["costs", "stops", "found", "leg", "cost", "users", "number", "stop"] "shares" st_shares f cdv A outer s H E) := body_xp (S := S) (N0 := N0) (H := H)
  have lk : Like ((S.inn N0 H E).at K) S := ⟨hK.symm, rfl, rfl, rfl, rfl, rfl, rfl, rfl⟩
  have own_ : PassesOwn (model P w0) (bodyCx P w0 K mg base ["costs", "stops", "found", "leg", "cost", "users", "number", "stop"] "shares" st_shares f cdv A outer s H E).A (bodyCx P w0 K mg base ["costs", "stops", "found", "leg", "cost", "users", "number", "stop"] "shares" st_shares f cdv A outer s H E).env (bodyCx P w0 K mg base ["costs", "stops", "found", "leg", "cost", "users", "number", "stop"] "shares" st_shares f cdv A outer s H E).xe := body_own
  exact (dss_cons (ds_expr (DE.b (de_callC C_check_use lk hr hx (dws_cons (de_var 0) (dws_cons (de_var 1) dws_nil))))) (dss_cons (ds_setO 2 (df_op op_mulA o_mulL (DE.b (DF.e (df_lst (an_cons (de_globT rfl B.c_NOTHING) an_nil)))) (DE.b (de_callB call_len n_len B.n_len boot_len (dbs_cons (DE.b (de_var 1)) dbs_nil)))) nd) (dss_cons (ds_for own_ rfl (di_enumA B.n_enumerate (DE.h (de_var 0))) (dg_tup rfl (dgs_cons (dg_name 3 nd) (dgs_cons (dg_name 4 nd) dgs_nil))) (dss_cons (ds_setLc 5 (lp (own := [("number", 6), ("stop", 7)]) nd lk (di_enumA B.n_enumerate (DB.h (DE.b (de_var 1)))) (fun _ _ _ _ _ => (dg_tup rfl (dgs_cons (dg_name 6 nd) (dgs_cons (dg_name 7 nd) dgs_nil)))) (fun _ _ _ _ _ hx lk => (dts_one (dt_cmp op_gt c_int (DE.b (de_var 7)) (DE.b (de_var 3))))) (fun _ _ _ _ _ hx lk => (de_var 6))) (sw_true rfl rfl rfl rfl)) (dss_one (ds_for own_ rfl (di_seq (DE.h (de_var 5))) (dg_name 6 nd) (dss_one (ds_put 2 (de_callC C_plus lk hr hx (dws_cons (de_ix ix_seq o_ix (db_own 2) (DE.b (de_var 6))) (dws_cons (de_callC C_lowest lk hr hx (dws_cons (de_var 4) (dws_cons (de_callB call_len n_len B.n_len boot_len (dbs_cons (DE.b (de_var 5)) dbs_nil)) dws_nil))) dws_nil))) (de_var 6))))))) (dss_one (ds_ret (de_callTy call_tuple_of n_tupleOf B.n_tuple boot_tuple (dbs_cons (db_own 2) dbs_nil)))))))
theorem sc_unfair : FnScope ["costs", "stops", "paid", "last", "total", "much", "stop"] ["costs", "stops", "paid"] (defScope st_unfair) := C8.fnScope_by (by decide +kernel)
theorem ok_unfair {P : Program} {w0 : World} {K : PySem.W.Frag} {mg : Str → Option Value} {base : Heap} {S : Par} (hK : S.K = K) (B : Names K mg) {f : Addr} {fd : FuncData} {cc PP : Addr} (tb : LamX.TabB base mg cc PP) (hPG : PP ∈ S.G) (F : FunC K "unfair" "unfair" st_unfair f fd (.ref cc)) (C_are_numbers : Cal P w0 K mg base S 6 "are_numbers" ps_are_numbers are_numbers_s) (C_check : Cal P w0 K mg base S 3 "check" ps_check check_s) (C_check_use : Cal P w0 K mg base S 7 "check_use" ps_check_use check_use_s) :
    FnOk P w0 K mg base (L2.CX P w0) 10 f fd ["costs", "stops", "paid"] (SpD S (mkF 3 7 unfair_w)) := by
  refine fn_D F hK sc_unfair fun N0 A outer s H E hr => ?_
  have nd := sc_unfair.nd
  have hx : XP (S.inn N0 H E) (bodyCx P w0 K mg base ["costs", "stops", "paid", "last", "total", "much", "stop"] "unfair" st_unfair f (.ref cc) A outer s H E) := body_xp (S := S) (N0 := N0) (H := H)
  have lk : Like ((S.inn N0 H E).at K) S := ⟨hK.symm, rfl, rfl, rfl, rfl, rfl, rfl, rfl⟩
  have own_ : PassesOwn (model P w0) (bodyCx P w0 K mg base ["costs", "stops", "paid", "last", "total", "much", "stop"] "unfair" st_unfair f (.ref cc) A outer s H E).A (bodyCx P w0 K mg base ["costs", "stops", "paid", "last", "total", "much", "stop"] "unfair" st_unfair f (.ref cc) A outer s H E).env (bodyCx P w0 K mg base ["costs", "stops", "paid", "last", "total", "much", "stop"] "unfair" st_unfair f (.ref cc) A outer s H E).xe := body_own
  exact (dss_cons (ds_expr (DE.b (de_callC C_check_use lk hr hx (dws_cons (de_var 0) (dws_cons (de_var 1) dws_nil))))) (dss_cons (ds_expr (DE.b (de_callC C_check lk hr hx (dws_cons (de_callC C_are_numbers lk hr hx (dws_cons (de_var 2) (dws_cons (de_callB call_len n_len B.n_len boot_len (dbs_cons (DE.b (de_var 1)) dbs_nil)) (dws_cons de_int (dws_cons (de_op op_mulA o_mul (DE.b (de_globI B.c_MOST_COST)) (DE.b (de_globI B.c_MOST_STOP))) dws_nil))))) (dws_cons de_str dws_nil))))) (dss_cons (ds_for own_ rfl (di_rng1 B.n_range (DE.b (de_op op_addA o_add (DE.b (de_callB call_len n_len B.n_len boot_len (dbs_cons (DE.b (de_var 0)) dbs_nil))) (DE.b de_int)))) (dg_name 3 nd) (dss_cons (ds_set 4 (de_sumG (gp (own := [("much", 5), ("stop", 6)]) nd lk tb hPG hr (di_zip B.n_zip (DB.h (DE.b (de_var 2))) (DB.h (DE.b (de_var 1)))) (fun _ _ _ _ _ _ _ => (dg_tup rfl (dgs_cons (dg_name 5 nd) (dgs_cons (dg_name 6 nd) dgs_nil)))) (fun _ _ _ _ _ _ _ hr hx lk => (dts_one (dt_cmp (op_leA hr.units0) c_le (DE.b (de_var 6)) (DE.b (de_var 3))))) (fun _ _ _ _ _ _ _ hr hx lk => (de_var 5))) B.n_sum) nd) (dss_one (ds_if (dt_cmp op_gt c_int (DE.b (de_var 4)) (DE.b (de_callB (cr_sumA rfl) n_sumA B.n_sum boot_sum (dbs_cons (DE.b (de_cut (DE.b (de_var 0)) do_none (do_some (DE.b (de_var 3))))) dbs_nil)))) (dss_one (ds_ret (de_var 3))) dss_nil)))) (dss_one (ds_ret de_non)))))
theorem sc_is_fair : FnScope ["costs", "stops", "paid"] ["costs", "stops", "paid"] (defScope st_is_fair) := C8.fnScope_by (by decide +kernel)
theorem ok_is_fair {P : Program} {w0 : World} {K : PySem.W.Frag} {mg : Str → Option Value} {base : Heap} {S : Par} (hK : S.K = K) (B : Names K mg) {f : Addr} {fd : FuncData} {cdv : Value} (F : FunC K "is_fair" "is_fair" st_is_fair f fd cdv) (C_are_numbers : Cal P w0 K mg base S 6 "are_numbers" ps_are_numbers are_numbers_s) (C_check : Cal P w0 K mg base S 3 "check" ps_check check_s) (C_check_use : Cal P w0 K mg base S 7 "check_use" ps_check_use check_use_s) (C_unfair : Cal P w0 K mg base S 10 "unfair" ps_unfair unfair_s) :
    FnOk P w0 K mg base (L2.CX P w0) 11 f fd ["costs", "stops", "paid"] (SpD S (mkF 3 3 is_fair_w)) := by
  refine fn_D F hK sc_is_fair fun N0 A outer s H E hr => ?_
  have nd := sc_is_fair.nd
  have hx : XP (S.inn N0 H E) (bodyCx P w0 K mg base ["costs", "stops", "paid"] "is_fair" st_is_fair f cdv A outer s H E) := body_xp (S := S) (N0 := N0) (H := H)
  have lk : Like ((S.inn N0 H E).at K) S := ⟨hK.symm, rfl, rfl, rfl, rfl, rfl, rfl, rfl⟩
  have own_ : PassesOwn (model P w0) (bodyCx P w0 K mg base ["costs", "stops", "paid"] "is_fair" st_is_fair f cdv A outer s H E).A (bodyCx P w0 K mg base ["costs", "stops", "paid"] "is_fair" st_is_fair f cdv A outer s H E).env (bodyCx P w0 K mg base ["costs", "stops", "paid"] "is_fair" st_is_fair f cdv A outer s H E).xe := body_own
  exact (dss_cons (ds_expr (DE.b (de_callC C_check_use lk hr hx (dws_cons (de_var 0) (dws_cons (de_var 1) dws_nil))))) (dss_cons (ds_expr (DE.b (de_callC C_check lk hr hx (dws_cons (de_callC C_are_numbers lk hr hx (dws_cons (de_var 2) (dws_cons (de_callB call_len n_len B.n_len boot_len (dbs_cons (DE.b (de_var 1)) dbs_nil)) (dws_cons de_int (dws_cons (de_op op_mulA o_mul (DE.b (de_globI B.c_MOST_COST)) (DE.b (de_globI B.c_MOST_STOP))) dws_nil))))) (dws_cons de_str dws_nil))))) (dss_one (ds_ret (de_cmp op_isN c_isN (DE.b (de_callC C_unfair lk hr hx (dws_cons (de_var 0) (dws_cons (de_var 1) (dws_cons (de_var 2) dws_nil))))) (DE.b de_non))))))
theorem sc_most_for : FnScope ["costs", "stops", "paid", "number", "others", "rests", "last", "much", "stop"] ["costs", "stops", "paid", "number"] (defScope st_most_for) := C8.fnScope_by (by decide +kernel)
theorem ok_most_for {P : Program} {w0 : World} {K : PySem.W.Frag} {mg : Str → Option Value} {base : Heap} {S : Par} (hK : S.K = K) (B : Names K mg) {f : Addr} {fd : FuncData} {cc PP : Addr} (tb : LamX.TabB base mg cc PP) (hPG : PP ∈ S.G) (F : FunC K "most_for" "most_for" st_most_for f fd (.ref cc)) (C_are_numbers : Cal P w0 K mg base S 6 "are_numbers" ps_are_numbers are_numbers_s) (C_check : Cal P w0 K mg base S 3 "check" ps_check check_s) (C_check_use : Cal P w0 K mg base S 7 "check_use" ps_check_use check_use_s) (C_is_number : Cal P w0 K mg base S 3 "is_number" ps_is_number is_number_s) (C_unfair : Cal P w0 K mg base S 10 "unfair" ps_unfair unfair_s) :
    FnOk P w0 K mg base (L2.CX P w0) 13 f fd ["costs", "stops", "paid", "number"] (SpD S (mkF 4 9 most_for_w)) := by
  refine fn_D F hK sc_most_for fun N0 A outer s H E hr => ?_
  have nd := sc_most_for.nd
  have hx : XP (S.inn N0 H E) (bodyCx P w0 K mg base ["costs", "stops", "paid", "number", "others", "rests", "last", "much", "stop"] "most_for" st_most_for f (.ref cc) A outer s H E) := body_xp (S := S) (N0 := N0) (H := H)
  have lk : Like ((S.inn N0 H E).at K) S := ⟨hK.symm, rfl, rfl, rfl, rfl, rfl, rfl, rfl⟩
  have own_ : PassesOwn (model P w0) (bodyCx P w0 K mg base ["costs", "stops", "paid", "number", "others", "rests", "last", "much", "stop"] "most_for" st_most_for f (.ref cc) A outer s H E).A (bodyCx P w0 K mg base ["costs", "stops", "paid", "number", "others", "rests", "last", "much", "stop"] "most_for" st_most_for f (.ref cc) A outer s H E).env (bodyCx P w0 K mg base ["costs", "stops", "paid", "number", "others", "rests", "last", "much", "stop"] "most_for" st_most_for f (.ref cc) A outer s H E).xe := body_own
  exact (dss_cons (ds_expr (DE.b (de_callC C_check_use lk hr hx (dws_cons (de_var 0) (dws_cons (de_var 1) dws_nil))))) (dss_cons (ds_expr (DE.b (de_callC C_check lk hr hx (dws_cons (de_callC C_are_numbers lk hr hx (dws_cons (de_var 2) (dws_cons (de_callB call_len n_len B.n_len boot_len (dbs_cons (DE.b (de_var 1)) dbs_nil)) (dws_cons de_int (dws_cons (de_op op_mulA o_mul (DE.b (de_globI B.c_MOST_COST)) (DE.b (de_globI B.c_MOST_STOP))) dws_nil))))) (dws_cons de_str dws_nil))))) (dss_cons (ds_expr (DE.b (de_callC C_check lk hr hx (dws_cons (de_callC C_is_number lk hr hx (dws_cons (de_var 3) (dws_cons de_int (dws_cons (de_op op_sub o_int0 (DE.b (de_callB call_len n_len B.n_len boot_len (dbs_cons (DE.b (de_var 1)) dbs_nil))) (DE.b de_int)) dws_nil)))) (dws_cons de_str dws_nil))))) (dss_cons (ds_set 4 (de_op op_addA o_add (DE.b (de_op op_addA o_add (DE.b (de_cut (DE.b (de_var 2)) do_none (do_some (DE.b (de_var 3))))) (DE.b (de_tup (an_cons de_int an_nil))))) (DE.b (de_cut (DE.b (de_var 2)) (do_some (DE.b (de_op op_addA o_add (DE.b (de_var 3)) (DE.b de_int)))) do_none))) nd) (dss_cons (ds_if (dt_cmp op_notN c_notN (DE.b (de_callC C_unfair lk hr hx (dws_cons (de_var 0) (dws_cons (de_var 1) (dws_cons (de_var 4) dws_nil))))) (DE.b de_non)) (dss_one (ds_ret de_non)) dss_nil) (dss_cons (ds_setO 5 (df_lst an_nil) nd) (dss_cons (ds_for own_ rfl (di_rng2 B.n_range (DE.b (de_ix ix_seq o_ix (DE.b (de_var 1)) (DE.b (de_var 3)))) (DE.b (de_op op_addA o_add (DE.b (de_callB call_len n_len B.n_len boot_len (dbs_cons (DE.b (de_var 0)) dbs_nil))) (DE.b de_int)))) (dg_name 6 nd) (dss_one (ds_app 5 (de_op op_sub o_int0 (DE.b (de_callB (cr_sumA rfl) n_sumA B.n_sum boot_sum (dbs_cons (DE.b (de_cut (DE.b (de_var 0)) do_none (do_some (DE.b (de_var 6))))) dbs_nil))) (DE.b (de_sumG (gp (own := [("much", 7), ("stop", 8)]) nd lk tb hPG hr (di_zip B.n_zip (DB.h (DE.b (de_var 4))) (DB.h (DE.b (de_var 1)))) (fun _ _ _ _ _ _ _ => (dg_tup rfl (dgs_cons (dg_name 7 nd) (dgs_cons (dg_name 8 nd) dgs_nil)))) (fun _ _ _ _ _ _ _ hr hx lk => (dts_one (dt_cmp (op_leA hr.units0) c_le (DE.b (de_var 8)) (DE.b (de_var 6))))) (fun _ _ _ _ _ _ _ hr hx lk => (de_var 7))) B.n_sum)))))) (dss_one (ds_ret (de_callB (cr_minA rfl hr.units) n_best B.n_min boot_min (dbs_cons (db_own 5) dbs_nil)))))))))))
theorem sc__law_taken : FnScope ["row", "many", "found", "cell"] ["row", "many"] (defScope st__law_taken) := C8.fnScope_by (by decide +kernel)
theorem ok__law_taken {P : Program} {w0 : World} {K : PySem.W.Frag} {mg : Str → Option Value} {base : Heap} {S : Par} (hK : S.K = K) (B : Names K mg) {f : Addr} {fd : FuncData} {cdv : Value} (F : FunC K "_law_taken" "_law_taken" st__law_taken f fd cdv) :
    FnOk P w0 K mg base (L2.CX P w0) 1 f fd ["row", "many"] (SpD S _law_taken_s) := by
  obtain ⟨oc, od, kV, doc, pm, an, ct, osl, rfl, lk, hcd⟩ := F.ex
  subst hK
  have nd := sc__law_taken.nd
  refine fn_of lk hcd sc__law_taken (fun vs H Q E h => ?_) fun A outer s H vs Q E hr h => ⟨t_taken _, ?_, pure_taken h⟩
  · obtain ⟨N0, ws, EX, _, _, hp, ⟨n, rfl, _⟩, _⟩ := h
    rw [paired_len hp]; rfl
  · exact pss_cons (ps_if (pt_cmpR op_gt (pe_ix ix_list (pv 0) pe_int (by intro _ _; rfl)) pe_int (nomark _)) (pss_cons (ps_set (i := 2) nd rfl (Or.inl rfl) (pe_op op_mod (pe_callTy call_int1 rfl B.n_int boot_int (pa_cons (pe_ix ix_list (pv 0) pe_int (by intro _ _; rfl)) pa_nil)) (pv 1))) (pss_cons (ps_asg (pe_op op_fdivW (pe_ix ix_list (pv 0) pe_int (by intro _ _; rfl)) (pv 1)) (pg_sub (pv 0) pe_int set_list (by intro _; rfl))) (pss_one (ps_ret (pv 2))))) pss_nil) (pss_cons (ps_asg (pe_op op_add (pe_ix ix_list (pv 0) pe_int (by intro _ _; rfl)) pe_int) (pg_sub (pv 0) pe_int set_list (by intro _; rfl))) (pss_cons (ps_if (pt_cmpR op_gt (pe_ix ix_list (pv 0) pe_int (by intro _ _; rfl)) (pe_callB call_len rfl B.n_len boot_len (pa_cons (pe_ix ix_list (pv 0) pe_int (by intro _ _; rfl)) pa_nil)) (nomark _)) (pss_cons (ps_asg (pe_op op_mod (pe_callTy call_int1 rfl B.n_int boot_int (pa_cons (pe_op op_add (pe_op op_mul (pe_ix ix_list (pv 0) pe_int (by intro _ _; rfl)) pe_int) pe_int) pa_nil)) pe_int) (pg_sub (pv 0) pe_int set_list (by intro _; rfl))) (pss_one (ps_ret (pe_op op_mod (pe_callTy call_int1 rfl B.n_int boot_int (pa_cons (pe_op op_fdivW (pe_ix ix_list (pv 0) pe_int (by intro _ _; rfl)) pe_int) pa_nil)) (pv 1))))) pss_nil) (pss_cons (ps_set (i := 3) nd rfl (Or.inl rfl) (pe_ix ix_list (pe_ix ix_list (pv 0) pe_int (by intro _ _; rfl)) (pe_op op_sub (pe_ix ix_list (pv 0) pe_int (by intro _ _; rfl)) pe_int) (by intro _ _; rfl))) (pss_cons (ps_asg (pe_op op_mod (pe_callTy call_int1 rfl B.n_int boot_int (pa_cons (pe_op op_add (pe_op op_add (pe_op op_mul (pe_ix ix_list (pv 0) pe_int (by intro _ _; rfl)) pe_int) (pv 3)) pe_int) pa_nil)) pe_int) (pg_sub (pv 0) pe_int set_list (by intro _; rfl))) (pss_cons (ps_if (pt_cmpR op_ge (pv 3) (pe_op op_pow pe_int pe_int) (nomark _)) (pss_one (ps_asg (pe_op op_fdivW (pv 3) (pv 1)) (pg_sub (pv 0) pe_int set_list (by intro _; rfl)))) pss_nil) (pss_one (ps_ret (pe_op op_mod (pe_callTy call_int1 rfl B.n_int boot_int (pa_cons (pv 3) pa_nil)) (pv 1)))))))))
theorem sc__law_pick : FnScope ["row", "some"] ["row", "some"] (defScope st__law_pick) := C8.fnScope_by (by decide +kernel)
theorem ok__law_pick {P : Program} {w0 : World} {K : PySem.W.Frag} {mg : Str → Option Value} {base : Heap} {S : Par} (hK : S.K = K) (B : Names K mg) {f : Addr} {fd : FuncData} {cdv : Value} (F : FunC K "_law_pick" "_law_pick" st__law_pick f fd cdv) (C__law_taken : Cal P w0 K mg base S 1 "_law_taken" ps__law_taken _law_taken_s) :
    FnOk P w0 K mg base (L2.CX P w0) 3 f fd ["row", "some"] (SpD S (mkF 2 2 _law_pick_w)) := by
  refine fn_D F hK sc__law_pick fun N0 A outer s H E hr => ?_
  have nd := sc__law_pick.nd
  have hx : XP (S.inn N0 H E) (bodyCx P w0 K mg base ["row", "some"] "_law_pick" st__law_pick f cdv A outer s H E) := body_xp (S := S) (N0 := N0) (H := H)
  have lk : Like ((S.inn N0 H E).at K) S := ⟨hK.symm, rfl, rfl, rfl, rfl, rfl, rfl, rfl⟩
  have own_ : PassesOwn (model P w0) (bodyCx P w0 K mg base ["row", "some"] "_law_pick" st__law_pick f cdv A outer s H E).A (bodyCx P w0 K mg base ["row", "some"] "_law_pick" st__law_pick f cdv A outer s H E).env (bodyCx P w0 K mg base ["row", "some"] "_law_pick" st__law_pick f cdv A outer s H E).xe := body_own
  exact (dss_one (ds_ret (de_ix ix_seq o_ix (DE.b (de_var 1)) (DE.b (de_callC C__law_taken lk hr hx (dws_row 0 (dws_cons (de_callB call_len n_len B.n_len boot_len (dbs_cons (DE.b (de_var 1)) dbs_nil)) dws_nil)))))))
theorem sc__law_alike : FnScope ["found", "due", "k", "key"] ["found", "due"] (defScope st__law_alike) := C8.fnScope_by (by decide +kernel)
theorem ok__law_alike {P : Program} {w0 : World} {K : PySem.W.Frag} {mg : Str → Option Value} {base : Heap} {S : Par} {j : Nat} {sp : FD} (hK : S.K = K) (B : Names K mg) {f : Addr} {fd : FuncData} {cdv : Value} (F : FunC K "_law_alike" "_law_alike" st__law_alike f fd cdv) (C__law_alike : Cal P w0 K mg base S j "_law_alike" ps__law_alike sp) :
    FnOk P w0 K mg base (L2.CX P w0) (j + 1) f fd ["found", "due"] (SpD S (mkF 2 4 (_law_alike_w sp))) := by
  refine fn_D F hK sc__law_alike fun N0 A outer s H E hr => ?_
  have nd := sc__law_alike.nd
  have hx : XP (S.inn N0 H E) (bodyCx P w0 K mg base ["found", "due", "k", "key"] "_law_alike" st__law_alike f cdv A outer s H E) := body_xp
  have lk : Like ((S.inn N0 H E).at K) S := ⟨hK.symm, rfl, rfl, rfl, rfl, rfl, rfl, rfl⟩
  exact (dss_cons (ds_if (dt_val (DE.b (de_isi2 B.n_isinstance B.n_tuple B.n_list boot_tuple boot_list ok_tuple ok_list (DE.b (de_var 1))))) (dss_cons (ds_if (DW.t (dw_or (dt_not (dt_val (DE.b (de_isi2 B.n_isinstance B.n_tuple B.n_list boot_tuple boot_list ok_tuple ok_list (DE.b (de_var 0)))))) (dw_or1 (dt_cmp (op_neD hr.units) c_ne (DE.b (de_isi B.n_isinstance B.n_list boot_list ok_list (DE.b (de_var 0)))) (DE.b (de_isi B.n_isinstance B.n_list boot_list ok_list (DE.b (de_var 1)))))))) (dss_one (ds_ret de_bl)) dss_nil) (dss_cons (ds_if (dt_cmp (op_neD hr.units) c_ne (DE.b (de_callB call_len n_len B.n_len boot_len (dbs_cons (DE.b (de_var 0)) dbs_nil))) (DE.b (de_callB call_len n_len B.n_len boot_len (dbs_cons (DE.b (de_var 1)) dbs_nil)))) (dss_one (ds_ret de_bl)) dss_nil) (dss_one (ds_ret (de_cmp (op_eqD hr.units) c_eq (DE.b (DF.e (df_lc (lp (own := [("k", 2)]) nd lk (di_rng1 B.n_range (DE.b (de_callB call_len n_len B.n_len boot_len (dbs_cons (DE.b (de_var 1)) dbs_nil)))) (fun _ _ _ _ _ => (dg_name 2 nd)) (fun _ _ _ _ _ hx lk => (dts_one (dt_not (dt_val (DE.b (de_callC C__law_alike lk hr hx (dws_cons (de_ix ix_seq o_ix (DE.b (de_var 0)) (DE.b (de_var 2))) (dws_cons (de_ix ix_seq o_ix (DE.b (de_var 1)) (DE.b (de_var 2))) dws_nil)))))))) (fun _ _ _ _ _ hx lk => (de_var 2)))))) (DE.b (DF.e (df_lst an_nil)))))))) dss_nil) (dss_cons (ds_if (dt_val (DE.b (de_isi B.n_isinstance B.n_dict boot_dict ok_dict (DE.b (de_var 1))))) (dss_cons (ds_if (DW.t (dw_or (dt_not (dt_val (DE.b (de_isi B.n_isinstance B.n_dict boot_dict ok_dict (DE.b (de_var 0)))))) (dw_or1 (dt_cmp (op_neD hr.units) c_ne (DE.b (DF.e (df_callTy call_list_of n_listOf B.n_list boot_list (dbs_cons (DE.b (de_var 0)) dbs_nil)))) (DE.b (DF.e (df_callTy call_list_of n_listOf B.n_list boot_list (dbs_cons (DE.b (de_var 1)) dbs_nil)))))))) (dss_one (ds_ret de_bl)) dss_nil) (dss_one (ds_ret (de_cmp (op_eqD hr.units) c_eq (DE.b (DF.e (df_lc (lp (own := [("key", 3)]) nd lk (di_seq (DB.h (DE.b (de_var 1)))) (fun _ _ _ _ _ => (dg_name 3 nd)) (fun _ _ _ _ _ hx lk => (dts_one (dt_not (dt_val (DE.b (de_callC C__law_alike lk hr hx (dws_cons (de_ix ix_seq o_ix (DE.b (de_var 0)) (DE.b (de_var 3))) (dws_cons (de_ix ix_seq o_ix (DE.b (de_var 1)) (DE.b (de_var 3))) dws_nil)))))))) (fun _ _ _ _ _ hx lk => (de_var 3)))))) (DE.b (DF.e (df_lst an_nil))))))) dss_nil) (dss_cons (ds_if (DW.t (dw_or (dt_cmp op_isN c_isN (DE.b (de_var 1)) (DE.b de_non)) (dw_or1 (dt_val (DE.b (de_isi B.n_isinstance B.n_str boot_str ok_str (DE.b (de_var 1)))))))) (dss_one (ds_ret (de_and (de_cmp (op_eqD hr.units) c_eq (DE.b (de_var 0)) (DE.b (de_var 1))) (de_one (de_cmp (op_eqD hr.units) c_eq (DE.b (de_isi B.n_isinstance B.n_str boot_str ok_str (DE.b (de_var 0)))) (DE.b (de_isi B.n_isinstance B.n_str boot_str ok_str (DE.b (de_var 1))))))))) dss_nil) (dss_one (ds_ret (de_and (de_isi B.n_isinstance B.n_int boot_int ok_int (DE.b (de_var 0))) (de_and (de_cmp (op_eqD hr.units) c_eq (DE.b (de_isi B.n_isinstance B.n_bool boot_bool ok_bool (DE.b (de_var 0)))) (DE.b (de_isi B.n_isinstance B.n_bool boot_bool ok_bool (DE.b (de_var 1))))) (de_one (de_cmp (op_eqD hr.units) c_eq (DE.b (de_var 0)) (DE.b (de_var 1)))))))))))
theorem sc__law_cost : FnScope ["costs", "stops"] ["costs", "stops"] (defScope st__law_cost) := C8.fnScope_by (by decide +kernel)
theorem ok__law_cost {P : Program} {w0 : World} {K : PySem.W.Frag} {mg : Str → Option Value} {base : Heap} {S : Par} (hK : S.K = K) (B : Names K mg) {f : Addr} {fd : FuncData} {cdv : Value} (F : FunC K "_law_cost" "_law_cost" st__law_cost f fd cdv)  :
    FnOk P w0 K mg base (L2.CX P w0) 3 f fd ["costs", "stops"] (SpD S (mkF 2 2 _law_cost_w)) := by
  refine fn_D F hK sc__law_cost fun N0 A outer s H E hr => ?_
  have nd := sc__law_cost.nd
  have hx : XP (S.inn N0 H E) (bodyCx P w0 K mg base ["costs", "stops"] "_law_cost" st__law_cost f cdv A outer s H E) := body_xp (S := S) (N0 := N0) (H := H)
  have lk : Like ((S.inn N0 H E).at K) S := ⟨hK.symm, rfl, rfl, rfl, rfl, rfl, rfl, rfl⟩
  have own_ : PassesOwn (model P w0) (bodyCx P w0 K mg base ["costs", "stops"] "_law_cost" st__law_cost f cdv A outer s H E).A (bodyCx P w0 K mg base ["costs", "stops"] "_law_cost" st__law_cost f cdv A outer s H E).env (bodyCx P w0 K mg base ["costs", "stops"] "_law_cost" st__law_cost f cdv A outer s H E).xe := body_own
  exact (dss_one (ds_ret (de_callB (cr_sumA rfl) n_sumA B.n_sum boot_sum (dbs_cons (DE.b (de_cut (DE.b (de_var 0)) do_none (do_some (DE.b (de_callB (cr_maxA rfl hr.units) n_best B.n_max boot_max (dbs_cons (DE.b (DF.e (df_op op_addA o_addL (DE.b (DF.e (df_lst (an_cons de_int an_nil)))) (DE.b (DF.e (df_callTy call_list_of n_listOf B.n_list boot_list (dbs_cons (DE.b (de_var 1)) dbs_nil))))))) dbs_nil)))))) dbs_nil))))
theorem sc__law_part : FnScope ["fraction", "k", "one", "other"] ["fraction"] (defScope st__law_part) := C8.fnScope_by (by decide +kernel)
theorem ok__law_part {P : Program} {w0 : World} {K : PySem.W.Frag} {mg : Str → Option Value} {base : Heap} {S : Par} (hK : S.K = K) (B : Names K mg) {f : Addr} {fd : FuncData} {cdv : Value} (F : FunC K "_law_part" "_law_part" st__law_part f fd cdv)  :
    FnOk P w0 K mg base (L2.CX P w0) 3 f fd ["fraction"] (SpD S (mkF 1 4 _law_part_w)) := by
  refine fn_D F hK sc__law_part fun N0 A outer s H E hr => ?_
  have nd := sc__law_part.nd
  have hx : XP (S.inn N0 H E) (bodyCx P w0 K mg base ["fraction", "k", "one", "other"] "_law_part" st__law_part f cdv A outer s H E) := body_xp (S := S) (N0 := N0) (H := H)
  have lk : Like ((S.inn N0 H E).at K) S := ⟨hK.symm, rfl, rfl, rfl, rfl, rfl, rfl, rfl⟩
  have own_ : PassesOwn (model P w0) (bodyCx P w0 K mg base ["fraction", "k", "one", "other"] "_law_part" st__law_part f cdv A outer s H E).A (bodyCx P w0 K mg base ["fraction", "k", "one", "other"] "_law_part" st__law_part f cdv A outer s H E).env (bodyCx P w0 K mg base ["fraction", "k", "one", "other"] "_law_part" st__law_part f cdv A outer s H E).xe := body_own
  exact (dss_cons (ds_if (DW.t (dw_or (dt_not (dt_val (DE.b (de_isi B.n_isinstance B.n_tuple boot_tuple ok_tuple (DE.b (de_var 0)))))) (dw_or (dt_cmp (op_neD hr.units) c_ne (DE.b (de_callB call_len n_len B.n_len boot_len (dbs_cons (DE.b (de_var 0)) dbs_nil))) (DE.b de_int)) (dw_or1 (dt_cmp (op_neD hr.units) c_ne (DE.b (DF.e (df_lc (lp (own := [("k", 1)]) nd lk (di_seq (DB.h (DE.b (de_var 0)))) (fun _ _ _ _ _ => (dg_name 1 nd)) (fun _ _ _ _ _ hx lk => (dts_one (DW.t (dw_or (dt_not (dt_val (DE.b (de_isi B.n_isinstance B.n_int boot_int ok_int (DE.b (de_var 1)))))) (dw_or1 (dt_val (DE.b (de_isi B.n_isinstance B.n_bool boot_bool ok_bool (DE.b (de_var 1)))))))))) (fun _ _ _ _ _ hx lk => (de_var 1)))))) (DE.b (DF.e (df_lst an_nil)))))))) (dss_one (ds_ret de_bl)) dss_nil) (dss_cons (ds_par2 2 3 (dm_d (de_callB call_abs n_abs B.n_abs boot_abs (dbs_cons (DE.b (de_ix ix_seq o_ix (DE.b (de_var 0)) (DE.b de_int))) dbs_nil)) (dm_d (de_ix ix_seq o_ix (DE.b (de_var 0)) (DE.b de_int)) dm_nil)) rfl nd rfl) (dss_cons (ds_while own_ (dt_cmp (op_neD hr.units) c_ne (DE.b (de_var 3)) (DE.b de_int)) (dss_one (ds_par2 2 3 (dm_d (de_var 3) (dm_d (de_op op_mod o_int (DE.b (de_var 2)) (DE.b (de_var 3))) dm_nil)) rfl nd rfl))) (dss_one (ds_ret (de_and (de_cmp op_gt c_int (DE.b (de_ix ix_seq o_ix (DE.b (de_var 0)) (DE.b de_int))) (DE.b de_int)) (de_one (de_cmp (op_eqD hr.units) c_eq (DE.b (de_var 2)) (DE.b de_int)))))))))
theorem sc__law_sum : FnScope ["rows", "part", "whole", "much", "fraction"] ["rows"] (defScope st__law_sum) := C8.fnScope_by (by decide +kernel)
theorem ok__law_sum {P : Program} {w0 : World} {K : PySem.W.Frag} {mg : Str → Option Value} {base : Heap} {S : Par} (hK : S.K = K) (B : Names K mg) {f : Addr} {fd : FuncData} {cdv : Value} (F : FunC K "_law_sum" "_law_sum" st__law_sum f fd cdv)  :
    FnOk P w0 K mg base (L2.CX P w0) 3 f fd ["rows"] (SpD S (mkF 1 5 _law_sum_w)) := by
  refine fn_D F hK sc__law_sum fun N0 A outer s H E hr => ?_
  have nd := sc__law_sum.nd
  have hx : XP (S.inn N0 H E) (bodyCx P w0 K mg base ["rows", "part", "whole", "much", "fraction"] "_law_sum" st__law_sum f cdv A outer s H E) := body_xp (S := S) (N0 := N0) (H := H)
  have lk : Like ((S.inn N0 H E).at K) S := ⟨hK.symm, rfl, rfl, rfl, rfl, rfl, rfl, rfl⟩
  have own_ : PassesOwn (model P w0) (bodyCx P w0 K mg base ["rows", "part", "whole", "much", "fraction"] "_law_sum" st__law_sum f cdv A outer s H E).A (bodyCx P w0 K mg base ["rows", "part", "whole", "much", "fraction"] "_law_sum" st__law_sum f cdv A outer s H E).env (bodyCx P w0 K mg base ["rows", "part", "whole", "much", "fraction"] "_law_sum" st__law_sum f cdv A outer s H E).xe := body_own
  exact (dss_cons (ds_parN (n := 0) (dm_d de_int (dm_d de_int dm_nil)) rfl nd (.cons rfl (by first | exact .inl rfl | exact .inr rfl) (by first | exact .inl rfl | exact .inr rfl) rfl (.cons rfl (by first | exact .inl rfl | exact .inr rfl) (by first | exact .inl rfl | exact .inr rfl) rfl .nil))) (dss_cons (ds_for own_ rfl (di_seq (DE.h (de_var 0))) (dg_tup rfl (dgs_cons (dg_name 3 nd) (dgs_cons (dg_name 4 nd) dgs_nil))) (dss_one (ds_par2 1 2 (dm_d (de_op op_addA o_add (DE.b (de_op op_mulA o_mul (DE.b (de_var 1)) (DE.b (de_ix ix_seq o_ix (DE.b (de_var 4)) (DE.b de_int))))) (DE.b (de_op op_mulA o_mul (DE.b (de_op op_mulA o_mul (DE.b (de_var 3)) (DE.b (de_ix ix_seq o_ix (DE.b (de_var 4)) (DE.b de_int))))) (DE.b (de_var 2))))) (dm_d (de_op op_mulA o_mul (DE.b (de_var 2)) (DE.b (de_ix ix_seq o_ix (DE.b (de_var 4)) (DE.b de_int)))) dm_nil)) rfl nd rfl))) (dss_one (ds_ret (de_tup (an_cons (de_var 1) (an_cons (de_var 2) an_nil)))))))
theorem sc__law_orders : FnScope ["many", "rows", "turn", "longer", "own", "k"] ["many"] (defScope st__law_orders) := C8.fnScope_by (by decide +kernel)
theorem ok__law_orders {P : Program} {w0 : World} {K : PySem.W.Frag} {mg : Str → Option Value} {base : Heap} {S : Par} (hK : S.K = K) (B : Names K mg) {f : Addr} {fd : FuncData} {cdv : Value} (F : FunC K "_law_orders" "_law_orders" st__law_orders f fd cdv)  :
    FnOk P w0 K mg base (L2.CX P w0) 3 f fd ["many"] (SpD S (mkF 1 6 _law_orders_w)) := by
  refine fn_D F hK sc__law_orders fun N0 A outer s H E hr => ?_
  have nd := sc__law_orders.nd
  have hx : XP (S.inn N0 H E) (bodyCx P w0 K mg base ["many", "rows", "turn", "longer", "own", "k"] "_law_orders" st__law_orders f cdv A outer s H E) := body_xp (S := S) (N0 := N0) (H := H)
  have lk : Like ((S.inn N0 H E).at K) S := ⟨hK.symm, rfl, rfl, rfl, rfl, rfl, rfl, rfl⟩
  have own_ : PassesOwn (model P w0) (bodyCx P w0 K mg base ["many", "rows", "turn", "longer", "own", "k"] "_law_orders" st__law_orders f cdv A outer s H E).A (bodyCx P w0 K mg base ["many", "rows", "turn", "longer", "own", "k"] "_law_orders" st__law_orders f cdv A outer s H E).env (bodyCx P w0 K mg base ["many", "rows", "turn", "longer", "own", "k"] "_law_orders" st__law_orders f cdv A outer s H E).xe := body_own
  exact (dss_cons (ds_set 1 (DF.e (df_lst (an_cons (de_tup an_nil) an_nil))) nd) (dss_cons (ds_for own_ rfl (di_rng1 B.n_range (DE.b (de_var 0))) (dg_name 2 nd) (dss_cons (ds_set 3 (DF.e (df_lst an_nil)) nd) (dss_cons (ds_for own_ rfl (di_seq (DE.h (de_var 1))) (dg_name 4 nd) (dss_one (ds_set 3 (DF.e (df_op op_addA o_addL (DE.b (de_var 3)) (DE.b (DF.e (df_lc (lp (own := [("k", 5)]) nd lk (di_rng1 B.n_range (DE.b (de_var 0))) (fun _ _ _ _ _ => (dg_name 5 nd)) (fun _ _ _ _ _ hx lk => (dts_one (dt_cmp (op_notInA (hu65 hr)) c_notIn (DE.b (de_var 5)) (DE.b (de_var 4))))) (fun _ _ _ _ _ hx lk => (de_op op_addA o_add (DE.b (de_var 4)) (DE.b (de_tup (an_cons (de_var 5) an_nil))))))))))) nd))) (dss_one (ds_set 1 (de_var 3) nd))))) (dss_one (ds_ret (de_var 1)))))
theorem sc__law_by_orders : FnScope ["costs", "stops", "found", "k", "order", "place", "ahead"] ["costs", "stops"] (defScope st__law_by_orders) := C8.fnScope_by (by decide +kernel)
theorem ok__law_by_orders {P : Program} {w0 : World} {K : PySem.W.Frag} {mg : Str → Option Value} {base : Heap} {S : Par} (hK : S.K = K) (B : Names K mg) {f : Addr} {fd : FuncData} {cdv : Value} (F : FunC K "_law_by_orders" "_law_by_orders" st__law_by_orders f fd cdv) (C__law_cost : Cal P w0 K mg base S 3 "_law_cost" ps__law_cost _law_cost_s) (C__law_orders : Cal P w0 K mg base S 3 "_law_orders" ps__law_orders _law_orders_s) :
    FnOk P w0 K mg base (L2.CX P w0) 4 f fd ["costs", "stops"] (SpD S (mkF 2 7 _law_by_orders_w)) := by
  refine fn_D F hK sc__law_by_orders fun N0 A outer s H E hr => ?_
  have nd := sc__law_by_orders.nd
  have hx : XP (S.inn N0 H E) (bodyCx P w0 K mg base ["costs", "stops", "found", "k", "order", "place", "ahead"] "_law_by_orders" st__law_by_orders f cdv A outer s H E) := body_xp (S := S) (N0 := N0) (H := H)
  have lk : Like ((S.inn N0 H E).at K) S := ⟨hK.symm, rfl, rfl, rfl, rfl, rfl, rfl, rfl⟩
  have own_ : PassesOwn (model P w0) (bodyCx P w0 K mg base ["costs", "stops", "found", "k", "order", "place", "ahead"] "_law_by_orders" st__law_by_orders f cdv A outer s H E).A (bodyCx P w0 K mg base ["costs", "stops", "found", "k", "order", "place", "ahead"] "_law_by_orders" st__law_by_orders f cdv A outer s H E).env (bodyCx P w0 K mg base ["costs", "stops", "found", "k", "order", "place", "ahead"] "_law_by_orders" st__law_by_orders f cdv A outer s H E).xe := body_own
  exact (dss_cons (ds_setLcO 2 (lp (own := [("k", 3)]) nd lk (di_seq (DB.h (DE.b (de_var 1)))) (fun _ _ _ _ _ => (dg_name 3 nd)) (fun _ _ _ _ _ hx lk => dts_nil) (fun _ _ _ _ _ hx lk => de_int)) (sw_true rfl rfl rfl rfl)) (dss_cons (ds_for own_ rfl (di_seq (DE.h (de_callC C__law_orders lk hr hx (dws_cons (de_callB call_len n_len B.n_len boot_len (dbs_cons (DE.b (de_var 1)) dbs_nil)) dws_nil)))) (dg_name 4 nd) (dss_one (ds_for own_ rfl (di_rng1 B.n_range (DE.b (de_callB call_len n_len B.n_len boot_len (dbs_cons (DE.b (de_var 4)) dbs_nil)))) (dg_name 5 nd) (dss_cons (ds_setLc 6 (lp (own := [("k", 3)]) nd lk (di_seq (DB.h (DE.b (de_cut (DE.b (de_var 4)) do_none (do_some (DE.b (de_var 5))))))) (fun _ _ _ _ _ => (dg_name 3 nd)) (fun _ _ _ _ _ hx lk => dts_nil) (fun _ _ _ _ _ hx lk => (de_ix ix_seq o_ix (DE.b (de_var 1)) (DE.b (de_var 3))))) (sw_true rfl rfl rfl rfl)) (dss_one (ds_put 2 (de_op op_sub o_int0 (DE.b (de_op op_addA o_add (DE.b (de_ix ix_seq o_ix (db_own 2) (DE.b (de_ix ix_seq o_ix (DE.b (de_var 4)) (DE.b (de_var 5)))))) (DE.b (de_callC C__law_cost lk hr hx (dws_cons (de_var 0) (dws_cons (DF.e (df_op op_addA o_addL (DE.b (de_var 6)) (DE.b (DF.e (df_lst (an_cons (de_ix ix_seq o_ix (DE.b (de_var 1)) (DE.b (de_ix ix_seq o_ix (DE.b (de_var 4)) (DE.b (de_var 5))))) an_nil)))))) dws_nil)))))) (DE.b (de_callC C__law_cost lk hr hx (dws_cons (de_var 0) (dws_cons (de_var 6) dws_nil))))) (de_ix ix_seq o_ix (DE.b (de_var 4)) (DE.b (de_var 5))))))))) (dss_one (ds_frz 2 (ds_ret (de_var 2))))))
theorem sc__law_are_shares : FnScope ["costs", "stops", "found", "k", "whole", "added", "legs", "own", "leg"] ["costs", "stops", "found"] (defScope st__law_are_shares) := C8.fnScope_by (by decide +kernel)
theorem ok__law_are_shares {P : Program} {w0 : World} {K : PySem.W.Frag} {mg : Str → Option Value} {base : Heap} {S : Par} (hK : S.K = K) (B : Names K mg) {f : Addr} {fd : FuncData} {cdv : Value} (F : FunC K "_law_are_shares" "_law_are_shares" st__law_are_shares f fd cdv) (C__law_by_orders : Cal P w0 K mg base S 4 "_law_by_orders" ps__law_by_orders _law_by_orders_s) (C__law_cost : Cal P w0 K mg base S 3 "_law_cost" ps__law_cost _law_cost_s) (C__law_part : Cal P w0 K mg base S 3 "_law_part" ps__law_part _law_part_s) (C__law_sum : Cal P w0 K mg base S 3 "_law_sum" ps__law_sum _law_sum_s) :
    FnOk P w0 K mg base (L2.CX P w0) 5 f fd ["costs", "stops", "found"] (SpD S (mkF 3 9 _law_are_shares_w)) := by
  refine fn_D F hK sc__law_are_shares fun N0 A outer s H E hr => ?_
  have nd := sc__law_are_shares.nd
  have hx : XP (S.inn N0 H E) (bodyCx P w0 K mg base ["costs", "stops", "found", "k", "whole", "added", "legs", "own", "leg"] "_law_are_shares" st__law_are_shares f cdv A outer s H E) := body_xp (S := S) (N0 := N0) (H := H)
  have lk : Like ((S.inn N0 H E).at K) S := ⟨hK.symm, rfl, rfl, rfl, rfl, rfl, rfl, rfl⟩
  have own_ : PassesOwn (model P w0) (bodyCx P w0 K mg base ["costs", "stops", "found", "k", "whole", "added", "legs", "own", "leg"] "_law_are_shares" st__law_are_shares f cdv A outer s H E).A (bodyCx P w0 K mg base ["costs", "stops", "found", "k", "whole", "added", "legs", "own", "leg"] "_law_are_shares" st__law_are_shares f cdv A outer s H E).env (bodyCx P w0 K mg base ["costs", "stops", "found", "k", "whole", "added", "legs", "own", "leg"] "_law_are_shares" st__law_are_shares f cdv A outer s H E).xe := body_own
  exact (dss_cons (ds_if (DW.t (dw_or (dt_not (dt_val (DE.b (de_isi B.n_isinstance B.n_tuple boot_tuple ok_tuple (DE.b (de_var 2)))))) (dw_or (dt_cmp (op_neD hr.units) c_ne (DE.b (de_callB call_len n_len B.n_len boot_len (dbs_cons (DE.b (de_var 2)) dbs_nil))) (DE.b (de_callB call_len n_len B.n_len boot_len (dbs_cons (DE.b (de_var 1)) dbs_nil)))) (dw_or1 (dt_cmp (op_neD hr.units) c_ne (DE.b (DF.e (df_lc (lp (own := [("k", 3)]) nd lk (di_seq (DB.h (DE.b (de_var 2)))) (fun _ _ _ _ _ => (dg_name 3 nd)) (fun _ _ _ _ _ hx lk => (dts_one (dt_not (dt_val (DE.b (de_callC C__law_part lk hr hx (dws_cons (de_var 3) dws_nil))))))) (fun _ _ _ _ _ hx lk => (de_var 3)))))) (DE.b (DF.e (df_lst an_nil)))))))) (dss_one (ds_ret de_bl)) dss_nil) (dss_cons (ds_if (dt_cmp (op_neD hr.units) c_ne (DE.b (de_ix ix_seq o_ix (DE.b (de_callC C__law_sum lk hr hx (dws_cons (DF.e (df_op op_addA o_addL (DE.b (DF.e (df_lc (lp (own := [("k", 3)]) nd lk (di_seq (DB.h (DE.b (de_var 2)))) (fun _ _ _ _ _ => (dg_name 3 nd)) (fun _ _ _ _ _ hx lk => dts_nil) (fun _ _ _ _ _ hx lk => (de_tup (an_cons de_int (an_cons (de_var 3) an_nil)))))))) (DE.b (DF.e (df_lst (an_cons (de_tup (an_cons (de_neg (DE.b de_int)) (an_cons (de_tup (an_cons (de_callC C__law_cost lk hr hx (dws_cons (de_var 0) (dws_cons (de_var 1) dws_nil))) (an_cons de_int an_nil))) an_nil))) an_nil)))))) dws_nil))) (DE.b de_int))) (DE.b de_int)) (dss_one (ds_ret de_bl)) dss_nil) (dss_cons (ds_if (dt_cmp (op_leA hr.units0) c_le (DE.b (de_callB call_len n_len B.n_len boot_len (dbs_cons (DE.b (de_var 1)) dbs_nil))) (DE.b de_int)) (dss_cons (ds_set 4 (de_ix ix_seq o_ix (DE.b (DF.e (df_lst (an_cons de_int (an_cons de_int (an_cons de_int (an_cons de_int (an_cons de_int (an_cons de_int an_nil))))))))) (DE.b (de_callB call_len n_len B.n_len boot_len (dbs_cons (DE.b (de_var 1)) dbs_nil)))) nd) (dss_cons (ds_set 5 (de_callC C__law_by_orders lk hr hx (dws_cons (de_var 0) (dws_cons (de_var 1) dws_nil))) nd) (dss_one (ds_ret (de_cmp (op_eqD hr.units) c_eq (DE.b (DF.e (df_lc (lp (own := [("k", 3)]) nd lk (di_rng1 B.n_range (DE.b (de_callB call_len n_len B.n_len boot_len (dbs_cons (DE.b (de_var 1)) dbs_nil)))) (fun _ _ _ _ _ => (dg_name 3 nd)) (fun _ _ _ _ _ hx lk => (dts_one (dt_cmp (op_neD hr.units) c_ne (DE.b (de_op op_mulA o_mul (DE.b (de_ix ix_seq o_ix (DE.b (de_ix ix_seq o_ix (DE.b (de_var 2)) (DE.b (de_var 3)))) (DE.b de_int))) (DE.b (de_var 4)))) (DE.b (de_op op_mulA o_mul (DE.b (de_ix ix_seq o_ix (DE.b (de_var 5)) (DE.b (de_var 3)))) (DE.b (de_ix ix_seq o_ix (DE.b (de_ix ix_seq o_ix (DE.b (de_var 2)) (DE.b (de_var 3)))) (DE.b de_int)))))))) (fun _ _ _ _ _ hx lk => (de_var 3)))))) (DE.b (DF.e (df_lst an_nil)))))))) dss_nil) (dss_cons (ds_for own_ rfl (di_rng1 B.n_range (DE.b (de_callB call_len n_len B.n_len boot_len (dbs_cons (DE.b (de_var 1)) dbs_nil)))) (dg_name 3 nd) (dss_cons (ds_setLc 6 (lp (own := [("leg", 8)]) nd lk (di_rng1 B.n_range (DE.b (de_ix ix_seq o_ix (DE.b (de_var 1)) (DE.b (de_var 3))))) (fun _ _ _ _ _ => (dg_name 8 nd)) (fun _ _ _ _ _ hx lk => dts_nil) (fun _ _ _ _ _ hx lk => (de_tup (an_cons (de_ix ix_seq o_ix (DE.b (de_var 0)) (DE.b (de_var 8))) (an_cons (de_tup (an_cons de_int (an_cons (de_callB call_len n_len B.n_len boot_len (dbs_cons (DE.b (DF.e (df_lc (lp (own := [("own", 7)]) nd lk (di_seq (DB.h (DE.b (de_var 1)))) (fun _ _ _ _ _ => (dg_name 7 nd)) (fun _ _ _ _ _ hx lk => (dts_one (dt_cmp op_gt c_int (DE.b (de_var 7)) (DE.b (de_var 8))))) (fun _ _ _ _ _ hx lk => (de_var 7)))))) dbs_nil)) an_nil))) an_nil))))) (sw_true rfl rfl rfl rfl)) (dss_one (ds_if (dt_cmp (op_neD hr.units) c_ne (DE.b (de_ix ix_seq o_ix (DE.b (de_callC C__law_sum lk hr hx (dws_cons (DF.e (df_op op_addA o_addL (DE.b (de_var 6)) (DE.b (DF.e (df_lst (an_cons (de_tup (an_cons (de_neg (DE.b de_int)) (an_cons (de_ix ix_seq o_ix (DE.b (de_var 2)) (DE.b (de_var 3))) an_nil))) an_nil)))))) dws_nil))) (DE.b de_int))) (DE.b de_int)) (dss_one (ds_ret de_bl)) dss_nil)))) (dss_one (ds_ret de_bl))))))
theorem sc__law_unfair : FnScope ["costs", "stops", "paid", "last", "k"] ["costs", "stops", "paid"] (defScope st__law_unfair) := C8.fnScope_by (by decide +kernel)
theorem ok__law_unfair {P : Program} {w0 : World} {K : PySem.W.Frag} {mg : Str → Option Value} {base : Heap} {S : Par} (hK : S.K = K) (B : Names K mg) {f : Addr} {fd : FuncData} {cdv : Value} (F : FunC K "_law_unfair" "_law_unfair" st__law_unfair f fd cdv)  :
    FnOk P w0 K mg base (L2.CX P w0) 3 f fd ["costs", "stops", "paid"] (SpD S (mkF 3 5 _law_unfair_w)) := by
  refine fn_D F hK sc__law_unfair fun N0 A outer s H E hr => ?_
  have nd := sc__law_unfair.nd
  have hx : XP (S.inn N0 H E) (bodyCx P w0 K mg base ["costs", "stops", "paid", "last", "k"] "_law_unfair" st__law_unfair f cdv A outer s H E) := body_xp (S := S) (N0 := N0) (H := H)
  have lk : Like ((S.inn N0 H E).at K) S := ⟨hK.symm, rfl, rfl, rfl, rfl, rfl, rfl, rfl⟩
  have own_ : PassesOwn (model P w0) (bodyCx P w0 K mg base ["costs", "stops", "paid", "last", "k"] "_law_unfair" st__law_unfair f cdv A outer s H E).A (bodyCx P w0 K mg base ["costs", "stops", "paid", "last", "k"] "_law_unfair" st__law_unfair f cdv A outer s H E).env (bodyCx P w0 K mg base ["costs", "stops", "paid", "last", "k"] "_law_unfair" st__law_unfair f cdv A outer s H E).xe := body_own
  exact (dss_cons (ds_for own_ rfl (di_rng1 B.n_range (DE.b (de_op op_addA o_add (DE.b (de_callB call_len n_len B.n_len boot_len (dbs_cons (DE.b (de_var 0)) dbs_nil))) (DE.b de_int)))) (dg_name 3 nd) (dss_one (ds_if (dt_cmp op_gt c_int (DE.b (de_callB (cr_sumA rfl) n_sumA B.n_sum boot_sum (dbs_cons (DE.b (DF.e (df_lc (lp (own := [("k", 4)]) nd lk (di_rng1 B.n_range (DE.b (de_callB call_len n_len B.n_len boot_len (dbs_cons (DE.b (de_var 1)) dbs_nil)))) (fun _ _ _ _ _ => (dg_name 4 nd)) (fun _ _ _ _ _ hx lk => (dts_one (dt_cmp (op_leA hr.units0) c_le (DE.b (de_ix ix_seq o_ix (DE.b (de_var 1)) (DE.b (de_var 4)))) (DE.b (de_var 3))))) (fun _ _ _ _ _ hx lk => (de_ix ix_seq o_ix (DE.b (de_var 2)) (DE.b (de_var 4)))))))) dbs_nil))) (DE.b (de_callB (cr_sumA rfl) n_sumA B.n_sum boot_sum (dbs_cons (DE.b (de_cut (DE.b (de_var 0)) do_none (do_some (DE.b (de_var 3))))) dbs_nil)))) (dss_one (ds_ret (de_var 3))) dss_nil))) (dss_one (ds_ret de_non)))
theorem sc__law_fair_sets : FnScope ["costs", "stops", "paid", "bits", "some", "k"] ["costs", "stops", "paid"] (defScope st__law_fair_sets) := C8.fnScope_by (by decide +kernel)
theorem ok__law_fair_sets {P : Program} {w0 : World} {K : PySem.W.Frag} {mg : Str → Option Value} {base : Heap} {S : Par} (hK : S.K = K) (B : Names K mg) {f : Addr} {fd : FuncData} {cdv : Value} (F : FunC K "_law_fair_sets" "_law_fair_sets" st__law_fair_sets f fd cdv) (C__law_cost : Cal P w0 K mg base S 3 "_law_cost" ps__law_cost _law_cost_s) :
    FnOk P w0 K mg base (L2.CX P w0) 4 f fd ["costs", "stops", "paid"] (SpD S (mkF 3 6 _law_fair_sets_w)) := by
  refine fn_D F hK sc__law_fair_sets fun N0 A outer s H E hr => ?_
  have nd := sc__law_fair_sets.nd
  have hx : XP (S.inn N0 H E) (bodyCx P w0 K mg base ["costs", "stops", "paid", "bits", "some", "k"] "_law_fair_sets" st__law_fair_sets f cdv A outer s H E) := body_xp (S := S) (N0 := N0) (H := H)
  have lk : Like ((S.inn N0 H E).at K) S := ⟨hK.symm, rfl, rfl, rfl, rfl, rfl, rfl, rfl⟩
  have own_ : PassesOwn (model P w0) (bodyCx P w0 K mg base ["costs", "stops", "paid", "bits", "some", "k"] "_law_fair_sets" st__law_fair_sets f cdv A outer s H E).A (bodyCx P w0 K mg base ["costs", "stops", "paid", "bits", "some", "k"] "_law_fair_sets" st__law_fair_sets f cdv A outer s H E).env (bodyCx P w0 K mg base ["costs", "stops", "paid", "bits", "some", "k"] "_law_fair_sets" st__law_fair_sets f cdv A outer s H E).xe := body_own
  exact (dss_cons (ds_for own_ rfl (di_rng1 B.n_range (DE.b (de_op op_shl o_int (DE.b de_int) (DE.b (de_callB call_len n_len B.n_len boot_len (dbs_cons (DE.b (de_var 1)) dbs_nil)))))) (dg_name 3 nd) (dss_cons (ds_setLc 4 (lp (own := [("k", 5)]) nd lk (di_rng1 B.n_range (DE.b (de_callB call_len n_len B.n_len boot_len (dbs_cons (DE.b (de_var 1)) dbs_nil)))) (fun _ _ _ _ _ => (dg_name 5 nd)) (fun _ _ _ _ _ hx lk => (dts_one (dt_cmp (op_eqD hr.units) c_eq (DE.b (de_op op_and o_int0 (DE.b (de_op op_shr o_int (DE.b (de_var 3)) (DE.b (de_var 5)))) (DE.b de_int))) (DE.b de_int)))) (fun _ _ _ _ _ hx lk => (de_var 5))) (sw_true rfl rfl rfl rfl)) (dss_one (ds_if (dt_cmp op_gt c_int (DE.b (de_callB (cr_sumA rfl) n_sumA B.n_sum boot_sum (dbs_cons (DE.b (DF.e (df_lc (lp (own := [("k", 5)]) nd lk (di_seq (DB.h (DE.b (de_var 4)))) (fun _ _ _ _ _ => (dg_name 5 nd)) (fun _ _ _ _ _ hx lk => dts_nil) (fun _ _ _ _ _ hx lk => (de_ix ix_seq o_ix (DE.b (de_var 2)) (DE.b (de_var 5)))))))) dbs_nil))) (DE.b (de_callC C__law_cost lk hr hx (dws_cons (de_var 0) (dws_cons (DF.e (df_lc (lp (own := [("k", 5)]) nd lk (di_seq (DB.h (DE.b (de_var 4)))) (fun _ _ _ _ _ => (dg_name 5 nd)) (fun _ _ _ _ _ hx lk => dts_nil) (fun _ _ _ _ _ hx lk => (de_ix ix_seq o_ix (DE.b (de_var 1)) (DE.b (de_var 5))))))) dws_nil))))) (dss_one (ds_ret de_bl)) dss_nil)))) (dss_one (ds_ret de_bl)))
theorem sc__law_are_refused : FnScope ["row", "costs", "stops", "paid", "bad", "heard"] ["row", "costs", "stops"] (defScope st__law_are_refused) := C8.fnScope_by (by decide +kernel)
theorem ok__law_are_refused {P : Program} {w0 : World} {K : PySem.W.Frag} {mg : Str → Option Value} {base : Heap} {S : Par} (hK : S.K = K) (B : Names K mg) {f : Addr} {fd : FuncData} {cc PP : Addr} (tb : LamX.TabB base mg cc PP) {gH Cb Vb : Addr} (heard : ∀ X : Cx, X.K = K → X.mg = mg → HeardC X gH Cb Vb) (hCb : S.cBad = Cb) (hPT : (PP, QT__law_are_refused) ∈ S.T) (hTu : ∀ r ∈ S.T, r.1 = PP → r.2 = QT__law_are_refused) (F : FunC K "_law_are_refused" "_law_are_refused" st__law_are_refused f fd (.ref cc)) (C__law_alike : Cal P w0 K mg base S 13 "_law_alike" ps__law_alike _law_alike_s) (C__law_pick : Cal P w0 K mg base S 3 "_law_pick" ps__law_pick _law_pick_s) (C_cost_for : Cal P w0 K mg base S 8 "cost_for" ps_cost_for cost_for_s) (C_is_fair : Cal P w0 K mg base S 11 "is_fair" ps_is_fair is_fair_s) (C_most_for : Cal P w0 K mg base S 13 "most_for" ps_most_for most_for_s) (C_shares : Cal P w0 K mg base S 8 "shares" ps_shares shares_s) (C_unfair : Cal P w0 K mg base S 10 "unfair" ps_unfair unfair_s) :
    FnOk P w0 K mg base (L2.CX P w0) 16 f fd ["row", "costs", "stops"] (SpD S (mkF 3 6 _law_are_refused_w)) := by
  refine fn_D F hK sc__law_are_refused fun N0 A outer s H E hr => ?_
  have nd := sc__law_are_refused.nd
  have hx : XP (S.inn N0 H E) (bodyCx P w0 K mg base ["row", "costs", "stops", "paid", "bad", "heard"] "_law_are_refused" st__law_are_refused f (.ref cc) A outer s H E) := body_xp (S := S) (N0 := N0) (H := H)
  have lk : Like ((S.inn N0 H E).at K) S := ⟨hK.symm, rfl, rfl, rfl, rfl, rfl, rfl, rfl⟩
  have own_ : PassesOwn (model P w0) (bodyCx P w0 K mg base ["row", "costs", "stops", "paid", "bad", "heard"] "_law_are_refused" st__law_are_refused f (.ref cc) A outer s H E).A (bodyCx P w0 K mg base ["row", "costs", "stops", "paid", "bad", "heard"] "_law_are_refused" st__law_are_refused f (.ref cc) A outer s H E).env (bodyCx P w0 K mg base ["row", "costs", "stops", "paid", "bad", "heard"] "_law_are_refused" st__law_are_refused f (.ref cc) A outer s H E).xe := body_own
  exact (dss_cons (ds_set 3 (de_op op_repTA o_mulT (DE.b (de_tup (an_cons de_int an_nil))) (DE.b (de_callB call_len n_len B.n_len boot_len (dbs_cons (DE.b (de_var 2)) dbs_nil)))) nd) (dss_cons (ds_set 4 (de_callC C__law_pick lk hr hx (dws_row 0 (dws_cons (DF.e (df_lst (an_cons de_non (an_cons (de_neg (DE.b de_int)) (an_cons (de_callB call_len n_len B.n_len boot_len (dbs_cons (DE.b (de_var 2)) dbs_nil)) (an_cons de_bl (an_cons de_str an_nil))))))) dws_nil))) nd) (dss_cons (ds_if (dt_not (dt_val (DE.b (de_callC C__law_alike lk hr hx (dws_cons (hd (heard _ rfl rfl) hCb tb lk hPT hTu hr (fun _ _ _ _ _ _ _ _ _ hr hx lk => (de_callC C_most_for lk hr hx (dws_cons (de_var 1) (dws_cons (de_var 2) (dws_cons (de_var 3) (dws_cons (de_var 4) dws_nil))))))) (dws_cons (de_tup (an_cons de_str (an_cons de_str (an_cons de_bl an_nil)))) dws_nil)))))) (dss_one (ds_ret de_bl)) dss_nil) (dss_cons (ds_set 4 (de_callC C__law_pick lk hr hx (dws_row 0 (dws_cons (DF.e (df_lst (an_cons de_non (an_cons (DF.e (df_callTy call_list_of n_listOf B.n_list boot_list (dbs_cons (DE.b (de_var 3)) dbs_nil))) (an_cons (de_op op_addA o_add (DE.b (de_var 3)) (DE.b (de_tup (an_cons de_int an_nil)))) (an_cons (de_op op_addA o_add (DE.b (de_op op_repTA o_mulT (DE.b (de_tup (an_cons (de_neg (DE.b de_int)) an_nil))) (DE.b (de_callB call_len n_len B.n_len boot_len (dbs_cons (DE.b (de_var 2)) dbs_nil))))) (DE.b (de_tup (an_cons de_int an_nil)))) (an_cons (de_op op_repTA o_mulT (DE.b (de_tup (an_cons de_int an_nil))) (DE.b (de_callB (call_max2 rfl) n_max2 B.n_max boot_max (dbs_cons (DE.b de_int) (dbs_cons (DE.b (de_callB call_len n_len B.n_len boot_len (dbs_cons (DE.b (de_var 2)) dbs_nil))) dbs_nil))))) (an_cons de_str an_nil)))))))) dws_nil))) nd) (dss_cons (ds_set 5 (DF.e (df_lst (an_cons (hd (heard _ rfl rfl) hCb tb lk hPT hTu hr (fun _ _ _ _ _ _ _ _ _ hr hx lk => (de_callC C_unfair lk hr hx (dws_cons (de_var 1) (dws_cons (de_var 2) (dws_cons (de_var 4) dws_nil)))))) (an_cons (hd (heard _ rfl rfl) hCb tb lk hPT hTu hr (fun _ _ _ _ _ _ _ _ _ hr hx lk => (de_callC C_is_fair lk hr hx (dws_cons (de_var 1) (dws_cons (de_var 2) (dws_cons (de_var 4) dws_nil)))))) (an_cons (hd (heard _ rfl rfl) hCb tb lk hPT hTu hr (fun _ _ _ _ _ _ _ _ _ hr hx lk => (de_callC C_most_for lk hr hx (dws_cons (de_var 1) (dws_cons (de_var 2) (dws_cons (de_var 4) (dws_cons de_non dws_nil))))))) an_nil))))) nd) (dss_cons (ds_if (dt_not (dt_val (DE.b (de_callC C__law_alike lk hr hx (dws_cons (de_var 5) (dws_cons (DF.e (df_op op_mulA o_mulL (DE.b (DF.e (df_lst (an_cons (de_tup (an_cons de_str (an_cons de_str (an_cons de_bl an_nil)))) an_nil)))) (DE.b de_int))) dws_nil)))))) (dss_one (ds_ret de_bl)) dss_nil) (dss_cons (ds_set 4 (de_callC C__law_pick lk hr hx (dws_row 0 (dws_cons (DF.e (df_lst (an_cons de_non (an_cons (DF.e (df_callTy call_list_of n_listOf B.n_list boot_list (dbs_cons (DE.b (de_var 2)) dbs_nil))) (an_cons (de_tup (an_cons (de_op op_addA o_add (DE.b (de_callB call_len n_len B.n_len boot_len (dbs_cons (DE.b (de_var 1)) dbs_nil))) (DE.b de_int)) an_nil)) (an_cons (de_tup (an_cons (de_neg (DE.b de_int)) an_nil)) (an_cons (de_tup (an_cons de_bl an_nil)) (an_cons (de_op op_mulA o_mul (DE.b (de_tup (an_cons de_int an_nil))) (DE.b de_int)) (an_cons de_str an_nil))))))))) dws_nil))) nd) (dss_cons (ds_set 5 (DF.e (df_lst (an_cons (hd (heard _ rfl rfl) hCb tb lk hPT hTu hr (fun _ _ _ _ _ _ _ _ _ hr hx lk => (de_callC C_shares lk hr hx (dws_cons (de_var 1) (dws_cons (de_var 4) dws_nil))))) (an_cons (hd (heard _ rfl rfl) hCb tb lk hPT hTu hr (fun _ _ _ _ _ _ _ _ _ hr hx lk => (de_callC C_cost_for lk hr hx (dws_cons (de_var 1) (dws_cons (de_var 4) dws_nil))))) (an_cons (hd (heard _ rfl rfl) hCb tb lk hPT hTu hr (fun _ _ _ _ _ _ _ _ _ hr hx lk => (de_callC C_unfair lk hr hx (dws_cons (de_var 1) (dws_cons (de_var 4) (dws_cons de_non dws_nil)))))) an_nil))))) nd) (dss_cons (ds_if (dt_not (dt_val (DE.b (de_callC C__law_alike lk hr hx (dws_cons (de_var 5) (dws_cons (DF.e (df_op op_mulA o_mulL (DE.b (DF.e (df_lst (an_cons (de_tup (an_cons de_str (an_cons de_str (an_cons de_bl an_nil)))) an_nil)))) (DE.b de_int))) dws_nil)))))) (dss_one (ds_ret de_bl)) dss_nil) (dss_cons (ds_set 4 (de_callC C__law_pick lk hr hx (dws_row 0 (dws_cons (DF.e (df_lst (an_cons de_non (an_cons (DF.e (df_callTy call_list_of n_listOf B.n_list boot_list (dbs_cons (DE.b (de_var 1)) dbs_nil))) (an_cons (de_tup (an_cons (de_neg (DE.b de_int)) an_nil)) (an_cons (de_tup (an_cons de_int an_nil)) (an_cons (de_op op_mulA o_mul (DE.b (de_tup (an_cons de_int an_nil))) (DE.b de_int)) (an_cons (de_tup (an_cons de_bl an_nil)) (an_cons de_str an_nil))))))))) dws_nil))) nd) (dss_cons (ds_set 5 (DF.e (df_lst (an_cons (hd (heard _ rfl rfl) hCb tb lk hPT hTu hr (fun _ _ _ _ _ _ _ _ _ hr hx lk => (de_callC C_shares lk hr hx (dws_cons (de_var 4) (dws_cons de_non dws_nil))))) (an_cons (hd (heard _ rfl rfl) hCb tb lk hPT hTu hr (fun _ _ _ _ _ _ _ _ _ hr hx lk => (de_callC C_cost_for lk hr hx (dws_cons (de_var 4) (dws_cons de_non dws_nil))))) (an_cons (hd (heard _ rfl rfl) hCb tb lk hPT hTu hr (fun _ _ _ _ _ _ _ _ _ hr hx lk => (de_callC C_is_fair lk hr hx (dws_cons (de_var 4) (dws_cons de_non (dws_cons de_non dws_nil)))))) an_nil))))) nd) (dss_one (ds_ret (de_callC C__law_alike lk hr hx (dws_cons (de_var 5) (dws_cons (DF.e (df_op op_mulA o_mulL (DE.b (DF.e (df_lst (an_cons (de_tup (an_cons de_str (an_cons de_str (an_cons de_bl an_nil)))) an_nil)))) (DE.b de_int))) dws_nil))))))))))))))))
theorem sc_law : FnScope ["script", "row", "wide", "costs", "k", "stops", "found", "turn", "paid", "due", "number", "most", "rest", "more"] ["script"] (defScope st_law) := C8.fnScope_by (by decide +kernel)
def law_N : List Str := ["script", "row", "wide", "costs", "k", "stops", "found", "turn", "paid", "due", "number", "most", "rest", "more"]
theorem ok_law {P : Program} {w0 : World} {K : PySem.W.Frag} {mg : Str → Option Value} {base : Heap} {S : Par} (hK : S.K = K) (B : Names K mg) {f : Addr} {cdv : Value} (C__law_alike : Cal P w0 K mg base S 13 "_law_alike" ps__law_alike _law_alike_s) (C__law_are_refused : Cal P w0 K mg base S 16 "_law_are_refused" ps__law_are_refused _law_are_refused_s) (C__law_are_shares : Cal P w0 K mg base S 5 "_law_are_shares" ps__law_are_shares _law_are_shares_s) (C__law_cost : Cal P w0 K mg base S 3 "_law_cost" ps__law_cost _law_cost_s) (C__law_fair_sets : Cal P w0 K mg base S 4 "_law_fair_sets" ps__law_fair_sets _law_fair_sets_s) (C__law_pick : Cal P w0 K mg base S 3 "_law_pick" ps__law_pick _law_pick_s) (C__law_taken : Cal P w0 K mg base S 1 "_law_taken" ps__law_taken _law_taken_s) (C__law_unfair : Cal P w0 K mg base S 3 "_law_unfair" ps__law_unfair _law_unfair_s) (C_cost_for : Cal P w0 K mg base S 8 "cost_for" ps_cost_for cost_for_s) (C_is_fair : Cal P w0 K mg base S 11 "is_fair" ps_is_fair is_fair_s) (C_most_for : Cal P w0 K mg base S 13 "most_for" ps_most_for most_for_s) (C_shares : Cal P w0 K mg base S 8 "shares" ps_shares shares_s) (C_unfair : Cal P w0 K mg base S 10 "unfair" ps_unfair unfair_s) (N0 : Addr → Prop) (H0 : Hp) (A : Around) (outer : List Env) (s : Shared) (H : Hp) (E : XK) (hr : Room 16 (A.deeper (envOfC "law" (defScope st_law) s.heap.objs.size f cdv))) :
    DSs (S.inn N0 H0 E) (bodyCx P w0 K mg base ["script", "row", "wide", "costs", "k", "stops", "found", "turn", "paid", "due", "number", "most", "rest", "more"] "law" st_law f cdv A outer s H E) ((defBody st_law).drop 1) law_w := by
  have nd := sc_law.nd
  have hx : XP (S.inn N0 H0 E) (bodyCx P w0 K mg base ["script", "row", "wide", "costs", "k", "stops", "found", "turn", "paid", "due", "number", "most", "rest", "more"] "law" st_law f cdv A outer s H E) := body_xp (S := S) (N0 := N0) (H := H)
  have lk : Like ((S.inn N0 H0 E).at K) S := ⟨hK.symm, rfl, rfl, rfl, rfl, rfl, rfl, rfl⟩
  have own_ : PassesOwn (model P w0) (bodyCx P w0 K mg base ["script", "row", "wide", "costs", "k", "stops", "found", "turn", "paid", "due", "number", "most", "rest", "more"] "law" st_law f cdv A outer s H E).A (bodyCx P w0 K mg base ["script", "row", "wide", "costs", "k", "stops", "found", "turn", "paid", "due", "number", "most", "rest", "more"] "law" st_law f cdv A outer s H E).env (bodyCx P w0 K mg base ["script", "row", "wide", "costs", "k", "stops", "found", "turn", "paid", "due", "number", "most", "rest", "more"] "law" st_law f cdv A outer s H E).xe := body_own
  exact (dss_cons (ds_set 2 (de_callC C__law_pick lk hr hx (dws_row 1 (dws_cons (DF.e (df_lst (an_cons de_int (an_cons de_int (an_cons de_int an_nil))))) dws_nil))) nd) (dss_cons (ds_set 3 (de_callTy call_tuple_of n_tupleOf B.n_tuple boot_tuple (dbs_cons (DE.b (DF.e (df_lc (lp (own := [("k", 4)]) nd lk (di_rng1 B.n_range (DE.b (de_callC C__law_taken lk hr hx (dws_row 1 (dws_cons (de_callC C__law_pick lk hr hx (dws_row 1 (dws_cons (DF.e (df_lst (an_cons de_int (an_cons de_int (an_cons de_int an_nil))))) dws_nil))) dws_nil))))) (fun _ _ _ _ _ => (dg_name 4 nd)) (fun _ _ _ _ _ hx lk => dts_nil) (fun _ _ _ _ _ hx lk => (de_callC C__law_taken lk hr hx (dws_row 1 (dws_cons (de_var 2) dws_nil)))))))) dbs_nil)) nd) (dss_cons (ds_set 5 (de_callTy call_tuple_of n_tupleOf B.n_tuple boot_tuple (dbs_cons (DE.b (DF.e (df_lc (lp (own := [("k", 4)]) nd lk (di_rng1 B.n_range (DE.b (de_callC C__law_taken lk hr hx (dws_row 1 (dws_cons (de_callC C__law_pick lk hr hx (dws_row 1 (dws_cons (DF.e (df_lst (an_cons de_int (an_cons de_int (an_cons de_int an_nil))))) dws_nil))) dws_nil))))) (fun _ _ _ _ _ => (dg_name 4 nd)) (fun _ _ _ _ _ hx lk => dts_nil) (fun _ _ _ _ _ hx lk => (de_callC C__law_taken lk hr hx (dws_row 1 (dws_cons (de_op op_addA o_add (DE.b (de_callB call_len n_len B.n_len boot_len (dbs_cons (DE.b (de_var 3)) dbs_nil))) (DE.b de_int)) dws_nil)))))))) dbs_nil)) nd) (dss_cons (ds_set 6 (de_callC C_shares lk hr hx (dws_cons (de_var 3) (dws_cons (de_var 5) dws_nil))) nd) (dss_cons (ds_if (DW.t (dw_or (dt_not (dt_val (DE.b (de_callC C__law_alike lk hr hx (dws_cons (de_callC C_cost_for lk hr hx (dws_cons (de_var 3) (dws_cons (de_var 5) dws_nil))) (dws_cons (de_callC C__law_cost lk hr hx (dws_cons (de_var 3) (dws_cons (de_var 5) dws_nil))) dws_nil)))))) (dw_or1 (dt_not (dt_val (DE.b (de_callC C__law_are_shares lk hr hx (dws_cons (de_var 3) (dws_cons (de_var 5) (dws_cons (de_var 6) dws_nil)))))))))) (dss_one (ds_ret de_bl)) dss_nil) (dss_cons (ds_for own_ rfl (di_rng1 B.n_range (DE.b de_int)) (dg_name 7 nd) (dss_cons (ds_set 8 (de_callTy call_tuple_of n_tupleOf B.n_tuple boot_tuple (dbs_cons (DE.b (DF.e (df_lc (lp (own := [("k", 4)]) nd lk (di_seq (DB.h (DE.b (de_var 6)))) (fun _ _ _ _ _ => (dg_name 4 nd)) (fun _ _ _ _ _ hx lk => dts_nil) (fun _ _ _ _ _ hx lk => (de_callB (call_min2 rfl) n_min2 B.n_min boot_min (dbs_cons (DE.b de_int) (dbs_cons (DE.b (de_callC C__law_pick lk hr hx (dws_row 1 (dws_cons (DF.e (df_lst (an_cons (de_op op_fdiv o_int (DE.b (de_ix ix_seq o_ix (DE.b (de_var 4)) (DE.b de_int))) (DE.b (de_ix ix_seq o_ix (DE.b (de_var 4)) (DE.b de_int)))) (an_cons (de_op op_addA o_add (DE.b (de_op op_fdiv o_int (DE.b (de_ix ix_seq o_ix (DE.b (de_var 4)) (DE.b de_int))) (DE.b (de_ix ix_seq o_ix (DE.b (de_var 4)) (DE.b de_int))))) (DE.b de_int)) (an_cons de_int (an_cons (de_callC C__law_taken lk hr hx (dws_row 1 (dws_cons (de_var 2) dws_nil))) an_nil)))))) dws_nil)))) dbs_nil)))))))) dbs_nil)) nd) (dss_cons (ds_set 9 (de_callC C__law_unfair lk hr hx (dws_cons (de_var 3) (dws_cons (de_var 5) (dws_cons (de_var 8) dws_nil)))) nd) (dss_cons (ds_if (DW.t (dw_or (dt_not (dt_val (DE.b (de_callC C__law_alike lk hr hx (dws_cons (de_callC C_unfair lk hr hx (dws_cons (de_var 3) (dws_cons (de_var 5) (dws_cons (de_var 8) dws_nil)))) (dws_cons (de_var 9) dws_nil)))))) (dw_or1 (dt_not (dt_val (DE.b (de_callC C__law_alike lk hr hx (dws_cons (de_callC C_is_fair lk hr hx (dws_cons (de_var 3) (dws_cons (de_var 5) (dws_cons (de_var 8) dws_nil)))) (dws_cons (de_cmp op_isN c_isN (DE.b (de_var 9)) (DE.b de_non)) dws_nil))))))))) (dss_one (ds_ret de_bl)) dss_nil) (dss_cons (ds_if (DW.t (dw_and (dt_cmp (op_leA hr.units0) c_le (DE.b (de_callB call_len n_len B.n_len boot_len (dbs_cons (DE.b (de_var 5)) dbs_nil))) (DE.b de_int)) (dw_and1 (dt_not (dt_val (DE.b (de_callC C__law_alike lk hr hx (dws_cons (de_callC C__law_fair_sets lk hr hx (dws_cons (de_var 3) (dws_cons (de_var 5) (dws_cons (de_var 8) dws_nil)))) (dws_cons (de_cmp op_isN c_isN (DE.b (de_var 9)) (DE.b de_non)) dws_nil))))))))) (dss_one (ds_ret de_bl)) dss_nil) (dss_one (ds_if (dt_cmp (op_neD hr.units) c_ne (DE.b (de_var 5)) (DE.b (de_tup an_nil))) (dss_cons (ds_set 10 (de_callC C__law_taken lk hr hx (dws_row 1 (dws_cons (de_callB call_len n_len B.n_len boot_len (dbs_cons (DE.b (de_var 5)) dbs_nil)) dws_nil))) nd) (dss_cons (ds_set 11 (de_callC C_most_for lk hr hx (dws_cons (de_var 3) (dws_cons (de_var 5) (dws_cons (de_var 8) (dws_cons (de_var 10) dws_nil))))) nd) (dss_cons (ds_set 12 (de_op op_addA o_add (DE.b (de_op op_addA o_add (DE.b (de_cut (DE.b (de_var 8)) do_none (do_some (DE.b (de_var 10))))) (DE.b (de_tup (an_cons de_int an_nil))))) (DE.b (de_cut (DE.b (de_var 8)) (do_some (DE.b (de_op op_addA o_add (DE.b (de_var 10)) (DE.b de_int)))) do_none))) nd) (dss_cons (ds_if (dt_cmp (op_neD hr.units) c_ne (DE.b (de_cmp op_isN c_isN (DE.b (de_var 11)) (DE.b de_non))) (DE.b (de_cmp op_notN c_notN (DE.b (de_callC C__law_unfair lk hr hx (dws_cons (de_var 3) (dws_cons (de_var 5) (dws_cons (de_var 12) dws_nil))))) (DE.b de_non)))) (dss_one (ds_ret de_bl)) dss_nil) (dss_one (ds_if (dt_cmp op_notN c_notN (DE.b (de_var 11)) (DE.b de_non)) (dss_cons (ds_setLc 13 (lp (own := [("k", 4)]) nd lk (di_rng1 B.n_range (DE.b de_int)) (fun _ _ _ _ _ => (dg_name 4 nd)) (fun _ _ _ _ _ hx lk => dts_nil) (fun _ _ _ _ _ hx lk => (de_cmp op_isN c_isN (DE.b (de_callC C__law_unfair lk hr hx (dws_cons (de_var 3) (dws_cons (de_var 5) (dws_cons (de_op op_addA o_add (DE.b (de_op op_addA o_add (DE.b (de_cut (DE.b (de_var 8)) do_none (do_some (DE.b (de_var 10))))) (DE.b (de_tup (an_cons (de_op op_addA o_add (DE.b (de_var 11)) (DE.b (de_var 4))) an_nil))))) (DE.b (de_cut (DE.b (de_var 8)) (do_some (DE.b (de_op op_addA o_add (DE.b (de_var 10)) (DE.b de_int)))) do_none))) dws_nil))))) (DE.b de_non)))) (sw_true rfl rfl rfl rfl)) (dss_one (ds_if (DW.t (dw_or (dt_not (dt_val (DE.b (de_isi B.n_isinstance B.n_int boot_int ok_int (DE.b (de_var 11)))))) (dw_or (dt_val (DE.b (de_isi B.n_isinstance B.n_bool boot_bool ok_bool (DE.b (de_var 11))))) (dw_or1 (dt_cmp (op_neD hr.units) c_ne (DE.b (de_var 13)) (DE.b (DF.e (df_lst (an_cons de_bl (an_cons de_bl an_nil)))))))))) (dss_one (ds_ret de_bl)) dss_nil))) dss_nil)))))) dss_nil))))))) (dss_one (ds_ret (de_callC C__law_are_refused lk hr hx (dws_row 1 (dws_cons (de_var 3) (dws_cons (de_var 5) dws_nil))))))))))))
theorem all_ok {P : Program} {w0 : World} {K : PySem.W.Frag} {mg : Str → Option Value} {base : Heap} {f_is_number f_check f_are_numbers f_common f_lowest f_plus f_check_use f_cost_for f_shares f_unfair f_is_fair f_most_for f__law_taken f__law_pick f__law_alike f__law_cost f__law_part f__law_sum f__law_orders f__law_by_orders f__law_are_shares f__law_unfair f__law_fair_sets f__law_heard f__law_are_refused f_law : Addr} {fd_is_number fd_check fd_are_numbers fd_common fd_lowest fd_plus fd_check_use fd_cost_for fd_shares fd_unfair fd_is_fair fd_most_for fd__law_taken fd__law_pick fd__law_alike fd__law_cost fd__law_part fd__law_sum fd__law_orders fd__law_by_orders fd__law_are_shares fd__law_unfair fd__law_fair_sets fd__law_heard fd__law_are_refused fd_law : FuncData} {cd_is_number cd_check cd_common cd_lowest cd_plus cd_check_use cd_cost_for cd_shares cd_is_fair cd__law_taken cd__law_pick cd__law_alike cd__law_cost cd__law_part cd__law_sum cd__law_orders cd__law_by_orders cd__law_are_shares cd__law_unfair cd__law_fair_sets cd__law_heard cd_law : Value} {cc_are_numbers PP_are_numbers cc_unfair PP_unfair cc_most_for PP_most_for cc__law_are_refused PP__law_are_refused : Addr} {Cb fI ccb Vb : Addr} (B : Names K mg) (BAD : BadTxt P K mg Cb fI ccb) (HT : HeardTxt K mg Cb Vb)
    (F_is_number : FunC K "is_number" "is_number" st_is_number f_is_number fd_is_number cd_is_number) (m_is_number : mg "is_number" = some (.ref f_is_number))
    (F_check : FunC K "check" "check" st_check f_check fd_check cd_check) (m_check : mg "check" = some (.ref f_check))
    (F_are_numbers : FunC K "are_numbers" "are_numbers" st_are_numbers f_are_numbers fd_are_numbers (.ref cc_are_numbers)) (m_are_numbers : mg "are_numbers" = some (.ref f_are_numbers))
    (F_common : FunC K "common" "common" st_common f_common fd_common cd_common) (m_common : mg "common" = some (.ref f_common))
    (F_lowest : FunC K "lowest" "lowest" st_lowest f_lowest fd_lowest cd_lowest) (m_lowest : mg "lowest" = some (.ref f_lowest))
    (F_plus : FunC K "plus" "plus" st_plus f_plus fd_plus cd_plus) (m_plus : mg "plus" = some (.ref f_plus))
    (F_check_use : FunC K "check_use" "check_use" st_check_use f_check_use fd_check_use cd_check_use) (m_check_use : mg "check_use" = some (.ref f_check_use))
    (F_cost_for : FunC K "cost_for" "cost_for" st_cost_for f_cost_for fd_cost_for cd_cost_for) (m_cost_for : mg "cost_for" = some (.ref f_cost_for))
    (F_shares : FunC K "shares" "shares" st_shares f_shares fd_shares cd_shares) (m_shares : mg "shares" = some (.ref f_shares))
    (F_unfair : FunC K "unfair" "unfair" st_unfair f_unfair fd_unfair (.ref cc_unfair)) (m_unfair : mg "unfair" = some (.ref f_unfair))
    (F_is_fair : FunC K "is_fair" "is_fair" st_is_fair f_is_fair fd_is_fair cd_is_fair) (m_is_fair : mg "is_fair" = some (.ref f_is_fair))
    (F_most_for : FunC K "most_for" "most_for" st_most_for f_most_for fd_most_for (.ref cc_most_for)) (m_most_for : mg "most_for" = some (.ref f_most_for))
    (F__law_taken : FunC K "_law_taken" "_law_taken" st__law_taken f__law_taken fd__law_taken cd__law_taken) (m__law_taken : mg "_law_taken" = some (.ref f__law_taken))
    (F__law_pick : FunC K "_law_pick" "_law_pick" st__law_pick f__law_pick fd__law_pick cd__law_pick) (m__law_pick : mg "_law_pick" = some (.ref f__law_pick))
    (F__law_alike : FunC K "_law_alike" "_law_alike" st__law_alike f__law_alike fd__law_alike cd__law_alike) (m__law_alike : mg "_law_alike" = some (.ref f__law_alike))
    (F__law_cost : FunC K "_law_cost" "_law_cost" st__law_cost f__law_cost fd__law_cost cd__law_cost) (m__law_cost : mg "_law_cost" = some (.ref f__law_cost))
    (F__law_part : FunC K "_law_part" "_law_part" st__law_part f__law_part fd__law_part cd__law_part) (m__law_part : mg "_law_part" = some (.ref f__law_part))
    (F__law_sum : FunC K "_law_sum" "_law_sum" st__law_sum f__law_sum fd__law_sum cd__law_sum) (m__law_sum : mg "_law_sum" = some (.ref f__law_sum))
    (F__law_orders : FunC K "_law_orders" "_law_orders" st__law_orders f__law_orders fd__law_orders cd__law_orders) (m__law_orders : mg "_law_orders" = some (.ref f__law_orders))
    (F__law_by_orders : FunC K "_law_by_orders" "_law_by_orders" st__law_by_orders f__law_by_orders fd__law_by_orders cd__law_by_orders) (m__law_by_orders : mg "_law_by_orders" = some (.ref f__law_by_orders))
    (F__law_are_shares : FunC K "_law_are_shares" "_law_are_shares" st__law_are_shares f__law_are_shares fd__law_are_shares cd__law_are_shares) (m__law_are_shares : mg "_law_are_shares" = some (.ref f__law_are_shares))
    (F__law_unfair : FunC K "_law_unfair" "_law_unfair" st__law_unfair f__law_unfair fd__law_unfair cd__law_unfair) (m__law_unfair : mg "_law_unfair" = some (.ref f__law_unfair))
    (F__law_fair_sets : FunC K "_law_fair_sets" "_law_fair_sets" st__law_fair_sets f__law_fair_sets fd__law_fair_sets cd__law_fair_sets) (m__law_fair_sets : mg "_law_fair_sets" = some (.ref f__law_fair_sets))
    (F__law_heard : FunC K "_law_heard" "_law_heard" st__law_heard f__law_heard fd__law_heard cd__law_heard) (m__law_heard : mg "_law_heard" = some (.ref f__law_heard))
    (F__law_are_refused : FunC K "_law_are_refused" "_law_are_refused" st__law_are_refused f__law_are_refused fd__law_are_refused (.ref cc__law_are_refused)) (m__law_are_refused : mg "_law_are_refused" = some (.ref f__law_are_refused))
    (F_law : FunC K "law" "law" st_law f_law fd_law cd_law)
    (HF : ∀ X : Cx, X.K = K → X.mg = mg → HeardC X f__law_heard Cb Vb)
    (tb_are_numbers : LamX.TabB base mg cc_are_numbers PP_are_numbers)
    (tb_unfair : LamX.TabB base mg cc_unfair PP_unfair)
    (tb_most_for : LamX.TabB base mg cc_most_for PP_most_for)
    (tb__law_are_refused : LamX.TabB base mg cc__law_are_refused PP__law_are_refused)
    (hTu__law_are_refused : ∀ r ∈ ([(PP__law_are_refused, QT__law_are_refused)] : List (Addr × Str)), r.1 = PP__law_are_refused → r.2 = QT__law_are_refused)
    {S : Par} (hK : S.K = K) (hST : S.T = [(PP__law_are_refused, QT__law_are_refused)]) (hSG : S.G = [PP_are_numbers, PP_unfair, PP_most_for]) (hSB : S.cBad = Cb)
    (N0 : Addr → Prop) (H0 : Hp) (A : Around) (outer : List Env) (s : Shared) (H : Hp) (E : XK) (hr : Room 16 (A.deeper (envOfC "law" (defScope st_law) s.heap.objs.size f_law cd_law))) :
    DSs (S.inn N0 H0 E) (bodyCx P w0 K mg base law_N "law" st_law f_law cd_law A outer s H E) ((defBody st_law).drop 1) law_w := by
  have C_is_number : Cal P w0 K mg base S 3 "is_number" ps_is_number is_number_s := cal_of F_is_number m_is_number (F_is_number.binds (ps := ps_is_number) fun _ _ _ _ _ _ us hl => match us, hl with | [_, _, _], _ => rfl) (ok_is_number hK B F_is_number ) mono_is_number meets_is_number
  have C_check : Cal P w0 K mg base S 3 "check" ps_check check_s := cal_of F_check m_check (F_check.binds (ps := ps_check) fun _ _ _ _ _ _ us hl => match us, hl with | [_, _], _ => rfl) (ok_check hK B BAD hSB F_check ) mono_check meets_check
  have C_are_numbers : Cal P w0 K mg base S 6 "are_numbers" ps_are_numbers are_numbers_s := cal_of F_are_numbers m_are_numbers (F_are_numbers.binds (ps := ps_are_numbers) fun _ _ _ _ _ _ us hl => match us, hl with | [_, _, _, _], _ => rfl) (ok_are_numbers hK B tb_are_numbers (by rw [hSG]; exact (.head _)) F_are_numbers C_is_number) mono_are_numbers meets_are_numbers
  have C_common : Cal P w0 K mg base S 3 "common" ps_common common_s := cal_of F_common m_common (F_common.binds (ps := ps_common) fun _ _ _ _ _ _ us hl => match us, hl with | [_, _], _ => rfl) (ok_common hK B F_common ) mono_common meets_common
  have C_lowest : Cal P w0 K mg base S 4 "lowest" ps_lowest lowest_s := cal_of F_lowest m_lowest (F_lowest.binds (ps := ps_lowest) fun _ _ _ _ _ _ us hl => match us, hl with | [_, _], _ => rfl) (ok_lowest hK B F_lowest C_common) mono_lowest meets_lowest
  have C_plus : Cal P w0 K mg base S 5 "plus" ps_plus plus_s := cal_of F_plus m_plus (F_plus.binds (ps := ps_plus) fun _ _ _ _ _ _ us hl => match us, hl with | [_, _], _ => rfl) (ok_plus hK B F_plus C_lowest) mono_plus meets_plus
  have C_check_use : Cal P w0 K mg base S 7 "check_use" ps_check_use check_use_s := cal_of F_check_use m_check_use (F_check_use.binds (ps := ps_check_use) fun _ _ _ _ _ _ us hl => match us, hl with | [_, _], _ => rfl) (ok_check_use hK B F_check_use C_are_numbers C_check) mono_check_use meets_check_use
  have C_cost_for : Cal P w0 K mg base S 8 "cost_for" ps_cost_for cost_for_s := cal_of F_cost_for m_cost_for (F_cost_for.binds (ps := ps_cost_for) fun _ _ _ _ _ _ us hl => match us, hl with | [_, _], _ => rfl) (ok_cost_for hK B F_cost_for C_check_use) mono_cost_for meets_cost_for
  have C_shares : Cal P w0 K mg base S 8 "shares" ps_shares shares_s := cal_of F_shares m_shares (F_shares.binds (ps := ps_shares) fun _ _ _ _ _ _ us hl => match us, hl with | [_, _], _ => rfl) (ok_shares hK B F_shares C_check_use C_lowest C_plus) mono_shares meets_shares
  have C_unfair : Cal P w0 K mg base S 10 "unfair" ps_unfair unfair_s := cal_of F_unfair m_unfair (F_unfair.binds (ps := ps_unfair) fun _ _ _ _ _ _ us hl => match us, hl with | [_, _, _], _ => rfl) (ok_unfair hK B tb_unfair (by rw [hSG]; exact (.tail _ (.head _))) F_unfair C_are_numbers C_check C_check_use) mono_unfair meets_unfair
  have C_is_fair : Cal P w0 K mg base S 11 "is_fair" ps_is_fair is_fair_s := cal_of F_is_fair m_is_fair (F_is_fair.binds (ps := ps_is_fair) fun _ _ _ _ _ _ us hl => match us, hl with | [_, _, _], _ => rfl) (ok_is_fair hK B F_is_fair C_are_numbers C_check C_check_use C_unfair) mono_is_fair meets_is_fair
  have C_most_for : Cal P w0 K mg base S 13 "most_for" ps_most_for most_for_s := cal_of F_most_for m_most_for (F_most_for.binds (ps := ps_most_for) fun _ _ _ _ _ _ us hl => match us, hl with | [_, _, _, _], _ => rfl) (ok_most_for hK B tb_most_for (by rw [hSG]; exact (.tail _ (.tail _ (.head _)))) F_most_for C_are_numbers C_check C_check_use C_is_number C_unfair) mono_most_for meets_most_for
  have C__law_taken : Cal P w0 K mg base S 1 "_law_taken" ps__law_taken _law_taken_s := ⟨⟨_, _, ok__law_taken hK B F__law_taken, m__law_taken, F__law_taken.kp, (F__law_taken.binds (ps := ps__law_taken) fun _ _ _ _ _ _ us hl => match us, hl with | [_, _], _ => rfl)⟩, mono__law_taken⟩
  have C__law_pick : Cal P w0 K mg base S 3 "_law_pick" ps__law_pick _law_pick_s := cal_of F__law_pick m__law_pick (F__law_pick.binds (ps := ps__law_pick) fun _ _ _ _ _ _ us hl => match us, hl with | [_, _], _ => rfl) (ok__law_pick hK B F__law_pick C__law_taken) mono__law_pick meets__law_pick
  have C__law_alike : Cal P w0 K mg base S 13 "_law_alike" ps__law_alike (alikeS 12) := cal_alike F__law_alike m__law_alike (F__law_alike.binds (ps := ps__law_alike) fun _ _ _ _ _ _ us hl => match us, hl with | [_, _], _ => rfl) (fun j sp C => ok__law_alike hK B F__law_alike C) 12
  have C__law_cost : Cal P w0 K mg base S 3 "_law_cost" ps__law_cost _law_cost_s := cal_of F__law_cost m__law_cost (F__law_cost.binds (ps := ps__law_cost) fun _ _ _ _ _ _ us hl => match us, hl with | [_, _], _ => rfl) (ok__law_cost hK B F__law_cost ) mono__law_cost meets__law_cost
  have C__law_part : Cal P w0 K mg base S 3 "_law_part" ps__law_part _law_part_s := cal_of F__law_part m__law_part (F__law_part.binds (ps := ps__law_part) fun _ _ _ _ _ _ us hl => match us, hl with | [_], _ => rfl) (ok__law_part hK B F__law_part ) mono__law_part meets__law_part
  have C__law_sum : Cal P w0 K mg base S 3 "_law_sum" ps__law_sum _law_sum_s := cal_of F__law_sum m__law_sum (F__law_sum.binds (ps := ps__law_sum) fun _ _ _ _ _ _ us hl => match us, hl with | [_], _ => rfl) (ok__law_sum hK B F__law_sum ) mono__law_sum meets__law_sum
  have C__law_orders : Cal P w0 K mg base S 3 "_law_orders" ps__law_orders _law_orders_s := cal_of F__law_orders m__law_orders (F__law_orders.binds (ps := ps__law_orders) fun _ _ _ _ _ _ us hl => match us, hl with | [_], _ => rfl) (ok__law_orders hK B F__law_orders ) mono__law_orders meets__law_orders
  have C__law_by_orders : Cal P w0 K mg base S 4 "_law_by_orders" ps__law_by_orders _law_by_orders_s := cal_of F__law_by_orders m__law_by_orders (F__law_by_orders.binds (ps := ps__law_by_orders) fun _ _ _ _ _ _ us hl => match us, hl with | [_, _], _ => rfl) (ok__law_by_orders hK B F__law_by_orders C__law_cost C__law_orders) mono__law_by_orders meets__law_by_orders
  have C__law_are_shares : Cal P w0 K mg base S 5 "_law_are_shares" ps__law_are_shares _law_are_shares_s := cal_of F__law_are_shares m__law_are_shares (F__law_are_shares.binds (ps := ps__law_are_shares) fun _ _ _ _ _ _ us hl => match us, hl with | [_, _, _], _ => rfl) (ok__law_are_shares hK B F__law_are_shares C__law_by_orders C__law_cost C__law_part C__law_sum) mono__law_are_shares meets__law_are_shares
  have C__law_unfair : Cal P w0 K mg base S 3 "_law_unfair" ps__law_unfair _law_unfair_s := cal_of F__law_unfair m__law_unfair (F__law_unfair.binds (ps := ps__law_unfair) fun _ _ _ _ _ _ us hl => match us, hl with | [_, _, _], _ => rfl) (ok__law_unfair hK B F__law_unfair ) mono__law_unfair meets__law_unfair
  have C__law_fair_sets : Cal P w0 K mg base S 4 "_law_fair_sets" ps__law_fair_sets _law_fair_sets_s := cal_of F__law_fair_sets m__law_fair_sets (F__law_fair_sets.binds (ps := ps__law_fair_sets) fun _ _ _ _ _ _ us hl => match us, hl with | [_, _, _], _ => rfl) (ok__law_fair_sets hK B F__law_fair_sets C__law_cost) mono__law_fair_sets meets__law_fair_sets
  have C__law_are_refused : Cal P w0 K mg base S 16 "_law_are_refused" ps__law_are_refused _law_are_refused_s := cal_of F__law_are_refused m__law_are_refused (F__law_are_refused.binds (ps := ps__law_are_refused) fun _ _ _ _ _ _ us hl => match us, hl with | [_, _, _], _ => rfl) (ok__law_are_refused hK B tb__law_are_refused HF hSB (by rw [hST]; exact (.head _)) (by rw [hST]; exact hTu__law_are_refused) F__law_are_refused C__law_alike C__law_pick C_cost_for C_is_fair C_most_for C_shares C_unfair) mono__law_are_refused meets__law_are_refused
  exact ok_law hK B C__law_alike C__law_are_refused C__law_are_shares C__law_cost C__law_fair_sets C__law_pick C__law_taken C__law_unfair C_cost_for C_is_fair C_most_for C_shares C_unfair N0 H0 A outer s H E hr
theorem all_mk {l : PySem.W.OpenLaw} {q : Program} {w : World} {K : PySem.W.Frag} {h : Heap} {mg : Str → Option Value} {fa : Addr} (X : K.In h) (G : h.Ns mainGlobals mg) (hfa : mg "law" = some (.ref fa))
    (hTab : ∀ (y : Str) (c P : Addr), ((recsOf q).find? (fun e => e.name == y)).isSome = true → PySem.W.tabIn K y = some (c, P) → PySem.W.CodeHd h c P ∧ h.get? P = some { cls := .none, data := .fields #[] })
    {f_is_number : Addr} {od_is_number an_is_number : Option Addr} {oc_is_number kV_is_number dc_is_number pm_is_number cd_is_number ct_is_number : Value} {sl_is_number : Array (Option Value)}
    (a_is_number : PySem.W.nsIn K mainGlobals "is_number" = some (some (.ref f_is_number))) (l_is_number : K.lookup f_is_number = some ⟨oc_is_number, od_is_number, .func (PySem.W.fnOf "is_number" "is_number" (defArgs st_is_number) (defBody st_is_number) (defScope st_is_number) .none kV_is_number dc_is_number pm_is_number an_is_number cd_is_number ct_is_number), sl_is_number⟩) (c_is_number : PySem.W.codeIn K cd_is_number "is_number" = true) (k_is_number : PySem.W.keepIn K (.ref f_is_number) = true)
    {f_check : Addr} {od_check an_check : Option Addr} {oc_check kV_check dc_check pm_check cd_check ct_check : Value} {sl_check : Array (Option Value)}
    (a_check : PySem.W.nsIn K mainGlobals "check" = some (some (.ref f_check))) (l_check : K.lookup f_check = some ⟨oc_check, od_check, .func (PySem.W.fnOf "check" "check" (defArgs st_check) (defBody st_check) (defScope st_check) .none kV_check dc_check pm_check an_check cd_check ct_check), sl_check⟩) (c_check : PySem.W.codeIn K cd_check "check" = true) (k_check : PySem.W.keepIn K (.ref f_check) = true)
    {f_are_numbers : Addr} {od_are_numbers an_are_numbers : Option Addr} {oc_are_numbers kV_are_numbers dc_are_numbers pm_are_numbers ct_are_numbers : Value} {sl_are_numbers : Array (Option Value)} {cc_are_numbers PP_are_numbers : Addr}
    (a_are_numbers : PySem.W.nsIn K mainGlobals "are_numbers" = some (some (.ref f_are_numbers))) (l_are_numbers : K.lookup f_are_numbers = some ⟨oc_are_numbers, od_are_numbers, .func (PySem.W.fnOf "are_numbers" "are_numbers" (defArgs st_are_numbers) (defBody st_are_numbers) (defScope st_are_numbers) .none kV_are_numbers dc_are_numbers pm_are_numbers an_are_numbers (.ref cc_are_numbers) ct_are_numbers), sl_are_numbers⟩) (c_are_numbers : PySem.W.codeIn K (.ref cc_are_numbers) "are_numbers" = true) (k_are_numbers : PySem.W.keepIn K (.ref f_are_numbers) = true) (t_are_numbers : PySem.W.tabIn K "are_numbers" = some (cc_are_numbers, PP_are_numbers)) (n_are_numbers : K.lookup PP_are_numbers = none) (r_are_numbers : ((recsOf q).find? (fun e => e.name == ("are_numbers" : Str))).isSome = true)
    {f_common : Addr} {od_common an_common : Option Addr} {oc_common kV_common dc_common pm_common cd_common ct_common : Value} {sl_common : Array (Option Value)}
    (a_common : PySem.W.nsIn K mainGlobals "common" = some (some (.ref f_common))) (l_common : K.lookup f_common = some ⟨oc_common, od_common, .func (PySem.W.fnOf "common" "common" (defArgs st_common) (defBody st_common) (defScope st_common) .none kV_common dc_common pm_common an_common cd_common ct_common), sl_common⟩) (c_common : PySem.W.codeIn K cd_common "common" = true) (k_common : PySem.W.keepIn K (.ref f_common) = true)
    {f_lowest : Addr} {od_lowest an_lowest : Option Addr} {oc_lowest kV_lowest dc_lowest pm_lowest cd_lowest ct_lowest : Value} {sl_lowest : Array (Option Value)}
    (a_lowest : PySem.W.nsIn K mainGlobals "lowest" = some (some (.ref f_lowest))) (l_lowest : K.lookup f_lowest = some ⟨oc_lowest, od_lowest, .func (PySem.W.fnOf "lowest" "lowest" (defArgs st_lowest) (defBody st_lowest) (defScope st_lowest) .none kV_lowest dc_lowest pm_lowest an_lowest cd_lowest ct_lowest), sl_lowest⟩) (c_lowest : PySem.W.codeIn K cd_lowest "lowest" = true) (k_lowest : PySem.W.keepIn K (.ref f_lowest) = true)
    {f_plus : Addr} {od_plus an_plus : Option Addr} {oc_plus kV_plus dc_plus pm_plus cd_plus ct_plus : Value} {sl_plus : Array (Option Value)}
    (a_plus : PySem.W.nsIn K mainGlobals "plus" = some (some (.ref f_plus))) (l_plus : K.lookup f_plus = some ⟨oc_plus, od_plus, .func (PySem.W.fnOf "plus" "plus" (defArgs st_plus) (defBody st_plus) (defScope st_plus) .none kV_plus dc_plus pm_plus an_plus cd_plus ct_plus), sl_plus⟩) (c_plus : PySem.W.codeIn K cd_plus "plus" = true) (k_plus : PySem.W.keepIn K (.ref f_plus) = true)
    {f_check_use : Addr} {od_check_use an_check_use : Option Addr} {oc_check_use kV_check_use dc_check_use pm_check_use cd_check_use ct_check_use : Value} {sl_check_use : Array (Option Value)}
    (a_check_use : PySem.W.nsIn K mainGlobals "check_use" = some (some (.ref f_check_use))) (l_check_use : K.lookup f_check_use = some ⟨oc_check_use, od_check_use, .func (PySem.W.fnOf "check_use" "check_use" (defArgs st_check_use) (defBody st_check_use) (defScope st_check_use) .none kV_check_use dc_check_use pm_check_use an_check_use cd_check_use ct_check_use), sl_check_use⟩) (c_check_use : PySem.W.codeIn K cd_check_use "check_use" = true) (k_check_use : PySem.W.keepIn K (.ref f_check_use) = true)
    {f_cost_for : Addr} {od_cost_for an_cost_for : Option Addr} {oc_cost_for kV_cost_for dc_cost_for pm_cost_for cd_cost_for ct_cost_for : Value} {sl_cost_for : Array (Option Value)}
    (a_cost_for : PySem.W.nsIn K mainGlobals "cost_for" = some (some (.ref f_cost_for))) (l_cost_for : K.lookup f_cost_for = some ⟨oc_cost_for, od_cost_for, .func (PySem.W.fnOf "cost_for" "cost_for" (defArgs st_cost_for) (defBody st_cost_for) (defScope st_cost_for) .none kV_cost_for dc_cost_for pm_cost_for an_cost_for cd_cost_for ct_cost_for), sl_cost_for⟩) (c_cost_for : PySem.W.codeIn K cd_cost_for "cost_for" = true) (k_cost_for : PySem.W.keepIn K (.ref f_cost_for) = true)
    {f_shares : Addr} {od_shares an_shares : Option Addr} {oc_shares kV_shares dc_shares pm_shares cd_shares ct_shares : Value} {sl_shares : Array (Option Value)}
    (a_shares : PySem.W.nsIn K mainGlobals "shares" = some (some (.ref f_shares))) (l_shares : K.lookup f_shares = some ⟨oc_shares, od_shares, .func (PySem.W.fnOf "shares" "shares" (defArgs st_shares) (defBody st_shares) (defScope st_shares) .none kV_shares dc_shares pm_shares an_shares cd_shares ct_shares), sl_shares⟩) (c_shares : PySem.W.codeIn K cd_shares "shares" = true) (k_shares : PySem.W.keepIn K (.ref f_shares) = true)
    {f_unfair : Addr} {od_unfair an_unfair : Option Addr} {oc_unfair kV_unfair dc_unfair pm_unfair ct_unfair : Value} {sl_unfair : Array (Option Value)} {cc_unfair PP_unfair : Addr}
    (a_unfair : PySem.W.nsIn K mainGlobals "unfair" = some (some (.ref f_unfair))) (l_unfair : K.lookup f_unfair = some ⟨oc_unfair, od_unfair, .func (PySem.W.fnOf "unfair" "unfair" (defArgs st_unfair) (defBody st_unfair) (defScope st_unfair) .none kV_unfair dc_unfair pm_unfair an_unfair (.ref cc_unfair) ct_unfair), sl_unfair⟩) (c_unfair : PySem.W.codeIn K (.ref cc_unfair) "unfair" = true) (k_unfair : PySem.W.keepIn K (.ref f_unfair) = true) (t_unfair : PySem.W.tabIn K "unfair" = some (cc_unfair, PP_unfair)) (n_unfair : K.lookup PP_unfair = none) (r_unfair : ((recsOf q).find? (fun e => e.name == ("unfair" : Str))).isSome = true)
    {f_is_fair : Addr} {od_is_fair an_is_fair : Option Addr} {oc_is_fair kV_is_fair dc_is_fair pm_is_fair cd_is_fair ct_is_fair : Value} {sl_is_fair : Array (Option Value)}
    (a_is_fair : PySem.W.nsIn K mainGlobals "is_fair" = some (some (.ref f_is_fair))) (l_is_fair : K.lookup f_is_fair = some ⟨oc_is_fair, od_is_fair, .func (PySem.W.fnOf "is_fair" "is_fair" (defArgs st_is_fair) (defBody st_is_fair) (defScope st_is_fair) .none kV_is_fair dc_is_fair pm_is_fair an_is_fair cd_is_fair ct_is_fair), sl_is_fair⟩) (c_is_fair : PySem.W.codeIn K cd_is_fair "is_fair" = true) (k_is_fair : PySem.W.keepIn K (.ref f_is_fair) = true)
    {f_most_for : Addr} {od_most_for an_most_for : Option Addr} {oc_most_for kV_most_for dc_most_for pm_most_for ct_most_for : Value} {sl_most_for : Array (Option Value)} {cc_most_for PP_most_for : Addr}
    (a_most_for : PySem.W.nsIn K mainGlobals "most_for" = some (some (.ref f_most_for))) (l_most_for : K.lookup f_most_for = some ⟨oc_most_for, od_most_for, .func (PySem.W.fnOf "most_for" "most_for" (defArgs st_most_for) (defBody st_most_for) (defScope st_most_for) .none kV_most_for dc_most_for pm_most_for an_most_for (.ref cc_most_for) ct_most_for), sl_most_for⟩) (c_most_for : PySem.W.codeIn K (.ref cc_most_for) "most_for" = true) (k_most_for : PySem.W.keepIn K (.ref f_most_for) = true) (t_most_for : PySem.W.tabIn K "most_for" = some (cc_most_for, PP_most_for)) (n_most_for : K.lookup PP_most_for = none) (r_most_for : ((recsOf q).find? (fun e => e.name == ("most_for" : Str))).isSome = true)
    {f__law_taken : Addr} {od__law_taken an__law_taken : Option Addr} {oc__law_taken kV__law_taken dc__law_taken pm__law_taken cd__law_taken ct__law_taken : Value} {sl__law_taken : Array (Option Value)}
    (a__law_taken : PySem.W.nsIn K mainGlobals "_law_taken" = some (some (.ref f__law_taken))) (l__law_taken : K.lookup f__law_taken = some ⟨oc__law_taken, od__law_taken, .func (PySem.W.fnOf "_law_taken" "_law_taken" (defArgs st__law_taken) (defBody st__law_taken) (defScope st__law_taken) .none kV__law_taken dc__law_taken pm__law_taken an__law_taken cd__law_taken ct__law_taken), sl__law_taken⟩) (c__law_taken : PySem.W.codeIn K cd__law_taken "_law_taken" = true) (k__law_taken : PySem.W.keepIn K (.ref f__law_taken) = true)
    {f__law_pick : Addr} {od__law_pick an__law_pick : Option Addr} {oc__law_pick kV__law_pick dc__law_pick pm__law_pick cd__law_pick ct__law_pick : Value} {sl__law_pick : Array (Option Value)}
    (a__law_pick : PySem.W.nsIn K mainGlobals "_law_pick" = some (some (.ref f__law_pick))) (l__law_pick : K.lookup f__law_pick = some ⟨oc__law_pick, od__law_pick, .func (PySem.W.fnOf "_law_pick" "_law_pick" (defArgs st__law_pick) (defBody st__law_pick) (defScope st__law_pick) .none kV__law_pick dc__law_pick pm__law_pick an__law_pick cd__law_pick ct__law_pick), sl__law_pick⟩) (c__law_pick : PySem.W.codeIn K cd__law_pick "_law_pick" = true) (k__law_pick : PySem.W.keepIn K (.ref f__law_pick) = true)
    {f__law_alike : Addr} {od__law_alike an__law_alike : Option Addr} {oc__law_alike kV__law_alike dc__law_alike pm__law_alike cd__law_alike ct__law_alike : Value} {sl__law_alike : Array (Option Value)}
    (a__law_alike : PySem.W.nsIn K mainGlobals "_law_alike" = some (some (.ref f__law_alike))) (l__law_alike : K.lookup f__law_alike = some ⟨oc__law_alike, od__law_alike, .func (PySem.W.fnOf "_law_alike" "_law_alike" (defArgs st__law_alike) (defBody st__law_alike) (defScope st__law_alike) .none kV__law_alike dc__law_alike pm__law_alike an__law_alike cd__law_alike ct__law_alike), sl__law_alike⟩) (c__law_alike : PySem.W.codeIn K cd__law_alike "_law_alike" = true) (k__law_alike : PySem.W.keepIn K (.ref f__law_alike) = true)
    {f__law_cost : Addr} {od__law_cost an__law_cost : Option Addr} {oc__law_cost kV__law_cost dc__law_cost pm__law_cost cd__law_cost ct__law_cost : Value} {sl__law_cost : Array (Option Value)}
    (a__law_cost : PySem.W.nsIn K mainGlobals "_law_cost" = some (some (.ref f__law_cost))) (l__law_cost : K.lookup f__law_cost = some ⟨oc__law_cost, od__law_cost, .func (PySem.W.fnOf "_law_cost" "_law_cost" (defArgs st__law_cost) (defBody st__law_cost) (defScope st__law_cost) .none kV__law_cost dc__law_cost pm__law_cost an__law_cost cd__law_cost ct__law_cost), sl__law_cost⟩) (c__law_cost : PySem.W.codeIn K cd__law_cost "_law_cost" = true) (k__law_cost : PySem.W.keepIn K (.ref f__law_cost) = true)
    {f__law_part : Addr} {od__law_part an__law_part : Option Addr} {oc__law_part kV__law_part dc__law_part pm__law_part cd__law_part ct__law_part : Value} {sl__law_part : Array (Option Value)}
    (a__law_part : PySem.W.nsIn K mainGlobals "_law_part" = some (some (.ref f__law_part))) (l__law_part : K.lookup f__law_part = some ⟨oc__law_part, od__law_part, .func (PySem.W.fnOf "_law_part" "_law_part" (defArgs st__law_part) (defBody st__law_part) (defScope st__law_part) .none kV__law_part dc__law_part pm__law_part an__law_part cd__law_part ct__law_part), sl__law_part⟩) (c__law_part : PySem.W.codeIn K cd__law_part "_law_part" = true) (k__law_part : PySem.W.keepIn K (.ref f__law_part) = true)
    {f__law_sum : Addr} {od__law_sum an__law_sum : Option Addr} {oc__law_sum kV__law_sum dc__law_sum pm__law_sum cd__law_sum ct__law_sum : Value} {sl__law_sum : Array (Option Value)}
    (a__law_sum : PySem.W.nsIn K mainGlobals "_law_sum" = some (some (.ref f__law_sum))) (l__law_sum : K.lookup f__law_sum = some ⟨oc__law_sum, od__law_sum, .func (PySem.W.fnOf "_law_sum" "_law_sum" (defArgs st__law_sum) (defBody st__law_sum) (defScope st__law_sum) .none kV__law_sum dc__law_sum pm__law_sum an__law_sum cd__law_sum ct__law_sum), sl__law_sum⟩) (c__law_sum : PySem.W.codeIn K cd__law_sum "_law_sum" = true) (k__law_sum : PySem.W.keepIn K (.ref f__law_sum) = true)
    {f__law_orders : Addr} {od__law_orders an__law_orders : Option Addr} {oc__law_orders kV__law_orders dc__law_orders pm__law_orders cd__law_orders ct__law_orders : Value} {sl__law_orders : Array (Option Value)}
    (a__law_orders : PySem.W.nsIn K mainGlobals "_law_orders" = some (some (.ref f__law_orders))) (l__law_orders : K.lookup f__law_orders = some ⟨oc__law_orders, od__law_orders, .func (PySem.W.fnOf "_law_orders" "_law_orders" (defArgs st__law_orders) (defBody st__law_orders) (defScope st__law_orders) .none kV__law_orders dc__law_orders pm__law_orders an__law_orders cd__law_orders ct__law_orders), sl__law_orders⟩) (c__law_orders : PySem.W.codeIn K cd__law_orders "_law_orders" = true) (k__law_orders : PySem.W.keepIn K (.ref f__law_orders) = true)
    {f__law_by_orders : Addr} {od__law_by_orders an__law_by_orders : Option Addr} {oc__law_by_orders kV__law_by_orders dc__law_by_orders pm__law_by_orders cd__law_by_orders ct__law_by_orders : Value} {sl__law_by_orders : Array (Option Value)}
    (a__law_by_orders : PySem.W.nsIn K mainGlobals "_law_by_orders" = some (some (.ref f__law_by_orders))) (l__law_by_orders : K.lookup f__law_by_orders = some ⟨oc__law_by_orders, od__law_by_orders, .func (PySem.W.fnOf "_law_by_orders" "_law_by_orders" (defArgs st__law_by_orders) (defBody st__law_by_orders) (defScope st__law_by_orders) .none kV__law_by_orders dc__law_by_orders pm__law_by_orders an__law_by_orders cd__law_by_orders ct__law_by_orders), sl__law_by_orders⟩) (c__law_by_orders : PySem.W.codeIn K cd__law_by_orders "_law_by_orders" = true) (k__law_by_orders : PySem.W.keepIn K (.ref f__law_by_orders) = true)
    {f__law_are_shares : Addr} {od__law_are_shares an__law_are_shares : Option Addr} {oc__law_are_shares kV__law_are_shares dc__law_are_shares pm__law_are_shares cd__law_are_shares ct__law_are_shares : Value} {sl__law_are_shares : Array (Option Value)}
    (a__law_are_shares : PySem.W.nsIn K mainGlobals "_law_are_shares" = some (some (.ref f__law_are_shares))) (l__law_are_shares : K.lookup f__law_are_shares = some ⟨oc__law_are_shares, od__law_are_shares, .func (PySem.W.fnOf "_law_are_shares" "_law_are_shares" (defArgs st__law_are_shares) (defBody st__law_are_shares) (defScope st__law_are_shares) .none kV__law_are_shares dc__law_are_shares pm__law_are_shares an__law_are_shares cd__law_are_shares ct__law_are_shares), sl__law_are_shares⟩) (c__law_are_shares : PySem.W.codeIn K cd__law_are_shares "_law_are_shares" = true) (k__law_are_shares : PySem.W.keepIn K (.ref f__law_are_shares) = true)
    {f__law_unfair : Addr} {od__law_unfair an__law_unfair : Option Addr} {oc__law_unfair kV__law_unfair dc__law_unfair pm__law_unfair cd__law_unfair ct__law_unfair : Value} {sl__law_unfair : Array (Option Value)}
    (a__law_unfair : PySem.W.nsIn K mainGlobals "_law_unfair" = some (some (.ref f__law_unfair))) (l__law_unfair : K.lookup f__law_unfair = some ⟨oc__law_unfair, od__law_unfair, .func (PySem.W.fnOf "_law_unfair" "_law_unfair" (defArgs st__law_unfair) (defBody st__law_unfair) (defScope st__law_unfair) .none kV__law_unfair dc__law_unfair pm__law_unfair an__law_unfair cd__law_unfair ct__law_unfair), sl__law_unfair⟩) (c__law_unfair : PySem.W.codeIn K cd__law_unfair "_law_unfair" = true) (k__law_unfair : PySem.W.keepIn K (.ref f__law_unfair) = true)
    {f__law_fair_sets : Addr} {od__law_fair_sets an__law_fair_sets : Option Addr} {oc__law_fair_sets kV__law_fair_sets dc__law_fair_sets pm__law_fair_sets cd__law_fair_sets ct__law_fair_sets : Value} {sl__law_fair_sets : Array (Option Value)}
    (a__law_fair_sets : PySem.W.nsIn K mainGlobals "_law_fair_sets" = some (some (.ref f__law_fair_sets))) (l__law_fair_sets : K.lookup f__law_fair_sets = some ⟨oc__law_fair_sets, od__law_fair_sets, .func (PySem.W.fnOf "_law_fair_sets" "_law_fair_sets" (defArgs st__law_fair_sets) (defBody st__law_fair_sets) (defScope st__law_fair_sets) .none kV__law_fair_sets dc__law_fair_sets pm__law_fair_sets an__law_fair_sets cd__law_fair_sets ct__law_fair_sets), sl__law_fair_sets⟩) (c__law_fair_sets : PySem.W.codeIn K cd__law_fair_sets "_law_fair_sets" = true) (k__law_fair_sets : PySem.W.keepIn K (.ref f__law_fair_sets) = true)
    {f__law_heard : Addr} {od__law_heard an__law_heard : Option Addr} {oc__law_heard kV__law_heard dc__law_heard pm__law_heard cd__law_heard ct__law_heard : Value} {sl__law_heard : Array (Option Value)}
    (a__law_heard : PySem.W.nsIn K mainGlobals "_law_heard" = some (some (.ref f__law_heard))) (l__law_heard : K.lookup f__law_heard = some ⟨oc__law_heard, od__law_heard, .func (PySem.W.fnOf "_law_heard" "_law_heard" (defArgs st__law_heard) (defBody st__law_heard) (defScope st__law_heard) .none kV__law_heard dc__law_heard pm__law_heard an__law_heard cd__law_heard ct__law_heard), sl__law_heard⟩) (c__law_heard : PySem.W.codeIn K cd__law_heard "_law_heard" = true) (k__law_heard : PySem.W.keepIn K (.ref f__law_heard) = true)
    {f__law_are_refused : Addr} {od__law_are_refused an__law_are_refused : Option Addr} {oc__law_are_refused kV__law_are_refused dc__law_are_refused pm__law_are_refused ct__law_are_refused : Value} {sl__law_are_refused : Array (Option Value)} {cc__law_are_refused PP__law_are_refused : Addr}
    (a__law_are_refused : PySem.W.nsIn K mainGlobals "_law_are_refused" = some (some (.ref f__law_are_refused))) (l__law_are_refused : K.lookup f__law_are_refused = some ⟨oc__law_are_refused, od__law_are_refused, .func (PySem.W.fnOf "_law_are_refused" "_law_are_refused" (defArgs st__law_are_refused) (defBody st__law_are_refused) (defScope st__law_are_refused) .none kV__law_are_refused dc__law_are_refused pm__law_are_refused an__law_are_refused (.ref cc__law_are_refused) ct__law_are_refused), sl__law_are_refused⟩) (c__law_are_refused : PySem.W.codeIn K (.ref cc__law_are_refused) "_law_are_refused" = true) (k__law_are_refused : PySem.W.keepIn K (.ref f__law_are_refused) = true) (t__law_are_refused : PySem.W.tabIn K "_law_are_refused" = some (cc__law_are_refused, PP__law_are_refused)) (n__law_are_refused : K.lookup PP__law_are_refused = none) (r__law_are_refused : ((recsOf q).find? (fun e => e.name == ("_law_are_refused" : Str))).isSome = true)
    {f_law : Addr} {od_law an_law : Option Addr} {oc_law kV_law dc_law pm_law cd_law ct_law : Value} {sl_law : Array (Option Value)}
    (a_law : PySem.W.nsIn K mainGlobals "law" = some (some (.ref f_law))) (l_law : K.lookup f_law = some ⟨oc_law, od_law, .func (PySem.W.fnOf "law" "law" (defArgs st_law) (defBody st_law) (defScope st_law) .none kV_law dc_law pm_law an_law cd_law ct_law), sl_law⟩) (c_law : PySem.W.codeIn K cd_law "law" = true) (k_law : PySem.W.keepIn K (.ref f_law) = true)
    (z_abs : PySem.W.nsIn K mainGlobals "abs" = some none)
    (z_all : PySem.W.nsIn K mainGlobals "all" = some none)
    (z_bool : PySem.W.nsIn K mainGlobals "bool" = some none)
    (z_dict : PySem.W.nsIn K mainGlobals "dict" = some none)
    (z_enumerate : PySem.W.nsIn K mainGlobals "enumerate" = some none)
    (z_int : PySem.W.nsIn K mainGlobals "int" = some none)
    (z_isinstance : PySem.W.nsIn K mainGlobals "isinstance" = some none)
    (z_len : PySem.W.nsIn K mainGlobals "len" = some none)
    (z_list : PySem.W.nsIn K mainGlobals "list" = some none)
    (z_max : PySem.W.nsIn K mainGlobals "max" = some none)
    (z_min : PySem.W.nsIn K mainGlobals "min" = some none)
    (z_range : PySem.W.nsIn K mainGlobals "range" = some none)
    (z_str : PySem.W.nsIn K mainGlobals "str" = some none)
    (z_sum : PySem.W.nsIn K mainGlobals "sum" = some none)
    (z_tuple : PySem.W.nsIn K mainGlobals "tuple" = some none)
    (z_zip : PySem.W.nsIn K mainGlobals "zip" = some none)
    {tk_MOST_COST : Tok} (z_MOST_COST : PySem.W.nsIn K mainGlobals "MOST_COST" = some (some (.int 1000 tk_MOST_COST)))
    {tk_MOST_CUSTOMERS : Tok} (z_MOST_CUSTOMERS : PySem.W.nsIn K mainGlobals "MOST_CUSTOMERS" = some (some (.int 12 tk_MOST_CUSTOMERS)))
    {tk_MOST_STOP : Tok} (z_MOST_STOP : PySem.W.nsIn K mainGlobals "MOST_STOP" = some (some (.int 20 tk_MOST_STOP)))
    {ad_NOTHING : Addr} {od_NOTHING : Option Addr} {oc_NOTHING : Value} {its_NOTHING : Array Value} {sz_NOTHING : Nat} {sl_NOTHING : Array (Option Value)} (z_NOTHING : PySem.W.nsIn K mainGlobals "NOTHING" = some (some (.ref ad_NOTHING))) (zl_NOTHING : K.lookup ad_NOTHING = some ⟨oc_NOTHING, od_NOTHING, .seq its_NOTHING sz_NOTHING, sl_NOTHING⟩) (zc_NOTHING : oc_NOTHING = .type "tuple") (zs_NOTHING : its_NOTHING.size ≤ 100) (zv_NOTHING : Vals (([0, 1] : List Int).map V.int) its_NOTHING.toList)
    {nm qn : Str} {NC : Addr} {bs : List Value} {sn : List Str} {sub : List Value} {ab : Bool} {col : Option Bool} {dd : Option Addr} {m0 m1 m2 m3 m5 : Option Value} {bm : List Value} {Cb Vb fI ccb cda : Addr}
    (aC : PySem.W.nsIn K mainGlobals "BadArgument" = some (some (.ref Cb))) (aV : PySem.W.nsIn K mainGlobals "VanError" = some (some (.ref Vb))) (zS : PySem.W.nsIn K mainGlobals "super" = some none) (zE : PySem.W.nsIn K mainGlobals "ValueError" = some none)
    (xC : K.lookup Cb = some (excC nm qn Cb NC bs bm sn sub ab col dd m0 m1 m2 m3 m5)) (xR : PySem.HandSPX.refsVE bm = true) (xS : PySem.W.ks_superIn K Cb Cb "__init__" = some (some (.builtin "ValueError.__init__")))
    (x1 : PySem.W.findIn K (.ref Cb) "__setattr__" = some (some (.builtin "object.__setattr__"))) (x2 : PySem.W.findIn K (.ref Cb) "name" = some none) (x3 : PySem.W.findIn K (.ref Cb) "__init__" = some (some (.ref fI))) (x4 : PySem.W.typeIn K (.ref fI) = some (.type "function"))
    (x5 : PySem.W.keepIn K (.ref Cb) = true) (x6 : PySem.W.subIn K (.ref Cb) (.type "BaseException") = some true) (x7 : PySem.W.subIn K (.ref Cb) (.type "ValueError") = some true) (x8 : PySem.W.typeIn K (.ref Cb) = some (.type "type"))
    (x9 : PySem.W.nsIn K cStatics "thirdparty.any" = some none) (y0 : (l.prog.main.scope.names.lookup ("super" : Str)).isSome = false)
    {ocI dcI pmI ctI : Value} {odI anI : Option Addr} {slI : Array (Option Value)}
    {msg : Str} {jI : Nat} {p1 p2 q1 q2 q3 q4 q5 q6 q7 q8 q9 q10 q11 q12 q13 : Pos} {ccl : Value} {cdd : Option Addr} {vs : Array Value} {ccs : Array (Option Value)} {file : Str} {tf : Tok}
    (lI : K.lookup fI = some ⟨ocI, odI, .func (PySem.W.ksFn "__init__" "BadArgument.__init__" (badA p1 p2) (badB msg jI q1 q2 q3 q4 q5 q6 q7 q8 q9 q10 q11 q12 q13) badS .none .none dcI pmI anI (.ref cda) ctI ccb), slI⟩) (cI : PySem.W.codeIn K (.ref cda) "BadArgument.__init__" = true)
    (lD : K.lookup cda = some ⟨ccl, cdd, .fields vs, ccs⟩) (lF : vs[2]? = some (.str file tf)) (lP : ((l.prog.main.file : Str) == file) = true) (lM : msg.length ≤ 100) (lL : (q3.endLine == q8.line) = true)
    {cl1 : Value} {cl2 : Option Addr} {cl3 : Array (Option Value)} (lC : K.lookup ccb = some ⟨cl1, cl2, .cell (some (.ref Cb)), cl3⟩)
    (u1 : PySem.W.findIn K (.ref Cb) "__getattribute__" = some (some (.builtin "BaseException.__getattribute__"))) (u2 : PySem.W.findIn K (.ref Cb) "__getattr__" = some none) (u3 : PySem.W.hasDictIn K Cb = true) (u4 : PySem.W.findIn K (.ref Cb) "__class__" = some (some (.builtin "object.__class__")))
    (u5 : PySem.W.specialIn K (.builtin "object.__class__") "__get__" = some (some (.builtin "getset_descriptor.__get__"))) (u6 : PySem.W.takesIn K (.builtin "object.__class__") = some true) (u7 : PySem.W.mroIn K Cb (.type "object") = some true)
    (u8 : PySem.W.exmOne K (.ref Cb) (.ref Cb) = some true) (u9 : PySem.W.kitOne K (.ref Cb) (.ref Vb) = some true) (u10 : PySem.W.kitOne K (.ref Cb) (.type "ValueError") = some true)
    (hTu__law_are_refused : ∀ r ∈ ([(PP__law_are_refused, QT__law_are_refused)] : List (Addr × Str)), r.1 = PP__law_are_refused → r.2 = QT__law_are_refused)
    (hTG : ∀ q ∈ ([PP_are_numbers, PP_unfair, PP_most_for] : List Addr), ∀ t ∈ ([(PP__law_are_refused, QT__law_are_refused)] : List (Addr × Str)), t.1 ≠ q)
    (plain : law_w { nx := fun _ => False, rt := fun d => d = .bool true, ex := noX } (none :: some .row :: List.replicate 12 none)) :
    LamX.LawAtS l w K (L2.CX l.prog w) 17 63 "script" mg fa h := by
  have e := hfa.symm.trans (PySem.W.mg_of X G a_law)
  cases e
  have F_is_number := funC_mk (st := st_is_number) l_is_number c_is_number k_is_number
  have m_is_number := PySem.W.mg_of X G a_is_number
  have F_check := funC_mk (st := st_check) l_check c_check k_check
  have m_check := PySem.W.mg_of X G a_check
  have F_are_numbers := funC_mk (st := st_are_numbers) l_are_numbers c_are_numbers k_are_numbers
  have m_are_numbers := PySem.W.mg_of X G a_are_numbers
  have F_common := funC_mk (st := st_common) l_common c_common k_common
  have m_common := PySem.W.mg_of X G a_common
  have F_lowest := funC_mk (st := st_lowest) l_lowest c_lowest k_lowest
  have m_lowest := PySem.W.mg_of X G a_lowest
  have F_plus := funC_mk (st := st_plus) l_plus c_plus k_plus
  have m_plus := PySem.W.mg_of X G a_plus
  have F_check_use := funC_mk (st := st_check_use) l_check_use c_check_use k_check_use
  have m_check_use := PySem.W.mg_of X G a_check_use
  have F_cost_for := funC_mk (st := st_cost_for) l_cost_for c_cost_for k_cost_for
  have m_cost_for := PySem.W.mg_of X G a_cost_for
  have F_shares := funC_mk (st := st_shares) l_shares c_shares k_shares
  have m_shares := PySem.W.mg_of X G a_shares
  have F_unfair := funC_mk (st := st_unfair) l_unfair c_unfair k_unfair
  have m_unfair := PySem.W.mg_of X G a_unfair
  have F_is_fair := funC_mk (st := st_is_fair) l_is_fair c_is_fair k_is_fair
  have m_is_fair := PySem.W.mg_of X G a_is_fair
  have F_most_for := funC_mk (st := st_most_for) l_most_for c_most_for k_most_for
  have m_most_for := PySem.W.mg_of X G a_most_for
  have F__law_taken := funC_mk (st := st__law_taken) l__law_taken c__law_taken k__law_taken
  have m__law_taken := PySem.W.mg_of X G a__law_taken
  have F__law_pick := funC_mk (st := st__law_pick) l__law_pick c__law_pick k__law_pick
  have m__law_pick := PySem.W.mg_of X G a__law_pick
  have F__law_alike := funC_mk (st := st__law_alike) l__law_alike c__law_alike k__law_alike
  have m__law_alike := PySem.W.mg_of X G a__law_alike
  have F__law_cost := funC_mk (st := st__law_cost) l__law_cost c__law_cost k__law_cost
  have m__law_cost := PySem.W.mg_of X G a__law_cost
  have F__law_part := funC_mk (st := st__law_part) l__law_part c__law_part k__law_part
  have m__law_part := PySem.W.mg_of X G a__law_part
  have F__law_sum := funC_mk (st := st__law_sum) l__law_sum c__law_sum k__law_sum
  have m__law_sum := PySem.W.mg_of X G a__law_sum
  have F__law_orders := funC_mk (st := st__law_orders) l__law_orders c__law_orders k__law_orders
  have m__law_orders := PySem.W.mg_of X G a__law_orders
  have F__law_by_orders := funC_mk (st := st__law_by_orders) l__law_by_orders c__law_by_orders k__law_by_orders
  have m__law_by_orders := PySem.W.mg_of X G a__law_by_orders
  have F__law_are_shares := funC_mk (st := st__law_are_shares) l__law_are_shares c__law_are_shares k__law_are_shares
  have m__law_are_shares := PySem.W.mg_of X G a__law_are_shares
  have F__law_unfair := funC_mk (st := st__law_unfair) l__law_unfair c__law_unfair k__law_unfair
  have m__law_unfair := PySem.W.mg_of X G a__law_unfair
  have F__law_fair_sets := funC_mk (st := st__law_fair_sets) l__law_fair_sets c__law_fair_sets k__law_fair_sets
  have m__law_fair_sets := PySem.W.mg_of X G a__law_fair_sets
  have F__law_heard := funC_mk (st := st__law_heard) l__law_heard c__law_heard k__law_heard
  have m__law_heard := PySem.W.mg_of X G a__law_heard
  have F__law_are_refused := funC_mk (st := st__law_are_refused) l__law_are_refused c__law_are_refused k__law_are_refused
  have m__law_are_refused := PySem.W.mg_of X G a__law_are_refused
  have F_law := funC_mk (st := st_law) l_law c_law k_law
  have B : Names K mg := ⟨PySem.W.mg_none_of X G z_abs, PySem.W.mg_none_of X G z_all, PySem.W.mg_none_of X G z_bool, PySem.W.mg_none_of X G z_dict, PySem.W.mg_none_of X G z_enumerate, PySem.W.mg_none_of X G z_int, PySem.W.mg_none_of X G z_isinstance, PySem.W.mg_none_of X G z_len, PySem.W.mg_none_of X G z_list, PySem.W.mg_none_of X G z_max, PySem.W.mg_none_of X G z_min, PySem.W.mg_none_of X G z_range, PySem.W.mg_none_of X G z_str, PySem.W.mg_none_of X G z_sum, PySem.W.mg_none_of X G z_tuple, PySem.W.mg_none_of X G z_zip, ⟨_, PySem.W.mg_of X G z_MOST_COST⟩, ⟨_, PySem.W.mg_of X G z_MOST_CUSTOMERS⟩, ⟨_, PySem.W.mg_of X G z_MOST_STOP⟩, globT_mk (PySem.W.mg_of X G z_NOTHING) zl_NOTHING zc_NOTHING zs_NOTHING zv_NOTHING⟩
  have BAD : BadTxt l.prog K mg Cb fI ccb :=
    { gC := PySem.W.mg_of X G aC, gS := PySem.W.mg_none_of X G zS, cls := ⟨nm, qn, NC, bs, bm, sn, sub, ab, col, dd, m0, m1, m2, m3, m5, xC, xR⟩, sup := xS, sa := x1, noN := x2, iC := x3, tC := x4, kC := x5, exC := x6, veC := x7, tyC := x8, own := x9, top := y0,
      fn := ⟨_, _, _, _, _, _, _, _, _, _, _, _, _, _, _, _, _, _, _, _, _, _, _, _, _, _, _, _, _, _, _, lI, cI, lD, lF, lP, lM, lL⟩, cell := ⟨_, _, _, lC⟩ }
  have HT : HeardTxt K mg Cb Vb := ⟨PySem.W.mg_of X G aC, PySem.W.mg_of X G aV, B.n_isinstance, PySem.W.mg_none_of X G zE, ⟨u1, u2, x6, u3, u4, u5, u6, u7⟩, x2, u8, u9, u10⟩
  have HF : ∀ X' : Cx, X'.K = K → X'.mg = mg → HeardC X' f__law_heard Cb Vb := fun X' e1 e2 => by
    refine ⟨by rw [e1, e2]; exact HT, by rw [e2]; exact m__law_heard, by rw [e1]; exact k__law_heard, ?_⟩
    rw [e1]
    exact ⟨_, _, _, _, _, _, _, _, _, _, _, _, _, _, _, _, _, _, _, _, _, _, _, _, _, _, _, _, _, _, _, _, _, _, _, _, _, _, l__law_heard, c__law_heard, F__law_heard.binds (ps := ["ask"]) fun _ _ _ _ _ _ us hl => match us, hl with | [_], _ => rfl, C8.fnScope_by (by decide +kernel), .inl rfl, rfl, rfl, rfl, rfl, rfl⟩
  obtain ⟨h1_are_numbers, h2_are_numbers⟩ := hTab _ _ _ r_are_numbers t_are_numbers
  obtain ⟨h1_unfair, h2_unfair⟩ := hTab _ _ _ r_unfair t_unfair
  obtain ⟨h1_most_for, h2_most_for⟩ := hTab _ _ _ r_most_for t_most_for
  obtain ⟨h1__law_are_refused, h2__law_are_refused⟩ := hTab _ _ _ r__law_are_refused t__law_are_refused
  refine ⟨PySem.W.fnOf "law" "law" (defArgs st_law) (defBody st_law) (defScope st_law) .none kV_law dc_law pm_law an_law cd_law ct_law, [(cc_are_numbers, PP_are_numbers), (cc_unfair, PP_unfair), (cc_most_for, PP_most_for), (cc__law_are_refused, PP__law_are_refused)], spLaw K [(cc_are_numbers, PP_are_numbers), (cc_unfair, PP_unfair), (cc_most_for, PP_most_for), (cc__law_are_refused, PP__law_are_refused)], (fun p hp => by
    simp only [List.mem_cons, List.not_mem_nil, or_false] at hp
    rcases hp with rfl | rfl | rfl | rfl
    · exact h2_are_numbers
    · exact h2_unfair
    · exact h2_most_for
    · exact h2__law_are_refused), (fun p hp => by
    simp only [List.mem_cons, List.not_mem_nil, or_false] at hp
    rcases hp with rfl | rfl | rfl | rfl
    · exact n_are_numbers
    · exact n_unfair
    · exact n_most_for
    · exact n__law_are_refused), (fun p hp => by
    simp only [List.mem_cons, List.not_mem_nil, or_false] at hp
    rcases hp with rfl | rfl | rfl | rfl
    · exact h1_are_numbers
    · exact h1_unfair
    · exact h1_most_for
    · exact h1__law_are_refused), fun s u => .of_eq rfl, fun H a ns hl hb hT hS => ⟨a, ns, rfl, hT, hS, fun _ => rfl⟩, fun base hKb hNb hTB => ?_⟩
  have tb_are_numbers := hTB (cc_are_numbers, PP_are_numbers) (.head _)
  have tb_unfair := hTB (cc_unfair, PP_unfair) (.tail _ (.head _))
  have tb_most_for := hTB (cc_most_for, PP_most_for) (.tail _ (.tail _ (.head _)))
  have tb__law_are_refused := hTB (cc__law_are_refused, PP__law_are_refused) (.tail _ (.tail _ (.tail _ (.head _))))
  refine law_fn (by decide) (by decide) (cB := Cb) (cU := 0) (T := [(PP__law_are_refused, QT__law_are_refused)]) (G := [PP_are_numbers, PP_unfair, PP_most_for]) (N := law_N) (m := 12) (h0 := (defBody st_law).headD (.Pass ⟨0, 0, 0, 0⟩)) (rest := (defBody st_law).drop 1) F_law sc_law rfl rfl ?_ ?_ hTG (fun A outer s H E => ps_set sc_law.nd rfl (by first | exact .inl rfl | exact .inr rfl) (pe_lst (pa_cons (pv 0) (pa_cons pe_int (pa_cons pe_int (pa_cons pe_int pa_nil)))))) (fun S e1 e2 e3 e4 e5 => all_ok B BAD HT F_is_number m_is_number F_check m_check F_are_numbers m_are_numbers F_common m_common F_lowest m_lowest F_plus m_plus F_check_use m_check_use F_cost_for m_cost_for F_shares m_shares F_unfair m_unfair F_is_fair m_is_fair F_most_for m_most_for F__law_taken m__law_taken F__law_pick m__law_pick F__law_alike m__law_alike F__law_cost m__law_cost F__law_part m__law_part F__law_sum m__law_sum F__law_orders m__law_orders F__law_by_orders m__law_by_orders F__law_are_shares m__law_are_shares F__law_unfair m__law_unfair F__law_fair_sets m__law_fair_sets F__law_heard m__law_heard F__law_are_refused m__law_are_refused F_law HF tb_are_numbers tb_unfair tb_most_for tb__law_are_refused hTu__law_are_refused e1 e2 e3 e4) plain
  · intro q hq; simp at hq ⊢; grind
  · intro q hq; simp at hq ⊢; grind
end DD
open PySem PySem.W PyProof.Rows
set_option maxRecDepth 100000 in
set_option maxHeartbeats 0 in
theorem PySem.Challenge.cw_loadedvan_k19_whole_shares_holds : PySem.Challenge.rw_loadedvan_k19_whole_shares.Holds := by
  w_on; o_law; k_head; (case hw => w_witness2)
  k_fill
  refine DD.walk_end (l := PySem.Challenge.rw_loadedvan_k19_whole_shares) (n := 63) (k := 17) (x := "script") (CX := fun w => L2.CX PySem.Challenge.rw_loadedvan_k19_whole_shares.prog w) rfl (by decide) rfl ⟨rfl, by decide, by decide⟩ (fun w h Y => km_in_of Y) ?F ?Z
  case F =>
    intro w mg fa h hTab KX G hmg
    refine' DD.all_mk KX G hmg hTab ?a_is_number ?l_is_number ?c_is_number ?k_is_number ?a_check ?l_check ?c_check ?k_check ?a_are_numbers ?l_are_numbers ?c_are_numbers ?k_are_numbers ?t_are_numbers ?n_are_numbers ?r_are_numbers ?a_common ?l_common ?c_common ?k_common ?a_lowest ?l_lowest ?c_lowest ?k_lowest ?a_plus ?l_plus ?c_plus ?k_plus ?a_check_use ?l_check_use ?c_check_use ?k_check_use ?a_cost_for ?l_cost_for ?c_cost_for ?k_cost_for ?a_shares ?l_shares ?c_shares ?k_shares ?a_unfair ?l_unfair ?c_unfair ?k_unfair ?t_unfair ?n_unfair ?r_unfair ?a_is_fair ?l_is_fair ?c_is_fair ?k_is_fair ?a_most_for ?l_most_for ?c_most_for ?k_most_for ?t_most_for ?n_most_for ?r_most_for ?a__law_taken ?l__law_taken ?c__law_taken ?k__law_taken ?a__law_pick ?l__law_pick ?c__law_pick ?k__law_pick ?a__law_alike ?l__law_alike ?c__law_alike ?k__law_alike ?a__law_cost ?l__law_cost ?c__law_cost ?k__law_cost ?a__law_part ?l__law_part ?c__law_part ?k__law_part ?a__law_sum ?l__law_sum ?c__law_sum ?k__law_sum ?a__law_orders ?l__law_orders ?c__law_orders ?k__law_orders ?a__law_by_orders ?l__law_by_orders ?c__law_by_orders ?k__law_by_orders ?a__law_are_shares ?l__law_are_shares ?c__law_are_shares ?k__law_are_shares ?a__law_unfair ?l__law_unfair ?c__law_unfair ?k__law_unfair ?a__law_fair_sets ?l__law_fair_sets ?c__law_fair_sets ?k__law_fair_sets ?a__law_heard ?l__law_heard ?c__law_heard ?k__law_heard ?a__law_are_refused ?l__law_are_refused ?c__law_are_refused ?k__law_are_refused ?t__law_are_refused ?n__law_are_refused ?r__law_are_refused ?a_law ?l_law ?c_law ?k_law ?z_abs ?z_all ?z_bool ?z_dict ?z_enumerate ?z_int ?z_isinstance ?z_len ?z_list ?z_max ?z_min ?z_range ?z_str ?z_sum ?z_tuple ?z_zip ?z_MOST_COST ?z_MOST_CUSTOMERS ?z_MOST_STOP ?z_NOTHING ?zl_NOTHING ?zc_NOTHING ?zs_NOTHING ?zv_NOTHING ?aC ?aV ?zS ?zE ?xC ?xR ?xS ?x1 ?x2 ?x3 ?x4 ?x5 ?x6 ?x7 ?x8 ?x9 ?y0 ?lI ?cI ?lD ?lF ?lP ?lM ?lL ?lC ?u1 ?u2 ?u3 ?u4 ?u5 ?u6 ?u7 ?u8 ?u9 ?u10 ?hTu__law_are_refused ?hTG DD.plain_law
    (case a_is_number => k_is)
    (case l_is_number => k_is)
    (case c_is_number => k_is)
    (case k_is_number => k_is)
    (case a_check => k_is)
    (case l_check => k_is)
    (case c_check => k_is)
    (case k_check => k_is)
    (case a_are_numbers => k_is)
    (case l_are_numbers => k_is)
    (case c_are_numbers => k_is)
    (case k_are_numbers => k_is)
    (case t_are_numbers => first | k_is | rfl)
    (case n_are_numbers => first | k_is | rfl)
    (case r_are_numbers => decide +kernel)
    (case a_common => k_is)
    (case l_common => k_is)
    (case c_common => k_is)
    (case k_common => k_is)
    (case a_lowest => k_is)
    (case l_lowest => k_is)
    (case c_lowest => k_is)
    (case k_lowest => k_is)
    (case a_plus => k_is)
    (case l_plus => k_is)
    (case c_plus => k_is)
    (case k_plus => k_is)
    (case a_check_use => k_is)
    (case l_check_use => k_is)
    (case c_check_use => k_is)
    (case k_check_use => k_is)
    (case a_cost_for => k_is)
    (case l_cost_for => k_is)
    (case c_cost_for => k_is)
    (case k_cost_for => k_is)
    (case a_shares => k_is)
    (case l_shares => k_is)
    (case c_shares => k_is)
    (case k_shares => k_is)
    (case a_unfair => k_is)
    (case l_unfair => k_is)
    (case c_unfair => k_is)
    (case k_unfair => k_is)
    (case t_unfair => first | k_is | rfl)
    (case n_unfair => first | k_is | rfl)
    (case r_unfair => decide +kernel)
    (case a_is_fair => k_is)
    (case l_is_fair => k_is)
    (case c_is_fair => k_is)
    (case k_is_fair => k_is)
    (case a_most_for => k_is)
    (case l_most_for => k_is)
    (case c_most_for => k_is)
    (case k_most_for => k_is)
    (case t_most_for => first | k_is | rfl)
    (case n_most_for => first | k_is | rfl)
    (case r_most_for => decide +kernel)
    (case a__law_taken => k_is)
    (case l__law_taken => k_is)
    (case c__law_taken => k_is)
    (case k__law_taken => k_is)
    (case a__law_pick => k_is)
    (case l__law_pick => k_is)
    (case c__law_pick => k_is)
    (case k__law_pick => k_is)
    (case a__law_alike => k_is)
    (case l__law_alike => k_is)
    (case c__law_alike => k_is)
    (case k__law_alike => k_is)
    (case a__law_cost => k_is)
    (case l__law_cost => k_is)
    (case c__law_cost => k_is)
    (case k__law_cost => k_is)
    (case a__law_part => k_is)
    (case l__law_part => k_is)
    (case c__law_part => k_is)
    (case k__law_part => k_is)
    (case a__law_sum => k_is)
    (case l__law_sum => k_is)
    (case c__law_sum => k_is)
    (case k__law_sum => k_is)
    (case a__law_orders => k_is)
    (case l__law_orders => k_is)
    (case c__law_orders => k_is)
    (case k__law_orders => k_is)
    (case a__law_by_orders => k_is)
    (case l__law_by_orders => k_is)
    (case c__law_by_orders => k_is)
    (case k__law_by_orders => k_is)
    (case a__law_are_shares => k_is)
    (case l__law_are_shares => k_is)
    (case c__law_are_shares => k_is)
    (case k__law_are_shares => k_is)
    (case a__law_unfair => k_is)
    (case l__law_unfair => k_is)
    (case c__law_unfair => k_is)
    (case k__law_unfair => k_is)
    (case a__law_fair_sets => k_is)
    (case l__law_fair_sets => k_is)
    (case c__law_fair_sets => k_is)
    (case k__law_fair_sets => k_is)
    (case a__law_heard => k_is)
    (case l__law_heard => k_is)
    (case c__law_heard => k_is)
    (case k__law_heard => k_is)
    (case a__law_are_refused => k_is)
    (case l__law_are_refused => k_is)
    (case c__law_are_refused => k_is)
    (case k__law_are_refused => k_is)
    (case t__law_are_refused => first | k_is | rfl)
    (case n__law_are_refused => first | k_is | rfl)
    (case r__law_are_refused => decide +kernel)
    (case a_law => k_is)
    (case l_law => k_is)
    (case c_law => k_is)
    (case k_law => k_is)
    (case z_abs => k_is)
    (case z_all => k_is)
    (case z_bool => k_is)
    (case z_dict => k_is)
    (case z_enumerate => k_is)
    (case z_int => k_is)
    (case z_isinstance => k_is)
    (case z_len => k_is)
    (case z_list => k_is)
    (case z_max => k_is)
    (case z_min => k_is)
    (case z_range => k_is)
    (case z_str => k_is)
    (case z_sum => k_is)
    (case z_tuple => k_is)
    (case z_zip => k_is)
    (case z_MOST_COST => k_is)
    (case z_MOST_CUSTOMERS => k_is)
    (case z_MOST_STOP => k_is)
    (case z_NOTHING => k_is)
    (case zl_NOTHING => k_is)
    (case zc_NOTHING => rfl)
    (case zs_NOTHING => decide)
    (case zv_NOTHING => exact (.cons ⟨_, rfl⟩ (.cons ⟨_, rfl⟩ .nil)))
    (case aC => k_is)
    (case aV => k_is)
    (case zS => k_is)
    (case zE => k_is)
    (case xC => k_is)
    (case xR => decide +kernel)
    (case xS => first | k_is | kernel_rfl | rfl)
    (case x1 => k_is)
    (case x2 => k_is)
    (case x3 => k_is)
    (case x4 => k_is)
    (case x5 => k_is)
    (case x6 => k_is)
    (case x7 => k_is)
    (case x8 => k_is)
    (case x9 => k_is)
    (case y0 => decide +kernel)
    (case lI => k_is)
    (case cI => k_is)
    (case lD => k_is)
    (case lF => first | rfl | k_is)
    (case lP => decide +kernel)
    (case lM => decide +kernel)
    (case lL => decide +kernel)
    (case lC => k_is)
    (case u1 => first | k_is | rfl)
    (case u2 => first | k_is | rfl)
    (case u3 => first | k_is | rfl)
    (case u4 => first | k_is | rfl)
    (case u5 => first | k_is | rfl)
    (case u6 => first | k_is | rfl)
    (case u7 => first | k_is | rfl)
    (case u8 => first | k_is | rfl)
    (case u9 => first | k_is | rfl)
    (case u10 => first | k_is | rfl)
    (case hTu__law_are_refused => decide +kernel)
    (case hTG => decide +kernel)
  case Z => 
    intro w H s e s' h
    exact DD.no_cx h
