import PyProof.Rows.All
import HandS.ForMost
import HandS.Exc
import HandS.Lambda
import HandS.GenList
import HandS.AnyAll
import PyProof.TupleOfGen
import PyProof.SumAny
import HandS.ExcOwn
import HandS.IsInst
import HandS.SortInts
import HandS.TupMul
import HandS.TupAny
import HandS.TupLe
import HandS.Deep
import HandS.Style
import HandS.More
import HandS.Flow
import HandS.SortKw
import KE.DataMinMax
import HandS.Iter
import HandS.Zip
import HandS.Words
import HandS.Codes
import KE.KExcSuper
import KE.KExcInit
import KE.KSuper
import HandS.Ends
import HandS.ExcInit
import HandS.FStr
import HandS.ExcIs
import HandS.ExcField
import HandS.TryMany
import HandS.Wide
import HandS.EndTab
import KE.KNest
import Wide.All
import OpenK.AllK
import Wide.FinOn
import PyProof.EqAt
import PyProof.EqKinds
import PyProof.TupleCall
import PySem.Challenge.RW_loadedvan_k27_whole_gates
set_option Elab.async false
set_option linter.all false
set_option maxRecDepth 100000
set_option maxHeartbeats 2000000
/-! GenX: all, any, sum, tuple of a generator expression whose element is any expression of the layer. -/
namespace GX
open PySem PySem.Spec PyProof.Rows L2 GenW
/-- the context of a generator expression's frame -/
abbrev gcx (X : Cx) (A : Around) (s : Shared) (H : Hp) (cenv : Env) (fp : List Addr) (pn : List (Addr × Obj)) : Cx :=
  { X with A := A, s_0 := s, H_0 := H, env := cenv, outer := X.stack, stack := cenv :: X.stack, ex := fp, fn := fun _ => false, pn := pn, xe := fun _ _ => False }
/-- the scope of a generator expression -/
structure GOk (scope : Scope) : Prop where
  co : scope.isCoroutine = false
  cell : ∀ y ∈ scope.names, y.2 ≠ .cell
  dot : scope.names.lookup (".0" : Str) = some NameKind.local
abbrev genv (X : Cx) (scope : Scope) (C : Addr) (code : Value) : Env := genEnv scope (cloFrom X.env.cells scope.names []) C code builtinsNs X.env
section
variable {X : Cx} {pins : List (Addr × Obj)} {σ : L2.St} {H : Hp} {s : Shared}
theorem gen_inv {A : Around} {scope : Scope} {own : List (Str × Nat)} {fp : List Addr} {code : Value} {pn : List (Addr × Obj)} {h5 : Heap} {g5 : Array GenState} {t5 : Nat} {m : Str → Option Value}
    (I : Inv X pins σ H s) (ok : BlkOk X.N X.env.scope scope own) (gk : GOk scope) (hN : X.N.Nodup) (hfp : ∀ b ∈ fp, FpOk X pins H b ∧ b < s.heap.objs.size)
    (hA : A.frames = some (genv X scope s.heap.objs.size code :: X.stack)) (hh : A.handled = none)
    (kp : ∀ b o, s.heap.get? b = some o → h5.get? b = some o) (hn : h5.Ns s.heap.objs.size m) (hg : AllBare g5)
    (hpn : ∀ p ∈ pn, h5.get? p.1 = some p.2 ∧ s.heap.objs.size < p.1 ∧ ∀ v, p.2.data ≠ .cell v) :
    Inv (gcx X A s H (genv X scope s.heap.objs.size code) fp pn) [] (wipe σ (own.map (·.2))) H { s with heap := h5, gens := g5, toks := t5 } := by
  have hfree : ∀ y ∈ scope.names, y.2 = .free → ∃ c, X.env.cells.lookup y.1 = some c := fun y hy e => by
    rcases ok.free y hy e with k | k
    · exact I.ok.has _ (.inl k)
    · exact I.ok.has _ (.inr k)
  have cm : ∀ {y c}, (cloFrom X.env.cells scope.names []).lookup y = some c → X.env.cells.lookup y = some c := fun {y c} e => by
    rcases cloFrom_mem (PySem.mem_of_lookup e) with hm | ⟨h1, h2⟩
    · cases hm
    · obtain ⟨c1, hc⟩ := hfree _ h1 rfl
      have hc : X.env.cells.lookup y = some c1 := hc
      have e2 : c = c1 := by
        rw [h2, hc] <;> rfl
      rw [e2]
      exact hc
  have look : ∀ {y}, scope.names.lookup y = some .free → ∃ c, (cloFrom X.env.cells scope.names []).lookup y = some c := fun {y} hl => by
    have hy : (y, NameKind.free) ∈ scope.names := PySem.mem_of_lookup hl
    exact mem_lookup (cloFrom_has (cells := X.env.cells) (acc := []) hy)
  have clt : ∀ {y c}, X.env.cells.lookup y = some c → c < s.heap.objs.size := fun {y c} e => by
    obtain ⟨w', z⟩ := I.cell y c e
    exact z.lt
  refine ⟨⟨I.ok.mod, ok.kind, I.ok.glob, rfl, Nat.le_refl _, fun y z c e1 e2 => I.ok.inj y z c (cm e1) (cm e2), fun y hy => ?_, fun y c z _ => ?_, fun _ => hh, hA, .inr ⟨rfl, rfl⟩, fun b hb => ⟨?_, fun y c e z => ?_⟩, I.bs, Nat.le_trans I.ok.bsz I.sz,
      fun b o e hb => ?_, fun b hb z => ?_, I.stack, I.stkFree⟩,
    rfl, hg, Un.kept kp, ⟨m, hn, fun i y v e1 e2 e3 => ?_⟩, fun y c e => ?_, I.hok.fresh (Nat.le_refl _), fun y c e => ?_, fun q hq => ?_, I.hok.kept kp, by rw [wipe_length]; exact I.len⟩
  · have hy : scope.names.lookup y = some .cell ∨ scope.names.lookup y = some .free := hy
    rcases hy with hy | hy
    · exact absurd rfl (gk.cell _ (PySem.mem_of_lookup hy))
    · exact look hy
  · cases z
  · exact Nat.ne_of_lt (hfp b hb).2
  · exact (hfp b hb).1.2.2.2.2.1 y c (cm e) z
  · rcases (hfp b hb).1.2.2.2.1 with z | z
    · exact I.ok.noex b o e z
    · exact absurd (Nat.lt_of_lt_of_le (Heap.lt_size e) (Nat.le_trans I.ok.bsz z)) (Nat.lt_irrefl _)
  · rcases List.mem_cons.mp (I.stkSub b z) with z | z
    · exact (hfp b hb).1.2.1 z
    · exact (hfp b hb).1.2.2.1 z
  · obtain ⟨e2, hne⟩ := wipe_some e2
    have e3 : Vis scope y := e3
    have noown : scope.names.lookup y = some .local → False := fun k => by
      rcases ok.own _ (PySem.mem_of_lookup k) (.inl rfl) with e' | e'
      · obtain ⟨p, hp, hpy⟩ := List.mem_map.mp e'
        have e4 := ok.ix p hp
        have : p.1 = y := hpy
        rw [this] at e4
        exact hne (List.mem_map.mpr ⟨p, hp, nodup_ix hN e4 e1⟩)
      · exact e' (List.mem_of_getElem? e1)
    rcases e3 with k | k | k
    · exact (noown k).elim
    · exact absurd rfl (gk.cell _ (PySem.mem_of_lookup k))
    · obtain ⟨m0, hn0, hl⟩ := I.loc
      have hvis : Vis X.env.scope y := (ok.free _ (PySem.mem_of_lookup k) rfl).elim (fun k => .inr (.inl k)) (fun k => .inr (.inr k))
      obtain ⟨w', r, q⟩ := hl i y v e1 e2 hvis
      obtain ⟨c2, h2⟩ := look k
      refine ⟨w', r, .inr ⟨.inr k, c2, h2, ?_⟩⟩
      have c1 := cm h2
      rcases q with ⟨k', _⟩ | ⟨_, c3, e', z⟩
      · have k' : X.env.scope.names.lookup y = some .local := k'
        rcases ok.free _ (PySem.mem_of_lookup k) rfl with k2 | k2 <;> rw [show X.env.scope.names.lookup y = _ from k2] at k' <;> cases k'
      · rw [c1] at e'
        cases e'
        exact z.keeps kp
  · obtain ⟨w', z⟩ := I.cell y c (cm e)
    exact ⟨w', z.keeps kp⟩
  · exact I.freeC y c (cm e)
  · have hq : q ∈ pn ++ [] := hq
    rw [List.append_nil] at hq
    obtain ⟨h1, h2, h3⟩ := hpn q hq
    exact ⟨h1, I.hok.fresh (Nat.le_of_lt h2), Nat.ne_of_gt h2, fun z => by
      rcases List.mem_cons.mp (I.stkSub q.1 z) with z | z
      · have := I.lt
        rw [z] at h2
        exact absurd (Nat.lt_trans this h2) (Nat.lt_irrefl _)
      · exact I.nofs (Nat.le_of_lt h2) z, h3⟩
end
theorem wipe_get (σ : L2.St) (vs : List Nat) (i : Nat) : (wipe σ vs)[i]? = if i ∈ vs then (σ[i]?).map fun _ => none else σ[i]? := by
  induction vs with
  | nil => simp [wipe]
  | cons v vs ih =>
    unfold wipe
    rw [List.getElem?_set]
    by_cases h : v = i
    · subst h
      simp only [if_true, List.mem_cons, true_or]
      rw [wipe_length]
      by_cases hl : v < σ.length
      · rw [if_pos hl, List.getElem?_eq_getElem hl]; rfl
      · rw [if_neg hl, List.getElem?_eq_none (by omega)]; rfl
    · rw [if_neg h, ih]
      by_cases hm : i ∈ vs
      · rw [if_pos hm, if_pos (List.mem_cons_of_mem _ hm)]
      · rw [if_neg hm, if_neg (fun z => (List.mem_cons.mp z).elim (fun e => h e.symm) hm)]
theorem wipe_wipe (σ : L2.St) (vs : List Nat) : wipe (wipe σ vs) vs = wipe σ vs := by
  apply List.ext_getElem?
  intro i
  rw [wipe_get, wipe_get]
  by_cases h : i ∈ vs
  · rw [if_pos h, if_pos h]
    cases σ[i]? <;> rfl
  · rw [if_neg h, if_neg h]
/-! ### the generator's run -/
section
variable {X : Cx} {A : Around} {s0 : Shared} {H0 : Hp} {cenv : Env} {fp : List Addr} {pn : List (Addr × Obj)} {α : Type}
/-- handed out: the consumer's state a (Tie: the objects that bear it), the item y, what it may do with it -/
def YG (X' : Cx) (fp : List Addr) (Tie : α → List (Addr × Obj) → Prop) (C : α → V → Hp → (α → Hp → Prop) → Prop) : Protocol := fun _ s₀ v s kap =>
  ∃ a pins σ' H y Nx, Tie a pins ∧ (∀ p ∈ pins, s₀.heap.get? p.1 = some p.2) ∧ Inv X' pins σ' H s ∧ (∀ b ∈ fp, H b = none) ∧ RelV y v ∧ C a y H Nx ∧
    ∀ a' pins' s'', Tie a' pins' → Inv X' pins' σ' H s'' → (∀ b ∈ fp, ∀ o, s.heap.get? b = some o → s''.heap.get? b = some o) → Nx a' H → kap (.send .none) s''
def RG (X' : Cx) (Tie : α → List (Addr × Obj) → Prop) (fin : α → Hp → Prop) : GenEnd := fun _ s₀ r s => r = .ok .next ∧ ∃ a pins σ' H, Tie a pins ∧ (∀ p ∈ pins, s₀.heap.get? p.1 = some p.2) ∧ Inv X' pins σ' H s ∧ fin a H
/-- the turns: W by the turn, a measure, the consumer's state, the heap -/
def GTurns (J : It) (g : TG) (tt : TT) (te : TE) (σw : L2.St) (vs : List Nat) (C : α → V → Hp → (α → Hp → Prop) → Prop) (fin : α → Hp → Prop) (W : Nat → Nat → α → Hp → Prop) : Prop :=
  ∀ i m a H, W i m a H → (J.stop i H ∧ fin a H) ∨ (J.go i H ∧ ∃ Nx : α → Hp → Prop, (∀ a' H', Nx a' H' → ∃ m', m' < m ∧ W (i + 1) m' a' H') ∧
    ∀ x H', J.yld i H x H' → g x σw H' fun σ2 H2 => wipe σ2 vs = σw ∧ tt σ2 H2 fun b H3 => if b = true then te σ2 H3 fun y H4 => C a y H4 Nx else Nx a H3)
theorem wf {α : Type} {M : Model} {A : Around} {t : Sem α} {Q Q' : α → Shared → Prop} {E : Value → Shared → Prop} {s : Shared} (h : wpAny M A t Q (fun _ _ => False) s) (hq : ∀ a s', Q a s' → Q' a s') : wpAny M A t Q' E s :=
  wpAny_mono h hq fun _ _ z => z.elim
theorem seg_gloop {B : Around} {elt tg iter : Expr} {ifs : List Expr} {scope : Scope} {pos : Pos} {it : Addr} {tn : Nat → Heap → Prop} {J : It} {g : TG} {tt : TT} {te : TE} {σw : L2.St} {vs : List Nat}
    {Tie : α → List (Addr × Obj) → Prop} {C : α → V → Hp → (α → Hp → Prop) → Prop} {fin : α → Hp → Prop} {W : Nat → Nat → α → Hp → Prop}
    (hA : A = B.over (.compLoop (.GeneratorExp elt [⟨tg, iter, ifs, 0⟩] scope pos) 0 (.ref it) .none cenv) [])
    (hc : X.calm = true) (hco : cenv.scope.isCoroutine = false)
    (T : Turn X.prog X.w X.K tg J fp it tn) (pg : PG (gcx X A s0 H0 cenv fp pn) tg g) (pt : PTs (gcx X A s0 H0 cenv fp pn) ifs tt) (pe : PE (gcx X A s0 H0 cenv fp pn) elt te)
    (hwl : wipe σw vs = σw) (hpn : ∀ p ∈ pn, p.1 ∉ fp) (hT : ∀ a pins, Tie a pins → ∀ p ∈ pins, p.1 ∉ fp) (turn : GTurns J g tt te σw vs C fin W) :
    ∀ (m n i : Nat) (a : α) (pins : List (Addr × Obj)) (H : Hp) (s s₀ : Shared), m < n → W i m a H → Tie a pins → (∀ p ∈ pins, s₀.heap.get? p.1 = some p.2) → Inv (gcx X A s0 H0 cenv fp pn) pins σw H s → tn i s.heap → (∀ b ∈ fp, H b = none) →
      Seg (model X.prog X.w) B (RG (gcx X A s0 H0 cenv fp pn) Tie fin) (YG (gcx X A s0 H0 cenv fp pn) fp Tie C) n s₀ (.compLoop (.GeneratorExp elt [⟨tg, iter, ifs, 0⟩] scope pos) 0 (.ref it) .none cenv)
        ((model X.prog X.w).den (.compLoop (.GeneratorExp elt [⟨tg, iter, ifs, 0⟩] scope pos) 0 (.ref it) .none cenv)) [] s := by
  intro m
  induction m using Nat.strongRecOn with
  | ind m ih =>
  intro n i a pins H s s₀ hmn w hTie hs0 I st hn
  have stat : ∀ {a : α} {pins : List (Addr × Obj)} {σ' : L2.St} {H' : Hp} {s' : Shared}, Tie a pins → Inv (gcx X A s0 H0 cenv fp pn) pins σ' H' s' → (∀ b ∈ fp, H' b = none) → ∀ b ∈ fp, FpOk (gcx X A s0 H0 cenv fp pn) pins H' b := fun {a pins σ' H' s'} hTie I' hn b hb =>
    ⟨hn b hb, (I'.ok.exf b hb).1, I'.ok.exfs b hb, .inl hb, fun x c e => (I'.ok.exf b hb).2 x c e, fun p hp z => (List.mem_append.mp hp).elim (fun q => hpn p q (by rw [z]; exact hb)) fun q => hT a pins hTie p q (by rw [z]; exact hb)⟩
  have eA : (gcx X A s0 H0 cenv fp pn).A = B.over (.compLoop (.GeneratorExp elt [⟨tg, iter, ifs, 0⟩] scope pos) 0 (.ref it) .none cenv) [] := hA
  show Seg _ B _ _ n s₀ _ ((compTurn (.GeneratorExp elt [⟨tg, iter, ifs, 0⟩] scope pos) 0 (.ref it) .none cenv).onRaise (leaving cenv)) [] s
  rw [compTurn_gen, Sem.onRaise_eq_wrap]
  refine seg_bind_wrap (wpAny_standAt ?_)
  rcases turn i m a H w with ⟨stop, qf⟩ | ⟨go, Nx, hNx, step⟩
  · refine seg_bind_wrap ?_
    rw [← eA]
    refine wf (T.done (gcx X A s0 H0 cenv fp pn) rfl rfl rfl hc i pins s σw H (fun _ _ => False) I (stat hTie I hn) st stop) fun r s1 h1 => ?_
    obtain ⟨hr, I1⟩ := h1
    subst hr
    exact seg_end (.ok .next) ⟨rfl, a, pins, σw, H, hTie, hs0, I1, qf⟩
  · refine seg_bind_wrap ?_
    rw [← eA]
    refine wf (T.item (gcx X A s0 H0 cenv fp pn) rfl rfl rfl hc i pins s σw H (fun _ _ => False) I (stat hTie I hn) st go) fun r s1 h1 => ?_
    obtain ⟨u, hr, h1⟩ := h1
    subst hr
    refine seg_bind_wrap ?_
    rw [← eA]
    refine wf h1 fun _ s2 h2 => ?_
    obtain ⟨x, H2, I2, r2, y2, st2, n2⟩ := h2
    have I2' := I2.pinned (stat hTie I2 n2) (T.obj _ _ st2)
    refine seg_bind_wrap ?_
    rw [← eA]
    refine wf (pg.run _ s2 σw H2 x u _ I2' r2 (step x H2 y2)) fun _ s3 h3 => ?_
    obtain ⟨σ3, H3, I3, hw3, q3⟩ := h3
    refine seg_bind_wrap ?_
    rw [← eA]
    refine wf (pt.run _ s3 σ3 H3 _ I3 q3) fun b s4 h4 => ?_
    obtain ⟨H4, I4, q4⟩ := h4
    have pin' : ∀ {σ' : L2.St} {H' : Hp} {s' : Shared}, Inv (gcx X A s0 H0 cenv fp pn) (pins ++ pinsAt fp s2.heap) σ' H' s' → ∀ b ∈ fp, ∀ o, s2.heap.get? b = some o → s'.heap.get? b = some o ∧ H' b = none := fun {σ' H' s'} I' b hb o e =>
      let z := I'.pin (b, o) (List.mem_append_right _ (List.mem_append_right _ (mem_pinsAt hb e)))
      ⟨z.1, z.2.1⟩
    have keepT : ∀ {σ' : L2.St} {H' : Hp} {s' : Shared}, Inv (gcx X A s0 H0 cenv fp pn) (pins ++ pinsAt fp s2.heap) σ' H' s' → tn (i + 1) s'.heap ∧ ∀ b ∈ fp, H' b = none := fun {σ' H' s'} I' =>
      ⟨T.keep _ _ _ st2 fun b hb o e => (pin' I' b hb o e).1, fun b hb => by
        obtain ⟨o, e, _⟩ := T.obj _ _ st2 b hb
        exact (pin' I' b hb o e).2⟩
    have hl3 : σw.length = σ3.length := by rw [← hw3, wipe_length]
    have wk : ∀ {pins' : List (Addr × Obj)} {H' : Hp} {s' : Shared}, Inv (gcx X A s0 H0 cenv fp pn) pins' σ3 H' s' → Inv (gcx X A s0 H0 cenv fp pn) pins' σw H' s' := fun {pins' H' s'} I' =>
      I'.weak hl3 fun j v e => by
        rw [← hw3] at e
        exact (wipe_some e).1
    cases b with
    | false =>
      simp only [Bool.false_eq_true, if_false] at q4 ⊢
      obtain ⟨m', hm', w'⟩ := hNx a H4 q4
      have k4 := keepT I4
      exact seg_again rfl (ih m' hm' n (i + 1) a pins H4 s4 s₀ (by omega) w' hTie hs0 (wk I4.unpinned) k4.1 k4.2)
    | true =>
      simp only [if_true] at q4 ⊢
      obtain ⟨n', rfl⟩ : ∃ n', n = n' + 1 := ⟨n - 1, by omega⟩
      have hy : ∀ v, yieldOut cenv v = yieldValue v := fun v => by simp only [yieldOut, hco, Bool.false_eq_true, if_false]
      simp only [hy]
      rw [Sem.bind_eq_wrap', Sem.bind_eq_wrap', Sem.wrap_wrap, Sem.wrap_wrap]
      refine seg_wrap ?_
      rw [← eA]
      refine wf (pe.run _ s4 σ3 H4 _ I4 q4) fun v s5 h5 => ?_
      obtain ⟨y, H5, I5, r5, q5⟩ := h5
      have k5 := keepT I5
      refine seg_at (seg_yield rfl rfl rfl ?_)
      refine ⟨a, pins, σ3, H5, y, Nx, hTie, hs0, I5.unpinned, k5.2, r5, q5, fun a' pins' s'' hTie' I'' hk hNx' => ?_⟩
      obtain ⟨m', hm', w'⟩ := hNx a' H5 hNx'
      exact seg_again rfl (ih m' hm' n' (i + 1) a' pins' H5 s'' s'' (by omega) w' hTie' (fun p hp => (I''.pin p (List.mem_append_right _ hp)).1) (wk I'') (T.keep _ _ _ k5.1 hk) k5.2)
theorem seg_gstart {B : Around} {elt tg iter : Expr} {ifs : List Expr} {scope : Scope} {pos : Pos} {it : Addr} {tn : Nat → Heap → Prop} {J : It}
    {R : GenEnd} {Y : Protocol} (T : Turn X.prog X.w X.K tg J fp it tn) {n : Nat} {s s₀ : Shared} (st : tn 0 s.heap)
    (h : Seg (model X.prog X.w) B R Y n s₀ (.compLoop (.GeneratorExp elt [⟨tg, iter, ifs, 0⟩] scope pos) 0 (.ref it) .none cenv)
        ((model X.prog X.w).den (.compLoop (.GeneratorExp elt [⟨tg, iter, ifs, 0⟩] scope pos) 0 (.ref it) .none cenv)) [] s) :
    Seg (model X.prog X.w) B R Y n s₀ (.compStart (.GeneratorExp elt [⟨tg, iter, ifs, 0⟩] scope pos) 0 (.ref it) .none cenv)
        ((model X.prog X.w).den (.compStart (.GeneratorExp elt [⟨tg, iter, ifs, 0⟩] scope pos) 0 (.ref it) .none cenv)) [] s := by
  show Seg _ B _ _ _ s₀ _ ((compStart (.GeneratorExp elt [⟨tg, iter, ifs, 0⟩] scope pos) 0 (.ref it) .none cenv).onRaise (leaving cenv)) [] s
  unfold compStart
  rw [Sem.onRaise_eq_wrap]
  show Seg _ B _ _ _ s₀ _ ((ask >>= _).wrap _ _ _ _) [] s
  refine seg_bind_wrap (wpAny_askSetting ?_)
  split
  · exact seg_again rfl h
  · first
      | exact seg_bind_wrap (wpAny_rule (seg_bind_wrap (wpAny_standAt (seg_bind_wrap (T.self _ 0 s _ _ st (seg_again rfl h))))))
      | (refine seg_bind_wrap (wpAny_rule ?_); show Seg _ B _ _ _ s₀ _ ((standAt iter.pos >>= _).wrap _ _ _ _) [] s; exact seg_bind_wrap (wpAny_standAt (seg_bind_wrap (T.self _ 0 s _ _ st (seg_again rfl h)))))
/-- the generator sleeps: at most n - 1 items more -/
def Sleep (X' : Cx) (fp : List Addr) (Tie : α → List (Addr × Obj) → Prop) (C : α → V → Hp → (α → Hp → Prop) → Prop) (fin : α → Hp → Prop) (B : Around) (gi n : Nat) (s : Shared) : Prop :=
  ∃ gs, s.gens[gi]? = some gs ∧ gs.Goes (model X'.prog X'.w) B (RG X' Tie fin) (YG X' fp Tie C) n (.send .none) (s.setGen gi .running)
theorem inv_gens {X' : Cx} {pins : List (Addr × Obj)} {σ : L2.St} {H : Hp} {s : Shared} {gi : Nat} {x : GenState} (I : Inv X' pins σ H s) (hx : x.bare = true) : Inv X' pins σ H (s.setGen gi x) :=
  I.call' (ch := []) rfl Un.refl I.hok (allBare_setGen I.bare hx) fun b z => absurd z (by simp)
theorem gstep {X' : Cx} {Tie : α → List (Addr × Obj) → Prop} {C : α → V → Hp → (α → Hp → Prop) → Prop} {fin : α → Hp → Prop} {B : Around} {E : Value → Shared → Prop} {Q : Option Value → Shared → Prop}
    {a gi n : Nat} {go : Obj} {pins : List (Addr × Obj)} {σ : L2.St} {H : Hp} {s : Shared} (hB : B.handled = none) (hd : B.depth < recursionLimit)
    (hgo : ∀ h : Heap, h.get? a = some go → h.IsGen a gi) (hpn : (a, go) ∈ X'.pn) (I : Inv X' pins σ H s) (S : Sleep X' fp Tie C fin B.in1 gi n s)
    (hY : ∀ v s2 aS pins' σ' H' y Nx, Tie aS pins' → (∀ p ∈ pins', s.heap.get? p.1 = some p.2) → Inv X' pins' σ' H' s2 → RelV y v → C aS y H' Nx →
      (∀ a' pins'' h' t', Tie a' pins'' → Inv X' pins'' σ' H' { s2 with heap := h', toks := t' } → (∀ b ∈ fp, ∀ o, s2.heap.get? b = some o → h'.get? b = some o) → Nx a' H' → ∃ n', n' < n ∧ Sleep X' fp Tie C fin B.in1 gi n' { s2 with heap := h', toks := t' }) → Q (some v) s2)
    (hP : ∀ s2 aS pins' σ' H', Tie aS pins' → (∀ p ∈ pins', s.heap.get? p.1 = some p.2) → Inv X' pins' σ' H' s2 → fin aS H' → Q none s2) :
    wpAny (model X'.prog X'.w) B (pyNext (.ref a)) Q E s := by
  obtain ⟨gs, hgs, hg⟩ := S
  have gen : ∀ {pins : List (Addr × Obj)} {σ : L2.St} {H : Hp} {s : Shared}, Inv X' pins σ H s → s.heap.IsGen a gi := fun I' => hgo _ (I'.pin (a, go) (List.mem_append_left _ hpn)).1
  have hgl : gi < s.gens.size := (Array.getElem?_eq_some_iff.mp hgs).1
  refine wpAny_gsz (n := gi + 1) hgl (wpAny_pyNext_genexpQ (P := fun _ s₀ s => ∃ a pins σ' H, Tie a pins ∧ (∀ p ∈ pins, s₀.heap.get? p.1 = some p.2) ∧ Inv X' pins σ' H s ∧ fin a H) hB I.nolimit hd (gen I) hgs hg (fun v s₁ gs' hb hv hsz => ?_) fun s₁ hp h' hk hsz => ?_)
  · obtain ⟨aS, pins', σ', H', y, Nx, hTie, hs0, I1, hn1, r1, hC, hkap⟩ := hv
    have hsz1 : gi < s₁.gens.size := by
      have q : (s₁.setGen gi gs').gens.size = s₁.gens.size := setGen_size _ _ _
      have hsz' : gi + 1 ≤ (s₁.setGen gi gs').gens.size := hsz
      omega
    refine hY v _ aS pins' σ' H' y Nx hTie hs0 (inv_gens I1 hb) r1 hC fun a' pins'' h' t' hTie' I2 hk hNx => ?_
    have q := hkap a' pins'' (({ s₁.setGen gi gs' with heap := h', toks := t' } : Shared).setGen gi .running) hTie' (inv_gens I2 rfl) (show ∀ b ∈ fp, ∀ o, s₁.heap.get? b = some o → h'.get? b = some o from hk) hNx
    cases n with
    | zero => exact q.elim
    | succ n' => exact ⟨n', Nat.lt_succ_self _, gs', setGen_at (s := s₁) hsz1, q⟩
  · obtain ⟨aS, pins', σ', H', hTie, hs0, I1, hf⟩ := hp
    have I2 : Inv X' pins' σ' H' { s₁.setGen gi .finished with heap := h' } := (inv_gens (x := .finished) (gi := gi) I1 rfl).kept (t' := s₁.toks) hk
    exact hP _ aS pins' σ' H' hTie hs0 I2 hf
end
theorem over_gen {A : Around} {elt tg iter : Expr} {ifs : List Expr} {scope : Scope} {pos : Pos} {it acc : Value} {env : Env} :
    A.over (.compLoop (.GeneratorExp elt [⟨tg, iter, ifs, 0⟩] scope pos) 0 it acc env) [] = A.deeper env := by
  first
    | rfl
    | (obtain ⟨hd, d, fr, gs, u⟩ := A; simp [Around.over, Around.deeper, marksOver, frameCount, unitsOf, envsOf, guardsOf, pushEnvs, pushGuards, Code.envs, Code.env?, Code.isFrame, Code.guards, Code.isGuard, Code.weight, Code.frames, Code.isCreation, Code.isCaller, Code.cUnits])
/-- a generator that has not begun, as its consumer sees it -/
def GReady (X : Cx) (pins : List (Addr × Obj)) (σ : L2.St) (k : Nat) (J : It) (g : TG) (tt : TT) (te : TE) (vs : List Nat) (H2 : Hp) (a : Addr) (s5 : Shared) : Prop :=
  ∀ (α : Type) (Tie : α → List (Addr × Obj) → Prop) (C : α → V → Hp → (α → Hp → Prop) → Prop) (fin : α → Hp → Prop) (W : Nat → Nat → α → Hp → Prop) (m0 : Nat) (a0 : α) (B : Around),
    GTurns J g tt te (wipe σ vs) vs C fin W → W 0 m0 a0 H2 → B.frames = some X.stack → Room (k + 1) B → (∀ aS ps, Tie aS ps → ∀ p ∈ ps, s5.heap.objs.size ≤ p.1) →
    ∃ (X' : Cx) (fp : List Addr) (gi : Nat) (go : Obj), X'.prog = X.prog ∧ X'.w = X.w ∧ (a, go) ∈ X'.pn ∧ (∀ h : Heap, h.get? a = some go → h.IsGen a gi) ∧
      (∀ pins0 h6 t6, Tie a0 pins0 → (∀ b o, s5.heap.get? b = some o → h6.get? b = some o) → (∀ p ∈ pins0, h6.get? p.1 = some p.2 ∧ ∀ v, p.2.data ≠ .cell v) →
        Inv X' pins0 (wipe σ vs) H2 { s5 with heap := h6, toks := t6 } ∧ Sleep X' fp Tie C fin B gi (m0 + 1) { s5 with heap := h6, toks := t6 }) ∧
      (∀ pins' σ' H' s', Inv X' pins' σ' H' s' → Inv X pins σ H' s') ∧
      (∀ S, s5.heap.objs.size ≤ S → Apart X' S ∧ S ∉ fp ∧ (∀ p ∈ X'.pn, p.1 ≠ S)) ∧ a < s5.heap.objs.size
section
variable {X : Cx} {pins : List (Addr × Obj)} {σ : L2.St} {H : Hp} {s : Shared}
theorem gready {elt tg iter : Expr} {ifs : List Expr} {scope : Scope} {own : List (Str × Nat)} {pos : Pos} {it : Addr} {fp : List Addr} {tn : Nat → Heap → Prop} {J : It} {g : TG} {tt : TT} {te : TE} {k : Nat} {code : Value} {h' : Heap} {go : Obj} {gi t5 : Nat}
    (I : Inv X pins σ H s) (hN : X.N.Nodup) (hc : X.calm = true) (ok : BlkOk X.N X.env.scope scope own) (gk : GOk scope)
    (T : Turn X.prog X.w X.K tg J fp it tn) (st : tn 0 s.heap) (hf : ∀ b ∈ fp, FpOk X pins H b)
    (hg : ∀ (A : Around) (s : Shared) (H : Hp) (C : Addr) (code : Value) (fp : List Addr) (pn : List (Addr × Obj)), Room k A → PG (gcx X A s H (genv X scope C code) fp pn) tg g)
    (ht : ∀ (A : Around) (s : Shared) (H : Hp) (C : Addr) (code : Value) (fp : List Addr) (pn : List (Addr × Obj)), Room k A → PTs (gcx X A s H (genv X scope C code) fp pn) ifs tt)
    (he : ∀ (A : Around) (s : Shared) (H : Hp) (C : Addr) (code : Value) (fp : List Addr) (pn : List (Addr × Obj)), Room k A → PE (gcx X A s H (genv X scope C code) fp pn) elt te)
    (hn : h'.Ns s.heap.objs.size (fun y => if y = ".0" then some (.ref it) else none)) (kp : ∀ b o, s.heap.get? b = some o → h'.get? b = some o) (hsz : s.heap.objs.size < h'.objs.size)
    (hgo : ∀ h : Heap, h.get? h'.objs.size = some go → h.IsGen h'.objs.size gi) (hgd : ∀ v, go.data ≠ .cell v) (hgp : (h'.push go).get? h'.objs.size = some go) (hgi : gi = s.gens.size) :
    GReady X pins σ k J g tt te (own.map (·.2)) H h'.objs.size { s with gens := s.gens.push (.fresh (.compStart (.GeneratorExp elt [⟨tg, iter, ifs, 0⟩] scope pos) 0 (.ref it) .none (genv X scope s.heap.objs.size code))), toks := t5, heap := h'.push go } := by
  intro α Tie C fin W m0 a0 B turn w0 hBf hBr hTie
  have sz5 : (h'.push go).objs.size = h'.objs.size + 1 := Heap.size_push ..
  have low5 : s.heap.objs.size ≤ (h'.push go).objs.size := by rw [sz5]; exact Nat.le_trans (Nat.le_of_lt hsz) (Nat.le_succ _)
  have fsz : ∀ b ∈ fp, b < s.heap.objs.size := fun b hb => by
    obtain ⟨o, e, _⟩ := T.obj _ _ st b hb
    exact Heap.lt_size e
  have kp5 : ∀ b o, s.heap.get? b = some o → (h'.push go).get? b = some o := fun b o e => Heap.get?_push_of_some _ (kp b o e)
  have bare5 : AllBare (s.gens.push (.fresh (.compStart (.GeneratorExp elt [⟨tg, iter, ifs, 0⟩] scope pos) 0 (.ref it) .none (genv X scope s.heap.objs.size code)))) := AllBare.push I.bare rfl
  have hAf : (B.deeper (genv X scope s.heap.objs.size code)).frames = some (genv X scope s.heap.objs.size code :: X.stack) := Around.frames_deeper hBf
  have hr' : Room k (B.deeper (genv X scope s.heap.objs.size code)) := hBr.deeper _
  have inv6 : ∀ pins0 h6 t6, (∀ p ∈ pins0, h6.get? p.1 = some p.2 ∧ (∀ v, p.2.data ≠ .cell v) ∧ (h'.push go).objs.size ≤ p.1) → (∀ b o, (h'.push go).get? b = some o → h6.get? b = some o) →
      Inv (gcx X (B.deeper (genv X scope s.heap.objs.size code)) s H (genv X scope s.heap.objs.size code) fp [(h'.objs.size, go)]) pins0 (wipe σ (own.map (·.2))) H
        { s with gens := s.gens.push (.fresh (.compStart (.GeneratorExp elt [⟨tg, iter, ifs, 0⟩] scope pos) 0 (.ref it) .none (genv X scope s.heap.objs.size code))), toks := t6, heap := h6 } := by
    intro pins0 h6 t6 hp h6k
    have J0 := gen_inv (A := B.deeper (genv X scope s.heap.objs.size code)) (code := code) (pn := [(h'.objs.size, go)]) (h5 := h6) (t5 := t6) (m := fun y => if y = ".0" then some (.ref it) else none) I ok gk hN (fun b hb => ⟨hf b hb, fsz b hb⟩) hAf hr'.hd
      (fun b o e => h6k b o (kp5 b o e)) ((hn.push _).keeps h6k) bare5 (fun p hp => by
        rw [List.mem_singleton.mp hp]
        exact ⟨h6k _ _ hgp, hsz, hgd⟩)
    refine J0.pins_of fun p hp2 => ?_
    obtain ⟨e1, e2, e3⟩ := hp p hp2
    have hlt : s.heap.objs.size < p.1 := by omega
    refine ⟨e1, I.hok.fresh (Nat.le_of_lt hlt), Nat.ne_of_gt hlt, fun z => ?_, e2⟩
    rcases List.mem_cons.mp (I.stkSub p.1 z) with z | z
    · have := I.lt
      rw [z] at hlt
      exact absurd (Nat.lt_trans this hlt) (Nat.lt_irrefl _)
    · exact I.nofs (Nat.le_of_lt hlt) z
  refine ⟨gcx X (B.deeper (genv X scope s.heap.objs.size code)) s H (genv X scope s.heap.objs.size code) fp [(h'.objs.size, go)], fp, gi, go, rfl, rfl, List.mem_singleton.mpr rfl, hgo, ?_, ?_, ?_, ?_⟩
  · intro pins0 h6 t6 hT0 h6k hp0
    have hp0' : ∀ p ∈ pins0, h6.get? p.1 = some p.2 ∧ (∀ v, p.2.data ≠ .cell v) ∧ (h'.push go).objs.size ≤ p.1 := fun p hp => ⟨(hp0 p hp).1, (hp0 p hp).2, hTie a0 pins0 hT0 p hp⟩
    have J1 := inv6 pins0 h6 t6 hp0' h6k
    refine ⟨J1, .fresh (.compStart (.GeneratorExp elt [⟨tg, iter, ifs, 0⟩] scope pos) 0 (.ref it) .none (genv X scope s.heap.objs.size code)), by rw [hgi]; exact Array.getElem?_push_size .., rfl, ?_⟩
    have st6 : tn 0 h6 := T.keep _ _ _ st fun b _ o e => h6k b o (kp5 b o e)
    refine seg_gstart (X := X) T st6 ?_
    refine seg_gloop (X := X) (A := B.deeper (genv X scope s.heap.objs.size code)) (s0 := s) (H0 := H) (cenv := genv X scope s.heap.objs.size code) (fp := fp) (pn := [(h'.objs.size, go)]) (σw := wipe σ (own.map (·.2))) (vs := own.map (·.2)) (by rw [over_gen]) hc gk.co T
      (hg _ s H _ code fp _ hr') (ht _ s H _ code fp _ hr') (he _ s H _ code fp _ hr') (wipe_wipe σ _) (fun p hp z => ?_) (fun aS ps hTT p hp z => ?_) turn m0 (m0 + 1) 0 a0 pins0 H _ _ (Nat.lt_succ_self _) w0 hT0 (fun p hp => (hp0 p hp).1) (inv_gens J1 rfl) st6 (fun b hb => (hf b hb).1)
    · rw [List.mem_singleton.mp hp] at z
      have := fsz _ z
      have h9 : s.heap.objs.size < h'.objs.size := hsz
      exact absurd (Nat.lt_trans this h9) (Nat.lt_irrefl _)
    · have h1 := fsz _ z
      have h2 : (h'.push go).objs.size ≤ p.1 := hTie aS ps hTT p hp
      exact absurd (Nat.lt_of_lt_of_le h1 (Nat.le_trans low5 h2)) (Nat.lt_irrefl _)
  · intro pins' σ' H' s' J
    exact I.call' (ch := fp) J.os J.base J.hok J.bare fun b hb => ⟨(hf b hb).2.2.2.1, (hf b hb).2.1, (hf b hb).2.2.2.2.1, (hf b hb).2.2.2.2.2⟩
  · intro S hS
    have hS : (h'.push go).objs.size ≤ S := hS
    have hS2 : h'.objs.size < S := by rw [sz5] at hS; exact hS
    refine ⟨⟨Nat.le_trans low5 hS, Nat.ne_of_gt (Nat.lt_trans hsz hS2), fun y c e z => ?_⟩, fun z => absurd (Nat.lt_of_lt_of_le (fsz S z) (Nat.le_trans low5 hS)) (Nat.lt_irrefl _), fun p hp => by rw [List.mem_singleton.mp hp]; exact Nat.ne_of_lt hS2⟩
    have e : (cloFrom X.env.cells scope.names []).lookup y = some c := e
    rcases cloFrom_mem (PySem.mem_of_lookup e) with hm | ⟨h1, h2⟩
    · cases hm
    · have hfree : ∃ c, X.env.cells.lookup y = some c := by
        rcases ok.free _ h1 rfl with k | k
        · exact I.ok.has _ (.inl k)
        · exact I.ok.has _ (.inr k)
      obtain ⟨c1, hc1⟩ := hfree
      obtain ⟨w', q⟩ := I.cell y c1 hc1
      have : c = c1 := by rw [h2, hc1] <;> rfl
      have h7 := q.lt
      rw [← this, z] at h7
      exact absurd (Nat.lt_of_lt_of_le h7 (Nat.le_trans low5 hS)) (Nat.lt_irrefl _)
  · show h'.objs.size < (h'.push go).objs.size
    rw [sz5]
    exact Nat.lt_succ_self _
/-- the expression: its iterable, the table grown, a generator ready -/
theorem gen_eval {elt tg iter : Expr} {ifs : List Expr} {scope : Scope} {own : List (Str × Nat)} {gpos : Pos} {wi : TI} {g : TG} {tt : TT} {te : TE} {k : Nat} {c P : Addr} {Q' : Value → Shared → Prop} {R : It → Hp → Prop}
    (hr : Room (k + 2) X.A) (TB : GxR.TabB X.base X.mg c P) (hcode : X.env.code = .ref c) (hN : X.N.Nodup) (hc : X.calm = true) (hi : PI X tg iter wi) (ok : BlkOk X.N X.env.scope scope own) (gk : GOk scope)
    (hg : ∀ (A : Around) (s : Shared) (H : Hp) (C : Addr) (code : Value) (fp : List Addr) (pn : List (Addr × Obj)), Room k A → PG (gcx X A s H (genv X scope C code) fp pn) tg g)
    (ht : ∀ (A : Around) (s : Shared) (H : Hp) (C : Addr) (code : Value) (fp : List Addr) (pn : List (Addr × Obj)), Room k A → PTs (gcx X A s H (genv X scope C code) fp pn) ifs tt)
    (he : ∀ (A : Around) (s : Shared) (H : Hp) (C : Addr) (code : Value) (fp : List Addr) (pn : List (Addr × Obj)), Room k A → PE (gcx X A s H (genv X scope C code) fp pn) elt te)
    (hs : ∀ v, genFold iter X.env v = pure v) (I : Inv X pins σ H s) (h : wi σ H fun J H1 => GxR.TabG H1 P ∧ ∀ H2, GxR.Tabbed P H1 H2 → R J H2)
    (hQ : ∀ J H2 a s5, R J H2 → a < s5.heap.objs.size → s5.heap.NoLimit → (∃ gi, s5.heap.IsGen a gi) → GReady X pins σ k J g tt te (own.map (·.2)) H2 a s5 → Q' (.ref a) s5) :
    wpAny (model X.prog X.w) X.A (eval (.GeneratorExp elt [⟨tg, iter, ifs, 0⟩] scope gpos) X.env) Q' X.xe s := by
  have hfree : ∀ y ∈ scope.names, y.2 = .free → ∃ c, X.env.cells.lookup y.1 = some c := fun y hy e => by
    rcases ok.free y hy e with k | k
    · exact I.ok.has _ (.inl k)
    · exact I.ok.has _ (.inr k)
  refine wpAny_GeneratorExp_make gk.co (closure_ok hfree) gk.cell gk.dot ok.kind (by have := hr.dp; omega) ?_ hs
  refine thn (hi.run pins s σ H _ I h) fun xv s1 h1 => thn h1 fun itv s2 h2 => ?_
  obtain ⟨it, fp, tn, J, H2, e, I2, T, st2, f2, ⟨ps, hP, htr⟩, q⟩ := h2
  subst e
  refine ⟨I2.nolimit, ?_⟩
  have hPs : s2.heap.get? P = some { cls := .none, data := .fields ps } := I2.hok P _ hP
  have cd : PySem.W.CodeHd s2.heap c P := TB.code.keeps fun b u e => I2.bk b u e
  have nfP : ∀ b ∈ fp, b ≠ P := fun b hb z => by
    have := (f2 b hb).1
    rw [z, hP] at this
    cases this
  have cont : ∀ (code : Value) (h3 : Heap) (tk : Nat) (more : Array Value), Heap.ExtBut P s2.heap h3 → s2.heap.objs.size ≤ h3.objs.size → h3.get? P = some { cls := .none, data := .fields (ps ++ more) } → TriplesOk (ps ++ more).toList →
      wpAny (model X.prog X.w) X.A (builtinsFor X.env.globals X.env.builtins) (fun bi s₄ =>
        ∀ h', h'.Ns s₄.heap.objs.size (fun y => if y = ".0" then some (.ref it) else none) → Heap.SameBut s₄.heap.objs.size (s₄.heap.push { cls := .type "frame", data := .dict #[] }) h' →
          Q' (.ref h'.objs.size) { s₄ with
            gens := s₄.gens.push (.fresh (.compStart (.GeneratorExp elt [⟨tg, iter, ifs, 0⟩] scope gpos) 0 (.ref it) .none (genEnv scope (cloFrom X.env.cells scope.names []) s₄.heap.objs.size code bi X.env))),
            toks := s₄.toks + 1 + 1 + 1,
            heap := h'.push { cls := .type "generator", data := .fields #[.int s₄.gens.size 0, .str "<genexpr>" (s₄.toks + 1), .str (X.env.qual ++ "<genexpr>") (s₄.toks + 1 + 1)] } }) X.xe { s2 with heap := h3, toks := tk } := by
    intro code h3 tk more hx hsz hP3 ht3
    have I3 : Inv X pins σ (upd H2 P (.tbl (ps ++ more))) { s2 with heap := h3, toks := tk } :=
      GxR.inv_tab (g' := s2.gens) (d' := s2.drawn) I2 hP hx hP3 I2.bare
    obtain ⟨bm, ob, e1, e2, e3, e4, e5, e6, e7, e8⟩ := TB.bm
    refine wpAny_builtinsFor (m := X.mg) (by rw [I3.ok.glob]; exact I3.mod.glob.keeps I3.bk) e1 e2 (I3.bk _ _ e5) e6 e7 e8 ?_
    intro h' hn' hs'
    have hsz4 : h'.objs.size = h3.objs.size + 1 := by
      have := hs'.1
      rw [Heap.size_push] at this
      exact this
    have kp' : ∀ b o, h3.get? b = some o → h'.get? b = some o := fun b o e => hs'.extBut b o (Nat.ne_of_lt (Heap.lt_size e)) (Heap.get?_push_of_some _ e)
    have qR := q (upd H2 P (.tbl (ps ++ more))) ⟨⟨ps ++ more, upd_same, ht3⟩, fun b hb => upd_ne hb⟩
    have f3 : ∀ b ∈ fp, FpOk X pins (upd H2 P (.tbl (ps ++ more))) b := fun b hb => ⟨by rw [upd_ne (nfP b hb)]; exact (f2 b hb).1, (f2 b hb).2⟩
    have st3 : tn 0 h3 := T.keep _ _ _ st2 fun b hb o e => hx b o (nfP b hb) e
    have hgen : ∀ h : Heap, h.get? h'.objs.size = some { cls := .type "generator", data := .fields #[.int s2.gens.size 0, .str "<genexpr>" (tk + 1), .str (X.env.qual ++ "<genexpr>") (tk + 1 + 1)] } → h.IsGen h'.objs.size s2.gens.size := fun h e => ⟨_, _, _, e, rfl, rfl, rfl⟩
    refine hQ J _ _ _ qR (by show h'.objs.size < (h'.push _).objs.size; rw [Heap.size_push]; exact Nat.lt_succ_self _) (I3.nolimit.keeps fun b o e => Heap.get?_push_of_some _ (kp' b o e)) ⟨_, hgen _ (Heap.get?_push_size _ rfl)⟩ ?_
    exact gready (s := { s2 with heap := h3, toks := tk }) (gi := s2.gens.size) (own := own) I3 hN hc ok gk T st3 f3 hg ht he hn' kp' (by rw [hsz4]; exact Nat.lt_succ_self _) hgen (fun v z => by cases z) (Heap.get?_push_size _ rfl) rfl
  cases hf : codeAmong gpos ps.toList with
  | none =>
    refine wpAny_genexprCodeX hcode (cd.code hPs htr) (cd.tab hPs) hf fun c' h' tk hx hge hlt hco' _ htab' _ => ?_
    obtain ⟨o1, vs, f1, tf, fl, tg, inF, tx, tt, op, _, _, _, _, _, _, _, _, _, htr', _⟩ := hco'
    exact cont _ h' tk _ hx (Nat.le_trans hge (Nat.le_of_lt hlt)) htab'.2 htr'
  | some cv =>
    refine wpAny_genexprCode_hit hcode (cd.code hPs htr) hf ?_
    exact cont cv s2.heap s2.toks #[] (Heap.ExtBut.refl _ _) (Nat.le_refl _) (by rw [Array.append_empty]; exact hPs) (by rw [Array.append_empty]; exact htr)
end
end GX
set_option maxRecDepth 100000
set_option maxHeartbeats 2000000
/-! GenY: what walks a generator expression: all, any, sum, tuple. -/
namespace GX
open PySem PySem.Spec PyProof.Rows L2 GenW
/-- the reading: a walk with a consumer's state -/
def tGx (P : Addr) (wi : TI) (g : TG) (tt : TT) (te : TE) (vs : List Nat) {α : Type} (a0 : α) (C : α → V → Hp → (α → Hp → Prop) → Prop) (fin : α → Hp → Prop) : L2.St → Hp → Prop := fun σ H =>
  wi σ H fun J H1 => GxR.TabG H1 P ∧ ∀ H2, GxR.Tabbed P H1 H2 → ∃ W : Nat → Nat → α → Hp → Prop, (∃ m, W 0 m a0 H2) ∧ GTurns J g tt te (wipe σ vs) vs C fin W
/-- what a generator expression's rule wants of its parts -/
structure GParts (X : Cx) (k : Nat) (elt tg iter : Expr) (ifs : List Expr) (scope : Scope) (own : List (Str × Nat)) (c P : Addr) (wi : TI) (g : TG) (tt : TT) (te : TE) : Prop where
  hr : Room (k + 2) X.A
  TB : GxR.TabB X.base X.mg c P
  hcode : X.env.code = .ref c
  hN : X.N.Nodup
  hc : X.calm = true
  hi : PI X tg iter wi
  ok : BlkOk X.N X.env.scope scope own
  gk : GOk scope
  hg : ∀ (A : Around) (s : Shared) (H : Hp) (C : Addr) (code : Value) (fp : List Addr) (pn : List (Addr × Obj)), Room k A → PG (gcx X A s H (genv X scope C code) fp pn) tg g
  ht : ∀ (A : Around) (s : Shared) (H : Hp) (C : Addr) (code : Value) (fp : List Addr) (pn : List (Addr × Obj)), Room k A → PTs (gcx X A s H (genv X scope C code) fp pn) ifs tt
  he : ∀ (A : Around) (s : Shared) (H : Hp) (C : Addr) (code : Value) (fp : List Addr) (pn : List (Addr × Obj)), Room k A → PE (gcx X A s H (genv X scope C code) fp pn) elt te
  hs : ∀ v, genFold iter X.env v = pure v
section
variable {X' : Cx} {fp : List Addr} {a gi : Nat} {go : Obj} {A : Around} {R : Result → Shared → Prop}
theorem all_loop {C : Unit → V → Hp → (Unit → Hp → Prop) → Prop} {fin : Unit → Hp → Prop} (hB : A.handled = none) (hd : A.depth < recursionLimit) (hgo : ∀ h : Heap, h.get? a = some go → h.IsGen a gi) (hpn : (a, go) ∈ X'.pn)
    (hC : ∀ y H Nx, C () y H Nx → ∃ k, y = .bl k ∧ (k = false → ∀ pins σ s, Inv X' pins σ H s → R (.ok (.ret (.bool false))) s) ∧ (k = true → Nx () H)) (hF : ∀ pins σ H s, Inv X' pins σ H s → fin () H → R (.ok (.ret (.bool true))) s) :
    ∀ (n : Nat) (pins : List (Addr × Obj)) (σ : L2.St) (H : Hp) (s : Shared), pins = [] → Inv X' pins σ H s → Sleep X' fp (fun _ ps => ps = []) C fin A.in1.in1 gi n s → codeAny (model X'.prog X'.w) A (.builtin "all.loop" ⟨[.ref a], []⟩) R s := by
  intro n
  induction n using Nat.strongRecOn with
  | ind n ih =>
  intro pins σ H s hp I S
  refine codeAny_builtin F.entry_all_loop ?_
  rw [Around.under_plainId F.plain_all_loop _]
  show wpAny _ A.in1 (pyNext (.ref a) >>= _) _ _ s
  refine wpAny_bind (gstep (B := A.in1) hB hd hgo hpn I S (fun v s2 aS pins' σ' H' y Nx hT _ I2 r2 hCy nxt => ?_) fun s2 aS pins' σ' H' hT _ I2 hf => ?_)
  · obtain ⟨k, rfl, hk0, hk1⟩ := hC y H' Nx hCy
    cases r2
    refine wpAny_bind (wpAny_holding (wpAny_truthy_bool ?_))
    refine wpAny_bind (wpAny_letGo ?_)
    cases k with
    | true =>
      simp only [if_true]
      obtain ⟨n', hn', S'⟩ := nxt () pins' s2.heap s2.toks hT I2 (fun _ _ _ e => e) (hk1 rfl)
      exact wpAny_pure ⟨plainId_quiet F.plain_all_loop _, ih n' hn' pins' σ' H' s2 hT I2 S'⟩
    | false =>
      simp only [Bool.false_eq_true, if_false]
      exact wpAny_bind (wpAny_rule (wpAny_pure (hk0 rfl _ _ _ I2)))
  · exact wpAny_bind (wpAny_rule (wpAny_pure (hF _ _ _ _ I2 hf)))
theorem any_loop {C : Unit → V → Hp → (Unit → Hp → Prop) → Prop} {fin : Unit → Hp → Prop} (hB : A.handled = none) (hd : A.depth < recursionLimit) (hgo : ∀ h : Heap, h.get? a = some go → h.IsGen a gi) (hpn : (a, go) ∈ X'.pn)
    (hC : ∀ y H Nx, C () y H Nx → ∃ k, y = .bl k ∧ (k = true → ∀ pins σ s, Inv X' pins σ H s → R (.ok (.ret (.bool true))) s) ∧ (k = false → Nx () H)) (hF : ∀ pins σ H s, Inv X' pins σ H s → fin () H → R (.ok (.ret (.bool false))) s) :
    ∀ (n : Nat) (pins : List (Addr × Obj)) (σ : L2.St) (H : Hp) (s : Shared), pins = [] → Inv X' pins σ H s → Sleep X' fp (fun _ ps => ps = []) C fin A.in1.in1 gi n s → codeAny (model X'.prog X'.w) A (.builtin "any.loop" ⟨[.ref a], []⟩) R s := by
  intro n
  induction n using Nat.strongRecOn with
  | ind n ih =>
  intro pins σ H s hp I S
  refine codeAny_builtin F.entry_any_loop ?_
  rw [Around.under_plainId F.plain_any_loop _]
  show wpAny _ A.in1 (pyNext (.ref a) >>= _) _ _ s
  refine wpAny_bind (gstep (B := A.in1) hB hd hgo hpn I S (fun v s2 aS pins' σ' H' y Nx hT _ I2 r2 hCy nxt => ?_) fun s2 aS pins' σ' H' hT _ I2 hf => ?_)
  · obtain ⟨k, rfl, hk0, hk1⟩ := hC y H' Nx hCy
    cases r2
    refine wpAny_bind (wpAny_holding (wpAny_truthy_bool ?_))
    refine wpAny_bind (wpAny_letGo ?_)
    cases k with
    | false =>
      simp only [Bool.false_eq_true, if_false]
      obtain ⟨n', hn', S'⟩ := nxt () pins' s2.heap s2.toks hT I2 (fun _ _ _ e => e) (hk1 rfl)
      exact wpAny_pure ⟨plainId_quiet F.plain_any_loop _, ih n' hn' pins' σ' H' s2 hT I2 S'⟩
    | true =>
      simp only [if_true]
      exact wpAny_bind (wpAny_rule (wpAny_pure (hk0 rfl _ _ _ I2)))
  · exact wpAny_bind (wpAny_rule (wpAny_pure (hF _ _ _ _ I2 hf)))
end
section
variable {X : Cx} {k : Nat} {elt tg iter : Expr} {ifs : List Expr} {scope : Scope} {own : List (Str × Nat)} {c P : Addr} {wi : TI} {g : TG} {tt : TT} {te : TE} {p pos gpos : Pos}
def tAll (P : Addr) (wi : TI) (g : TG) (tt : TT) (te : TE) (vs : List Nat) : TE := fun σ H Q =>
  tGx P wi g tt te vs () (fun _ y H Nx => ∃ k, y = .bl k ∧ (k = false → Q (.bl false) H) ∧ (k = true → Nx () H)) (fun _ H => Q (.bl true) H) σ H
def tAny (P : Addr) (wi : TI) (g : TG) (tt : TT) (te : TE) (vs : List Nat) : TE := fun σ H Q =>
  tGx P wi g tt te vs () (fun _ y H Nx => ∃ k, y = .bl k ∧ (k = true → Q (.bl true) H) ∧ (k = false → Nx () H)) (fun _ H => Q (.bl false) H) σ H
theorem Room.in1' {k : Nat} {A : Around} (r : Room (k + 2) A) : Room (k + 1) A.in1.in1 :=
  ⟨r.hd, by have := r.dp; show A.depth + 3 * (k + 1) + 5 < _; omega, by have := r.un; show A.units + 1 + 1 + 16 * (k + 1) + 200 < _; omega⟩
theorem pe_all (G : GParts X k elt tg iter ifs scope own c P wi g tt te) (hg : Gl X "all") (hm : X.mg "all" = none) (hb : bootBuiltins "all" = some (.builtin "all") := by decide +kernel) :
    PE X (.Call (.Name "all" p) [.GeneratorExp elt [⟨tg, iter, ifs, 0⟩] scope gpos] [] pos) (tAll P wi g tt te (own.map (·.2))) := by
  have he : starEach [.GeneratorExp elt [⟨tg, iter, ifs, 0⟩] scope gpos] X.env = (false, eval (.GeneratorExp elt [⟨tg, iter, ifs, 0⟩] scope gpos) X.env) :: starEach [] X.env := by rfl
  refine ⟨fun pins s σ H Q I h => ?_⟩
  refine wpAny_Call_Name_kw (ld_blt I hg hm hb ?_)
  refine PyProof.Rows.callWith_builtin1 ?_ he (by rfl)
  rw [he]
  show wpAny _ _ (spliced ((false, eval (.GeneratorExp elt [⟨tg, iter, ifs, 0⟩] scope gpos) X.env) :: backTo pos (starEach [] X.env))) _ _ s
  refine Calls.spliced_cons (gen_eval G.hr G.TB G.hcode G.hN G.hc G.hi G.ok G.gk G.hg G.ht G.he G.hs I h fun J H2 a s5 hR ha hl hig hG => ?_)
  refine Calls.spliced_nil ?_
  obtain ⟨W, ⟨m0, w0⟩, turn⟩ := hR
  obtain ⟨X', fp, gi, go, e1, e2, hpn, hgo, hst, hback, _, _⟩ := hG Unit (fun _ ps => ps = []) _ _ W m0 () X.A.in1.in1 turn w0 I.ok.frames (Room.in1' G.hr) (fun _ ps e p hp => by rw [e] at hp; cases hp)
  obtain ⟨I5, S5⟩ := hst [] s5.heap s5.toks rfl (fun _ _ e => e) (fun p hp => by cases hp)
  have hdep : X.A.depth < recursionLimit := by have := G.hr.dp; omega
  refine call_function_tree F.kind_all F.plain_all F.entry_all (F.args_all1 _) ?_
  unfold Builtin.«all»
  refine wpAny_bind (m := oneArg "all" _) (wpAny_pure ?_)
  obtain ⟨gi', hig⟩ := hig
  refine wpAny_bind (wpAny_pyIter_gen hig ?_)
  refine wpAny_pure ⟨plainId_quiet F.plain_all_loop _, ?_⟩
  have L := all_loop (X' := X') (R := fun r s' => match r with
      | .ok (.ret v) => EP X pins σ Q v s'
      | _ => False) (C := fun _ y H Nx => ∃ k, y = .bl k ∧ (k = false → Q (.bl false) H) ∧ (k = true → Nx () H)) (fin := fun _ H => Q (.bl true) H) (A := X.A) (fp := fp) (go := go) (gi := gi) G.hr.hd hdep hgo hpn
    (fun y H Nx ⟨k, e, q0, q1⟩ => ⟨k, e, fun z pins' σ' s' J => ⟨.bl false, H, hback _ _ _ _ J, rfl, q0 z⟩, q1⟩) (fun pins' σ' H' s' J hf => ⟨.bl true, H', hback _ _ _ _ J, rfl, hf⟩) _ [] _ _ s5 rfl I5 S5
  rw [e1, e2] at L
  exact codeAny_mono L fun r s' z => by
    rcases r with e | (v | _ | _ | _) <;> first | exact z | exact z.elim
theorem pe_any (G : GParts X k elt tg iter ifs scope own c P wi g tt te) (hg : Gl X "any") (hm : X.mg "any" = none) :
    PE X (.Call (.Name "any" p) [.GeneratorExp elt [⟨tg, iter, ifs, 0⟩] scope gpos] [] pos) (tAny P wi g tt te (own.map (·.2))) := by
  have he : starEach [.GeneratorExp elt [⟨tg, iter, ifs, 0⟩] scope gpos] X.env = (false, eval (.GeneratorExp elt [⟨tg, iter, ifs, 0⟩] scope gpos) X.env) :: starEach [] X.env := by rfl
  refine ⟨fun pins s σ H Q I h => ?_⟩
  refine wpAny_Call_Name_kw (ld_blt I hg hm boot_any ?_)
  refine PyProof.Rows.callWith_builtin1 ?_ he (by rfl)
  rw [he]
  show wpAny _ _ (spliced ((false, eval (.GeneratorExp elt [⟨tg, iter, ifs, 0⟩] scope gpos) X.env) :: backTo pos (starEach [] X.env))) _ _ s
  refine Calls.spliced_cons (gen_eval G.hr G.TB G.hcode G.hN G.hc G.hi G.ok G.gk G.hg G.ht G.he G.hs I h fun J H2 a s5 hR ha hl hig hG => ?_)
  refine Calls.spliced_nil ?_
  obtain ⟨W, ⟨m0, w0⟩, turn⟩ := hR
  obtain ⟨X', fp, gi, go, e1, e2, hpn, hgo, hst, hback, _, _⟩ := hG Unit (fun _ ps => ps = []) _ _ W m0 () X.A.in1.in1 turn w0 I.ok.frames (Room.in1' G.hr) (fun _ ps e p hp => by rw [e] at hp; cases hp)
  obtain ⟨I5, S5⟩ := hst [] s5.heap s5.toks rfl (fun _ _ e => e) (fun p hp => by cases hp)
  have hdep : X.A.depth < recursionLimit := by have := G.hr.dp; omega
  refine call_function_tree F.kind_any F.plain_any F.entry_any (F.args_any1 _) ?_
  unfold Builtin.«any»
  refine wpAny_bind (m := oneArg "any" _) (wpAny_pure ?_)
  obtain ⟨gi', hig⟩ := hig
  refine wpAny_bind (wpAny_pyIter_gen hig ?_)
  refine wpAny_pure ⟨plainId_quiet F.plain_any_loop _, ?_⟩
  have L := any_loop (X' := X') (R := fun r s' => match r with
      | .ok (.ret v) => EP X pins σ Q v s'
      | _ => False) (C := fun _ y H Nx => ∃ k, y = .bl k ∧ (k = true → Q (.bl true) H) ∧ (k = false → Nx () H)) (fin := fun _ H => Q (.bl false) H) (A := X.A) (fp := fp) (go := go) (gi := gi) G.hr.hd hdep hgo hpn
    (fun y H Nx ⟨k, e, q0, q1⟩ => ⟨k, e, fun z pins' σ' s' J => ⟨.bl true, H, hback _ _ _ _ J, rfl, q0 z⟩, q1⟩) (fun pins' σ' H' s' J hf => ⟨.bl false, H', hback _ _ _ _ J, rfl, hf⟩) _ [] _ _ s5 rfl I5 S5
  rw [e1, e2] at L
  exact codeAny_mono L fun r s' z => by
    rcases r with e | (v | _ | _ | _) <;> first | exact z | exact z.elim
end
/-! ### a consumer with an object of its own -/
section
variable {X' : Cx} {fp : List Addr} {a gi : Nat} {go : Obj} {A : Around} {R : Result → Shared → Prop} {S : Addr}
/-- the consumer's object is written -/
theorem inv_cell {o o' : Obj} {σ : L2.St} {H : Hp} {s : Shared} {h' : Heap} {t' : Nat} (I : Inv X' [(S, o)] σ H s) (hA : Apart X' S) (hpn : ∀ p ∈ X'.pn, p.1 ≠ S) (k : ∀ b u, b ≠ S → s.heap.get? b = some u → h'.get? b = some u)
    (ho : h'.get? S = some o') (hd : ∀ v, o'.data ≠ .cell v) : Inv X' [(S, o')] σ H { s with heap := h', toks := t' } := by
  obtain ⟨eS, hS0, hSL, hSf, _⟩ := I.pin (S, o) (List.mem_append_right _ (List.mem_singleton.mpr rfl))
  have I0 : Inv X' [] σ H s := I.pins_of fun p hp => by cases hp
  have nt : ∀ b u, H b = some u → b ≠ S := fun b u q hb => by
    have hS0 : H S = none := hS0
    rw [hb, hS0] at q; cases q
  have nc : ∀ b, b ∉ [S] → b ≠ S := fun b hb e => hb (by rw [e]; exact List.mem_singleton.mpr rfl)
  have J : Inv X' [] σ H { s with heap := h', toks := t' } := by
    refine I0.step (g' := s.gens) (t' := t') (d' := s.drawn) (ch := [S]) (fun b hb => ?_)
      (fun b ob _ _ hc q _ => k b ob (nc b hc) q) (fun b ob _ _ hc q _ => ⟨ob.slots, k b ob (nc b hc) q⟩) (fun _ _ _ _ n => n) (fun b ob hc q => ⟨ob, k b ob (nc b hc) q⟩)
      (fun _ _ q => q) (fun _ _ _ q => q) (fun b ps q => ⟨#[], by rw [q]; simp⟩) (fun m hm => ?_) (fun b u q => ?_) I0.bare
    · rw [List.mem_singleton.mp hb]
      exact ⟨.inr hA.1, hA.2.1, hA.2.2, fun p hp => hpn p (by rw [List.append_nil] at hp; exact hp)⟩
    · obtain ⟨ob, es, ep, ho, r⟩ := hm
      exact ⟨ob, es, ep, k _ ob (Ne.symm hSL) ho, r⟩
    · refine (I0.hok b u q).stay (fun c v hc y => k c v ?_ y) (fun _ y => y) fun _ _ y => y
      rcases hc with y | y
      · rw [y]; exact nt b u q
      · exact nt c _ y
  refine J.pins_of fun p hp => ?_
  rw [List.mem_singleton.mp hp]
  exact ⟨ho, hS0, hSL, hSf, hd⟩
abbrev accO (i : Int) (t : Tok) (c : Nat) : Obj := { cls := .type "list", dict := none, data := .seq #[.int i t] c, slots := #[] }
def TieS (S : Addr) (i : Int) (ps : List (Addr × Obj)) : Prop := ∃ t c, ps = [(S, accO i t c)]
theorem sum_loop {C : Int → V → Hp → (Int → Hp → Prop) → Prop} {fin : Int → Hp → Prop} (hB : A.handled = none) (hd : A.depth < recursionLimit) (hgo : ∀ h : Heap, h.get? a = some go → h.IsGen a gi) (hpn : (a, go) ∈ X'.pn)
    (hA : Apart X' S) (hSf : S ∉ fp) (hpS : ∀ p ∈ X'.pn, p.1 ≠ S)
    (hC : ∀ i y H Nx, C i y H Nx → ∃ j, y = .int j ∧ Nx (i + j) H) (hF : ∀ i pins σ H s t, Inv X' pins σ H s → fin i H → R (.ok (.ret (.int i t))) s) :
    ∀ (n : Nat) (i : Int) (tA : Tok) (c : Nat) (st : Int) (σ : L2.St) (H : Hp) (s : Shared), (st = 0 ∨ st = 2) → Inv X' [(S, accO i tA c)] σ H s → Sleep X' fp (TieS S) C fin A.in1.in1 gi n s →
      codeAny (model X'.prog X'.w) A (.builtin "sum.loop" ⟨[.ref a, .ref S, rawInt st, rawInt 0], []⟩) R s := by
  intro n
  induction n using Nat.strongRecOn with
  | ind n ih =>
  intro i tA c st σ H s hst2 I Sl
  have hS : s.heap.get? S = some (accO i tA c) := (I.pin (S, accO i tA c) (List.mem_append_right _ (List.mem_singleton.mpr rfl))).1
  refine codeAny_builtin F.entry_sum_loop ?_
  rw [Around.under_plainId F.plain_sum_loop _]
  show wpAny _ A.in1 (seqItems? (.ref S) >>= _) _ _ s
  refine wpAny_bind (wpAny_seqItems hS rfl ?_)
  show wpAny _ A.in1 (tryCatch (pyNext (.ref a)) _ >>= _) _ _ s
  have keepU : ∀ (h : Heap) (f : Obj → Obj) (b : Addr) (u : Obj), b ≠ S → h.get? b = some u → (h.update S f).get? b = some u := fun h f b u hb e => (Heap.get?_update_other _ _ (Ne.symm hb)).trans e
  refine wpAny_bind (wpAny_tryCatch (gstep (B := A.in1) hB hd hgo hpn I Sl (fun v s2 aS pins' σ' H' y Nx hT hs0 I2 r2 hCy nxt => ?_) fun s2 aS pins' σ' H' hT hs0 I2 hf => ?_))
  · obtain ⟨t2, c2, rfl⟩ := hT
    have e0 := hs0 _ (List.mem_singleton.mpr rfl)
    have e0 : s.heap.get? S = some (accO aS t2 c2) := e0
    rw [hS] at e0
    cases e0
    obtain ⟨j, rfl, hNx⟩ := hC i y H' Nx hCy
    obtain ⟨t, rfl⟩ := r2
    have hS' : s2.heap.get? S = some (accO i tA c) := (I2.pin (S, accO i tA c) (List.mem_append_right _ (List.mem_singleton.mpr rfl))).1
    have go2 : ∀ (t' : Tok) (c' : Nat) (h' : Heap) (tk : Nat), (∀ b u, b ≠ S → s2.heap.get? b = some u → h'.get? b = some u) → h'.get? S = some (accO (i + j) t' c') → ∀ st', (st' = 0 ∨ st' = 2) →
        codeAny (model X'.prog X'.w) A (.builtin "sum.loop" ⟨[.ref a, .ref S, rawInt st', rawInt 0], []⟩) R { s2 with heap := h', toks := tk } := by
      intro t' c' h' tk hk ho st' hst'
      have I3 : Inv X' [(S, accO (i + j) t' c')] σ' H' { s2 with heap := h', toks := tk } := inv_cell (t' := tk) I2 hA hpS hk ho (fun v z => by cases z)
      obtain ⟨n', hn', S'⟩ := nxt (i + j) _ h' tk ⟨t', c', rfl⟩ I3 (fun b hb o e => hk b o (fun z => hSf (by rw [← z]; exact hb)) e) hNx
      exact ih n' hn' (i + j) t' c' st' σ' H' _ hst' I3 S'
    rcases hst2 with rfl | rfl
    · show wpAny _ A.in1 (if (_ : Bool) = true then (mkInt (i + j) >>= _) else _) _ _ _
      split
      · refine wpAny_bind (wpAny_mkInt ?_)
        show wpAny _ A.in1 (updateSeq S (fun _ => #[.int (i + j) s2.toks]) >>= _) _ _ _
        refine wpAny_bind ?_
        refine wpAny_updateSeq hS' rfl (wpAny_pure ⟨plainId_quiet F.plain_sum_loop _, ?_⟩)
        have hS₁ := Heap.get?_update_self (Obj.mapSeq fun _ => #[Value.int (i + j) s2.toks]) hS' rfl
        exact go2 _ _ _ _ (keepU _ _) hS₁ _ (.inl rfl)
      · refine wpAny_bind (wpAny_rule ?_)
        refine wpAny_bind (wpAny_attempt (wpAny_holding (wpAny_add_int ?_)))
        show wpAny _ A.in1 (updateSeq S (fun _ => #[.int (i + j) s2.toks]) >>= _) _ _ _
        refine wpAny_bind (wpAny_updateSeq hS' rfl ?_)
        have hS₂ := Heap.get?_update_self (Obj.mapSeq fun _ => #[Value.int (i + j) s2.toks]) hS' rfl
        refine wpAny_bind (wpAny_letGo ?_)
        refine wpAny_bind (wpAny_updateSeq hS₂ rfl (wpAny_pure ⟨plainId_quiet F.plain_sum_loop _, ?_⟩))
        have hS₃ := Heap.get?_update_self (Obj.mapSeq fun _ => #[Value.int (i + j) s2.toks]) hS₂ rfl
        exact go2 _ _ _ _ (fun b u hb e => keepU _ _ b u hb (keepU _ _ b u hb e)) hS₃ _ (.inr rfl)
    · show wpAny _ A.in1 ((holding [Value.int j t] (binaryOp .Add (.int i tA) (.int j t))).attempt >>= _) _ _ _
      refine wpAny_bind (wpAny_attempt (wpAny_holding (wpAny_add_int ?_)))
      show wpAny _ A.in1 (updateSeq S (fun _ => #[.int (i + j) s2.toks]) >>= _) _ _ _
      refine wpAny_bind (wpAny_updateSeq hS' rfl ?_)
      have hS₂ := Heap.get?_update_self (Obj.mapSeq fun _ => #[Value.int (i + j) s2.toks]) hS' rfl
      refine wpAny_bind (wpAny_letGo ?_)
      refine wpAny_bind (wpAny_updateSeq hS₂ rfl (wpAny_pure ⟨plainId_quiet F.plain_sum_loop _, ?_⟩))
      have hS₃ := Heap.get?_update_self (Obj.mapSeq fun _ => #[Value.int (i + j) s2.toks]) hS₂ rfl
      exact go2 _ _ _ _ (fun b u hb e => keepU _ _ b u hb (keepU _ _ b u hb e)) hS₃ _ (.inr rfl)
  · obtain ⟨t2, c2, rfl⟩ := hT
    have e0 := hs0 _ (List.mem_singleton.mpr rfl)
    have e0 : s.heap.get? S = some (accO aS t2 c2) := e0
    rw [hS] at e0
    cases e0
    exact wpAny_pure (hF i _ _ _ _ tA I2 hf)
/-! ### a list filled -/
def TieL (S : Addr) (ys : List V) (ps : List (Addr × Obj)) : Prop := ∃ acc c, Vals ys acc.toList ∧ ps = [(S, lstObj acc c)]
theorem ext_loop {C : List V → V → Hp → (List V → Hp → Prop) → Prop} {fin : List V → Hp → Prop} {res : Value} (hB : A.handled = none) (hd : A.depth < recursionLimit) (hgo : ∀ h : Heap, h.get? a = some go → h.IsGen a gi) (hpn : (a, go) ∈ X'.pn)
    (hA : Apart X' S) (hSf : S ∉ fp) (hpS : ∀ p ∈ X'.pn, p.1 ≠ S)
    (hC : ∀ ys y H Nx, C ys y H Nx → ys.length < sizeLine ∧ Nx (ys ++ [y]) H) (hF : ∀ ys acc c σ H s, Vals ys acc.toList → Inv X' [(S, lstObj acc c)] σ H s → fin ys H → R (.ok (.ret res)) s) :
    ∀ (n : Nat) (ys : List V) (acc : Array Value) (c : Nat) (σ : L2.St) (H : Hp) (s : Shared), Vals ys acc.toList → Inv X' [(S, lstObj acc c)] σ H s → Sleep X' fp (TieL S) C fin A.in1.in1 gi n s →
      codeAny (model X'.prog X'.w) A (.builtin "list.extend.loop" ⟨[.ref S, .ref a, res], []⟩) R s := by
  intro n
  induction n using Nat.strongRecOn with
  | ind n ih =>
  intro ys acc c σ H s hv I Sl
  have hS : s.heap.get? S = some (lstObj acc c) := (I.pin (S, lstObj acc c) (List.mem_append_right _ (List.mem_singleton.mpr rfl))).1
  refine codeAny_builtin F.entry_extend_loop ?_
  rw [Around.under_plainId F.plain_extend_loop _]
  show wpAny _ A.in1 (pyNext (.ref a) >>= _) _ _ s
  refine wpAny_bind (gstep (B := A.in1) hB hd hgo hpn I Sl (fun v s2 aS pins' σ' H' y Nx hT hs0 I2 r2 hCy nxt => ?_) fun s2 aS pins' σ' H' hT hs0 I2 hf => ?_)
  · obtain ⟨acc2, c2, hv2, rfl⟩ := hT
    obtain ⟨hlt, hNx⟩ := hC aS y H' Nx hCy
    have hS' : s2.heap.get? S = some (lstObj acc2 c2) := (I2.pin (S, lstObj acc2 c2) (List.mem_append_right _ (List.mem_singleton.mpr rfl))).1
    have hasz : acc2.size < sizeLine := by
      have e1 := hv2.length
      have e2 : acc2.toList.length = acc2.size := by simp
      omega
    show wpAny _ A.in1 (updateSeq S (·.push v) >>= _) _ _ _
    refine wpAny_bind ?_
    refine wpAny_updateSeq hS' rfl (wpAny_pure ⟨plainId_quiet F.plain_extend_loop _, ?_⟩) (Nat.le_of_lt hasz) (by show (acc2.push v).size ≤ sizeLine + 1; rw [Array.size_push]; omega)
    have hS₂ := Heap.get?_update_self (Obj.mapSeq (·.push v)) hS' rfl
    have kU : ∀ b u, b ≠ S → s2.heap.get? b = some u → (s2.heap.update S (Obj.mapSeq (·.push v))).get? b = some u := fun b u hb e => (Heap.get?_update_other _ _ (Ne.symm hb)).trans e
    have hv3 : Vals (aS ++ [y]) (acc2.push v).toList := by
      rw [Array.toList_push]
      exact hv2.append (.cons r2 .nil)
    have I3 := inv_cell (t' := s2.toks) I2 hA hpS kU hS₂ (fun v z => by cases z)
    obtain ⟨n', hn', S'⟩ := nxt (aS ++ [y]) _ _ s2.toks ⟨acc2.push v, _, hv3, rfl⟩ I3 (fun b hb o e => kU b o (fun z => hSf (by rw [← z]; exact hb)) e) hNx
    exact ih n' hn' (aS ++ [y]) (acc2.push v) _ σ' H' _ hv3 I3 S'
  · obtain ⟨acc2, c2, hv2, rfl⟩ := hT
    exact wpAny_pure (hF aS acc2 c2 _ _ _ hv2 I2 hf)
end
section
variable {X : Cx} {k : Nat} {elt tg iter : Expr} {ifs : List Expr} {scope : Scope} {own : List (Str × Nat)} {c P : Addr} {wi : TI} {g : TG} {tt : TT} {te : TE} {p pos gpos : Pos}
def tSum (P : Addr) (wi : TI) (g : TG) (tt : TT) (te : TE) (vs : List Nat) : TE := fun σ H Q =>
  tGx P wi g tt te vs (0 : Int) (fun i y H Nx => ∃ j, y = .int j ∧ Nx (i + j) H) (fun i H => Q (.int i) H) σ H
def tTupG (P : Addr) (wi : TI) (g : TG) (tt : TT) (te : TE) (vs : List Nat) : TE := fun σ H Q =>
  tGx P wi g tt te vs ([] : List V) (fun ys y H Nx => ys.length < sizeLine ∧ Nx (ys ++ [y]) H) (fun ys H => ys.length ≤ sizeLine ∧ ∀ p, H p = none → Q (.ref p) (upd H p (.tup ys))) σ H
theorem Room.in1'' {k : Nat} {A : Around} (r : Room (k + 2) A) : Room (k + 1) A.in1.in1.in1.in1.in1 :=
  ⟨r.hd, by have := r.dp; show A.depth + 3 * (k + 1) + 5 < _; omega, by have := r.un; show A.units + 1 + 1 + 1 + 1 + 1 + 16 * (k + 1) + 200 < _; omega⟩
theorem pe_sum (G : GParts X k elt tg iter ifs scope own c P wi g tt te) (hg : Gl X "sum") (hm : X.mg "sum" = none) (hb : bootBuiltins "sum" = some (.builtin "sum") := by decide +kernel) :
    PE X (.Call (.Name "sum" p) [.GeneratorExp elt [⟨tg, iter, ifs, 0⟩] scope gpos] [] pos) (tSum P wi g tt te (own.map (·.2))) := by
  have he : starEach [.GeneratorExp elt [⟨tg, iter, ifs, 0⟩] scope gpos] X.env = (false, eval (.GeneratorExp elt [⟨tg, iter, ifs, 0⟩] scope gpos) X.env) :: starEach [] X.env := by rfl
  refine ⟨fun pins s σ H Q I h => ?_⟩
  refine wpAny_Call_Name_kw (ld_blt I hg hm hb ?_)
  refine PyProof.Rows.callWith_builtin1 ?_ he (by rfl)
  rw [he]
  show wpAny _ _ (spliced ((false, eval (.GeneratorExp elt [⟨tg, iter, ifs, 0⟩] scope gpos) X.env) :: backTo pos (starEach [] X.env))) _ _ s
  refine Calls.spliced_cons (gen_eval G.hr G.TB G.hcode G.hN G.hc G.hi G.ok G.gk G.hg G.ht G.he G.hs I h fun J H2 a s5 hR ha hl hig hG => ?_)
  refine Calls.spliced_nil ?_
  obtain ⟨W, ⟨m0, w0⟩, turn⟩ := hR
  have hdep : X.A.depth < recursionLimit := by have := G.hr.dp; omega
  refine call_function_tree F.kind_sum F.plain_sum F.entry_sum (F.args_sum1 _) ?_
  unfold Builtin.«sum»
  simp only [List.length_cons, List.length_nil]
  rw [if_neg (by decide)]
  obtain ⟨gi', hig⟩ := hig
  refine wpAny_bind (wpAny_of_eq (show Builtin.Builtins.bindParams "sum" ["start"] 0 { } = pure [none] from rfl) ?_)
  refine wpAny_bind (wpAny_pyIter_gen hig ?_)
  refine wpAny_bind (wpAny_mkInt ?_)
  refine wpAny_bind (wpAny_pure ?_)
  simp only [List.forIn_cons, List.forIn_nil]
  refine wpAny_bind (wpAny_bind (wpAny_bind (wpAny_isInstance (T := "int") (b := false) (typeIs_int _ _ _) PySem.sub_int_str ?_)))
  simp only [Bool.false_eq_true, if_false]
  refine wpAny_pure (wpAny_bind (wpAny_bind (wpAny_isInstance (T := "int") (b := false) (typeIs_int _ _ _) PySem.sub_int_bytes ?_)))
  simp only [Bool.false_eq_true, if_false]
  refine wpAny_pure (wpAny_bind (wpAny_bind (wpAny_isInstance (T := "int") (b := false) (typeIs_int _ _ _) PySem.sub_int_bytearray ?_)))
  simp only [Bool.false_eq_true, if_false]
  refine wpAny_pure (wpAny_pure ?_)
  refine wpAny_bind (wpAny_newObj_type ?_)
  obtain ⟨X', fp, gi, go, e1, e2, hpn, hgo, hst, hback, hap, _⟩ := hG Int (TieS s5.heap.objs.size) (fun i y H Nx => ∃ j, y = .int j ∧ Nx (i + j) H) (fun i H => Q (.int i) H) W m0 0 X.A.in1.in1 turn w0 I.ok.frames (Room.in1' G.hr)
    (fun _ ps e p hp => by obtain ⟨t, c, rfl⟩ := e; rw [List.mem_singleton.mp hp]; exact Nat.le_refl _)
  obtain ⟨hA, hSf, hpS⟩ := hap s5.heap.objs.size (Nat.le_refl _)
  have hS := Heap.get?_push_size s5.heap (o := accO 0 s5.toks 0) rfl
  obtain ⟨I5, S5⟩ := hst [(s5.heap.objs.size, accO 0 s5.toks 0)] (s5.heap.push (accO 0 s5.toks 0)) (s5.toks + 1) ⟨_, _, rfl⟩ (fun b o e => Heap.get?_push_of_some _ e) (fun p hp => by
    rw [List.mem_singleton.mp hp]
    exact ⟨hS, fun v z => by cases z⟩)
  refine wpAny_pure ⟨plainId_quiet F.plain_sum_loop _, ?_⟩
  have L := sum_loop (X' := X') (R := fun r s' => match r with
      | .ok (.ret v) => EP X pins σ Q v s'
      | _ => False) (S := s5.heap.objs.size) (C := fun i y H Nx => ∃ j, y = .int j ∧ Nx (i + j) H) (fin := fun i H => Q (.int i) H) (A := X.A) (fp := fp) (go := go) (gi := gi) G.hr.hd hdep hgo hpn hA hSf hpS
    (fun i y H Nx h => h) (fun i pins' σ' H' s' t J hf => ⟨.int i, H', hback _ _ _ _ J, ⟨t, rfl⟩, hf⟩) _ 0 s5.toks 0 0 _ _ _ (.inl rfl) I5 S5
  rw [e1, e2] at L
  exact codeAny_mono L fun r s' z => by
    rcases r with e | (v | _ | _ | _) <;> first | exact z | exact z.elim
theorem Room.in1''' {k : Nat} {A : Around} (r : Room (k + 2) A) : Room (k + 1) A.in1.in1.in1.in1 :=
  ⟨r.hd, by have := r.dp; show A.depth + 3 * (k + 1) + 5 < _; omega, by have := r.un; show A.units + 1 + 1 + 1 + 1 + 16 * (k + 1) + 200 < _; omega⟩
/-- collect over the generator -/
theorem collect_gen {A : Around} {R : Result → Shared → Prop} {pins : List (Addr × Obj)} {σ : L2.St} {J : It} {H2 : Hp} {a : Addr} {s5 : Shared} {vs : List Nat} {fin : List V → Hp → Prop}
    (hG : GReady X pins σ k J g tt te vs H2 a s5) (hig : ∃ gi, s5.heap.IsGen a gi) (hfr : A.frames = some X.stack) (hroom : Room (k + 1) A.in1.in1) (hB : A.handled = none) (hd : A.depth < recursionLimit)
    (hW : ∃ W : Nat → Nat → List V → Hp → Prop, (∃ m, W 0 m [] H2) ∧ GTurns J g tt te (wipe σ vs) vs (fun ys y H Nx => ys.length < sizeLine ∧ Nx (ys ++ [y]) H) fin W)
    (hQ : ∀ acc c ys H' s', s'.heap.get? s5.heap.objs.size = some (lstObj acc c) → Vals ys acc.toList → Inv X pins σ H' s' → fin ys H' → R (.ok (.ret (.ref s5.heap.objs.size))) s') : codeAny (model X.prog X.w) A (.builtin "proto.collect" ⟨[.ref a], []⟩) R s5 := by
  obtain ⟨W, ⟨m0, w0⟩, turn⟩ := hW
  obtain ⟨gi', hig⟩ := hig
  obtain ⟨X', fp, gi, go, e1, e2, hpn, hgo, hst, hback, hap, halt⟩ := hG (List V) (TieL s5.heap.objs.size) (fun ys y H Nx => ys.length < sizeLine ∧ Nx (ys ++ [y]) H) fin W m0 [] A.in1.in1 turn w0 hfr hroom
    (fun _ ps e p hp => by obtain ⟨acc, c, _, rfl⟩ := e; rw [List.mem_singleton.mp hp]; exact Nat.le_refl _)
  obtain ⟨hA, hSf, hpS⟩ := hap s5.heap.objs.size (Nat.le_refl _)
  have hSI : s5.heap.objs.size ≠ a := Nat.ne_of_gt halt
  refine codeAny_builtin F.entry_proto_collect ?_
  rw [Around.under_plainId F.plain_proto_collect _]
  show wpAny _ A.in1 (newList [] >>= fun l => again (.builtin "list.__iadd__" ⟨[l, .ref a], []⟩)) _ _ s5
  refine wpAny_bind (wpAny_newObj_type ?_)
  refine wpAny_pure ⟨plainId_quiet F.plain_list_iadd _, codeAny_builtin F.entry_list_iadd ?_⟩
  rw [Around.under_plainId F.plain_list_iadd _]
  have gty : ∀ {h : Heap}, (∀ b o, s5.heap.get? b = some o → h.get? b = some o) → h.IsGen a gi' := fun {h} q => hig.keeps q
  have k1 : ∀ b o, s5.heap.get? b = some o → (s5.heap.push { cls := .type "list", data := .seq ([] : List Value).toArray }).get? b = some o := fun b o e => Heap.get?_push_of_some _ e
  show wpAny _ A.in1 (Builtin.List.listExtendWith (.ref s5.heap.objs.size) (.ref a) (.ref s5.heap.objs.size)) _ _ _
  unfold Builtin.List.listExtendWith
  refine wpAny_bind (wpAny_typeOf (Heap.IsGen.typeIs (s := { s5 with heap := _ }) (gty k1)) ?_)
  have h1 : Builtin.List.listSameRef (.ref s5.heap.objs.size) (.ref a) = false := by simp [Builtin.List.listSameRef, hSI]
  have h2 : (Value.type "generator" == Value.type "list") = false := by decide
  have h3 : (Value.type "generator" == Value.type "tuple") = false := by decide
  simp only [h1, h2, h3, Bool.or_false, Bool.false_eq_true, if_false]
  refine wpAny_bind (wpAny_pyIter_gen (s := { s5 with heap := _ }) (gty k1) ?_)
  refine wpAny_bind (wpAny_holding ?_)
  unfold Builtin.List.listLengthHint
  refine wpAny_bind (wpAny_specialOf (Heap.IsGen.typeIs (s := { s5 with heap := _ }) (gty k1)) F.gen_no_len ?_)
  show wpAny _ A.in1 (specialOf (Value.ref a) (Str.ofString "__length_hint__") >>= _) _ _ _
  refine wpAny_bind (wpAny_specialOf (Heap.IsGen.typeIs (s := { s5 with heap := _ }) (gty k1)) F.gen_no_hint ?_)
  refine wpAny_pure ?_
  show wpAny _ A.in1 (rule "list.extend.makes-room" >>= fun _ => Builtin.List.listTouch (.ref s5.heap.objs.size) >>= fun _ =>
    again (.builtin "list.extend.loop" ⟨[.ref s5.heap.objs.size, .ref a, .ref s5.heap.objs.size], []⟩)) _ _ _
  refine wpAny_bind (wpAny_rule ?_)
  have hS₁ : (s5.heap.push { cls := .type "list", data := .seq ([] : List Value).toArray }).get? s5.heap.objs.size = some { cls := .type "list", data := .seq ([] : List Value).toArray } := Heap.get?_push_size _ rfl
  refine wpAny_bind ?_
  show wpAny _ A.in1 (updateSeq s5.heap.objs.size (·.push .none) >>= fun _ => updateSeq s5.heap.objs.size (·.pop)) _ _ _
  refine wpAny_bind (wpAny_updateSeq hS₁ rfl ?_)
  have hS₂ := Heap.get?_update_self (Obj.mapSeq (·.push Value.none)) hS₁ rfl
  refine wpAny_updateSeq (hz := by seq_fits) hS₂ rfl ?_
  have hS₃ := Heap.get?_update_self (Obj.mapSeq (·.pop)) hS₂ rfl
  have up : ∀ (h : Heap) (f : Obj → Obj), (∀ b o, s5.heap.get? b = some o → h.get? b = some o) → ∀ b o, s5.heap.get? b = some o → (h.update s5.heap.objs.size f).get? b = some o := fun h f q b o e =>
    (Heap.get?_update_other _ _ (Ne.symm (Nat.ne_of_lt (Heap.lt_size e)))).trans (q b o e)
  have k3 := up _ (Obj.mapSeq (·.pop)) (up _ (Obj.mapSeq (·.push Value.none)) k1)
  obtain ⟨I5, S5⟩ := hst [(s5.heap.objs.size, lstObj #[] _)] _ s5.toks ⟨_, _, .nil, rfl⟩ k3 (fun p hp => by
    rw [List.mem_singleton.mp hp]
    exact ⟨hS₃, fun v z => by cases z⟩)
  refine wpAny_pure ⟨plainId_quiet F.plain_extend_loop _, ?_⟩
  have L := ext_loop (X' := X') (R := fun r s' => ∃ acc c ys H', r = .ok (.ret (.ref s5.heap.objs.size)) ∧ s'.heap.get? s5.heap.objs.size = some (lstObj acc c) ∧ Vals ys acc.toList ∧ Inv X pins σ H' s' ∧ fin ys H')
      (res := .ref s5.heap.objs.size) (S := s5.heap.objs.size) (C := fun ys y H Nx => ys.length < sizeLine ∧ Nx (ys ++ [y]) H) (fin := fin) (A := A) (fp := fp) (go := go) (gi := gi) hB hd hgo hpn hA hSf hpS
    (fun i y H Nx h => h) (fun ys acc c σ' H' s' hv J hf => ⟨acc, c, ys, H', rfl, (J.pin (s5.heap.objs.size, lstObj acc c) (List.mem_append_right _ (List.mem_singleton.mpr rfl))).1, hv, hback _ _ _ _ J, hf⟩) _ [] #[] _ _ _ _ .nil I5 S5
  rw [e1, e2] at L
  refine codeAny_mono L fun r s' z => ?_
  obtain ⟨acc, c, ys, H', rfl, hS', hv, J, hf⟩ := z
  exact hQ acc c ys H' s' hS' hv J hf
theorem pe_tupG (G : GParts X k elt tg iter ifs scope own c P wi g tt te) (hg : Gl X "tuple") (hm : X.mg "tuple" = none) (hv : bootBuiltins "tuple" = some (.type "tuple") := by decide +kernel) :
    PE X (.Call (.Name "tuple" p) [.GeneratorExp elt [⟨tg, iter, ifs, 0⟩] scope gpos] [] pos) (tTupG P wi g tt te (own.map (·.2))) := by
  have he : starEach [.GeneratorExp elt [⟨tg, iter, ifs, 0⟩] scope gpos] X.env = (false, eval (.GeneratorExp elt [⟨tg, iter, ifs, 0⟩] scope gpos) X.env) :: starEach [] X.env := by rfl
  refine ⟨fun pins s σ H Q I h => ?_⟩
  refine wpAny_Call_Name_kw (ld_blt I hg hm hv ?_)
  refine PyProof.Rows.callWith_type1 ?_ he rfl
  rw [he]
  show wpAny _ _ (spliced ((false, eval (.GeneratorExp elt [⟨tg, iter, ifs, 0⟩] scope gpos) X.env) :: backTo pos (starEach [] X.env))) _ _ s
  refine Calls.spliced_cons (gen_eval G.hr G.TB G.hcode G.hN G.hc G.hi G.ok G.gk G.hg G.ht G.he G.hs I h fun J H2 a s5 hR ha hl hig hG => ?_)
  refine Calls.spliced_nil ?_
  have hdep : X.A.depth < recursionLimit := by have := G.hr.dp; omega
  have hTI : s5.TypeIs (.ref a) "generator" := by
    obtain ⟨gi, hig⟩ := hig
    exact Heap.IsGen.typeIs hig
  refine callType_codes (Q₁ := fun obj s₁ => s₁.TypeIs obj "tuple" ∧ EP X pins σ Q obj s₁) F.called_tuple (F.typeCall_tuple_1 _) F.entry_object_init ?_ fun obj s₁ h₁ => ?_
  · refine codeAny_of_tree ?_
    show wpAny _ X.A.in1.in1 (do checkBuiltinCall "tuple.__new__" ⟨[.type "tuple", .ref a], []⟩; again (.builtin "tuple.__new__" ⟨[.type "tuple", .ref a], []⟩)) _ _ s5
    refine wpAny_bind (wpAny_of_eq (F.newCall_tuple_1 _) (wpAny_pure ⟨plainId_quiet F.plain_tuple_new _, codeAny_builtin F.entry_tuple_new ?_⟩))
    rw [Around.under_plainId F.plain_tuple_new _]
    have hsub := sub_tuple_self
    have hinit := init_tuple_lookup
    have hmh := madeHere_tuple
    wp_walk using wpAny_typeOf hTI
    refine collect_gen hG hig I.ok.frames (Room.in1''' G.hr) G.hr.hd hdep hR (fun acc c ys H' s' hS' hv J hf => ?_)
    show wpAny _ _ (load s5.heap.objs.size >>= _) _ _ s'
    refine wpAny_bind (wpAny_load hS' (wpAny_pure ?_))
    obtain ⟨hz, hq⟩ := hf
    show wpAny _ _ (Builtin.Tuple.tupleExact acc.toList.toArray >>= fun v => ret v) _ _ _
    unfold Builtin.Tuple.tupleExact
    have hacc : acc.size ≤ sizeLine := by
      have e1 := hv.length
      have e2 : acc.toList.length = acc.size := by simp
      omega
    refine wpAny_bind (wpAny_newObj_type ?_ (by show acc.toList.toArray.size ≤ sizeLine; simp only [Array.toArray_toList]; exact hacc))
    refine wpAny_pure ?_
    have e : acc.toList.toArray = acc := by simp
    rw [e]
    have hn : H' s'.heap.objs.size = none := J.hok.fresh (Nat.le_refl _)
    have ob : ObjOk X.prog X.w (upd H' s'.heap.objs.size (.tup ys)) (s'.heap.push { cls := .type "tuple", data := .seq acc }) s'.heap.objs.size (.tup ys) := ⟨hz, acc.toList, hv, ⟨_, Heap.get?_push_size _ rfl, rfl, 0, rfl⟩⟩
    exact ⟨⟨_, Heap.get?_push_size _ rfl, rfl⟩, .ref s'.heap.objs.size, _, J.laid (t' := s'.toks) (fun b o e => Heap.get?_push_of_some _ e) (Nat.le_refl _) ob, rfl, hq _ hn⟩
  · exact ⟨h₁.1, F.args_object_init_2 obj _, object_init_meets F.called_tuple.init.lookup F.called_tuple.made (by decide) X.prog X.w X.A.in1 _ s₁ ⟨h₁.1, rfl, h₁.2⟩⟩
end
end GX
set_option maxRecDepth 100000
set_option maxHeartbeats 2000000
/-! SemA: plain data over the layer's heap: what represents what, the states, the judgements. -/
namespace DD
open PySem PySem.Spec PyProof.Rows L2
abbrev D := PyData
/-- an error that a def lets out -/
inductive Exn where
  | bad (name : Str)
  | unread (off : Int) (why : Str)
/-- the key of a dict as data -/
def keyD : Key → D
  | .inl i => .int i
  | .inr x => .str x
/-! ### representation -/
mutual
/-- v, in the heap, is the data; N: the addresses that may be held by many -/
def RepV (K : PySem.W.Frag) (N : Addr → Prop) (H : Hp) : V → D → Prop
  | v, .none => v = .non
  | v, .bool b => v = .bl b
  | v, .int i => v = .int i
  | v, .str s => v = .str s
  | v, .list ds => ∃ a vs, v = .ref a ∧ N a ∧ H a = some (.lst vs) ∧ RepAll K N H vs ds
  | v, .tuple ds => ∃ a vs, v = .ref a ∧ SqT K H a vs ∧ RepAll K N H vs ds
  | v, .dict kvs => ∃ a, v = .ref a ∧ N a ∧ ∃ vs, RepKV K N H vs kvs ∧
      ((∃ ks : List Key, H a = some (.dK (ks.zip vs)) ∧ ks.length = vs.length ∧ kvs.map (·.1) = ks.map keyD) ∨
       (∃ ks : List (List Key), H a = some (.dT (ks.zip vs)) ∧ ks.length = vs.length ∧ kvs.map (·.1) = ks.map fun l => .tuple (l.map keyD)))
def RepAll (K : PySem.W.Frag) (N : Addr → Prop) (H : Hp) : List V → List D → Prop
  | [], [] => True
  | v :: vs, d :: ds => RepV K N H v d ∧ RepAll K N H vs ds
  | _, _ => False
def RepKV (K : PySem.W.Frag) (N : Addr → Prop) (H : Hp) : List V → List (D × D) → Prop
  | [], [] => True
  | v :: vs, (_, d) :: r => RepV K N H v d ∧ RepKV K N H vs r
  | _, _ => False
end
/-- the object at a is the data (a list, a dict), whoever holds it -/
def RepO (K : PySem.W.Frag) (N : Addr → Prop) (H : Hp) (a : Addr) : D → Prop
  | .list ds => ∃ vs, H a = some (.lst vs) ∧ RepAll K N H vs ds
  | .dict kvs => ∃ vs, RepKV K N H vs kvs ∧
      ((∃ ks : List Key, H a = some (.dK (ks.zip vs)) ∧ ks.length = vs.length ∧ kvs.map (·.1) = ks.map keyD) ∨
       (∃ ks : List (List Key), H a = some (.dT (ks.zip vs)) ∧ ks.length = vs.length ∧ kvs.map (·.1) = ks.map fun l => .tuple (l.map keyD)))
  | _ => False
section
variable {K : PySem.W.Frag} {N N' : Addr → Prop} {H H' : Hp}
theorem RepO.v {a : Addr} {d : D} (h : RepO K N H a d) (n : N a) : RepV K N H (.ref a) d := by
  cases d with
  | list ds => obtain ⟨vs, h1, h2⟩ := h; rw [RepV]; exact ⟨a, vs, rfl, n, h1, h2⟩
  | dict kvs => obtain ⟨vs, h1, h2⟩ := h; rw [RepV]; exact ⟨a, rfl, n, vs, h1, h2⟩
  | _ => exact h.elim
theorem rep_int {i : Int} : RepV K N H (.int i) (.int i) := by rw [RepV]
theorem rep_bool {i : Bool} : RepV K N H (.bl i) (.bool i) := by rw [RepV]
theorem rep_str {i : Str} : RepV K N H (.str i) (.str i) := by rw [RepV]
theorem rep_none : RepV K N H .non .none := by rw [RepV]
theorem rep_tuple {a : Addr} {vs : List V} {ds : List D} (h : SqT K H a vs) (r : RepAll K N H vs ds) : RepV K N H (.ref a) (.tuple ds) := by rw [RepV]; exact ⟨a, vs, rfl, h, r⟩
theorem rep_list {a : Addr} {vs : List V} {ds : List D} (n : N a) (h : H a = some (.lst vs)) (r : RepAll K N H vs ds) : RepV K N H (.ref a) (.list ds) := by rw [RepV]; exact ⟨a, vs, rfl, n, h, r⟩
theorem rall_nil : RepAll K N H [] [] := by rw [RepAll]; trivial
theorem rall_cons {v : V} {vs : List V} {d : D} {ds : List D} (h : RepV K N H v d) (t : RepAll K N H vs ds) : RepAll K N H (v :: vs) (d :: ds) := by rw [RepAll]; exact ⟨h, t⟩
theorem RepAll.length : ∀ {vs : List V} {ds : List D}, RepAll K N H vs ds → vs.length = ds.length
  | [], [], _ => rfl
  | v :: vs, d :: ds, h => by
    rw [RepAll] at h
    rw [List.length_cons, List.length_cons, RepAll.length h.2]
  | [], _ :: _, h => by simp [RepAll] at h
  | _ :: _, [], h => by simp [RepAll] at h
theorem RepAll.get : ∀ {vs : List V} {ds : List D} {i : Nat} {d : D}, RepAll K N H vs ds → ds[i]? = some d → ∃ v, vs[i]? = some v ∧ RepV K N H v d
  | [], [], _, _, _, e => by simp at e
  | v :: vs, d :: ds, 0, x, h, e => by
    rw [RepAll] at h
    simp at e
    subst e
    exact ⟨v, rfl, h.1⟩
  | v :: vs, d :: ds, i + 1, x, h, e => by
    rw [RepAll] at h
    obtain ⟨w, h1, h2⟩ := RepAll.get (i := i) (d := x) h.2 (by simpa using e)
    exact ⟨w, by simpa using h1, h2⟩
  | [], _ :: _, _, _, h, _ => by simp [RepAll] at h
  | _ :: _, [], _, _, h, _ => by simp [RepAll] at h
theorem RepAll.get' {vs : List V} {ds : List D} {i : Nat} {v : V} (h : RepAll K N H vs ds) (e : vs[i]? = some v) : ∃ d, ds[i]? = some d ∧ RepV K N H v d := by
  have hl := h.length
  have hi : i < ds.length := by
    have := (List.getElem?_eq_some_iff.mp e).1
    omega
  obtain ⟨w, h1, h2⟩ := h.get (List.getElem?_eq_getElem hi)
  rw [e] at h1
  cases h1
  exact ⟨_, List.getElem?_eq_getElem hi, h2⟩
theorem RepAll.append : ∀ {vs ws : List V} {ds es : List D}, RepAll K N H vs ds → RepAll K N H ws es → RepAll K N H (vs ++ ws) (ds ++ es)
  | [], _, [], _, _, h => h
  | v :: vs, _, d :: ds, _, h, g => by
    rw [RepAll] at h
    exact rall_cons h.1 (RepAll.append h.2 g)
  | [], _, _ :: _, _, h, _ => by simp [RepAll] at h
  | _ :: _, _, [], _, h, _ => by simp [RepAll] at h
theorem RepAll.set : ∀ {vs : List V} {ds : List D} {v : V} {d : D} (i : Nat), RepAll K N H vs ds → RepV K N H v d → RepAll K N H (vs.set i v) (ds.set i d)
  | [], [], _, _, _, h, _ => h
  | w :: vs, e :: ds, v, d, 0, h, r => by
    rw [RepAll] at h
    exact rall_cons r h.2
  | w :: vs, e :: ds, v, d, i + 1, h, r => by
    rw [RepAll] at h
    exact rall_cons h.1 (RepAll.set i h.2 r)
  | [], _ :: _, _, _, _, h, _ => by simp [RepAll] at h
  | _ :: _, [], _, _, _, h, _ => by simp [RepAll] at h
theorem RepAll.take : ∀ {vs : List V} {ds : List D} (n : Nat), RepAll K N H vs ds → RepAll K N H (vs.take n) (ds.take n)
  | _, _, 0, _ => rall_nil
  | [], [], n + 1, h => by simpa using h
  | v :: vs, d :: ds, n + 1, h => by
    rw [RepAll] at h
    exact rall_cons h.1 (RepAll.take n h.2)
  | [], _ :: _, _, h => by simp [RepAll] at h
  | _ :: _, [], _, h => by simp [RepAll] at h
theorem RepAll.drop : ∀ {vs : List V} {ds : List D} (n : Nat), RepAll K N H vs ds → RepAll K N H (vs.drop n) (ds.drop n)
  | _, _, 0, h => h
  | [], [], n + 1, h => by simpa using h
  | v :: vs, d :: ds, n + 1, h => by
    rw [RepAll] at h
    exact RepAll.drop n h.2
  | [], _ :: _, _, h => by simp [RepAll] at h
  | _ :: _, [], _, h => by simp [RepAll] at h
theorem RepAll.reverse : ∀ {vs : List V} {ds : List D}, RepAll K N H vs ds → RepAll K N H vs.reverse ds.reverse
  | [], [], h => h
  | v :: vs, d :: ds, h => by
    rw [RepAll] at h
    rw [List.reverse_cons, List.reverse_cons]
    exact (RepAll.reverse h.2).append (rall_cons h.1 rall_nil)
  | [], _ :: _, h => by simp [RepAll] at h
  | _ :: _, [], h => by simp [RepAll] at h
theorem RepAll.rep {v : V} {d : D} (h : RepV K N H v d) (n : Nat) : RepAll K N H (List.replicate n v) (List.replicate n d) := by
  induction n with
  | zero => exact rall_nil
  | succ n ih => exact rall_cons h ih
theorem RepAll.ints : ∀ ns : List Int, RepAll K N H (ns.map V.int) (ns.map PyData.int)
  | [] => rall_nil
  | n :: r => rall_cons rep_int (RepAll.ints r)
/-- what data leans on stays: lists and dicts that may be held by many, tuples -/
structure Keeps2 (N N' : Addr → Prop) (H H' : Hp) : Prop where
  n : ∀ a, N a → H a ≠ none → N' a
  ob : ∀ a o, N a → H a = some o → (∀ ps, o ≠ .tbl ps) → H' a = some o
  tp : ∀ a xs, H a = some (.tup xs) → H' a = some (.tup xs)
  fz : ∀ a o xs, H a = some (.frz o (.tup xs)) → H' a = some (.frz o (.tup xs))
theorem Keeps2.sqt {K : PySem.W.Frag} (k : Keeps2 N N' H H') {a : Addr} {xs : List V} (h : SqT K H a xs) : SqT K H' a xs := by
  rcases h with (h | ⟨o, h⟩) | h
  · exact .inl (.inl (k.tp a xs h))
  · exact .inl (.inr ⟨o, k.fz a o xs h⟩)
  · exact .inr h
mutual
theorem RepV.keep (k : Keeps2 N N' H H') : ∀ (d : D) (v : V), RepV K N H v d → RepV K N' H' v d
  | .none, _, h => by rw [RepV] at h ⊢; exact h
  | .bool b, _, h => by rw [RepV] at h ⊢; exact h
  | .int i, _, h => by rw [RepV] at h ⊢; exact h
  | .str s, _, h => by rw [RepV] at h ⊢; exact h
  | .list ds, v, h => by
    rw [RepV] at h ⊢
    obtain ⟨a, vs, e, n, h1, h2⟩ := h
    exact ⟨a, vs, e, k.n a n (by rw [h1]; simp), k.ob a _ n h1 (fun ps z => by cases z), RepAll.keep k ds vs h2⟩
  | .tuple ds, v, h => by
    rw [RepV] at h ⊢
    obtain ⟨a, vs, e, h1, h2⟩ := h
    exact ⟨a, vs, e, k.sqt h1, RepAll.keep k ds vs h2⟩
  | .dict kvs, v, h => by
    rw [RepV] at h ⊢
    obtain ⟨a, e, n, vs, h2, h3⟩ := h
    have hne : H a ≠ Option.none := by rcases h3 with ⟨ks, h3, _⟩ | ⟨ks, h3, _⟩ <;> (rw [h3]; simp)
    refine ⟨a, e, k.n a n hne, vs, RepKV.keep k kvs vs h2, ?_⟩
    rcases h3 with ⟨ks, h3, r⟩ | ⟨ks, h3, r⟩
    · exact .inl ⟨ks, k.ob a _ n h3 (fun ps z => by cases z), r⟩
    · exact .inr ⟨ks, k.ob a _ n h3 (fun ps z => by cases z), r⟩
theorem RepAll.keep (k : Keeps2 N N' H H') : ∀ (ds : List D) (vs : List V), RepAll K N H vs ds → RepAll K N' H' vs ds
  | [], [], _ => rall_nil
  | d :: ds, v :: vs, h => by
    rw [RepAll] at h
    exact rall_cons (RepV.keep k d v h.1) (RepAll.keep k ds vs h.2)
  | [], _ :: _, h => by simp [RepAll] at h
  | _ :: _, [], h => by simp [RepAll] at h
theorem RepKV.keep (k : Keeps2 N N' H H') : ∀ (ds : List (D × D)) (vs : List V), RepKV K N H vs ds → RepKV K N' H' vs ds
  | [], [], _ => by rw [RepKV]; trivial
  | (_, d) :: ds, v :: vs, h => by
    rw [RepKV] at h ⊢
    exact ⟨RepV.keep k d v h.1, RepKV.keep k ds vs h.2⟩
  | [], _ :: _, h => by simp [RepKV] at h
  | _ :: _, [], h => by simp [RepKV] at h
end
theorem RepO.keep (k : Keeps2 N N' H H') {a : Addr} {d : D} (ha : H' a = H a) (h : RepO K N H a d) : RepO K N' H' a d := by
  cases d with
  | list ds => obtain ⟨vs, h1, h2⟩ := h; exact ⟨vs, by rw [ha]; exact h1, RepAll.keep k ds vs h2⟩
  | dict kvs =>
    obtain ⟨vs, h1, h2⟩ := h
    refine ⟨vs, RepKV.keep k kvs vs h1, ?_⟩
    rw [ha]
    exact h2
  | _ => exact h.elim
end
/-! ### the parameters, the world's facts -/
/-- T, G: the tables of code objects of defs with lambdas, with generator expressions; r: the drawing row, scr: the script, ns: its numbers; cBad, cUnr: the error classes; N: what a caller lets be held by many; H0: the heap at the entry; E: the wish of an error -/
structure Par where
  K : PySem.W.Frag
  w : World
  T : List (Addr × Str)
  G : List Addr
  r : Addr
  scr : Addr
  ns : List Int
  cBad : Addr
  cUnr : Addr
  N : Addr → Prop
  H0 : Hp
  E : XK
def RowI (_ns : List Int) (i s c : Int) : Prop := 0 ≤ i ∧ 0 ≤ s ∧ s < 2147483647 ∧ 0 ≤ c
def RowAt (K : PySem.W.Frag) (scr : Addr) (ns : List Int) (H : Hp) (r : Addr) : Prop :=
  (∃ i s c : Int, H r = some (.lst [.ref scr, .int i, .int s, .int c]) ∧ RowI ns i s c) ∧ SqL K H scr (ns.map V.int)
structure Wd (p : Par) (H : Hp) : Prop where
  dj : ∀ P ∈ p.G, ∀ q ∈ p.T, q.1 ≠ P
  g : ∀ P ∈ p.G, GxR.TabG H P
  t : LamX.Tabs p.T H
  row : RowAt p.K p.scr p.ns H p.r
/-- the script stands in the written part -/
def KScr (p : Par) : Prop := ∃ (o : Obj) (its : Array Value) (n : Nat), p.K.lookup p.scr = some o ∧ o.cls = .type "list" ∧ o.dict = none ∧ o.data = .seq its n ∧ its.size ≤ sizeLine ∧ Vals (p.ns.map V.int) its.toList
structure Ext (p : Par) (H H' : Hp) : Prop where
  ob : ∀ b o, H b = some o → (∀ ps, o ≠ .tbl ps) → b ≠ p.r → H' b = some o
  dom : ∀ b, H b ≠ none → H' b ≠ none
  wd : Wd p H'
theorem Ext.refl {p : Par} {H : Hp} (h : Wd p H) : Ext p H H := ⟨fun _ _ e _ _ => e, fun _ e => e, h⟩
theorem Ext.trans {p : Par} {H H1 H2 : Hp} (a : Ext p H H1) (b : Ext p H1 H2) : Ext p H H2 := ⟨fun c o e n m => b.ob c o (a.ob c o e n m) n m, fun c e => b.dom c (a.dom c e), b.wd⟩
/-- the same with another entry, another wish -/
theorem Ext.par {p q : Par} {H H' : Hp} (h : Ext p H H') (e1 : p.K = q.K) (e2 : p.T = q.T) (e3 : p.G = q.G) (e4 : p.r = q.r) (e5 : p.scr = q.scr) (e6 : p.ns = q.ns) : Ext q H H' := by
  obtain ⟨h1, h2, ⟨w0, w1, w2, w3⟩⟩ := h
  exact ⟨fun b o e n m => h1 b o e n (by rw [e4]; exact m), h2, ⟨by rw [← e3, ← e2]; exact w0, by rw [← e3]; exact w1, by rw [← e2]; exact w2, by rw [← e1, ← e5, ← e6, ← e4]; exact w3⟩⟩
theorem Wd.r_some {p : Par} {H : Hp} (h : Wd p H) : ∃ xs, H p.r = some (.lst xs) := let ⟨⟨_, _, _, e, _⟩, _⟩ := h.row; ⟨_, e⟩
/-- what may be written anew: nothing, a list, a dict -/
def Soft : Option HO → Prop
  | none => True
  | some (.lst _) => True
  | some (.dK _) => True
  | some (.dT _) => True
  | _ => False
theorem Wd.upd {p : Par} {H : Hp} {a : Addr} {o : HO} (h : Wd p H) (ha : Soft (H a)) (nr : a ≠ p.r) (sc : H a = none ∨ a ≠ p.scr ∨ KScr p) : Wd p (upd H a o) := by
  have nt : ∀ {P : Addr} {ps : Array Value}, H P = some (.tbl ps) → P ≠ a := fun {P ps} e z => by rw [z] at e; rw [e] at ha; exact ha
  have nx : ∀ {P : Addr} {φ : Heap → Prop}, H P = some (.ext φ) → P ≠ a := fun {P ps} e z => by rw [z] at e; rw [e] at ha; exact ha
  refine ⟨h.dj, fun P hP => ?_, fun P hP => ?_, ?_⟩
  · obtain ⟨ps, e, q⟩ := h.g P hP
    exact ⟨ps, by rw [upd_ne (nt e)]; exact e, q⟩
  · obtain ⟨ps, e, q, q2⟩ := h.t P hP
    refine ⟨ps, by rw [upd_ne (nt e)]; exact e, q, fun pos cv hc => ?_⟩
    obtain ⟨c, e1, e2⟩ := q2 pos cv hc
    exact ⟨c, e1, by rw [upd_ne (nx e2)]; exact e2⟩
  · obtain ⟨⟨i, s, c, e, q⟩, hs⟩ := h.row
    refine ⟨⟨i, s, c, by rw [upd_ne (Ne.symm nr)]; exact e, q⟩, ?_⟩
    rcases hs with hs | hs
    · have keep : p.scr ≠ a → SqL p.K (L2.upd H a o) p.scr (p.ns.map V.int) := fun z => by
        rcases hs with hs | ⟨ob, hs⟩
        · exact .inl (.inl (by rw [upd_ne z]; exact hs))
        · exact .inl (.inr ⟨ob, by rw [upd_ne z]; exact hs⟩)
      rcases sc with sc | sc | sc
      · refine keep fun z => ?_
        rw [← z] at sc
        rcases hs with hs | ⟨ob, hs⟩ <;> (rw [sc] at hs; cases hs)
      · exact keep fun z => sc z.symm
      · exact .inr sc
    · exact .inr hs
theorem Ext.new {p : Par} {H : Hp} {a : Addr} {o : HO} (h : Wd p H) (ha : H a = none) : Ext p H (upd H a o) := by
  have nr : a ≠ p.r := fun z => by
    obtain ⟨xs, e⟩ := h.r_some
    rw [← z, ha] at e; cases e
  refine ⟨fun b ob e _ _ => by rw [upd_ne (ne_of_none e ha)]; exact e, fun b e => ?_, h.upd (by rw [ha]; trivial) nr (.inl ha)⟩
  by_cases z : b = a
  · rw [z]; unfold L2.upd; rw [if_pos rfl]; simp
  · rw [upd_ne z]; exact e
/-! ### states -/
/-- what a slot holds: data, a list or a dict of its own, the drawing row -/
inductive W where
  | d (x : D)
  | own (x : D)
  | row
abbrev Env' := List (Option W)
/-- the slots' own objects; values that are kept in hand (what a loop walks over) -/
structure Own where
  fn : Nat → Option Addr
  ks : List (V × D)
instance : CoeFun Own (fun _ => Nat → Option Addr) := ⟨Own.fn⟩
/-- the addresses that may be held by many -/
def NN (p : Par) (O : Own) (a : Addr) : Prop := (p.N a ∨ p.H0 a = none) ∧ a ≠ p.r ∧ ∀ i, O i ≠ some a
def SlotOk (p : Par) (O : Own) (H : Hp) (i : Nat) (sv : Option (Option V)) : W → Prop
  | .d x => ∃ v, sv = some (some v) ∧ RepV p.K (NN p O) H v x
  | .own x => ∃ a, O i = some a ∧ sv = some (some (.ref a)) ∧ RepO p.K (NN p O) H a x
  | .row => sv = some (some (.ref p.r))
structure Rel (p : Par) (O : Own) (ρ : Env') (σ : L2.St) (H : Hp) : Prop where
  wd : Wd p H
  ext : Ext p p.H0 H
  len : σ.length = ρ.length
  slot : ∀ i w, ρ[i]? = some (some w) → SlotOk p O H i σ[i]? w
  inj : ∀ i j a, O i = some a → O j = some a → i = j
  keep : ∀ x ∈ O.ks, RepV p.K (NN p O) H x.1 x.2
  own : ∀ i a, O i = some a → p.H0 a = none ∧ a ≠ p.r ∧ (a ≠ p.scr ∨ KScr p) ∧ H a ≠ none ∧ Soft (H a)
theorem Keeps2.of_ext {p : Par} {H H' : Hp} {N N' : Addr → Prop} (e : Ext p H H') (hw : Wd p H) (hn : ∀ a, N a → a ≠ p.r) (h : ∀ a, N a → H a ≠ none → N' a) : Keeps2 N N' H H' := by
  obtain ⟨xs, hr⟩ := hw.r_some
  refine ⟨h, fun a o n ho nt => e.ob a o ho nt (hn a n), fun a ys ho => e.ob a _ ho (fun _ z => by cases z) (fun z => ?_), fun a o ys ho => e.ob a _ ho (fun _ z => by cases z) (fun z => ?_)⟩
  · rw [z, hr] at ho; cases ho
  · rw [z, hr] at ho; cases ho
theorem RepV.ext {p : Par} {H H' : Hp} {O : Own} {v : V} {d : D} (e : Ext p H H') (hw : Wd p H) (h : RepV p.K (NN p O) H v d) : RepV p.K (NN p O) H' v d :=
  RepV.keep (Keeps2.of_ext e hw (fun _ n => n.2.1) fun _ n _ => n) d v h
theorem RepAll.ext {p : Par} {H H' : Hp} {O : Own} {v : List V} {d : List D} (e : Ext p H H') (hw : Wd p H) (h : RepAll p.K (NN p O) H v d) : RepAll p.K (NN p O) H' v d :=
  RepAll.keep (Keeps2.of_ext e hw (fun _ n => n.2.1) fun _ n _ => n) d v h
theorem Rel.ext' {p : Par} {O : Own} {ρ : Env'} {σ : L2.St} {H H' : Hp} (R : Rel p O ρ σ H) (e : Ext p H H') : Rel p O ρ σ H' := by
  have oh : ∀ i a, O i = some a → H' a = H a := fun i a hi => by
    obtain ⟨_, nr, _, ne, sf⟩ := R.own i a hi
    cases q : H a with
    | none => exact absurd q ne
    | some o =>
      refine e.ob a o q (fun ps z => ?_) nr
      rw [q, z] at sf; exact sf
  refine ⟨e.wd, R.ext.trans e, R.len, fun i w hw => ?_, R.inj, fun i w => ?_, fun i a hi => ?_⟩
  · have h := R.slot i w hw
    cases w with
    | d x => obtain ⟨v, e1, e2⟩ := h; exact ⟨v, e1, e2.ext e R.wd⟩
    | own x =>
      obtain ⟨a, e1, e2, e3⟩ := h
      exact ⟨a, e1, e2, RepO.keep (Keeps2.of_ext e R.wd (fun _ n => n.2.1) fun _ n _ => n) (oh i a e1) e3⟩
    | row => exact h
  · exact (R.keep i w).ext e R.wd
  · obtain ⟨h1, h2, h3, h4, h5⟩ := R.own i a hi
    rw [oh i a hi]
    exact ⟨h1, h2, h3, h4, h5⟩
def clr (O : Own) (i : Nat) : Own := ⟨fun j => if j = i then none else O j, O.ks⟩
def put (O : Own) (i : Nat) (a : Addr) : Own := ⟨fun j => if j = i then some a else O j, O.ks⟩
theorem NN.clr {p : Par} {O : Own} {i : Nat} {a : Addr} (h : NN p O a) : NN p (clr O i) a := ⟨h.1, h.2.1, fun j z => by
  unfold DD.clr at z
  dsimp only at z
  split at z
  · cases z
  · exact h.2.2 j z⟩
theorem keeps_clr {p : Par} {O : Own} {H : Hp} (i : Nat) : Keeps2 (NN p O) (NN p (clr O i)) H H := ⟨fun _ n _ => n.clr, fun _ _ _ e _ => e, fun _ _ e => e, fun _ _ _ e => e⟩
/-- a slot takes data -/
theorem Rel.set_d {p : Par} {O : Own} {ρ : Env'} {σ : L2.St} {H : Hp} {i : Nat} {v : V} {d : D} (R : Rel p O ρ σ H) (r : RepV p.K (NN p O) H v d) : Rel p (clr O i) (ρ.set i (some (.d d))) (σ.set i (some v)) H := by
  refine ⟨R.wd, R.ext, by rw [List.length_set, List.length_set]; exact R.len, fun j w hw => ?_, fun j k a hj hk => ?_, fun x hx => RepV.keep (keeps_clr i) x.2 x.1 (R.keep x hx), fun j a hj => ?_⟩
  · rw [List.getElem?_set] at hw ⊢
    by_cases z : i = j
    · subst z
      rw [if_pos rfl] at hw ⊢
      split at hw
      · rename_i hlt
        cases hw
        rw [if_pos (by rw [R.len]; exact hlt)]
        exact ⟨v, rfl, RepV.keep (keeps_clr i) d v r⟩
      · cases hw
    · rw [if_neg z] at hw ⊢
      have h := R.slot j w hw
      cases w with
      | d x => obtain ⟨v, e1, e2⟩ := h; exact ⟨v, e1, RepV.keep (keeps_clr i) x v e2⟩
      | own x =>
        obtain ⟨a, e1, e2, e3⟩ := h
        exact ⟨a, (if_neg (Ne.symm z)).trans e1, e2, RepO.keep (keeps_clr i) rfl e3⟩
      | row => exact h
  · unfold clr at hj hk
    dsimp only at hj hk
    split at hj
    · cases hj
    · split at hk
      · cases hk
      · exact R.inj j k a hj hk
  · unfold clr at hj
    dsimp only at hj
    split at hj
    · cases hj
    · exact R.own j a hj
/-- a slot takes a fresh list or dict of its own -/
theorem Rel.set_own {p : Par} {O : Own} {ρ : Env'} {σ : L2.St} {H H' : Hp} {i : Nat} {a : Addr} {d : D} (R : Rel p O ρ σ H) (e : Ext p H H') (ha : H a = none) (r : RepO p.K (fun b => NN p O b ∧ b ≠ a) H' a d) : Rel p (put O i a) (ρ.set i (some (.own d))) (σ.set i (some (.ref a))) H' := by
  have R' := R.ext' e
  have h0 : p.H0 a = none := by
    cases q : p.H0 a with
    | none => rfl
    | some o => exact absurd ha (R.ext.dom a (by rw [q]; simp))
  have nr : a ≠ p.r := fun z => by
    obtain ⟨xs, q⟩ := R.wd.r_some
    rw [← z, ha] at q; cases q
  have no : ∀ j, O j ≠ some a := fun j z => (R.own j a z).2.2.2.1 ha
  have scr : a ≠ p.scr ∨ KScr p := by
    rcases R.wd.row.2 with h | h
    · refine .inl fun z => ?_
      rw [z] at ha
      rcases h with h | ⟨ob, h⟩ <;> (rw [ha] at h; cases h)
    · exact .inr h
  have sf : H' a ≠ none ∧ Soft (H' a) := by
    cases d with
    | list ds => obtain ⟨vs, h1, _⟩ := r; rw [h1]; exact ⟨by simp, trivial⟩
    | dict kvs => obtain ⟨vs, _, h1⟩ := r; rcases h1 with ⟨ks, h1, _⟩ | ⟨ks, h1, _⟩ <;> (rw [h1]; exact ⟨by simp, trivial⟩)
    | _ => exact r.elim
  have kk : Keeps2 (fun b => NN p O b ∧ b ≠ a) (NN p (put O i a)) H' H' := ⟨fun b n _ => ⟨n.1.1, n.1.2.1, fun j z => by
    unfold put at z
    dsimp only at z
    split at z
    · cases z; exact n.2 rfl
    · exact n.1.2.2 j z⟩, fun _ _ _ e _ => e, fun _ _ e => e, fun _ _ _ e => e⟩
  have kold : Keeps2 (NN p O) (NN p (put O i a)) H H' := by
    refine Keeps2.of_ext e R.wd (fun _ n => n.2.1) fun b n hb => ⟨n.1, n.2.1, fun j z => ?_⟩
    unfold put at z
    dsimp only at z
    split at z
    · cases z; exact hb ha
    · exact n.2.2 j z
  refine ⟨R'.wd, R'.ext, by rw [List.length_set, List.length_set]; exact R.len, fun j w hw => ?_, fun j k b hj hk => ?_, fun x hx => RepV.keep kold x.2 x.1 (R.keep x hx), fun j b hj => ?_⟩
  · rw [List.getElem?_set] at hw ⊢
    by_cases z : i = j
    · subst z
      rw [if_pos rfl] at hw ⊢
      split at hw
      · rename_i hlt
        cases hw
        rw [if_pos (by rw [R.len]; exact hlt)]
        exact ⟨a, if_pos rfl, rfl, RepO.keep kk rfl r⟩
      · cases hw
    · rw [if_neg z] at hw ⊢
      have h := R.slot j w hw
      cases w with
      | d x => obtain ⟨v, e1, e2⟩ := h; exact ⟨v, e1, RepV.keep kold x v e2⟩
      | own x =>
        obtain ⟨b, e1, e2, e3⟩ := h
        have hb := R.own j b e1
        refine ⟨b, (if_neg (Ne.symm z)).trans e1, e2, RepO.keep kold ?_ e3⟩
        cases q : H b with
        | none => exact absurd q hb.2.2.2.1
        | some o => exact e.ob b o q (fun ps z => by have := hb.2.2.2.2; rw [q, z] at this; exact this) hb.2.1
      | row => exact h
  · unfold put at hj hk
    dsimp only at hj hk
    split at hj
    · rename_i q
      cases hj
      split at hk
      · rename_i q2; rw [q, q2]
      · exact absurd hk (no k)
    · split at hk
      · cases hk; exact absurd hj (no j)
      · exact R.inj j k b hj hk
  · unfold put at hj
    dsimp only at hj
    split at hj
    · cases hj; exact ⟨h0, nr, scr, sf.1, sf.2⟩
    · exact R'.own j b hj
/-- an own list or dict is written -/
theorem Rel.write {p : Par} {O : Own} {ρ : Env'} {σ : L2.St} {H : Hp} {i : Nat} {a : Addr} {d d' : D} {o : HO} (R : Rel p O ρ σ H) (hi : ρ[i]? = some (some (.own d))) (ha : O i = some a) (so : Soft (some o)) (r : RepO p.K (NN p O) (upd H a o) a d') : Rel p O (ρ.set i (some (.own d'))) σ (upd H a o) := by
  obtain ⟨h0, nr, hs, hne, sf⟩ := R.own i a ha
  have kk : Keeps2 (NN p O) (NN p O) H (upd H a o) := by
    refine ⟨fun _ n _ => n, fun b ob n e _ => ?_, fun b xs e => ?_, fun b ob xs e => ?_⟩
    · rw [upd_ne (fun z => n.2.2 i (by rw [z]; exact ha))]; exact e
    · rw [upd_ne (fun z => by rw [← z, e] at sf; exact sf)]; exact e
    · rw [upd_ne (fun z => by rw [← z, e] at sf; exact sf)]; exact e
  refine ⟨R.wd.upd sf nr (.inr hs), ⟨fun b ob e n m => ?_, fun b e => ?_, R.wd.upd sf nr (.inr hs)⟩, by rw [List.length_set]; exact R.len, fun j w hw => ?_, R.inj, fun x hx => RepV.keep kk x.2 x.1 (R.keep x hx), fun j b hj => ?_⟩
  · rw [upd_ne (fun z => by rw [z, h0] at e; cases e)]
    exact R.ext.ob b ob e n m
  · by_cases z : b = a
    · rw [z]; unfold L2.upd; rw [if_pos rfl]; simp
    · rw [upd_ne z]; exact R.ext.dom b e
  · rw [List.getElem?_set] at hw
    by_cases z : i = j
    · subst z
      rw [if_pos rfl] at hw
      split at hw
      · cases hw
        obtain ⟨a', e1, e2, _⟩ := R.slot i _ hi
        rw [ha] at e1
        cases e1
        exact ⟨a, ha, e2, r⟩
      · cases hw
    · rw [if_neg z] at hw
      have h := R.slot j w hw
      cases w with
      | d x => obtain ⟨v, e1, e2⟩ := h; exact ⟨v, e1, RepV.keep kk x v e2⟩
      | own x =>
        obtain ⟨b, e1, e2, e3⟩ := h
        refine ⟨b, e1, e2, RepO.keep kk (upd_ne fun q => z ?_) e3⟩
        rw [q] at e1
        exact R.inj i j a ha e1
      | row => exact h
  · obtain ⟨q1, q2, q3, q4, q5⟩ := R.own j b hj
    by_cases z : b = a
    · rw [z] at q1 q2 q3 ⊢
      exact ⟨q1, q2, q3, by unfold L2.upd; rw [if_pos rfl]; simp, by unfold L2.upd; rw [if_pos rfl]; exact so⟩
    · rw [upd_ne z]; exact ⟨q1, q2, q3, q4, q5⟩
/-- forgetting slots -/
theorem Rel.forget {p : Par} {O : Own} {ρ ρ' : Env'} {σ : L2.St} {H : Hp} (R : Rel p O ρ σ H) (hl : ρ'.length = ρ.length) (h : ∀ (i : Nat) (w : W), ρ'[i]? = some (some w) → ρ[i]? = some (some w)) : Rel p O ρ' σ H :=
  ⟨R.wd, R.ext, by rw [hl]; exact R.len, fun i w hw => R.slot i w (h i w hw), R.inj, R.keep, R.own⟩
/-- the same, whoever holds the outermost object -/
def RepB (p : Par) (O : Own) (H : Hp) (v : V) (d : D) : Prop := RepV p.K (NN p O) H v d ∨ ∃ a, v = .ref a ∧ a ≠ p.r ∧ RepO p.K (NN p O) H a d
section
variable {p : Par} {O : Own} {H : Hp}
theorem RepV.b {v : V} {d : D} (h : RepV p.K (NN p O) H v d) : RepB p O H v d := .inl h
theorem RepB.list {v : V} {ds : List D} (h : RepB p O H v (.list ds)) : ∃ a vs, v = .ref a ∧ a ≠ p.r ∧ H a = some (.lst vs) ∧ RepAll p.K (NN p O) H vs ds := by
  rcases h with h | ⟨a, rfl, na, vs, h1, h2⟩
  · rw [RepV] at h
    obtain ⟨a, vs, e, n, h1, h2⟩ := h
    exact ⟨a, vs, e, n.2.1, h1, h2⟩
  · exact ⟨a, vs, rfl, na, h1, h2⟩
theorem RepB.tuple {v : V} {ds : List D} (h : RepB p O H v (.tuple ds)) : ∃ a vs, v = .ref a ∧ SqT p.K H a vs ∧ RepAll p.K (NN p O) H vs ds := by
  rcases h with h | ⟨a, rfl, _, h⟩
  · rw [RepV] at h; exact h
  · exact h.elim
theorem RepB.int {v : V} {i : Int} (h : RepB p O H v (.int i)) : v = .int i := by
  rcases h with h | ⟨a, rfl, _, h⟩
  · rw [RepV] at h; exact h
  · exact h.elim
theorem RepB.bool {v : V} {i : Bool} (h : RepB p O H v (.bool i)) : v = .bl i := by
  rcases h with h | ⟨a, rfl, _, h⟩
  · rw [RepV] at h; exact h
  · exact h.elim
theorem RepB.str {v : V} {i : Str} (h : RepB p O H v (.str i)) : v = .str i := by
  rcases h with h | ⟨a, rfl, _, h⟩
  · rw [RepV] at h; exact h
  · exact h.elim
theorem RepB.none {v : V} (h : RepB p O H v .none) : v = .non := by
  rcases h with h | ⟨a, rfl, _, h⟩
  · rw [RepV] at h; exact h
  · exact h.elim
theorem RepB.dict {v : V} {kvs : List (D × D)} (h : RepB p O H v (.dict kvs)) : ∃ a, v = .ref a ∧ a ≠ p.r ∧ RepO p.K (NN p O) H a (.dict kvs) := by
  rcases h with h | ⟨a, rfl, na, h⟩
  · rw [RepV] at h
    obtain ⟨a, e, n, vs, h1, h2⟩ := h
    exact ⟨a, e, n.2.1, vs, h1, h2⟩
  · exact ⟨a, rfl, na, h⟩
end
theorem RepB.ext {q : Par} {H H' : Hp} {O : Own} {v : V} {d : D} (w : Wd q H) (e : Ext q H H') (h : RepB q O H v d) : RepB q O H' v d := by
  rcases h with h | ⟨a, rfl, na, h⟩
  · exact .inl (h.ext e w)
  · refine .inr ⟨a, rfl, na, RepO.keep (Keeps2.of_ext e w (fun _ n => n.2.1) fun _ n _ => n) ?_ h⟩
    cases d with
    | list ds => obtain ⟨vs, h1, _⟩ := h; rw [h1]; exact e.ob a _ h1 (fun ps z => by cases z) na
    | dict kvs => obtain ⟨vs, _, h1⟩ := h; rcases h1 with ⟨ks, h1, _⟩ | ⟨ks, h1, _⟩ <;> (rw [h1]; exact e.ob a _ h1 (fun ps z => by cases z) na)
    | _ => exact h.elim
end DD
set_option maxRecDepth 100000
set_option maxHeartbeats 2000000
/-! SemB: the judgements over plain data; names, constants, operators in general, tests, displays. -/
namespace DD
open PySem PySem.Spec PyProof.Rows L2
/-- what holds of any tracked heap -/
structure Hk (K : PySem.W.Frag) (H : Hp) : Prop where
  lenL : ∀ a xs, SqL K H a xs → xs.length ≤ sizeLine
  lenT : ∀ a xs, SqT K H a xs → xs.length ≤ sizeLine
  injL : ∀ a xs ys, SqL K H a xs → SqL K H a ys → xs = ys
  injT : ∀ a xs ys, SqT K H a xs → SqT K H a ys → xs = ys
  lenD : ∀ a kvs, H a = some (.dK kvs) → kvs.length ≤ sizeLine
  lenDT : ∀ a kvs, H a = some (.dT kvs) → kvs.length ≤ sizeLine
theorem hk_of {X : Cx} {pins : List (Addr × Obj)} {σ : L2.St} {H : Hp} {s : Shared} (I : Inv X pins σ H s) : Hk X.K H where
  lenL := fun a xs h => let ⟨_, _, _, z⟩ := I.list h; z
  lenT := fun a xs h => let ⟨_, _, _, z⟩ := I.tuple h; z
  injL := fun a xs ys h h' => I.list_inj h h'
  injT := fun a xs ys h h' => I.tuple_inj h h'
  lenD := fun a kvs e => (I.hok a _ e).1
  lenDT := fun a kvs e => (I.hok a _ e).1
abbrev Par.at (p : Par) (K : PySem.W.Frag) : Par := { p with K := K }
/-! ### using a rule of the layer -/
section
variable {X : Cx}
theorem pe_use {e : Expr} {t t' : TE} (h : PE X e t) (imp : ∀ σ H Q, Hk X.K H → t' σ H Q → t σ H (fun v H' => Hk X.K H' → Q v H')) : PE X e t' :=
  ⟨fun pins s σ H Q I ht => thn (h.run pins s σ H _ I (imp σ H Q (hk_of I) ht)) fun _ _ ⟨x, H', I', r, q⟩ => ⟨x, H', I', r, q (hk_of I')⟩⟩
theorem pt_use {e : Expr} {t t' : TT} (h : PT X e t) (imp : ∀ σ H Q, Hk X.K H → t' σ H Q → t σ H (fun v H' => Hk X.K H' → Q v H')) : PT X e t' :=
  ⟨fun pins s σ H Q I ht => thn (h.run pins s σ H _ I (imp σ H Q (hk_of I) ht)) fun _ _ ⟨H', I', q⟩ => ⟨H', I', q (hk_of I')⟩⟩
theorem pts_use {e : List Expr} {t t' : TT} (h : PTs X e t) (imp : ∀ σ H Q, Hk X.K H → t' σ H Q → t σ H (fun v H' => Hk X.K H' → Q v H')) : PTs X e t' :=
  ⟨fun pins s σ H Q I ht => thn (h.run pins s σ H _ I (imp σ H Q (hk_of I) ht)) fun _ _ ⟨H', I', q⟩ => ⟨H', I', q (hk_of I')⟩⟩
theorem pw_use {e : Expr} {t t' : TT} (h : PW X e t) (imp : ∀ σ H Q, Hk X.K H → t' σ H Q → t σ H (fun v H' => Hk X.K H' → Q v H')) : PW X e t' :=
  ⟨fun wh pins s σ H Q I ht => thn (h.run wh pins s σ H _ I (imp σ H Q (hk_of I) ht)) fun _ _ ⟨H', I', q⟩ => ⟨H', I', q (hk_of I')⟩⟩
theorem pa_use {es : List Expr} {t t' : TA} (h : PA X es t) (imp : ∀ σ H Q, Hk X.K H → t' σ H Q → t σ H (fun v H' => Hk X.K H' → Q v H')) : PA X es t' :=
  ⟨fun pos pins s σ H Q I ht => thn (h.run pos pins s σ H _ I (imp σ H Q (hk_of I) ht)) fun _ _ ⟨x, H', I', r, q⟩ => ⟨x, H', I', r, q (hk_of I')⟩⟩
theorem ps_use {st : Stmt} {t t' : TS} (h : PS X st t) (imp : ∀ D σ H, Hk X.K H → t' D σ H → t { nx := fun σ' H' => Hk X.K H' → D.nx σ' H', rt := fun v H' => Hk X.K H' → D.rt v H', bk := fun σ' H' => Hk X.K H' → D.bk σ' H', ct := fun σ' H' => Hk X.K H' → D.ct σ' H' } σ H) : PS X st t' :=
  ⟨fun pins s σ H D I ht => thn (h.run pins s σ H _ I (imp D σ H (hk_of I) ht)) fun f s' q => by
    cases f with
    | next => obtain ⟨σ', H', I', q⟩ := q; exact ⟨σ', H', I', q (hk_of I')⟩
    | brk => obtain ⟨σ', H', I', q⟩ := q; exact ⟨σ', H', I', q (hk_of I')⟩
    | cont => obtain ⟨σ', H', I', q⟩ := q; exact ⟨σ', H', I', q (hk_of I')⟩
    | ret u => obtain ⟨v, σ', H', I', r, q⟩ := q; exact ⟨v, σ', H', I', r, q (hk_of I')⟩⟩
theorem pss_use {st : List Stmt} {t t' : TS} (h : PSs X st t) (imp : ∀ D σ H, Hk X.K H → t' D σ H → t { nx := fun σ' H' => Hk X.K H' → D.nx σ' H', rt := fun v H' => Hk X.K H' → D.rt v H', bk := fun σ' H' => Hk X.K H' → D.bk σ' H', ct := fun σ' H' => Hk X.K H' → D.ct σ' H' } σ H) : PSs X st t' :=
  ⟨fun pins s σ H D I ht => thn (h.run pins s σ H _ I (imp D σ H (hk_of I) ht)) fun f s' q => by
    cases f with
    | next => obtain ⟨σ', H', I', q⟩ := q; exact ⟨σ', H', I', q (hk_of I')⟩
    | brk => obtain ⟨σ', H', I', q⟩ := q; exact ⟨σ', H', I', q (hk_of I')⟩
    | cont => obtain ⟨σ', H', I', q⟩ := q; exact ⟨σ', H', I', q (hk_of I')⟩
    | ret u => obtain ⟨v, σ', H', I', r, q⟩ := q; exact ⟨v, σ', H', I', r, q (hk_of I')⟩⟩
end
/-! ### the judgements -/
/-- the wish of an error as data -/
abbrev EXn := Exn → Prop
abbrev WE := Env' → (D → Prop) → EXn → Prop
abbrev WT := Env' → (Bool → Prop) → EXn → Prop
abbrev WA := Env' → (List D → Prop) → EXn → Prop
/-- arguments of own defs: data, the drawing row -/
abbrev WW := Env' → (List W → Prop) → EXn → Prop
structure EndsW where
  nx : Env' → Prop
  rt : D → Prop
  bk : Env' → Prop := fun _ => False
  ct : Env' → Prop := fun _ => False
  ex : EXn
abbrev WS := EndsW → Env' → Prop
/-- an error in the heap -/
def ExnAt (p : Par) (H : Hp) : Exn → Value → Option Addr → Prop
  | .bad n, cls, dd => cls = .ref p.cBad ∧ ∃ d, dd = some d ∧ H d = some (.xd [(("name" : Str), .str n)])
  | .unread o y, cls, dd => cls = .ref p.cUnr ∧ ∃ d, dd = some d ∧ H d = some (.xd [(("why" : Str), .str y), (("offset" : Str), .int o)])
def ExOk (p : Par) (EX : EXn) : Prop := ∀ x cls dd H', EX x → Ext p p.H0 H' → ExnAt p H' x cls dd → p.E cls dd H'
/-- a state that is read -/
def At (p : Par) (σ : L2.St) (H : Hp) (R : Own → Env' → EXn → Prop) : Prop := ∃ ρ O EX, Rel p O ρ σ H ∧ ExOk p EX ∧ R O ρ EX
def RE (p : Par) (O : Own) (H : Hp) (Q : VK) (d : D) : Prop := ∀ v H', Hk p.K H' → Ext p H H' → RepV p.K (NN p O) H' v d → Q v H'
def RB (p : Par) (O : Own) (H : Hp) (Q : VK) (d : D) : Prop := ∀ v H', Hk p.K H' → Ext p H H' → RepB p O H' v d → Q v H'
def RF (p : Par) (O : Own) (H : Hp) (Q : VK) (d : D) : Prop := ∀ a H', Hk p.K H' → Ext p H H' → H a = none → RepO p.K (fun b => NN p O b ∧ b ≠ a) H' a d → Q (.ref a) H'
def LE (p : Par) (w : WE) : TE := fun σ H Q => At p σ H fun O ρ EX => w ρ (RE p O H Q) EX
/-- the outermost object may be one's own -/
def LB (p : Par) (w : WE) : TE := fun σ H Q => At p σ H fun O ρ EX => w ρ (RB p O H Q) EX
/-- a fresh list or dict -/
def LF (p : Par) (w : WE) : TE := fun σ H Q => At p σ H fun O ρ EX => w ρ (RF p O H Q) EX
def LT (p : Par) (w : WT) : TT := fun σ H Q => At p σ H fun O ρ EX => w ρ (fun b => ∀ H', Hk p.K H' → Ext p H H' → Q b H') EX
def LA (p : Par) (w : WA) : TA := fun σ H Q => At p σ H fun O ρ EX => w ρ (fun ds => ∀ vs H', Hk p.K H' → Ext p H H' → RepAll p.K (NN p O) H' vs ds → Q vs H') EX
/-- arguments whose outermost objects may be one's own -/
def LBs (p : Par) (w : WA) : TA := fun σ H Q => At p σ H fun O ρ EX => w ρ (fun ds => ∀ vs H', Hk p.K H' → Ext p H H' → Paired (RepB p O H') vs ds → Q vs H') EX
def RepW (p : Par) (N : Addr → Prop) (H : Hp) (v : V) : W → Prop
  | .d x => RepV p.K N H v x
  | .row => v = .ref p.r
  | .own _ => False
def LW (p : Par) (w : WW) : TA := fun σ H Q => At p σ H fun O ρ EX => w ρ (fun ds => ∀ vs H', Hk p.K H' → Ext p H H' → Paired (RepW p (NN p O) H') vs ds → Q vs H') EX
def noOwn : Own := ⟨fun _ => none, []⟩
def LS (p : Par) (w : WS) : TS := fun D σ H => At p σ H fun O ρ EX => w { nx := fun ρ' => ∀ O' σ' H', O'.ks = O.ks → Hk p.K H' → Rel p O' ρ' σ' H' → D.nx σ' H', rt := fun d => ∀ v H', Hk p.K H' → Ext p p.H0 H' → RepV p.K (NN p noOwn) H' v d → D.rt v H', bk := fun ρ' => ∀ O' σ' H', O'.ks = O.ks → Hk p.K H' → Rel p O' ρ' σ' H' → D.bk σ' H', ct := fun ρ' => ∀ O' σ' H', O'.ks = O.ks → Hk p.K H' → Rel p O' ρ' σ' H' → D.ct σ' H', ex := EX } ρ
def MonoE (w : WE) : Prop := ∀ ρ Q Q' EX, (∀ d, Q d → Q' d) → w ρ Q EX → w ρ Q' EX
def MonoT (w : WT) : Prop := ∀ ρ Q Q' EX, (∀ d, Q d → Q' d) → w ρ Q EX → w ρ Q' EX
def MonoA (w : WA) : Prop := ∀ ρ Q Q' EX, (∀ d, Q d → Q' d) → w ρ Q EX → w ρ Q' EX
def MonoW (w : WW) : Prop := ∀ ρ Q Q' EX, (∀ d, Q d → Q' d) → w ρ Q EX → w ρ Q' EX
structure EndsW.le (D D' : EndsW) : Prop where
  nx : ∀ ρ, D.nx ρ → D'.nx ρ
  rt : ∀ d, D.rt d → D'.rt d
  bk : ∀ ρ, D.bk ρ → D'.bk ρ
  ct : ∀ ρ, D.ct ρ → D'.ct ρ
  ex : D.ex = D'.ex
def MonoS (w : WS) : Prop := ∀ D D' ρ, D.le D' → w D ρ → w D' ρ
structure DE (p : Par) (X : Cx) (e : Expr) (w : WE) : Prop where
  pe : PE X e (LE (p.at X.K) w)
  mono : MonoE w
structure DB (p : Par) (X : Cx) (e : Expr) (w : WE) : Prop where
  pe : PE X e (LB (p.at X.K) w)
  mono : MonoE w
structure DF (p : Par) (X : Cx) (e : Expr) (w : WE) : Prop where
  pe : PE X e (LF (p.at X.K) w)
  mono : MonoE w
structure DT (p : Par) (X : Cx) (e : Expr) (w : WT) : Prop where
  pt : PT X e (LT (p.at X.K) w)
  mono : MonoT w
structure DW (p : Par) (X : Cx) (e : Expr) (w : WT) : Prop where
  pw : PW X e (LT (p.at X.K) w)
  mono : MonoT w
structure DA (p : Par) (X : Cx) (es : List Expr) (w : WA) : Prop where
  pa : PA X es (LA (p.at X.K) w)
  mono : MonoA w
structure DBs (p : Par) (X : Cx) (es : List Expr) (w : WA) : Prop where
  pa : PA X es (LBs (p.at X.K) w)
  mono : MonoA w
structure DWs (p : Par) (X : Cx) (es : List Expr) (w : WW) : Prop where
  pa : PA X es (LW (p.at X.K) w)
  mono : MonoW w
structure DS (p : Par) (X : Cx) (st : Stmt) (w : WS) : Prop where
  ps : PS X st (LS (p.at X.K) w)
  mono : MonoS w
structure DSs (p : Par) (X : Cx) (st : List Stmt) (w : WS) : Prop where
  ps : PSs X st (LS (p.at X.K) w)
  mono : MonoS w
/-! ### states, posts -/
section
variable {p : Par} {O : Own} {ρ : Env'} {σ : L2.St} {H H1 H2 : Hp} {Q : VK} {d : D}
/-- what a rule about values may lean on -/
structure Ok (p : Par) (O : Own) (H : Hp) : Prop where
  hk : Hk p.K H
  wd : Wd p H
  fr : ∀ a, H a = none → NN p O a
theorem Rel.fresh0 {a : Addr} (R : Rel p O ρ σ H) (ha : H a = none) : NN p O a := by
  refine ⟨.inr ?_, fun z => ?_, fun i z => (R.own i a z).2.2.2.1 ha⟩
  · cases e : p.H0 a with
    | none => rfl
    | some o => exact absurd ha (R.ext.dom a (by rw [e]; simp))
  · obtain ⟨xs, e⟩ := R.wd.r_some
    rw [← z, ha] at e; cases e
theorem Rel.ok (R : Rel p O ρ σ H) (hk : Hk p.K H) : Ok p O H := ⟨hk, R.wd, fun _ h => R.fresh0 h⟩
theorem RE.to (q : RE p O H Q d) (e : Ext p H H1) : RE p O H1 Q d := fun v H' hk e' r => q v H' hk (e.trans e') r
theorem RB.to (q : RB p O H Q d) (e : Ext p H H1) : RB p O H1 Q d := fun v H' hk e' r => q v H' hk (e.trans e') r
theorem Ext.none {a : Addr} (e : Ext p H H1) (h : H1 a = none) : H a = none := by
  cases q : H a with
  | none => rfl
  | some o => exact absurd h (e.dom a (by rw [q]; simp))
theorem RF.to (q : RF p O H Q d) (e : Ext p H H1) : RF p O H1 Q d := fun a H' hk e' n r => q a H' hk (e.trans e') (e.none n) r
theorem RB.e (q : RB p O H Q d) : RE p O H Q d := fun v H' hk e r => q v H' hk e r.b
theorem RE.f (ok : Ok p O H) (q : RE p O H Q d) : RF p O H Q d := fun a H' hk e n r => q _ H' hk e (RepO.v (RepO.keep ⟨fun _ n _ => n.1, fun _ _ _ e _ => e, fun _ _ e => e, fun _ _ _ e => e⟩ rfl r) (ok.fr a n))
theorem RE.imp {Q' : VK} (h : ∀ v H', Hk p.K H' → Q v H' → Q' v H') (q : RE p O H Q d) : RE p O H Q' d := fun v H' hk e r => h v H' hk (q v H' hk e r)
/-- an immediate value, the heap as it is -/
theorem RE.now (q : RE p O H Q d) (ok : Ok p O H) {v : V} (r : RepV p.K (NN p O) H v d) : Q v H := q v H ok.hk (Ext.refl ok.wd) r
theorem RB.now (q : RB p O H Q d) (ok : Ok p O H) {v : V} (r : RepB p O H v d) : Q v H := q v H ok.hk (Ext.refl ok.wd) r
theorem rep_new {a : Addr} {o : HO} {ds : List D} {vs : List V} (ok : Ok p O H) (ha : H a = none) (r : RepAll p.K (NN p O) H vs ds) : RepAll p.K (fun b => NN p O b ∧ b ≠ a) (upd H a o) vs ds :=
  RepAll.keep (Keeps2.of_ext (Ext.new ok.wd ha) ok.wd (fun _ n => n.2.1) fun b n h => ⟨n, fun z => h (by rw [z]; exact ha)⟩) ds vs r
theorem repkv_new {a : Addr} {o : HO} {ds : List (D × D)} {vs : List V} (ok : Ok p O H) (ha : H a = none) (r : RepKV p.K (NN p O) H vs ds) : RepKV p.K (fun b => NN p O b ∧ b ≠ a) (upd H a o) vs ds :=
  RepKV.keep (Keeps2.of_ext (Ext.new ok.wd ha) ok.wd (fun _ n => n.2.1) fun b n h => ⟨n, fun z => h (by rw [z]; exact ha)⟩) ds vs r
/-- a fresh list comes -/
theorem RF.list {ds : List D} {vs : List V} {a : Addr} (q : RF p O H Q (.list ds)) (ok : Ok p O H) (ha : H a = none) (r : RepAll p.K (NN p O) H vs ds) (hk : Hk p.K (upd H a (.lst vs))) : Q (.ref a) (upd H a (.lst vs)) :=
  q a _ hk (Ext.new ok.wd ha) ha ⟨vs, by unfold L2.upd; rw [if_pos rfl], rep_new ok ha r⟩
theorem RE.tup {ds : List D} {vs : List V} {a : Addr} (q : RE p O H Q (.tuple ds)) (ok : Ok p O H) (ha : H a = none) (r : RepAll p.K (NN p O) H vs ds) (hk : Hk p.K (upd H a (.tup vs))) : Q (.ref a) (upd H a (.tup vs)) :=
  q _ _ hk (Ext.new ok.wd ha) (rep_tuple (.of (by unfold L2.upd; rw [if_pos rfl])) (r.ext (Ext.new ok.wd ha) ok.wd))
end
/-! ### values: functions, tests -/
abbrev F1 := D → (D → Prop) → Prop
abbrev F2 := D → D → (D → Prop) → Prop
abbrev FN := List D → (D → Prop) → Prop
abbrev G1 := D → (Bool → Prop) → Prop
abbrev G2 := D → D → (Bool → Prop) → Prop
/-- monotone in the post -/
def M0 {α : Type} (f : (α → Prop) → Prop) : Prop := ∀ Q Q', (∀ d, Q d → Q' d) → f Q → f Q'
/-- two values to a value (the outermost object fresh: RF, else RE) -/
structure Op2 (p : Par) (f : F2) (r : R2) : Prop where
  ok : ∀ O H x y a b (Q : VK), Ok p O H → RepB p O H x a → RepB p O H y b → f a b (RE p O H Q) → r x y H (fun v H' => Hk p.K H' → Q v H')
  mono : ∀ a b, M0 (f a b)
structure Op2F (p : Par) (f : F2) (r : R2) : Prop where
  ok : ∀ O H x y a b (Q : VK), Ok p O H → RepB p O H x a → RepB p O H y b → f a b (RF p O H Q) → r x y H (fun v H' => Hk p.K H' → Q v H')
  mono : ∀ a b, M0 (f a b)
structure Cmp2 (p : Par) (g : G2) (r : R2) : Prop where
  ok : ∀ O H x y a b (Qb : Bool → Prop) (Q : VK), Ok p O H → RepB p O H x a → RepB p O H y b → g a b Qb → (∀ k, Qb k → Q (.bl k) H) → r x y H Q
  mono : ∀ a b, M0 (g a b)
structure OpN (p : Par) (f : FN) (r : List V → Hp → VK → Prop) : Prop where
  ok : ∀ O H xs ds (Q : VK), Ok p O H → Paired (RepB p O H) xs ds → f ds (RE p O H Q) → r xs H (fun v H' => Hk p.K H' → Q v H')
  mono : ∀ a, M0 (f a)
structure OpNF (p : Par) (f : FN) (r : List V → Hp → VK → Prop) : Prop where
  ok : ∀ O H xs ds (Q : VK), Ok p O H → Paired (RepB p O H) xs ds → f ds (RF p O H Q) → r xs H (fun v H' => Hk p.K H' → Q v H')
  mono : ∀ a, M0 (f a)
def wOp2 (f : F2) (wa wb : WE) : WE := fun ρ Q EX => wa ρ (fun a => wb ρ (fun b => f a b Q) EX) EX
def wOp1 (f : F1) (wa : WE) : WE := fun ρ Q EX => wa ρ (fun a => f a Q) EX
def wOpN (f : FN) (wa : WA) : WE := fun ρ Q EX => wa ρ (fun a => f a Q) EX
def wCmp2 (g : G2) (wa wb : WE) : WE := fun ρ Q EX => wa ρ (fun a => wb ρ (fun b => g a b fun k => Q (.bool k)) EX) EX
def wTst2 (g : G2) (wa wb : WE) : WT := fun ρ Q EX => wa ρ (fun a => wb ρ (fun b => g a b Q) EX) EX
theorem mono_Op2 {f : F2} {wa wb : WE} (mf : ∀ a b, M0 (f a b)) (ma : MonoE wa) (mb : MonoE wb) : MonoE (wOp2 f wa wb) := fun ρ Q Q' EX h q => ma _ _ _ _ (fun a q => mb _ _ _ _ (fun b q => mf a b _ _ h q) q) q
theorem mono_OpN {f : FN} {wa : WA} (mf : ∀ a, M0 (f a)) (ma : MonoA wa) : MonoE (wOpN f wa) := fun ρ Q Q' EX h q => ma _ _ _ _ (fun a q => mf a _ _ h q) q
theorem mono_Cmp2 {f : G2} {wa wb : WE} (mf : ∀ a b, M0 (f a b)) (ma : MonoE wa) (mb : MonoE wb) : MonoE (wCmp2 f wa wb) := fun ρ Q Q' EX h q => ma _ _ _ _ (fun a q => mb _ _ _ _ (fun b q => mf a b _ _ (fun _ => h _) q) q) q
theorem mono_Tst2 {f : G2} {wa wb : WE} (mf : ∀ a b, M0 (f a b)) (ma : MonoE wa) (mb : MonoE wb) : MonoT (wTst2 f wa wb) := fun ρ Q Q' EX h q => ma _ _ _ _ (fun a q => mb _ _ _ _ (fun b q => mf a b _ _ (fun _ => h _) q) q) q
section
variable {p : Par} {X : Cx} {pos : Pos} {a b : Expr} {wa wb : WE}
/-- two borrowed values, one after the other -/
theorem two {R : V → V → Hp → Prop} {σ : L2.St} {H : Hp} {O : Own} {ρ : Env'} {EX : EXn} {S : D → D → Prop} (ha : DB p X a wa) (hb : DB p X b wb) (Rl : Rel (p.at X.K) O ρ σ H) (ex : ExOk (p.at X.K) EX)
    (hw : wa ρ (fun a => wb ρ (fun b => S a b) EX) EX) (h : ∀ x y da db H2, Ok (p.at X.K) O H2 → Ext (p.at X.K) H H2 → RepB (p.at X.K) O H2 x da → RepB (p.at X.K) O H2 y db → S da db → R x y H2) :
    LB (p.at X.K) wa σ H fun x H1 => LB (p.at X.K) wb σ H1 fun y H2 => R x y H2 :=
  ⟨ρ, O, EX, Rl, ex, ha.mono _ _ _ _ (fun da q v H1 hk1 e1 r1 => ⟨ρ, O, EX, Rl.ext' e1, ex, hb.mono _ _ _ _ (fun db q u H2 hk2 e2 r2 =>
    h v u da db H2 ((Rl.ext' (e1.trans e2)).ok hk2) (e1.trans e2) (r1.ext e1.wd e2) r2 q) q⟩) hw⟩
theorem de_op {op : Operator} {r : R2} {f : F2} (ho : OpR X (binaryOp op) r) (hr : Op2 (p.at X.K) f r) (ha : DB p X a wa) (hb : DB p X b wb) : DE p X (.BinOp a op b pos) (wOp2 f wa wb) :=
  ⟨pe_use (pe_op ho ha.pe hb.pe) fun σ H Q hk ⟨ρ, O, EX, R, ex, hw⟩ => two (S := fun a b => f a b _) ha hb R ex hw fun x y da db H2 ok e rx ry q => hr.ok O H2 x y da db Q ok rx ry (hr.mono _ _ _ _ (fun d q => q.to e) q), mono_Op2 hr.mono ha.mono hb.mono⟩
theorem df_op {op : Operator} {r : R2} {f : F2} (ho : OpR X (binaryOp op) r) (hr : Op2F (p.at X.K) f r) (ha : DB p X a wa) (hb : DB p X b wb) : DF p X (.BinOp a op b pos) (wOp2 f wa wb) :=
  ⟨pe_use (pe_op ho ha.pe hb.pe) fun σ H Q hk ⟨ρ, O, EX, R, ex, hw⟩ => two (S := fun a b => f a b _) ha hb R ex hw fun x y da db H2 ok e rx ry q => hr.ok O H2 x y da db Q ok rx ry (hr.mono _ _ _ _ (fun d q => q.to e) q), mono_Op2 hr.mono ha.mono hb.mono⟩
theorem de_ix {r : R2} {f : F2} (ho : IxR X r) (hr : Op2 (p.at X.K) f r) (ha : DB p X a wa) (hb : DB p X b wb) (hs : PlainIx b := by intro _ _; rfl) : DE p X (.Subscript a b pos) (wOp2 f wa wb) :=
  ⟨pe_use (pe_ix ho ha.pe hb.pe hs) fun σ H Q hk ⟨ρ, O, EX, R, ex, hw⟩ => two (S := fun a b => f a b _) ha hb R ex hw fun x y da db H2 ok e rx ry q => hr.ok O H2 x y da db Q ok rx ry (hr.mono _ _ _ _ (fun d q => q.to e) q), mono_Op2 hr.mono ha.mono hb.mono⟩
theorem de_cmp {op : CmpOp} {r : R2} {g : G2} (ho : OpR X (compareOp op) r) (hr : Cmp2 (p.at X.K) g r) (ha : DB p X a wa) (hb : DB p X b wb) (hm : behindInMarks op b = false := by first | exact nomark _ | rfl) : DE p X (.Compare a [op] [b] pos) (wCmp2 g wa wb) :=
  ⟨pe_use (pe_cmpR ho ha.pe hb.pe hm) fun σ H Q hk ⟨ρ, O, EX, R, ex, hw⟩ => two (S := fun a b => g a b _) ha hb R ex hw fun x y da db H2 ok e rx ry q => hr.ok O H2 x y da db _ _ ok rx ry q fun k q hk' => q _ _ hk' e rep_bool, mono_Cmp2 hr.mono ha.mono hb.mono⟩
theorem dt_cmp {op : CmpOp} {r : R2} {g : G2} (ho : OpR X (compareOp op) r) (hr : Cmp2 (p.at X.K) g r) (ha : DB p X a wa) (hb : DB p X b wb) (hm : behindInMarks op b = false := by first | exact nomark _ | rfl) : DT p X (.Compare a [op] [b] pos) (wTst2 g wa wb) :=
  ⟨pt_use (pt_cmpR ho ha.pe hb.pe hm) fun σ H Q hk ⟨ρ, O, EX, R, ex, hw⟩ => two (S := fun a b => g a b _) ha hb R ex hw fun x y da db H2 ok e rx ry q => hr.ok O H2 x y da db _ _ ok rx ry q fun k q => ⟨k, rfl, fun hk' => q _ hk' e⟩, mono_Tst2 hr.mono ha.mono hb.mono⟩
/-- a chain x < y < z -/
def wChain (g g' : G2) (wa wb wc : WE) : WT := fun ρ Q EX => wa ρ (fun a => wb ρ (fun b => g a b fun k => if k = true then wc ρ (fun c => g' b c Q) EX else Q false) EX) EX
def wChainE (g g' : G2) (wa wb wc : WE) : WE := fun ρ Q EX => wChain g g' wa wb wc ρ (fun k => Q (.bool k)) EX
theorem mono_Chain {g g' : G2} {wa wb wc : WE} (m1 : ∀ a b, M0 (g a b)) (m2 : ∀ a b, M0 (g' a b)) (ma : MonoE wa) (mb : MonoE wb) (mc : MonoE wc) : MonoT (wChain g g' wa wb wc) := fun ρ Q Q' EX h q =>
  ma _ _ _ _ (fun a q => mb _ _ _ _ (fun b q => m1 a b _ _ (fun k q => by
    by_cases z : k = true
    · rw [if_pos z] at q ⊢; exact mc _ _ _ _ (fun c q => m2 b c _ _ h q) q
    · rw [if_neg z] at q ⊢; exact h _ q) q) q) q
end
/-! ### names, constants -/
section
variable {p : Par} {X : Cx} {pos : Pos}
def wC (d : D) : WE := fun _ Q _ => Q d
def wVar (i : Nat) : WE := fun ρ Q _ => match ρ[i]? with
  | some (some (.d d)) => Q d
  | _ => False
def wOwn (i : Nat) : WE := fun ρ Q _ => match ρ[i]? with
  | some (some (.own d)) => Q d
  | _ => False
theorem mono_C {d : D} : MonoE (wC d) := fun _ _ _ _ h q => h _ q
theorem mono_Var {i : Nat} : MonoE (wVar i) := fun ρ Q Q' EX h q => by
  unfold wVar at q ⊢
  split at q <;> first | exact h _ q | exact q.elim
theorem mono_Own {i : Nat} : MonoE (wOwn i) := fun ρ Q Q' EX h q => by
  unfold wOwn at q ⊢
  split at q <;> first | exact h _ q | exact q.elim
theorem de_C {e : Expr} {v : V} {d : D} (h : PE X e (tC v)) (r : ∀ (K : PySem.W.Frag) (N : Addr → Prop) (H : Hp), RepV K N H v d) : DE p X e (wC d) :=
  ⟨pe_use h fun σ H Q hk ⟨ρ, O, EX, R, ex, hw⟩ => fun hk' => hw v H hk' (Ext.refl R.wd) (r _ _ _), mono_C⟩
theorem de_int {i : Int} {j : Nat} : DE p X (.Constant (.int i) j pos) (wC (.int i)) := de_C pe_int fun _ _ _ => rep_int
theorem de_bl {b : Bool} {j : Nat} : DE p X (.Constant (.bool b) j pos) (wC (.bool b)) := de_C pe_bl fun _ _ _ => rep_bool
theorem de_non {j : Nat} : DE p X (.Constant .none j pos) (wC .none) := de_C pe_non fun _ _ _ => rep_none
theorem de_str {x : Str} {j : Nat} : DE p X (.Constant (.str x) j pos) (wC (.str x)) := de_C pe_str fun _ _ _ => rep_str
/-- a module's constant -/
theorem de_globI {x : Str} {i : Int} (hm : ∃ t, X.mg x = some (.int i t)) (hg : Gl X x := by rfl) (hd : (x == ("__debug__" : Str)) = false := by decide) : DE p X (.Name x pos) (wC (.int i)) := by
  obtain ⟨t, hm⟩ := hm
  exact de_C (v := .int i) (pe_glob hg hm ⟨t, rfl⟩ hd) fun _ _ _ => rep_int
theorem de_globS {x : Str} {i : Str} (hm : ∃ t, X.mg x = some (.str i t)) (hg : Gl X x := by rfl) (hd : (x == ("__debug__" : Str)) = false := by decide) : DE p X (.Name x pos) (wC (.str i)) := by
  obtain ⟨t, hm⟩ := hm
  exact de_C (v := .str i) (pe_glob hg hm ⟨t, rfl⟩ hd) fun _ _ _ => rep_str
theorem de_var (i : Nat) {x : Str} (hN : X.N[i]? = some x := by rfl) (hv : Vis X.env.scope x := by first | exact .inl rfl | exact .inr (.inl rfl) | exact .inr (.inr rfl)) (hd : (x == ("__debug__" : Str)) = false := by decide) (hcd : (x == ("__classdict__" : Str)) = false := by decide) : DE p X (.Name x pos) (wVar i) := by
  refine ⟨pe_use (pe_var (i := i) hN hv hd hcd) fun σ H Q hk ⟨ρ, O, EX, R, ex, hw⟩ => ?_, mono_Var⟩
  have hw2 : wVar i ρ _ EX := hw
  unfold wVar at hw2
  split at hw2
  · rename_i d e
    obtain ⟨v, e1, r⟩ := R.slot i _ e
    exact ⟨v, e1, fun hk' => hw2 v H hk' (Ext.refl R.wd) r⟩
  · exact hw2.elim
theorem db_own (i : Nat) {x : Str} (hN : X.N[i]? = some x := by rfl) (hv : Vis X.env.scope x := by first | exact .inl rfl | exact .inr (.inl rfl) | exact .inr (.inr rfl)) (hd : (x == ("__debug__" : Str)) = false := by decide) (hcd : (x == ("__classdict__" : Str)) = false := by decide) : DB p X (.Name x pos) (wOwn i) := by
  refine ⟨pe_use (pe_var (i := i) hN hv hd hcd) fun σ H Q hk ⟨ρ, O, EX, R, ex, hw⟩ => ?_, mono_Own⟩
  have hw2 : wOwn i ρ _ EX := hw
  unfold wOwn at hw2
  split at hw2
  · rename_i d e
    obtain ⟨a, ha, e1, r⟩ := R.slot i _ e
    exact ⟨.ref a, e1, fun hk' => hw2 (.ref a) H hk' (Ext.refl R.wd) (.inr ⟨a, rfl, (R.own i a ha).2.1, r⟩)⟩
  · exact hw2.elim
theorem DE.b {e : Expr} {w : WE} (h : DE p X e w) : DB p X e w :=
  ⟨pe_use h.pe fun σ H Q hk ⟨ρ, O, EX, R, ex, hw⟩ => ⟨ρ, O, EX, R, ex, h.mono _ _ _ _ (fun d q => RB.e fun v H' hk' e r _ => q v H' hk' e r) hw⟩, h.mono⟩
theorem DF.e {e : Expr} {w : WE} (h : DF p X e w) : DE p X e w :=
  ⟨pe_use h.pe fun σ H Q hk ⟨ρ, O, EX, R, ex, hw⟩ => ⟨ρ, O, EX, R, ex, h.mono _ _ _ _ (fun d q => RE.f (R.ok hk) fun v H' hk' e r _ => q v H' hk' e r) hw⟩, h.mono⟩
/-! ### arguments, displays -/
def waNil : WA := fun _ Q _ => Q []
def waCons (w : WE) (r : WA) : WA := fun ρ Q EX => w ρ (fun d => r ρ (fun ds => Q (d :: ds)) EX) EX
theorem mono_aNil : MonoA waNil := fun _ _ _ _ h q => h _ q
theorem mono_aCons {w : WE} {r : WA} (h1 : MonoE w) (h2 : MonoA r) : MonoA (waCons w r) := fun ρ Q Q' EX h q => h1 _ _ _ _ (fun d q => h2 _ _ _ _ (fun ds q => h _ q) q) q
theorem da_nil : DA p X [] waNil := ⟨pa_use pa_nil fun σ H Q hk ⟨ρ, O, EX, R, ex, hw⟩ => fun hk' => hw [] H hk' (Ext.refl R.wd) rall_nil, mono_aNil⟩
theorem da_cons {e : Expr} {es : List Expr} {w : WE} {r : WA} (h : DE p X e w) (t : DA p X es r) (hs : starEach (e :: es) X.env = (false, eval e X.env) :: starEach es X.env := by rfl) : DA p X (e :: es) (waCons w r) :=
  ⟨pa_use (pa_cons h.pe t.pa hs) fun σ H Q hk ⟨ρ, O, EX, R, ex, hw⟩ => ⟨ρ, O, EX, R, ex, h.mono _ _ _ _ (fun d q v H1 hk1 e1 r1 => ⟨ρ, O, EX, R.ext' e1, ex, t.mono _ _ _ _ (fun ds q vs H2 hk2 e2 r2 _ =>
    q (v :: vs) H2 hk2 (e1.trans e2) (rall_cons (r1.ext e2 e1.wd) r2)) q⟩) hw⟩, mono_aCons h.mono t.mono⟩
theorem dbs_nil : DBs p X [] waNil := ⟨pa_use pa_nil fun σ H Q hk ⟨ρ, O, EX, R, ex, hw⟩ => fun hk' => hw [] H hk' (Ext.refl R.wd) .nil, mono_aNil⟩
theorem RepBs.ext {q : Par} {H H' : Hp} {O : Own} (w : Wd q H) (e : Ext q H H') : ∀ {vs : List V} {ds : List D}, Paired (RepB q O H) vs ds → Paired (RepB q O H') vs ds
  | _, _, .nil => .nil
  | _, _, .cons h t => .cons (h.ext w e) (RepBs.ext w e t)
theorem dbs_cons {e : Expr} {es : List Expr} {w : WE} {r : WA} (h : DB p X e w) (t : DBs p X es r) (hs : starEach (e :: es) X.env = (false, eval e X.env) :: starEach es X.env := by rfl) : DBs p X (e :: es) (waCons w r) :=
  ⟨pa_use (pa_cons h.pe t.pa hs) fun σ H Q hk ⟨ρ, O, EX, R, ex, hw⟩ => ⟨ρ, O, EX, R, ex, h.mono _ _ _ _ (fun d q v H1 hk1 e1 r1 => ⟨ρ, O, EX, R.ext' e1, ex, t.mono _ _ _ _ (fun ds q vs H2 hk2 e2 r2 _ =>
    q (v :: vs) H2 hk2 (e1.trans e2) (.cons (r1.ext e1.wd e2) r2)) q⟩) hw⟩, mono_aCons h.mono t.mono⟩
/-- arguments of own defs -/
def wwNil : WW := fun _ Q _ => Q []
def wwCons (w : WE) (r : WW) : WW := fun ρ Q EX => w ρ (fun d => r ρ (fun ds => Q (.d d :: ds)) EX) EX
def wwRow (i : Nat) (r : WW) : WW := fun ρ Q EX => ρ[i]? = some (some .row) ∧ r ρ (fun ds => Q (.row :: ds)) EX
theorem RepW.ext {q : Par} {H H' : Hp} {O : Own} {v : V} {x : W} (w : Wd q H) (e : Ext q H H') (h : RepW q (NN q O) H v x) : RepW q (NN q O) H' v x := by
  cases x with
  | d x => exact RepV.ext e w h
  | own x => exact h
  | row => exact h
theorem dws_nil : DWs p X [] wwNil := ⟨pa_use pa_nil fun σ H Q hk ⟨ρ, O, EX, R, ex, hw⟩ => fun hk' => hw [] H hk' (Ext.refl R.wd) .nil, fun _ _ _ _ h q => h _ q⟩
theorem dws_cons {e : Expr} {es : List Expr} {w : WE} {r : WW} (h : DE p X e w) (t : DWs p X es r) (hs : starEach (e :: es) X.env = (false, eval e X.env) :: starEach es X.env := by rfl) : DWs p X (e :: es) (wwCons w r) :=
  ⟨pa_use (pa_cons h.pe t.pa hs) fun σ H Q hk ⟨ρ, O, EX, R, ex, hw⟩ => ⟨ρ, O, EX, R, ex, h.mono _ _ _ _ (fun d q v H1 hk1 e1 r1 => ⟨ρ, O, EX, R.ext' e1, ex, t.mono _ _ _ _ (fun ds q vs H2 hk2 e2 r2 _ =>
    q (v :: vs) H2 hk2 (e1.trans e2) (.cons (show RepW _ _ _ v (.d d) from r1.ext e2 e1.wd) r2)) q⟩) hw⟩, fun ρ Q Q' EX h2 q => h.mono _ _ _ _ (fun d q => t.mono _ _ _ _ (fun ds q => h2 _ q) q) q⟩
theorem dws_row (i : Nat) {x : Str} {es : List Expr} {r : WW} (t : DWs p X es r) (hN : X.N[i]? = some x := by rfl) (hv : Vis X.env.scope x := by first | exact .inl rfl | exact .inr (.inl rfl) | exact .inr (.inr rfl)) (hd : (x == ("__debug__" : Str)) = false := by decide) (hcd : (x == ("__classdict__" : Str)) = false := by decide)
    (hs : starEach (.Name x pos :: es) X.env = (false, eval (.Name x pos) X.env) :: starEach es X.env := by rfl) : DWs p X (.Name x pos :: es) (wwRow i r) :=
  ⟨pa_use (pa_cons (pe_var (i := i) hN hv hd hcd) t.pa hs) fun σ H Q hk ⟨ρ, O, EX, R, ex, e, hw⟩ => ⟨_, R.slot i .row e, ρ, O, EX, R, ex, t.mono _ _ _ _ (fun ds q vs H2 hk2 e2 r2 _ =>
    q (_ :: vs) H2 hk2 e2 (.cons (show RepW _ _ _ _ .row from rfl) r2)) hw⟩, fun ρ Q Q' EX h2 ⟨e, q⟩ => ⟨e, t.mono _ _ _ _ (fun ds q => h2 _ q) q⟩⟩
/-- (.., ..) -/
def wTup (w : WA) : WE := fun ρ Q EX => w ρ (fun ds => Q (.tuple ds)) EX
def wLst (w : WA) : WE := fun ρ Q EX => w ρ (fun ds => Q (.list ds)) EX
theorem upd_tup_hk {P : Program} {K : PySem.W.Frag} : True := trivial
theorem pa_len {es : List Expr} {w : WA} : True := trivial
end
end DD
set_option maxRecDepth 100000
set_option maxHeartbeats 2000000
/-! SemC: the operators, the subscripts, the built-ins over plain data. -/
namespace DD
open PySem PySem.Spec PyProof.Rows L2
/-! ### arithmetic -/
def aAdd : F2
  | .int i, .int j, Q => Q (.int (i + j))
  | .str i, .str j, Q => i.length + j.length ≤ sizeLine ∧ Q (.str (i ++ j))
  | .list xs, .list ys, Q => xs.length + ys.length ≤ sizeLine ∧ Q (.list (xs ++ ys))
  | .tuple xs, .tuple ys, Q => xs.length + ys.length ≤ sizeLine ∧ Q (.tuple (xs ++ ys))
  | _, _, _ => False
def aAddL : F2
  | .list xs, .list ys, Q => xs.length + ys.length ≤ sizeLine ∧ Q (.list (xs ++ ys))
  | _, _, _ => False
def rStrCat : R2 := fun x y H Q => ∃ i j, x = .str i ∧ y = .str j ∧ i.length + j.length ≤ sizeLine ∧ Q (.str (i ++ j)) H
def rAddA (K : PySem.W.Frag) : R2 := fun x y H Q => rI0 (fun i j => .int (i + j)) x y H Q ∨ rStrCat x y H Q ∨ rCat x y H Q ∨ rCatA K x y H Q
section
variable {p : Par} {X : Cx}
theorem op_addA : OpR X (binaryOp .Add) (rAddA X.K) := op_add.or (op_add_str.or (op_cat.or op_catA))
theorem cat_ok {O : Own} {H : Hp} {x y : V} {xs ys : List D} {Q : VK} (ok : Ok p O H) (rx : RepB p O H x (.list xs)) (ry : RepB p O H y (.list ys)) (hl : xs.length + ys.length ≤ sizeLine) (q : RF p O H Q (.list (xs ++ ys))) : rCat x y H (fun v H' => Hk p.K H' → Q v H') := by
  obtain ⟨a, vs, rfl, _, h1, r1⟩ := rx.list
  obtain ⟨b, ws, rfl, _, h2, r2⟩ := ry.list
  exact ⟨a, b, vs, ws, rfl, rfl, h1, h2, by rw [r1.length, r2.length]; exact hl, fun c hc hk => q.list ok hc (r1.append r2) hk⟩
theorem o_add : Op2 p aAdd (rAddA p.K) := by
  refine ⟨fun O H x y a b Q ok rx ry hf => ?_, fun a b Q Q' h q => ?_⟩
  · cases a <;> cases b <;> first | exact hf.elim | skip
    · rw [rx.int, ry.int]
      exact .inl ⟨_, _, rfl, rfl, fun _ => RE.now hf ok rep_int⟩
    · rw [rx.str, ry.str]
      exact .inr (.inl ⟨_, _, rfl, rfl, hf.1, fun _ => RE.now hf.2 ok rep_str⟩)
    · exact .inr (.inr (.inl (cat_ok ok rx ry hf.1 (hf.2.f ok))))
    · obtain ⟨a, vs, rfl, h1, r1⟩ := rx.tuple
      obtain ⟨b, ws, rfl, h2, r2⟩ := ry.tuple
      obtain ⟨hl, q⟩ := hf
      refine .inr (.inr (.inr ⟨a, b, vs, ws, rfl, rfl, h1, h2, by rw [r1.length, r2.length]; exact hl, fun e _ => ?_, fun _ e _ => ?_, fun _ _ c hc hk => q.tup ok hc (r1.append r2) hk⟩))
      · subst e
        exact q.now ok (rep_tuple h2 (by simpa using r1.append r2))
      · subst e
        exact q.now ok (rep_tuple h1 (by simpa using r1.append r2))
  · cases a <;> cases b <;> first | exact q.elim | exact h _ q | exact ⟨q.1, h _ q.2⟩
theorem o_addL : Op2F p aAddL (rAddA p.K) := by
  refine ⟨fun O H x y a b Q ok rx ry hf => ?_, fun a b Q Q' h q => ?_⟩
  · cases a <;> cases b <;> first | exact hf.elim | skip
    exact .inr (.inr (.inl (cat_ok ok rx ry hf.1 hf.2)))
  · cases a <;> cases b <;> first | exact q.elim | exact ⟨q.1, h _ q.2⟩
/-- two ints to an int -/
def aI (C : Int → Int → Prop) (g : Int → Int → Int) : F2
  | .int i, .int j, Q => C i j ∧ Q (.int (g i j))
  | _, _, _ => False
def aI0 (g : Int → Int → Int) : F2
  | .int i, .int j, Q => Q (.int (g i j))
  | _, _, _ => False
theorem o_int {C : Int → Int → Prop} {g : Int → Int → Int} : Op2 p (aI C g) (rI C fun i j => .int (g i j)) := by
  refine ⟨fun O H x y a b Q ok rx ry hf => ?_, fun a b Q Q' h q => ?_⟩
  · cases a <;> cases b <;> first | exact hf.elim | skip
    rw [rx.int, ry.int]
    exact ⟨_, _, rfl, rfl, hf.1, fun _ => RE.now hf.2 ok rep_int⟩
  · cases a <;> cases b <;> first | exact q.elim | exact ⟨q.1, h _ q.2⟩
theorem o_int0 {g : Int → Int → Int} : Op2 p (aI0 g) (rI0 fun i j => .int (g i j)) := by
  refine ⟨fun O H x y a b Q ok rx ry hf => ?_, fun a b Q Q' h q => ?_⟩
  · cases a <;> cases b <;> first | exact hf.elim | skip
    rw [rx.int, ry.int]
    exact ⟨_, _, rfl, rfl, fun _ => RE.now hf ok rep_int⟩
  · cases a <;> cases b <;> first | exact q.elim | exact h _ q
abbrev aSub : F2 := aI0 fun i j => i - j
abbrev aFdiv : F2 := aI CDiv fun i j => i / j
abbrev aMod : F2 := aI (fun _ j => 0 < j) fun i j => i % j
abbrev aPow : F2 := aI CPow fun i j => i ^ j.toNat
abbrev aShl : F2 := aI CPow fun i j => i * 2 ^ j.toNat
abbrev aShr : F2 := aI (fun _ j => 0 ≤ j) fun i j => i / 2 ^ j.toNat
abbrev aAnd : F2 := aI0 fun i j => Builtin.bitAnd i j
abbrev aOr : F2 := aI0 fun i j => Builtin.bitOr i j
abbrev aXor : F2 := aI0 fun i j => Builtin.bitXor i j
theorem flat_rep {α : Type} (xs : List α) (n : Nat) : (List.replicate n xs).flatten.length = xs.length * n := by
  induction n with
  | zero => simp
  | succ n ih => simp [List.replicate_succ, ih, Nat.mul_succ, Nat.add_comm]
theorem RepAll.flat {K : PySem.W.Frag} {N : Addr → Prop} {H : Hp} {vs : List V} {ds : List D} (r : RepAll K N H vs ds) (n : Nat) : RepAll K N H (List.replicate n vs).flatten (List.replicate n ds).flatten := by
  induction n with
  | zero => exact rall_nil
  | succ n ih =>
    rw [List.replicate_succ, List.replicate_succ, List.flatten_cons, List.flatten_cons]
    exact r.append ih
def aMul : F2
  | .int i, .int j, Q => CMul i j ∧ Q (.int (i * j))
  | .list xs, .int k, Q => (-(2 ^ 63) ≤ k ∧ k < 2 ^ 63 ∧ xs.length * k.toNat ≤ sizeLine) ∧ Q (.list (List.replicate k.toNat xs).flatten)
  | .tuple xs, .int k, Q => (xs ≠ [] ∧ 2 ≤ k ∧ k ≤ 1000 ∧ xs.length ≤ 1000) ∧ Q (.tuple (List.replicate k.toNat xs).flatten)
  | _, _, _ => False
def aMulL : F2
  | .list xs, .int k, Q => (-(2 ^ 63) ≤ k ∧ k < 2 ^ 63 ∧ xs.length * k.toNat ≤ sizeLine) ∧ Q (.list (List.replicate k.toNat xs).flatten)
  | _, _, _ => False
def rMulA (K : PySem.W.Frag) : R2 := fun x y H Q => rI CMul (fun i j => .int (i * j)) x y H Q ∨ rRep x y H Q ∨ rRepT K x y H Q
theorem op_mulA : OpR X (binaryOp .Mult) (rMulA X.K) := op_mul.or (op_rep.or op_repT)
theorem rep_ok {O : Own} {H : Hp} {x : V} {xs : List D} {k : Int} {Q : VK} (ok : Ok p O H) (rx : RepB p O H x (.list xs)) (hl : -(2 ^ 63) ≤ k ∧ k < 2 ^ 63 ∧ xs.length * k.toNat ≤ sizeLine) (q : RF p O H Q (.list (List.replicate k.toNat xs).flatten)) : rRep x (.int k) H (fun v H' => Hk p.K H' → Q v H') := by
  obtain ⟨a, vs, rfl, _, h1, r1⟩ := rx.list
  exact ⟨a, k, vs, rfl, rfl, h1, hl.1, hl.2.1, by rw [r1.length]; exact hl.2.2, fun c hc hk => q.list ok hc (r1.flat _) hk⟩
theorem o_mul : Op2 p aMul (rMulA p.K) := by
  refine ⟨fun O H x y a b Q ok rx ry hf => ?_, fun a b Q Q' h q => ?_⟩
  · cases a <;> cases b <;> first | exact hf.elim | skip
    · rw [rx.int, ry.int]
      exact .inl ⟨_, _, rfl, rfl, hf.1, fun _ => RE.now hf.2 ok rep_int⟩
    · rw [ry.int]
      exact .inr (.inl (rep_ok ok rx hf.1 (hf.2.f ok)))
    · rw [ry.int]
      obtain ⟨a, vs, rfl, h1, r1⟩ := rx.tuple
      obtain ⟨⟨h2, h3, h4, h5⟩, q⟩ := hf
      refine .inr (.inr ⟨a, _, vs, rfl, rfl, h1, fun z => h2 ?_, h3, h4, by rw [r1.length]; exact h5, fun c hc hk => q.tup ok hc (r1.flat _) hk⟩)
      have := r1.length
      rw [z] at this
      exact List.length_eq_zero_iff.mp this.symm
  · cases a <;> cases b <;> first | exact q.elim | exact ⟨q.1, h _ q.2⟩
theorem o_mulL : Op2F p aMulL (rMulA p.K) := by
  refine ⟨fun O H x y a b Q ok rx ry hf => ?_, fun a b Q Q' h q => ?_⟩
  · cases a <;> cases b <;> first | exact hf.elim | skip
    rw [ry.int]
    exact .inr (.inl (rep_ok ok rx hf.1 hf.2))
  · cases a <;> cases b <;> first | exact q.elim | exact ⟨q.1, h _ q.2⟩
/-! ### comparisons -/
def gI (g : Int → Int → Bool) : G2
  | .int i, .int j, Q => Q (g i j)
  | _, _, _ => False
theorem c_int {g : Int → Int → Bool} : Cmp2 p (gI g) (rI0 fun i j => .bl (g i j)) := by
  refine ⟨fun O H x y a b Qb Q ok rx ry hf hq => ?_, fun a b Q Q' h q => ?_⟩
  · cases a <;> cases b <;> first | exact hf.elim | skip
    rw [rx.int, ry.int]
    exact ⟨_, _, rfl, rfl, hq _ hf⟩
  · cases a <;> cases b <;> first | exact q.elim | exact h _ q
abbrev gGt : G2 := gI fun i j => decide (j < i)
abbrev gGe : G2 := gI fun i j => decide (j ≤ i)
/-- a row of ints -/
def intsD : List D → Option (List Int)
  | [] => some []
  | .int i :: r => (intsD r).map (i :: ·)
  | _ => none
theorem intsD_vals {K : PySem.W.Frag} {N : Addr → Prop} {H : Hp} : ∀ {vs : List V} {ds : List D} {ns : List Int}, RepAll K N H vs ds → intsD ds = some ns → vs = ns.map V.int
  | [], [], ns, _, e => by cases e; rfl
  | v :: vs, d :: ds, ns, r, e => by
    rw [RepAll] at r
    cases d <;> first | (exact (by cases e)) | skip
    rename_i i
    have r1 := r.1
    rw [RepV] at r1
    unfold intsD at e
    cases q : intsD ds with
    | none => rw [q] at e; cases e
    | some ms =>
      rw [q] at e
      cases e
      rw [r1, intsD_vals r.2 q]
      rfl
  | [], _ :: _, _, r, _ => by simp [RepAll] at r
  | _ :: _, [], _, r, _ => by simp [RepAll] at r
theorem intsD_map (ns : List Int) : intsD (ns.map PyData.int) = some ns := by
  induction ns with
  | nil => rfl
  | cons n r ih => unfold intsD List.map; simp only; rw [show intsD (List.map PyData.int r) = some r from ih]; rfl
def leT (ns ms : List Int) : Bool := Ob.lexAt (fun j => decide (ns.getD j 0 = ms.getD j 0)) (fun j => decide (ns.getD j 0 ≤ ms.getD j 0)) (decide (ns.length ≤ ms.length)) 0 (min ns.length ms.length)
def gLt : G2
  | .int i, .int j, Q => Q (decide (i < j))
  | .str i, .str j, Q => Q (decide (i.cps.toList < j.cps.toList))
  | .tuple xs, .tuple ys, Q => ∃ ns ms, intsD xs = some ns ∧ intsD ys = some ms ∧ Q (HT.lexLt ns ms)
  | _, _, _ => False
def rLtStr : R2 := fun x y H Q => ∃ i j, x = .str i ∧ y = .str j ∧ Q (.bl (decide (i.cps.toList < j.cps.toList))) H
def rLtA (K : PySem.W.Frag) : R2 := fun x y H Q => rI0 (fun i j => .bl (decide (i < j))) x y H Q ∨ rLtStr x y H Q ∨ rLtT K x y H Q
theorem op_ltA (hu : X.A.units < cLine) : OpR X (compareOp .Lt) (rLtA X.K) := op_lt.or (op_lt_str.or (op_ltT hu))
theorem c_lt : Cmp2 p gLt (rLtA p.K) := by
  refine ⟨fun O H x y a b Qb Q ok rx ry hf hq => ?_, fun a b Q Q' h q => ?_⟩
  · cases a <;> cases b <;> first | exact hf.elim | skip
    · rw [rx.int, ry.int]; exact .inl ⟨_, _, rfl, rfl, hq _ hf⟩
    · rw [rx.str, ry.str]; exact .inr (.inl ⟨_, _, rfl, rfl, hq _ hf⟩)
    · obtain ⟨a, vs, rfl, h1, r1⟩ := rx.tuple
      obtain ⟨b, ws, rfl, h2, r2⟩ := ry.tuple
      obtain ⟨ns, ms, e1, e2, q⟩ := hf
      rw [intsD_vals r1 e1] at h1
      rw [intsD_vals r2 e2] at h2
      exact .inr (.inr ⟨a, b, ns, ms, rfl, rfl, h1, h2, hq _ q⟩)
  · cases a <;> cases b <;> first | exact q.elim | exact h _ q | (obtain ⟨ns, ms, e1, e2, q⟩ := q; exact ⟨ns, ms, e1, e2, h _ q⟩)
def gLe : G2
  | .int i, .int j, Q => Q (decide (i ≤ j))
  | .tuple xs, .tuple ys, Q => ∃ ns ms, intsD xs = some ns ∧ intsD ys = some ms ∧ Q (leT ns ms)
  | _, _, _ => False
def rLeA (K : PySem.W.Frag) : R2 := fun x y H Q => rI0 (fun i j => .bl (decide (i ≤ j))) x y H Q ∨ rLeT K x y H Q
theorem op_leA (hu : X.A.units < cLine) : OpR X (compareOp .LtE) (rLeA X.K) := op_le.or (op_leT hu)
theorem c_le : Cmp2 p gLe (rLeA p.K) := by
  refine ⟨fun O H x y a b Qb Q ok rx ry hf hq => ?_, fun a b Q Q' h q => ?_⟩
  · cases a <;> cases b <;> first | exact hf.elim | skip
    · rw [rx.int, ry.int]; exact .inl ⟨_, _, rfl, rfl, hq _ hf⟩
    · obtain ⟨a, vs, rfl, h1, r1⟩ := rx.tuple
      obtain ⟨b, ws, rfl, h2, r2⟩ := ry.tuple
      obtain ⟨ns, ms, e1, e2, q⟩ := hf
      rw [intsD_vals r1 e1] at h1
      rw [intsD_vals r2 e2] at h2
      exact .inr ⟨a, b, ns, ms, rfl, rfl, h1, h2, hq _ q⟩
  · cases a <;> cases b <;> first | exact q.elim | exact h _ q | (obtain ⟨ns, ms, e1, e2, q⟩ := q; exact ⟨ns, ms, e1, e2, h _ q⟩)
mutual
theorem dp_of {K : PySem.W.Frag} {N : Addr → Prop} {H : Hp} : ∀ (d : D) (v : V), PyData.canLay0 d = true → RepV K N H v d → Dp K H v d
  | .none, v, _, r => by rw [RepV] at r; rw [r]; exact .non
  | .bool _, v, _, r => by rw [RepV] at r; rw [r]; exact .bl _
  | .int _, v, _, r => by rw [RepV] at r; rw [r]; exact .int _
  | .str _, v, _, r => by rw [RepV] at r; rw [r]; exact .str _
  | .list ds, v, c, r => by
    rw [RepV] at r
    obtain ⟨a, vs, rfl, n, h1, h2⟩ := r
    exact .lst (.of h1) (dps_of ds vs (by rw [PyData.canLay0] at c; exact c) h2)
  | .tuple ds, v, c, r => by
    rw [RepV] at r
    obtain ⟨a, vs, rfl, h1, h2⟩ := r
    exact .tup h1 (dps_of ds vs (by rw [PyData.canLay0] at c; exact c) h2)
  | .dict _, _, c, _ => by simp [PyData.canLay0] at c
theorem dps_of {K : PySem.W.Frag} {N : Addr → Prop} {H : Hp} : ∀ (ds : List D) (vs : List V), PyData.canLayAll0 ds = true → RepAll K N H vs ds → DpAll K H vs ds
  | [], [], _, _ => .nil
  | d :: ds, v :: vs, c, r => by
    rw [RepAll] at r
    rw [PyData.canLayAll0, Bool.and_eq_true] at c
    exact .cons (dp_of d v c.1 r.1) (dps_of ds vs c.2 r.2)
  | [], _ :: _, _, r => by simp [RepAll] at r
  | _ :: _, [], _, r => by simp [RepAll] at r
end
theorem RepB.dp {O : Own} {H : Hp} {v : V} {d : D} (r : RepB p O H v d) (c : PyData.canLay0 d = true) : Dp p.K H v d := by
  rcases r with r | ⟨a, rfl, _, r⟩
  · exact dp_of d v c r
  · cases d with
    | list ds =>
      obtain ⟨vs, h1, h2⟩ := r
      exact .lst (.of h1) (dps_of ds vs (by rw [PyData.canLay0] at c; exact c) h2)
    | dict kvs => simp [PyData.canLay0] at c
    | _ => exact r.elim
/-- == -/
def gEq : G2 := fun a b Q => SeqAt.shaped a = true ∧ SeqAt.shaped b = true ∧ Q (PyData.eqv a b)
def gNe : G2 := fun a b Q => SeqAt.shaped a = true ∧ SeqAt.shaped b = true ∧ Q (!PyData.eqv a b)
theorem c_eq : Cmp2 p gEq (rEqD p.K) :=
  ⟨fun O H x y a b Qb Q ok rx ry ⟨h1, h2, q⟩ hq => ⟨a, b, rx.dp (SeqAt.canLay_of_shaped h1), ry.dp (SeqAt.canLay_of_shaped h2), h1, h2, hq _ q⟩, fun a b Q Q' h ⟨h1, h2, q⟩ => ⟨h1, h2, h _ q⟩⟩
theorem c_ne : Cmp2 p gNe (rNeD p.K) :=
  ⟨fun O H x y a b Qb Q ok rx ry ⟨h1, h2, q⟩ hq => ⟨a, b, rx.dp (SeqAt.canLay_of_shaped h1), ry.dp (SeqAt.canLay_of_shaped h2), h1, h2, hq _ q⟩, fun a b Q Q' h ⟨h1, h2, q⟩ => ⟨h1, h2, h _ q⟩⟩
def isNone : D → Bool
  | .none => true
  | _ => false
/-- x is None -/
def gIsN : G2 := fun a b Q => b = .none ∧ Q (isNone a)
def gNotN : G2 := fun a b Q => b = .none ∧ Q (!isNone a)
theorem RepB.isN {O : Own} {H : Hp} {v : V} {d : D} (r : RepB p O H v d) : decide (v = .non) = isNone d := by
  cases d with
  | none => rw [r.none]; rfl
  | bool b => rw [r.bool]; rfl
  | int b => rw [r.int]; rfl
  | str b => rw [r.str]; rfl
  | list ds => obtain ⟨a, vs, rfl, _⟩ := r.list; rfl
  | tuple ds => obtain ⟨a, vs, rfl, _⟩ := r.tuple; rfl
  | dict ds => obtain ⟨a, rfl, _⟩ := r.dict; rfl
theorem c_isN : Cmp2 p gIsN (fun x y H Q => y = .non ∧ Q (.bl (decide (x = .non))) H) :=
  ⟨fun O H x y a b Qb Q ok rx ry ⟨h1, q⟩ hq => ⟨by subst h1; exact ry.none, by rw [rx.isN]; exact hq _ q⟩, fun a b Q Q' h ⟨h1, q⟩ => ⟨h1, h _ q⟩⟩
theorem c_notN : Cmp2 p gNotN (fun x y H Q => y = .non ∧ Q (.bl (!decide (x = .non))) H) :=
  ⟨fun O H x y a b Qb Q ok rx ry ⟨h1, q⟩ hq => ⟨by subst h1; exact ry.none, by rw [rx.isN]; exact hq _ q⟩, fun a b Q Q' h ⟨h1, q⟩ => ⟨h1, h _ q⟩⟩
/-! ### in -/
def flatD : D → Bool
  | .none => true
  | .bool _ => true
  | .int _ => true
  | .str _ => true
  | _ => false
def vOf : D → V
  | .bool b => .bl b
  | .int i => .int i
  | .str x => .str x
  | _ => .non
theorem rep_flat {K : PySem.W.Frag} {N : Addr → Prop} {H : Hp} {v : V} {d : D} (r : RepV K N H v d) (f : flatD d = true) : v = vOf d := by
  cases d <;> first | exact (Bool.false_ne_true f).elim | skip
  all_goals (rw [RepV] at r; exact r)
theorem flat_vOf {d : D} (f : flatD d = true) : flatV (vOf d) = true := by
  cases d <;> first | exact (Bool.false_ne_true f).elim | rfl
theorem eqV_vOf {d e : D} (f : flatD d = true) (g : flatD e = true) : eqV (vOf d) (vOf e) = PyData.eqv d e := by
  cases d <;> first | exact (Bool.false_ne_true f).elim | skip
  all_goals (cases e <;> first | exact (Bool.false_ne_true g).elim | skip)
  all_goals first | rfl | (simp only [vOf, eqV, PyData.eqv])
theorem eqv_flat {K : PySem.W.Frag} {N N' : Addr → Prop} {H : Hp} {v u : V} {d e : D} (r : RepV K N H v d) (r' : RepV K N' H u e) (f : flatD d = true) (g : flatD e = true) : eqV v u = PyData.eqv d e ∧ flatV v = true ∧ flatV u = true := by
  rw [rep_flat r f, rep_flat r' g]
  exact ⟨eqV_vOf f g, flat_vOf f, flat_vOf g⟩
theorem flat_in {K : PySem.W.Frag} {N : Addr → Prop} {H : Hp} {v : V} {d : D} (r : RepV K N H v d) (f : flatD d = true) : ∀ {vs : List V} {ds : List D}, RepAll K N H vs ds → ds.all flatD = true → (vs.all flatV = true ∧ inV v vs = ds.any fun z => PyData.eqv z d)
  | [], [], _, _ => ⟨rfl, rfl⟩
  | u :: vs, e :: ds, h, g => by
    rw [RepAll] at h
    rw [List.all_cons, Bool.and_eq_true] at g
    obtain ⟨i1, i2⟩ := flat_in r f h.2 g.2
    obtain ⟨e1, e2, e3⟩ := eqv_flat h.1 r g.1 f
    refine ⟨by rw [List.all_cons, e2, i1]; rfl, ?_⟩
    unfold inV at i2 ⊢
    rw [List.any_cons, List.any_cons, e1, i2]
  | [], _ :: _, h, _ => by simp [RepAll] at h
  | _ :: _, [], h, _ => by simp [RepAll] at h
theorem flat_v {O : Own} {H : Hp} {v : V} {d : D} (r : RepB p O H v d) (f : flatD d = true) : RepV p.K (NN p O) H v d := by
  rcases r with r | ⟨a, rfl, _, r⟩
  · exact r
  · cases d <;> first | exact r.elim | exact (Bool.false_ne_true f).elim
/-- x in a list, a tuple: of flat things, or of a list's things of any shape; x in a text -/
def gIn (neg : Bool) : G2
  | d, .list ds, Q => ((flatD d = true ∧ ds.all flatD = true) ∨ (SeqAt.shaped d = true ∧ SeqAt.shaped (.list ds) = true)) ∧ Q (if neg = true then !(ds.any fun z => PyData.eqv z d) else ds.any fun z => PyData.eqv z d)
  | d, .tuple ds, Q => (flatD d = true ∧ ds.all flatD = true) ∧ Q (if neg = true then !(ds.any fun z => PyData.eqv z d) else ds.any fun z => PyData.eqv z d)
  | _, _, _ => False
def rInA (K : PySem.W.Frag) : R2 := fun x y H Q => rIn K false x y H Q ∨ rInD K x y H Q
def rNotInA (K : PySem.W.Frag) : R2 := fun x y H Q => rIn K true x y H Q ∨ rNotInD K x y H Q
theorem op_inA (hu : X.A.units + 65 < cLine) : OpR X (compareOp .In) (rInA X.K) := op_in_seq.or (op_inD hu)
theorem op_notInA (hu : X.A.units + 65 < cLine) : OpR X (compareOp .NotIn) (rNotInA X.K) := op_notIn_seq.or (op_notInD hu)
theorem mono_In {neg : Bool} : ∀ a b, M0 (gIn neg a b) := fun a b Q Q' h q => by
  cases b <;> first | exact ⟨q.1, h _ q.2⟩ | exact q.elim
theorem c_in : Cmp2 p (gIn false) (rInA p.K) := by
  refine ⟨fun O H x y a b Qb Q ok rx ry hf hq => ?_, mono_In⟩
  cases b <;> first | exact hf.elim | skip
  · obtain ⟨hc, q⟩ := hf
    rcases hc with ⟨f1, f2⟩ | ⟨s1, s2⟩
    · obtain ⟨l, vs, rfl, _, h1, r1⟩ := ry.list
      obtain ⟨e1, e2⟩ := flat_in (flat_v rx f1) f1 r1 f2
      refine .inl ⟨l, vs, rfl, .inl (.of h1), (eqv_flat (flat_v rx f1) (flat_v rx f1) f1 f1).2.1, e1, ?_⟩
      simp only [Bool.false_eq_true, if_false, e2]
      exact hq _ q
    · exact .inr ⟨a, _, rx.dp (SeqAt.canLay_of_shaped s1), ry.dp (SeqAt.canLay_of_shaped s2), s1, s2, hq _ q⟩
  · obtain ⟨⟨f1, f2⟩, q⟩ := hf
    obtain ⟨l, vs, rfl, h1, r1⟩ := ry.tuple
    obtain ⟨e1, e2⟩ := flat_in (flat_v rx f1) f1 r1 f2
    refine .inl ⟨l, vs, rfl, .inr h1, (eqv_flat (flat_v rx f1) (flat_v rx f1) f1 f1).2.1, e1, ?_⟩
    simp only [Bool.false_eq_true, if_false, e2]
    exact hq _ q
theorem c_notIn : Cmp2 p (gIn true) (rNotInA p.K) := by
  refine ⟨fun O H x y a b Qb Q ok rx ry hf hq => ?_, mono_In⟩
  cases b <;> first | exact hf.elim | skip
  · obtain ⟨hc, q⟩ := hf
    rcases hc with ⟨f1, f2⟩ | ⟨s1, s2⟩
    · obtain ⟨l, vs, rfl, _, h1, r1⟩ := ry.list
      obtain ⟨e1, e2⟩ := flat_in (flat_v rx f1) f1 r1 f2
      refine .inl ⟨l, vs, rfl, .inl (.of h1), (eqv_flat (flat_v rx f1) (flat_v rx f1) f1 f1).2.1, e1, ?_⟩
      simp only [if_true, e2]
      exact hq _ q
    · exact .inr ⟨a, _, rx.dp (SeqAt.canLay_of_shaped s1), ry.dp (SeqAt.canLay_of_shaped s2), s1, s2, hq _ q⟩
  · obtain ⟨⟨f1, f2⟩, q⟩ := hf
    obtain ⟨l, vs, rfl, h1, r1⟩ := ry.tuple
    obtain ⟨e1, e2⟩ := flat_in (flat_v rx f1) f1 r1 f2
    refine .inl ⟨l, vs, rfl, .inr h1, (eqv_flat (flat_v rx f1) (flat_v rx f1) f1 f1).2.1, e1, ?_⟩
    simp only [if_true, e2]
    exact hq _ q
/-! ### subscripts -/
def atD {α : Type} (xs : List α) (i : Int) : Option α := (ixN xs.length i).bind fun j => xs[j]?
def aIx : F2
  | .list xs, .int i, Q => ∃ d, atD xs i = some d ∧ Q d
  | .tuple xs, .int i, Q => ∃ d, atD xs i = some d ∧ Q d
  | .str z, .int i, Q => z.length ≤ sizeLine ∧ ∃ c, atI z.cps.toList i = some c ∧ Q (.str ⟨#[c]⟩)
  | _, _, _ => False
theorem RepAll.at {K : PySem.W.Frag} {N : Addr → Prop} {H : Hp} {vs : List V} {ds : List D} {i : Int} {d : D} (r : RepAll K N H vs ds) (e : atD ds i = some d) : ∃ v, atI vs i = some v ∧ RepV K N H v d := by
  unfold atD at e
  unfold atI
  rw [r.length]
  cases q : ixN ds.length i with
  | none => rw [q] at e; cases e
  | some j =>
    rw [q] at e
    obtain ⟨v, h1, h2⟩ := r.get (i := j) e
    exact ⟨v, h1, h2⟩
theorem o_ix : Op2 p aIx (rIx p.K) := by
  refine ⟨fun O H x y a b Q ok rx ry hf => ?_, fun a b Q Q' h q => ?_⟩
  · cases a <;> cases b <;> first | exact hf.elim | skip
    · rw [rx.str, ry.int]
      obtain ⟨hl, c, e, q⟩ := hf
      exact .inr (.inr ⟨_, _, c, rfl, rfl, hl, e, fun _ => q.now ok rep_str⟩)
    · obtain ⟨l, vs, rfl, _, h1, r1⟩ := rx.list
      obtain ⟨d, e, q⟩ := hf
      obtain ⟨v, e2, r2⟩ := r1.at e
      rw [ry.int]
      exact .inl ⟨l, vs, _, v, rfl, rfl, .of h1, e2, fun _ => q.now ok r2⟩
    · obtain ⟨l, vs, rfl, h1, r1⟩ := rx.tuple
      obtain ⟨d, e, q⟩ := hf
      obtain ⟨v, e2, r2⟩ := r1.at e
      rw [ry.int]
      exact .inr (.inl ⟨l, vs, _, v, rfl, rfl, h1, e2, fun _ => q.now ok r2⟩)
  · cases a <;> cases b <;> first | exact q.elim | (obtain ⟨d, e, q⟩ := q; exact ⟨d, e, h _ q⟩) | (obtain ⟨hl, d, e, q⟩ := q; exact ⟨hl, d, e, h _ q⟩)
end
end DD
set_option maxRecDepth 100000
set_option maxHeartbeats 2000000
/-! SemD: truth, and/or/not, chains, displays, calls of built-ins, slices, isinstance. -/
namespace DD
open PySem PySem.Spec PyProof.Rows L2
section
variable {p : Par} {X : Cx} {pos : Pos} {e a b c : Expr}
/-! ### truth -/
def truG : G1
  | .none, Q => Q false
  | .bool b, Q => Q b
  | .int i, Q => Q (i != 0)
  | .list xs, Q => Q (!xs.isEmpty)
  | .tuple xs, Q => Q (!xs.isEmpty)
  | .str y, Q => y.length ≤ sizeLine ∧ Q ((y.length : Int) != 0)
  | .dict _, _ => False
theorem mono_tru : ∀ d, M0 (truG d) := fun d Q Q' h q => by
  cases d <;> first | exact h _ q | exact ⟨q.1, h _ q.2⟩ | exact q.elim
theorem empty_of {K : PySem.W.Frag} {N : Addr → Prop} {H : Hp} {vs : List V} {ds : List D} (r : RepAll K N H vs ds) : vs.isEmpty = ds.isEmpty := by
  have := r.length
  cases vs <;> cases ds <;> first | rfl | (simp at this)
theorem truG_ok {O : Own} {H : Hp} {v : V} {d : D} {Q : Bool → Prop} (r : RepB p O H v d) (h : truG d Q) : ∃ k, TruV p.K v H k ∧ Q k := by
  cases d with
  | none => rw [r.none]; exact ⟨false, rfl, h⟩
  | bool b => rw [r.bool]; exact ⟨b, rfl, h⟩
  | int i => rw [r.int]; exact ⟨_, rfl, h⟩
  | str y => rw [r.str]; exact ⟨_, ⟨h.1, rfl⟩, h.2⟩
  | list xs =>
    obtain ⟨l, vs, rfl, _, h1, r1⟩ := r.list
    exact ⟨_, .inl ⟨vs, .of h1, rfl⟩, by rw [empty_of r1]; exact h⟩
  | tuple xs =>
    obtain ⟨l, vs, rfl, h1, r1⟩ := r.tuple
    exact ⟨_, .inr (.inl ⟨vs, h1, rfl⟩), by rw [empty_of r1]; exact h⟩
  | dict kvs => exact h.elim
def wTru (w : WE) : WT := fun ρ Q EX => w ρ (fun d => truG d Q) EX
theorem dt_val {w : WE} (h : DB p X e w) (he : ∀ whole, isTrue e X.env whole = (do let v ← whole; standAt e.pos; holding [v] (truthy v)) := by intro _; rfl) : DT p X e (wTru w) :=
  ⟨pt_use (pt_truth h.pe he) fun σ H Q hk ⟨ρ, O, EX, R, ex, hw⟩ => ⟨ρ, O, EX, R, ex, h.mono _ _ _ _ (fun d q v H1 hk1 e1 r1 => by
    obtain ⟨k, t, q⟩ := truG_ok r1 q
    exact ⟨k, t, fun hk' => q _ hk' e1⟩) hw⟩, fun ρ Q Q' EX hh q => h.mono _ _ _ _ (fun d q => mono_tru d _ _ hh q) q⟩
/-! ### and, or, not: as tests -/
def wAnd (t u : WT) : WT := fun ρ Q EX => t ρ (fun c => if c = true then u ρ Q EX else Q false) EX
def wOr (t u : WT) : WT := fun ρ Q EX => t ρ (fun c => if c = true then Q true else u ρ Q EX) EX
def wNot (t : WT) : WT := fun ρ Q EX => t ρ (fun c => Q (!c)) EX
theorem LT.next {t u : WT} {σ : L2.St} {H : Hp} {Q : Bool → Hp → Prop} {q : Par} : True := trivial
theorem DW.t {w : WT} (h : DW p X e w) : DT p X e w := ⟨h.pw.pt, h.mono⟩
theorem dw_and1 {w : WT} (h : DT p X a w) : DW p X (.BoolOp .And [a] pos) w := ⟨pw_and1 h.pt, h.mono⟩
theorem dw_or1 {w : WT} (h : DT p X a w) : DW p X (.BoolOp .Or [a] pos) w := ⟨pw_or1 h.pt, h.mono⟩
theorem mono_And {t u : WT} (h1 : MonoT t) (h2 : MonoT u) : MonoT (wAnd t u) := fun ρ Q Q' EX hh q => h1 _ _ _ _ (fun k q => by
  by_cases z : k = true
  · rw [if_pos z] at q ⊢; exact h2 _ _ _ _ hh q
  · rw [if_neg z] at q ⊢; exact hh _ q) q
theorem mono_Or {t u : WT} (h1 : MonoT t) (h2 : MonoT u) : MonoT (wOr t u) := fun ρ Q Q' EX hh q => h1 _ _ _ _ (fun k q => by
  by_cases z : k = true
  · rw [if_pos z] at q ⊢; exact hh _ q
  · rw [if_neg z] at q ⊢; exact h2 _ _ _ _ hh q) q
theorem dw_and {t u : WT} {rest : List Expr} (h : DT p X a t) (h2 : DW p X (.BoolOp .And (b :: rest) pos) u) : DW p X (.BoolOp .And (a :: b :: rest) pos) (wAnd t u) :=
  ⟨pw_use (pw_and h.pt h2.pw) fun σ H Q hk ⟨ρ, O, EX, R, ex, hw⟩ => ⟨ρ, O, EX, R, ex, h.mono _ _ _ _ (fun k q H1 hk1 e1 => by
    by_cases z : k = true
    · rw [if_pos z] at q ⊢
      exact ⟨ρ, O, EX, R.ext' e1, ex, h2.mono _ _ _ _ (fun k q H2 hk2 e2 _ => q H2 hk2 (e1.trans e2)) q⟩
    · rw [if_neg z] at q ⊢
      exact fun _ => q H1 hk1 e1) hw⟩, mono_And h.mono h2.mono⟩
theorem dw_or {t u : WT} {rest : List Expr} (h : DT p X a t) (h2 : DW p X (.BoolOp .Or (b :: rest) pos) u) : DW p X (.BoolOp .Or (a :: b :: rest) pos) (wOr t u) :=
  ⟨pw_use (pw_or h.pt h2.pw) fun σ H Q hk ⟨ρ, O, EX, R, ex, hw⟩ => ⟨ρ, O, EX, R, ex, h.mono _ _ _ _ (fun k q H1 hk1 e1 => by
    by_cases z : k = true
    · rw [if_pos z] at q ⊢
      exact fun _ => q H1 hk1 e1
    · rw [if_neg z] at q ⊢
      exact ⟨ρ, O, EX, R.ext' e1, ex, h2.mono _ _ _ _ (fun k q H2 hk2 e2 _ => q H2 hk2 (e1.trans e2)) q⟩) hw⟩, mono_Or h.mono h2.mono⟩
theorem dt_not {t : WT} (h : DT p X a t) : DT p X (.UnaryOp .Not a pos) (wNot t) :=
  ⟨pt_use (pt_not h.pt) fun σ H Q hk ⟨ρ, O, EX, R, ex, hw⟩ => ⟨ρ, O, EX, R, ex, h.mono _ _ _ _ (fun k q H1 hk1 e1 _ => q H1 hk1 e1) hw⟩, fun ρ Q Q' EX hh q => h.mono _ _ _ _ (fun k q => hh _ q) q⟩
/-! ### .. as values -/
def wAndV (wa wb : WE) : WE := fun ρ Q EX => wa ρ (fun d => truG d fun k => if k = true then wb ρ Q EX else Q d) EX
def wOrV (wa wb : WE) : WE := fun ρ Q EX => wa ρ (fun d => truG d fun k => if k = true then Q d else wb ρ Q EX) EX
def wNotV (wa : WE) : WE := fun ρ Q EX => wa ρ (fun d => truG d fun k => Q (.bool !k)) EX
theorem de_one {op : BoolOp} {w : WE} (h : DE p X a w) : DE p X (.BoolOp op [a] pos) w := ⟨pe_one h.pe, h.mono⟩
theorem de_and {wa wb : WE} {rest : List Expr} (h : DE p X a wa) (h2 : DE p X (.BoolOp .And (b :: rest) pos) wb) : DE p X (.BoolOp .And (a :: b :: rest) pos) (wAndV wa wb) :=
  ⟨pe_use (pe_andT h.pe h2.pe) fun σ H Q hk ⟨ρ, O, EX, R, ex, hw⟩ => ⟨ρ, O, EX, R, ex, h.mono _ _ _ _ (fun d q v H1 hk1 e1 r1 => by
    obtain ⟨k, t, q⟩ := truG_ok r1.b q
    refine ⟨k, t, ?_⟩
    by_cases z : k = true
    · rw [if_pos z] at q ⊢
      exact ⟨ρ, O, EX, R.ext' e1, ex, h2.mono _ _ _ _ (fun d q v H2 hk2 e2 r2 _ => q v H2 hk2 (e1.trans e2) r2) q⟩
    · rw [if_neg z] at q ⊢
      exact fun _ => q v H1 hk1 e1 r1) hw⟩, fun ρ Q Q' EX hh q => h.mono _ _ _ _ (fun d q => mono_tru d _ _ (fun k q => by
        by_cases z : k = true
        · rw [if_pos z] at q ⊢; exact h2.mono _ _ _ _ hh q
        · rw [if_neg z] at q ⊢; exact hh _ q) q) q⟩
theorem de_or {wa wb : WE} {rest : List Expr} (h : DE p X a wa) (h2 : DE p X (.BoolOp .Or (b :: rest) pos) wb) : DE p X (.BoolOp .Or (a :: b :: rest) pos) (wOrV wa wb) :=
  ⟨pe_use (pe_orT h.pe h2.pe) fun σ H Q hk ⟨ρ, O, EX, R, ex, hw⟩ => ⟨ρ, O, EX, R, ex, h.mono _ _ _ _ (fun d q v H1 hk1 e1 r1 => by
    obtain ⟨k, t, q⟩ := truG_ok r1.b q
    refine ⟨k, t, ?_⟩
    by_cases z : k = true
    · rw [if_pos z] at q ⊢
      exact fun _ => q v H1 hk1 e1 r1
    · rw [if_neg z] at q ⊢
      exact ⟨ρ, O, EX, R.ext' e1, ex, h2.mono _ _ _ _ (fun d q v H2 hk2 e2 r2 _ => q v H2 hk2 (e1.trans e2) r2) q⟩) hw⟩, fun ρ Q Q' EX hh q => h.mono _ _ _ _ (fun d q => mono_tru d _ _ (fun k q => by
        by_cases z : k = true
        · rw [if_pos z] at q ⊢; exact hh _ q
        · rw [if_neg z] at q ⊢; exact h2.mono _ _ _ _ hh q) q) q⟩
theorem de_not {wa : WE} (h : DB p X a wa) : DE p X (.UnaryOp .Not a pos) (wNotV wa) :=
  ⟨pe_use (pe_notT h.pe) fun σ H Q hk ⟨ρ, O, EX, R, ex, hw⟩ => ⟨ρ, O, EX, R, ex, h.mono _ _ _ _ (fun d q v H1 hk1 e1 r1 => by
    obtain ⟨k, t, q⟩ := truG_ok r1 q
    exact ⟨k, t, fun _ => q _ H1 hk1 e1 rep_bool⟩) hw⟩, fun ρ Q Q' EX hh q => h.mono _ _ _ _ (fun d q => mono_tru d _ _ (fun k q => hh _ q) q) q⟩
/-- a if c else b -/
def wIf (t : WT) (wa wb : WE) : WE := fun ρ Q EX => t ρ (fun k => if k = true then wa ρ Q EX else wb ρ Q EX) EX
theorem mono_If {t : WT} {wa wb : WE} (h : MonoT t) (h1 : MonoE wa) (h2 : MonoE wb) : MonoE (wIf t wa wb) := fun ρ Q Q' EX hh q => h _ _ _ _ (fun k q => by
  by_cases z : k = true
  · rw [if_pos z] at q ⊢; exact h1 _ _ _ _ hh q
  · rw [if_neg z] at q ⊢; exact h2 _ _ _ _ hh q) q
theorem de_if {t : WT} {wa wb : WE} (h : DT p X c t) (h1 : DE p X a wa) (h2 : DE p X b wb) : DE p X (.IfExp c a b pos) (wIf t wa wb) :=
  ⟨pe_use (pe_ifExp h.pt h1.pe h2.pe) fun σ H Q hk ⟨ρ, O, EX, R, ex, hw⟩ => ⟨ρ, O, EX, R, ex, h.mono _ _ _ _ (fun k q H1 hk1 e1 => by
    by_cases z : k = true
    · rw [if_pos z] at q ⊢
      exact ⟨ρ, O, EX, R.ext' e1, ex, h1.mono _ _ _ _ (fun d q v H2 hk2 e2 r2 _ => q v H2 hk2 (e1.trans e2) r2) q⟩
    · rw [if_neg z] at q ⊢
      exact ⟨ρ, O, EX, R.ext' e1, ex, h2.mono _ _ _ _ (fun d q v H2 hk2 e2 r2 _ => q v H2 hk2 (e1.trans e2) r2) q⟩) hw⟩, mono_If h.mono h1.mono h2.mono⟩
theorem df_if {t : WT} {wa wb : WE} (h : DT p X c t) (h1 : DF p X a wa) (h2 : DF p X b wb) : DF p X (.IfExp c a b pos) (wIf t wa wb) :=
  ⟨pe_use (pe_ifExp h.pt h1.pe h2.pe) fun σ H Q hk ⟨ρ, O, EX, R, ex, hw⟩ => ⟨ρ, O, EX, R, ex, h.mono _ _ _ _ (fun k q H1 hk1 e1 => by
    by_cases z : k = true
    · rw [if_pos z] at q ⊢
      exact ⟨ρ, O, EX, R.ext' e1, ex, h1.mono _ _ _ _ (fun d q v H2 hk2 e2 n r2 _ => q v H2 hk2 (e1.trans e2) (e1.none n) r2) q⟩
    · rw [if_neg z] at q ⊢
      exact ⟨ρ, O, EX, R.ext' e1, ex, h2.mono _ _ _ _ (fun d q v H2 hk2 e2 n r2 _ => q v H2 hk2 (e1.trans e2) (e1.none n) r2) q⟩) hw⟩, mono_If h.mono h1.mono h2.mono⟩
/-! ### chains -/
section
variable {op op' : CmpOp} {r r' : R2} {g g' : G2} {wa wb wc : WE}
theorem chain_run {σ : L2.St} {H : Hp} {O : Own} {ρ : Env'} {EX : EXn} {Qb : Bool → Prop} {Q : VK} (hr : Cmp2 (p.at X.K) g r) (hr' : Cmp2 (p.at X.K) g' r') (ha : DB p X a wa) (hb : DB p X b wb) (hc : DB p X c wc)
    (Rl : Rel (p.at X.K) O ρ σ H) (ex : ExOk (p.at X.K) EX) (hw : wChain g g' wa wb wc ρ Qb EX) (hq : ∀ k H', Hk X.K H' → Ext (p.at X.K) H H' → Qb k → Q (.bl k) H') :
    tChain r r' (LB (p.at X.K) wa) (LB (p.at X.K) wb) (LB (p.at X.K) wc) σ H Q := by
  refine two (S := fun a b => g a b fun k => if k = true then wc ρ (fun c => g' b c Qb) EX else Qb false) ha hb Rl ex hw fun x y da db H2 ok e rx ry q => ?_
  refine hr.ok O H2 x y da db _ _ ok rx ry q fun k q => ⟨k, rfl, ?_⟩
  by_cases z : k = true
  · rw [if_pos z] at q ⊢
    exact ⟨ρ, O, EX, Rl.ext' e, ex, hc.mono _ _ _ _ (fun dc q u H3 hk3 e3 r3 => hr'.ok O H3 y u db dc _ _ (((Rl.ext' e).ext' e3).ok hk3) (ry.ext e.wd e3) r3 q fun k q => hq k H3 hk3 (e.trans e3) q) q⟩
  · rw [if_neg z] at q ⊢
    exact hq false H2 ok.hk e q
theorem de_chain (ho : OpR X (compareOp op) r) (ho' : OpR X (compareOp op') r') (hr : Cmp2 (p.at X.K) g r) (hr' : Cmp2 (p.at X.K) g' r') (ha : DB p X a wa) (hb : DB p X b wb) (hc : DB p X c wc)
    (hm : lastMarks [op, op'] [b, c] = false := by with_unfolding_all rfl) : DE p X (.Compare a [op, op'] [b, c] pos) (wChainE g g' wa wb wc) :=
  ⟨pe_use (pe_chain ho ho' ha.pe hb.pe hc.pe hm) fun σ H Q hk ⟨ρ, O, EX, R, ex, hw⟩ => chain_run hr hr' ha hb hc R ex hw fun k H' hk' e q _ => q _ H' hk' e rep_bool,
    fun ρ Q Q' EX hh q => mono_Chain hr.mono hr'.mono ha.mono hb.mono hc.mono ρ _ _ EX (fun k q => hh _ q) q⟩
theorem dt_chain (ho : OpR X (compareOp op) r) (ho' : OpR X (compareOp op') r') (hr : Cmp2 (p.at X.K) g r) (hr' : Cmp2 (p.at X.K) g' r') (ha : DB p X a wa) (hb : DB p X b wb) (hc : DB p X c wc)
    (hm : lastMarks [op, op'] [b, c] = false := by with_unfolding_all rfl) : DT p X (.Compare a [op, op'] [b, c] pos) (wChain g g' wa wb wc) :=
  ⟨pt_use (pt_chain ho ho' ha.pe hb.pe hc.pe hm) fun σ H Q hk ⟨ρ, O, EX, R, ex, hw⟩ => chain_run hr hr' ha hb hc R ex hw fun k H' hk' e q => ⟨k, rfl, fun hk'' => q H' hk' e⟩,
    mono_Chain hr.mono hr'.mono ha.mono hb.mono hc.mono⟩
end
/-! ### displays -/
theorem small_le {n : Nat} (h : n ≤ 1000) : n ≤ sizeLine := by rw [sizeLine_eq]; omega
theorem wa_len {es : List Expr} {w : WA} (h : DA p X es w) : True := trivial
def wTupL (w : WA) : WE := fun ρ Q EX => w ρ (fun ds => ds.length ≤ sizeLine ∧ Q (.tuple ds)) EX
def wLstL (w : WA) : WE := fun ρ Q EX => w ρ (fun ds => ds.length ≤ sizeLine ∧ Q (.list ds)) EX
theorem de_tupL {es : List Expr} {k : Nat} {w : WA} (h : DA p X es w) : DE p X (.Tuple es k pos) (wTupL w) :=
  ⟨pe_use (pe_tup h.pa) fun σ H Q hk ⟨ρ, O, EX, R, ex, hw⟩ => ⟨ρ, O, EX, R, ex, h.mono _ _ _ _ (fun ds q vs H1 hk1 e1 r1 => ⟨by rw [r1.length]; exact q.1, fun c hc hk' => RE.tup (q.2.to e1) ((R.ext' e1).ok hk1) hc r1 hk'⟩) hw⟩,
    fun ρ Q Q' EX hh q => h.mono _ _ _ _ (fun ds q => ⟨q.1, hh _ q.2⟩) q⟩
theorem df_lstL {es : List Expr} {w : WA} (h : DA p X es w) : DF p X (.List es pos) (wLstL w) :=
  ⟨pe_use (pe_lst h.pa) fun σ H Q hk ⟨ρ, O, EX, R, ex, hw⟩ => ⟨ρ, O, EX, R, ex, h.mono _ _ _ _ (fun ds q vs H1 hk1 e1 r1 => ⟨by rw [r1.length]; exact q.1, fun c hc hk' => RF.list (q.2.to e1) ((R.ext' e1).ok hk1) hc r1 hk'⟩) hw⟩,
    fun ρ Q Q' EX hh q => h.mono _ _ _ _ (fun ds q => ⟨q.1, hh _ q.2⟩) q⟩
/-- that the values are as many as the expressions -/
def LenA (n : Nat) (w : WA) : Prop := ∀ ρ Q EX, w ρ Q EX → w ρ (fun ds => ds.length = n ∧ Q ds) EX
theorem lenA_nil : LenA 0 waNil := fun _ _ _ h => ⟨rfl, h⟩
theorem lenA_cons {n : Nat} {w : WE} {r : WA} (m : MonoE w) (h : LenA n r) (mr : MonoA r) : LenA (n + 1) (waCons w r) := fun ρ Q EX q => m _ _ _ _ (fun d q => mr _ _ _ _ (fun ds ⟨e, q⟩ => ⟨by rw [List.length_cons, e], q⟩) (h _ _ _ q)) q
/-- elements, of a known number -/
structure DAn (p : Par) (X : Cx) (n : Nat) (es : List Expr) (w : WA) : Prop where
  da : DA p X es w
  len : LenA n w
theorem an_nil : DAn p X 0 [] waNil := ⟨da_nil, lenA_nil⟩
theorem an_cons {n : Nat} {es : List Expr} {w : WE} {r : WA} (h : DE p X e w) (t : DAn p X n es r) (hs : starEach (e :: es) X.env = (false, eval e X.env) :: starEach es X.env := by rfl) : DAn p X (n + 1) (e :: es) (waCons w r) :=
  ⟨da_cons h t.da hs, lenA_cons h.mono t.len t.da.mono⟩
theorem de_tup {es : List Expr} {k n : Nat} {w : WA} (h : DAn p X n es w) (hn : n ≤ 1000 := by decide) : DE p X (.Tuple es k pos) (wTup w) :=
  ⟨pe_use (de_tupL h.da).pe fun σ H Q hk ⟨ρ, O, EX, R, ex, hw⟩ => ⟨ρ, O, EX, R, ex, h.da.mono _ _ _ _ (fun ds q => ⟨by rw [q.1]; exact small_le hn, RE.imp (fun _ _ _ q _ => q) q.2⟩) (h.len _ _ _ hw)⟩,
    fun ρ Q Q' EX hh q => h.da.mono _ _ _ _ (fun ds q => hh _ q) q⟩
theorem df_lst {es : List Expr} {n : Nat} {w : WA} (h : DAn p X n es w) (hn : n ≤ 1000 := by decide) : DF p X (.List es pos) (wLst w) :=
  ⟨pe_use (df_lstL h.da).pe fun σ H Q hk ⟨ρ, O, EX, R, ex, hw⟩ => ⟨ρ, O, EX, R, ex, h.da.mono _ _ _ _ (fun ds q => ⟨by rw [q.1]; exact small_le hn, fun a H' hk' e n r _ => q.2 a H' hk' e n r⟩) (h.len _ _ _ hw)⟩,
    fun ρ Q Q' EX hh q => h.da.mono _ _ _ _ (fun ds q => hh _ q) q⟩
/-! ### calls of built-ins -/
section
variable {x : Str} {id T : String} {r : List V → Hp → VK → Prop} {f : FN} {q : Pos} {es : List Expr} {w : WA}
theorem argsN {σ : L2.St} {H : Hp} {Q : VK} {O : Own} {ρ : Env'} {EX : EXn} (hr : OpN (p.at X.K) f r) (h : DBs p X es w) (R : Rel (p.at X.K) O ρ σ H) (ex : ExOk (p.at X.K) EX) (hw : wOpN f w ρ (RE (p.at X.K) O H Q) EX) : tCB r (LBs (p.at X.K) w) σ H (fun v H' => Hk X.K H' → Q v H') :=
  ⟨ρ, O, EX, R, ex, h.mono _ _ _ _ (fun ds q vs H1 hk1 e1 r1 => hr.ok O H1 vs ds Q ((R.ext' e1).ok hk1) r1 (hr.mono _ _ _ (fun d q => q.to e1) q)) hw⟩
theorem argsNF {σ : L2.St} {H : Hp} {Q : VK} {O : Own} {ρ : Env'} {EX : EXn} (hr : OpNF (p.at X.K) f r) (h : DBs p X es w) (R : Rel (p.at X.K) O ρ σ H) (ex : ExOk (p.at X.K) EX) (hw : wOpN f w ρ (RF (p.at X.K) O H Q) EX) : tCB r (LBs (p.at X.K) w) σ H (fun v H' => Hk X.K H' → Q v H') :=
  ⟨ρ, O, EX, R, ex, h.mono _ _ _ _ (fun ds q vs H1 hk1 e1 r1 => hr.ok O H1 vs ds Q ((R.ext' e1).ok hk1) r1 (hr.mono _ _ _ (fun d q => q.to e1) q)) hw⟩
theorem de_callB (hc : CallR X (.builtin id) r) (hr : OpN (p.at X.K) f r) (hm : X.mg x = none) (hv : bootBuiltins x = some (.builtin id)) (ha : DBs p X (e :: es) w) (hg : Gl X x := by rfl) (hn : x ≠ "__name__" := by decide) (hdb : (x == ("__debug__" : Str)) = false := by decide)
    (he : starEach (e :: es) X.env = (false, eval e X.env) :: starEach es X.env := by rfl) (hpl : (backTo pos (starEach es X.env)).any (·.1) = false := by rfl) : DE p X (.Call (.Name x q) (e :: es) [] pos) (wOpN f w) :=
  ⟨pe_use (pe_callB hc hg hm hv ha.pa hn hdb he hpl) fun σ H Q hk ⟨ρ, O, EX, R, ex, hw⟩ => argsN hr ha R ex hw, mono_OpN hr.mono ha.mono⟩
theorem df_callB (hc : CallR X (.builtin id) r) (hr : OpNF (p.at X.K) f r) (hm : X.mg x = none) (hv : bootBuiltins x = some (.builtin id)) (ha : DBs p X (e :: es) w) (hg : Gl X x := by rfl) (hn : x ≠ "__name__" := by decide) (hdb : (x == ("__debug__" : Str)) = false := by decide)
    (he : starEach (e :: es) X.env = (false, eval e X.env) :: starEach es X.env := by rfl) (hpl : (backTo pos (starEach es X.env)).any (·.1) = false := by rfl) : DF p X (.Call (.Name x q) (e :: es) [] pos) (wOpN f w) :=
  ⟨pe_use (pe_callB hc hg hm hv ha.pa hn hdb he hpl) fun σ H Q hk ⟨ρ, O, EX, R, ex, hw⟩ => argsNF hr ha R ex hw, mono_OpN hr.mono ha.mono⟩
theorem de_callTy (hc : CallR X (.type T) r) (hr : OpN (p.at X.K) f r) (hm : X.mg x = none) (hv : bootBuiltins x = some (.type T)) (ha : DBs p X (e :: es) w) (hg : Gl X x := by rfl) (hn : x ≠ "__name__" := by decide) (hdb : (x == ("__debug__" : Str)) = false := by decide)
    (he : starEach (e :: es) X.env = (false, eval e X.env) :: starEach es X.env := by rfl) (hpl : (backTo pos (starEach es X.env)).any (·.1) = false := by rfl) : DE p X (.Call (.Name x q) (e :: es) [] pos) (wOpN f w) :=
  ⟨pe_use (pe_callTy hc hg hm hv ha.pa hn hdb he hpl) fun σ H Q hk ⟨ρ, O, EX, R, ex, hw⟩ => argsN hr ha R ex hw, mono_OpN hr.mono ha.mono⟩
theorem df_callTy (hc : CallR X (.type T) r) (hr : OpNF (p.at X.K) f r) (hm : X.mg x = none) (hv : bootBuiltins x = some (.type T)) (ha : DBs p X (e :: es) w) (hg : Gl X x := by rfl) (hn : x ≠ "__name__" := by decide) (hdb : (x == ("__debug__" : Str)) = false := by decide)
    (he : starEach (e :: es) X.env = (false, eval e X.env) :: starEach es X.env := by rfl) (hpl : (backTo pos (starEach es X.env)).any (·.1) = false := by rfl) : DF p X (.Call (.Name x q) (e :: es) [] pos) (wOpN f w) :=
  ⟨pe_use (pe_callTy hc hg hm hv ha.pa hn hdb he hpl) fun σ H Q hk ⟨ρ, O, EX, R, ex, hw⟩ => argsNF hr ha R ex hw, mono_OpN hr.mono ha.mono⟩
end
/-- one argument -/
def f1 (f : F1) : FN
  | [d], Q => f d Q
  | _, _ => False
def f2 (f : F2) : FN
  | [d, e], Q => f d e Q
  | _, _ => False
theorem mono_f1 {f : F1} (h : ∀ d, M0 (f d)) : ∀ ds, M0 (f1 f ds) := fun ds Q Q' hh q => by
  unfold f1 at q ⊢
  split at q
  · exact h _ _ _ hh q
  · exact q.elim
theorem mono_f2 {f : F2} (h : ∀ d e, M0 (f d e)) : ∀ ds, M0 (f2 f ds) := fun ds Q Q' hh q => by
  unfold f2 at q ⊢
  split at q
  · exact h _ _ _ _ hh q
  · exact q.elim
theorem op1 {f : F1} {r : List V → Hp → VK → Prop} (m : ∀ d, M0 (f d)) (h : ∀ O H x a (Q : VK), Ok p O H → RepB p O H x a → f a (RE p O H Q) → r [x] H (fun v H' => Hk p.K H' → Q v H')) : OpN p (f1 f) r := by
  refine ⟨fun O H xs ds Q ok r hf => ?_, mono_f1 m⟩
  cases r with
  | nil => exact hf.elim
  | cons r1 t => cases t with
    | nil => exact h O H _ _ Q ok r1 hf
    | cons _ _ => exact hf.elim
theorem op1F {f : F1} {r : List V → Hp → VK → Prop} (m : ∀ d, M0 (f d)) (h : ∀ O H x a (Q : VK), Ok p O H → RepB p O H x a → f a (RF p O H Q) → r [x] H (fun v H' => Hk p.K H' → Q v H')) : OpNF p (f1 f) r := by
  refine ⟨fun O H xs ds Q ok r hf => ?_, mono_f1 m⟩
  cases r with
  | nil => exact hf.elim
  | cons r1 t => cases t with
    | nil => exact h O H _ _ Q ok r1 hf
    | cons _ _ => exact hf.elim
theorem op2 {f : F2} {r : List V → Hp → VK → Prop} (m : ∀ d e, M0 (f d e)) (h : ∀ O H x y a b (Q : VK), Ok p O H → RepB p O H x a → RepB p O H y b → f a b (RE p O H Q) → r [x, y] H (fun v H' => Hk p.K H' → Q v H')) : OpN p (f2 f) r := by
  refine ⟨fun O H xs ds Q ok r hf => ?_, mono_f2 m⟩
  cases r with
  | nil => exact hf.elim
  | cons r1 t => cases t with
    | nil => exact hf.elim
    | cons r2 t => cases t with
      | nil => exact h O H _ _ _ _ Q ok r1 r2 hf
      | cons _ _ => exact hf.elim
def aLen : F1
  | .list xs, Q => Q (.int xs.length)
  | .tuple xs, Q => Q (.int xs.length)
  | .str x, Q => x.length ≤ sizeLine ∧ Q (.int x.length)
  | _, _ => False
theorem n_len : OpN p (f1 aLen) (fun xs H Q => ∃ x n, xs = [x] ∧ LenV p.K x H n ∧ Q (.int n) H) := by
  refine op1 (fun d Q Q' h q => ?_) fun O H x a Q ok r hf => ?_
  · cases d <;> first | exact h _ q | exact ⟨q.1, h _ q.2⟩ | exact q.elim
  · cases a <;> first | exact hf.elim | skip
    · rw [r.str]; exact ⟨_, _, rfl, ⟨hf.1, rfl⟩, fun _ => RE.now hf.2 ok rep_int⟩
    · obtain ⟨l, vs, rfl, _, h1, r1⟩ := r.list
      exact ⟨_, vs.length, rfl, .inl ⟨vs, .of h1, rfl⟩, fun _ => by rw [r1.length]; exact RE.now hf ok rep_int⟩
    · obtain ⟨l, vs, rfl, h1, r1⟩ := r.tuple
      exact ⟨_, vs.length, rfl, .inr ⟨vs, h1, rfl⟩, fun _ => by rw [r1.length]; exact RE.now hf ok rep_int⟩
def aAbs : F1
  | .int i, Q => Q (.int (if i < 0 then -i else i))
  | _, _ => False
theorem n_abs : OpN p (f1 aAbs) (fun xs H Q => ∃ i, xs = [.int i] ∧ Q (.int (if i < 0 then -i else i)) H) := by
  refine op1 (fun d Q Q' h q => ?_) fun O H x a Q ok r hf => ?_
  · cases d <;> first | exact h _ q | exact q.elim
  · cases a <;> first | exact hf.elim | skip
    rw [r.int]; exact ⟨_, rfl, fun _ => RE.now hf ok rep_int⟩
def aMax2 : F2
  | .int i, .int j, Q => Q (.int (max i j))
  | _, _, _ => False
def aMin2 : F2
  | .int i, .int j, Q => Q (.int (min i j))
  | _, _, _ => False
theorem n_max2 : OpN p (f2 aMax2) (fun xs H Q => ∃ i j, xs = [.int i, .int j] ∧ Q (.int (if j > i then j else i)) H) := by
  refine op2 (fun d e Q Q' h q => ?_) fun O H x y a b Q ok r r' hf => ?_
  · cases d <;> cases e <;> first | exact h _ q | exact q.elim
  · cases a <;> cases b <;> first | exact hf.elim | skip
    rename_i i j
    rw [r.int, r'.int]
    refine ⟨i, j, rfl, fun _ => ?_⟩
    have e : (if j > i then j else i) = max i j := by rw [Int.max_def]; split <;> split <;> omega
    rw [e]
    exact RE.now hf ok rep_int
theorem n_min2 : OpN p (f2 aMin2) (fun xs H Q => ∃ i j, xs = [.int i, .int j] ∧ Q (.int (if j < i then j else i)) H) := by
  refine op2 (fun d e Q Q' h q => ?_) fun O H x y a b Q ok r r' hf => ?_
  · cases d <;> cases e <;> first | exact h _ q | exact q.elim
  · cases a <;> cases b <;> first | exact hf.elim | skip
    rename_i i j
    rw [r.int, r'.int]
    refine ⟨i, j, rfl, fun _ => ?_⟩
    have e : (if j < i then j else i) = min i j := by rw [Int.min_def]; split <;> split <;> omega
    rw [e]
    exact RE.now hf ok rep_int
def aSum : F1
  | .list xs, Q => ∃ ns, intsD xs = some ns ∧ Q (.int ns.sum)
  | _, _ => False
theorem n_sum : OpN p (f1 aSum) (rSum p.K) := by
  refine op1 (fun d Q Q' h q => ?_) fun O H x a Q ok r hf => ?_
  · cases d <;> first | (obtain ⟨ns, e, q⟩ := q; exact ⟨ns, e, h _ q⟩) | exact q.elim
  · cases a <;> first | exact hf.elim | skip
    obtain ⟨l, vs, rfl, _, h1, r1⟩ := r.list
    obtain ⟨ns, e, q⟩ := hf
    rw [intsD_vals r1 e] at h1
    exact ⟨l, ns, rfl, .of h1, fun _ => q.now ok rep_int⟩
def aSorted : F1
  | .list xs, Q => ∃ ns, intsD xs = some ns ∧ ∀ ns' : List Int, ns'.Perm ns → ns'.Pairwise (· ≤ ·) → Q (.list (ns'.map PyData.int))
  | _, _ => False
theorem n_sorted : OpNF p (f1 aSorted) (rSortedI p.K) := by
  refine op1F (fun d Q Q' h q => ?_) fun O H x a Q ok r hf => ?_
  · cases d <;> first | (obtain ⟨ns, e, q⟩ := q; exact ⟨ns, e, fun ns' h1 h2 => h _ (q ns' h1 h2)⟩) | exact q.elim
  · cases a <;> first | exact hf.elim | skip
    obtain ⟨l, vs, rfl, _, h1, r1⟩ := r.list
    obtain ⟨ns, e, q⟩ := hf
    rw [intsD_vals r1 e] at h1
    exact ⟨l, ns, rfl, .of h1, fun ns' c h2 h3 hc hk => (q ns' h2 h3).list ok hc (RepAll.ints _) hk⟩
/-- list(..), tuple(..) of a list, a tuple -/
def aListOf : F1
  | .list xs, Q => Q (.list xs)
  | .tuple xs, Q => Q (.list xs)
  | _, _ => False
def aTupleOf : F1
  | .list xs, Q => Q (.tuple xs)
  | .tuple xs, Q => Q (.tuple xs)
  | _, _ => False
theorem n_listOf : OpNF p (f1 aListOf) (fun xs H Q => ∃ a ys, xs = [.ref a] ∧ (SqL p.K H a ys ∨ SqT p.K H a ys) ∧ ∀ l, H l = none → Q (.ref l) (upd H l (.lst ys))) := by
  refine op1F (fun d Q Q' h q => ?_) fun O H x a Q ok r hf => ?_
  · cases d <;> first | exact h _ q | exact q.elim
  · cases a <;> first | exact hf.elim | skip
    · obtain ⟨l, vs, rfl, _, h1, r1⟩ := r.list
      exact ⟨l, vs, rfl, .inl (.of h1), fun c hc hk => RF.list hf ok hc r1 hk⟩
    · obtain ⟨l, vs, rfl, h1, r1⟩ := r.tuple
      exact ⟨l, vs, rfl, .inr h1, fun c hc hk => RF.list hf ok hc r1 hk⟩
theorem n_tupleOf : OpN p (f1 aTupleOf) (fun xs H Q => ∃ a ys, xs = [.ref a] ∧ ((SqL p.K H a ys ∧ ∀ l, H l = none → Q (.ref l) (upd H l (.tup ys))) ∨ (SqT p.K H a ys ∧ Q (.ref a) H))) := by
  refine op1 (fun d Q Q' h q => ?_) fun O H x a Q ok r hf => ?_
  · cases d <;> first | exact h _ q | exact q.elim
  · cases a <;> first | exact hf.elim | skip
    · obtain ⟨l, vs, rfl, _, h1, r1⟩ := r.list
      exact ⟨l, vs, rfl, .inl ⟨.of h1, fun c hc hk => RE.tup hf ok hc r1 hk⟩⟩
    · obtain ⟨l, vs, rfl, h1, r1⟩ := r.tuple
      exact ⟨l, vs, rfl, .inr ⟨h1, fun _ => RE.now hf ok (rep_tuple h1 r1)⟩⟩
def aInt : F1
  | .int i, Q => Q (.int i)
  | .bool k, Q => Q (.int (if k then 1 else 0))
  | _, _ => False
theorem n_int : OpN p (f1 aInt) (fun xs H Q => (∃ i, xs = [.int i] ∧ Q (.int i) H) ∨ ∃ k, xs = [.bl k] ∧ Q (.int (if k then 1 else 0)) H) := by
  refine op1 (fun d Q Q' h q => ?_) fun O H x a Q ok r hf => ?_
  · cases d <;> first | exact h _ q | exact q.elim
  · cases a <;> first | exact hf.elim | skip
    · rw [r.bool]; exact .inr ⟨_, rfl, fun _ => RE.now hf ok rep_int⟩
    · rw [r.int]; exact .inl ⟨_, rfl, fun _ => RE.now hf ok rep_int⟩
/-! ### slices -/
/-- a part -/
def woNone : Env' → (Option Int → Prop) → EXn → Prop := fun _ Q _ => Q none
def woSome (w : WE) : Env' → (Option Int → Prop) → EXn → Prop := fun ρ Q EX => w ρ (fun d => ∃ i, d = .int i ∧ Q (some i)) EX
structure DO (p : Par) (X : Cx) (e : Option Expr) (w : Env' → (Option Int → Prop) → EXn → Prop) : Prop where
  po : PO X e (fun σ H Q => At (p.at X.K) σ H fun O ρ EX => w ρ (fun i => ∀ H', Hk X.K H' → Ext (p.at X.K) H H' → Q i H') EX)
  mono : ∀ ρ Q Q' EX, (∀ d, Q d → Q' d) → w ρ Q EX → w ρ Q' EX
theorem po_use {e : Option Expr} {t t' : TO} (h : PO X e t) (imp : ∀ σ H Q, Hk X.K H → t' σ H Q → t σ H Q) : PO X e t' :=
  ⟨fun pins s σ H Q I ht => h.run pins s σ H _ I (imp σ H Q (hk_of I) ht)⟩
theorem pe_hk {t : TE} (h : PE X e t) : PE X e (fun σ H Q => t σ H fun v H' => Hk X.K H' → Q v H') :=
  ⟨fun pins s σ H Q I ht => thn (h.run pins s σ H _ I ht) fun _ _ ⟨x, H', I', r, q⟩ => ⟨x, H', I', r, q (hk_of I')⟩⟩
theorem do_none : DO p X none woNone := ⟨po_use po_none fun σ H Q hk ⟨ρ, O, EX, R, ex, hw⟩ => hw H hk (Ext.refl R.wd), fun _ _ _ _ h q => h _ q⟩
theorem do_some {w : WE} (h : DB p X e w) : DO p X (some e) (woSome w) :=
  ⟨po_use (po_some (pe_hk h.pe)) fun σ H Q hk ⟨ρ, O, EX, R, ex, hw⟩ => ⟨ρ, O, EX, R, ex, h.mono _ _ _ _ (fun d ⟨i, z, q⟩ v H1 hk1 e1 r1 hk' => by
    subst z
    rw [r1.int]
    exact ⟨i, rfl, q _ hk' e1⟩) hw⟩, fun ρ Q Q' EX hh q => h.mono _ _ _ _ (fun d ⟨i, z, q⟩ => ⟨i, z, hh _ q⟩) q⟩
def cutD {α : Type} (xs : List α) (lo hi : Option Int) : List α := (xs.drop (HT.sIx xs.length 0 lo)).take (HT.sIx xs.length xs.length hi - HT.sIx xs.length 0 lo)
def aCut (lo hi : Option Int) : F1
  | .list xs, Q => Q (.list (cutD xs lo hi))
  | .tuple xs, Q => Q (.tuple (cutD xs lo hi))
  | _, _ => False
theorem mono_cut {lo hi : Option Int} : ∀ d, M0 (aCut lo hi d) := fun d Q Q' h q => by
  cases d <;> first | exact h _ q | exact q.elim
theorem RepAll.cut {K : PySem.W.Frag} {N : Addr → Prop} {H : Hp} {vs : List V} {ds : List D} (r : RepAll K N H vs ds) (lo hi : Option Int) : RepAll K N H (cutV vs lo hi) (cutD ds lo hi) := by
  unfold cutV cutD
  rw [r.length]
  exact (r.drop _).take _
def rSlD (K : PySem.W.Frag) : V → Option Int → Option Int → Hp → VK → Prop := fun x lo hi H Q => rSlL K x lo hi H Q ∨ rSlA K x lo hi H Q
theorem sl_D : SlR X (rSlD X.K) := sl_list.or sl_tupA
def wCut (w : WE) (wl wh : Env' → (Option Int → Prop) → EXn → Prop) : WE := fun ρ Q EX => w ρ (fun d => wl ρ (fun lo => wh ρ (fun hi => aCut lo hi d Q) EX) EX) EX
theorem cut_whole {vs : List V} {lo hi : Option Int} (h : HT.sIx vs.length 0 lo = 0 ∧ HT.sIx vs.length vs.length hi = vs.length) : cutV vs lo hi = vs := by
  unfold cutV
  rw [h.1, h.2, List.drop_zero, Nat.sub_zero, List.take_length]
theorem mono_Cut {w : WE} {wl wh : Env' → (Option Int → Prop) → EXn → Prop} {lo hi : Option Expr} (h : MonoE w) (hl : DO p X lo wl) (hh : DO p X hi wh) : MonoE (wCut w wl wh) := fun ρ Q Q' EX h2 q =>
  h _ _ _ _ (fun d q => hl.mono _ _ _ _ (fun lo q => hh.mono _ _ _ _ (fun hi q => mono_cut d _ _ h2 q) q) q) q
theorem de_cut {w : WE} {wl wh : Env' → (Option Int → Prop) → EXn → Prop} {lo hi : Option Expr} {p2 : Pos} (h : DB p X e w) (hl : DO p X lo wl) (hh : DO p X hi wh) : DE p X (.Subscript e (.Slice lo hi none p2) pos) (wCut w wl wh) := by
  refine ⟨pe_use (pe_slice sl_D (pe_hk h.pe) hl.po hh.po) fun σ H Q hk ⟨ρ, O, EX, R, ex, hw⟩ => ⟨ρ, O, EX, R, ex, h.mono _ _ _ _ (fun d q v H1 hk1 e1 r1 _ => ⟨ρ, O, EX, R.ext' e1, ex, hl.mono _ _ _ _ (fun lo q H2 hk2 e2 => ⟨ρ, O, EX, (R.ext' e1).ext' e2, ex,
    hh.mono _ _ _ _ (fun hi q H3 hk3 e3 => ?_) q⟩) q⟩) hw⟩, mono_Cut h.mono hl hh⟩
  have r3 := (r1.ext e1.wd e2).ext e2.wd e3
  have e13 := (e1.trans e2).trans e3
  have ok := (R.ext' e13).ok hk3
  cases d <;> first | exact q.elim | skip
  · obtain ⟨l, vs, rfl, _, h1, r4⟩ := r3.list
    exact .inl ⟨l, vs, rfl, .of h1, fun c hc hk' => RF.list (RE.f ok (RE.to q e13)) ok hc (r4.cut lo hi) hk'⟩
  · obtain ⟨l, vs, rfl, h1, r4⟩ := r3.tuple
    refine .inr ⟨l, vs, rfl, h1, fun z hk' => ?_, fun _ c hc hk' => RE.tup (RE.to q e13) ok hc (r4.cut lo hi) hk'⟩
    have r5 := r4.cut lo hi
    rw [cut_whole z] at r5
    exact RE.now (RE.to q e13) ok (rep_tuple h1 r5)
theorem df_cut {w : WE} {wl wh : Env' → (Option Int → Prop) → EXn → Prop} {lo hi : Option Expr} {p2 : Pos} (h : DB p X e w) (hl : DO p X lo wl) (hh : DO p X hi wh) : DF p X (.Subscript e (.Slice lo hi none p2) pos) (fun ρ Q EX => wCut w wl wh ρ (fun d => (∃ xs, d = .list xs) ∧ Q d) EX) := by
  refine ⟨pe_use (pe_slice sl_D (pe_hk h.pe) hl.po hh.po) fun σ H Q hk ⟨ρ, O, EX, R, ex, hw⟩ => ⟨ρ, O, EX, R, ex, h.mono _ _ _ _ (fun d q v H1 hk1 e1 r1 _ => ⟨ρ, O, EX, R.ext' e1, ex, hl.mono _ _ _ _ (fun lo q H2 hk2 e2 => ⟨ρ, O, EX, (R.ext' e1).ext' e2, ex,
    hh.mono _ _ _ _ (fun hi q H3 hk3 e3 => ?_) q⟩) q⟩) hw⟩, fun ρ Q Q' EX h2 q => mono_Cut h.mono hl hh _ _ _ _ (fun d q => ⟨q.1, h2 _ q.2⟩) q⟩
  have r3 := (r1.ext e1.wd e2).ext e2.wd e3
  have e13 := (e1.trans e2).trans e3
  have ok := (R.ext' e13).ok hk3
  cases d <;> first | exact q.elim | skip
  · obtain ⟨l, vs, rfl, _, h1, r4⟩ := r3.list
    exact .inl ⟨l, vs, rfl, .of h1, fun c hc hk' => RF.list (RF.to q.2 e13) ok hc (r4.cut lo hi) hk'⟩
  · obtain ⟨⟨xs, z⟩, _⟩ := q
    cases z
def wRev (w : WE) : WE := fun ρ Q EX => w ρ (fun d => ∃ xs, d = .list xs ∧ Q (.list xs.reverse)) EX
theorem df_rev {w : WE} {k : Nat} {p1 p2 p3 : Pos} (h : DB p X e w) : DF p X (.Subscript e (.Slice none none (some (.UnaryOp .USub (.Constant (.int 1) k p1) p2)) p3) pos) (wRev w) :=
  ⟨pe_use (pe_revL h.pe) fun σ H Q hk ⟨ρ, O, EX, R, ex, hw⟩ => ⟨ρ, O, EX, R, ex, h.mono _ _ _ _ (fun d ⟨xs, z, q⟩ v H1 hk1 e1 r1 => by
    subst z
    obtain ⟨l, vs, rfl, _, h1, r2⟩ := r1.list
    exact ⟨l, vs, rfl, .of h1, fun c hc hk' => RF.list (q.to e1) ((R.ext' e1).ok hk1) hc r2.reverse hk'⟩) hw⟩, fun ρ Q Q' EX hh q => h.mono _ _ _ _ (fun d ⟨xs, z, q⟩ => ⟨xs, z, hh _ q⟩) q⟩
/-- unary minus -/
def wNeg (w : WE) : WE := fun ρ Q EX => w ρ (fun d => ∃ i, d = .int i ∧ Q (.int (-i))) EX
theorem de_neg {w : WE} (h : DB p X e w) : DE p X (.UnaryOp .USub e pos) (wNeg w) :=
  ⟨pe_use (pe_un un_neg h.pe) fun σ H Q hk ⟨ρ, O, EX, R, ex, hw⟩ => ⟨ρ, O, EX, R, ex, h.mono _ _ _ _ (fun d ⟨i, z, q⟩ v H1 hk1 e1 r1 => by
    subst z
    rw [r1.int]
    exact ⟨i, rfl, fun _ => q _ H1 hk1 e1 rep_int⟩) hw⟩, fun ρ Q Q' EX hh q => h.mono _ _ _ _ (fun d ⟨i, z, q⟩ => ⟨i, z, hh _ q⟩) q⟩
/-! ### isinstance -/
def tyD : D → String
  | .none => "NoneType"
  | .bool _ => "bool"
  | .int _ => "int"
  | .str _ => "str"
  | .list _ => "list"
  | .tuple _ => "tuple"
  | .dict _ => "dict"
end
end DD
set_option maxRecDepth 100000
set_option maxHeartbeats 2000000
/-! SemE: max, min of rows of ints (with default), isinstance. -/
namespace DD
open PySem PySem.Spec PyProof.Rows L2
/-! ### max, min -/
theorem reads_ints {h : Heap} : ∀ {ns : List Int} {us : List Value}, Vals (ns.map V.int) us → ReadsAll h us (ns.map PyData.int) []
  | [], _, .nil => .nil
  | n :: ns, _, .cons r t => by
    obtain ⟨k, rfl⟩ := r
    exact ReadsAll.cons (as := []) (bs := []) (.int n k) (reads_ints t)
theorem alike_ints (ns : List Int) : PySem.W.AlikeAll (ns.map PyData.int) := by
  refine ⟨fun x hx y hy => ?_, fun x hx => ?_⟩
  · obtain ⟨i, _, rfl⟩ := List.mem_map.mp hx
    obtain ⟨j, _, rfl⟩ := List.mem_map.mp hy
    rfl
  · obtain ⟨i, _, rfl⟩ := List.mem_map.mp hx
    simp
theorem depth_ints (ns : List Int) : PyData.depthAll (ns.map PyData.int) = 0 := by
  induction ns with
  | nil => rfl
  | cons n r ih => rw [List.map_cons, PyData.depthAll, ih]; rfl
def maxI (n : Int) (ns : List Int) : Int := ns.foldl max n
def minI (n : Int) (ns : List Int) : Int := ns.foldl min n
def rMM (K : PySem.W.Frag) (f : Int → List Int → Int) : List V → Hp → VK → Prop := fun vs H Q => ∃ (a : Addr) (n : Int) (ns : List Int), vs = [.ref a] ∧ (SqL K H a ((n :: ns).map V.int) ∨ SqT K H a ((n :: ns).map V.int)) ∧ Q (.int (f n ns)) H
/-- with default: a row that may be empty -/
def rMMd (K : PySem.W.Frag) (f : Int → List Int → Int) : List V → List V → Hp → VK → Prop := fun vs zs H Q => ∃ (a : Addr) (ns : List Int) (z : V), vs = [.ref a] ∧ zs = [z] ∧ (SqL K H a (ns.map V.int) ∨ SqT K H a (ns.map V.int)) ∧
  match ns with
  | [] => Q z H
  | n :: ns => Q (.int (f n ns)) H
section
variable {X : Cx}
theorem reads_int {h : Heap} {v : Value} {i : Int} {as : List Addr} (r : Reads h v (.int i) as) : ∃ t, v = .int i t := by
  cases r; exact ⟨_, rfl⟩
theorem cr_maxA (hc : X.calm = true) (hu : X.A.units + 64 < cLine) : CallR X (.builtin "max") (rMM X.K maxI) := by
  intro pins s σ H vs us Q I r h
  obtain ⟨a, n, ns, rfl, hs, q⟩ := h
  rw [Vals.ref1 r]
  rcases hs with hs | hs
  · obtain ⟨its, rv, hl, _⟩ := I.list hs
    refine PySem.W.max_list_data (I.ok.hd hc) hl.isList (x := .int n) (xs := ns.map PyData.int) (as := []) (by simpa using reads_ints rv) (alike_ints (n :: ns)) (by rw [show (PyData.int n :: ns.map PyData.int) = (n :: ns).map PyData.int from rfl, depth_ints]; omega) fun i v h' tk bs _ rd hk => ?_
    rw [PySem.W.maxD_ints] at rd
    obtain ⟨t, rfl⟩ := reads_int rd
    exact ⟨.int _, H, I.kept hk, ⟨_, rfl⟩, q⟩
  · obtain ⟨its, rv, hl, _⟩ := I.tuple hs
    refine PySem.W.max_tuple_data (I.ok.hd hc) hl (x := .int n) (xs := ns.map PyData.int) (as := []) (by simpa using reads_ints rv) (alike_ints (n :: ns)) (by rw [show (PyData.int n :: ns.map PyData.int) = (n :: ns).map PyData.int from rfl, depth_ints]; omega) fun i v h' tk bs _ rd hk => ?_
    rw [PySem.W.maxD_ints] at rd
    obtain ⟨t, rfl⟩ := reads_int rd
    exact ⟨.int _, H, I.kept hk, ⟨_, rfl⟩, q⟩
theorem cr_minA (hc : X.calm = true) (hu : X.A.units + 64 < cLine) : CallR X (.builtin "min") (rMM X.K minI) := by
  intro pins s σ H vs us Q I r h
  obtain ⟨a, n, ns, rfl, hs, q⟩ := h
  rw [Vals.ref1 r]
  rcases hs with hs | hs
  · obtain ⟨its, rv, hl, _⟩ := I.list hs
    refine PySem.W.min_list_data (I.ok.hd hc) hl.isList (x := .int n) (xs := ns.map PyData.int) (as := []) (by simpa using reads_ints rv) (alike_ints (n :: ns)) (by rw [show (PyData.int n :: ns.map PyData.int) = (n :: ns).map PyData.int from rfl, depth_ints]; omega) fun i v h' tk bs _ rd hk => ?_
    rw [PySem.W.minD_ints] at rd
    obtain ⟨t, rfl⟩ := reads_int rd
    exact ⟨.int _, H, I.kept hk, ⟨_, rfl⟩, q⟩
  · obtain ⟨its, rv, hl, _⟩ := I.tuple hs
    refine PySem.W.min_tuple_data (I.ok.hd hc) hl (x := .int n) (xs := ns.map PyData.int) (as := []) (by simpa using reads_ints rv) (alike_ints (n :: ns)) (by rw [show (PyData.int n :: ns.map PyData.int) = (n :: ns).map PyData.int from rfl, depth_ints]; omega) fun i v h' tk bs _ rd hk => ?_
    rw [PySem.W.minD_ints] at rd
    obtain ⟨t, rfl⟩ := reads_int rd
    exact ⟨.int _, H, I.kept hk, ⟨_, rfl⟩, q⟩
theorem crk_maxA (hc : X.calm = true) (hu : X.A.units + 64 < cLine) : CallRK X (.builtin "max") ["default"] (rMMd X.K maxI) := by
  intro pins s σ H vs zs us ws Q I r r' h
  obtain ⟨a, ns, z, rfl, rfl, hs, q⟩ := h
  rw [Vals.ref1 r]
  obtain ⟨w, rfl, rz⟩ := Vals.one r'
  show wpAny _ _ (call (.builtin "max") [.ref a] [(Str.ofString "default", w)]) _ _ _
  rcases hs with hs | hs
  · obtain ⟨its, rv, hl, _⟩ := I.list hs
    refine PySem.W.max_list_default (I.ok.hd hc) hl.isList (xs := ns.map PyData.int) (as := []) (by simpa using reads_ints rv) (alike_ints ns) (by rw [depth_ints]; omega) (fun e h' tk hk => ?_) fun y ys i v h' tk bs e _ rd hk => ?_
    · rw [List.map_eq_nil_iff] at e
      subst e
      exact ⟨z, H, I.kept hk, rz, q⟩
    · obtain ⟨n, ns', rfl, rfl, rfl⟩ := List.map_eq_cons_iff.mp e
      rw [PySem.W.maxD_ints] at rd
      obtain ⟨t, rfl⟩ := reads_int rd
      exact ⟨.int _, H, I.kept hk, ⟨_, rfl⟩, q⟩
  · obtain ⟨its, rv, hl, _⟩ := I.tuple hs
    refine PySem.W.max_tuple_default (I.ok.hd hc) hl (xs := ns.map PyData.int) (as := []) (by simpa using reads_ints rv) (alike_ints ns) (by rw [depth_ints]; omega) (fun e h' tk hk => ?_) fun y ys i v h' tk bs e _ rd hk => ?_
    · rw [List.map_eq_nil_iff] at e
      subst e
      exact ⟨z, H, I.kept hk, rz, q⟩
    · obtain ⟨n, ns', rfl, rfl, rfl⟩ := List.map_eq_cons_iff.mp e
      rw [PySem.W.maxD_ints] at rd
      obtain ⟨t, rfl⟩ := reads_int rd
      exact ⟨.int _, H, I.kept hk, ⟨_, rfl⟩, q⟩
end
section
variable {p : Par} {X : Cx} {pos : Pos} {e a b c : Expr}
def rowD : D → Option (List Int)
  | .list xs => intsD xs
  | .tuple xs => intsD xs
  | _ => none
def aBest (f : Int → List Int → Int) : F1 := fun d Q => ∃ n ns, rowD d = some (n :: ns) ∧ Q (.int (f n ns))
theorem row_of {O : Own} {H : Hp} {v : V} {d : D} {ns : List Int} (r : RepB p O H v d) (e : rowD d = some ns) : ∃ a, v = .ref a ∧ (SqL p.K H a (ns.map V.int) ∨ SqT p.K H a (ns.map V.int)) := by
  cases d <;> first | (exact absurd e (fun z => by cases z)) | skip
  · obtain ⟨l, vs, rfl, _, h1, r1⟩ := r.list
    rw [intsD_vals r1 e] at h1
    exact ⟨l, rfl, .inl (.of h1)⟩
  · obtain ⟨l, vs, rfl, h1, r1⟩ := r.tuple
    rw [intsD_vals r1 e] at h1
    exact ⟨l, rfl, .inr h1⟩
theorem n_best {f : Int → List Int → Int} : OpN p (f1 (aBest f)) (rMM p.K f) := by
  refine op1 (fun d Q Q' h ⟨n, ns, e, q⟩ => ⟨n, ns, e, h _ q⟩) fun O H x a Q ok r ⟨n, ns, e, q⟩ => ?_
  obtain ⟨l, rfl, hs⟩ := row_of r e
  exact ⟨l, n, ns, rfl, hs, fun _ => q.now ok rep_int⟩
abbrev aMaxR : F1 := aBest maxI
abbrev aMinR : F1 := aBest minI
/-- max(row, default=..) -/
def wMaxD (wa wb : WE) : WE := fun ρ Q EX => wa ρ (fun a => wb ρ (fun b => ∃ ns, rowD a = some ns ∧ match ns with
  | [] => Q b
  | n :: ns => Q (.int (maxI n ns))) EX) EX
theorem de_maxD {wa wb : WE} {q kpos : Pos} (hc : X.calm = true) (hu : X.A.units + 64 < cLine) (hm : X.mg "max" = none) (ha : DB p X a wa) (hb : DE p X b wb) (hg : Gl X "max" := by rfl)
    (he : backTo pos (starEach [a] X.env) = (false, eval a X.env) :: backTo pos (starEach [] X.env) := by rfl) (hpl : (backTo pos (starEach [a] X.env)).any (·.1) = false := by rfl) (hs : starEach [a] X.env = (false, eval a X.env) :: starEach [] X.env := by rfl)
    (hv : bootBuiltins "max" = some (.builtin "max") := by decide +kernel) : DE p X (.Call (.Name "max" q) [a] [⟨some "default", b, kpos⟩] pos) (wMaxD wa wb) := by
  refine ⟨pe_use (pe_callBK (crk_maxA hc hu) hg hm hv (pa_cons ha.pe pa_nil hs) (pk_cons (pe_hk hb.pe) pk_nil) (by decide) (by decide) he hpl (by rfl) (by rfl) (by rfl)) fun σ H Q hk ⟨ρ, O, EX, R, ex, hw⟩ => ?_, fun ρ Q Q' EX hh q => ha.mono _ _ _ _ (fun da q => hb.mono _ _ _ _ (fun db ⟨ns, e, q⟩ => ⟨ns, e, by
    cases ns with
    | nil => exact hh _ q
    | cons n ns => exact hh _ q⟩) q) q⟩
  refine ⟨ρ, O, EX, R, ex, ha.mono _ _ _ _ (fun da q v H1 hk1 e1 r1 => ⟨ρ, O, EX, R.ext' e1, ex, hb.mono _ _ _ _ (fun db ⟨ns, e, q⟩ u H2 hk2 e2 r2 _ => ?_) q⟩) hw⟩
  obtain ⟨l, rfl, hs⟩ := row_of (r1.ext e1.wd e2) e
  refine ⟨l, ns, u, rfl, rfl, hs, ?_⟩
  cases ns with
  | nil => exact fun _ => q u H2 hk2 (e1.trans e2) r2
  | cons n ns => exact fun _ => q _ H2 hk2 (e1.trans e2) rep_int
/-! ### isinstance -/
theorem ty_of {O : Own} {H : Hp} {v : V} {d : D} (hk : Hk p.K H) (r : RepB p O H v d) : TyX p.K H v (.type (tyD d)) := by
  cases d with
  | none => rw [r.none]; exact .base .non
  | bool b => rw [r.bool]; exact .base (.bl _)
  | int i => rw [r.int]; exact .base (.int _)
  | str y => rw [r.str]; exact .base (.str _)
  | list xs =>
    obtain ⟨l, vs, rfl, _, h1, r1⟩ := r.list
    exact .base (.lst h1)
  | tuple xs =>
    obtain ⟨l, vs, rfl, h1, r1⟩ := r.tuple
    rcases h1 with (h1 | ⟨o, h1⟩) | ⟨o, its, n, h1, h2, _⟩
    · exact .base (.tup h1)
    · exact .fTuple h1
    · exact .kTuple h1 h2
  | dict kvs =>
    obtain ⟨l, rfl, _, vs, _, h1⟩ := r.dict
    rcases h1 with ⟨ks, h1, _⟩ | ⟨ks, h1, _⟩
    · exact .base (.dK h1)
    · exact .base (.dT h1)
/-- is the data of the type -/
def isTy (T : String) (d : D) : Bool := tyD d == T || (T == "int" && tyD d == "bool")
def TyOk (T : String) : Bool := ["NoneType", "bool", "int", "str", "list", "tuple", "dict"].all fun t => kitB t T == some (t == T || (T == "int" && t == "bool"))
theorem kit_at {T : String} (h : TyOk T = true) (d : D) {K : PySem.W.Frag} : PySem.W.kitOne K (.type (tyD d)) (.type T) = some (isTy T d) := by
  unfold TyOk at h
  rw [List.all_eq_true] at h
  refine kit_ty (eq_of_beq (h (tyD d) ?_))
  cases d <;> simp [tyD]
def wIsi (T : String) (w : WE) : WE := fun ρ Q EX => w ρ (fun d => Q (.bool (isTy T d))) EX
theorem de_isi {w : WE} {T : String} {x : Str} {q q2 : Pos} (hm : X.mg "isinstance" = none) (hmT : X.mg x = none) (hT : bootBuiltins x = some (.type T)) (ok : TyOk T = true) (h : DB p X a w) (hg : Gl X "isinstance" := by rfl) (hgT : Gl X x := by rfl)
    (hn : x ≠ "__name__" := by decide) (hd : (x == ("__debug__" : Str)) = false := by decide) (hs : starEach [a, .Name x q2] X.env = (false, eval a X.env) :: starEach [.Name x q2] X.env := by rfl) (hs2 : starEach [.Name x q2] X.env = (false, eval (.Name x q2) X.env) :: starEach [] X.env := by rfl)
    (hpl : (backTo pos (starEach [.Name x q2] X.env)).any (·.1) = false := by rfl) (hv : bootBuiltins "isinstance" = some (.builtin "isinstance") := by decide +kernel) : DE p X (.Call (.Name "isinstance" q) [a, .Name x q2] [] pos) (wIsi T w) :=
  ⟨pe_use (pe_callB call_isi hg hm hv (pa_cons h.pe (pa_cons (pe_bltn (v := .ty T) hgT hmT hT rfl hn hd) pa_nil hs2) hs) (by decide) (by decide) hs hpl) fun σ H Q hk ⟨ρ, O, EX, R, ex, hw⟩ => ⟨ρ, O, EX, R, ex, h.mono _ _ _ _ (fun d q v H1 hk1 e1 r1 =>
    ⟨v, .ty T, _, _, _, rfl, .ty T, ty_of hk1 r1, kit_at ok d, fun _ => q _ H1 hk1 e1 rep_bool⟩) hw⟩, fun ρ Q Q' EX hh q => h.mono _ _ _ _ (fun d q => hh _ q) q⟩
/-- isinstance(x, (S, T)) -/
def wIsi2 (S T : String) (w : WE) : WE := fun ρ Q EX => w ρ (fun d => Q (.bool (isTy S d || isTy T d))) EX
theorem de_isi2 {w : WE} {S T : String} {x y : Str} {k : Nat} {q q1 q2 q3 : Pos} (hm : X.mg "isinstance" = none) (hmS : X.mg x = none) (hmT : X.mg y = none) (hS : bootBuiltins x = some (.type S)) (hT : bootBuiltins y = some (.type T)) (okS : TyOk S = true) (okT : TyOk T = true) (h : DB p X a w) (hg : Gl X "isinstance" := by rfl) (hgS : Gl X x := by rfl) (hgT : Gl X y := by rfl)
    (hnS : x ≠ "__name__" := by decide) (hdS : (x == ("__debug__" : Str)) = false := by decide) (hnT : y ≠ "__name__" := by decide) (hdT : (y == ("__debug__" : Str)) = false := by decide)
    (hs : starEach [a, .Tuple [.Name x q1, .Name y q2] k q3] X.env = (false, eval a X.env) :: starEach [.Tuple [.Name x q1, .Name y q2] k q3] X.env := by rfl) (hs2 : starEach [.Tuple [.Name x q1, .Name y q2] k q3] X.env = (false, eval (.Tuple [.Name x q1, .Name y q2] k q3) X.env) :: starEach [] X.env := by rfl)
    (hs3 : starEach [.Name x q1, .Name y q2] X.env = (false, eval (.Name x q1) X.env) :: starEach [.Name y q2] X.env := by rfl) (hs4 : starEach [.Name y q2] X.env = (false, eval (.Name y q2) X.env) :: starEach [] X.env := by rfl)
    (hpl : (backTo pos (starEach [.Tuple [.Name x q1, .Name y q2] k q3] X.env)).any (·.1) = false := by rfl) (hv : bootBuiltins "isinstance" = some (.builtin "isinstance") := by decide +kernel) : DE p X (.Call (.Name "isinstance" q) [a, .Tuple [.Name x q1, .Name y q2] k q3] [] pos) (wIsi2 S T w) := by
  refine ⟨pe_use (pe_callB call_isiT hg hm hv (pa_cons (pe_hk h.pe) (pa_cons (pe_hk (pe_tup (pa_cons (pe_bltn (v := .ty S) hgS hmS hS rfl hnS hdS) (pa_cons (pe_bltn (v := .ty T) hgT hmT hT rfl hnT hdT) pa_nil hs4) hs3))) pa_nil hs2) hs) (by decide) (by decide) hs hpl) fun σ H Q hk ⟨ρ, O, EX, R, ex, hw⟩ => ⟨ρ, O, EX, R, ex, h.mono _ _ _ _ (fun d q v H1 hk1 e1 r1 _ =>
    ⟨small_le (show 2 ≤ 1000 by decide), fun c hc hk2 => ?_⟩) hw⟩, fun ρ Q Q' EX hh q => h.mono _ _ _ _ (fun d q => hh _ q) q⟩
  have e2 := Ext.new (o := .tup [.ty S, .ty T]) e1.wd hc
  refine ⟨v, c, [.ty S, .ty T], _, [.type S, .type T], _, rfl, by unfold L2.upd; rw [if_pos rfl], .cons (.ty S) (.cons (.ty T) .nil), ty_of hk2 (r1.ext e1.wd e2), ?_, fun _ => q _ _ hk2 (e1.trans e2) rep_bool⟩
  refine kitAny_cons (b := isTy S d) (kit_at okS d) (fun z => ?_) (fun z => by rw [z]; rfl)
  rw [z, Bool.false_or]
  exact kitAny_cons (kit_at okT d) (fun z => by rw [z]; exact kitAny_nil) (fun z => z)
theorem ok_int : TyOk "int" = true := by decide +kernel
theorem ok_bool : TyOk "bool" = true := by decide +kernel
theorem ok_str : TyOk "str" = true := by decide +kernel
theorem ok_list : TyOk "list" = true := by decide +kernel
theorem ok_tuple : TyOk "tuple" = true := by decide +kernel
theorem ok_dict : TyOk "dict" = true := by decide +kernel
end
end DD
set_option maxRecDepth 100000
set_option maxHeartbeats 2000000
/-! SemF: statements without loops. -/
namespace DD
open PySem PySem.Spec PyProof.Rows L2
/-! ### states -/
section
variable {p : Par} {O : Own} {ρ : Env'} {σ : L2.St} {H H1 H2 : Hp}
/-- a slot's own object given away: it is data from now on -/
theorem Rel.freeze {i : Nat} {d : D} (R : Rel p O ρ σ H) (h : ρ[i]? = some (some (.own d))) : Rel p (clr O i) (ρ.set i (some (.d d))) σ H := by
  obtain ⟨a, ha, e1, r⟩ := R.slot i _ h
  obtain ⟨h0, nr, _, _, _⟩ := R.own i a ha
  have hn : NN p (clr O i) a := ⟨.inr h0, nr, fun j z => by
    unfold clr at z
    dsimp only at z
    split at z
    · cases z
    · rename_i hj; exact hj (R.inj j i a z ha)⟩
  have hs : σ = σ.set i (some (.ref a)) := by
    apply List.ext_getElem?
    intro j
    rw [List.getElem?_set]
    by_cases z : i = j
    · subst z
      rw [if_pos rfl, e1]
      have : i < σ.length := (List.getElem?_eq_some_iff.mp e1).1
      rw [if_pos this]
    · rw [if_neg z]
  have r2 := RepO.v (RepO.keep (keeps_clr i) rfl r) hn
  refine ⟨R.wd, R.ext, by rw [List.length_set]; exact R.len, fun j w hw => ?_, fun j k b hj hk => ?_, fun x hx => RepV.keep (keeps_clr i) x.2 x.1 (R.keep x hx), fun j b hj => ?_⟩
  · rw [List.getElem?_set] at hw
    by_cases z : i = j
    · subst z
      rw [if_pos rfl] at hw
      split at hw
      · cases hw
        exact ⟨_, e1, r2⟩
      · cases hw
    · rw [if_neg z] at hw
      have h := R.slot j w hw
      cases w with
      | d x => obtain ⟨v, e1, e2⟩ := h; exact ⟨v, e1, RepV.keep (keeps_clr i) x v e2⟩
      | own x =>
        obtain ⟨b, e1, e2, e3⟩ := h
        exact ⟨b, (if_neg (Ne.symm z)).trans e1, e2, RepO.keep (keeps_clr i) rfl e3⟩
      | row => exact h
  · unfold clr at hj hk
    dsimp only at hj hk
    split at hj
    · cases hj
    · split at hk
      · cases hk
      · exact R.inj j k b hj hk
  · unfold clr at hj
    dsimp only at hj
    split at hj
    · cases hj
    · exact R.own j b hj
/-- values kept in hand: taken up, laid down -/
theorem Rel.hold {ks : List (V × D)} (R : Rel p O ρ σ H) (h : ∀ x ∈ ks, RepV p.K (NN p O) H x.1 x.2) : Rel p ⟨O.fn, ks ++ O.ks⟩ ρ σ H :=
  ⟨R.wd, R.ext, R.len, R.slot, R.inj, fun x hx => (List.mem_append.mp hx).elim (fun z => h x z) (fun z => R.keep x z), R.own⟩
theorem Rel.drop {ks : List (V × D)} (R : Rel p O ρ σ H) (h : ∀ x ∈ ks, x ∈ O.ks) : Rel p ⟨O.fn, ks⟩ ρ σ H :=
  ⟨R.wd, R.ext, R.len, R.slot, R.inj, fun x hx => R.keep x (h x hx), R.own⟩
/-- an own object at the hidden place L goes to the slot i -/
def mv (O : Own) (i L : Nat) (a : Addr) : Own := ⟨fun j => if j = i then some a else if j = L then none else O j, O.ks⟩
theorem keeps_mv {i L : Nat} {a : Addr} (hL : O L = some a) : Keeps2 (NN p O) (NN p (mv O i L a)) H H := ⟨fun b n _ => ⟨n.1, n.2.1, fun j z => by
  unfold mv at z
  dsimp only at z
  split at z
  · cases z; exact n.2.2 L hL
  · split at z
    · cases z
    · exact n.2.2 j z⟩, fun _ _ _ e _ => e, fun _ _ e => e, fun _ _ _ e => e⟩
theorem Rel.move {i L : Nat} {a : Addr} {d : D} (R : Rel p O ρ σ H) (hL : O L = some a) (hl : ρ.length ≤ L) (r : RepO p.K (NN p O) H a d) : Rel p (mv O i L a) (ρ.set i (some (.own d))) (σ.set i (some (.ref a))) H := by
  refine ⟨R.wd, R.ext, by rw [List.length_set, List.length_set]; exact R.len, fun j w hw => ?_, fun j k b hj hk => ?_, fun x hx => RepV.keep (keeps_mv hL) x.2 x.1 (R.keep x hx), fun j b hj => ?_⟩
  · rw [List.getElem?_set] at hw ⊢
    by_cases z : i = j
    · subst z
      rw [if_pos rfl] at hw ⊢
      split at hw
      · rename_i hlt
        cases hw
        rw [if_pos (by rw [R.len]; exact hlt)]
        exact ⟨a, if_pos rfl, rfl, RepO.keep (keeps_mv hL) rfl r⟩
      · cases hw
    · rw [if_neg z] at hw ⊢
      have hj : j < ρ.length := (List.getElem?_eq_some_iff.mp hw).1
      have h := R.slot j w hw
      cases w with
      | d x => obtain ⟨v, e1, e2⟩ := h; exact ⟨v, e1, RepV.keep (keeps_mv hL) x v e2⟩
      | own x =>
        obtain ⟨b, e1, e2, e3⟩ := h
        refine ⟨b, ?_, e2, RepO.keep (keeps_mv hL) rfl e3⟩
        exact (if_neg (Ne.symm z)).trans ((if_neg (by omega)).trans e1)
      | row => exact h
  · unfold mv at hj hk
    dsimp only at hj hk
    split at hj
    · rename_i q
      cases hj
      split at hk
      · rename_i q2; rw [q, q2]
      · split at hk
        · cases hk
        · rename_i q3; exact absurd (R.inj k L _ hk hL) q3
    · split at hj
      · cases hj
      · rename_i q3
        split at hk
        · cases hk; exact absurd (R.inj j L _ hj hL) q3
        · split at hk
          · cases hk
          · exact R.inj j k b hj hk
  · unfold mv at hj
    dsimp only at hj
    split at hj
    · cases hj; exact R.own L _ hL
    · split at hj
      · cases hj
      · exact R.own j b hj
end
/-! ### posts of statements -/
section
variable {p : Par} {X : Cx} {pos : Pos} {e a b c : Expr} {st : Stmt} {sts : List Stmt}
/-- the ends over data, read over the heap -/
abbrev endsW (p : Par) (D : Ends) (ks : List (V × DD.D)) (EX : EXn) : EndsW where
  nx := fun ρ' => ∀ O' σ' H', O'.ks = ks → Hk p.K H' → Rel p O' ρ' σ' H' → D.nx σ' H'
  rt := fun d => ∀ v H', Hk p.K H' → Ext p p.H0 H' → RepV p.K (NN p noOwn) H' v d → D.rt v H'
  bk := fun ρ' => ∀ O' σ' H', O'.ks = ks → Hk p.K H' → Rel p O' ρ' σ' H' → D.bk σ' H'
  ct := fun ρ' => ∀ O' σ' H', O'.ks = ks → Hk p.K H' → Rel p O' ρ' σ' H' → D.ct σ' H'
  ex := EX
abbrev hkE (K : PySem.W.Frag) (D : Ends) : Ends := { nx := fun σ' H' => Hk K H' → D.nx σ' H', rt := fun v H' => Hk K H' → D.rt v H', bk := fun σ' H' => Hk K H' → D.bk σ' H', ct := fun σ' H' => Hk K H' → D.ct σ' H' }
theorem le_hk {D : Ends} {ks : List (V × DD.D)} {EX : EXn} : (endsW p D ks EX).le (endsW p (hkE p.K D) ks EX) :=
  ⟨fun _ q O' σ' H' ke hk' R' _ => q O' σ' H' ke hk' R', fun _ q v H' hk' e r _ => q v H' hk' e r, fun _ q O' σ' H' ke hk' R' _ => q O' σ' H' ke hk' R', fun _ q O' σ' H' ke hk' R' _ => q O' σ' H' ke hk' R', rfl⟩
theorem EndsW.le.refl {D : EndsW} : D.le D := ⟨fun _ h => h, fun _ h => h, fun _ h => h, fun _ h => h, rfl⟩
/-- ghost: slot i's own object is data from now on -/
def wFrz (i : Nat) (w : WS) : WS := fun D ρ => match ρ[i]? with
  | some (some (.own d)) => w D (ρ.set i (some (.d d)))
  | _ => False
theorem ds_frz {w : WS} (i : Nat) (h : DS p X st w) : DS p X st (wFrz i w) := by
  refine ⟨ps_use h.ps fun D σ H hk ⟨ρ, O, EX, R, ex, hw⟩ => ?_, fun D D' ρ hd q => ?_⟩
  · have hw2 : wFrz i w (endsW (p.at X.K) D O.ks EX) ρ := hw
    unfold wFrz at hw2
    split at hw2
    · rename_i d e
      exact ⟨_, _, EX, R.freeze e, ex, h.mono _ _ _ le_hk hw2⟩
    · exact hw2.elim
  · unfold wFrz at q ⊢
    split at q
    · exact h.mono _ _ _ hd q
    · exact q.elim
/-- ghost: slots forgotten -/
def wForget (i : Nat) (w : WS) : WS := fun D ρ => w D (ρ.set i none)
theorem ds_forget {w : WS} (i : Nat) (h : DS p X st w) : DS p X st (wForget i w) := by
  refine ⟨ps_use h.ps fun D σ H hk ⟨ρ, O, EX, R, ex, hw⟩ => ?_, fun D D' ρ hd q => h.mono _ _ _ hd q⟩
  exact ⟨_, O, EX, R.forget (ρ' := ρ.set i none) (by rw [List.length_set]) (fun j w hw => by
    rw [List.getElem?_set] at hw
    split at hw
    · split at hw <;> cases hw
    · exact hw), ex, h.mono _ _ _ le_hk hw⟩
def wSkip : WS := fun D ρ => D.nx ρ
def wNever : WS := fun _ _ => False
def wBreak : WS := fun D ρ => D.bk ρ
def wCont : WS := fun D ρ => D.ct ρ
def wSeq (w u : WS) : WS := fun D ρ => w { D with nx := u D } ρ
theorem ds_never : DS p X st wNever := ⟨⟨fun _ _ _ _ _ _ ⟨_, _, _, _, _, hw⟩ => hw.elim⟩, fun _ _ _ _ q => q⟩
theorem dss_never : DSs p X sts wNever := ⟨⟨fun _ _ _ _ _ _ ⟨_, _, _, _, _, hw⟩ => hw.elim⟩, fun _ _ _ _ q => q⟩
theorem ds_pass : DS p X (.Pass pos) wSkip := ⟨ps_use ps_pass fun D σ H hk ⟨ρ, O, EX, R, ex, hw⟩ => fun hk' => hw O σ H rfl hk' R, fun _ _ _ hd q => hd.nx _ q⟩
theorem ds_break : DS p X (.Break pos) wBreak := ⟨ps_use ps_break fun D σ H hk ⟨ρ, O, EX, R, ex, hw⟩ => fun hk' => hw O σ H rfl hk' R, fun _ _ _ hd q => hd.bk _ q⟩
theorem ds_continue : DS p X (.Continue pos) wCont := ⟨ps_use ps_continue fun D σ H hk ⟨ρ, O, EX, R, ex, hw⟩ => fun hk' => hw O σ H rfl hk' R, fun _ _ _ hd q => hd.ct _ q⟩
theorem dss_nil : DSs p X [] wSkip := ⟨pss_use pss_nil fun D σ H hk ⟨ρ, O, EX, R, ex, hw⟩ => fun hk' => hw O σ H rfl hk' R, fun _ _ _ hd q => hd.nx _ q⟩
theorem dss_cons {w u : WS} (h : DS p X st w) (t : DSs p X sts u) : DSs p X (st :: sts) (wSeq w u) := by
  refine ⟨pss_use (pss_cons h.ps t.ps) fun D σ H hk ⟨ρ, O, EX, R, ex, hw⟩ => ?_, fun D D' ρ hd q => ?_⟩
  · have hw2 : w { endsW (p.at X.K) D O.ks EX with nx := u (endsW (p.at X.K) D O.ks EX) } ρ := hw
    have key : ∀ ρ', u (endsW (p.at X.K) D O.ks EX) ρ' → ∀ O' σ' H', O'.ks = O.ks → Hk X.K H' → Rel (p.at X.K) O' ρ' σ' H' → LS (p.at X.K) u (hkE X.K D) σ' H' := fun ρ' q O' σ' H' ke hk' R' => by
      refine ⟨ρ', O', EX, R', ex, ?_⟩
      have q2 := t.mono (endsW (p.at X.K) D O.ks EX) (endsW (p.at X.K) (hkE X.K D) O.ks EX) ρ' le_hk q
      rw [← ke] at q2
      exact q2
    exact ⟨ρ, O, EX, R, ex, h.mono { endsW (p.at X.K) D O.ks EX with nx := u (endsW (p.at X.K) D O.ks EX) } (endsW (p.at X.K) { hkE X.K D with nx := LS (p.at X.K) u (hkE X.K D) } O.ks EX) ρ
      ⟨key, fun _ q v H' hk' e r _ => q v H' hk' e r, fun _ q O' σ' H' ke hk' R' _ => q O' σ' H' ke hk' R', fun _ q O' σ' H' ke hk' R' _ => q O' σ' H' ke hk' R', rfl⟩ hw2⟩
  · have q2 : w { D with nx := u D } ρ := q
    exact h.mono { D with nx := u D } { D' with nx := u D' } ρ ⟨fun ρ' q => t.mono _ _ _ hd q, hd.rt, hd.bk, hd.ct, hd.ex⟩ q2
theorem dss_one {w : WS} (h : DS p X st w) : DSs p X [st] w := ⟨pss_one h.ps, h.mono⟩
/-- an expression's statement -/
def wExpr (w : WE) : WS := fun D ρ => w ρ (fun _ => D.nx ρ) D.ex
theorem ds_expr {w : WE} (h : DB p X e w) (hs : swapsWith e none pos.line X.env = pure false := by rfl) : DS p X (.Expr e pos) (wExpr w) :=
  ⟨ps_use (ps_expr h.pe hs) fun D σ H hk ⟨ρ, O, EX, R, ex, hw⟩ => ⟨ρ, O, EX, R, ex, h.mono _ _ _ _ (fun d q v H1 hk1 e1 r1 hk' => q O σ H1 rfl hk' (R.ext' e1)) hw⟩, fun D D' ρ hd q => by
    unfold wExpr at q ⊢
    rw [← hd.ex]
    exact h.mono _ _ _ _ (fun _ q => hd.nx _ q) q⟩
def wRet (w : WE) : WS := fun D ρ => w ρ (fun d => D.rt d) D.ex
theorem NN.no {O : Own} {x : Addr} (h : NN p O x) : NN p noOwn x := ⟨h.1, h.2.1, fun i z => by cases z⟩
theorem keeps_no {O : Own} {H : Hp} : Keeps2 (NN p O) (NN p noOwn) H H := ⟨fun _ n _ => n.no, fun _ _ _ e _ => e, fun _ _ e => e, fun _ _ _ e => e⟩
theorem ds_ret {w : WE} (h : DE p X e w) : DS p X (.Return (some e) pos) (wRet w) :=
  ⟨ps_use (ps_ret h.pe) fun D σ H hk ⟨ρ, O, EX, R, ex, hw⟩ => ⟨ρ, O, EX, R, ex, h.mono _ _ _ _ (fun d q v H1 hk1 e1 r1 hk' => q v H1 hk' (R.ext.trans e1) (RepV.keep keeps_no d v r1)) hw⟩, fun D D' ρ hd q => by
    unfold wRet at q ⊢
    rw [← hd.ex]
    exact h.mono _ _ _ _ (fun _ q => hd.rt _ q) q⟩
def wRetN : WS := fun D _ => D.rt .none
theorem ds_retN : DS p X (.Return none pos) wRetN := ⟨ps_use ps_retN fun D σ H hk ⟨ρ, O, EX, R, ex, hw⟩ => fun hk' => hw _ H hk' R.ext rep_none, fun D D' ρ hd q => hd.rt _ q⟩
def wIfS (t : WT) (u v : WS) : WS := fun D ρ => t ρ (fun k => if k = true then u D ρ else v D ρ) D.ex
theorem ds_if {t : WT} {u v : WS} {s1 s2 : List Stmt} (h : DT p X c t) (h1 : DSs p X s1 u) (h2 : DSs p X s2 v) : DS p X (.If c s1 s2 pos) (wIfS t u v) := by
  refine ⟨ps_use (ps_if h.pt h1.ps h2.ps) fun D σ H hk ⟨ρ, O, EX, R, ex, hw⟩ => ?_, fun D D' ρ hd q => ?_⟩
  · refine ⟨ρ, O, EX, R, ex, h.mono _ _ _ _ (fun k q H1 hk1 e1 => ?_) hw⟩
    by_cases z : k = true
    · rw [if_pos z] at q ⊢
      exact ⟨ρ, O, EX, R.ext' e1, ex, h1.mono _ _ _ le_hk q⟩
    · rw [if_neg z] at q ⊢
      exact ⟨ρ, O, EX, R.ext' e1, ex, h2.mono _ _ _ le_hk q⟩
  · unfold wIfS at q ⊢
    rw [← hd.ex]
    refine h.mono _ _ _ _ (fun k q => ?_) q
    by_cases z : k = true
    · rw [if_pos z] at q ⊢; exact h1.mono _ _ _ hd q
    · rw [if_neg z] at q ⊢; exact h2.mono _ _ _ hd q
/-! ### assignments -/
def wSet (i : Nat) (w : WE) : WS := fun D ρ => w ρ (fun d => D.nx (ρ.set i (some (.d d)))) D.ex
def wSetO (i : Nat) (w : WE) : WS := fun D ρ => w ρ (fun d => D.nx (ρ.set i (some (.own d)))) D.ex
theorem mono_Set {i : Nat} {w : WE} (h : MonoE w) : MonoS (wSet i w) := fun D D' ρ hd q => by
  unfold wSet at q ⊢
  rw [← hd.ex]
  exact h _ _ _ _ (fun _ q => hd.nx _ q) q
theorem mono_SetO {i : Nat} {w : WE} (h : MonoE w) : MonoS (wSetO i w) := fun D D' ρ hd q => by
  unfold wSetO at q ⊢
  rw [← hd.ex]
  exact h _ _ _ _ (fun _ q => hd.nx _ q) q
theorem ds_set (i : Nat) {x : Str} {w : WE} {pos' : Pos} (h : DE p X e w) (hN : X.N.Nodup) (hi : X.N[i]? = some x := by rfl) (hx : Loc X.env.scope x := by first | exact .inl rfl | exact .inr rfl) (hs : swapsWith e (some (.Name x pos')) pos.line X.env = pure false := by rfl)
    (hf : X.fn x = true ∨ X.env.scope.names.lookup x = some .local := by first | exact .inl rfl | exact .inr rfl) : DS p X (.Assign [.Name x pos'] e pos) (wSet i w) :=
  ⟨ps_use (ps_set hN hi hx h.pe hs hf) fun D σ H hk ⟨ρ, O, EX, R, ex, hw⟩ => ⟨ρ, O, EX, R, ex, h.mono _ _ _ _ (fun d q v H1 hk1 e1 r1 hk' => q (clr O i) _ H1 rfl hk' ((R.ext' e1).set_d r1)) hw⟩, mono_Set h.mono⟩
theorem ds_setO (i : Nat) {x : Str} {w : WE} {pos' : Pos} (h : DF p X e w) (hN : X.N.Nodup) (hi : X.N[i]? = some x := by rfl) (hx : Loc X.env.scope x := by first | exact .inl rfl | exact .inr rfl) (hs : swapsWith e (some (.Name x pos')) pos.line X.env = pure false := by rfl)
    (hf : X.fn x = true ∨ X.env.scope.names.lookup x = some .local := by first | exact .inl rfl | exact .inr rfl) : DS p X (.Assign [.Name x pos'] e pos) (wSetO i w) :=
  ⟨ps_use (ps_set hN hi hx h.pe hs hf) fun D σ H hk ⟨ρ, O, EX, R, ex, hw⟩ => ⟨ρ, O, EX, R, ex, h.mono _ _ _ _ (fun d q a H1 hk1 e1 n r1 hk' => q (put O i a) _ H1 rfl hk' (R.set_own e1 n r1)) hw⟩, mono_SetO h.mono⟩
end
end DD
set_option maxRecDepth 100000
set_option maxHeartbeats 2000000
/-! SemG: several targets, stores into own lists. -/
namespace DD
open PySem PySem.Spec PyProof.Rows L2
/-! ### values that move into slots -/
inductive Mv where
  | d (x : D)
  | own (x : D)
def Mv.w : Mv → W
  | .d x => .d x
  | .own x => .own x
abbrev WMv := Env' → (List Mv → Prop) → EXn → Prop
def RepM (p : Par) (O : Own) (H : Hp) : Nat → List V → List Mv → Prop
  | _, [], [] => True
  | L, v :: vs, .d x :: ms => RepV p.K (NN p O) H v x ∧ RepM p O H (L + 1) vs ms
  | L, v :: vs, .own x :: ms => (∃ a, v = .ref a ∧ O L = some a ∧ RepO p.K (NN p O) H a x) ∧ RepM p O H (L + 1) vs ms
  | _, _, _ => False
def LM (p : Par) (L : Nat) (w : WMv) : TA := fun σ H Q => ∃ ρ O EX, Rel p O ρ σ H ∧ ExOk p EX ∧ ρ.length ≤ L ∧ (∀ j, L ≤ j → O j = none) ∧
  w ρ (fun ms => ∀ vs O' H', Hk p.K H' → O'.ks = O.ks → (∀ j, j < L → O' j = O j) → (∀ j a, O' j = some a → O j = some a ∨ H a = none) → Ext p H H' → Rel p O' ρ σ H' → RepM p O' H' L vs ms → Q vs H') EX
def MonoM (w : WMv) : Prop := ∀ ρ Q Q' EX, (∀ d, Q d → Q' d) → w ρ Q EX → w ρ Q' EX
structure DM (p : Par) (X : Cx) (es : List Expr) (w : WMv) : Prop where
  pa : ∀ L, PA X es (LM (p.at X.K) L w)
  mono : MonoM w
def wmNil : WMv := fun _ Q _ => Q []
def wmD (w : WE) (r : WMv) : WMv := fun ρ Q EX => w ρ (fun d => r ρ (fun ms => Q (.d d :: ms)) EX) EX
def wmO (w : WE) (r : WMv) : WMv := fun ρ Q EX => w ρ (fun d => r ρ (fun ms => Q (.own d :: ms)) EX) EX
section
variable {p : Par} {X : Cx} {pos : Pos} {e a b c : Expr} {es : List Expr} {st : Stmt} {sts : List Stmt}
theorem set_out {α : Type} {l : List α} {i : Nat} {x : α} (h : l.length ≤ i) : l.set i x = l := List.set_eq_of_length_le h
theorem keeps_more {O O' : Own} {H H' : Hp} (w : Wd p H) (e : Ext p H H') (h : ∀ j a, O' j = some a → O j = some a ∨ H a = none) : Keeps2 (NN p O) (NN p O') H H' :=
  Keeps2.of_ext e w (fun _ n => n.2.1) fun b n hb => ⟨n.1, n.2.1, fun j z => (h j b z).elim (n.2.2 j) hb⟩
theorem dm_nil : DM p X [] wmNil := ⟨fun L => pa_use pa_nil fun σ H Q hk ⟨ρ, O, EX, R, ex, hl, hO, hw⟩ => fun hk' => hw [] O H hk' rfl (fun _ _ => rfl) (fun _ _ z => .inl z) (Ext.refl R.wd) R trivial, fun _ _ _ _ h q => h _ q⟩
theorem dm_d {w : WE} {r : WMv} (h : DE p X e w) (t : DM p X es r) (hs : starEach (e :: es) X.env = (false, eval e X.env) :: starEach es X.env := by rfl) : DM p X (e :: es) (wmD w r) :=
  ⟨fun L => pa_use (pa_cons h.pe (t.pa (L + 1)) hs) fun σ H Q hk ⟨ρ, O, EX, R, ex, hl, hO, hw⟩ => ⟨ρ, O, EX, R, ex, h.mono _ _ _ _ (fun d q v H1 hk1 e1 r1 => ⟨ρ, O, EX, R.ext' e1, ex, by omega, fun j hj => hO j (by omega), t.mono _ _ _ _ (fun ms q vs O' H2 hk2 k1 k2 k3 e2 R2 r2 _ => by
    refine q (v :: vs) O' H2 hk2 k1 (fun j hj => k2 j (by omega)) (fun j a z => (k3 j a z).elim .inl fun n => .inr (e1.none n)) (e1.trans e2) R2 ⟨?_, r2⟩
    exact RepV.keep (keeps_more e1.wd e2 k3) d v r1) q⟩) hw⟩, fun ρ Q Q' EX hh q => h.mono _ _ _ _ (fun d q => t.mono _ _ _ _ (fun ms q => hh _ q) q) q⟩
theorem dm_o {w : WE} {r : WMv} (h : DF p X e w) (t : DM p X es r) (hs : starEach (e :: es) X.env = (false, eval e X.env) :: starEach es X.env := by rfl) : DM p X (e :: es) (wmO w r) := by
  refine ⟨fun L => pa_use (pa_cons h.pe (t.pa (L + 1)) hs) fun σ H Q hk ⟨ρ, O, EX, R, ex, hl, hO, hw⟩ => ⟨ρ, O, EX, R, ex, h.mono _ _ _ _ (fun d q c H1 hk1 e1 n r1 => ?_) hw⟩, fun ρ Q Q' EX hh q => h.mono _ _ _ _ (fun d q => t.mono _ _ _ _ (fun ms q => hh _ q) q) q⟩
  have R1 := R.set_own (i := L) e1 n r1
  rw [set_out hl, set_out (by rw [R.len]; exact hl)] at R1
  have rO : RepO (p.at X.K).K (NN (p.at X.K) (put O L c)) H1 c d := RepO.keep ⟨fun b n _ => ⟨n.1.1, n.1.2.1, fun j z => by
    unfold put at z
    dsimp only at z
    split at z
    · cases z; exact n.2 rfl
    · exact n.1.2.2 j z⟩, fun _ _ _ e _ => e, fun _ _ e => e, fun _ _ _ e => e⟩ rfl r1
  refine ⟨ρ, put O L c, EX, R1, ex, by omega, fun j hj => (if_neg (by omega)).trans (hO j (by omega)), t.mono _ _ _ _ (fun ms q vs O' H2 hk2 k1 k2 k3 e2 R2 r2 _ => ?_) q⟩
  have hcL : O' L = some c := (k2 L (by omega)).trans (if_pos rfl)
  obtain ⟨_, nr, _, hne, sf⟩ := R1.own L c (if_pos rfl)
  refine q (.ref c :: vs) O' H2 hk2 k1 (fun j hj => (k2 j (by omega)).trans (if_neg (by omega))) (fun j a z => ?_) (e1.trans e2) R2 ⟨⟨c, rfl, hcL, ?_⟩, r2⟩
  · rcases k3 j a z with z | z
    · unfold put at z
      dsimp only at z
      split at z
      · cases z; exact .inr n
      · exact .inl z
    · exact .inr (e1.none z)
  · refine RepO.keep (keeps_more e1.wd e2 k3) ?_ rO
    cases q : H1 c with
    | none => exact absurd q hne
    | some o => exact e2.ob c o q (fun ps z => by rw [q, z] at sf; exact sf) nr
/-- the slots take the values, from the left -/
def setAll (ρ : Env') : List Nat → List Mv → Env'
  | i :: is, m :: ms => setAll (ρ.set i (some m.w)) is ms
  | _, _ => ρ
def setAllV (σ : L2.St) : List Nat → List V → L2.St
  | i :: is, v :: vs => setAllV (σ.set i (some v)) is vs
  | _, _ => σ
theorem setAll_len : ∀ {is : List Nat} {ms : List Mv} {ρ : Env'}, (setAll ρ is ms).length = ρ.length
  | [], _, _ => by simp [setAll]
  | _ :: _, [], _ => by simp [setAll]
  | i :: is, m :: ms, ρ => by
    show (setAll (ρ.set i (some m.w)) is ms).length = _
    rw [setAll_len, List.length_set]
theorem repM_keep {O O' : Own} {H H' : Hp} (hN : Keeps2 (NN p O) (NN p O') H H') : ∀ {L : Nat} {vs : List V} {ms : List Mv}, (∀ j a, L ≤ j → O j = some a → O' j = some a ∧ H' a = H a) → RepM p O H L vs ms → RepM p O' H' L vs ms
  | _, [], [], _, _ => trivial
  | L, v :: vs, .d x :: ms, hO, h => ⟨RepV.keep hN x v h.1, repM_keep hN (fun j a hj => hO j a (by omega)) h.2⟩
  | L, v :: vs, .own x :: ms, hO, h => by
    obtain ⟨a, e1, e2, e3⟩ := h.1
    exact ⟨⟨a, e1, (hO L a (Nat.le_refl _) e2).1, RepO.keep hN (hO L a (Nat.le_refl _) e2).2 e3⟩, repM_keep hN (fun j a hj => hO j a (by omega)) h.2⟩
  | _, [], _ :: _, _, h => h.elim
  | _, _ :: _, [], _, h => h.elim
theorem moves {σ : L2.St} {H : Hp} : ∀ {is : List Nat} {L : Nat} {vs : List V} {ms : List Mv} {O : Own} {ρ : Env'} {σ : L2.St}, Rel p O ρ σ H → RepM p O H L vs ms → ρ.length ≤ L → (∀ i ∈ is, i < ρ.length) → is.length = ms.length →
    ∃ O2, O2.ks = O.ks ∧ Rel p O2 (setAll ρ is ms) (setAllV σ is vs) H
  | [], _, [], [], O, ρ, σ, R, _, _, _, _ => ⟨O, rfl, R⟩
  | i :: is, L, v :: vs, .d x :: ms, O, ρ, σ, R, h, hl, hi, hn => by
    have hi1 : i < ρ.length := hi i (List.mem_cons_self ..)
    obtain ⟨O2, k2, R2⟩ := moves (σ := σ) (is := is) (L := L + 1) (R.set_d (i := i) h.1) (repM_keep (keeps_clr i) (fun j a hj z => ⟨(if_neg (by omega)).trans z, rfl⟩) h.2) (by rw [List.length_set]; omega) (fun j hj => by rw [List.length_set]; exact hi j (List.mem_cons_of_mem _ hj)) (by simpa using hn)
    exact ⟨O2, k2, R2⟩
  | i :: is, L, v :: vs, .own x :: ms, O, ρ, σ, R, h, hl, hi, hn => by
    have hi1 : i < ρ.length := hi i (List.mem_cons_self ..)
    obtain ⟨⟨a, rfl, hL, r⟩, t⟩ := h
    obtain ⟨O2, k2, R2⟩ := moves (σ := σ) (is := is) (L := L + 1) (R.move (i := i) hL hl r) (repM_keep (keeps_mv hL) (fun j a hj z => ⟨(if_neg (by omega)).trans ((if_neg (by omega)).trans z), rfl⟩) t) (by rw [List.length_set]; omega) (fun j hj => by rw [List.length_set]; exact hi j (List.mem_cons_of_mem _ hj)) (by simpa using hn)
    exact ⟨O2, k2, R2⟩
  | [], _, _ :: _, _ :: _, _, _, _, _, _, _, _, hn => by simp at hn
  | _ :: _, _, [], [], _, _, _, _, _, _, _, hn => by simp at hn
  | _, _, [], _ :: _, _, _, _, _, h, _, _, _ => h.elim
  | _, _, _ :: _, [], _, _, _, _, h, _, _, _ => h.elim
def wPar (is : List Nat) (w : WMv) : WS := fun D ρ => w ρ (fun ms => is.length = ms.length ∧ (∀ i ∈ is, i < ρ.length) ∧ D.nx (setAll ρ is ms)) D.ex
theorem mono_Par {is : List Nat} {w : WMv} (h : MonoM w) : MonoS (wPar is w) := fun D D' ρ hd q => by
  unfold wPar at q ⊢
  rw [← hd.ex]
  exact h _ _ _ _ (fun ms q => ⟨q.1, q.2.1, hd.nx _ q.2.2⟩) q
/-- no hidden objects: a place for them -/
theorem Rel.clean {O : Own} {ρ : Env'} {σ : L2.St} {H : Hp} (R : Rel p O ρ σ H) : ∃ O', O'.ks = O.ks ∧ (∀ j, ρ.length ≤ j → O' j = none) ∧ (∀ a, NN p O a → NN p O' a) ∧ Rel p O' ρ σ H := by
  let O' : Own := ⟨fun j => if j < ρ.length then O j else none, O.ks⟩
  have sub : ∀ j a, O' j = some a → O j = some a := fun j a z => by
    have z2 : (if j < ρ.length then O j else none) = some a := z
    split at z2
    · exact z2
    · cases z2
  have nn : ∀ a, NN p O a → NN p O' a := fun a n => ⟨n.1, n.2.1, fun j z => n.2.2 j (sub j a z)⟩
  have kk : Keeps2 (NN p O) (NN p O') H H := ⟨fun a n _ => nn a n, fun _ _ _ e _ => e, fun _ _ e => e, fun _ _ _ e => e⟩
  refine ⟨O', rfl, fun j hj => if_neg (by omega), nn, R.wd, R.ext, R.len, fun i w hw => ?_, fun i j a h h' => R.inj i j a (sub i a h) (sub j a h'), fun x hx => RepV.keep kk x.2 x.1 (R.keep x hx), fun i a h => R.own i a (sub i a h)⟩
  have h := R.slot i w hw
  have hi : i < ρ.length := (List.getElem?_eq_some_iff.mp hw).1
  cases w with
  | d x => obtain ⟨v, e1, e2⟩ := h; exact ⟨v, e1, RepV.keep kk x v e2⟩
  | own x =>
    obtain ⟨b, e1, e2, e3⟩ := h
    exact ⟨b, (if_pos hi).trans e1, e2, RepO.keep kk rfl e3⟩
  | row => exact h
theorem par_run {is : List Nat} {w : WMv} (h : DM p X es w) {σ : L2.St} {H : Hp} {O : Own} {ρ : Env'} {EX : EXn} {N : Env' → Prop} {Q : List V → Hp → Prop} (R : Rel (p.at X.K) O ρ σ H) (ex : ExOk (p.at X.K) EX)
    (hw : w ρ (fun ms => is.length = ms.length ∧ (∀ i ∈ is, i < ρ.length) ∧ N (setAll ρ is ms)) EX)
    (hQ : ∀ ρ' vs H', Hk X.K H' → Wd (p.at X.K) H' → vs.length = is.length → N ρ' → (∀ H'', Ext (p.at X.K) H' H'' → ∃ O2, O2.ks = O.ks ∧ Rel (p.at X.K) O2 ρ' (setAllV σ is vs) H'') → Q vs H') : LM (p.at X.K) ρ.length w σ H Q := by
  obtain ⟨O1, k1, hO1, _, R1⟩ := R.clean
  refine ⟨ρ, O1, EX, R1, ex, Nat.le_refl _, hO1, h.mono _ _ _ _ (fun ms ⟨hn, hi, q⟩ vs O' H' hk' ke k2 k3 e1 R2 r2 => ?_) hw⟩
  have hlen : ∀ {L : Nat} {vs : List V} {ms : List Mv}, RepM (p.at X.K) O' H' L vs ms → vs.length = ms.length := by
    intro L vs
    induction vs generalizing L with
    | nil => intro ms h; cases ms with
      | nil => rfl
      | cons m ms => exact h.elim
    | cons v vs ih => intro ms h; cases ms with
      | nil => exact h.elim
      | cons m ms => cases m with
        | d x => rw [List.length_cons, List.length_cons, ih h.2]
        | own x => rw [List.length_cons, List.length_cons, ih h.2]
  refine hQ _ vs H' hk' e1.wd (by rw [hlen r2, hn]) q fun H'' e2 => ?_
  have r3 : RepM (p.at X.K) O' H'' ρ.length vs ms := repM_keep (Keeps2.of_ext e2 R2.wd (fun _ n => n.2.1) fun _ n _ => n) (fun j a _ z => ⟨z, by
    obtain ⟨_, nr, _, hne, sf⟩ := R2.own j a z
    cases q : H' a with
    | none => exact absurd q hne
    | some o => exact e2.ob a o q (fun ps z => by rw [q, z] at sf; exact sf) nr⟩) r2
  obtain ⟨O2, k3, R3⟩ := moves (σ := σ) (R2.ext' e2) r3 (Nat.le_refl _) hi hn
  exact ⟨O2, k3.trans (ke.trans k1), R3⟩
theorem ds_par2 (i j : Nat) {x y : Str} {w : WMv} {px py pt : Pos} {kt k2 : Nat} {pt2 : Pos} (h : DM p X [a, b] w) (hc : X.calm = true) (hN : X.N.Nodup)
    (hw : swappedStores [.Tuple [.Name x px, .Name y py] kt pt] (.Tuple [a, b] k2 pt2) X.env = pure (some [x, y])) (hi : X.N[i]? = some x := by rfl) (hj : X.N[j]? = some y := by rfl) (hij : i ≠ j := by decide)
    (hx : X.env.scope.names.lookup x = some .local := by rfl) (hy : X.env.scope.names.lookup y = some .local := by rfl)
    (hs : swapsWithSole [.Tuple [.Name x px, .Name y py] kt pt] (.Tuple [a, b] k2 pt2) pos.line X.env = pure false := by rfl) : DS p X (.Assign [.Tuple [.Name x px, .Name y py] kt pt] (.Tuple [a, b] k2 pt2) pos) (wPar [i, j] w) := by
  refine ⟨⟨fun pins s σ H D I ht => ?_⟩, mono_Par h.mono⟩
  obtain ⟨ρ, O, EX, R, ex, hwp⟩ := ht
  refine (ps_par hc hN hi hj hij hx hy (h.pa ρ.length) hw hs).run pins s σ H D I ?_
  refine par_run (is := [i, j]) (N := (endsW (p.at X.K) D O.ks EX).nx) h R ex hwp fun ρ' vs H' hk' wd' hl q m => ?_
  match vs, hl with
  | [v, w], _ =>
    obtain ⟨O2, k2, R2⟩ := m H' (Ext.refl wd')
    exact ⟨v, w, rfl, q O2 _ H' k2 hk' R2⟩
theorem ds_par3 (i j l : Nat) {x y z : Str} {w : WMv} {px py pz pt : Pos} {kt k2 : Nat} {pt2 : Pos} (h : DM p X [a, b, c] w) (hc : X.calm = true) (hN : X.N.Nodup)
    (hw : swappedStores [.Tuple [.Name x px, .Name y py, .Name z pz] kt pt] (.Tuple [a, b, c] k2 pt2) X.env = pure (some [x, y, z])) (hi : X.N[i]? = some x := by rfl) (hj : X.N[j]? = some y := by rfl) (hl : X.N[l]? = some z := by rfl) (hij : i ≠ j := by decide) (hil : i ≠ l := by decide) (hjl : j ≠ l := by decide)
    (hx : X.env.scope.names.lookup x = some .local := by rfl) (hy : X.env.scope.names.lookup y = some .local := by rfl) (hz : X.env.scope.names.lookup z = some .local := by rfl)
    (hs : swapsWithSole [.Tuple [.Name x px, .Name y py, .Name z pz] kt pt] (.Tuple [a, b, c] k2 pt2) pos.line X.env = pure false := by rfl) : DS p X (.Assign [.Tuple [.Name x px, .Name y py, .Name z pz] kt pt] (.Tuple [a, b, c] k2 pt2) pos) (wPar [i, j, l] w) := by
  refine ⟨⟨fun pins s σ H D I ht => ?_⟩, mono_Par h.mono⟩
  obtain ⟨ρ, O, EX, R, ex, hwp⟩ := ht
  refine (ps_par3 hc hN hi hj hl hij hil hjl hx hy hz (h.pa ρ.length) hw hs).run pins s σ H D I ?_
  refine par_run (is := [i, j, l]) (N := (endsW (p.at X.K) D O.ks EX).nx) h R ex hwp fun ρ' vs H' hk' wd' hl q m => ?_
  match vs, hl with
  | [v, w, u], _ =>
    obtain ⟨O2, k2, R2⟩ := m H' (Ext.refl wd')
    exact ⟨v, w, u, rfl, q O2 _ H' k2 hk' R2⟩
/-- names as targets, one after another -/
inductive PNs (X : Cx) : List Nat → List Expr → Prop
  | nil : PNs X [] []
  | cons {i : Nat} {x : Str} {is : List Nat} {es : List Expr} {q : Pos} (hi : X.N[i]? = some x) (hx : Loc X.env.scope x) (hf : X.fn x = true ∨ X.env.scope.names.lookup x = some .local) (hs : (assignEach (.Name x q :: es) X.env).map (·.2) = assign (.Name x q) X.env :: (assignEach es X.env).map (·.2)) (t : PNs X is es) : PNs X (i :: is) (.Name x q :: es)
def gNames : List Nat → TGs
  | [] => gNil
  | i :: is => gCons (gName i) (gNames is)
theorem pgs_names (hN : X.N.Nodup) : ∀ {is : List Nat} {es : List Expr}, PNs X is es → PGs X es (gNames is)
  | _, _, .nil => pgs_nil
  | _, _, .cons hi hx hf hs t => pgs_cons (pg_name hN hi hx hf) (pgs_names hN t) hs
theorem names_run : ∀ {is : List Nat} {vs : List V} {σ : L2.St} {H : Hp} {Q : L2.St → Hp → Prop}, vs.length = is.length → Q (setAllV σ is vs) H → gNames is vs σ H Q
  | [], [], _, _, _, _, q => ⟨rfl, q⟩
  | i :: is, v :: vs, σ, H, Q, hl, q => ⟨v, vs, rfl, names_run (by simpa using hl) q⟩
  | [], _ :: _, _, _, _, hl, _ => by simp at hl
  | _ :: _, [], _, _, _, hl, _ => by simp at hl
theorem ds_parN {is : List Nat} {ts : List Expr} {w : WMv} {pt : Pos} {kt k2 n : Nat} {pt2 : Pos} (h : DM p X es w) (hc : X.calm = true) (hN : X.N.Nodup) (pn : PNs X is ts) (hn : is.length ≤ 1000 := by decide) (hlen : (assignEach ts X.env).length = is.length := by rfl) (hst : (assignEach ts X.env).findIdx? (·.1) = none := by rfl)
    (hs : swapsWithSole [.Tuple ts kt pt] (.Tuple es k2 pt2) pos.line X.env = pure false := by rfl) (hw : swappedStores [.Tuple ts kt pt] (.Tuple es k2 pt2) X.env = pure none := by rfl) (h1 : (assignEach [.Tuple ts kt pt] X.env).map (·.2) = [assign (.Tuple ts kt pt) X.env] := by rfl) :
    DS p X (.Assign [.Tuple ts kt pt] (.Tuple es k2 pt2) pos) (wPar is w) := by
  refine ⟨⟨fun pins s σ H D I ht => ?_⟩, mono_Par h.mono⟩
  obtain ⟨ρ, O, EX, R, ex, hwp⟩ := ht
  have tup := pe_hk (X := X) (pe_tup (x1 := k2) (pos := pt2) (h.pa ρ.length))
  refine (ps_asg tup (pg_tup (k := kt) (pos := pt) hc (pgs_names hN pn) hlen hst) hs hw h1).run pins s σ H D I ?_
  refine par_run (is := is) (N := (endsW (p.at X.K) D O.ks EX).nx) h R ex hwp fun ρ' vs H' hk' wd' hl q m => ⟨by rw [hl]; exact small_le hn, fun c hc hk2 => ?_⟩
  obtain ⟨O2, k2, R2⟩ := m _ (Ext.new (o := .tup vs) wd' hc)
  exact ⟨c, vs, rfl, .of (by unfold L2.upd; rw [if_pos rfl]), hl, names_run hl (q O2 _ _ k2 hk2 R2)⟩
/-! ### targets that take plain data apart -/
abbrev WG := D → Env' → (Env' → Prop) → Prop
abbrev WGs := List D → Env' → (Env' → Prop) → Prop
def MonoG (g : WG) : Prop := ∀ d ρ Q Q', (∀ ρ, Q ρ → Q' ρ) → g d ρ Q → g d ρ Q'
/-- ix: the slots that may change -/
def LG (p : Par) (ix : List Nat) (g : WG) : TG := fun v σ H Q => ∃ ρ O d, Rel p O ρ σ H ∧ RepV p.K (NN p O) H v d ∧ g d ρ (fun ρ' => ∀ O' σ', O'.ks = O.ks → (∀ j, O' j = O j ∨ (j ∈ ix ∧ O' j = none)) → (∀ j, j ∉ ix → σ'[j]? = σ[j]?) → σ'.length = σ.length → Rel p O' ρ' σ' H → Q σ' H)
def LGs (p : Par) (ix : List Nat) (g : WGs) : TGs := fun vs σ H Q => ∃ ρ O ds, Rel p O ρ σ H ∧ RepAll p.K (NN p O) H vs ds ∧ g ds ρ (fun ρ' => ∀ O' σ', O'.ks = O.ks → (∀ j, O' j = O j ∨ (j ∈ ix ∧ O' j = none)) → (∀ j, j ∉ ix → σ'[j]? = σ[j]?) → σ'.length = σ.length → Rel p O' ρ' σ' H → Q σ' H)
theorem nn_less {O O' : Own} {ix : List Nat} {a : Addr} (h : ∀ j, O' j = O j ∨ (j ∈ ix ∧ O' j = none)) (n : NN p O a) : NN p O' a := ⟨n.1, n.2.1, fun j z => by
  rcases h j with y | ⟨_, y⟩
  · exact n.2.2 j (y.symm.trans z)
  · rw [y] at z; cases z⟩
structure DG (p : Par) (X : Cx) (e : Expr) (ix : List Nat) (g : WG) : Prop where
  pg : PG X e (LG (p.at X.K) ix g)
  mono : MonoG g
structure DGs (p : Par) (X : Cx) (es : List Expr) (ix : List Nat) (g : WGs) : Prop where
  pg : PGs X es (LGs (p.at X.K) ix g)
  mono : ∀ d ρ Q Q', (∀ ρ, Q ρ → Q' ρ) → g d ρ Q → g d ρ Q'
def wgName (i : Nat) : WG := fun d ρ Q => Q (ρ.set i (some (.d d)))
def wgNil : WGs := fun ds ρ Q => ds = [] ∧ Q ρ
def wgCons (g : WG) (u : WGs) : WGs := fun ds ρ Q => ∃ d r, ds = d :: r ∧ g d ρ (fun ρ' => u r ρ' Q)
def wgTup (n : Nat) (u : WGs) : WG := fun d ρ Q => ∃ ds, d = .tuple ds ∧ ds.length = n ∧ u ds ρ Q
theorem pg_imp {t t' : TG} (h : PG X e t) (imp : ∀ v σ H Q, t' v σ H Q → t v σ H Q) : PG X e t' := ⟨fun pins s σ H v u Q I r ht => h.run pins s σ H v u Q I r (imp _ _ _ _ ht)⟩
theorem pgs_imp {t t' : TGs} (h : PGs X es t) (imp : ∀ v σ H Q, t' v σ H Q → t v σ H Q) : PGs X es t' := ⟨fun pins s σ H v u Q I r ht => h.run pins s σ H v u Q I r (imp _ _ _ _ ht)⟩
theorem dg_name (i : Nat) {x : Str} (hN : X.N.Nodup) (hi : X.N[i]? = some x := by rfl) (hx : Loc X.env.scope x := by first | exact .inl rfl | exact .inr rfl) (hf : X.fn x = true ∨ X.env.scope.names.lookup x = some .local := by first | exact .inl rfl | exact .inr rfl) : DG p X (.Name x pos) [i] (wgName i) :=
  ⟨pg_imp (pg_name hN hi hx hf) fun v σ H Q ⟨ρ, O, d, R, r, hw⟩ => hw (clr O i) _ rfl (fun j => by
      by_cases z : j = i
      · exact .inr ⟨by rw [z]; exact List.mem_singleton.mpr rfl, if_pos z⟩
      · exact .inl (if_neg z)) (fun j hj => by
    rw [List.getElem?_set_ne (fun z => hj (by rw [z]; exact List.mem_singleton.mpr rfl))]) (List.length_set ..) (R.set_d r), fun d ρ Q Q' h q => h _ q⟩
theorem dgs_nil : DGs p X [] [] wgNil := ⟨pgs_imp pgs_nil fun v σ H Q ⟨ρ, O, ds, R, r, e, hw⟩ => by
    subst e
    cases v with
    | nil => exact ⟨rfl, hw O σ rfl (fun _ => .inl rfl) (fun _ _ => rfl) rfl R⟩
    | cons v vs => simp [RepAll] at r, fun d ρ Q Q' h q => ⟨q.1, h _ q.2⟩⟩
theorem dgs_cons {ix ix2 : List Nat} {g : WG} {u : WGs} (h : DG p X e ix g) (t : DGs p X es ix2 u) (hs : (assignEach (e :: es) X.env).map (·.2) = assign e X.env :: (assignEach es X.env).map (·.2) := by rfl) : DGs p X (e :: es) (ix ++ ix2) (wgCons g u) := by
  refine ⟨pgs_imp (pgs_cons h.pg t.pg hs) fun v σ H Q ⟨ρ, O, ds, R, r, hw⟩ => ?_, fun d ρ Q Q' hh ⟨d1, r, z, q⟩ => ⟨d1, r, z, h.mono _ _ _ _ (fun ρ q => t.mono _ _ _ _ hh q) q⟩⟩
  obtain ⟨d, ds', rfl, hw⟩ := hw
  cases v with
  | nil => simp [RepAll] at r
  | cons v vs =>
    rw [RepAll] at r
    refine ⟨v, vs, rfl, ρ, O, d, R, r.1, h.mono _ _ _ _ (fun ρ' q O' σ' k1 n1 s1 l1 R1 => ?_) hw⟩
    refine ⟨ρ', O', ds', R1, RepAll.keep ⟨fun a n _ => nn_less n1 n, fun _ _ _ e _ => e, fun _ _ e => e, fun _ _ _ e => e⟩ ds' vs r.2, t.mono _ _ _ _ (fun ρ2 q O2 σ2 k2 n2 s2 l2 R2 => ?_) q⟩
    exact q O2 σ2 (k2.trans k1) (fun j => by
      rcases n2 j with z | ⟨z, z2⟩
      · rcases n1 j with y | ⟨y, y2⟩
        · exact .inl (z.trans y)
        · exact .inr ⟨List.mem_append_left _ y, z.trans y2⟩
      · exact .inr ⟨List.mem_append_right _ z, z2⟩) (fun j hj => by
      rw [List.mem_append, not_or] at hj
      exact (s2 j hj.2).trans (s1 j hj.1)) (l2.trans l1) R2
theorem dg_tup {ix : List Nat} {u : WGs} {k n : Nat} (hc : X.calm = true) (h : DGs p X es ix u) (hn : (assignEach es X.env).length = n := by rfl) (hst : (assignEach es X.env).findIdx? (·.1) = none := by rfl) : DG p X (.Tuple es k pos) ix (wgTup n u) := by
  refine ⟨pg_imp (pg_tup hc h.pg hn hst) fun v σ H Q ⟨ρ, O, d, R, r, ds, e, hl, hw⟩ => ?_, fun d ρ Q Q' hh ⟨ds, e, hl, q⟩ => ⟨ds, e, hl, h.mono _ _ _ _ hh q⟩⟩
  subst e
  rw [RepV] at r
  obtain ⟨a, vs, rfl, h1, r⟩ := r
  exact ⟨a, vs, rfl, h1, by rw [r.length, hl], ρ, O, ds, R, r, hw⟩
/-- target = value, plain data -/
def wAsg (w : WE) (g : WG) : WS := fun D ρ => w ρ (fun d => g d ρ D.nx) D.ex
theorem ds_asg {tg : Expr} {w : WE} {ix : List Nat} {g : WG} (h : DE p X e w) (hg : DG p X tg ix g) (hs : swapsWithSole [tg] e pos.line X.env = pure false := by rfl) (hw : swappedStores [tg] e X.env = pure none := by rfl)
    (h1 : (assignEach [tg] X.env).map (·.2) = [assign tg X.env] := by rfl) : DS p X (.Assign [tg] e pos) (wAsg w g) :=
  ⟨⟨fun pins s σ H D I ⟨ρ, O, EX, R, ex, hwp⟩ => (ps_asg (pe_hk h.pe) hg.pg hs hw h1).run pins s σ H D I ⟨ρ, O, EX, R, ex, h.mono _ _ _ _ (fun d q v H1 hk1 e1 r1 hk2 => ⟨ρ, O, d, R.ext' e1, r1, hg.mono _ _ _ _ (fun ρ' q O' σ' k1 _ _ _ R1 => q O' σ' H1 k1 hk1 R1) q⟩) hwp⟩⟩,
    fun D D' ρ hd q => by
      unfold wAsg at q ⊢
      rw [← hd.ex]
      exact h.mono _ _ _ _ (fun d q => hg.mono _ _ _ _ hd.nx q) q⟩
end
end DD
set_option maxRecDepth 100000
set_option maxHeartbeats 2000000
/-! SemH: own lists written, iterators, for, while. -/
namespace DD
open PySem PySem.Spec PyProof.Rows L2
section
variable {p : Par} {X : Cx} {pos : Pos} {e a b c : Expr} {es : List Expr} {st : Stmt} {sts : List Stmt}
/-! ### own lists written -/
theorem own_list {O : Own} {ρ : Env'} {σ : L2.St} {H : Hp} {i : Nat} {xs : List D} (R : Rel p O ρ σ H) (h : ρ[i]? = some (some (.own (.list xs)))) : ∃ a vs, O i = some a ∧ σ[i]? = some (some (.ref a)) ∧ H a = some (.lst vs) ∧ RepAll p.K (NN p O) H vs xs := by
  obtain ⟨a, ha, e1, vs, h1, r⟩ := R.slot i _ h
  exact ⟨a, vs, ha, e1, h1, r⟩
theorem own_write {O : Own} {ρ : Env'} {σ : L2.St} {H : Hp} {i : Nat} {a : Addr} {xs ys : List D} {ws : List V} (R : Rel p O ρ σ H) (h : ρ[i]? = some (some (.own (.list xs)))) (ha : O i = some a) (r : RepAll p.K (NN p O) H ws ys) : Rel p O (ρ.set i (some (.own (.list ys)))) σ (upd H a (.lst ws)) := by
  refine R.write h ha trivial ⟨ws, by unfold L2.upd; rw [if_pos rfl], RepAll.keep ⟨fun _ n _ => n, fun b ob n e _ => ?_, fun b xs e => ?_, fun b ob xs e => ?_⟩ ys ws r⟩
  · rw [upd_ne (fun z => n.2.2 i (by rw [z]; exact ha))]; exact e
  · have sf := (R.own i a ha).2.2.2.2
    rw [upd_ne (fun z => by rw [← z, e] at sf; exact sf)]; exact e
  · have sf := (R.own i a ha).2.2.2.2
    rw [upd_ne (fun z => by rw [← z, e] at sf; exact sf)]; exact e
def ownL (ρ : Env') (i : Nat) (k : List D → Prop) : Prop := match ρ[i]? with
  | some (some (.own (.list xs))) => k xs
  | _ => False
theorem ownL_iff {ρ : Env'} {i : Nat} {k : List D → Prop} (h : ownL ρ i k) : ∃ xs, ρ[i]? = some (some (.own (.list xs))) ∧ k xs := by
  unfold ownL at h
  split at h
  · rename_i xs e; exact ⟨xs, e, h⟩
  · exact h.elim
theorem ownL_of {ρ : Env'} {i : Nat} {k : List D → Prop} {xs : List D} (e : ρ[i]? = some (some (.own (.list xs)))) (h : k xs) : ownL ρ i k := by
  unfold ownL
  rw [e]
  exact h
theorem ownL_mono {ρ : Env'} {i : Nat} {k k' : List D → Prop} (h : ∀ xs, k xs → k' xs) (q : ownL ρ i k) : ownL ρ i k' := by
  obtain ⟨xs, e, q⟩ := ownL_iff q
  exact ownL_of e (h xs q)
/-- x.append(e) -/
def wApp (i : Nat) (w : WE) : WS := fun D ρ => ownL ρ i fun xs => w ρ (fun d => xs.length < sizeLine ∧ D.nx (ρ.set i (some (.own (.list (xs ++ [d])))))) D.ex
theorem ds_app (i : Nat) {x : Str} {w : WE} {p1 p2 p3 : Pos} (h : DE p X e w) (hN : X.N[i]? = some x := by rfl) (hv : Vis X.env.scope x := by first | exact .inl rfl | exact .inr (.inl rfl) | exact .inr (.inr rfl)) (hd : (x == ("__debug__" : Str)) = false := by decide) (hcd : (x == ("__classdict__" : Str)) = false := by decide)
    (hbase : attributeBase (.Name x p1) "append" X.env (eval (.Name x p1) X.env) = eval (.Name x p1) X.env := by rfl)
    (hfew : ((backTo p3 (starEach [e] X.env)).all (fun x => !x.1) && (backToKw p3 (keywordEach [] X.env)).all (fun x => x.1.isSome) && decide ([e].length + ([] : List Keyword).length + (if ([] : List Keyword).isEmpty then 0 else 1) < 30)) = true := by rfl)
    (hline : (p2.endLine == p3.line) = true := by rfl) (hs : starEach [e] X.env = (false, eval e X.env) :: starEach [] X.env := by rfl) (hplain : (backTo p3 (starEach [] X.env)).any (·.1) = false := by rfl)
    (hsw : swapsWith (.Call (.Attribute (.Name x p1) "append" p2) [e] [] p3) none pos.line X.env = pure false := by rfl) : DS p X (.Expr (.Call (.Attribute (.Name x p1) "append" p2) [e] [] p3) pos) (wApp i w) := by
  have hm : MtR X "list.append" rAppend := mt_append
  refine ⟨ps_use (ps_expr (pe_bm PySem.F.plainAttrs_list PySem.F.slot_list_append PySem.F.type_list_append hm (pe_hk (pe_var (i := i) hN hv hd hcd)) (pa_cons (pe_hk h.pe) pa_nil hs) hbase hfew hline hs hplain) hsw) fun D σ H hk ⟨ρ, O, EX, R, ex, hw⟩ => ?_, fun D D' ρ hd q => ?_⟩
  · obtain ⟨xs, hx, hw⟩ := ownL_iff (show ownL ρ i _ from hw)
    obtain ⟨l, vs, hO, hσ, hH, r⟩ := own_list R hx
    refine ⟨_, hσ, fun _ => ⟨.inl ⟨rfl, vs, .of hH⟩, ρ, O, EX, R, ex, h.mono _ _ _ _ (fun d ⟨hl, q⟩ v H1 hk1 e1 r1 _ => ?_) hw⟩⟩
    have R1 := R.ext' e1
    obtain ⟨l', vs', hO', _, hH', r'⟩ := own_list R1 hx
    rw [hO] at hO'
    cases hO'
    exact ⟨l, vs', v, rfl, rfl, hH', by rw [r'.length]; exact hl, fun hk' => q O σ _ rfl hk' (own_write R1 hx hO (r'.append (rall_cons r1 rall_nil)))⟩
  · unfold wApp at q ⊢
    rw [← hd.ex]
    exact ownL_mono (fun xs q => h.mono _ _ _ _ (fun d q => ⟨q.1, hd.nx _ q.2⟩) q) q
/-- x.extend(a list) -/
def wExt (i : Nat) (w : WE) : WS := fun D ρ => ownL ρ i fun xs => w ρ (fun d => ∃ ys, d = .list ys ∧ xs.length + ys.length ≤ sizeLine ∧ D.nx (ρ.set i (some (.own (.list (xs ++ ys)))))) D.ex
theorem ds_ext (i : Nat) {x : Str} {w : WE} {p1 p2 p3 : Pos} (h : DE p X e w) (hN : X.N[i]? = some x := by rfl) (hv : Vis X.env.scope x := by first | exact .inl rfl | exact .inr (.inl rfl) | exact .inr (.inr rfl)) (hd : (x == ("__debug__" : Str)) = false := by decide) (hcd : (x == ("__classdict__" : Str)) = false := by decide)
    (hbase : attributeBase (.Name x p1) "extend" X.env (eval (.Name x p1) X.env) = eval (.Name x p1) X.env := by rfl)
    (hfew : ((backTo p3 (starEach [e] X.env)).all (fun x => !x.1) && (backToKw p3 (keywordEach [] X.env)).all (fun x => x.1.isSome) && decide ([e].length + ([] : List Keyword).length + (if ([] : List Keyword).isEmpty then 0 else 1) < 30)) = true := by rfl)
    (hline : (p2.endLine == p3.line) = true := by rfl) (hs : starEach [e] X.env = (false, eval e X.env) :: starEach [] X.env := by rfl) (hplain : (backTo p3 (starEach [] X.env)).any (·.1) = false := by rfl)
    (hsw : swapsWith (.Call (.Attribute (.Name x p1) "extend" p2) [e] [] p3) none pos.line X.env = pure false := by rfl) : DS p X (.Expr (.Call (.Attribute (.Name x p1) "extend" p2) [e] [] p3) pos) (wExt i w) := by
  have hm : MtR X "list.extend" rExtend := mt_extend
  refine ⟨ps_use (ps_expr (pe_bm PySem.F.plainAttrs_list PySem.F.slot_list_extend PySem.F.type_list_extend hm (pe_hk (pe_var (i := i) hN hv hd hcd)) (pa_cons (pe_hk h.pe) pa_nil hs) hbase hfew hline hs hplain) hsw) fun D σ H hk ⟨ρ, O, EX, R, ex, hw⟩ => ?_, fun D D' ρ hd q => ?_⟩
  · obtain ⟨xs, hx, hw⟩ := ownL_iff (show ownL ρ i _ from hw)
    obtain ⟨l, vs, hO, hσ, hH, r⟩ := own_list R hx
    refine ⟨_, hσ, fun _ => ⟨.inl ⟨rfl, vs, .of hH⟩, ρ, O, EX, R, ex, h.mono _ _ _ _ (fun d ⟨ys, z, hl, q⟩ v H1 hk1 e1 r1 _ => ?_) hw⟩⟩
    subst z
    have R1 := R.ext' e1
    obtain ⟨l', vs', hO', _, hH', r'⟩ := own_list R1 hx
    rw [hO] at hO'
    cases hO'
    obtain ⟨b, ws, rfl, _, hB, r2⟩ := r1.b.list
    exact ⟨l, b, vs', ws, rfl, rfl, hH', hB, by rw [r'.length, r2.length]; exact hl, fun hk' => q O σ _ rfl hk' (own_write R1 hx hO (r'.append r2))⟩
  · unfold wExt at q ⊢
    rw [← hd.ex]
    exact ownL_mono (fun xs q => h.mono _ _ _ _ (fun d ⟨ys, z, hl, q⟩ => ⟨ys, z, hl, hd.nx _ q⟩) q) q
/-- x[j] = e -/
def wPut (i : Nat) (wj w : WE) : WS := fun D ρ => ownL ρ i fun xs => w ρ (fun d => wj ρ (fun j => ∃ k m, j = .int k ∧ ixN xs.length k = some m ∧ D.nx (ρ.set i (some (.own (.list (xs.set m d)))))) D.ex) D.ex
theorem ds_put (i : Nat) {x : Str} {w wj : WE} {p1 p2 : Pos} (h : DE p X e w) (hj : DE p X a wj) (hN : X.N[i]? = some x := by rfl) (hv : Vis X.env.scope x := by first | exact .inl rfl | exact .inr (.inl rfl) | exact .inr (.inr rfl)) (hd : (x == ("__debug__" : Str)) = false := by decide) (hcd : (x == ("__classdict__" : Str)) = false := by decide)
    (ha : ∀ v, assign (.Subscript (.Name x p1) a p2) X.env v = (do
      let ov ← holding [v] (eval (.Name x p1) X.env)
      let iv ← holding [v, ov] (eval a X.env)
      standAt p2
      holding [v, ov, iv] (setItem ov iv v)
      release [v, ov, iv] []) := by intro _; rfl)
    (hs : swapsWithSole [.Subscript (.Name x p1) a p2] e pos.line X.env = pure false := by rfl) (hw : swappedStores [.Subscript (.Name x p1) a p2] e X.env = pure none := by rfl) (h1 : (assignEach [.Subscript (.Name x p1) a p2] X.env).map (·.2) = [assign (.Subscript (.Name x p1) a p2) X.env] := by rfl) :
    DS p X (.Assign [.Subscript (.Name x p1) a p2] e pos) (wPut i wj w) := by
  refine ⟨ps_use (ps_asg (pe_hk h.pe) (pg_sub (pe_var (i := i) hN hv hd hcd) (pe_hk hj.pe) set_list ha) hs hw h1) fun D σ H hk ⟨ρ, O, EX, R, ex, hw⟩ => ?_, fun D D' ρ hd q => ?_⟩
  · obtain ⟨xs, hx, hw⟩ := ownL_iff (show ownL ρ i _ from hw)
    refine ⟨ρ, O, EX, R, ex, h.mono _ _ _ _ (fun d q v H1 hk1 e1 r1 _ => ?_) hw⟩
    obtain ⟨l, vs, hO, hσ, hH, r⟩ := own_list (R.ext' e1) hx
    refine ⟨_, hσ, ρ, O, EX, R.ext' e1, ex, hj.mono _ _ _ _ (fun j ⟨k, m, z, hm, q⟩ u H2 hk2 e2 r2 _ => ?_) q⟩
    subst z
    obtain ⟨l', vs', hO', _, hH', r'⟩ := own_list ((R.ext' e1).ext' e2) hx
    rw [hO] at hO'
    cases hO'
    rw [r2.b.int]
    exact ⟨l, vs', k, m, rfl, rfl, hH', by rw [r'.length]; exact hm, fun hk' => q O σ _ rfl hk' (own_write ((R.ext' e1).ext' e2) hx hO (r'.set m (r1.ext e2 e1.wd)))⟩
  · unfold wPut at q ⊢
    rw [← hd.ex]
    exact ownL_mono (fun xs q => h.mono _ _ _ _ (fun d q => hj.mono _ _ _ _ (fun j ⟨k, m, z, hm, q⟩ => ⟨k, m, z, hm, hd.nx _ q⟩) q) q) q
/-- x op= e of plain data -/
def InR (X : Cx) (op : Operator) (r : R2) : Prop := OpR X (inplaceOp op) r
structure Ip (X : Cx) (p : Par) (op : Operator) (f : F2) (r : R2) : Prop where
  op : PIp X op (fun x y H Q => r x y H fun v H' => Hk X.K H' → Q v H')
  ok : Op2 (p.at X.K) f r
theorem pip_of {op : Operator} {r : R2} (h : OpR X (inplaceOp op) r) : PIp X op (fun x y H Q => r x y H fun v H' => Hk X.K H' → Q v H') := fun pins s σ H x y v u Q I rx ry hq =>
  thn (h pins s σ H x y v u _ I rx ry hq) fun _ _ ⟨z, H', I', r', q⟩ => ⟨z, H', I', r', q (hk_of I')⟩
theorem ip_addI : Ip X p .Add (aI0 fun i j => i + j) (rI0 fun i j => .int (i + j)) := ⟨pip_of iop_add, o_int0⟩
theorem ip_subI : Ip X p .Sub (aI0 fun i j => i - j) (rI0 fun i j => .int (i - j)) := ⟨pip_of iop_sub, o_int0⟩
theorem ip_mulI : Ip X p .Mult (aI CMul fun i j => i * j) (rI CMul fun i j => .int (i * j)) := ⟨pip_of iop_mul, o_int⟩
theorem ip_fdivI : Ip X p .FloorDiv aFdiv (rI CDiv fun i j => .int (i / j)) := ⟨pip_of iop_fdiv, o_int⟩
theorem ip_orI : Ip X p .BitOr aOr (rI0 fun i j => .int (Builtin.bitOr i j)) := ⟨pip_of iop_or, o_int0⟩
def plainAt (ρ : Env') (i : Nat) (k : D → Prop) : Prop := match ρ[i]? with
  | some (some (.d d)) => k d
  | _ => False
theorem plainAt_iff {ρ : Env'} {i : Nat} {k : D → Prop} (h : plainAt ρ i k) : ∃ d, ρ[i]? = some (some (.d d)) ∧ k d := by
  unfold plainAt at h
  split at h
  · rename_i xs e; exact ⟨xs, e, h⟩
  · exact h.elim
theorem plainAt_of {ρ : Env'} {i : Nat} {k : D → Prop} {d : D} (e : ρ[i]? = some (some (.d d))) (h : k d) : plainAt ρ i k := by
  unfold plainAt
  rw [e]
  exact h
def wAug (i : Nat) (f : F2) (w : WE) : WS := fun D ρ => plainAt ρ i fun d => w ρ (fun y => f d y fun z => D.nx (ρ.set i (some (.d z)))) D.ex
theorem ds_aug (i : Nat) {x : Str} {op : Operator} {w : WE} {f : F2} {r : R2} {p1 : Pos} (ip : Ip X p op f r) (h : DB p X e w) (hN : X.N.Nodup) (hi : X.N[i]? = some x := by rfl) (hx : Loc X.env.scope x := by first | exact .inl rfl | exact .inr rfl)
    (hf : X.fn x = true ∨ X.env.scope.names.lookup x = some .local := by first | exact .inl rfl | exact .inr rfl) : DS p X (.AugAssign (.Name x p1) op e pos) (wAug i f w) := by
  refine ⟨ps_use (ps_aug hN hi hx h.pe ip.op hf) fun D σ H hk ⟨ρ, O, EX, R, ex, hw⟩ => ?_, fun D D' ρ hd q => ?_⟩
  · obtain ⟨d, hx, hw⟩ := plainAt_iff (show plainAt ρ i _ from hw)
    obtain ⟨v, hσ, rv⟩ := R.slot i _ hx
    refine ⟨v, hσ, ρ, O, EX, R, ex, h.mono _ _ _ _ (fun y q u H1 hk1 e1 r1 => ?_) hw⟩
    exact ip.ok.ok O H1 v u d y (fun z H2 => Hk X.K H2 → D.nx (σ.set i (some z)) H2) ((R.ext' e1).ok hk1) ((rv.ext e1 R.wd).b) r1 (ip.ok.mono _ _ _ _ (fun z q v' H2 hk2 e2 r2 hk' => q (clr O i) _ H2 rfl hk' (((R.ext' e1).ext' e2).set_d r2)) q)
  · unfold wAug at q ⊢
    rw [← hd.ex]
    obtain ⟨d, hx, q⟩ := plainAt_iff q
    exact plainAt_of hx (h.mono _ _ _ _ (fun y q => ip.ok.mono _ _ _ _ (fun z q => hd.nx _ q) q) q)
/-- x[j] op= e, x an own list -/
def wAugS (i : Nat) (f : F2) (wj w : WE) : WS := fun D ρ => ownL ρ i fun xs => wj ρ (fun j => ∃ k m d, j = .int k ∧ ixN xs.length k = some m ∧ xs[m]? = some d ∧ w ρ (fun y => f d y fun z => D.nx (ρ.set i (some (.own (.list (xs.set m z)))))) D.ex) D.ex
theorem pget_list : PGet X (rIxL X.K) := by
  intro pins s σ H x y v u Q I rx ry h
  obtain ⟨p, xs, i, z, rfl, rfl, hq, he, q⟩ := h
  cases rx
  obtain ⟨t, rfl⟩ := ry
  obtain ⟨its, r, pl, hz⟩ := I.list hq
  obtain ⟨j, h1, h2, h3, h4, h5⟩ := atI_get he
  obtain ⟨w, ew, rw'⟩ := r.get h2
  have hl := r.length
  have hn := line63
  have fin : EP X pins σ Q w s := ⟨z, H, I, rw', q⟩
  by_cases h0 : 0 ≤ i
  · have hj : i.toNat = j := by
      rw [seqIndex_of h0 h5] at h1
      exact Option.some.inj h1
    exact wpAny_getItem_list pl.isList h0 (by omega) (by rw [hj]; simpa using ew) fin
  · have hj : (i + (its.toArray.size : Int)).toNat = j := by
      rw [seqIndex_neg (by omega) h4] at h1
      rw [List.size_toArray, ← hl]
      exact Option.some.inj h1
    exact wpAny_getItem_list_neg pl.isList (by omega) (by rw [List.size_toArray] <;> omega) (by omega) (by rw [hj]; simpa using ew) fin
theorem ds_augS (i : Nat) {x : Str} {op : Operator} {w wj : WE} {f : F2} {r : R2} {p1 p2 : Pos} (ip : Ip X p op f r) (h : DB p X e w) (hj : DE p X a wj) (hN : X.N[i]? = some x := by rfl) (hv : Vis X.env.scope x := by first | exact .inl rfl | exact .inr (.inl rfl) | exact .inr (.inr rfl)) (hd : (x == ("__debug__" : Str)) = false := by decide) (hcd : (x == ("__classdict__" : Str)) = false := by decide)
    (ha : ∀ ov iv new, augStore a ov iv new = (do holding [new, ov, iv] (setItem ov iv new); release [new, ov, iv] []; pure .next) := by intros; rfl) : DS p X (.AugAssign (.Subscript (.Name x p1) a p2) op e pos) (wAugS i f wj w) := by
  refine ⟨ps_use (ps_augS (pe_var (i := i) hN hv hd hcd) (pe_hk hj.pe) pget_list (pe_hk h.pe) ip.op set_list ha) fun D σ H hk ⟨ρ, O, EX, R, ex, hw⟩ => ?_, fun D D' ρ hd q => ?_⟩
  · obtain ⟨xs, hx, hw⟩ := ownL_iff (show ownL ρ i _ from hw)
    obtain ⟨l, vs, hO, hσ, hH, r0⟩ := own_list R hx
    refine ⟨_, hσ, ρ, O, EX, R, ex, hj.mono _ _ _ _ (fun j ⟨k, m, d, z, hm, hd, q⟩ u H1 hk1 e1 r1 _ => ?_) hw⟩
    subst z
    rw [r1.b.int]
    obtain ⟨l', vs', hO', _, hH', r'⟩ := own_list (R.ext' e1) hx
    rw [hO] at hO'
    cases hO'
    obtain ⟨v, hv', rv⟩ := r'.get hd
    refine ⟨l, vs', k, v, rfl, rfl, .of hH', by unfold atI; rw [r'.length, hm]; exact hv', ρ, O, EX, R.ext' e1, ex, h.mono _ _ _ _ (fun y q w' H2 hk2 e2 r2 _ => ?_) q⟩
    refine ip.ok.ok O H2 v w' d y _ (((R.ext' e1).ext' e2).ok hk2) ((rv.ext e2 e1.wd).b) r2 (ip.ok.mono _ _ _ _ (fun z q v' H3 hk3 e3 r3 => ?_) q)
    have R3 := ((R.ext' e1).ext' e2).ext' e3
    obtain ⟨l2, vs2, hO2, _, hH2, r4⟩ := own_list R3 hx
    rw [hO] at hO2
    cases hO2
    exact ⟨l, vs2, k, m, rfl, rfl, hH2, by rw [r4.length]; exact hm, fun hk' => q O σ _ rfl hk' (own_write R3 hx hO (r4.set m r3))⟩
  · unfold wAugS at q ⊢
    rw [← hd.ex]
    exact ownL_mono (fun xs q => hj.mono _ _ _ _ (fun j ⟨k, m, d, z, hm, he, q⟩ => ⟨k, m, d, z, hm, he, h.mono _ _ _ _ (fun y q => ip.ok.mono _ _ _ _ (fun z q => hd.nx _ q) q) q⟩) q) q
end
end DD
set_option maxRecDepth 100000
set_option maxHeartbeats 2000000
/-! SemI: iterators, for, while. -/
namespace DD
open PySem PySem.Spec PyProof.Rows L2
/-- held: data, or with the outermost object one's own -/
def hold (b : Bool) (p : Par) (O : Own) (H : Hp) (v : V) (d : D) : Prop := match b with
  | true => RepB p O H v d
  | false => RepV p.K (NN p O) H v d
theorem hold_b {b : Bool} {p : Par} {O : Own} {H : Hp} {v : V} {d : D} (h : hold b p O H v d) : RepB p O H v d := by
  cases b with
  | true => exact h
  | false => exact RepV.b h
theorem hold_ext {b : Bool} {p : Par} {O : Own} {H H' : Hp} {v : V} {d : D} (w : Wd p H) (e : Ext p H H') (h : hold b p O H v d) : hold b p O H' v d := by
  cases b with
  | true => exact RepB.ext w e h
  | false => exact RepV.ext e w h
abbrev WI := Env' → (List D → Prop) → EXn → Prop
structure Ok0 (p : Par) (O : Own) (H : Hp) : Prop where
  wd : Wd p H
  fr : ∀ a, H a = none → NN p O a
theorem Rel.ok0 {p : Par} {O : Own} {ρ : Env'} {σ : L2.St} {H : Hp} (R : Rel p O ρ σ H) : Ok0 p O H := ⟨R.wd, fun _ h => R.fresh0 h⟩
/-- J walks over the data, so long as ks is held -/
def ItOk (p : Par) (ds : List D) (J : It) (ks : List (V × D)) : Prop := ∀ O H i, Ok0 p O H → (∀ x ∈ ks, RepB p O H x.1 x.2) →
  (ds.length ≤ i → J.stop i H) ∧ ∀ d, ds[i]? = some d → J.go i H ∧ ∀ x H', J.yld i H x H' → Ext p H H' ∧ RepV p.K (NN p O) H' x d
def LI (b : Bool) (p : Par) (w : WI) : TI := fun σ H R => At p σ H fun O ρ EX => w ρ (fun ds => ∀ J H' ks, Hk p.K H' → Ext p H H' → (∀ x ∈ ks, hold b p O H' x.1 x.2) → ItOk p ds J ks → R J H') EX
structure DI (b : Bool) (p : Par) (X : Cx) (tg e : Expr) (w : WI) : Prop where
  pi : PI X tg e (LI b (p.at X.K) w)
  mono : MonoA w
/-- one value, held -/
structure DH (b : Bool) (p : Par) (X : Cx) (e : Expr) (w : WE) : Prop where
  pe : PE X e (fun σ H Q => At (p.at X.K) σ H fun O ρ EX => w ρ (fun d => ∀ v H', Hk X.K H' → Ext (p.at X.K) H H' → hold b (p.at X.K) O H' v d → Q v H') EX)
  mono : MonoE w
section
variable {b0 : Bool} {p : Par} {X : Cx} {pos : Pos} {tg e a b c : Expr} {es : List Expr} {st : Stmt} {sts : List Stmt}
theorem DE.h {w : WE} (h : DE p X e w) : DH false p X e w := ⟨h.pe, h.mono⟩
theorem DB.h {w : WE} (h : DB p X e w) : DH true p X e w := ⟨h.pe, h.mono⟩
theorem DI.bor {w : WI} (h : DI false p X tg e w) : DI true p X tg e w :=
  ⟨⟨fun pins s σ H R I ⟨ρ, O, EX, Rl, ex, hw⟩ => h.pi.run pins s σ H R I ⟨ρ, O, EX, Rl, ex, h.mono _ _ _ _ (fun ds q J H' ks hk e hh it => q J H' ks hk e (fun x hx => (hh x hx).b) it) hw⟩⟩, h.mono⟩
theorem pi_use {t t' : TI} (h : PI X tg e t) (imp : ∀ σ H R, Hk X.K H → t' σ H R → t σ H R) : PI X tg e t' := ⟨fun pins s σ H R I ht => h.run pins s σ H R I (imp _ _ _ (hk_of I) ht)⟩
/-- held by keeping one value -/
theorem one_held {p : Par} {O : Own} {H : Hp} {v : V} {d : D} (h : hold b0 p O H v d) : ∀ x ∈ [(v, d)], hold b0 p O H x.1 x.2 := fun x hx => by
  rw [List.mem_singleton] at hx
  subst hx
  exact h
theorem itl_ok {p : Par} {a : Addr} {ds : List D} : ItOk p ds (Itl p.K a) [(.ref a, .list ds)] := fun O H i ok hk => by
  obtain ⟨a', vs, z, _, h1, r⟩ := (hk (.ref a, .list ds) (List.mem_singleton.mpr rfl)).list
  cases z
  refine ⟨fun hi => ⟨vs, .of h1, by rw [r.length]; exact hi⟩, fun d hd => ?_⟩
  obtain ⟨v, hv, rv⟩ := r.get hd
  refine ⟨⟨vs, v, .of h1, hv⟩, fun x H' ⟨e1, e2⟩ => ?_⟩
  have e3 := e2 vs (.of h1)
  rw [hv] at e3
  cases e3
  subst e1
  exact ⟨Ext.refl ok.wd, rv⟩
theorem itt_ok {p : Par} {a : Addr} {ds : List D} : ItOk p ds (Itt p.K a) [(.ref a, .tuple ds)] := fun O H i ok hk => by
  obtain ⟨a', vs, z, h1, r⟩ := (hk (.ref a, .tuple ds) (List.mem_singleton.mpr rfl)).tuple
  cases z
  refine ⟨fun hi => ⟨vs, h1, by rw [r.length]; exact hi⟩, fun d hd => ?_⟩
  obtain ⟨v, hv, rv⟩ := r.get hd
  refine ⟨⟨vs, v, h1, hv⟩, fun x H' ⟨e1, e2⟩ => ?_⟩
  have e3 := e2 vs h1
  rw [hv] at e3
  cases e3
  subst e1
  exact ⟨Ext.refl ok.wd, rv⟩
/-- a list or a tuple -/
def seqD : D → Option (List D)
  | .list ds => some ds
  | .tuple ds => some ds
  | _ => none
def iSeq (K : PySem.W.Frag) (tl : TE) : TI := fun σ H R => tl σ H fun x H1 => ∃ a, x = .ref a ∧ (((∃ xs, SqL K H1 a xs) ∧ R (Itl K a) H1) ∨ ((∃ xs, SqT K H1 a xs) ∧ R (Itt K a) H1))
theorem pi_seq {l : Expr} {tl : TE} (hl : PE X l tl) : PI X tg l (iSeq X.K tl) := by
  refine ⟨fun pins s σ H R I h => ?_⟩
  refine thn (hl.run pins s σ H _ I h) fun v s1 ⟨x, H1, I1, r1, q1⟩ => ?_
  obtain ⟨a, e, q⟩ := q1
  subst e
  cases r1
  rcases q with ⟨⟨xs, hq⟩, q⟩ | ⟨⟨xs, hq⟩, q⟩
  · obtain ⟨its, rv, p, hz⟩ := I1.list hq
    refine wpAny_pyIter_list p.isList ?_
    refine ⟨s1.heap.objs.size, [s1.heap.objs.size], _, _, H1, rfl, I1.kept (t' := s1.toks) fun b o e => Heap.get?_push_of_some _ e, turn_list a _, ⟨_, Heap.get?_push_size _ rfl, rfl, rfl⟩, fun b hb => ?_, q⟩
    have e : b = s1.heap.objs.size := by simpa using hb
    subst e
    exact I1.fpOk (Nat.le_refl _) (I1.hok.fresh (Nat.le_refl _))
  · obtain ⟨its, rv, p, hz⟩ := I1.tuple hq
    refine wpAny_pyIter_tuple (show s1.heap.IsTuple a its.toArray from p) ?_
    refine ⟨s1.heap.objs.size, [s1.heap.objs.size], _, _, H1, rfl, I1.kept (t' := s1.toks) fun b o e => Heap.get?_push_of_some _ e, turn_tuple a _, ⟨_, Heap.get?_push_size _ rfl, rfl, rfl⟩, fun b hb => ?_, q⟩
    have e : b = s1.heap.objs.size := by simpa using hb
    subst e
    exact I1.fpOk (Nat.le_refl _) (I1.hok.fresh (Nat.le_refl _))
def wiSeq (w : WE) : WI := fun ρ Q EX => w ρ (fun d => ∃ ds, seqD d = some ds ∧ Q ds) EX
theorem di_seq {w : WE} (h : DH b0 p X e w) : DI b0 p X tg e (wiSeq w) := by
  refine ⟨pi_use (pi_seq (pe_hk h.pe)) fun σ H R hk ⟨ρ, O, EX, Rl, ex, hw⟩ => ⟨ρ, O, EX, Rl, ex, h.mono _ _ _ _ (fun d ⟨ds, z, q⟩ v H1 hk1 e1 r1 _ => ?_) hw⟩, fun ρ Q Q' EX hh q => h.mono _ _ _ _ (fun d ⟨ds, z, q⟩ => ⟨ds, z, hh _ q⟩) q⟩
  cases d with
  | none => cases z
  | bool _ => cases z
  | int _ => cases z
  | str _ => cases z
  | dict _ => cases z
  | list _ =>
    cases z
    obtain ⟨a, vs, rfl, _, h1, r⟩ := (hold_b r1).list
    exact ⟨a, rfl, .inl ⟨⟨vs, .of h1⟩, q _ _ _ hk1 e1 (one_held r1) itl_ok⟩⟩
  | tuple _ =>
    cases z
    obtain ⟨a, vs, rfl, h1, r⟩ := (hold_b r1).tuple
    exact ⟨a, rfl, .inr ⟨⟨vs, h1⟩, q _ _ _ hk1 e1 (one_held r1) itt_ok⟩⟩
/-- range -/
def rngD (lo : Int) (n : Nat) : List D := (List.range n).map fun i => .int (lo + (i : Nat))
theorem rng_get {lo : Int} {n i : Nat} {d : D} (h : (rngD lo n)[i]? = some d) : i < n ∧ d = .int (lo + (i : Nat)) := by
  unfold rngD at h
  rw [List.getElem?_map] at h
  by_cases hi : i < n
  · rw [List.getElem?_range hi] at h
    exact ⟨hi, by simpa using h.symm⟩
  · rw [List.getElem?_eq_none (by simpa using hi)] at h
    cases h
theorem rng_len {lo : Int} {n : Nat} : (rngD lo n).length = n := by unfold rngD; simp
theorem itr_ok {p : Par} {lo : Int} {n : Nat} : ItOk p (rngD lo n) (Itr lo n) [] := fun O H i ok _ => by
  refine ⟨fun hi => by rw [rng_len] at hi; exact hi, fun d hd => ?_⟩
  obtain ⟨hi, rfl⟩ := rng_get hd
  refine ⟨hi, fun x H' ⟨e1, e2⟩ => ?_⟩
  subst e1
  subst e2
  exact ⟨Ext.refl ok.wd, rep_int⟩
def rBnd (i : Int) : Prop := -(2 ^ 62) ≤ i ∧ i < 2 ^ 62
def wiRng1 (w : WE) : WI := fun ρ Q EX => w ρ (fun d => ∃ j, d = .int j ∧ rBnd j ∧ Q (rngD 0 j.toNat)) EX
def wiRng2 (w u : WE) : WI := fun ρ Q EX => w ρ (fun d => u ρ (fun d2 => ∃ i j, d = .int i ∧ d2 = .int j ∧ rBnd i ∧ rBnd j ∧ Q (rngD i (j - i).toNat)) EX) EX
theorem no_held {p : Par} {O : Own} {H : Hp} : ∀ x ∈ ([] : List (V × D)), hold b0 p O H x.1 x.2 := fun x hx => by cases hx
theorem di_rng1 {w : WE} {q : Pos} (hm : X.mg "range" = none) (h : DB p X a w) (hg : Gl X "range" := by rfl) (hs : starEach [a] X.env = [(false, eval a X.env)] := by rfl) : DI b0 p X tg (.Call (.Name "range" q) [a] [] pos) (wiRng1 w) :=
  ⟨pi_use (pi_range1 hg hm (pa_cons (pe_hk h.pe) pa_nil hs) hs) fun σ H R hk ⟨ρ, O, EX, Rl, ex, hw⟩ => ⟨ρ, O, EX, Rl, ex, h.mono _ _ _ _ (fun d ⟨j, z, hb, q⟩ v H1 hk1 e1 r1 _ => by
    subst z
    rw [r1.int]
    exact ⟨j, rfl, hb.1, hb.2, q _ _ [] hk1 e1 no_held itr_ok⟩) hw⟩, fun ρ Q Q' EX hh q => h.mono _ _ _ _ (fun d ⟨j, z, hb, q⟩ => ⟨j, z, hb, hh _ q⟩) q⟩
theorem di_rng2 {w u : WE} {q : Pos} (hm : X.mg "range" = none) (h : DB p X a w) (h2 : DB p X b u) (hg : Gl X "range" := by rfl) (hs : starEach [a, b] X.env = [(false, eval a X.env), (false, eval b X.env)] := by rfl) (hs2 : starEach [b] X.env = [(false, eval b X.env)] := by rfl)
    (hs3 : starEach [a, b] X.env = (false, eval a X.env) :: starEach [b] X.env := by rfl) : DI b0 p X tg (.Call (.Name "range" q) [a, b] [] pos) (wiRng2 w u) :=
  ⟨pi_use (pi_range2 hg hm (pa_cons (pe_hk h.pe) (pa_cons (pe_hk h2.pe) pa_nil hs2) hs3) hs hs2) fun σ H R hk ⟨ρ, O, EX, Rl, ex, hw⟩ => ⟨ρ, O, EX, Rl, ex, h.mono _ _ _ _ (fun d q v H1 hk1 e1 r1 _ => ⟨ρ, O, EX, Rl.ext' e1, ex, h2.mono _ _ _ _ (fun d2 ⟨i, j, z, z2, hi, hj, q'⟩ v2 H2 hk2 e2 r2 _ => by
    subst z
    subst z2
    rw [r1.int, r2.int]
    exact ⟨i, j, rfl, ⟨hi.1, hi.2, hj.1, hj.2⟩, q' _ _ [] hk2 (e1.trans e2) no_held itr_ok⟩) q⟩) hw⟩, fun ρ Q Q' EX hh q => h.mono _ _ _ _ (fun d q => h2.mono _ _ _ _ (fun d2 ⟨i, j, z, z2, hi, hj, q⟩ => ⟨i, j, z, z2, hi, hj, hh _ q⟩) q) q⟩
/-- enumerate of a list -/
def enumD (ds : List D) : List D := (List.range ds.length).map fun i => .tuple [.int ((i : Nat) : Int), ds.getD i .none]
theorem enum_len {ds : List D} : (enumD ds).length = ds.length := by unfold enumD; simp
theorem enum_get {ds : List D} {i : Nat} {d : D} (h : (enumD ds)[i]? = some d) : ∃ x, ds[i]? = some x ∧ d = .tuple [.int ((i : Nat) : Int), x] := by
  unfold enumD at h
  rw [List.getElem?_map] at h
  by_cases hi : i < ds.length
  · rw [List.getElem?_range hi] at h
    refine ⟨ds[i], List.getElem?_eq_getElem hi, ?_⟩
    have h := Option.some.inj h
    rw [← h]
    dsimp only
    rw [List.getD_eq_getElem?_getD, List.getElem?_eq_getElem hi]
    rfl
  · rw [List.getElem?_eq_none (by simpa using hi)] at h
    cases h
theorem pair_new {p : Par} {O : Own} {H : Hp} {T : Addr} {x y : V} {d d' : D} (ok : Ok0 p O H) (hT : H T = none) (r : RepV p.K (NN p O) H x d) (r' : RepV p.K (NN p O) H y d') : Ext p H (upd H T (.tup [x, y])) ∧ RepV p.K (NN p O) (upd H T (.tup [x, y])) (.ref T) (.tuple [d, d']) :=
  ⟨Ext.new ok.wd hT, rep_tuple (.of (by unfold L2.upd; rw [if_pos rfl])) (RepAll.ext (Ext.new ok.wd hT) ok.wd (rall_cons r (rall_cons r' rall_nil)))⟩
theorem ite_ok {p : Par} {a : Addr} {ds : List D} : ItOk p (enumD ds) (Ite p.K a) [(.ref a, .list ds)] := fun O H i ok hk => by
  obtain ⟨a', vs, z, _, h1, r⟩ := (hk (.ref a, .list ds) (List.mem_singleton.mpr rfl)).list
  cases z
  refine ⟨fun hi => ⟨vs, .of h1, by rw [r.length]; rw [enum_len] at hi; exact hi⟩, fun d hd => ?_⟩
  obtain ⟨x, hx, rfl⟩ := enum_get hd
  obtain ⟨v, hv, rv⟩ := r.get hx
  refine ⟨⟨vs, v, .of h1, hv⟩, fun u H' ⟨T, w, e0, hT, e1, e2⟩ => ?_⟩
  have e3 := e2 vs (.of h1)
  rw [hv] at e3
  cases e3
  subst e0
  subst e1
  exact pair_new ok hT rep_int rv
def wiEnum (w : WE) : WI := fun ρ Q EX => w ρ (fun d => ∃ ds, d = .list ds ∧ Q (enumD ds)) EX
theorem di_enum {w : WE} {elts : List Expr} {kk : Nat} {q tpos : Pos} (hm : X.mg "enumerate" = none) (h : DH b0 p X a w) (hg : Gl X "enumerate" := by rfl) (hs : starEach [a] X.env = [(false, eval a X.env)] := by rfl) : DI b0 p X (.Tuple elts kk tpos) (.Call (.Name "enumerate" q) [a] [] pos) (wiEnum w) :=
  ⟨pi_use (pi_enum hg hm (pa_cons (pe_hk h.pe) pa_nil hs) hs) fun σ H R hk ⟨ρ, O, EX, Rl, ex, hw⟩ => ⟨ρ, O, EX, Rl, ex, h.mono _ _ _ _ (fun d ⟨ds, z, q⟩ v H1 hk1 e1 r1 _ => by
    subst z
    obtain ⟨a, vs, rfl, _, h1, r⟩ := (hold_b r1).list
    exact ⟨a, vs, rfl, .of h1, q _ _ _ hk1 e1 (one_held r1) ite_ok⟩) hw⟩, fun ρ Q Q' EX hh q => h.mono _ _ _ _ (fun d ⟨ds, z, q⟩ => ⟨ds, z, hh _ q⟩) q⟩
/-- zip of two lists, of two tuples -/
def zipD (xs ys : List D) : List D := List.zipWith (fun x y => .tuple [x, y]) xs ys
theorem zip_get {xs ys : List D} {i : Nat} {d : D} (h : (zipD xs ys)[i]? = some d) : ∃ x y, xs[i]? = some x ∧ ys[i]? = some y ∧ d = .tuple [x, y] := by
  unfold zipD at h
  rw [List.getElem?_zipWith] at h
  cases hx : xs[i]? with
  | none => rw [hx] at h; cases h
  | some x =>
    cases hy : ys[i]? with
    | none => rw [hx, hy] at h; cases h
    | some y =>
      rw [hx, hy] at h
      exact ⟨x, y, rfl, rfl, (Option.some.inj h).symm⟩
theorem zip_len {xs ys : List D} : (zipD xs ys).length = min xs.length ys.length := by unfold zipD; simp
theorem itz_ok {p : Par} {a b : Addr} {ds es : List D} : ItOk p (zipD ds es) (Itz p.K a b) [(.ref a, .list ds), (.ref b, .list es)] := fun O H i ok hk => by
  obtain ⟨a', vs, z, _, h1, r⟩ := (hk (.ref a, .list ds) (by simp)).list
  cases z
  obtain ⟨b', ws, z, _, h2, r'⟩ := (hk (.ref b, .list es) (by simp)).list
  cases z
  refine ⟨fun hi => ⟨vs, ws, .of h1, .of h2, by rw [zip_len] at hi; rw [r.length, r'.length]; omega⟩, fun d hd => ?_⟩
  obtain ⟨x, y, hx, hy, rfl⟩ := zip_get hd
  obtain ⟨v, hv, rv⟩ := r.get hx
  obtain ⟨w, hw, rw'⟩ := r'.get hy
  refine ⟨⟨vs, ws, v, w, .of h1, .of h2, hv, hw⟩, fun u H' ⟨T, x', y', e0, hT, e1, e2, e3⟩ => ?_⟩
  have e4 := e2 vs (.of h1)
  rw [hv] at e4
  cases e4
  have e5 := e3 ws (.of h2)
  rw [hw] at e5
  cases e5
  subst e0
  subst e1
  exact pair_new ok hT rv rw'
theorem itzT_ok {p : Par} {a b : Addr} {ds es : List D} : ItOk p (zipD ds es) (RZ.ItzT p.K a b) [(.ref a, .tuple ds), (.ref b, .tuple es)] := fun O H i ok hk => by
  obtain ⟨a', vs, z, h1, r⟩ := (hk (.ref a, .tuple ds) (by simp)).tuple
  cases z
  obtain ⟨b', ws, z, h2, r'⟩ := (hk (.ref b, .tuple es) (by simp)).tuple
  cases z
  refine ⟨fun hi => ⟨vs, ws, h1, h2, by rw [zip_len] at hi; rw [r.length, r'.length]; omega⟩, fun d hd => ?_⟩
  obtain ⟨x, y, hx, hy, rfl⟩ := zip_get hd
  obtain ⟨v, hv, rv⟩ := r.get hx
  obtain ⟨w, hw, rw'⟩ := r'.get hy
  refine ⟨⟨vs, ws, v, w, h1, h2, hv, hw⟩, fun u H' ⟨T, x', y', e0, hT, e1, e2, e3⟩ => ?_⟩
  have e4 := e2 vs h1
  rw [hv] at e4
  cases e4
  have e5 := e3 ws h2
  rw [hw] at e5
  cases e5
  subst e0
  subst e1
  exact pair_new ok hT rv rw'
def wiZip (w u : WE) : WI := fun ρ Q EX => w ρ (fun d => u ρ (fun d2 => ∃ ds es, ((d = .list ds ∧ d2 = .list es) ∨ (d = .tuple ds ∧ d2 = .tuple es)) ∧ Q (zipD ds es)) EX) EX
theorem two_held {p : Par} {O : Own} {H : Hp} {v v' : V} {d d' : D} (h : hold b0 p O H v d) (h' : hold b0 p O H v' d') : ∀ x ∈ [(v, d), (v', d')], hold b0 p O H x.1 x.2 := fun x hx => by
  rcases List.mem_cons.mp hx with rfl | hx
  · exact h
  · rw [List.mem_singleton] at hx
    subst hx
    exact h'
theorem di_zip {w u : WE} {elts : List Expr} {kk : Nat} {q tpos : Pos} (hm : X.mg "zip" = none) (h : DH b0 p X a w) (h2 : DH b0 p X b u) (hg : Gl X "zip" := by rfl) (hs : starEach [a, b] X.env = (false, eval a X.env) :: starEach [b] X.env := by rfl) (hs2 : starEach [b] X.env = (false, eval b X.env) :: starEach [] X.env := by rfl) (hpl : (backTo pos (starEach [b] X.env)).any (·.1) = false := by rfl) :
    DI b0 p X (.Tuple elts kk tpos) (.Call (.Name "zip" q) [a, b] [] pos) (wiZip w u) := by
  refine ⟨pi_use (RZ.pi_zipA hg hm (pa_cons (pe_hk h.pe) (pa_cons (pe_hk h2.pe) pa_nil hs2) hs) hs hpl) fun σ H R hk ⟨ρ, O, EX, Rl, ex, hw⟩ => ⟨ρ, O, EX, Rl, ex, h.mono _ _ _ _ (fun d q v H1 hk1 e1 r1 _ => ⟨ρ, O, EX, Rl.ext' e1, ex, h2.mono _ _ _ _ (fun d2 ⟨ds, es, z, q'⟩ v2 H2 hk2 e2 r2 _ => ?_) q⟩) hw⟩,
    fun ρ Q Q' EX hh q => h.mono _ _ _ _ (fun d q => h2.mono _ _ _ _ (fun d2 ⟨ds, es, z, q⟩ => ⟨ds, es, z, hh _ q⟩) q) q⟩
  have r3 := hold_ext e1.wd e2 r1
  rcases z with ⟨rfl, rfl⟩ | ⟨rfl, rfl⟩
  · obtain ⟨a, vs, rfl, _, h1, _⟩ := (hold_b r3).list
    obtain ⟨b, ws, rfl, _, h2, _⟩ := (hold_b r2).list
    exact ⟨a, b, vs, ws, rfl, .inl ⟨.of h1, .of h2, q' _ _ _ hk2 (e1.trans e2) (two_held r3 r2) itz_ok⟩⟩
  · obtain ⟨a, vs, rfl, h1, _⟩ := (hold_b r3).tuple
    obtain ⟨b, ws, rfl, h2, _⟩ := (hold_b r2).tuple
    exact ⟨a, b, vs, ws, rfl, .inr ⟨h1, h2, q' _ _ _ hk2 (e1.trans e2) (two_held r3 r2) itzT_ok⟩⟩
/-! ### for, while -/
def wLoop (g : WG) (bd : WS) (D : EndsW) : List DD.D → Env' → Prop
  | [], ρ => D.nx ρ
  | d :: ds, ρ => g d ρ fun ρ' => bd { nx := wLoop g bd D ds, rt := D.rt, bk := D.nx, ct := wLoop g bd D ds, ex := D.ex } ρ'
def wFor (wi : WI) (g : WG) (bd : WS) : WS := fun D ρ => wi ρ (fun ds => wLoop g bd D ds ρ) D.ex
theorem mono_Loop {g : WG} {bd : WS} (hg : MonoG g) (hb : MonoS bd) {D D' : EndsW} (hd : D.le D') : ∀ (ds : List DD.D) (ρ : Env'), wLoop g bd D ds ρ → wLoop g bd D' ds ρ
  | [], ρ, q => hd.nx _ q
  | d :: ds, ρ, q => hg _ _ _ _ (fun ρ' q => hb { nx := wLoop g bd D ds, rt := D.rt, bk := D.nx, ct := wLoop g bd D ds, ex := D.ex } _ _ ⟨fun ρ q => mono_Loop hg hb hd ds ρ q, hd.rt, fun ρ q => hd.nx ρ q, fun ρ q => mono_Loop hg hb hd ds ρ q, hd.ex⟩ q) q
theorem ds_for {wi : WI} {ix : List Nat} {g : WG} {bd : WS} {body : List Stmt} (hp : PassesOwn (model X.prog X.w) X.A X.env X.xe) (hc : X.calm = true) (hi : DI false p X tg e wi) (hg : DG p X tg ix g) (hb : DSs p X body bd)
    (hs : ∀ x, foldedSetIterable e X.env x = pure x := by intro _; rfl) : DS p X (.For tg e body [] pos) (wFor wi g bd) := by
  refine ⟨ps_use (ps_for hp hc hi.pi hg.pg hb.ps hs) fun D σ H hk ⟨ρ, O, EX, R, ex, hw⟩ => ?_, fun D D' ρ hd q => ?_⟩
  · refine ⟨ρ, O, EX, R, ex, hi.mono _ _ _ _ (fun ds q J H1 ks hk1 e1 hks it => ?_) hw⟩
    let Dw := endsW (p.at X.K) D O.ks EX
    have q : wLoop g bd Dw ds ρ := q
    let St : List DD.D → L2.St → Hp → Prop := fun ds σ H => Hk X.K H ∧ ∃ ρ' O', O'.ks = ks ++ O.ks ∧ Rel (p.at X.K) O' ρ' σ H ∧ wLoop g bd Dw ds ρ'
    refine ⟨fun i m σ H => m = ds.length - i ∧ i ≤ ds.length ∧ St (ds.drop i) σ H, ⟨ds.length, rfl, Nat.zero_le _, hk1, ρ, ⟨O.fn, ks ++ O.ks⟩, rfl, (R.ext' e1).hold hks, q⟩, ?_⟩
    rintro i m σ2 H2 ⟨rfl, hi', hk2, ρ2, O2, k2, R2, q2⟩
    have held : ∀ x ∈ ks, RepB (p.at X.K) O2 H2 x.1 x.2 := fun x hx => (R2.keep x (by rw [k2]; exact List.mem_append_left _ hx)).b
    obtain ⟨t1, t2⟩ := it O2 H2 i R2.ok0 held
    cases hd : ds[i]? with
    | none =>
      have hle : ds.length ≤ i := List.getElem?_eq_none_iff.mp hd
      rw [List.drop_eq_nil_of_le hle] at q2
      refine .inl ⟨t1 hle, fun hk3 => ?_⟩
      have q3 : Dw.nx ρ2 := q2
      exact q3 ⟨O2.fn, O.ks⟩ σ2 H2 rfl hk3 (R2.drop fun x hx => by rw [k2]; exact List.mem_append_right _ hx)
    | some d =>
      have hlt : i < ds.length := (List.getElem?_eq_some_iff.mp hd).1
      obtain ⟨go, yl⟩ := t2 d hd
      have hdrop : ds.drop i = d :: ds.drop (i + 1) := by
        rw [List.drop_eq_getElem_cons hlt]
        congr 1
        have := List.getElem?_eq_getElem hlt
        rw [hd] at this
        exact (Option.some.inj this).symm
      rw [hdrop] at q2
      refine .inr ⟨go, fun σ' H' => St (ds.drop (i + 1)) σ' H', fun σ' H' st => ⟨ds.length - (i + 1), by omega, rfl, hlt, st⟩, fun x H3 y => ?_⟩
      obtain ⟨e3, r3⟩ := yl x H3 y
      refine ⟨ρ2, O2, d, R2.ext' e3, r3, hg.mono _ _ _ _ (fun ρ3 q3 O3 σ3 k3 _ _ _ R3 => ?_) q2⟩
      refine ⟨ρ3, O3, EX, R3, ex, hb.mono { nx := wLoop g bd Dw (ds.drop (i + 1)), rt := Dw.rt, bk := Dw.nx, ct := wLoop g bd Dw (ds.drop (i + 1)), ex := Dw.ex } _ _ ⟨fun ρ4 q4 O4 σ4 H4 k4 hk4 R4 => ?_, fun d q4 v H4 hk4 e4 r4 hk5 => q4 v H4 hk4 e4 r4, fun ρ4 q4 O4 σ4 H4 k4 hk4 R4 hk5 => ?_, fun ρ4 q4 O4 σ4 H4 k4 hk4 R4 => ?_, rfl⟩ q3⟩
      · exact ⟨hk4, ρ4, O4, k4.trans (k3.trans k2), R4, q4⟩
      · have q5 : Dw.nx ρ4 := q4
        exact q5 ⟨O4.fn, O.ks⟩ σ4 H4 rfl hk5 (R4.drop fun x hx => by rw [k4, k3, k2]; exact List.mem_append_right _ hx)
      · exact ⟨hk4, ρ4, O4, k4.trans (k3.trans k2), R4, q4⟩
  · unfold wFor at q ⊢
    rw [← hd.ex]
    exact hi.mono _ _ _ _ (fun ds q => mono_Loop hg.mono hb.mono hd ds ρ q) q
def wWhile (t : WT) (bd : WS) : WS := fun D ρ => ∃ W : Nat → Env' → Prop, (∃ m, W m ρ) ∧ ∀ m ρ, W m ρ → t ρ (fun k => if k = true then bd { nx := fun ρ' => ∃ m', m' < m ∧ W m' ρ', rt := D.rt, bk := D.nx, ct := fun ρ' => ∃ m', m' < m ∧ W m' ρ', ex := D.ex } ρ else D.nx ρ) D.ex
theorem ds_while {t : WT} {bd : WS} {body : List Stmt} (hp : PassesOwn (model X.prog X.w) X.A X.env X.xe) (hc : DT p X c t) (hb : DSs p X body bd) : DS p X (.While c body [] pos) (wWhile t bd) := by
  refine ⟨ps_use (ps_while hp hc.pt hb.ps) fun D σ H hk ⟨ρ, O, EX, R, ex, hw⟩ => ?_, fun D D' ρ hd ⟨W, w0, turn⟩ => ⟨W, w0, fun m ρ w => ?_⟩⟩
  · obtain ⟨W, ⟨m0, w0⟩, turn⟩ := hw
    let Dw := endsW (p.at X.K) D O.ks EX
    let St : Nat → L2.St → Hp → Prop := fun m σ H => Hk X.K H ∧ ∃ ρ' O', O'.ks = O.ks ∧ Rel (p.at X.K) O' ρ' σ H ∧ W m ρ'
    refine ⟨St, ⟨m0, hk, ρ, O, rfl, R, w0⟩, ?_⟩
    rintro m σ2 H2 ⟨hk2, ρ2, O2, k2, R2, w2⟩
    refine ⟨ρ2, O2, EX, R2, ex, hc.mono _ _ _ _ (fun k q H3 hk3 e3 => ?_) (turn m ρ2 w2)⟩
    by_cases z : k = true
    · rw [if_pos z] at q ⊢
      refine ⟨fun σ' H' => ∃ m', m' < m ∧ St m' σ' H', fun _ _ h => h, ρ2, O2, EX, R2.ext' e3, ex, hb.mono { nx := fun ρ' => ∃ m', m' < m ∧ W m' ρ', rt := Dw.rt, bk := Dw.nx, ct := fun ρ' => ∃ m', m' < m ∧ W m' ρ', ex := Dw.ex } _ _ ⟨?_, ?_, ?_, ?_, rfl⟩ q⟩
      · exact fun ρ4 ⟨m', hm, w4⟩ O4 σ4 H4 k4 hk4 R4 => ⟨m', hm, hk4, ρ4, O4, k4.trans k2, R4, w4⟩
      · exact fun d q4 v H4 hk4 e4 r4 hk5 => q4 v H4 hk4 e4 r4
      · exact fun ρ4 q4 O4 σ4 H4 k4 hk4 R4 hk5 => q4 O4 σ4 H4 (k4.trans k2) hk5 R4
      · exact fun ρ4 ⟨m', hm, w4⟩ O4 σ4 H4 k4 hk4 R4 => ⟨m', hm, hk4, ρ4, O4, k4.trans k2, R4, w4⟩
    · rw [if_neg z] at q ⊢
      exact fun hk4 => q O2 σ2 H3 k2 hk4 (R2.ext' e3)
  · rw [← hd.ex]
    refine hc.mono _ _ _ _ (fun k q => ?_) (turn m ρ w)
    by_cases z : k = true
    · rw [if_pos z] at q ⊢; exact hb.mono { nx := fun ρ' => ∃ m', m' < m ∧ W m' ρ', rt := D.rt, bk := D.nx, ct := fun ρ' => ∃ m', m' < m ∧ W m' ρ', ex := D.ex } _ _ ⟨fun _ q => q, hd.rt, hd.nx, fun _ q => q, rfl⟩ q
    · rw [if_neg z] at q ⊢; exact hd.nx _ q
end
end DD
set_option maxRecDepth 100000
set_option maxHeartbeats 2000000
/-! SemJ: comprehensions. -/
namespace DD
open PySem PySem.Spec PyProof.Rows L2
/-! ### a block's slots -/
def wipeE (ρ : Env') : List Nat → Env'
  | [] => ρ
  | v :: vs => (wipeE ρ vs).set v none
theorem wipeE_len {ρ : Env'} : ∀ {vs : List Nat}, (wipeE ρ vs).length = ρ.length
  | [] => rfl
  | v :: vs => by unfold wipeE; rw [List.length_set, wipeE_len]
theorem wipeE_some {ρ : Env'} {i : Nat} {w : W} : ∀ {vs : List Nat}, (wipeE ρ vs)[i]? = some (some w) → ρ[i]? = some (some w) ∧ i ∉ vs
  | [], h => ⟨h, by simp⟩
  | v :: vs, h => by
    unfold wipeE at h
    rw [List.getElem?_set] at h
    by_cases z : v = i
    · rw [if_pos z] at h
      split at h <;> cases h
    · rw [if_neg z] at h
      obtain ⟨h1, h2⟩ := wipeE_some h
      exact ⟨h1, by simp only [List.mem_cons, not_or]; exact ⟨fun e => z e.symm, h2⟩⟩
/-- the owners of wiped slots go to hidden places -/
def shf (O : Own) (vs : List Nat) (L : Nat) : Own := ⟨fun j => if j < L then (if j ∈ vs then none else O j) else if j = L then none else if (j - L - 1) ∈ vs ∨ L ≤ j - L - 1 then O (j - L - 1) else none, O.ks⟩
theorem shf_at {O : Own} {vs : List Nat} {L j : Nat} {a : Addr} (h : shf O vs L j = some a) : ∃ i, O i = some a ∧ ((j < L ∧ j = i ∧ i ∉ vs) ∨ (L < j ∧ i = j - L - 1 ∧ (i ∈ vs ∨ L ≤ i))) := by
  unfold shf at h
  dsimp only at h
  split at h
  · split at h
    · cases h
    · rename_i h1 h2; exact ⟨j, h, .inl ⟨h1, rfl, h2⟩⟩
  · split at h
    · cases h
    · split at h
      · rename_i h1 h2 h3; exact ⟨j - L - 1, h, .inr ⟨by omega, rfl, h3⟩⟩
      · cases h
theorem shf_has {O : Own} {vs : List Nat} {L i : Nat} {a : Addr} (h : O i = some a) : ∃ j, shf O vs L j = some a := by
  by_cases h1 : i < L ∧ i ∉ vs
  · exact ⟨i, (if_pos h1.1).trans ((if_neg h1.2).trans h)⟩
  · refine ⟨i + L + 1, (if_neg (by omega)).trans ((if_neg (by omega)).trans ?_)⟩
    rw [show i + L + 1 - L - 1 = i by omega]
    refine (if_pos ?_).trans h
    by_cases z : i ∈ vs
    · exact .inl z
    · exact .inr (by
        have : ¬ i < L := fun y => h1 ⟨y, z⟩
        omega)
theorem shf_L {O : Own} {vs : List Nat} {L : Nat} : shf O vs L L = none := (if_neg (by omega)).trans (if_pos rfl)
theorem shf_nn {p : Par} {O : Own} {vs : List Nat} {L : Nat} {a : Addr} : NN p (shf O vs L) a ↔ NN p O a :=
  ⟨fun n => ⟨n.1, n.2.1, fun i z => let ⟨j, h⟩ := shf_has (vs := vs) (L := L) z; n.2.2 j h⟩, fun n => ⟨n.1, n.2.1, fun j z => let ⟨i, h, _⟩ := shf_at z; n.2.2 i h⟩⟩
theorem Rel.wipe {p : Par} {O : Own} {ρ : Env'} {σ : L2.St} {H : Hp} {vs : List Nat} {L : Nat} (R : Rel p O ρ σ H) (hl : ρ.length ≤ L) : Rel p (shf O vs L) (wipeE ρ vs) (L2.wipe σ vs) H := by
  have kk : Keeps2 (NN p O) (NN p (shf O vs L)) H H := ⟨fun a n _ => shf_nn.mpr n, fun _ _ _ e _ => e, fun _ _ e => e, fun _ _ _ e => e⟩
  refine ⟨R.wd, R.ext, by rw [wipe_length, wipeE_len]; exact R.len, fun i w hw => ?_, fun i j a hi hj => ?_, fun x hx => RepV.keep kk x.2 x.1 (R.keep x hx), fun i a h => ?_⟩
  · obtain ⟨h1, h2⟩ := wipeE_some hw
    have hi : i < ρ.length := (List.getElem?_eq_some_iff.mp h1).1
    have h := R.slot i w h1
    have e : (L2.wipe σ vs)[i]? = σ[i]? := by rw [GX.wipe_get, if_neg h2]
    rw [e]
    cases w with
    | d x => obtain ⟨v, e1, e2⟩ := h; exact ⟨v, e1, RepV.keep kk x v e2⟩
    | own x =>
      obtain ⟨b, e1, e2, e3⟩ := h
      exact ⟨b, (if_pos (by omega)).trans ((if_neg h2).trans e1), e2, RepO.keep kk rfl e3⟩
    | row => exact h
  · obtain ⟨i', h1, h2⟩ := shf_at hi
    obtain ⟨j', h3, h4⟩ := shf_at hj
    have e := R.inj i' j' a h1 h3
    subst e
    rcases h2 with ⟨a1, a2, a3⟩ | ⟨a1, a2, a3⟩ <;> rcases h4 with ⟨b1, b2, b3⟩ | ⟨b1, b2, b3⟩
    · omega
    · rcases b3 with b3 | b3
      · exact absurd b3 a3
      · omega
    · rcases a3 with a3 | a3
      · exact absurd a3 b3
      · omega
    · omega
  · obtain ⟨i', h1, _⟩ := shf_at h
    exact R.own i' a h1
/-- no error is let out -/
abbrev Par.nox (p : Par) : Par := { p with E := fun _ _ _ => False }
theorem Wd.nox {p : Par} {H : Hp} (h : Wd p H) : Wd p.nox H := ⟨h.dj, h.g, h.t, h.row⟩
theorem Wd.unnox {p : Par} {H : Hp} (h : Wd p.nox H) : Wd p H := ⟨h.dj, h.g, h.t, h.row⟩
theorem Ext.nox {p : Par} {H H' : Hp} (h : Ext p H H') : Ext p.nox H H' := ⟨h.ob, h.dom, h.wd.nox⟩
theorem Ext.unnox {p : Par} {H H' : Hp} (h : Ext p.nox H H') : Ext p H H' := ⟨h.ob, h.dom, h.wd.unnox⟩
theorem Rel.nox {p : Par} {O : Own} {ρ : Env'} {σ : L2.St} {H : Hp} (R : Rel p O ρ σ H) : Rel p.nox O ρ σ H :=
  ⟨R.wd.nox, R.ext.nox, R.len, fun i w hw => by
    have h := R.slot i w hw
    cases w <;> exact h, R.inj, R.keep, R.own⟩
theorem Rel.unnox {p : Par} {O : Own} {ρ : Env'} {σ : L2.St} {H : Hp} (R : Rel p.nox O ρ σ H) : Rel p O ρ σ H :=
  ⟨R.wd.unnox, R.ext.unnox, R.len, fun i w hw => by
    have h := R.slot i w hw
    cases w <;> exact h, R.inj, R.keep, R.own⟩
def noX : EXn := fun _ => False
theorem exok_no {p : Par} : ExOk p noX := fun _ _ _ _ h _ _ => h.elim
/-- writing to an own object at a hidden place -/
theorem Rel.writeH {p : Par} {O : Own} {ρ : Env'} {σ : L2.St} {H : Hp} {L : Nat} {a : Addr} {o : HO} (R : Rel p O ρ σ H) (ha : O L = some a) (hl : ρ.length ≤ L) (so : Soft (some o)) : Rel p O ρ σ (upd H a o) := by
  obtain ⟨h0, nr, hs, hne, sf⟩ := R.own L a ha
  have kk : Keeps2 (NN p O) (NN p O) H (upd H a o) := by
    refine ⟨fun _ n _ => n, fun b ob n e _ => ?_, fun b xs e => ?_, fun b ob xs e => ?_⟩
    · rw [upd_ne (fun z => n.2.2 L (by rw [z]; exact ha))]; exact e
    · rw [upd_ne (fun z => by rw [← z, e] at sf; exact sf)]; exact e
    · rw [upd_ne (fun z => by rw [← z, e] at sf; exact sf)]; exact e
  refine ⟨R.wd.upd sf nr (.inr hs), ⟨fun b ob e n m => ?_, fun b e => ?_, R.wd.upd sf nr (.inr hs)⟩, R.len, fun j w hw => ?_, R.inj, fun x hx => RepV.keep kk x.2 x.1 (R.keep x hx), fun j b hj => ?_⟩
  · rw [upd_ne (fun z => by rw [z, h0] at e; cases e)]
    exact R.ext.ob b ob e n m
  · by_cases z : b = a
    · rw [z]; unfold L2.upd; rw [if_pos rfl]; simp
    · rw [upd_ne z]; exact R.ext.dom b e
  · have hj : j < ρ.length := (List.getElem?_eq_some_iff.mp hw).1
    have h := R.slot j w hw
    cases w with
    | d x => obtain ⟨v, e1, e2⟩ := h; exact ⟨v, e1, RepV.keep kk x v e2⟩
    | own x =>
      obtain ⟨b, e1, e2, e3⟩ := h
      refine ⟨b, e1, e2, RepO.keep kk (upd_ne fun q => ?_) e3⟩
      rw [q] at e1
      have := R.inj L j a ha e1
      omega
    | row => exact h
  · obtain ⟨q1, q2, q3, q4, q5⟩ := R.own j b hj
    by_cases z : b = a
    · rw [z] at q1 q2 q3 ⊢
      exact ⟨q1, q2, q3, by unfold L2.upd; rw [if_pos rfl]; simp, by unfold L2.upd; rw [if_pos rfl]; exact so⟩
    · rw [upd_ne z]; exact ⟨q1, q2, q3, q4, q5⟩
theorem Ext.updF {p : Par} {H H1 : Hp} {a : Addr} {o : HO} (e : Ext p H H1) (ha : H a = Option.none) (w : Wd p (upd H1 a o)) : Ext p H (upd H1 a o) :=
  ⟨fun b ob hb n m => by rw [upd_ne (ne_of_none hb ha)]; exact e.ob b ob hb n m, fun b hb => by
    by_cases z : b = a
    · rw [z]; unfold L2.upd; rw [if_pos rfl]; simp
    · rw [upd_ne z]; exact e.dom b hb, w⟩
/-- what the block's target has left -/
theorem wipe_back {σ σ' : L2.St} {vs ix : List Nat} (hix : ∀ i ∈ ix, i ∈ vs) (hl : σ'.length = σ.length) (h : ∀ j, j ∉ ix → σ'[j]? = σ[j]?) : L2.wipe σ' vs = L2.wipe σ vs := by
  apply List.ext_getElem?
  intro j
  rw [GX.wipe_get, GX.wipe_get]
  by_cases z : j ∈ vs
  · rw [if_pos z, if_pos z]
    by_cases hj : j < σ.length
    · rw [List.getElem?_eq_getElem hj, List.getElem?_eq_getElem (by omega)]
      rfl
    · rw [List.getElem?_eq_none (by omega), List.getElem?_eq_none (by omega)]
  · rw [if_neg z, if_neg z]
    exact h j fun y => z (hix j y)
theorem big (n : Nat) : ∀ vs : List Nat, ∃ L, n ≤ L ∧ ∀ i ∈ vs, i < L
  | [] => ⟨n, Nat.le_refl _, fun i h => by cases h⟩
  | v :: vs => by
    obtain ⟨L, h1, h2⟩ := big n vs
    refine ⟨L + v + 1, by omega, fun i h => ?_⟩
    rcases List.mem_cons.mp h with rfl | h
    · omega
    · have := h2 i h
      omega
/-! ### list comprehensions -/
structure DTs (p : Par) (X : Cx) (es : List Expr) (w : WT) : Prop where
  pts : PTs X es (LT (p.at X.K) w)
  mono : MonoT w
def wYes : WT := fun _ Q _ => Q true
section
variable {p : Par} {X : Cx} {pos : Pos} {tg e a b c elt iter : Expr} {es ifs : List Expr} {st : Stmt} {sts : List Stmt}
theorem dts_nil : DTs p X [] wYes := ⟨pts_use pts_nil fun σ H Q hk ⟨ρ, O, EX, R, ex, hw⟩ => fun hk' => hw H hk' (Ext.refl R.wd), fun _ _ _ _ h q => h _ q⟩
theorem dts_one {w : WT} (h : DT p X c w) : DTs p X [c] w := ⟨pts_one h.pt, h.mono⟩
def wComp (g : WG) (t : WT) (we : WE) (ρ : Env') : List D → List D → (D → Prop) → Prop
  | [], acc, Q => Q (.list acc)
  | d :: ds, acc, Q => g d ρ fun ρ2 => t ρ2 (fun k => if k = true then we ρ2 (fun y => acc.length < sizeLine ∧ wComp g t we ρ ds (acc ++ [y]) Q) noX else wComp g t we ρ ds acc Q) noX
theorem mono_comp {g : WG} {t : WT} {we : WE} (hg : MonoG g) (ht : MonoT t) (he : MonoE we) {ρ : Env'} : ∀ (ds acc : List D), M0 (wComp g t we ρ ds acc)
  | [], acc => fun Q Q' h q => h _ q
  | d :: ds, acc => fun Q Q' h q => hg _ _ _ _ (fun ρ2 q => ht _ _ _ _ (fun k q => by
    by_cases z : k = true
    · rw [if_pos z] at q ⊢
      exact he _ _ _ _ (fun y q => ⟨q.1, mono_comp hg ht he ds _ Q Q' h q.2⟩) q
    · rw [if_neg z] at q ⊢
      exact mono_comp hg ht he ds acc Q Q' h q) q) q
def wLc (wi : WI) (g : WG) (t : WT) (we : WE) (vs : List Nat) : WE := fun ρ Q EX => wi ρ (fun ds => wComp g t we (wipeE ρ vs) ds [] Q) EX
/-- the parts of a comprehension -/
structure LParts (p : Par) (X : Cx) (elt tg iter : Expr) (ifs : List Expr) (scope : Scope) (own : List (Str × Nat)) (wi : WI) (g : WG) (t : WT) (we : WE) : Prop where
  hc : X.calm = true
  hN : X.N.Nodup
  hi : DI true p X tg iter wi
  ok : BlkOk X.N X.env.scope scope own
  hg : ∃ ix : List Nat, (∀ i ∈ ix, i ∈ own.map (·.2)) ∧ ∀ (s : Shared) (H : Hp) (C : Addr) (cl : List (Str × Addr)) (fp : List Addr), DG p.nox (X.blk s H scope (compEnvC scope cl C X.env) fp) tg ix g
  ht : ∀ (s : Shared) (H : Hp) (C : Addr) (cl : List (Str × Addr)) (fp : List Addr), DTs p.nox (X.blk s H scope (compEnvC scope cl C X.env) fp) ifs t
  he : ∀ (s : Shared) (H : Hp) (C : Addr) (cl : List (Str × Addr)) (fp : List Addr), DE p.nox (X.blk s H scope (compEnvC scope cl C X.env) fp) elt we
  hs : ∀ x, foldedSetIterable iter X.env x = pure x
theorem lc_run {scope : Scope} {own : List (Str × Nat)} {wi : WI} {g : WG} {t : WT} {we : WE} (P : LParts p X elt tg iter ifs scope own wi g t we) {ix : List Nat} (hix : ∀ i ∈ ix, i ∈ own.map (·.2)) (hg : MonoG g) {σ : L2.St} {H : Hp} {O : Own} {ρ : Env'} {EX : EXn} {Q : VK} (R : Rel (p.at X.K) O ρ σ H) (ex : ExOk (p.at X.K) EX)
    (hw : wLc wi g t we (own.map (·.2)) ρ (RF (p.at X.K) O H Q) EX) :
    tLc (LI true (p.at X.K) wi) (LG (p.at X.K).nox ix g) (LT (p.at X.K).nox t) (LE (p.at X.K).nox we) (own.map (·.2)) σ H (fun v H' => Hk X.K H' → Q v H') := by
  have mt := (P.ht X.s_0 X.H_0 0 [] []).mono
  have me := (P.he X.s_0 X.H_0 0 [] []).mono
  generalize hvs : own.map (·.2) = vs at hw hix ⊢
  refine ⟨ρ, O, EX, R, ex, P.hi.mono _ _ _ _ (fun ds q J H1 ks hk1 e1 hks it Dd hD => ?_) hw⟩
  obtain ⟨L, hLl, hLv⟩ := big ρ.length vs
  have R1 := (R.ext' e1).wipe (vs := vs) (L := L) hLl
  have lw : (wipeE ρ vs).length ≤ L := by rw [wipeE_len]; exact hLl
  have ls : (L2.wipe σ vs).length ≤ L := by rw [wipe_length, R.len]; exact hLl
  have e2 : Ext (p.at X.K) H1 (upd H1 Dd (.lst [])) := Ext.new R1.wd hD
  have R2 := R1.set_own (i := L) (d := .list []) e2 hD ⟨[], by unfold L2.upd; rw [if_pos rfl], rall_nil⟩
  rw [set_out lw, set_out ls] at R2
  generalize hO1 : put (shf O vs L) L Dd = O1 at R2
  have hL : O1 L = some Dd := by rw [← hO1]; exact if_pos rfl
  have nn1 : ∀ b, NN (p.at X.K) O1 b → NN (p.at X.K) O b ∧ b ≠ Dd := fun b n => by
    rw [← hO1] at n
    refine ⟨(shf_nn (vs := vs) (L := L)).mp ⟨n.1, n.2.1, fun j z => ?_⟩, fun z => n.2.2 L (by rw [z]; exact if_pos rfl)⟩
    by_cases y : j = L
    · rw [y, shf_L] at z; cases z
    · exact n.2.2 j ((if_neg y).trans z)
  have nn2 : ∀ b, NN (p.at X.K) O b → b ≠ Dd → NN (p.at X.K) O1 b := fun b n nb => by
    rw [← hO1]
    refine ⟨n.1, n.2.1, fun j z => ?_⟩
    unfold put at z
    dsimp only at z
    split at z
    · cases z; exact nb rfl
    · exact ((shf_nn (vs := vs) (L := L)).mpr n).2.2 j z
  have none_at : ∀ j ∈ vs, O1 j = none := fun j hj => by
    have h1 := hLv j hj
    rw [← hO1]
    exact (if_neg (by omega)).trans ((if_pos h1).trans (if_pos hj))
  have e02 : Ext (p.at X.K) H1 (upd H1 Dd (.lst [])) := e2
  refine ⟨fun i m Hc => m = ds.length - i ∧ i ≤ ds.length ∧ Ext (p.at X.K) H1 Hc ∧ ∃ acc us, Hc Dd = some (.lst us) ∧ RepAll X.K (NN (p.at X.K) O1) Hc us acc ∧ Rel (p.at X.K) O1 (wipeE ρ vs) (L2.wipe σ vs) Hc ∧ wComp g t we (wipeE ρ vs) (ds.drop i) acc (RF (p.at X.K) O H Q),
    ⟨ds.length, rfl, Nat.zero_le _, e02, [], [], by unfold L2.upd; rw [if_pos rfl], rall_nil, R2, q⟩, ?_⟩
  rintro i m Hc ⟨rfl, hi', ec, acc, us, hD2, r2, Rc, q2⟩
  have held : ∀ x ∈ ks, RepB (p.at X.K) O1 Hc x.1 x.2 := fun x hx => by
    have h1 : RepB (p.at X.K) O H1 x.1 x.2 := hks x hx
    have kk : Keeps2 (NN (p.at X.K) O) (NN (p.at X.K) O1) H1 Hc := Keeps2.of_ext ec R1.wd (fun _ n => n.2.1) fun b n hb => nn2 b n fun z => hb (by rw [z]; exact hD)
    rcases h1 with h1 | ⟨a, e, na, h1⟩
    · exact .inl (RepV.keep kk x.2 x.1 h1)
    · refine .inr ⟨a, e, na, RepO.keep kk ?_ h1⟩
      revert h1
      generalize x.2 = dd
      intro h1
      cases dd with
      | list ds => obtain ⟨vs, h1, _⟩ := h1; rw [h1]; exact ec.ob a _ h1 (fun ps z => by cases z) na
      | dict kvs => obtain ⟨vs, _, h1⟩ := h1; rcases h1 with ⟨ks, h1, _⟩ | ⟨ks, h1, _⟩ <;> (rw [h1]; exact ec.ob a _ h1 (fun ps z => by cases z) na)
      | _ => exact h1.elim
  obtain ⟨t1, t2⟩ := it O1 Hc i Rc.ok0 held
  cases hd : ds[i]? with
  | none =>
    have hle : ds.length ≤ i := List.getElem?_eq_none_iff.mp hd
    rw [List.drop_eq_nil_of_le hle] at q2
    refine .inl ⟨t1 hle, fun hk3 => ?_⟩
    have q3 : RF (p.at X.K) O H Q (.list acc) := q2
    exact q3 Dd Hc hk3 (e1.trans ec) (e1.none hD) ⟨us, hD2, RepAll.keep ⟨fun b n _ => nn1 b n, fun _ _ _ e _ => e, fun _ _ e => e, fun _ _ _ e => e⟩ acc us r2⟩
  | some d =>
    have hlt : i < ds.length := (List.getElem?_eq_some_iff.mp hd).1
    obtain ⟨go, yl⟩ := t2 d hd
    have hdrop : ds.drop i = d :: ds.drop (i + 1) := by
      rw [List.drop_eq_getElem_cons hlt]
      congr 1
      have := List.getElem?_eq_getElem hlt
      rw [hd] at this
      exact (Option.some.inj this).symm
    rw [hdrop] at q2
    refine .inr ⟨go, fun Hn => Ext (p.at X.K) H1 Hn ∧ ∃ acc us, Hn Dd = some (.lst us) ∧ RepAll X.K (NN (p.at X.K) O1) Hn us acc ∧ Rel (p.at X.K) O1 (wipeE ρ vs) (L2.wipe σ vs) Hn ∧ wComp g t we (wipeE ρ vs) (ds.drop (i + 1)) acc (RF (p.at X.K) O H Q),
      fun H' st => ⟨ds.length - (i + 1), by omega, rfl, hlt, st⟩, fun x H3 y => ?_⟩
    obtain ⟨e3, r3⟩ := yl x H3 y
    refine ⟨wipeE ρ vs, O1, d, (Rc.ext' e3).nox, r3, hg _ _ _ _ (fun ρ3 q3 O3 σ3 k3 n3 s3 l3 R3 => ?_) q2⟩
    refine ⟨(wipe_back hix l3 s3).trans (GX.wipe_wipe σ vs), ρ3, O3, noX, R3, exok_no, mt _ _ _ _ (fun k q4 H4 hk4 e4 => ?_) q3⟩
    have e34 : Ext (p.at X.K) Hc H4 := e3.trans e4.unnox
    have keepD : ∀ {H' : Hp}, Ext (p.at X.K) Hc H' → H' Dd = some (.lst us) := fun {H'} e => e.ob Dd _ hD2 (fun ps z => by cases z) (Rc.own L Dd hL).2.1
    by_cases z : k = true
    · dsimp only
      rw [if_pos z] at q4 ⊢
      refine ⟨ρ3, O3, noX, R3.ext' e4, exok_no, me _ _ _ _ (fun y q5 v H5 hk5 e5 r5 => ?_) q4⟩
      have e35 : Ext (p.at X.K) Hc H5 := e34.trans e5.unnox
      refine ⟨us, keepD e35, by rw [r2.length]; exact q5.1, ?_⟩
      have R5 := Rc.ext' e35
      have R6 := R5.writeH (o := .lst (us ++ [v])) hL lw trivial
      refine ⟨(ec.trans e35).updF hD R6.wd, acc ++ [y], us ++ [v], by unfold L2.upd; rw [if_pos rfl], ?_, R6, q5.2⟩
      have rv : RepV X.K (NN (p.at X.K) O1) H5 v y := by
        -- the target's slots own nothing
        have nn3 : ∀ b, NN (p.at X.K).nox O3 b → NN (p.at X.K) O1 b := fun b n => ⟨n.1, n.2.1, fun j zz => by
          rcases n3 j with e | ⟨hj, _⟩
          · exact n.2.2 j (e.trans zz)
          · have hjv := hix j hj
            rw [none_at j hjv] at zz
            cases zz⟩
        exact RepV.keep ⟨fun b n _ => nn3 b n, fun _ _ _ e _ => e, fun _ _ e => e, fun _ _ _ e => e⟩ y v r5
      have kk : Keeps2 (NN (p.at X.K) O1) (NN (p.at X.K) O1) H5 (upd H5 Dd (.lst (us ++ [v]))) := by
        refine ⟨fun _ n _ => n, fun b ob n e _ => ?_, fun b xs e => ?_, fun b ob xs e => ?_⟩
        · rw [upd_ne (nn1 b n).2]; exact e
        · rw [upd_ne (fun zz => by rw [zz, keepD e35] at e; cases e)]; exact e
        · rw [upd_ne (fun zz => by rw [zz, keepD e35] at e; cases e)]; exact e
      exact RepAll.keep kk _ _ ((r2.ext e35 Rc.wd).append (rall_cons rv rall_nil))
    · dsimp only
      rw [if_neg z] at q4 ⊢
      exact ⟨ec.trans e34, acc, us, keepD e34, r2.ext e34 Rc.wd, Rc.ext' e34, q4⟩
theorem mono_Lc {wi : WI} {g : WG} {t : WT} {we : WE} {vs : List Nat} (hi : MonoA wi) (hg : MonoG g) (ht : MonoT t) (he : MonoE we) : MonoE (wLc wi g t we vs) := fun ρ Q Q' EX h q => hi _ _ _ _ (fun ds q => mono_comp hg ht he ds [] Q Q' h q) q
theorem df_lc {scope : Scope} {own : List (Str × Nat)} {wi : WI} {g : WG} {t : WT} {we : WE} (P : LParts p X elt tg iter ifs scope own wi g t we) : DF p X (.ListComp elt [⟨tg, iter, ifs, 0⟩] scope pos) (wLc wi g t we (own.map (·.2))) := by
  obtain ⟨ix, hix, hg⟩ := P.hg
  have mg := (hg X.s_0 X.H_0 0 [] []).mono
  refine ⟨pe_use (pe_lc P.hc P.hN P.hi.pi P.ok (fun s H C cl fp => (hg s H C cl fp).pg) (fun s H C cl fp => (P.ht s H C cl fp).pts) (fun s H C cl fp => (P.he s H C cl fp).pe) P.hs) fun σ H Q hk ⟨ρ, O, EX, R, ex, hw⟩ => lc_run P hix mg R ex hw, ?_⟩
  exact mono_Lc P.hi.mono mg (P.ht X.s_0 X.H_0 0 [] []).mono (P.he X.s_0 X.H_0 0 [] []).mono
/-- name = [..] on one line -/
theorem ds_setLcO (i : Nat) {y : Str} {py spos : Pos} {scope : Scope} {own : List (Str × Nat)} {wi : WI} {g : WG} {t : WT} {we : WE} (P : LParts p X elt tg iter ifs scope own wi g t we)
    (hsw : swapsWith (.ListComp elt [⟨tg, iter, ifs, 0⟩] scope pos) (some (.Name y py)) spos.line X.env = pure true) (hy : X.N[i]? = some y := by rfl) (hyl : X.env.scope.names.lookup y = some .local := by rfl) :
    DS p X (.Assign [.Name y py] (.ListComp elt [⟨tg, iter, ifs, 0⟩] scope pos) spos) (wSetO i (wLc wi g t we (own.map (·.2)))) := by
  obtain ⟨ix, hix, hg⟩ := P.hg
  have mg := (hg X.s_0 X.H_0 0 [] []).mono
  refine ⟨ps_use (ps_setLc (g := LG (p.at X.K).nox ix g) (tt := LT (p.at X.K).nox t) (te := LE (p.at X.K).nox we) P.hc P.hN hy hyl hsw P.hi.pi P.ok (fun s H C cl fp => (hg s H C cl fp).pg) (fun s H C cl fp => (P.ht s H C cl fp).pts) (fun s H C cl fp => (P.he s H C cl fp).pe) P.hs) fun D σ H hk ⟨ρ, O, EX, R, ex, hw⟩ => ?_,
    mono_SetO (mono_Lc P.hi.mono mg (P.ht X.s_0 X.H_0 0 [] []).mono (P.he X.s_0 X.H_0 0 [] []).mono)⟩
  exact lc_run (Q := fun x H1 => D.nx (σ.set i (some x)) H1) P hix mg R ex (mono_Lc P.hi.mono mg (P.ht X.s_0 X.H_0 0 [] []).mono (P.he X.s_0 X.H_0 0 [] []).mono _ _ _ _ (fun d q a H1 hk1 e1 n r1 => q (put O i a) _ H1 rfl hk1 (R.set_own e1 n r1)) hw)
theorem ds_setLc (i : Nat) {y : Str} {py spos : Pos} {scope : Scope} {own : List (Str × Nat)} {wi : WI} {g : WG} {t : WT} {we : WE} (P : LParts p X elt tg iter ifs scope own wi g t we)
    (hsw : swapsWith (.ListComp elt [⟨tg, iter, ifs, 0⟩] scope pos) (some (.Name y py)) spos.line X.env = pure true) (hy : X.N[i]? = some y := by rfl) (hyl : X.env.scope.names.lookup y = some .local := by rfl) :
    DS p X (.Assign [.Name y py] (.ListComp elt [⟨tg, iter, ifs, 0⟩] scope pos) spos) (wSet i (wLc wi g t we (own.map (·.2)))) := by
  obtain ⟨ix, hix, hg⟩ := P.hg
  have mg := (hg X.s_0 X.H_0 0 [] []).mono
  refine ⟨ps_use (ps_setLc (g := LG (p.at X.K).nox ix g) (tt := LT (p.at X.K).nox t) (te := LE (p.at X.K).nox we) P.hc P.hN hy hyl hsw P.hi.pi P.ok (fun s H C cl fp => (hg s H C cl fp).pg) (fun s H C cl fp => (P.ht s H C cl fp).pts) (fun s H C cl fp => (P.he s H C cl fp).pe) P.hs) fun D σ H hk ⟨ρ, O, EX, R, ex, hw⟩ => ?_,
    mono_Set (mono_Lc P.hi.mono mg (P.ht X.s_0 X.H_0 0 [] []).mono (P.he X.s_0 X.H_0 0 [] []).mono)⟩
  exact lc_run (Q := fun x H1 => D.nx (σ.set i (some x)) H1) P hix mg R ex (mono_Lc P.hi.mono mg (P.ht X.s_0 X.H_0 0 [] []).mono (P.he X.s_0 X.H_0 0 [] []).mono _ _ _ _ (fun d q => RE.f (R.ok hk) fun v H1 hk1 e1 r1 => q (clr O i) _ H1 rfl hk1 ((R.ext' e1).set_d r1)) hw)
end
end DD
set_option maxRecDepth 100000
set_option maxHeartbeats 2000000
/-! SemK: all, any, sum, tuple of generator expressions. -/
namespace DD
open PySem PySem.Spec PyProof.Rows L2 GenW
section
variable {p : Par} {X : Cx} {pos : Pos} {tg e a b c elt iter : Expr} {es ifs : List Expr}
/-- a walk with a consumer's state -/
def wFold {β : Type} (g : WG) (t : WT) (we : WE) (C : β → D → (β → Prop) → Prop) (fin : β → Prop) (ρ : Env') : List D → β → Prop
  | [], s => fin s
  | d :: ds, s => g d ρ fun ρ2 => t ρ2 (fun k => if k = true then we ρ2 (fun y => C s y (wFold g t we C fin ρ ds)) noX else wFold g t we C fin ρ ds s) noX
theorem mono_fold {β : Type} {g : WG} {t : WT} {we : WE} {C C' : β → D → (β → Prop) → Prop} {fin fin' : β → Prop} (hg : MonoG g) (ht : MonoT t) (he : MonoE we) (hC : ∀ s d P P', (∀ s, P s → P' s) → C s d P → C' s d P') (hf : ∀ s, fin s → fin' s) {ρ : Env'} : ∀ (ds : List D) (s : β), wFold g t we C fin ρ ds s → wFold g t we C' fin' ρ ds s
  | [], s, q => hf s q
  | d :: ds, s, q => hg _ _ _ _ (fun ρ2 q => ht _ _ _ _ (fun k q => by
    by_cases z : k = true
    · rw [if_pos z] at q ⊢
      exact he _ _ _ _ (fun y q => hC _ _ _ _ (fun s q => mono_fold hg ht he hC hf ds s q) q) q
    · rw [if_neg z] at q ⊢
      exact mono_fold hg ht he hC hf ds s q) q) q
/-- the parts of a generator expression -/
structure GpD (p : Par) (X : Cx) (k : Nat) (elt tg iter : Expr) (ifs : List Expr) (scope : Scope) (own : List (Str × Nat)) (c P : Addr) (wi : WI) (g : WG) (t : WT) (we : WE) : Prop where
  hr : Room (k + 2) X.A
  TB : GxR.TabB X.base X.mg c P
  hP : P ∈ p.G
  hcode : X.env.code = .ref c
  hN : X.N.Nodup
  hc : X.calm = true
  hi : DI true p X tg iter wi
  ok : BlkOk X.N X.env.scope scope own
  gk : GX.GOk scope
  hg : ∃ ix : List Nat, (∀ i ∈ ix, i ∈ own.map (·.2)) ∧ ∀ (A : Around) (s : Shared) (H : Hp) (C : Addr) (code : Value) (fp : List Addr) (pn : List (Addr × Obj)), Room k A → DG p.nox (GX.gcx X A s H (GX.genv X scope C code) fp pn) tg ix g
  ht : ∀ (A : Around) (s : Shared) (H : Hp) (C : Addr) (code : Value) (fp : List Addr) (pn : List (Addr × Obj)), Room k A → DTs p.nox (GX.gcx X A s H (GX.genv X scope C code) fp pn) ifs t
  he : ∀ (A : Around) (s : Shared) (H : Hp) (C : Addr) (code : Value) (fp : List Addr) (pn : List (Addr × Obj)), Room k A → DE p.nox (GX.gcx X A s H (GX.genv X scope C code) fp pn) elt we
  hs : ∀ v, genFold iter X.env v = pure v
theorem tabbed_ext {p : Par} {H H2 : Hp} {P : Addr} (w : Wd p H) (hP : P ∈ p.G) (h : GxR.Tabbed P H H2) : Ext p H H2 := by
  obtain ⟨⟨ps2, e2, q2⟩, hb⟩ := h
  obtain ⟨ps, e, q⟩ := w.g P hP
  have ob : ∀ b o, H b = some o → (∀ ps, o ≠ .tbl ps) → b ≠ p.r → H2 b = some o := fun b o hbo n _ => by
    rw [hb b (fun z => by rw [z, e] at hbo; cases hbo; exact n _ rfl)]
    exact hbo
  have nr : p.r ≠ P := fun z => by
    obtain ⟨xs, hr⟩ := w.r_some
    rw [z, e] at hr; cases hr
  refine ⟨ob, fun b hn => ?_, w.dj, fun P' hP' => ?_, fun q hq => ?_, ?_⟩
  · by_cases z : b = P
    · rw [z, e2]; simp
    · rw [hb b z]; exact hn
  · by_cases z : P' = P
    · rw [z]; exact ⟨ps2, e2, q2⟩
    · obtain ⟨ps', e', q'⟩ := w.g P' hP'
      exact ⟨ps', by rw [hb P' z]; exact e', q'⟩
  · obtain ⟨ps', e', q', q3⟩ := w.t q hq
    refine ⟨ps', by rw [hb q.1 (w.dj P hP q hq)]; exact e', q', fun pos cv hc => ?_⟩
    obtain ⟨c, e1, e2'⟩ := q3 pos cv hc
    refine ⟨c, e1, ?_⟩
    rw [hb c (fun z => by rw [z, e] at e2'; cases e2')]
    exact e2'
  · obtain ⟨⟨i, s, c, e', q'⟩, hs⟩ := w.row
    refine ⟨⟨i, s, c, by rw [hb p.r nr]; exact e', q'⟩, ?_⟩
    rcases hs with (hs | ⟨o, hs⟩) | hs
    · exact .inl (.inl (by rw [hb p.scr (fun z => by rw [z, e] at hs; cases hs)]; exact hs))
    · exact .inl (.inr ⟨o, by rw [hb p.scr (fun z => by rw [z, e] at hs; cases hs)]; exact hs⟩)
    · exact .inr hs
theorem gx_run {α β : Type} {k : Nat} {scope : Scope} {own : List (Str × Nat)} {c P : Addr} {wi : WI} {g : WG} {t : WT} {we : WE} (G : GpD p X k elt tg iter ifs scope own c P wi g t we) {ix : List Nat} (hix : ∀ i ∈ ix, i ∈ own.map (·.2)) (hg : MonoG g) (mt : MonoT t) (me : MonoE we)
    {C : β → D → (β → Prop) → Prop} {fin : β → Prop} {C' : α → V → Hp → (α → Hp → Prop) → Prop} {fin' : α → Hp → Prop} {a0 : α} {b0 : β} {σ : L2.St} {H : Hp} {O : Own} {ρ : Env'} {EX : EXn} (R : Rel (p.at X.K) O ρ σ H) (ex : ExOk (p.at X.K) EX)
    (Rb : β → α → Hp → Prop) (h0 : ∀ H, Rb b0 a0 H) (hext : ∀ s a H1 H2, Wd (p.at X.K) H1 → Ext (p.at X.K) H1 H2 → Rb s a H1 → Rb s a H2)
    (hC : ∀ s a H' v y Nx (N : β → Prop), Hk X.K H' → Ext (p.at X.K) H H' → Rb s a H' → RepV X.K (NN (p.at X.K) O) H' v y → C s y N → (∀ s' a', Rb s' a' H' → N s' → Nx a' H') → C' a v H' Nx)
    (hf : ∀ s a H', Ext (p.at X.K) H H' → Rb s a H' → fin s → fin' a H')
    (hw : wi ρ (fun ds => wFold g t we C fin (wipeE ρ (own.map (·.2))) ds b0) EX) :
    GX.tGx P (LI true (p.at X.K) wi) (LG (p.at X.K).nox ix g) (LT (p.at X.K).nox t) (LE (p.at X.K).nox we) (own.map (·.2)) a0 C' fin' σ H := by
  generalize hvs : own.map (·.2) = vs at hw hix ⊢
  refine ⟨ρ, O, EX, R, ex, G.hi.mono _ _ _ _ (fun ds q J H1 ks hk1 e1 hks it => ?_) hw⟩
  obtain ⟨L, hLl, hLv⟩ := big ρ.length vs
  refine ⟨e1.wd.g P G.hP, fun H2 tab => ?_⟩
  have e2 : Ext (p.at X.K) H1 H2 := tabbed_ext e1.wd G.hP tab
  have R1 := ((R.ext' e1).ext' e2).wipe (vs := vs) (L := L) hLl
  have nn : ∀ b, NN (p.at X.K) (shf O vs L) b ↔ NN (p.at X.K) O b := fun b => shf_nn
  have none_at : ∀ j ∈ vs, shf O vs L j = none := fun j hj => (if_pos (hLv j hj)).trans (if_pos hj)
  refine ⟨fun i m s Hc => m = ds.length - i ∧ i ≤ ds.length ∧ Ext (p.at X.K) H1 Hc ∧ ∃ s', Rb s' s Hc ∧ Rel (p.at X.K) (shf O vs L) (wipeE ρ vs) (L2.wipe σ vs) Hc ∧ wFold g t we C fin (wipeE ρ vs) (ds.drop i) s',
    ⟨ds.length, rfl, Nat.zero_le _, e2, b0, h0 _, R1, q⟩, ?_⟩
  rintro i m s Hc ⟨rfl, hi', ec, s', rb, Rc, q2⟩
  have held : ∀ x ∈ ks, RepB (p.at X.K) (shf O vs L) Hc x.1 x.2 := fun x hx => by
    have h1 : RepB (p.at X.K) O Hc x.1 x.2 := RepB.ext e1.wd ec (hks x hx)
    have kk : Keeps2 (NN (p.at X.K) O) (NN (p.at X.K) (shf O vs L)) Hc Hc := ⟨fun b n _ => (nn b).mpr n, fun _ _ _ e _ => e, fun _ _ e => e, fun _ _ _ e => e⟩
    rcases h1 with h1 | ⟨a, e, na, h1⟩
    · exact .inl (RepV.keep kk x.2 x.1 h1)
    · exact .inr ⟨a, e, na, RepO.keep kk rfl h1⟩
  obtain ⟨t1, t2⟩ := it (shf O vs L) Hc i Rc.ok0 held
  cases hd : ds[i]? with
  | none =>
    have hle : ds.length ≤ i := List.getElem?_eq_none_iff.mp hd
    rw [List.drop_eq_nil_of_le hle] at q2
    exact .inl ⟨t1 hle, hf s' s Hc (e1.trans ec) rb q2⟩
  | some d =>
    have hlt : i < ds.length := (List.getElem?_eq_some_iff.mp hd).1
    obtain ⟨go, yl⟩ := t2 d hd
    have hdrop : ds.drop i = d :: ds.drop (i + 1) := by
      rw [List.drop_eq_getElem_cons hlt]
      congr 1
      have := List.getElem?_eq_getElem hlt
      rw [hd] at this
      exact (Option.some.inj this).symm
    rw [hdrop] at q2
    refine .inr ⟨go, fun sn Hn => Ext (p.at X.K) H1 Hn ∧ ∃ s', Rb s' sn Hn ∧ Rel (p.at X.K) (shf O vs L) (wipeE ρ vs) (L2.wipe σ vs) Hn ∧ wFold g t we C fin (wipeE ρ vs) (ds.drop (i + 1)) s',
      fun sn H' st => ⟨ds.length - (i + 1), by omega, rfl, hlt, st⟩, fun x H3 y => ?_⟩
    obtain ⟨e3, r3⟩ := yl x H3 y
    refine ⟨wipeE ρ vs, shf O vs L, d, (Rc.ext' e3).nox, r3, hg _ _ _ _ (fun ρ3 q3 O3 σ3 k3 n3 s3 l3 R3 => ?_) q2⟩
    refine ⟨(wipe_back hix l3 s3).trans (GX.wipe_wipe σ vs), ρ3, O3, noX, R3, exok_no, mt _ _ _ _ (fun k q4 H4 hk4 e4 => ?_) q3⟩
    have e34 : Ext (p.at X.K) Hc H4 := e3.trans e4.unnox
    by_cases z : k = true
    · dsimp only
      rw [if_pos z] at q4 ⊢
      refine ⟨ρ3, O3, noX, R3.ext' e4, exok_no, me _ _ _ _ (fun y q5 v H5 hk5 e5 r5 => ?_) q4⟩
      have e35 : Ext (p.at X.K) Hc H5 := e34.trans e5.unnox
      have rv : RepV X.K (NN (p.at X.K) O) H5 v y := by
        refine RepV.keep ⟨fun b n _ => (nn b).mp ⟨n.1, n.2.1, fun j zz => ?_⟩, fun _ _ _ e _ => e, fun _ _ e => e, fun _ _ _ e => e⟩ y v r5
        rcases n3 j with e | ⟨hj, _⟩
        · exact n.2.2 j (e.trans zz)
        · rw [none_at j (hix j hj)] at zz
          cases zz
      refine hC s' s H5 v y _ _ hk5 (e1.trans (ec.trans e35)) (hext _ _ _ _ Rc.wd e35 rb) rv q5 fun s2 a2 rb2 q6 => ?_
      exact ⟨ec.trans e35, s2, rb2, Rc.ext' e35, q6⟩
    · dsimp only
      rw [if_neg z] at q4 ⊢
      exact ⟨ec.trans e34, s', hext _ _ _ _ Rc.wd e34 rb, Rc.ext' e34, q4⟩
theorem tup_new {p : Par} {O : Own} {H H' : Hp} {Q : VK} {ds : List D} {vs : List V} {a : Addr} (q : RE p O H Q (.tuple ds)) (e : Ext p H H') (fr : ∀ a, H a = none → NN p O a) (ha : H' a = none) (r : RepAll p.K (NN p O) H' vs ds) (hk : Hk p.K (upd H' a (.tup vs))) : Q (.ref a) (upd H' a (.tup vs)) :=
  q _ _ hk (e.trans (Ext.new e.wd ha)) (rep_tuple (.of (by unfold L2.upd; rw [if_pos rfl])) (r.ext (Ext.new e.wd ha) e.wd))
theorem GpD.parts {k : Nat} {scope : Scope} {own : List (Str × Nat)} {c P : Addr} {wi : WI} {g : WG} {t : WT} {we : WE} (G : GpD p X k elt tg iter ifs scope own c P wi g t we) {ix : List Nat}
    (hg : ∀ (A : Around) (s : Shared) (H : Hp) (C : Addr) (code : Value) (fp : List Addr) (pn : List (Addr × Obj)), Room k A → DG p.nox (GX.gcx X A s H (GX.genv X scope C code) fp pn) tg ix g) :
    GX.GParts X k elt tg iter ifs scope own c P (LI true (p.at X.K) wi) (LG (p.at X.K).nox ix g) (LT (p.at X.K).nox t) (LE (p.at X.K).nox we) :=
  ⟨G.hr, G.TB, G.hcode, G.hN, G.hc, G.hi.pi, G.ok, G.gk, fun A s H C code fp pn r => (hg A s H C code fp pn r).pg, fun A s H C code fp pn r => (G.ht A s H C code fp pn r).pts, fun A s H C code fp pn r => (G.he A s H C code fp pn r).pe, G.hs⟩
theorem GpD.monos {k : Nat} {scope : Scope} {own : List (Str × Nat)} {c P : Addr} {wi : WI} {g : WG} {t : WT} {we : WE} (G : GpD p X k elt tg iter ifs scope own c P wi g t we) : MonoG g ∧ MonoT t ∧ MonoE we := by
  obtain ⟨ix, _, hg⟩ := G.hg
  have r := G.hr.mono (j := k) (by omega)
  exact ⟨(hg X.A X.s_0 X.H_0 0 .none [] [] r).mono, (G.ht X.A X.s_0 X.H_0 0 .none [] [] r).mono, (G.he X.A X.s_0 X.H_0 0 .none [] [] r).mono⟩
def wGen {β : Type} (wi : WI) (g : WG) (t : WT) (we : WE) (vs : List Nat) (C : (D → Prop) → β → D → (β → Prop) → Prop) (fin : (D → Prop) → β → Prop) (b0 : β) : WE := fun ρ Q EX => wi ρ (fun ds => wFold g t we (C Q) (fin Q) (wipeE ρ vs) ds b0) EX
def cAll (Q : D → Prop) (_ : Unit) (y : D) (N : Unit → Prop) : Prop := ∃ b, y = .bool b ∧ if b = true then N () else Q (.bool false)
def cAny (Q : D → Prop) (_ : Unit) (y : D) (N : Unit → Prop) : Prop := ∃ b, y = .bool b ∧ if b = true then Q (.bool true) else N ()
def cSum (_ : D → Prop) (i : Int) (y : D) (N : Int → Prop) : Prop := ∃ j, y = .int j ∧ N (i + j)
def cTup (_ : D → Prop) (ys : List D) (y : D) (N : List D → Prop) : Prop := ys.length < sizeLine ∧ N (ys ++ [y])
abbrev wAllG (wi : WI) (g : WG) (t : WT) (we : WE) (vs : List Nat) : WE := wGen wi g t we vs cAll (fun Q _ => Q (.bool true)) ()
abbrev wAnyG (wi : WI) (g : WG) (t : WT) (we : WE) (vs : List Nat) : WE := wGen wi g t we vs cAny (fun Q _ => Q (.bool false)) ()
abbrev wSumG (wi : WI) (g : WG) (t : WT) (we : WE) (vs : List Nat) : WE := wGen wi g t we vs cSum (fun Q i => Q (.int i)) 0
abbrev wTupG (wi : WI) (g : WG) (t : WT) (we : WE) (vs : List Nat) : WE := wGen wi g t we vs cTup (fun Q ys => ys.length ≤ sizeLine ∧ Q (.tuple ys)) []
theorem mono_all : ∀ (Q Q' : D → Prop), (∀ d, Q d → Q' d) → ∀ s d (P P' : Unit → Prop), (∀ s, P s → P' s) → cAll Q s d P → cAll Q' s d P' := fun Q Q' h s d P P' hp ⟨b, e, q⟩ => ⟨b, e, by
  by_cases z : b = true
  · rw [if_pos z] at q ⊢; exact hp _ q
  · rw [if_neg z] at q ⊢; exact h _ q⟩
theorem mono_any : ∀ (Q Q' : D → Prop), (∀ d, Q d → Q' d) → ∀ s d (P P' : Unit → Prop), (∀ s, P s → P' s) → cAny Q s d P → cAny Q' s d P' := fun Q Q' h s d P P' hp ⟨b, e, q⟩ => ⟨b, e, by
  by_cases z : b = true
  · rw [if_pos z] at q ⊢; exact h _ q
  · rw [if_neg z] at q ⊢; exact hp _ q⟩
variable {k : Nat} {scope : Scope} {own : List (Str × Nat)} {cc P : Addr} {wi : WI} {g : WG} {t : WT} {we : WE} {q gpos : Pos}
theorem de_all (G : GpD p X k elt tg iter ifs scope own cc P wi g t we) (hm : X.mg "all" = none) (hgl : Gl X "all" := by rfl) : DE p X (.Call (.Name "all" q) [.GeneratorExp elt [⟨tg, iter, ifs, 0⟩] scope gpos] [] pos) (wAllG wi g t we (own.map (·.2))) := by
  obtain ⟨ix, hix, hg⟩ := G.hg
  obtain ⟨m1, m2, m3⟩ := G.monos
  refine ⟨pe_use (GX.pe_all (G.parts hg) hgl hm) fun σ H Q hk ⟨ρ, O, EX, R, ex, hw⟩ => ?_, fun ρ Q Q' EX h q => G.hi.mono _ _ _ _ (fun ds q => mono_fold m1 m2 m3 (fun s d P P' hp q => mono_all Q Q' h s d P P' hp q) (fun s q => h _ q) ds () q) q⟩
  refine gx_run (β := Unit) (C := cAll (RE (p.at X.K) O H Q)) (fin := fun _ => RE (p.at X.K) O H Q (.bool true)) (b0 := ()) G hix m1 m2 m3 R ex (fun _ _ _ => True) (fun _ => trivial) (fun _ _ _ _ _ _ _ => trivial) (fun s a H' v y Nx N hk' e' _ rv hc hn => ?_) (fun s a H' e' _ hf hk' => hf _ H' hk' e' rep_bool) hw
  obtain ⟨b, rfl, hc⟩ := hc
  rw [(RepV.b (p := p.at X.K) (O := O) rv).bool]
  refine ⟨b, rfl, fun z hk2 => ?_, fun z => ?_⟩
  · rw [z, if_neg Bool.false_ne_true] at hc
    exact hc _ H' hk' e' rep_bool
  · rw [z, if_pos rfl] at hc
    exact hn _ _ trivial hc
theorem de_any (G : GpD p X k elt tg iter ifs scope own cc P wi g t we) (hm : X.mg "any" = none) (hgl : Gl X "any" := by rfl) : DE p X (.Call (.Name "any" q) [.GeneratorExp elt [⟨tg, iter, ifs, 0⟩] scope gpos] [] pos) (wAnyG wi g t we (own.map (·.2))) := by
  obtain ⟨ix, hix, hg⟩ := G.hg
  obtain ⟨m1, m2, m3⟩ := G.monos
  refine ⟨pe_use (GX.pe_any (G.parts hg) hgl hm) fun σ H Q hk ⟨ρ, O, EX, R, ex, hw⟩ => ?_, fun ρ Q Q' EX h q => G.hi.mono _ _ _ _ (fun ds q => mono_fold m1 m2 m3 (fun s d P P' hp q => mono_any Q Q' h s d P P' hp q) (fun s q => h _ q) ds () q) q⟩
  refine gx_run (β := Unit) (C := cAny (RE (p.at X.K) O H Q)) (fin := fun _ => RE (p.at X.K) O H Q (.bool false)) (b0 := ()) G hix m1 m2 m3 R ex (fun _ _ _ => True) (fun _ => trivial) (fun _ _ _ _ _ _ _ => trivial) (fun s a H' v y Nx N hk' e' _ rv hc hn => ?_) (fun s a H' e' _ hf hk' => hf _ H' hk' e' rep_bool) hw
  obtain ⟨b, rfl, hc⟩ := hc
  rw [(RepV.b (p := p.at X.K) (O := O) rv).bool]
  refine ⟨b, rfl, fun z hk2 => ?_, fun z => ?_⟩
  · rw [z, if_pos rfl] at hc
    exact hc _ H' hk' e' rep_bool
  · rw [z, if_neg Bool.false_ne_true] at hc
    exact hn _ _ trivial hc
theorem de_sumG (G : GpD p X k elt tg iter ifs scope own cc P wi g t we) (hm : X.mg "sum" = none) (hgl : Gl X "sum" := by rfl) : DE p X (.Call (.Name "sum" q) [.GeneratorExp elt [⟨tg, iter, ifs, 0⟩] scope gpos] [] pos) (wSumG wi g t we (own.map (·.2))) := by
  obtain ⟨ix, hix, hg⟩ := G.hg
  obtain ⟨m1, m2, m3⟩ := G.monos
  refine ⟨pe_use (GX.pe_sum (G.parts hg) hgl hm) fun σ H Q hk ⟨ρ, O, EX, R, ex, hw⟩ => ?_, fun ρ Q Q' EX h q => G.hi.mono _ _ _ _ (fun ds q => mono_fold m1 m2 m3 (fun s d P P' hp ⟨j, e, q⟩ => ⟨j, e, hp _ q⟩) (fun s q => h _ q) ds 0 q) q⟩
  refine gx_run (β := Int) (C := cSum (RE (p.at X.K) O H Q)) (fin := fun i => RE (p.at X.K) O H Q (.int i)) (b0 := 0) G hix m1 m2 m3 R ex (fun i j _ => i = j) (fun _ => rfl) (fun _ _ _ _ _ _ h => h) (fun s a H' v y Nx N hk' e' rb rv hc hn => ?_) (fun s a H' e' rb hf hk' => by subst rb; exact hf _ H' hk' e' rep_int) hw
  obtain ⟨j, rfl, hc⟩ := hc
  subst rb
  rw [(RepV.b (p := p.at X.K) (O := O) rv).int]
  exact ⟨j, rfl, hn _ _ rfl hc⟩
theorem de_tupG (G : GpD p X k elt tg iter ifs scope own cc P wi g t we) (hm : X.mg "tuple" = none) (hgl : Gl X "tuple" := by rfl) : DE p X (.Call (.Name "tuple" q) [.GeneratorExp elt [⟨tg, iter, ifs, 0⟩] scope gpos] [] pos) (wTupG wi g t we (own.map (·.2))) := by
  obtain ⟨ix, hix, hg⟩ := G.hg
  obtain ⟨m1, m2, m3⟩ := G.monos
  refine ⟨pe_use (GX.pe_tupG (G.parts hg) hgl hm) fun σ H Q hk ⟨ρ, O, EX, R, ex, hw⟩ => ?_, fun ρ Q Q' EX h q => G.hi.mono _ _ _ _ (fun ds q => mono_fold m1 m2 m3 (fun s d P P' hp q => ⟨q.1, hp _ q.2⟩) (fun s q => ⟨q.1, h _ q.2⟩) ds [] q) q⟩
  refine gx_run (β := List D) (C := cTup (RE (p.at X.K) O H Q)) (fin := fun ys => ys.length ≤ sizeLine ∧ RE (p.at X.K) O H Q (.tuple ys)) (b0 := []) G hix m1 m2 m3 R ex (fun ys vs H => RepAll X.K (NN (p.at X.K) O) H vs ys) (fun _ => rall_nil) (fun s a H1 H2 w e r => RepAll.ext e w r) (fun s a H' v y Nx N hk' e' rb rv hc hn => ?_) (fun s a H' e' rb hf => ?_) hw
  · exact ⟨by rw [rb.length]; exact hc.1, hn _ _ (rb.append (rall_cons rv rall_nil)) hc.2⟩
  · exact ⟨by rw [rb.length]; exact hf.1, fun c hc hk2 => tup_new hf.2 e' (fun a ha => R.fresh0 ha) hc rb hk2⟩
end
end DD
set_option maxRecDepth 100000
set_option maxHeartbeats 2000000
/-! SemL: defs as data: their promises, their calls. -/
namespace DD
open PySem PySem.Spec PyProof.Rows L2 GenW
/-- a def as data -/
abbrev FD := List W → (D → Prop) → EXn → Prop
def MonoF (f : FD) : Prop := ∀ ws Q Q' EX, (∀ d, Q d → Q' d) → f ws Q EX → f ws Q' EX
/-- the parameters of a body that was entered at H -/
abbrev Par.inn (S : Par) (N : Addr → Prop) (H : Hp) (E : XK) : Par := { S with N := N, H0 := H, E := E }
def SpD (S : Par) (f : FD) : Sp := fun vs H Q E => ∃ (N : Addr → Prop) (ws : List W) (EX : EXn), Wd S H ∧ (∀ a, N a → a ≠ S.r) ∧ Paired (RepW S N H) vs ws ∧
  f ws (fun d => ∀ v H', Ext S H H' → RepV S.K (NN (S.inn N H E) noOwn) H' v d → Q v H') EX ∧ ∀ x cls dd H', EX x → Ext S H H' → ExnAt S H' x cls dd → E cls dd H'
/-- the same world -/
structure Like (p q : Par) : Prop where
  K : p.K = q.K
  T : p.T = q.T
  G : p.G = q.G
  r : p.r = q.r
  scr : p.scr = q.scr
  ns : p.ns = q.ns
  b : p.cBad = q.cBad
  u : p.cUnr = q.cUnr
theorem Like.inn {S : Par} {N : Addr → Prop} {H : Hp} {E : XK} : Like (S.inn N H E) S := ⟨rfl, rfl, rfl, rfl, rfl, rfl, rfl, rfl⟩
theorem Like.nox {p S : Par} (h : Like p S) : Like p.nox S := ⟨h.K, h.T, h.G, h.r, h.scr, h.ns, h.b, h.u⟩
theorem Like.symm {p S : Par} (h : Like p S) : Like S p := ⟨h.K.symm, h.T.symm, h.G.symm, h.r.symm, h.scr.symm, h.ns.symm, h.b.symm, h.u.symm⟩
theorem Wd.like {p q : Par} {H : Hp} (w : Wd p H) (l : Like p q) : Wd q H := by
  obtain ⟨w0, w1, w2, w3⟩ := w
  exact ⟨by rw [← l.G, ← l.T]; exact w0, by rw [← l.G]; exact w1, by rw [← l.T]; exact w2, by rw [← l.K, ← l.scr, ← l.ns, ← l.r]; exact w3⟩
theorem Ext.like {p q : Par} {H H' : Hp} (e : Ext p H H') (l : Like p q) : Ext q H H' := ⟨fun b o e1 n m => e.ob b o e1 n (by rw [l.r]; exact m), e.dom, e.wd.like l⟩
theorem ExnAt.like {p q : Par} {H : Hp} {x : Exn} {cls : Value} {dd : Option Addr} (h : ExnAt p H x cls dd) (l : Like p q) : ExnAt q H x cls dd := by
  cases x with
  | bad n => obtain ⟨h1, h2⟩ := h; exact ⟨by rw [← l.b]; exact h1, h2⟩
  | unread o y => obtain ⟨h1, h2⟩ := h; exact ⟨by rw [← l.u]; exact h1, h2⟩
/-- what is let out of X is what p wishes -/
def XP (p : Par) (X : Cx) : Prop := Passes (L2.CX X.prog X.w) X p.E
theorem xp_of {p : Par} {X : Cx} (tk : Takes X (fun cls d _ H => p.E cls d H)) : XP p X := passes_call tk fun _ _ _ _ h => h
theorem xp_nox {p : Par} {X : Cx} : XP p.nox X := fun pins σ H s e s' I c => by
  obtain ⟨a, B, H', cls, d, _, _, _, _, _, _, _, z⟩ := c
  exact z.elim
/-! ### a def's body -/
def mkF (n m : Nat) (w : WS) : FD := fun ws Q EX => ws.length = n ∧ w { nx := fun _ => Q .none, rt := Q, ex := EX } (ws.map some ++ List.replicate (m - n) none)
theorem mono_mkF {n m : Nat} {w : WS} (h : MonoS w) : MonoF (mkF n m w) := fun ws Q Q' EX hh ⟨e, q⟩ => ⟨e, h { nx := fun _ => Q .none, rt := Q, ex := EX } _ _ ⟨fun _ q => hh _ q, fun _ q => hh _ q, fun _ q => q, fun _ q => q, rfl⟩ q⟩
/-- a def of the text, its code object known -/
structure FunC (K : PySem.W.Frag) (x qual : Str) (st : Stmt) (f : Addr) (fd : FuncData) (cdv : Value) : Prop where
  ex : ∃ (oc : Value) (od : Option Addr) (kV doc pm : Value) (an : Option Addr) (ct : Value) (osl : Array (Option Value)),
    fd = PySem.W.fnOf x qual (defArgs st) (defBody st) (defScope st) .none kV doc pm an cdv ct ∧ K.lookup f = some ⟨oc, od, .func fd, osl⟩ ∧ PySem.W.codeIn K cdv qual = true
  kp : PySem.W.keepIn K (.ref f) = true
theorem funC_mk {K : PySem.W.Frag} {x qual : Str} {st : Stmt} {f : Addr} {oc : Value} {od an : Option Addr} {osl : Array (Option Value)} {kV doc pm cdv ct : Value} (l : K.lookup f = some ⟨oc, od, .func (PySem.W.fnOf x qual (defArgs st) (defBody st) (defScope st) .none kV doc pm an cdv ct), osl⟩)
    (c : PySem.W.codeIn K cdv qual = true) (k : PySem.W.keepIn K (.ref f) = true) : FunC K x qual st f (PySem.W.fnOf x qual (defArgs st) (defBody st) (defScope st) .none kV doc pm an cdv ct) cdv := ⟨⟨oc, od, kV, doc, pm, an, ct, osl, rfl, l, c⟩, k⟩
theorem FunC.binds {K : PySem.W.Frag} {x qual : Str} {st : Stmt} {f : Addr} {fd : FuncData} {cdv : Value} {ps : List Str} (F : FunC K x qual st f fd cdv)
    (h : ∀ (kV doc pm : Value) (an : Option Addr) (cdv ct : Value) (us : List Value), us.length = ps.length → bindArgs (PySem.W.fnOf x qual (defArgs st) (defBody st) (defScope st) .none kV doc pm an cdv ct) ⟨us, []⟩ = pure (ps.zip us)) : Binds K fd ps [] := by
  obtain ⟨oc, od, kV, doc, pm, an, ct, osl, rfl, lk, hcd⟩ := F.ex
  exact .all (h kV doc pm an cdv ct)
theorem paired_len {α β : Type} {R : α → β → Prop} : ∀ {l : List α} {m : List β}, Paired R l m → l.length = m.length
  | _, _, .nil => rfl
  | _, _, .cons _ t => by rw [List.length_cons, List.length_cons, paired_len t]
theorem paired_at {α β : Type} {R : α → β → Prop} : ∀ {l : List α} {m : List β} {i : Nat} {b : β}, Paired R l m → m[i]? = some b → ∃ a, l[i]? = some a ∧ R a b
  | _, _, _, _, .nil, e => by simp at e
  | _, _, 0, _, .cons r _, e => by simp at e; subst e; exact ⟨_, rfl, r⟩
  | _, _, i + 1, b, .cons _ t, e => by
    obtain ⟨a, h1, h2⟩ := paired_at (i := i) (b := b) t (by simpa using e)
    exact ⟨a, by simpa using h1, h2⟩
abbrev bodyCx (P : Program) (w0 : World) (K : PySem.W.Frag) (mg : Str → Option Value) (base : Heap) (N : List Str) (qual : Str) (st : Stmt) (f : Addr) (cdv : Value) (A : Around) (outer : List Env) (s : Shared) (H : Hp) (E : XK) : Cx :=
  cxOf (L2.CX P w0) P w0 K mg base N qual (defScope st) f cdv A outer s H E
theorem body_xp {P : Program} {w0 : World} {K : PySem.W.Frag} {mg : Str → Option Value} {base : Heap} {N : List Str} {qual : Str} {st : Stmt} {f : Addr} {cdv : Value} {A : Around} {outer : List Env} {s : Shared} {H : Hp} {E : XK} {S : Par} {N0 : Addr → Prop} : XP (S.inn N0 H E) (bodyCx P w0 K mg base N qual st f cdv A outer s H E) :=
  xp_of (takes_of (E := E) rfl rfl rfl rfl)
theorem body_own {P : Program} {w0 : World} {K : PySem.W.Frag} {mg : Str → Option Value} {base : Heap} {N : List Str} {qual : Str} {st : Stmt} {f : Addr} {cdv : Value} {A : Around} {outer : List Env} {s : Shared} {H : Hp} {E : XK} : PassesOwn (model P w0) (bodyCx P w0 K mg base N qual st f cdv A outer s H E).A (bodyCx P w0 K mg base N qual st f cdv A outer s H E).env (bodyCx P w0 K mg base N qual st f cdv A outer s H E).xe :=
  PassesOwn.leaving
theorem fn_D {P : Program} {w0 : World} {K : PySem.W.Frag} {mg : Str → Option Value} {base : Heap} {S : Par} {x qual : Str} {st : Stmt} {f : Addr} {fd : FuncData} {cdv : Value} {N ps : List Str} {k : Nat} {w : WS} (F : FunC K x qual st f fd cdv) (hK : S.K = K) (Sc : FnScope N ps (defScope st))
    (body : ∀ (N0 : Addr → Prop) (A : Around) (outer : List Env) (s : Shared) (H : Hp) (E : XK), Room k (A.deeper (envOfC qual (defScope st) s.heap.objs.size f cdv)) → DSs (S.inn N0 H E) (bodyCx P w0 K mg base N qual st f cdv A outer s H E) (defBody st) w) :
    FnOk P w0 K mg base (L2.CX P w0) (k + 1) f fd ps (SpD S (mkF ps.length N.length w)) := by
  obtain ⟨oc, od, kV, doc, pm, an, ct, osl, rfl, lk, hcd⟩ := F.ex
  refine fn_of lk hcd Sc (fun vs H Q E ⟨N0, ws, EX, _, _, hp, hf, _⟩ => ?_) fun A outer s H vs Q E hr ⟨N0, ws, EX, wd, hn, hp, hf, hx⟩ => ?_
  · rw [paired_len hp]; exact hf.1
  · have b := body N0 A outer s H E hr
    obtain ⟨hl, hw⟩ := hf
    have hvl := paired_len hp
    have hNl : ps.length ≤ N.length := by
      have := congrArg List.length Sc.pre
      rw [List.length_take] at this
      omega
    refine ⟨_, b.ps, ?_⟩
    have wd' : Wd (S.inn N0 H E) H := wd.like Like.inn.symm
    have R : Rel (S.inn N0 H E) noOwn (ws.map some ++ List.replicate (N.length - ps.length) none) (L2.start N vs) H := by
      refine ⟨wd', Ext.refl wd', ?_, fun i w hi => ?_, fun i j a h _ => (by cases h), fun x hx => (by cases hx), fun i a h => (by cases h)⟩
      · unfold L2.start
        simp
        omega
      · have hi2 : ws[i]? = some w := by
          by_cases hlt : i < ws.length
          · rw [List.getElem?_append_left (by simpa using hlt), List.getElem?_map] at hi
            cases q : ws[i]? with
            | none => rw [q] at hi; cases hi
            | some u => rw [q] at hi; simpa using hi
          · rw [List.getElem?_append_right (by simpa using Nat.le_of_not_lt hlt), List.getElem?_replicate] at hi
            split at hi <;> cases hi
        obtain ⟨v, hv, rv⟩ := paired_at hp hi2
        have hs : (L2.start N vs)[i]? = some (some v) := by
          unfold L2.start
          have hlt : i < vs.length := (List.getElem?_eq_some_iff.mp hv).1
          rw [List.getElem?_append_left (by simpa using hlt), List.getElem?_map, hv]
          rfl
        cases w with
        | d x =>
          refine ⟨v, hs, RepV.keep ⟨fun a n _ => ⟨.inl n, hn a n, fun i z => by cases z⟩, fun _ _ _ e _ => e, fun _ _ e => e, fun _ _ _ e => e⟩ x v rv⟩
        | own x => exact (show False from rv).elim
        | row =>
          have rv : v = .ref S.r := rv
          rw [hs, rv]
          rfl
    have R2 : Rel ((S.inn N0 H E).at K) noOwn (ws.map some ++ List.replicate (N.length - ps.length) none) (L2.start N vs) H := by
      subst hK
      exact R
    refine ⟨_, noOwn, EX, R2, fun y cls dd H' h1 h2 h3 => ?_, ?_⟩
    · subst hK
      exact hx y cls dd H' h1 (h2.like Like.inn) (h3.like Like.inn)
    · subst hK
      exact b.mono { nx := fun _ => ∀ v H', Ext S H H' → RepV S.K (NN (S.inn N0 H E) noOwn) H' v .none → Q v H', rt := fun d => ∀ v H', Ext S H H' → RepV S.K (NN (S.inn N0 H E) noOwn) H' v d → Q v H', ex := EX } _ _
        ⟨fun ρ q O' σ' H' _ _ R' => q .non H' (R'.ext.like Like.inn) rep_none, fun d q v H' _ e r => q v H' (e.like Like.inn) r, fun ρ q => q.elim, fun ρ q => q.elim, rfl⟩ hw
/-! ### calls -/
section
variable {p S : Par} {X : Cx} {pos : Pos} {e : Expr} {es : List Expr}
def wCall (f : FD) (ww : WW) : WE := fun ρ Q EX => ww ρ (fun ws => f ws Q EX) EX
theorem call_run {f : FD} (hf : MonoF f) (hl : Like p S) {O : Own} {ρ : Env'} {σ : L2.St} {H H1 : Hp} {EX : EXn} {vs : List V} {ws : List W} {Q : VK} (R : Rel p O ρ σ H) (ex : ExOk p EX) (e1 : Ext p H H1) (r1 : Paired (RepW p (NN p O) H1) vs ws) (q : f ws (RE p O H Q) EX) :
    SpD S f vs H1 (fun v H' => Hk p.K H' → Q v H') p.E := by
  refine ⟨NN p O, ws, EX, e1.wd.like hl, fun a n => by rw [← hl.r]; exact n.2.1, ?_, hf _ _ _ _ (fun d q v H' e2 r2 hk => q v H' hk (e1.trans (e2.like hl.symm)) ?_) q, fun x cls dd H' h1 h2 h3 => ex x cls dd H' h1 ((R.ext.trans e1).trans (h2.like hl.symm)) (h3.like hl.symm)⟩
  · refine Paired.mapP r1 fun v w h => ?_
    cases w with
    | d x =>
      have h : RepV p.K (NN p O) H1 v x := h
      show RepV S.K (NN p O) H1 v x
      rw [← hl.K]; exact h
    | own x => exact h
    | row =>
      have h : v = .ref p.r := h
      show v = .ref S.r
      rw [← hl.r]; exact h
  · rw [hl.K]
    refine RepV.keep ⟨fun a n _ => ?_, fun _ _ _ e _ => e, fun _ _ e => e, fun _ _ _ e => e⟩ d v r2
    rcases n.1 with n1 | n1
    · exact n1
    · exact (R.ext' e1).fresh0 n1
theorem de_call {f : FD} {x : Str} {g : Addr} {fd : FuncData} {ps : List Str} {k : Nat} {ww : WW} {q : Pos} (F : FnOk X.prog X.w X.K X.mg X.base (L2.CX X.prog X.w) k g fd ps (SpD S f)) (hf : MonoF f) (hl : Like (p.at X.K) S) (hr : Room k X.A) (hm : X.mg x = some (.ref g)) (hk : PySem.W.keepIn X.K (.ref g) = true) (hb : Binds X.K fd ps []) (hx : XP p X)
    (ha : DWs p X (e :: es) ww) (hg : Gl X x := by rfl) (hdb : (x == ("__debug__" : Str)) = false := by decide) (he : starEach (e :: es) X.env = (false, eval e X.env) :: starEach es X.env := by rfl) (hpl : (backTo pos (starEach es X.env)).any (·.1) = false := by rfl) :
    DE p X (.Call (.Name x q) (e :: es) [] pos) (wCall f ww) :=
  ⟨pe_use (pe_call (dvs := []) F hr hg hm hk hb .nil hx ha.pa hdb he hpl) fun σ H Q hk ⟨ρ, O, EX, R, ex, hw⟩ => ⟨ρ, O, EX, R, ex, ha.mono _ _ _ _ (fun ws q vs H1 hk1 e1 r1 => by
    show SpD S f (vs ++ []) H1 _ _
    rw [List.append_nil]
    exact call_run hf hl R ex e1 r1 q) hw⟩, fun ρ Q Q' EX h q => ha.mono _ _ _ _ (fun ws q => hf _ _ _ _ h q) q⟩
theorem de_call0 {f : FD} {x : Str} {g : Addr} {fd : FuncData} {ps : List Str} {k : Nat} {q : Pos} (F : FnOk X.prog X.w X.K X.mg X.base (L2.CX X.prog X.w) k g fd ps (SpD S f)) (hf : MonoF f) (hl : Like (p.at X.K) S) (hr : Room k X.A) (hm : X.mg x = some (.ref g)) (hk : PySem.W.keepIn X.K (.ref g) = true) (hb : Binds X.K fd ps []) (hx : XP p X)
    (hg : Gl X x := by rfl) (hdb : (x == ("__debug__" : Str)) = false := by decide) :
    DE p X (.Call (.Name x q) [] [] pos) (wCall f wwNil) :=
  ⟨pe_use (pe_call0 (dvs := []) F hr hg hm hk hb .nil hx hdb) fun σ H Q hk ⟨ρ, O, EX, R, ex, hw⟩ => by
    show SpD S f ([] ++ []) H _ _
    exact call_run hf hl R ex (Ext.refl R.wd) .nil hw, fun ρ Q Q' EX h q => hf _ _ _ _ h q⟩
end
end DD
set_option maxRecDepth 100000
set_option maxHeartbeats 4000000
/-! SemM: BadArgument: an own error whose __init__ calls super().__init__(f'..') and keeps its name. -/
namespace DD
open PySem PySem.Spec PyProof.Rows L2
def badA (p1 p2 : Pos) : Arguments := { posonlyargs := [], args := [{ arg := "self", annotation := none, pos := p1 }, { arg := "name", annotation := none, pos := p2 }], vararg := none, kwonlyargs := [], kw_defaults := [], kwarg := none, defaults := [] }
def badB (msg : Str) (j : Nat) (q1 q2 q3 q4 q5 q6 q7 q8 q9 q10 q11 q12 q13 : Pos) : List Stmt :=
  [.Expr (.Call (.Attribute (.Call (.Name "super" q1) [] [] q2) "__init__" q3) [.JoinedStr [.Constant (.str msg) j q4, .FormattedValue (.Name "name" q5) (-1) none q6] q7] [] q8) q9, .Assign [.Attribute (.Name "self" q10) "name" q11] (.Name "name" q12) q13]
def badS : Scope := { kind := .function, names := [(PySem.Str.ofString "self", .local), (PySem.Str.ofString "name", .local), (PySem.Str.ofString "__class__", .free), (PySem.Str.ofString "super", .globalImplicit)], isGenerator := false, isCoroutine := false, more := [] }
abbrev excC (nm q : Str) (C N : Addr) (bs bm : List Value) (sn : List Str) (sub : List Value) (ab : Bool) (col : Option Bool) (dd : Option Addr) (k0 k1 k2 k3 k5 : Option Value) : Obj := excClassObj nm q C N bs bm true sn sub ab col dd k0 k1 k2 k3 k5 "ValueError.__new__"
/-- what the written part says of BadArgument, at C, and of its __init__, at fI -/
structure BadTxt (P : Program) (K : PySem.W.Frag) (mg : Str → Option Value) (C fI cc : Addr) : Prop where
  gC : mg "BadArgument" = some (.ref C)
  gS : mg "super" = none
  cls : ∃ nm q N bs bm sn sub ab col dd k0 k1 k2 k3 k5, K.lookup C = some (excC nm q C N bs bm sn sub ab col dd k0 k1 k2 k3 k5) ∧ PySem.HandSPX.refsVE bm = true
  sup : PySem.W.ks_superIn K C C "__init__" = some (some (.builtin "ValueError.__init__"))
  sa : PySem.W.findIn K (.ref C) "__setattr__" = some (some (.builtin "object.__setattr__"))
  noN : PySem.W.findIn K (.ref C) "name" = some none
  iC : PySem.W.findIn K (.ref C) "__init__" = some (some (.ref fI))
  tC : PySem.W.typeIn K (.ref fI) = some (.type "function")
  kC : PySem.W.keepIn K (.ref C) = true
  exC : PySem.W.subIn K (.ref C) (.type "BaseException") = some true
  veC : PySem.W.subIn K (.ref C) (.type "ValueError") = some true
  tyC : PySem.W.typeIn K (.ref C) = some (.type "type")
  own : PySem.W.nsIn K cStatics "thirdparty.any" = some none
  top : (P.main.scope.names.lookup ("super" : Str)).isSome = false
  fn : ∃ (oc : Value) (od : Option Addr) (doc pm : Value) (an : Option Addr) (cda : Addr) (ct : Value) (osl : Array (Option Value)) (msg : Str) (j : Nat) (p1 p2 q1 q2 q3 q4 q5 q6 q7 q8 q9 q10 q11 q12 q13 : Pos) (ccl : Value) (cdd : Option Addr) (vs : Array Value) (ccs : Array (Option Value)) (file : Str) (tf : Tok),
    K.lookup fI = some ⟨oc, od, .func (PySem.W.ksFn "__init__" "BadArgument.__init__" (badA p1 p2) (badB msg j q1 q2 q3 q4 q5 q6 q7 q8 q9 q10 q11 q12 q13) badS .none .none doc pm an (.ref cda) ct cc), osl⟩ ∧ PySem.W.codeIn K (.ref cda) "BadArgument.__init__" = true ∧
      K.lookup cda = some ⟨ccl, cdd, .fields vs, ccs⟩ ∧ vs[2]? = some (.str file tf) ∧ ((P.main.file : Str) == file) = true ∧ msg.length ≤ 100 ∧ (q3.endLine == q8.line) = true
  cell : ∃ (cl : Value) (cld : Option Addr) (csl : Array (Option Value)), K.lookup cc = some ⟨cl, cld, .cell (some (.ref C)), csl⟩
end DD
namespace PySem
namespace BadX
open PySem.W PySem.Calls PyProof.Rows PySem.HandSPX DD
/-- what __init__ leaves of a fresh exception at x -/
structure InitEnd (h h' : Heap) (x C dx t1 : Addr) (v : Value) : Prop where
  keep : ∀ b o, b ≠ x → h.get? b = some o → h'.get? b = some o
  obj : h'.get? x = some { cls := .ref C, dict := some dx, data := .fields #[.ref t1, .none, .none, .none, .bool false, .none] }
  dbig : h.objs.size ≤ dx
  dne : dx ≠ x
  ns : h'.Ns1 dx (fun y => if y = "name" then some v else none)
section
variable {prog : Program} {w : World} {A : Around} {E : Value → Shared → Prop} {R : Result → Shared → Prop} {s : Shared} {K : Frag} {mg mb : Str → Option Value} {C fI cc : Addr}
/-- the wrapper of ValueError.__init__ called -/
theorem call_mw {nm q : Str} {N : Addr} {bs bm : List Value} {sn : List Str} {sub : List Value} {ab : Bool} {col : Option Bool} {dd : Option Addr} {k0 k1 k2 k3 k5 : Option Value} {h : Heap} {g : Array GenState} {d : Drawn} {t : Nat} {os : OsState} {u e t0 : Addr} {rest : List Value} {Q : Value → Shared → Prop}
    (hC : h.get? C = some (excC nm q C N bs bm sn sub ab col dd k0 k1 k2 k3 k5)) (he : h.get? e = some (excO C t0)) (hu : h.get? u = some (kxs_mw "ValueError.__init__" e)) (hrest : rest.length ≤ sizeLine)
    (hq : ∀ h' t1, (∀ b o, b ≠ e → h.get? b = some o → h'.get? b = some o) → h'.get? e = some (excO C t1) → Q .none ⟨h', g, d, t, os⟩) :
    wpAny (model prog w) A (call (.ref u) rest) Q E ⟨h, g, d, t, os⟩ := by
  refine wpAny_call (codeAny_of_tree ?_)
  show wpAny _ A.in1 (callAny (.ref u) ⟨rest, []⟩) _ _ _
  simp only [callAny]
  refine wpAny_bind (wpAny_load hu ?_)
  simp only [kxs_mw, show (Value.type "method-wrapper" == Value.type "method" || Value.type "method-wrapper" == Value.type "builtin_function_or_method" || Value.type "method-wrapper" == Value.type "method-wrapper") = true by decide, if_true]
  refine KFB.if_so (by decide) ?_
  refine wpAny_bind (check_bound_init F.excBase_ValueError.toExcCallFacts hC he rfl ?_)
  refine wpAny_bind (wpAny_pure (wpAny_pure ?_))
  refine ⟨plainId_quiet F.excBase_ValueError.init.plain _, codeAny_builtin F.excBase_ValueError.initEntry ?_⟩
  exact exc_init_tree (cls := .ref C) (t0 := t0) (dv := none) (c2 := .none) (c3 := .none) (b4 := .bool false) he hrest fun h' k e' _ => hq h' _ k e'
theorem bad_init (T : BadTxt prog K mg C fI cc) {x t0 : Addr} {n : Str} {tn : Tok} (X : K.In s.heap) (hlim : s.heap.NoLimit) (hglob : s.heap.Ns mainGlobals mg) (hb : s.heap.Ns builtinsNs mb) (hbs : mb "super" = some (.type "super")) (hx : s.heap.get? x = some (excO C t0)) (hnx : K.lookup x = none) (hroom : A.depth < recursionLimit) (hn : n.length ≤ 1000)
    (hq : ∀ h' tk t1 dx, InitEnd s.heap h' x C dx t1 (.str n tn) → R (.ok (.ret .none)) { s with heap := h', toks := tk }) :
    codeAny (model prog w) A (.call (.ref fI) ⟨[.ref x, .str n tn], []⟩) R s := by
  obtain ⟨oc, od, doc, pm, an, cda, ct, osl, msg, j, p1, p2, q1, q2, q3, q4, q5, q6, q7, q8, q9, q10, q11, q12, q13, ccl, cdd, vs, ccs, file, tf, ho, hcd, hca, hvs, hfile, hmsg, hline⟩ := T.fn
  obtain ⟨nm, q, N, bs, bm, sn, sub, ab, col, dd, k0, k1, k2, k3, k5, hC, hbm⟩ := T.cls
  obtain ⟨cl, cld, csl, hcell⟩ := T.cell
  have hcl : clsIn K C = some { name := nm, bases := bs, mro := .ref C :: bm, ns := N, qualname := q, hasDict := true, slotNames := sn, subclasses := sub, abstract := ab, collection := col, hasDel := false } := by unfold clsIn; rw [hC] <;> rfl
  refine ks_codeAny_call_defAt (fd := ksFn "__init__" "BadArgument.__init__" (badA p1 p2) (badB msg j q1 q2 q3 q4 q5 q6 q7 q8 q9 q10 q11 q12 q13) badS .none .none doc pm an (.ref cda) ct cc) (binds := [("self", .ref x), ("name", .str n tn)])
    hroom (X _ _ ho) rfl hlim (codeRec_of X hcd) rfl (BindsTo.of_eq (by first | rfl | with_unfolding_all rfl)) (show ∀ x ∈ badS.names, x.2 ≠ .cell by decide) (fun y hy => ?_) (fun h₀ hns hk => ?_) rfl rfl rfl
  · rcases List.mem_cons.mp hy with rfl | hy
    · rfl
    · rw [List.mem_singleton] at hy
      subst hy
      rfl
  have X₀ : K.In h₀ := X.keeps hk
  have hxC : x ≠ C := fun z => by
    have h1 := X _ _ hC
    rw [← z, hx] at h1
    cases h1
  have hsup : alongIn K "__init__" (((Value.ref C :: bm).dropWhile (· != .ref C)).drop 1) = some (some (.builtin "ValueError.__init__")) := by
    have := T.sup
    unfold ks_superIn at this
    rw [hcl] at this
    exact this
  have hx₀ := hk _ _ hx
  have I : InstAt h₀ x (excO C t0) C none := ⟨hx₀, rfl, rfl, trivial⟩
  have hml : Looks (model prog w) h₀ (mroOf (.ref C)) (.ref C :: bm) := fun A Q E s k q => wpAny_bind ((looks_clsIn X₀ hcl) A _ E s k (wpAny_pure q))
  have hsubC : Looks (model prog w) h₀ (isSubtype (.ref C) (.ref C)) true := by
    refine looks_mroIn X₀ ?_
    unfold mroIn
    rw [hcl, Option.bind_some, if_neg (show ¬ (List.isEmpty (Value.ref C :: bm) = true) from Bool.false_ne_true), List.contains_cons, beq_self_eq_true, Bool.true_or]
  show wpAt _ _ _ (execs _ _) _ _ _
  refine ks_wpAt_execs_cons (ks_wpAt_Expr_any ?_ (by rfl) (by rfl))
  refine ks_wpAt_MethodCall ?_ (by
    have hpos : ∀ (o : Expr) (env : Env), methodCallPos true o env q3 q8 = pure q8 := fun o env => by unfold methodCallPos; simp [hline]
    rw [arm_eval_Call]
    unfold methodCall
    have hform : ∀ (l : List (Bool × Sem Value)) (k : List (Option Str × Sem Value)), methodCallForm 1 [(false, l.head!.2)] [] = true := fun _ _ => rfl
    show (do
      let ov ← _
      standAt _
      let (f, first) ← holding [ov] (calleeOf true _ _ ov _)
      let callPos ← methodCallPos true _ _ q3 q8
      callWith callPos f first _ _) = _
    simp only [hpos]
    rfl)
  refine ks_wpAt_super_base rfl rfl rfl rfl (X₀ _ _ ho) rfl rfl rfl (X₀ _ _ hca) rfl hvs hfile T.top ?_
  refine ks_loadName_global rfl rfl (loadGlobal_builtin (hglob.keeps hk) T.gS (hb.keeps hk) hbs ⟨rfl, ?_⟩)
  refine wpAny_loadName_free rfl rfl rfl ⟨_, X₀ _ _ hcell, rfl⟩ ?_
  refine wpAny_loadName_local (v := .ref x) rfl rfl hns rfl ?_
  obtain ⟨hh, g, d, t, os⟩ := s
  refine ks_wpAny_isType_cls (X₀ _ _ hC) rfl ⟨rfl, ?_⟩
  refine ks_wpAny_call_super (X₀ _ _ hC) rfl hx₀ rfl (fun c e => by cases e) hsubC fun h1 e1 k1 => ?_
  refine kxs_getMethod kxs_ValueError e1 (looks_opaque (X₀.keeps k1) T.own) (hml.keeps k1) rfl (X₀.keeps k1) hsup ((show InstAt h1 x (excO C t0) C none from ⟨k1 _ _ hx₀, rfl, rfl, trivial⟩).type.andThen (looks_subIn (X₀.keeps k1) T.veC)) hxC (by decide) ?_
  have k2 : ∀ b o, hh.get? b = some o → (h1.push (kxs_mw "ValueError.__init__" x)).get? b = some o := fun b o e => Heap.get?_push_of_some _ (k1 b o (hk b o e))
  have hns2 := (hns.keeps k1).keeps (h' := h1.push (kxs_mw "ValueError.__init__" x)) fun b o e => Heap.get?_push_of_some _ e
  have eu : (h1.push (kxs_mw "ValueError.__init__" x)).get? h1.objs.size = some (kxs_mw "ValueError.__init__" x) := Heap.get?_push_size _ rfl
  refine kxs_callWith (i := "ValueError.__init__") (x := x) (by rfl) ?_
  have l1 : (Str.empty ++ msg).length ≤ sizeLine := by rw [strLen_append, sizeLine_eq]; show 0 + msg.length ≤ _; omega
  have l2 : (Str.empty ++ msg ++ n).length ≤ sizeLine := by rw [strLen_append, strLen_append, sizeLine_eq]; show 0 + msg.length + n.length ≤ _; omega
  refine evalArgs_plain (spliced_cons (wpAny_JoinedStr (pos := q7) (Calls.Constant_str ⟨msg, _, rfl, l1, ?_⟩)))
  refine wpAny_FormattedValue_plain (wpAny_Name (wpAny_loadName_local (v := .str n tn) rfl rfl hns2 rfl (PyProof.Rows.formatField_str (fun t' tk => ⟨n, t', rfl, l2, l2, ?_⟩) (by rw [sizeLine_eq]; omega))) (by decide))
  refine spliced_nil ⟨eu, ?_⟩
  refine call_mw (k2 _ _ (X _ _ hC)) (Heap.get?_push_of_some _ (k1 _ _ hx₀)) eu (by rw [sizeLine_eq]; show 1 ≤ 16777216; omega) fun h3 t1 k3 e3 => ?_
  -- self.name = name
  have k4 : ∀ b o, b ≠ x → hh.get? b = some o → h3.get? b = some o := fun b o hb e => k3 b o hb (k2 b o e)
  have X3 : K.In h3 := fun b o e => k4 b o (fun z => by rw [z, hnx] at e; cases e) (X b o e)
  have hxL : hh.objs.size ≠ x := Nat.ne_of_gt (Heap.lt_size hx)
  have hns3 := hns2.at' (h' := h3) fun o e => k3 _ o hxL e
  refine wpAt_of_wpAny (wpAny_execs_cons (plainObj_wpAny_Assign_Attribute ?_))
  refine wpAny_Name (wpAny_loadName_local (v := .str n tn) rfl rfl hns3 rfl ?_) (by decide)
  refine wpAny_Name (wpAny_loadName_local (v := .ref x) rfl rfl hns3 rfl ?_) (by decide)
  refine set_plain X3 (ox := excO C t1) (od := none) ⟨e3, rfl, rfl, trivial⟩ T.sa ?_
  refine exc_osa X3 e3 hcl (show refsVE (.ref C :: bm) = true from hbm) rfl T.noN (fun h₃ tk₃ dx k₃ dn dne hx₃ hn₃ => ?_)
  have hsz : hh.objs.size ≤ dx := by
    have h1 : h3.get? hh.objs.size ≠ none := by
      obtain ⟨o, es, ep, ho', _⟩ := hns3
      rw [ho']; simp
    have h2 : hh.objs.size < h3.objs.size := by
      cases q : h3.get? hh.objs.size with
      | none => exact absurd q h1
      | some o => exact Heap.lt_size q
    exact Nat.le_of_lt (Nat.lt_of_lt_of_le h2 dn)
  exact wpAny_execs_nil (hq h₃ tk₃ t1 dx ⟨fun b o hb e => k₃ b o hb (k4 b o hb e), hx₃, hsz, dne, hn₃⟩)
/-- a made BadArgument -/
structure Made (h h' : Heap) (e C d : Addr) (v : Value) : Prop where
  keep : ∀ b o, h.get? b = some o → h'.get? b = some o
  new : h.objs.size ≤ e
  obj : ∃ oe vs, h'.get? e = some oe ∧ oe.cls = .ref C ∧ oe.dict = some d ∧ oe.data = .fields vs ∧ vs[1]? = some .none
  dbig : h.objs.size ≤ d
  dne : d ≠ e
  ns : h'.Ns1 d (fun y => if y = "name" then some v else none)
theorem bad_made (T : BadTxt prog K mg C fI cc) {n : Str} {tn : Tok} (X : K.In s.heap) (hlim : s.heap.NoLimit) (hglob : s.heap.Ns mainGlobals mg) (hb : s.heap.Ns builtinsNs mb) (hbs : mb "super" = some (.type "super")) (hroom : A.depth + 1 < recursionLimit) (hn : n.length ≤ 1000)
    (hq : ∀ h' tk e d, Made s.heap h' e C d (.str n tn) → R (.ok (.ret (.ref e))) { s with heap := h', toks := tk }) :
    codeAny (model prog w) A (.call (.ref C) ⟨[.str n tn], []⟩) R s := by
  obtain ⟨nm, q, N, bs, bm, sn, sub, ab, col, dd, k0, k1, k2, k3, k5, hC, hbm⟩ := T.cls
  obtain ⟨hp, g, dr, tk, os⟩ := s
  have k : ∀ b o, hp.get? b = some o → ((hp.push (kdv_tup [.str n tn])).push (excO C hp.objs.size)).get? b = some o := fun b o e => Heap.get?_push_of_some _ (Heap.get?_push_of_some _ e)
  have hget : ((hp.push (kdv_tup [.str n tn])).push (excO C hp.objs.size)).get? (hp.objs.size + 1) = some (excO C hp.objs.size) := by heap_get
  have hnx : K.lookup (hp.objs.size + 1) = none := by
    cases e : K.lookup (hp.objs.size + 1) with
    | none => rfl
    | some o =>
      have z : hp.get? (hp.objs.size + 1) = some o := X _ _ e
      exact absurd (Nat.lt_of_succ_lt (Heap.lt_size z)) (Nat.lt_irrefl _)
  refine call_own F.excBase_ValueError (fun X => refsVE_contains X bm hbm) (X _ _ hC) (looks_findIn X T.iC) (fun self => bind_fn X self T.tC) (by rw [sizeLine_eq]; show 1 ≤ 16777216; omega) ?_
  refine bad_init (mb := mb) (s := ⟨(hp.push (kdv_tup [.str n tn])).push (excO C hp.objs.size), g, dr, tk, os⟩) T (X.keeps k) (hlim.keeps k) (hglob.keeps k) (hb.keeps k) hbs hget hnx ?_ hn fun h' tk' t1 dx ⟨k', hx, dn, dne, hns⟩ => ?_
  · show A.depth + 1 < recursionLimit
    exact hroom
  · have old : ∀ b o, hp.get? b = some o → h'.get? b = some o := fun b o e => k' b o (Nat.ne_of_lt (Nat.lt_succ_of_lt (Heap.lt_size e))) (k b o e)
    have z : hp.objs.size + 1 + 1 ≤ dx := by
      first
        | (simpa only [Heap.size_push] using dn)
        | exact dn
        | (have q := dn; rw [Heap.size_push, Heap.size_push] at q; exact q)
    exact ⟨rfl, hq h' tk' (hp.objs.size + 1) dx ⟨old, Nat.le_succ _, ⟨_, _, hx, rfl, rfl, rfl, rfl⟩, Nat.le_trans (Nat.le_trans (Nat.le_succ _) (Nat.le_succ _)) z, dne, hns⟩⟩
end
end BadX
end PySem
namespace DD
open PySem PySem.Spec PyProof.Rows L2
theorem relO_name {v : V} {v' : Value} (r : RelV v v') (f : Str) : RelO (List.lookup f [(("name" : Str), v)]) (if f = "name" then some v' else none) := by
  rw [lookup_put]
  by_cases h : f = "name"
  · rw [if_pos h, if_pos h]; exact r
  · rw [if_neg h, if_neg h]; trivial
section
variable {X : Cx} {C fI cc : Addr}
/-- BadArgument(e), e a text -/
def tMkBad (C : Addr) (ta : TA) : L2.St → Hp → XK → Prop := fun σ H Q => ta σ H fun vs H1 => ∃ n : Str, vs = [.str n] ∧ n.length ≤ 1000 ∧ ∀ d, H1 d = none → Q (.ref C) (some d) (upd H1 d (.xd [(("name" : Str), .str n)]))
theorem pmk_bad {a : Expr} {ta : TA} {p pos : Pos} {k : Nat} (T : BadTxt X.prog X.K X.mg C fI cc) (hr : Room k X.A) (ha : PA X [a] ta) (hg : Gl X "BadArgument" := by rfl)
    (he : starEach (a :: []) X.env = (false, eval a X.env) :: starEach [] X.env := by rfl) (hpl : (backTo pos (starEach [] X.env)).any (·.1) = false := by rfl) :
    PMk X (.Call (.Name "BadArgument" p) [a] [] pos) (tMkBad C ta) := by
  intro pins s σ H Q I h
  refine wpAny_Call_Name_kw (ld_glob I hg T.gC ?_)
  refine PySem.W.callWith_K (h₀ := X.base) I.ok.mod.kin T.kC (thn (ha.run pos pins s σ H _ I h) fun us s1 hh => ?_) he hpl
  obtain ⟨vs, H1, I1, r1, n, ev, hn, q1⟩ := hh
  subst ev
  refine ⟨I1.kIn, ?_⟩
  cases r1 with
  | cons rv rn =>
    rename_i v' us'
    cases rn
    obtain ⟨tn, rfl⟩ := rv
    show wpAny _ _ (call (.ref C) [.str n tn]) _ _ _
    have hlim := I1.nolimit
    obtain ⟨mb, hmb, hbb⟩ := I1.mod.blt
    have hglob := I1.mod.glob.keeps I1.bk
    have hmb' := hmb.keeps I1.bk
    obtain ⟨hp, g, dr, tk, os⟩ := s1
    refine wpAny_call (PySem.BadX.bad_made (mb := mb) T I1.kIn hlim hglob hmb' ((hbb _ (by decide)).trans (by decide +kernel)) (by have := hr.dp; omega) hn fun h' tk' e d M => ?_)
    show MkP X pins σ Q (.ref e) ⟨h', g, dr, tk', os⟩
    obtain ⟨oe, fv, hoe, hc, hd, hdat, h1⟩ := M.obj
    have hns := M.ns
    obtain ⟨G', g1, g2⟩ := restrict h' fun b => decide (b ≠ e)
    have gk : ∀ b, b ≠ e → G'.get? b = h'.get? b := fun b hb => g1 b (decide_eq_true hb)
    have ge : G'.get? e = none := g2 e (by simp)
    have old : ∀ b o, hp.get? b = some o → G'.get? b = some o := fun b o q => (gk b (Nat.ne_of_lt (Nat.lt_of_lt_of_le (Heap.lt_size q) M.new))).trans (M.keep b o q)
    have ob : ObjOk X.prog X.w (upd H1 d (.xd [(("name" : Str), .str n)])) G' d (.xd [(("name" : Str), .str n)]) :=
      ⟨_, hns.at (fun o q => (gk d M.dne).trans q), fun f => relO_name (v := .str n) ⟨tn, rfl⟩ f⟩
    have J : Inv X pins σ (upd H1 d (.xd [(("name" : Str), .str n)])) ⟨G', g, dr, tk', os⟩ := I1.laid (t' := tk') old M.dbig ob
    refine ⟨e, oe, fv, ⟨G', g, dr, tk', os⟩, _, .ref C, some d, rfl, J, fun b o q => ?_, ge, hoe, ⟨hc, hd⟩, hdat, h1, ?_, rfl, I1.bare, raises_own T.exC T.tyC, q1 d (I1.hok.fresh M.dbig)⟩
    · by_cases hb : b = e
      · have q' : G'.get? b = some o := q
        rw [hb, ge] at q'; cases q'
      · exact (gk b hb).symm.trans q
    · rw [upd_ne (Ne.symm M.dne)]
      exact I1.hok.fresh M.new
end
end DD
set_option maxRecDepth 100000
set_option maxHeartbeats 4000000
/-! SemN: raise BadArgument(..) over data; isinstance of a caught error that has a dict; a try whose first clause catches. -/
namespace PySem.W
open PySem PySem.Spec PySem.Calls PyProof.Rows
section
variable {prog : Program} {w : World} {A : Around} {E : Value → Shared → Prop} {s : Shared} {K : Frag} {x D : Addr} {ox : Obj}
theorem dd_findObj {C : Addr} {od : Option Obj} {name : Str} {a g : Value} (hc : (clsIn K C).isSome = true) (ha : findIn K (.ref C) name = some (some a)) (hg : specialIn K a "__get__" = some (some g)) (ht : takesIn K a = some true) : findObj K C od name = some (.bind g a) := by
  obtain ⟨cd, hc⟩ := Option.isSome_iff_exists.mp hc
  unfold findObj
  rw [hc, Option.bind_some, ha, Option.bind_some]
  simp [hg, ht]
theorem dd_class {od : Option Obj} {Q : Option Value → Shared → Prop} (hga : findIn K (.ref D) "__getattribute__" = some (some (.builtin "BaseException.__getattribute__"))) (hgt : findIn K (.ref D) "__getattr__" = some none) (hsub : subIn K (.ref D) (.type "BaseException") = some true)
    (hdct : hasDictIn K D = true) (ha : findIn K (.ref D) "__class__" = some (some (.builtin "object.__class__")))
    (hn : specialIn K (.builtin "object.__class__") "__get__" = some (some (.builtin "getset_descriptor.__get__"))) (htk : takesIn K (.builtin "object.__class__") = some true) (hm : mroIn K D (.type "object") = some true)
    (X : K.In s.heap) (I : InstAt s.heap x ox D od) (h : Q (some (.ref D)) { s with toks := s.toks + 1 }) : wpAny (model prog w) A (getAttr? (.ref x) "__class__") Q E s := by
  have hf : findObj K D od "__class__" = some (.bind (.builtin "getset_descriptor.__get__") (.builtin "object.__class__")) := dd_findObj (by obtain ⟨cd, hc, _⟩ := any_some hdct; rw [hc]; rfl) ha hn htk
  obtain ⟨hp, g, d, t, os⟩ := s
  have L0 := I.type (M := model prog w)
  have L1 := looks_findIn (M := model prog w) X hga
  have L2 := looks_findIn (M := model prog w) X hgt
  have L3 := looks_find (M := model prog w) X I hf
  have sub : Looks (model prog w) hp (isInstance (.ref x) (.type "BaseException")) true := L0.andThen (looks_subIn X hsub)
  have hx0 : (false && onTheHeap (Value.builtin "BaseException.__getattribute__")) = false := rfl
  have hx2 : (Value.builtin "BaseException.__getattribute__" == Value.builtin "object.__getattribute__") = false := by decide +kernel
  have hx1 : (onTheHeap (Value.ref D) && Value.builtin "BaseException.__getattribute__" == Value.builtin "object.__getattribute__") = false := by rw [hx2]; rfl
  unfold getAttr? getAttrBy? getAttrBy
  refine wpAny_bind (wpAny_mkText (wpAny_bind (wpAny_attempt (wpAny_holding (wpAny_bind (L0.at (wpAny_bind (L1.at ?_))))))))
  show wpAny _ _ (if (onTheHeap (Value.ref D) && Value.builtin "BaseException.__getattribute__" == Value.builtin "object.__getattribute__") = true then _ else _) _ _ _
  rw [hx1, if_neg Bool.false_ne_true]
  unfold getAttrByItsOwn hookBefore
  refine wpAny_bind ?_
  rw [if_pos (show onTheHeap (Value.ref D) = true from rfl)]
  refine L2.at ?_
  refine wpAny_bind (wpAny_attempt (wpAny_holding ?_))
  unfold callGetattribute
  rw [hx0, if_neg Bool.false_ne_true]
  unfold boundAndCalled
  rw [PySem.F.excAttr_ValueError.ga.bind (.ref x)]
  refine wpAny_bind (wpAny_pure ?_)
  show wpAny _ _ (call (.builtin "BaseException.__getattribute__") [.ref x, .str "__class__" t]) _ _ _
  refine wpAny_call (codeAny_call_builtin PySem.F.excAttr_ValueError.ga.plain PySem.F.entry_bexc_ga ?_)
  refine @check_slot (model prog w) _ _ ⟨hp, g, d, t + 1, os⟩ "BaseException.__getattribute__" "BaseException" "__getattribute__" (.ref x) [.str "__class__" t] [] _ (by decide +kernel) (by decide +kernel) sub (PySem.F.args_bexc_ga (.ref x) (.str "__class__" t)) ?_
  unfold Builtin.«object.__getattribute__»
  refine wpAny_bind (wpAny_of_eq (a := ((Value.ref x : Value), [Value.str "__class__" t])) (by first | rfl | (simp only [slotArgs]; rfl)) ?_)
  refine wpAny_bind (wpAny_pure (wpAny_bind (L0.at (wpAny_bind (L3.at ?_)))))
  show wpAny _ _ (holding [Value.builtin "object.__class__"] (call (.builtin "getset_descriptor.__get__") [.builtin "object.__class__", .ref x, .ref D]) >>= ret) _ _ _
  refine wpAny_bind (wpAny_holding (wpAny_call (class_get (s := ⟨hp, g, d, t + 1, os⟩) (ox := ox) (od := od) X I hm ?_)))
  refine wpAny_pure ?_
  show wpAny _ _ (handedOut (.ref D)) _ _ _
  rw [handedOut_of (v := .ref D) rfl]
  first
    | exact wpAny_pure (wpAny_pure h)
    | exact wpAny_pure h
    | exact wpAny_pure (wpAny_bind (wpAny_pure (wpAny_pure h)))
theorem dd_kitx {od : Option Obj} (hga : findIn K (.ref D) "__getattribute__" = some (some (.builtin "BaseException.__getattribute__"))) (hgt : findIn K (.ref D) "__getattr__" = some none) (hsub : subIn K (.ref D) (.type "BaseException") = some true) (hdct : hasDictIn K D = true) (ha : findIn K (.ref D) "__class__" = some (some (.builtin "object.__class__")))
    (hn : specialIn K (.builtin "object.__class__") "__get__" = some (some (.builtin "getset_descriptor.__get__"))) (htk : takesIn K (.builtin "object.__class__") = some true) (hm : mroIn K D (.type "object") = some true) :
    KitX K (.ref x) (.ref D) (fun h => InstAt h x ox D od) where
  ty := fun _ _ _ I => I.type
  it := fun _ _ X _ => by
    obtain ⟨cdD, hcD, _⟩ := any_some hdct
    unfold clsIn at hcD
    split at hcD
    · rename_i c' d' cd' sl' ho
      intro A' Q' E' s' k q
      unfold isType loadHead
      exact wpAny_bind (wpAny_loadPart (k _ _ (X _ _ ho)) (wpAny_pure q))
    · cases hcD
  ne := fun h tp dd its n sl X htp => by
    obtain ⟨cdD, hcD, _⟩ := any_some hdct
    refine Bool.eq_false_iff.mpr fun q => ?_
    have e : D = tp := Value.ref.inj (beq_iff_eq.mp q)
    subst e
    unfold clsIn at hcD
    split at hcD
    · rename_i c' d' cd' sl' ho
      have z := (X _ _ ho).symm.trans htp
      cases z
    · cases hcD
  ca := fun X I k => dd_class hga hgt hsub hdct ha hn htk hm X I k
end
end PySem.W
namespace DD
open PySem PySem.Spec PyProof.Rows L2
/-- isinstance(e, c), e the exception that the suite holds, its dict at d -/
def rIsD (K : PySem.W.Frag) (C a d : Addr) : List V → Hp → VK → Prop := fun xs H Q => ∃ (c : V) (cv : Value) (b : Bool) (fs : List (Str × V)), xs = [.ref a, c] ∧ (∀ u, RelV c u → u = cv) ∧ PySem.W.kitOne K (.ref C) cv = some b ∧ H d = some (.xd fs) ∧ Q (.bl b) H
theorem call_isD {X : Cx} {a C d : Addr} {oe : Obj} {pn : List (Addr × Obj)} (T : ExcC X.K C) (hz : Zc (.ref C) (some d) oe) (hf : ∃ vs, oe.data = .fields vs) : CallR (X.suite a ((a, oe) :: pn)) (.builtin "isinstance") (rIsD X.K C a d) := by
  intro pins s σ H xs us Q I r h
  obtain ⟨c, cv, b, fs, rfl, hcv, e, hd, q⟩ := h
  cases r with
  | cons rx rr =>
    cases rr with
    | cons rt rr =>
      cases rr
      cases rx
      have ec := hcv _ rt
      subst ec
      obtain ⟨hget, _⟩ := I.pin (a, oe) (List.mem_append.mpr (.inl List.mem_cons_self))
      obtain ⟨vs, hv⟩ := hf
      have hx : ObjOk X.prog X.w H s.heap d (.xd fs) := I.hok d _ hd
      obtain ⟨mA, hns, _⟩ := hx
      obtain ⟨od, _, _, ho, _⟩ := hns
      have J : PySem.W.InstAt s.heap a oe C (some od) := ⟨hget, hz.1, by unfold PySem.W.notCls; rw [hv] <;> rfl, by rw [hz.2]; exact ho⟩
      exact PySem.W.kia_one (PySem.W.dd_kitx T.hg T.hk T.hs T.hd T.ha T.hn T.ht T.hm) I.kIn J e (fun z => nomatch z) fun tk => ⟨.bl b, H, I.kept (t' := tk) fun _ _ z => z, rfl, q⟩
/-- what a first clause 'except x as n' wishes: it catches -/
def wFst (K : PySem.W.Frag) (c : Value) (i m : Nat) (ts : Addr → Value → Option Addr → TS) (D : Ends) : WX := fun cls d σ H =>
  PySem.W.exmOne K cls c = some true ∧ ∀ a, H a = none → σ.length = m → ts a cls d { nx := fun σ' H' => D.nx (σ'.set i none) H', rt := D.rt, bk := fun σ' H' => D.bk (σ'.set i none) H', ct := fun σ' H' => D.ct (σ'.set i none) H' } (σ.set i (some (.ref a))) H
section
variable {X : Cx} {x n : Str} {c : Value} {i : Nat} {body suite : List Stmt} {b₀ : Stmt} {hds : List ExceptHandler} {np pos pos' : Pos} {tb : WX → TS} {ts : Addr → Value → Option Addr → TS}
theorem ps_try_first (hs : X.stack = X.env :: X.outer) (hf : X.env.frame = some X.env.locals) (hN : X.N.Nodup) (hi : X.N[i]? = some n) (hln : X.env.kindOf n = some .local) (hc : Names X x c)
    (hb : ∀ (W : WX) (pn : List (Addr × Obj)) (xe : Value → Shared → Prop), Takes (X.tr pn xe) W → PassesOwn (model X.prog X.w) X.A X.env xe → PSs (X.tr pn xe) body (tb W))
    (hsu : ∀ (a : Addr) (oe : Obj) (cls : Value) (d : Option Addr) (pn : List (Addr × Obj)), Zc cls d oe → (∃ vs, oe.data = .fields vs) → PSs (X.suite a ((a, oe) :: pn)) (b₀ :: suite) (ts a cls d)) :
    PS X (.Try body (.ExceptHandler (some (.Name x np)) (some n) (b₀ :: suite) pos' :: hds) [] [] pos) (fun D σ H => tb (wFst X.K c i X.N.length ts D) D σ H) := by
  refine ⟨fun pins s σ H D I h => ?_⟩
  have ok := I.ok
  have hfr : X.A.frames = some (X.env :: X.outer) := by rw [ok.frames, hs]
  have hloc : Loc X.env.scope n := .inl hln
  refine wpAny_Try_except ?_
  refine wpAny_mono ((hb (wFst X.K c i X.N.length ts D) (X.pn ++ pins) (fun e s₁ => wpAny (model X.prog X.w) X.A (noteFrame e X.env) (fun _ s₂ => wpAny (model X.prog X.w) X.A (setFlight e none) (fun _ s₃ =>
    wpAny (model X.prog X.w) X.A (handleBy e X.env (.ExceptHandler (some (.Name x np)) (some n) (b₀ :: suite) pos' :: hds)) (SP X pins D) X.xe s₃) X.xe s₂) X.xe s₁) (fun u s' xx => ?_) PassesOwn.looking).run [] s σ H D (I.toTry _) h) (fun f s1 hsp => ?_) (fun e s1 he => he)
  · -- the catch
    obtain ⟨a, B, sI, pins', σ', H', cls, d, rfl, J', nb, up, sky, na, os, ag, hb1, hyes⟩ := xx
    have J : Inv X pins σ' H' sI := J'.ofTry ok
    have sky' : Sky B (X.env :: X.outer) a (Zc cls d) X.env.locals s'.heap := by rw [← hs]; exact sky
    show wpAny (model X.prog X.w) X.A (noteFrame (.ref a) X.env) _ _ _
    refine Sky.land Zc.steady hfr hf sky' fun h3 fl3 up3 => ?_
    have J3 : Inv X pins σ' H' { s' with heap := h3 } := J.landed nb fl3.1 (up.trans up3) os ag
    obtain ⟨oe3, vs3, he3, hz3, hd3⟩ := fl3.there
    have notFr : ∀ {h : Heap} {o : Obj} {vs : Array Value}, h.FunFrames B (X.env :: X.outer) → h.get? a = some o → o.data = .fields vs → a ∉ frs (X.env :: X.outer) := fun {h o vs} ff e dd hm => by
      obtain ⟨_, o', e', hnf⟩ := ff.mem hm
      rw [e] at e'; cases e'
      exact hnf _ dd
    have nfr := notFr fl3.2.2.1 he3 hd3
    have nL : a ≠ X.env.locals := fun z => nfr (List.mem_filterMap.mpr ⟨X.env, List.mem_cons_self, by rw [hf, z]⟩)
    have nF : a ∉ X.fs := fun hm => by
      obtain ⟨e, he, q⟩ := List.mem_filterMap.mp hm
      exact nfr (List.mem_filterMap.mpr ⟨e, List.mem_cons_of_mem _ he, q⟩)
    have S3 := J3.suite he3 hd3 na nL nF
    refine wpAny_handleBy_cons (codeAny_handlers_test ?_) (by intro q; cases q)
    have LT : PySem.W.Looks (model X.prog X.w) h3 (typeOf (.ref a)) cls := fun A Q E s k q => wpAny_typeOf_ref (k _ _ he3) (by rw [hz3.1]; exact q)
    have LM := PySem.W.exm_one (M := model X.prog X.w) (J3.kIn) LT hb1
    have test : ∀ {Q : Value → Shared → Prop} {E : Value → Shared → Prop}, Q c { s' with heap := h3 } → wpAny (model X.prog X.w) (X.A.mark (some (.ref a))) (eval (.Name x np) X.env) Q E { s' with heap := h3 } := fun {Q E} q => by
      obtain ⟨hg, hdbg, hm | ⟨hm, hv, hnn⟩⟩ := hc
      · exact ld_glob (X := X.suite a ((a, oe3) :: (X.pn ++ pins))) S3 hg hm q hdbg
      · exact ld_blt (X := X.suite a ((a, oe3) :: (X.pn ++ pins))) S3 hg hm hv q hnn hdbg
    refine test (LM.here ?_)
    refine codeAny_handlers_suite_as ?_
    refine HandSPX.lands_againZ fl3 fun h4 fl4 up4 => ?_
    have J4 : Inv X pins σ' H' { s' with heap := h4 } := J.landed nb fl4.1 ((up.trans up3).trans up4) os ag
    obtain ⟨oe4, vs4, he4, hz4, hd4⟩ := fl4.there
    have S4 := J4.suite he4 hd4 na nL nF
    refine store_ok (X := X.suite a ((a, oe4) :: (X.pn ++ pins))) (v := .ref a) S4 hN hi hloc rfl (fun s5 S5 => ?_) (.inr hln)
    refine wpAny_mono ((hsu a oe4 cls d (X.pn ++ pins) hz4 ⟨_, hd4⟩).run [] s5 _ H' _ S5 (hyes a na J.len)) (fun f s6 hsp => ?_) (fun _ _ z => False.elim z)
    have end_ : ∀ {σ6 : L2.St} {H6 : Hp} {Q : Shared → Prop}, Inv (X.suite a ((a, oe4) :: (X.pn ++ pins))) [] σ6 H6 s6 → (∀ s7, Inv X pins (σ6.set i none) H6 s7 → Q s7) →
        wpAny (model X.prog X.w) X.A (do bindName X.env n .none; unbindBehindTheSuite X.env n pos') (fun _ s7 => Q s7) X.xe s6 := fun {σ6 H6 Q} S6 hq => gone_ok (S6.unsuite ok) hN hi hln hq
    cases f with
    | next =>
      obtain ⟨σ6, H6, S6, q6⟩ := hsp
      exact end_ S6 fun s7 J7 => ⟨_, _, J7, q6⟩
    | brk =>
      obtain ⟨σ6, H6, S6, q6⟩ := hsp
      exact end_ S6 fun s7 J7 => ⟨_, _, J7, q6⟩
    | cont =>
      obtain ⟨σ6, H6, S6, q6⟩ := hsp
      exact end_ S6 fun s7 J7 => ⟨_, _, J7, q6⟩
    | ret u =>
      obtain ⟨v6, σ6, H6, S6, r6, q6⟩ := hsp
      exact end_ S6 fun s7 J7 => ⟨_, _, _, J7, r6, q6⟩
  · cases f with
    | next =>
      obtain ⟨σ', H', J', q⟩ := hsp
      exact wpAny_execs_nil ⟨σ', H', J'.ofTry ok, q⟩
    | brk =>
      obtain ⟨σ', H', J', q⟩ := hsp
      exact ⟨σ', H', J'.ofTry ok, q⟩
    | cont =>
      obtain ⟨σ', H', J', q⟩ := hsp
      exact ⟨σ', H', J'.ofTry ok, q⟩
    | ret u =>
      obtain ⟨v, σ', H', J', r, q⟩ := hsp
      exact ⟨v, σ', H', J'.ofTry ok, r, q⟩
end
/-! ### raise BadArgument(..) over data -/
section
variable {p : Par} {X : Cx} {pos : Pos} {a : Expr} {C fI cc : Addr}
def wRaise (w : WE) : WS := fun D ρ => w ρ (fun d => ∃ n, d = .str n ∧ n.length ≤ 1000 ∧ D.ex (.bad n)) D.ex
theorem ds_raiseBad {w : WE} {q pos2 : Pos} {k : Nat} (hc : X.calm = true) (T : BadTxt X.prog X.K X.mg C fI cc) (hC : p.cBad = C) (hr : Room k X.A) (tk : Takes X (fun cls d _ H => p.E cls d H)) (h : DE p X a w) (hg : Gl X "BadArgument" := by rfl)
    (he : starEach (a :: []) X.env = (false, eval a X.env) :: starEach [] X.env := by rfl) (hpl : (backTo pos (starEach [] X.env)).any (·.1) = false := by rfl) : DS p X (.Raise (some (.Call (.Name "BadArgument" q) [a] [] pos)) none pos2) (wRaise w) := by
  refine ⟨ps_use (ps_raise hc tk (pmk_bad T hr (pa_cons h.pe pa_nil he) hg he hpl)) fun D σ H hk ⟨ρ, O, EX, R, ex, hw⟩ => ⟨ρ, O, EX, R, ex, h.mono _ _ _ _ (fun d ⟨n, z, hn, q⟩ v H1 hk1 e1 r1 => ?_) hw⟩, fun D D' ρ hd q => ?_⟩
  · subst z
    rw [r1.b.str]
    refine ⟨n, rfl, hn, fun dd hdd => ?_⟩
    have e2 := Ext.new (o := .xd [(("name" : Str), .str n)]) e1.wd hdd
    exact ex (.bad n) _ _ _ q (R.ext.trans (e1.trans e2)) ⟨by show Value.ref C = .ref p.cBad; rw [hC], dd, rfl, by unfold L2.upd; rw [if_pos rfl]⟩
  · unfold wRaise at q ⊢
    rw [← hd.ex]
    exact q
end
end DD
set_option maxRecDepth 100000
set_option maxHeartbeats 4000000
/-! SemO: _law_heard(lambda: e) over data. -/
namespace DD
open PySem PySem.Spec PyProof.Rows L2 LamX
/-! ### a lambda handed to a def, all other tables told of -/
section
variable {X : Cx} {pins : List (Addr × Obj)} {σ : L2.St} {H : Hp} {s : Shared}
theorem lam_make3 {T : List (Addr × Str)} {c P : Addr} {params : Arguments} {body : Expr} {scope : Scope} {pos : Pos} {E : Value → Shared → Prop} {Q : Value → Shared → Prop} (I : Inv X pins σ H s) (TB : TabB X.base X.mg c P) (hcode : X.env.code = .ref c)
    (hm : (P, X.env.qual ++ "<lambda>") ∈ T) (hu : ∀ p ∈ T, p.1 = P → p.2 = X.env.qual ++ "<lambda>") (hT : Tabs T H) (hdef : defaultsOf params X.env = ([], [])) (hfree : ∀ y ∈ scope.names, y.2 = .free → ∃ c, X.env.cells.lookup y.1 = some c)
    (h : ∀ (f c' : Addr) (pm ctv : Value) (H1 : Hp) (s' : Shared), Inv X pins σ H1 s' → ExtN H H1 → (∀ b, b ≠ P → H b ≠ none → H1 b = H b) → Tabs T H1 →
      s'.heap.get? f = some (PySem.W.kla_obj "<lambda>" (X.env.qual ++ "<lambda>") params body scope (cloFrom X.env.cells scope.names []) pm c' ctv) → H1 f = none → f ∉ frs X.stack → H1 c' = some (CodeO c' (X.env.qual ++ "<lambda>")) → Q (.ref f) s') :
    wpAny (model X.prog X.w) X.A (eval (.Lambda params body scope pos) X.env) Q E s := by
  obtain ⟨ps, hP, ht, ha⟩ := hT _ hm
  refine PySem.W.kla_eval hdef ?_
  have bP : s.heap.BuiltinsAt X.mg P := TB.bm.keeps I.bk
  have hP' : s.heap.get? P = some { cls := .none, data := .fields ps } := I.hok P _ hP
  have nofr : ∀ f, s.heap.objs.size ≤ f → f ∉ frs X.stack := fun f hf z => by
    rcases List.mem_cons.mp (I.stkSub _ z) with e | e
    · have h1 := I.lt
      rw [← e] at h1
      exact Nat.lt_irrefl _ (Nat.lt_of_lt_of_le h1 hf)
    · exact I.nofs hf e
  cases hc : codeAmong pos ps.toList with
  | none =>
    refine PySem.W.kla_makeFunction (mg := X.mg) (c := c) (P := P) (ps := ps) (closure_ok hfree) I.ok.glob (I.mod.glob.keeps I.bk) hcode (TB.code.keeps I.bk) hP' ht hc TB.gP bP fun c' ctv h' tk hx hge hlt hrec htb => ?_
    obtain ⟨c2, oc, vs, t, e2, hoc, hd, hv⟩ := hrec
    cases e2
    have hsz : s.heap.objs.size ≤ h'.objs.size := Nat.le_trans hge (Nat.le_of_lt hlt)
    have nC : H c' = none := I.hok.fresh hge
    have I1 := inv_table (t' := tk) (more := #[rawInt pos.line, rawInt pos.col, .ref c']) (h' := h'.push (PySem.W.kla_obj "<lambda>" (X.env.qual ++ "<lambda>") params body scope (cloFrom X.env.cells scope.names []) ((X.mg "__name__").getD .none) c' ctv)) I hP
      (fun b o hb e => Heap.get?_push_of_some _ (hx b o hb e)) (Heap.get?_push_of_some _ htb) hge ⟨oc, vs, t, Heap.get?_push_of_some _ hoc, hd, hv⟩
    have hE : ExtN H (upd (upd H P (.tbl (ps ++ #[rawInt pos.line, rawInt pos.col, .ref c']))) c' (CodeO c' (X.env.qual ++ "<lambda>"))) := fun b o e n => by
      rw [upd_ne (ne_of_none e nC), upd_ne (fun z => n ps (Option.some.inj (e.symm.trans (by rw [z]; exact hP))))]
      exact e
    have eL : (ps ++ #[rawInt pos.line, rawInt pos.col, .ref c']).toList = ps.toList ++ [rawInt pos.line, rawInt pos.col, .ref c'] := by simp
    refine h h'.objs.size c' ((X.mg "__name__").getD .none) ctv _ _ I1 hE (fun b hb hn => ?_) (fun p hp => ?_) (Heap.get?_push_size _ rfl) ?_ (nofr _ hsz) upd_same
    · rw [upd_ne (fun z => hn (by rw [z]; exact nC)), upd_ne hb]
    · by_cases hb : p.1 = P
      · rw [hu p hp hb, hb]
        refine ⟨_, by rw [upd_ne (ne_of_none hP nC), upd_same], by rw [eL]; exact PySem.TriplesOk_snoc _ _ _ _ ht, fun p' cv hcv => ?_⟩
        rw [eL] at hcv
        rcases among_app _ ht hcv with z | z
        · obtain ⟨c0, e1, e2⟩ := ha p' cv z
          exact ⟨c0, e1, hE _ _ e2 codeO_ne⟩
        · exact ⟨c', z, upd_same⟩
      · obtain ⟨ps', a1, a2, a3⟩ := hT p hp
        refine ⟨ps', by rw [upd_ne (ne_of_none a1 nC), upd_ne hb]; exact a1, a2, fun p' cv hcv => ?_⟩
        obtain ⟨c0, e1, e2⟩ := a3 p' cv hcv
        exact ⟨c0, e1, hE _ _ e2 codeO_ne⟩
    · have n1 : h'.objs.size ≠ c' := Nat.ne_of_gt hlt
      have n2 : h'.objs.size ≠ P := Nat.ne_of_gt (Nat.lt_of_lt_of_le (Heap.lt_size hP') hsz)
      rw [upd_ne n1, upd_ne n2]
      exact I.hok.fresh hsz
  | some cv =>
    obtain ⟨c', e, hco⟩ := ha pos cv hc
    subst e
    refine PySem.W.kla_makeFunctionHit (mg := X.mg) (c := c) (P := P) (ps := ps) (closure_ok hfree) I.ok.glob (I.mod.glob.keeps I.bk) hcode (TB.code.keeps I.bk) hP' ht hc bP fun ctv h' tk hx hsz => ?_
    have I1 : Inv X pins σ H { s with heap := h'.push (PySem.W.kla_obj "<lambda>" (X.env.qual ++ "<lambda>") params body scope (cloFrom X.env.cells scope.names []) ((X.mg "__name__").getD .none) c' ctv), toks := tk } := I.kept fun b o e => Heap.get?_push_of_some _ (hx b o e)
    exact h h'.objs.size c' ((X.mg "__name__").getD .none) ctv H _ I1 (ExtN.refl H) (fun _ _ _ => rfl) hT (Heap.get?_push_size _ rfl) (I.hok.fresh hsz) (nofr _ hsz) hco
def tLam3 (T : List (Addr × Str)) (P : Addr) (TT : (XK → Hp → VK → Prop) → Hp → VK → Prop) (t : XK → TE) : TE := fun σ H Q => Tabs T H ∧ ∀ H1, ExtN H H1 → (∀ b, b ≠ P → H b ≠ none → H1 b = H b) → Tabs T H1 → TT (fun E H' Q' => t E σ H' Q') H1 Q
theorem pe_lamcall3 {T : List (Addr × Str)} {TT : (XK → Hp → VK → Prop) → Hp → VK → Prop} {x a : Str} {g c P : Addr} {k : Nat} {pg : Arguments} {bg : List Stmt} {sg : Scope} {dV kV doc pm cdv ct oc : Value} {an od : Option Addr} {osl : Array (Option Value)} {Ng : List Str}
    {params : Arguments} {body : Expr} {scope : Scope} {t : XK → TE} {p lpos pos : Pos} (hg : Gl X x) (hm : X.mg x = some (.ref g)) (hk : PySem.W.keepIn X.K (.ref g) = true)
    (lk : X.K.lookup g = some ⟨oc, od, .func (PySem.W.fnOf x x pg bg sg dV kV doc pm an cdv ct), osl⟩) (hcg : PySem.W.codeIn X.K cdv x = true) (hb : L2.Binds X.K (PySem.W.fnOf x x pg bg sg dV kV doc pm an cdv ct) [a] []) (Sg : FnScope Ng [a] sg) (hNg : Ng[0]? = some a) (hva : Vis sg a)
    (hG : GivesTo X Ng x sg g cdv bg a (X.env.qual ++ "<lambda>") TT)
    (TB : TabB X.base X.mg c P) (hcode : X.env.code = .ref c) (hmT : (P, X.env.qual ++ "<lambda>") ∈ T) (hu : ∀ p ∈ T, p.1 = P → p.2 = X.env.qual ++ "<lambda>") (hr : Room (k + 2) X.A) (L : LamS X.env.scope scope) (hdef : defaultsOf params X.env = ([], []))
    (hbind : ∀ (q : Str) (cl : List (Str × Addr)) (pm cv ctv : Value), bindArgs (PySem.W.kla_fn "<lambda>" q params body scope cl pm cv ctv) ⟨[], []⟩ = pure [])
    (hbody : ∀ (A : Around) (outer : List Env) (s : Shared) (H : Hp) (E : XK) (f c' : Addr), Room k (A.deeper (lamEnv X scope s.heap.objs.size f c')) → PE (lamCx X A outer s H E scope f c') body (t E))
    (hdb : (x == ("__debug__" : Str)) = false := by decide) (hd : (a == ("__debug__" : Str)) = false := by decide) (hcd : (a == ("__classdict__" : Str)) = false := by decide) :
    PE X (.Call (.Name x p) [.Lambda params body scope lpos] [] pos) (tLam3 T P TT t) := by
  refine ⟨fun pins s σ H Q I h => ?_⟩
  obtain ⟨hT, h⟩ := h
  refine wpAny_Call_Name_kw (ld_glob I hg hm ?_ hdb)
  refine PySem.W.callWith_K (h₀ := X.base) I.ok.mod.kin hk ?_ (by rfl) (by rfl)
  show wpAny _ _ (spliced ((false, eval (.Lambda params body scope lpos) X.env) :: backTo pos (starEach [] X.env))) _ _ s
  refine Calls.spliced_cons (lam_make3 I TB hcode hmT hu hT hdef (L.has I.ok) fun f c' pm' ctv H1 s' I1 eN eD T1 hf hfn hfr hco => ?_)
  refine Calls.spliced_nil ⟨I1.kIn, ?_⟩
  have rc : codeAny (model X.prog X.w) X.A (.call (.ref g) ⟨[.ref f], []⟩) (CR C8.CX0 X.stack X.prog X.w H1 s' Q C8.E0) s' := by
    refine run_ofS (N := Ng) (ps := [a]) (us := [.ref f]) (vs := [.ref f]) lk hcg Sg hr I1.env0 (hb s' [.ref f] I1.kIn rfl) (.cons rfl .nil) rfl fun hr' => ?_
    obtain ⟨t', ht', hq'⟩ := hG f c' s' H1 Q (fun E H' Q' => t E σ H' Q') (fun W pn xe E p1 p2 tk hW => pe_act (i := 0) I1 L hf hfn hfr (hbind _ _ _ _ _) tk hW hr' (fun A outer s H hr2 => hbody A outer s H E f c' hr2) hNg hva hd hcd) hco (h H1 eN eD T1)
    exact ⟨t', ht'.nox, hq'⟩
  refine wpAny_call (codeAny_mono rc fun r s2 hq => ?_)
  cases r with
  | error e => exact (show False from hq).elim
  | ok fl =>
    cases fl with
    | ret u => exact I1.after hq
    | next => exact False.elim hq
    | brk => exact False.elim hq
    | cont => exact False.elim hq
end
/-! ### _law_heard's body -/
/-- the class of the error, its base V -/
structure HeardTxt (K : PySem.W.Frag) (mg : Str → Option Value) (C V : Addr) : Prop where
  gC : mg "BadArgument" = some (.ref C)
  gV : mg "VanError" = some (.ref V)
  gI : mg "isinstance" = none
  gE : mg "ValueError" = none
  exC : ExcC K C
  noN : PySem.W.findIn K (.ref C) "name" = some none
  exm : PySem.W.exmOne K (.ref C) (.ref C) = some true
  kV : PySem.W.kitOne K (.ref C) (.ref V) = some true
  kE : PySem.W.kitOne K (.ref C) (.type "ValueError") = some true
theorem call_isD2 {X : Cx} {a : Addr} {cls : Value} {d : Option Addr} {oe : Obj} {pn : List (Addr × Obj)} (hz : Zc cls d oe) (hf : ∃ vs, oe.data = .fields vs) : CallR (X.suite a ((a, oe) :: pn)) (.builtin "isinstance") (fun xs H Q => ∃ C dd, cls = .ref C ∧ d = some dd ∧ ExcC X.K C ∧ rIsD X.K C a dd xs H Q) := by
  intro pins s σ H xs us Q I r h
  obtain ⟨C, dd, rfl, rfl, T, h⟩ := h
  exact call_isD T hz hf pins s σ H xs us Q I r h
abbrev heardB (j k1 k2 : Nat) (hds : List ExceptHandler) (p1 p2 p3 p4 p5 p6 p7 p8 p9 p10 p11 p12 p13 p14 p15 p16 p17 p18 p19 p20 p21 p22 : Pos) : List Stmt :=
  [.Try [.Expr (.Call (.Name "ask" p1) [] [] p2) p3] (.ExceptHandler (some (.Name "BadArgument" p4)) (some "e") [.Return (some (.Tuple [.Constant (.str "bad") j p5, .Attribute (.Name "e" p6) "name" p7, .BoolOp .And [.Call (.Name "isinstance" p8) [.Name "e" p9, .Name "VanError" p10] [] p11, .Call (.Name "isinstance" p12) [.Name "e" p13, .Name "ValueError" p14] [] p15] p16] k1 p17)) p18] p19 :: hds) [] [] p20, .Return (some (.Tuple [] k2 p21)) p22]
def TTh (C : Addr) : (XK → Hp → VK → Prop) → Hp → VK → Prop := fun tl H Q =>
  tl (fun cls d H' => cls = .ref C ∧ ∃ dd n, d = some dd ∧ H' dd = some (.xd [(("name" : Str), .str n)]) ∧ ∀ t, H' t = none → Q (.ref t) (upd H' t (.tup [.str "bad", .str n, .bl true]))) H (fun _ H1 => ([] : List V).length ≤ sizeLine ∧ ∀ t, H1 t = none → Q (.ref t) (upd H1 t (.tup [])))
def tsH (K : PySem.W.Frag) (C V0 : Addr) (a : Addr) (cls : Value) (d : Option Addr) : TS := tRet (tTup (tCons (tC (.str "bad")) (tCons (tXf a cls d C "name" (tVar 1)) (tCons (tAndV (tCB ((fun xs H Q => ∃ C dd, cls = .ref C ∧ d = some dd ∧ ExcC K C ∧ rIsD K C a dd xs H Q)) (tCons (tVar 1) (tCons (tC (.ref V0)) tNil))) (tCB ((fun xs H Q => ∃ C dd, cls = .ref C ∧ d = some dd ∧ ExcC K C ∧ rIsD K C a dd xs H Q)) (tCons (tVar 1) (tCons (tC (.ty "ValueError")) tNil)))) tNil))))
theorem heard_gives {X : Cx} {g C V : Addr} {cdg : Value} {sg : Scope} {q : Str} {j k1 k2 : Nat} {hds : List ExceptHandler} {p1 p2 p3 p4 p5 p6 p7 p8 p9 p10 p11 p12 p13 p14 p15 p16 p17 p18 p19 p20 p21 p22 : Pos} (T : HeardTxt X.K X.mg C V) (Sg : FnScope ["ask", "e"] ["ask"] sg)
    (he : sg.names.lookup ("e" : Str) = some .local) (h1 : sg.names.lookup ("BadArgument" : Str) = some .globalImplicit) (h2 : sg.names.lookup ("VanError" : Str) = some .globalImplicit) (h3 : sg.names.lookup ("isinstance" : Str) = some .globalImplicit) (h4 : sg.names.lookup ("ValueError" : Str) = some .globalImplicit) :
    GivesTo X ["ask", "e"] "_law_heard" sg g cdg (heardB j k1 k2 hds p1 p2 p3 p4 p5 p6 p7 p8 p9 p10 p11 p12 p13 p14 p15 p16 p17 p18 p19 p20 p21 p22) "ask" q (TTh C) := by
  intro f c' s H Q tl act hc h
  let Z := (cxOf C8.CX0 X.prog X.w X.K X.mg X.base ["ask", "e"] "_law_heard" sg g cdg X.A X.stack s H C8.E0).nox
  have g1 : Gl Z "BadArgument" := h1
  have xf : XfC X.K C := ⟨T.exC.hg, T.exC.hk, T.exC.hs, T.exC.hd⟩
  refine ⟨_, pss_cons (ps_try_first (X := Z) (c := .ref C) (i := 1) (ts := tsH X.K C V)
      (tb := fun W D σ H => ∃ Ech : XK, (∀ cls d σ' H', Ech cls d H' → W cls d σ' H') ∧ σ[0]? = some (some (.ref f)) ∧ H c' = some (CodeO c' q) ∧ tl Ech H (fun _ H1 => D.nx σ H1))
      rfl rfl Sg.nd rfl he ⟨g1, by decide, .inl T.gC⟩ (fun W pn xe tk _ => ?_)
      (fun a oe cls d pn hz hf => ?_)) (pss_one (ps_ret (pe_tup pa_nil))), ?_⟩
  · refine ⟨fun pins s' σ H' D I h' => ?_⟩
    obtain ⟨Ech, hW, h1, h2, h3⟩ := h'
    have hp := act W pn xe Ech p1 p2 tk hW
    have hq := pss_one (ps_expr (pos := p3) hp)
    exact hq.run pins s' σ H' D I ⟨h1, h2, h3⟩
  · have gi : Gl (Z.suite a ((a, oe) :: pn)) "isinstance" := h3
    have gv : Gl (Z.suite a ((a, oe) :: pn)) "VanError" := h2
    have ge : Gl (Z.suite a ((a, oe) :: pn)) "ValueError" := h4
    have ve : Vis (Z.suite a ((a, oe) :: pn)).env.scope "e" := .inl he
    have pvE : ∀ {q : Pos}, PE (Z.suite a ((a, oe) :: pn)) (.Name "e" q) (tVar 1) := fun {q} => pe_var rfl ve
    exact pss_one (ps_ret (pe_tup (pa_cons pe_str (pa_cons (pe_xf (X := Z) xf T.noN hz hf pvE) (pa_cons (pe_and (pe_callB (call_isD2 (X := Z) hz hf) gi T.gI (by decide +kernel) (pa_cons pvE (pa_cons (pe_glob gv T.gV rfl) pa_nil)))
      (pe_one (pe_callB (call_isD2 (X := Z) hz hf) gi T.gI (by decide +kernel) (pa_cons pvE (pa_cons (pe_bltn (v := .ty "ValueError") ge T.gE PyProof.Rows.Boot.«ValueError» rfl (by decide) (by decide)) pa_nil))))) pa_nil)))))
  · -- the reading
    have st0 : (L2.start ["ask", "e"] [L2.V.ref f])[0]? = some (some (L2.V.ref f)) := rfl
    refine ⟨fun cls d H' => cls = .ref C ∧ ∃ dd n, d = some dd ∧ H' dd = some (.xd [(("name" : Str), .str n)]) ∧ ∀ t, H' t = none → Q (.ref t) (upd H' t (.tup [.str "bad", .str n, .bl true])), ?_, st0, hc, h⟩
    rintro cls d σ' H' ⟨rfl, dd, n, rfl, hd, q2⟩
    refine ⟨T.exm, fun a ha hl => ?_⟩
    have hl : σ'.length = 2 := hl
    have s1 : (σ'.set 1 (some (L2.V.ref a)))[1]? = some (some (L2.V.ref a)) := List.getElem?_set_self (by omega)
    have v1 : ∀ u, RelV (L2.V.ref V) u → u = Value.ref V := fun u r => r
    have v2 : ∀ u, RelV (L2.V.ty "ValueError") u → u = Value.type "ValueError" := fun u r => r
    refine ⟨L2.V.ref a, s1, rfl, rfl, dd, [(("name" : Str), L2.V.str n)], L2.V.str n, rfl, hd, by rw [lookup_put, if_pos rfl], ?_⟩
    refine ⟨L2.V.ref a, s1, C, dd, rfl, rfl, T.exC, L2.V.ref V, _, true, _, rfl, v1, T.kV, hd, true, rfl, ?_⟩
    refine (if_pos rfl).mpr ⟨L2.V.ref a, s1, C, dd, rfl, rfl, T.exC, L2.V.ty "ValueError", _, true, _, rfl, v2, T.kE, hd, ?_⟩
    exact ⟨small_le (show 3 ≤ 1000 by decide), fun t ht => q2 t ht⟩
end DD
set_option maxRecDepth 100000
set_option maxHeartbeats 4000000
/-! SemP: _law_heard(lambda: e) over data; the drawing row. -/
namespace DD
open PySem PySem.Spec PyProof.Rows L2 LamX
/-- own slots are not seen -/
def plainE (ρ : Env') : Env' := ρ.map fun w => match w with
  | some (.own _) => none
  | w => w
theorem plainE_some {ρ : Env'} {i : Nat} {w : W} (h : (plainE ρ)[i]? = some (some w)) : ρ[i]? = some (some w) ∧ ∀ x, w ≠ .own x := by
  unfold plainE at h
  rw [List.getElem?_map] at h
  cases q : ρ[i]? with
  | none => rw [q] at h; cases h
  | some u =>
    rw [q] at h
    have h := Option.some.inj h
    cases u with
    | none => cases h
    | some u =>
      cases u with
      | own x => cases h
      | d x => cases h; exact ⟨rfl, fun x z => by cases z⟩
      | row => cases h; exact ⟨rfl, fun x z => by cases z⟩
theorem tab_ext {p : Par} {H H1 : Hp} {P : Addr} {q : Str} (w : Wd p H) (hP : (P, q) ∈ p.T) (e : ExtN H H1) (d : ∀ b, b ≠ P → H b ≠ none → H1 b = H b) (t : Tabs p.T H1) : Ext p H H1 := by
  obtain ⟨ps, e1, _⟩ := t _ hP
  refine ⟨fun b o h n _ => e b o h n, fun b h => ?_, w.dj, fun P' hP' => ?_, t, ?_⟩
  · by_cases z : b = P
    · rw [z, e1]; simp
    · rw [d b z h]; exact h
  · obtain ⟨ps', e2, q2⟩ := w.g P' hP'
    exact ⟨ps', by rw [d P' (fun z => w.dj P' hP' _ hP z.symm) (by rw [e2]; simp)]; exact e2, q2⟩
  · obtain ⟨⟨i, s, c, e', q'⟩, hs⟩ := w.row
    refine ⟨⟨i, s, c, e _ _ e' (fun ps z => by cases z), q'⟩, ?_⟩
    rcases hs with (hs | ⟨o, hs⟩) | hs
    · exact .inl (.inl (e _ _ hs (fun ps z => by cases z)))
    · exact .inl (.inr ⟨o, e _ _ hs (fun ps z => by cases z)⟩)
    · exact .inr hs
def heardX (Q : D → Prop) : EXn := fun x => match x with
  | .bad n => Q (.tuple [.str "bad", .str n, .bool true])
  | .unread _ _ => False
def wHeard (we : WE) : WE := fun ρ Q _ => ∃ Q0 : D → Prop, (∀ d, Q0 d → Q d) ∧ we (plainE ρ) (fun _ => Q0 (.tuple [])) (heardX Q0)
theorem Par.inn_at {p : Par} {N : Addr → Prop} {H : Hp} {E : XK} {K : PySem.W.Frag} : (p.inn N H E).at K = (p.at K).inn N H E := rfl
structure HeardC (X : Cx) (g : Addr) (C V : Addr) : Prop where
  txt : HeardTxt X.K X.mg C V
  hm : X.mg "_law_heard" = some (.ref g)
  kp : PySem.W.keepIn X.K (.ref g) = true
  fn : ∃ (oc : Value) (od : Option Addr) (osl : Array (Option Value)) (pg : Arguments) (sg : Scope) (dV kV doc pm : Value) (an : Option Addr) (cdv ct : Value) (j k1 k2 : Nat) (hds : List ExceptHandler) (p1 p2 p3 p4 p5 p6 p7 p8 p9 p10 p11 p12 p13 p14 p15 p16 p17 p18 p19 p20 p21 p22 : Pos),
    X.K.lookup g = some ⟨oc, od, .func (PySem.W.fnOf "_law_heard" "_law_heard" pg (heardB j k1 k2 hds p1 p2 p3 p4 p5 p6 p7 p8 p9 p10 p11 p12 p13 p14 p15 p16 p17 p18 p19 p20 p21 p22) sg dV kV doc pm an cdv ct), osl⟩ ∧ PySem.W.codeIn X.K cdv "_law_heard" = true ∧
      L2.Binds X.K (PySem.W.fnOf "_law_heard" "_law_heard" pg (heardB j k1 k2 hds p1 p2 p3 p4 p5 p6 p7 p8 p9 p10 p11 p12 p13 p14 p15 p16 p17 p18 p19 p20 p21 p22) sg dV kV doc pm an cdv ct) ["ask"] [] ∧
      FnScope ["ask", "e"] ["ask"] sg ∧ Vis sg "ask" ∧ sg.names.lookup ("e" : Str) = some .local ∧ sg.names.lookup ("BadArgument" : Str) = some .globalImplicit ∧ sg.names.lookup ("VanError" : Str) = some .globalImplicit ∧ sg.names.lookup ("isinstance" : Str) = some .globalImplicit ∧ sg.names.lookup ("ValueError" : Str) = some .globalImplicit
section
variable {p : Par} {X : Cx} {pos : Pos}
theorem de_heard {g C V c P : Addr} {k : Nat} {params : Arguments} {body : Expr} {scope : Scope} {we : WE} {q lpos : Pos} (Y : HeardC X g C V) (hC : p.cBad = C) (TB : TabB X.base X.mg c P) (hcode : X.env.code = .ref c) (hmT : (P, X.env.qual ++ "<lambda>") ∈ p.T) (hu : ∀ r ∈ p.T, r.1 = P → r.2 = X.env.qual ++ "<lambda>") (hr : Room (k + 2) X.A) (L : LamS X.env.scope scope)
    (mw : MonoE we) (hbody : ∀ (N : Addr → Prop) (H0 : Hp) (A : Around) (outer : List Env) (s : Shared) (H : Hp) (E : XK) (f c' : Addr), Room k (A.deeper (lamEnv X scope s.heap.objs.size f c')) → DE (p.inn N H0 E) (lamCx X A outer s H E scope f c') body we)
    (hdef : defaultsOf params X.env = ([], []) := by rfl) (hbind : ∀ (q : Str) (cl : List (Str × Addr)) (pm cv ctv : Value), bindArgs (PySem.W.kla_fn "<lambda>" q params body scope cl pm cv ctv) ⟨[], []⟩ = pure [] := by intros; rfl) (hg : Gl X "_law_heard" := by rfl) :
    DE p X (.Call (.Name "_law_heard" q) [.Lambda params body scope lpos] [] pos) (wHeard we) := by
  obtain ⟨oc, od, osl, pg, sg, dV, kV, doc, pm, an, cdv, ct, j, k1, k2, hds, p1, p2, p3, p4, p5, p6, p7, p8, p9, p10, p11, p12, p13, p14, p15, p16, p17, p18, p19, p20, p21, p22, lk, hcd, hb, Sg, va, l1, l2, l3, l4, l5⟩ := Y.fn
  -- the body's reading, its parameters left open
  let t : XK → TE := fun E => fun σ H Q => ∃ (N : Addr → Prop) (H0 : Hp), LE ((p.inn N H0 E).at X.K) we σ H Q
  have hb2 : ∀ (A : Around) (outer : List Env) (s : Shared) (H : Hp) (E : XK) (f c' : Addr), Room k (A.deeper (lamEnv X scope s.heap.objs.size f c')) → PE (lamCx X A outer s H E scope f c') body (t E) := fun A outer s H E f c' r =>
    ⟨fun pins s' σ H' Q I ⟨N, H0, ht⟩ => (hbody N H0 A outer s H E f c' r).pe.run pins s' σ H' Q I ht⟩
  refine ⟨pe_use (pe_lamcall3 (T := p.T) (P := P) (t := t) hg Y.hm Y.kp lk hcd hb Sg rfl va (heard_gives Y.txt Sg l1 l2 l3 l4 l5) TB hcode hmT hu hr L hdef hbind hb2) fun σ H Q hk ⟨ρ, O, EX, R, ex, Q0, hq0, hw⟩ => ?_,
    fun ρ Q Q' EX h ⟨Q0, h0, q'⟩ => ⟨Q0, fun d q => h d (h0 d q), q'⟩⟩
  · refine ⟨R.wd.t, fun H1 eN eD T1 => ?_⟩
    have e1 : Ext (p.at X.K) H H1 := tab_ext R.wd hmT eN eD T1
    have R1 := R.ext' e1
    let E1 : XK := fun cls d H' => cls = .ref C ∧ ∃ dd n, d = some dd ∧ H' dd = some (.xd [(("name" : Str), .str n)]) ∧ ∀ t, H' t = none → (Hk X.K (upd H' t (.tup [.str "bad", .str n, .bl true])) → Q (.ref t) (upd H' t (.tup [.str "bad", .str n, .bl true])))
    have lk : Like ((p.inn (NN (p.at X.K) O) H1 E1).at X.K) (p.at X.K) := ⟨rfl, rfl, rfl, rfl, rfl, rfl, rfl, rfl⟩
    show ∃ (N : Addr → Prop) (H0 : Hp), LE ((p.inn N H0 E1).at X.K) we σ H1 _
    have w1 : Wd ((p.inn (NN (p.at X.K) O) H1 E1).at X.K) H1 := e1.wd.like lk.symm
    refine ⟨NN (p.at X.K) O, H1, plainE ρ, noOwn, heardX Q0, ⟨w1, Ext.refl w1, by unfold plainE; rw [List.length_map]; exact R.len, fun i w hi => ?_, fun i j a h _ => (by cases h), fun x hx => (by cases hx), fun i a h => (by cases h)⟩, fun x cls dd H' h1 h2 h3 => ?_, mw _ _ _ _ (fun d q v H' hk' e' r => ?_) hw⟩
    · obtain ⟨hi1, hi2⟩ := plainE_some hi
      have hs := R1.slot i w hi1
      cases w with
      | d x =>
        obtain ⟨v, e1, e2⟩ := hs
        exact ⟨v, e1, RepV.keep ⟨fun a n _ => ⟨.inl n, n.2.1, fun i z => by cases z⟩, fun _ _ _ e _ => e, fun _ _ e => e, fun _ _ _ e => e⟩ x v e2⟩
      | own x => exact absurd rfl (hi2 x)
      | row => exact hs
    · cases x with
      | unread o y => exact h1.elim
      | bad n =>
        obtain ⟨rfl, d, rfl, hd⟩ := h3
        refine ⟨by show Value.ref p.cBad = _; rw [hC], d, n, rfl, hd, fun t ht hk' => ?_⟩
        have e2 : Ext (p.at X.K) H H' := e1.trans (h2.like lk)
        exact tup_new (p := p.at X.K) (q := hq0 _ h1) e2 (fun a ha => R.fresh0 ha) ht (rall_cons rep_str (rall_cons rep_str (rall_cons rep_bool rall_nil))) hk'
    · refine ⟨Nat.zero_le _, fun t ht hk2 => ?_⟩
      exact tup_new (p := p.at X.K) (q := hq0 _ q) (e1.trans (e'.like lk)) (fun a ha => R.fresh0 ha) ht rall_nil hk2
end
end DD
set_option maxRecDepth 100000
set_option maxHeartbeats 2000000
/-! SemQ: helpers of the printed derivations: known defs, parts, lambdas, list.index, True/False by is. -/
namespace DD
open PySem PySem.Spec PyProof.Rows L2 GenW
theorem boot_len : bootBuiltins "len" = some (.builtin "len") := by rfl
theorem boot_abs : bootBuiltins "abs" = some (.builtin "abs") := by rfl
theorem boot_sum : bootBuiltins "sum" = some (.builtin "sum") := by rfl
theorem boot_max : bootBuiltins "max" = some (.builtin "max") := by rfl
theorem boot_min : bootBuiltins "min" = some (.builtin "min") := by rfl
theorem boot_sorted : bootBuiltins "sorted" = some (.builtin "sorted") := by rfl
theorem boot_int : bootBuiltins "int" = some (.type "int") := by rfl
theorem boot_bool : bootBuiltins "bool" = some (.type "bool") := by rfl
theorem boot_str : bootBuiltins "str" = some (.type "str") := by rfl
theorem boot_list : bootBuiltins "list" = some (.type "list") := by rfl
theorem boot_tuple : bootBuiltins "tuple" = some (.type "tuple") := by rfl
theorem boot_dict : bootBuiltins "dict" = some (.type "dict") := by rfl
theorem hu65 {k : Nat} {A : Around} (r : Room k A) : A.units + 65 < cLine := by have := r.un; omega
section
variable {p S : Par} {X : Cx} {pos : Pos} {tg e a b c elt iter : Expr} {es ifs : List Expr}
/-! ### is True, is False -/
def gIsB (neg : Bool) : G2
  | .bool i, .bool j, Q => Q (if neg then !decide (i = j) else decide (i = j))
  | _, _, _ => False
theorem mono_IsB {neg : Bool} : ∀ a b, M0 (gIsB neg a b) := fun a b Q Q' h q => by
  cases a <;> cases b <;> first | exact q.elim | exact h _ q
theorem c_isB : Cmp2 p (gIsB false) (fun x y H Q => ∃ a b, x = .bl a ∧ y = .bl b ∧ Q (.bl (decide (a = b))) H) :=
  ⟨fun O H x y a b Qb Q ok rx ry h q => by
    cases a with
    | bool i =>
      cases b with
      | bool j => exact ⟨i, j, rx.bool, ry.bool, q _ h⟩
      | _ => exact h.elim
    | _ => exact h.elim, mono_IsB⟩
theorem c_notB : Cmp2 p (gIsB true) (fun x y H Q => ∃ a b, x = .bl a ∧ y = .bl b ∧ Q (.bl (!decide (a = b))) H) :=
  ⟨fun O H x y a b Qb Q ok rx ry h q => by
    cases a with
    | bool i =>
      cases b with
      | bool j => exact ⟨i, j, rx.bool, ry.bool, q _ h⟩
      | _ => exact h.elim
    | _ => exact h.elim, mono_IsB⟩
/-! ### known defs -/
structure Cal (P : Program) (w0 : World) (K : PySem.W.Frag) (mg : Str → Option Value) (base : Heap) (S : Par) (k : Nat) (x : Str) (ps : List Str) (f : FD) : Prop where
  ok : ∃ (g : Addr) (fd : FuncData), FnOk P w0 K mg base (L2.CX P w0) k g fd ps (SpD S f) ∧ mg x = some (.ref g) ∧ PySem.W.keepIn K (.ref g) = true ∧ Binds K fd ps []
  mono : MonoF f
theorem Cal.lift {P : Program} {w0 : World} {K : PySem.W.Frag} {mg : Str → Option Value} {base : Heap} {S : Par} {j k : Nat} {x : Str} {ps : List Str} {f : FD} (C : Cal P w0 K mg base S j x ps f) (h : j ≤ k) : Cal P w0 K mg base S k x ps f := by
  obtain ⟨⟨g, fd, h1, h2⟩, m⟩ := C
  exact ⟨⟨g, fd, h1.mono h, h2⟩, m⟩
theorem de_callC {f : FD} {x : Str} {ps : List Str} {k j : Nat} {ww : WW} {q : Pos} (C : Cal X.prog X.w X.K X.mg X.base S k x ps f) (lk : Like (p.at X.K) S) (hr : Room j X.A) (hx : XP p X)
    (ha : DWs p X (e :: es) ww) (hkj : k ≤ j := by first | decide | omega) (hg : Gl X x := by rfl) (hdb : (x == ("__debug__" : Str)) = false := by decide) (he : starEach (e :: es) X.env = (false, eval e X.env) :: starEach es X.env := by rfl) (hpl : (backTo pos (starEach es X.env)).any (·.1) = false := by rfl) :
    DE p X (.Call (.Name x q) (e :: es) [] pos) (wCall f ww) := by
  obtain ⟨⟨g, fd, h1, h2, h3, h4⟩, m⟩ := C
  exact de_call h1 m lk (hr.mono hkj) h2 h3 h4 hx ha hg hdb he hpl
theorem de_callC0 {f : FD} {x : Str} {ps : List Str} {k j : Nat} {q : Pos} (C : Cal X.prog X.w X.K X.mg X.base S k x ps f) (lk : Like (p.at X.K) S) (hr : Room j X.A) (hx : XP p X) (hkj : k ≤ j := by first | decide | omega) (hg : Gl X x := by rfl) (hdb : (x == ("__debug__" : Str)) = false := by decide) :
    DE p X (.Call (.Name x q) [] [] pos) (wCall f wwNil) := by
  obtain ⟨⟨g, fd, h1, h2, h3, h4⟩, m⟩ := C
  exact de_call0 h1 m lk (hr.mono hkj) h2 h3 h4 hx hg hdb
/-- a def of the text that keeps a promise -/
theorem cal_of {P : Program} {w0 : World} {K : PySem.W.Frag} {mg : Str → Option Value} {base : Heap} {k : Nat} {x qual : Str} {st : Stmt} {f : Addr} {fd : FuncData} {cdv : Value} {ps : List Str} {fw fs : FD} (F : FunC K x qual st f fd cdv) (hm : mg x = some (.ref f)) (hb : Binds K fd ps [])
    (h : FnOk P w0 K mg base (L2.CX P w0) k f fd ps (SpD S fw)) (m : MonoF fs) (imp : ∀ ws Q EX, fs ws Q EX → fw ws Q EX) : Cal P w0 K mg base S k x ps fs :=
  ⟨⟨f, fd, h.imp fun vs H Q E ⟨N, ws, EX, h1, h2, h3, h4, h5⟩ => ⟨N, ws, EX, h1, h2, h3, imp _ _ _ h4, h5⟩, hm, F.kp, hb⟩, m⟩
/-! ### parts -/
theorem lp {scope : Scope} {own : List (Str × Nat)} {ix : List Nat} {wi : WI} {g : WG} {t : WT} {we : WE} (nd : X.N.Nodup) (lk : Like (p.at X.K) S) (hi : DI true p X tg iter wi)
    (hg : ∀ (s : Shared) (H : Hp) (C : Addr) (cl : List (Str × Addr)) (fp : List Addr), DG p.nox (X.blk s H scope (compEnvC scope cl C X.env) fp) tg ix g)
    (ht : ∀ (s : Shared) (H : Hp) (C : Addr) (cl : List (Str × Addr)) (fp : List Addr), XP p.nox (X.blk s H scope (compEnvC scope cl C X.env) fp) → Like (p.nox.at X.K) S → DTs p.nox (X.blk s H scope (compEnvC scope cl C X.env) fp) ifs t)
    (he : ∀ (s : Shared) (H : Hp) (C : Addr) (cl : List (Str × Addr)) (fp : List Addr), XP p.nox (X.blk s H scope (compEnvC scope cl C X.env) fp) → Like (p.nox.at X.K) S → DE p.nox (X.blk s H scope (compEnvC scope cl C X.env) fp) elt we)
    (hb : blkC X.N X.env.scope scope own = true := by first | decide +kernel | kernel_rfl) (hix : ix.all (fun i => (own.map (·.2)).contains i) = true := by decide) (hc : X.calm = true := by rfl) (hs : ∀ x, foldedSetIterable iter X.env x = pure x := by intro _; rfl) : LParts p X elt tg iter ifs scope own wi g t we :=
  ⟨hc, nd, hi, blkOk_by hb, ⟨ix, fun i h => by simpa using List.all_eq_true.mp hix i h, hg⟩, fun s H C cl fp => ht s H C cl fp xp_nox lk.nox, fun s H C cl fp => he s H C cl fp xp_nox lk.nox, hs⟩
theorem gok_by {scope : Scope} (h : (!scope.isCoroutine && scope.names.all (fun y => !decide (y.2 = .cell)) && decide (scope.names.lookup (".0" : Str) = some NameKind.local)) = true) : GX.GOk scope := by
  simp only [Bool.and_eq_true, Bool.not_eq_true', decide_eq_true_eq, decide_eq_false_iff_not, List.all_eq_true] at h
  exact ⟨h.1.1, h.1.2, h.2⟩
theorem tabG {base : Heap} {mg : Str → Option Value} {c P : Addr} (h : LamX.TabB base mg c P) : GxR.TabB base mg c P := ⟨h.code, h.bm, h.gP⟩
theorem gp {k : Nat} {scope : Scope} {own : List (Str × Nat)} {ix : List Nat} {cc P : Addr} {wi : WI} {g : WG} {t : WT} {we : WE} (nd : X.N.Nodup) (lk : Like (p.at X.K) S) (tb : LamX.TabB X.base X.mg cc P) (hP : P ∈ S.G) (hr : Room (k + 2) X.A) (hi : DI true p X tg iter wi)
    (hg : ∀ (A : Around) (s : Shared) (H : Hp) (C : Addr) (code : Value) (fp : List Addr) (pn : List (Addr × Obj)), DG p.nox (GX.gcx X A s H (GX.genv X scope C code) fp pn) tg ix g)
    (ht : ∀ (A : Around) (s : Shared) (H : Hp) (C : Addr) (code : Value) (fp : List Addr) (pn : List (Addr × Obj)), Room k A → XP p.nox (GX.gcx X A s H (GX.genv X scope C code) fp pn) → Like (p.nox.at X.K) S → DTs p.nox (GX.gcx X A s H (GX.genv X scope C code) fp pn) ifs t)
    (he : ∀ (A : Around) (s : Shared) (H : Hp) (C : Addr) (code : Value) (fp : List Addr) (pn : List (Addr × Obj)), Room k A → XP p.nox (GX.gcx X A s H (GX.genv X scope C code) fp pn) → Like (p.nox.at X.K) S → DE p.nox (GX.gcx X A s H (GX.genv X scope C code) fp pn) elt we)
    (hcode : X.env.code = .ref cc := by rfl) (hb : blkC X.N X.env.scope scope own = true := by first | decide +kernel | kernel_rfl) (hgk : (!scope.isCoroutine && scope.names.all (fun y => !decide (y.2 = .cell)) && decide (scope.names.lookup (".0" : Str) = some NameKind.local)) = true := by decide +kernel) (hix : ix.all (fun i => (own.map (·.2)).contains i) = true := by decide) (hc : X.calm = true := by rfl) (hs : ∀ v, genFold iter X.env v = pure v := by intro _; rfl) : GpD p X k elt tg iter ifs scope own cc P wi g t we :=
  ⟨hr, tabG tb, by have := lk.G; rw [show p.G = S.G from this]; exact hP, hcode, nd, hc, hi, blkOk_by hb, gok_by hgk, ⟨ix, fun i h => by simpa using List.all_eq_true.mp hix i h, fun A s H C code fp pn _ => hg A s H C code fp pn⟩,
    fun A s H C code fp pn r => ht A s H C code fp pn r xp_nox lk.nox, fun A s H C code fp pn r => he A s H C code fp pn r xp_nox lk.nox, hs⟩
theorem Like.inn2 {N : Addr → Prop} {H : Hp} {E : XK} {K : PySem.W.Frag} (h : Like (p.at K) S) : Like ((p.inn N H E).at K) S := ⟨h.K, h.T, h.G, h.r, h.scr, h.ns, h.b, h.u⟩
/-- _law_heard(lambda: e) -/
theorem hd {g C V cc P : Addr} {k : Nat} {params : Arguments} {body : Expr} {scope : Scope} {we : WE} {q lpos : Pos} (Y : HeardC X g C V) (hC : S.cBad = C) (TB : LamX.TabB X.base X.mg cc P) (lk : Like (p.at X.K) S) (hmT : (P, X.env.qual ++ "<lambda>") ∈ S.T) (hu : ∀ r ∈ S.T, r.1 = P → r.2 = X.env.qual ++ "<lambda>") (hr : Room (k + 2) X.A)
    (hbody : ∀ (N : Addr → Prop) (H0 : Hp) (A : Around) (outer : List Env) (s : Shared) (H : Hp) (E : XK) (f c' : Addr), Room k (A.deeper (LamX.lamEnv X scope s.heap.objs.size f c')) → XP (p.inn N H0 E) (LamX.lamCx X A outer s H E scope f c') → Like ((p.inn N H0 E).at X.K) S → DE (p.inn N H0 E) (LamX.lamCx X A outer s H E scope f c') body we)
    (hcode : X.env.code = .ref cc := by rfl) (L : LamX.lamSB X.env.scope scope = true := by first | decide +kernel | kernel_rfl)
    (hdef : defaultsOf params X.env = ([], []) := by rfl) (hbind : ∀ (q : Str) (cl : List (Str × Addr)) (pm cv ctv : Value), bindArgs (PySem.W.kla_fn "<lambda>" q params body scope cl pm cv ctv) ⟨[], []⟩ = pure [] := by intros; rfl) (hg : Gl X "_law_heard" := by rfl) :
    DE p X (.Call (.Name "_law_heard" q) [.Lambda params body scope lpos] [] pos) (wHeard we) := by
  have hb : ∀ (N : Addr → Prop) (H0 : Hp) (A : Around) (outer : List Env) (s : Shared) (H : Hp) (E : XK) (f c' : Addr), Room k (A.deeper (LamX.lamEnv X scope s.heap.objs.size f c')) → DE (p.inn N H0 E) (LamX.lamCx X A outer s H E scope f c') body we :=
    fun N H0 A outer s H E f c' r => hbody N H0 A outer s H E f c' r (xp_of (takes_of (E := E) rfl rfl rfl rfl)) lk.inn2
  refine de_heard (p := p) Y (by rw [← hC]; exact lk.b) TB hcode (by rw [show p.T = S.T from lk.T]; exact hmT) (by rw [show p.T = S.T from lk.T]; exact hu) hr (LamX.lamS_by L) ?_ hb hdef hbind hg
  exact (hb (fun _ => True) X.H_0 X.A [] X.s_0 X.H_0 (fun _ _ _ => False) 0 0 ((hr.mono (j := k + 1) (by omega)).deeper _)).mono
/-! ### list.index -/
/-- the first place -/
def firstAt (ds : List D) (d : D) : Option Nat := ds.findIdx? fun z => PyData.eqv z d
def wIndex (wa wb : WE) : WE := fun ρ Q EX => wa ρ (fun a => ∃ ds, a = .list ds ∧ SeqAt.shaped (.list ds) = true ∧ wb ρ (fun b => SeqAt.shaped b = true ∧ ∃ j, firstAt ds b = some j ∧ Q (.int (j : Nat))) EX) EX
theorem de_index {wa wb : WE} {apos : Pos} (hu : X.A.units + 65 < cLine) (ha : DB p X a wa) (hb : DB p X b wb) (hbase : attributeBase a "index" X.env (eval a X.env) = eval a X.env := by rfl)
    (hfew : ((backTo pos (starEach (b :: []) X.env)).all (fun x => !x.1) && (backToKw pos (keywordEach [] X.env)).all (fun x => x.1.isSome)
      && decide ((b :: ([] : List Expr)).length + ([] : List Keyword).length + (if ([] : List Keyword).isEmpty then 0 else 1) < 30)) = true := by rfl)
    (hline : (apos.endLine == pos.line) = true := by rfl) (hs : starEach (b :: []) X.env = (false, eval b X.env) :: starEach [] X.env := by rfl) (hplain : (backTo pos (starEach [] X.env)).any (·.1) = false := by rfl) : DE p X (.Call (.Attribute a "index" apos) [b] [] pos) (wIndex wa wb) := by
  refine ⟨pe_use (pe_bm PySem.F.plainAttrs_list PySem.F.slot_list_index PySem.F.type_list_index (mt_indexD hu) ha.pe (pa_cons hb.pe pa_nil hs) hbase hfew hline hs hplain) fun σ H Q hk ⟨ρ, O, EX, R, ex, hw⟩ => ?_, fun ρ Q Q' EX h q => ha.mono _ _ _ _ (fun a ⟨ds, h1, h2, q⟩ => ⟨ds, h1, h2, hb.mono _ _ _ _ (fun b ⟨h3, j, h4, q⟩ => ⟨h3, j, h4, h _ q⟩) q⟩) q⟩
  refine ⟨ρ, O, EX, R, ex, ha.mono _ _ _ _ (fun da ⟨ds, z, sl, q⟩ v H1 hk1 e1 r1 => ?_) hw⟩
  subst z
  obtain ⟨l, vs, rfl, hl, h1, r0⟩ := r1.list
  refine ⟨.inl ⟨rfl, _, SqL.of h1⟩, ρ, O, EX, R.ext' e1, ex, hb.mono _ _ _ _ (fun db ⟨sb, j, hj, q⟩ y H2 hk2 e2 r2 => ?_) q⟩
  have rl := r1.ext e1.wd e2
  obtain ⟨hj1, hj2, hj3⟩ := List.findIdx?_eq_some_iff_getElem.mp hj
  refine ⟨l, y, db, ds, j, ds[j], rfl, rfl, rl.dp (SeqAt.canLay_of_shaped sl), r2.dp (SeqAt.canLay_of_shaped sb), sl, sb, List.getElem?_eq_getElem hj1, hj2, fun m z' hm hz => ?_, fun hk4 => q _ H2 hk2 (e1.trans e2) rep_int⟩
  obtain ⟨hm1, rfl⟩ := List.getElem?_eq_some_iff.mp hz
  simpa using hj3 m hm
end
end DD
set_option maxRecDepth 100000
set_option maxHeartbeats 2000000
/-! SemR: the drawing of a number from the script's row. -/
namespace DD
open PySem PySem.Spec PyProof.Rows L2 GenW
abbrev rwGt : R2 := rI0 fun i j => .bl (decide (j < i))
abbrev rwGe : R2 := rI0 fun i j => .bl (decide (j ≤ i))
abbrev rwAdd : R2 := rI0 fun i j => .int (i + j)
abbrev rwSub : R2 := rI0 fun i j => .int (i - j)
abbrev rwMul : R2 := rI CMul fun i j => .int (i * j)
abbrev rwMod : R2 := rI (fun _ j => 0 < j) fun i j => .int (i % j)
abbrev rwDiv : R2 := rI CDivW fun i j => .int (i / j)
abbrev rwPow : R2 := rI CPow fun i j => .int (i ^ j.toNat)
abbrev rwInt : List V → Hp → VK → Prop := fun xs H Q => (∃ i, xs = [.int i] ∧ Q (.int i) H) ∨ ∃ k, xs = [.bl k] ∧ Q (.int (if k then 1 else 0)) H
abbrev rwLen (K : PySem.W.Frag) : List V → Hp → VK → Prop := fun xs H Q => ∃ x n, xs = [x] ∧ LenV K x H n ∧ Q (.int n) H
abbrev tIxR (K : PySem.W.Frag) (k : Int) : TE := tOp (rIxL K) (tVar 0) (tC (.int k))
abbrev tPutR (k : Int) (te : TE) : TS := tAsg te (gSub (tVar 0) (tC (.int k)) rSetL)
abbrev tIntR (te : TE) : TE := tCB rwInt (tCons te tNil)
def t_taken (K : PySem.W.Frag) : TS :=
  tSeq (tIfS (tTest (tOp rwGt (tIxR K 3) (tC (.int 0))))
    (tSeq (tAsg (tOp rwMod (tIntR (tIxR K 3)) (tVar 1)) (gName 2)) (tSeq (tPutR 3 (tOp rwDiv (tIxR K 3) (tVar 1))) (tRet (tVar 2)))) tNext)
  (tSeq (tPutR 1 (tOp rwAdd (tIxR K 1) (tC (.int 1))))
  (tSeq (tIfS (tTest (tOp rwGt (tIxR K 1) (tCB (rwLen K) (tCons (tIxR K 0) tNil))))
    (tSeq (tPutR 2 (tOp rwMod (tIntR (tOp rwAdd (tOp rwMul (tIxR K 2) (tC (.int 48271))) (tC (.int 11)))) (tC (.int 2147483647)))) (tRet (tOp rwMod (tIntR (tOp rwDiv (tIxR K 2) (tC (.int 7)))) (tVar 1)))) tNext)
  (tSeq (tAsg (tOp (rIxL K) (tIxR K 0) (tOp rwSub (tIxR K 1) (tC (.int 1)))) (gName 3))
  (tSeq (tPutR 2 (tOp rwMod (tIntR (tOp rwAdd (tOp rwAdd (tOp rwMul (tIxR K 2) (tC (.int 48271))) (tVar 3)) (tC (.int 11)))) (tC (.int 2147483647))))
  (tSeq (tIfS (tTest (tOp rwGe (tVar 3) (tOp rwPow (tC (.int 10)) (tC (.int 18))))) (tPutR 3 (tOp rwDiv (tVar 3) (tVar 1))) tNext)
    (tRet (tOp rwMod (tIntR (tVar 3)) (tVar 1))))))))
/-- some number below n -/
def _law_taken_s : FD := fun ws Q _ => ∃ n : Int, ws = [.row, .d (.int n)] ∧ 0 < n ∧ n < 2 ^ 64 ∧ ∀ r : Int, 0 ≤ r → r < n → Q (.int r)
theorem mono__law_taken : MonoF _law_taken_s := fun ws Q Q' EX h ⟨n, e, h1, h2, q⟩ => ⟨n, e, h1, h2, fun r a b => h _ (q r a b)⟩
section
variable {S : Par}
abbrev rowL (scr : Addr) (i s c : Int) : HO := .lst [.ref scr, .int i, .int s, .int c]
theorem Ext.row {H : Hp} {i s c : Int} (w : Wd S H) (hi : 0 ≤ i) (hs : 0 ≤ s ∧ s < 2147483647) (hc : 0 ≤ c) : Ext S H (upd H S.r (rowL S.scr i s c)) := by
  obtain ⟨⟨i0, s0, c0, e0, q0⟩, hsc⟩ := w.row
  refine ⟨fun b o e n m => by rw [upd_ne m]; exact e, fun b e => ?_, w.dj, fun P hP => ?_, fun P hP => ?_, ⟨i, s, c, by unfold L2.upd; rw [if_pos rfl], hi, hs.1, hs.2, hc⟩, ?_⟩
  · by_cases z : b = S.r
    · rw [z]; unfold L2.upd; rw [if_pos rfl]; simp
    · rw [upd_ne z]; exact e
  · obtain ⟨ps, e, q⟩ := w.g P hP
    exact ⟨ps, by rw [upd_ne (fun z => by rw [z, e0] at e; cases e)]; exact e, q⟩
  · obtain ⟨ps, e, q, q2⟩ := w.t P hP
    refine ⟨ps, by rw [upd_ne (fun z => by rw [z, e0] at e; cases e)]; exact e, q, fun pos cv hc => ?_⟩
    obtain ⟨c, e1, e2⟩ := q2 pos cv hc
    exact ⟨c, e1, by rw [upd_ne (fun z => by rw [z, e0] at e2; cases e2)]; exact e2⟩
  · rcases hsc with (hsc | ⟨o, hsc⟩) | hsc
    · refine .inl (.inl ?_)
      rw [upd_ne (fun z => ?_)]; exact hsc
      rw [z, e0] at hsc
      have z2 : [V.ref S.scr, .int i0, .int s0, .int c0] = S.ns.map V.int := by
        injection hsc with h1
        injection h1
      cases q : S.ns with
      | nil => rw [q] at z2; cases z2
      | cons a r => rw [q] at z2; simp at z2
    · refine .inl (.inr ⟨o, ?_⟩)
      rw [upd_ne (fun z => by rw [z, e0] at hsc; cases hsc)]; exact hsc
    · exact .inr hsc
theorem ixR {K : PySem.W.Frag} {σ : L2.St} {H : Hp} {r scr : Addr} {i s c : Int} {k : Int} {v : V} {Q : VK} (hH : H r = some (rowL scr i s c)) (hσ : σ[0]? = some (some (.ref r))) (hv : atI [V.ref scr, .int i, .int s, .int c] k = some v) (q : Q v H) : tIxR K k σ H Q :=
  ⟨.ref r, hσ, r, _, k, v, rfl, rfl, .of hH, hv, q⟩
theorem if_true_of {c : Bool} {A B : Prop} (hc : c = true) (h : A) : if c = true then A else B := by
  rw [if_pos hc]
  exact h
theorem if_false_of {c : Bool} {A B : Prop} (hc : c = false) (h : B) : if c = true then A else B := by
  rw [hc, if_neg Bool.false_ne_true]
  exact h
theorem pow18 : (10 : Int) ^ (18 : Int).toNat = 1000000000000000000 := by decide
theorem log64 {n : Int} (h : 0 < n) (h2 : n < 2 ^ 64) : n.natAbs.log2 < 9000 := by
  have : n.natAbs < 2 ^ 64 := by omega
  have := (Nat.log2_lt (by omega)).mpr this
  omega
theorem pure_taken {vs : List V} {H : Hp} {Q : VK} {E : XK} (h : SpD S _law_taken_s vs H Q E) : t_taken S.K { nx := fun _ H' => Q .non H', rt := Q } (L2.start ["row", "many", "found", "cell"] vs) H := by
  obtain ⟨N, ws, EX, wd, hn, hp, ⟨n, rfl, n0, n1, q⟩, _⟩ := h
  cases hp with
  | cons r1 hp =>
    cases hp with
    | cons r2 hp =>
      cases hp
      rename_i v1 v2
      have e1 : v1 = .ref S.r := r1
      have e2 : v2 = .int n := (by
        have r2 : RepV S.K N H v2 (.int n) := r2
        rw [RepV] at r2; exact r2)
      subst e1 e2
      obtain ⟨⟨i, s, c, hr, i0, s0, s1, c0⟩, hsc⟩ := wd.row
      have fin : ∀ (z : Int) (H' : Hp), Ext S H H' → Q (.int (z % n)) H' := fun z H' e => q (z % n) (Int.emod_nonneg z (by omega)) (Int.emod_lt_of_pos z n0) _ H' e rep_int
      -- the carry
      refine ixR hr rfl rfl ⟨c, 0, rfl, rfl, _, rfl, ?_⟩
      by_cases hc : 0 < c
      · refine if_true_of (decide_eq_true hc) ?_
        refine ixR hr rfl rfl (.inl ⟨c, rfl, ⟨_, rfl, c, n, rfl, rfl, n0, ?_⟩⟩)
        refine ixR hr rfl rfl ⟨_, rfl, c, n, rfl, rfl, ⟨n0, log64 n0 n1⟩, ?_⟩
        refine ⟨_, rfl, _, _, 3, 3, rfl, rfl, hr, rfl, ?_⟩
        exact ⟨_, rfl, fin c _ (Ext.row wd i0 ⟨s0, s1⟩ (Int.ediv_nonneg c0 (by omega)))⟩
      · refine if_false_of (decide_eq_false hc) ?_
        refine ixR hr rfl rfl ⟨i, 1, rfl, rfl, ?_⟩
        refine ⟨_, rfl, _, _, 1, 1, rfl, rfl, hr, rfl, ?_⟩
        have e1 : Ext S H (upd H S.r (rowL S.scr (i + 1) s c)) := Ext.row wd (by omega) ⟨s0, s1⟩ c0
        have hr1 : (upd H S.r (rowL S.scr (i + 1) s c)) S.r = some (rowL S.scr (i + 1) s c) := by unfold L2.upd; rw [if_pos rfl]
        have hs1 := e1.wd.row.2
        show tSeq _ _ _ _ (upd H S.r (rowL S.scr (i + 1) s c))
        generalize upd H S.r (rowL S.scr (i + 1) s c) = H1 at e1 hr1 hs1 ⊢
        refine ixR hr1 rfl rfl ?_
        refine ixR hr1 rfl rfl ⟨_, _, rfl, .inl ⟨_, hs1, rfl⟩, i + 1, _, rfl, rfl, _, rfl, ?_⟩
        rw [List.length_map]
        by_cases hi : (S.ns.length : Int) < i + 1
        · refine if_true_of (decide_eq_true hi) ?_
          refine ixR hr1 rfl rfl ⟨s, 48271, rfl, rfl, .inr (by decide), _, _, rfl, rfl, .inl ⟨_, rfl, _, _, rfl, rfl, (show (0 : Int) < 2147483647 by decide), ?_⟩⟩
          refine ⟨_, rfl, _, _, 2, 2, rfl, rfl, hr1, rfl, ?_⟩
          have e2 : Ext S H1 (upd H1 S.r (rowL S.scr (i + 1) ((s * 48271 + 11) % 2147483647) c)) := Ext.row e1.wd (by omega) ⟨Int.emod_nonneg _ (by decide), Int.emod_lt_of_pos _ (by decide)⟩ c0
          have hr2 : (upd H1 S.r (rowL S.scr (i + 1) ((s * 48271 + 11) % 2147483647) c)) S.r = some (rowL S.scr (i + 1) ((s * 48271 + 11) % 2147483647) c) := by unfold L2.upd; rw [if_pos rfl]
          exact ixR hr2 rfl rfl ⟨_, 7, rfl, rfl, (show (0 : Int) < 7 ∧ (7 : Int).natAbs.log2 < 9000 from ⟨by decide, log64 (by decide) (by decide)⟩), .inl ⟨_, rfl, ⟨_, rfl, _, n, rfl, rfl, n0, fin _ _ (e1.trans e2)⟩⟩⟩
        · refine if_false_of (decide_eq_false hi) ?_
          obtain ⟨j, hj⟩ : ∃ j : Nat, i = j := ⟨i.toNat, by omega⟩
          subst hj
          have hj2 : j < S.ns.length := by omega
          have hat : atI (S.ns.map V.int) ((j : Int) + 1 - 1) = some (V.int S.ns[j]) := by
            have : ((j : Int) + 1 - 1) = j := by omega
            rw [this]
            unfold atI ixN
            rw [List.length_map]
            simp [hj2]
          refine ixR hr1 rfl rfl (ixR hr1 rfl rfl ⟨_, 1, rfl, rfl, _, _, _, _, rfl, rfl, hs1, hat, ?_⟩)
          generalize S.ns[j] = z
          refine ixR hr1 rfl rfl ⟨s, 48271, rfl, rfl, .inr (by decide), _, rfl, _, _, rfl, rfl, _, _, rfl, rfl, .inl ⟨_, rfl, _, _, rfl, rfl, (show (0 : Int) < 2147483647 by decide), ?_⟩⟩
          refine ⟨_, rfl, _, _, 2, 2, rfl, rfl, hr1, rfl, ?_⟩
          have e2 : Ext S H1 (upd H1 S.r (rowL S.scr ((j : Int) + 1) ((s * 48271 + z + 11) % 2147483647) c)) := Ext.row e1.wd (by omega) ⟨Int.emod_nonneg _ (by decide), Int.emod_lt_of_pos _ (by decide)⟩ c0
          have hr2 : (upd H1 S.r (rowL S.scr ((j : Int) + 1) ((s * 48271 + z + 11) % 2147483647) c)) S.r = some (rowL S.scr ((j : Int) + 1) ((s * 48271 + z + 11) % 2147483647) c) := by unfold L2.upd; rw [if_pos rfl]
          have b2 : 0 ≤ (s * 48271 + z + 11) % 2147483647 ∧ (s * 48271 + z + 11) % 2147483647 < 2147483647 := ⟨Int.emod_nonneg _ (by decide), Int.emod_lt_of_pos _ (by decide)⟩
          show tSeq _ _ _ _ (upd H1 S.r (rowL S.scr ((j : Int) + 1) ((s * 48271 + z + 11) % 2147483647) c))
          generalize (s * 48271 + z + 11) % 2147483647 = s2 at e2 hr2 b2 ⊢
          generalize upd H1 S.r (rowL S.scr ((j : Int) + 1) s2 c) = H2 at e2 hr2 ⊢
          refine ⟨_, rfl, _, _, rfl, rfl, ⟨by decide, by decide, by decide⟩, z, _, rfl, rfl, _, rfl, ?_⟩
          rw [pow18]
          by_cases hz : 1000000000000000000 ≤ z
          · refine if_true_of (decide_eq_true hz) ?_
            refine ⟨_, rfl, _, rfl, z, n, rfl, rfl, ⟨n0, log64 n0 n1⟩, ?_⟩
            refine ⟨_, rfl, _, _, 3, 3, rfl, rfl, hr2, rfl, ?_⟩
            have e3 : Ext S H2 (upd H2 S.r (rowL S.scr ((j : Int) + 1) s2 (z / n))) := Ext.row e2.wd (by omega) b2 (Int.ediv_nonneg (by omega) (by omega))
            exact ⟨_, rfl, .inl ⟨z, rfl, _, rfl, z, n, rfl, rfl, n0, fin z _ ((e1.trans e2).trans e3)⟩⟩
          · refine if_false_of (decide_eq_false hz) ?_
            exact ⟨_, rfl, .inl ⟨z, rfl, _, rfl, z, n, rfl, rfl, n0, fin z _ (e1.trans e2)⟩⟩
end
end DD
set_option maxRecDepth 100000
set_option maxHeartbeats 2000000
/-! SemS: readings evaluated; the drawing of an item, check, alike. -/
namespace DD
open PySem PySem.Spec PyProof.Rows L2 GenW
section
variable {ρ : Env'} {Q : D → Prop} {Qb : Bool → Prop} {EX : EXn} {D0 : EndsW} {w u v : WS} {a b c : WE} {t t2 t3 : WT}
@[simp ↓] theorem ev_C {d : D} : wC d ρ Q EX = Q d := rfl
@[simp ↓] theorem ev_Var {i : Nat} : wVar i ρ Q EX = (match ρ[i]? with | some (some (.d d)) => Q d | _ => False) := rfl
@[simp ↓] theorem ev_Own {i : Nat} : wOwn i ρ Q EX = (match ρ[i]? with | some (some (.own d)) => Q d | _ => False) := rfl
@[simp ↓] theorem ev_Op2 {f : F2} : wOp2 f a b ρ Q EX = a ρ (fun x => b ρ (fun y => f x y Q) EX) EX := rfl
@[simp ↓] theorem ev_OpN {f : FN} {wa : WA} : wOpN f wa ρ Q EX = wa ρ (fun x => f x Q) EX := rfl
@[simp ↓] theorem ev_Cmp2 {g : G2} : wCmp2 g a b ρ Q EX = a ρ (fun x => b ρ (fun y => g x y fun k => Q (.bool k)) EX) EX := rfl
@[simp ↓] theorem ev_Tst2 {g : G2} : wTst2 g a b ρ Qb EX = a ρ (fun x => b ρ (fun y => g x y Qb) EX) EX := rfl
@[simp ↓] theorem ev_Chain {g g' : G2} : wChain g g' a b c ρ Qb EX = a ρ (fun x => b ρ (fun y => g x y fun k => if k = true then c ρ (fun z => g' y z Qb) EX else Qb false) EX) EX := rfl
@[simp ↓] theorem ev_ChainE {g g' : G2} : wChainE g g' a b c ρ Q EX = a ρ (fun x => b ρ (fun y => g x y fun k => if k = true then c ρ (fun z => g' y z fun k => Q (.bool k)) EX else Q (.bool false)) EX) EX := rfl
@[simp ↓] theorem ev_aNil {Q : List D → Prop} : waNil ρ Q EX = Q [] := rfl
@[simp ↓] theorem ev_aCons {r : WA} {Q : List D → Prop} : waCons a r ρ Q EX = a ρ (fun d => r ρ (fun ds => Q (d :: ds)) EX) EX := rfl
@[simp ↓] theorem ev_wNil {Q : List W → Prop} : wwNil ρ Q EX = Q [] := rfl
@[simp ↓] theorem ev_wCons {r : WW} {Q : List W → Prop} : wwCons a r ρ Q EX = a ρ (fun d => r ρ (fun ds => Q (.d d :: ds)) EX) EX := rfl
@[simp ↓] theorem ev_wRow {i : Nat} {r : WW} {Q : List W → Prop} : wwRow i r ρ Q EX = (ρ[i]? = some (some .row) ∧ r ρ (fun ds => Q (.row :: ds)) EX) := rfl
@[simp ↓] theorem ev_Tup {wa : WA} : wTup wa ρ Q EX = wa ρ (fun ds => Q (.tuple ds)) EX := rfl
@[simp ↓] theorem ev_Lst {wa : WA} : wLst wa ρ Q EX = wa ρ (fun ds => Q (.list ds)) EX := rfl
@[simp ↓] theorem ev_Call {f : FD} {ww : WW} : wCall f ww ρ Q EX = ww ρ (fun ws => f ws Q EX) EX := rfl
@[simp ↓] theorem ev_Tru : wTru a ρ Qb EX = a ρ (fun d => truG d Qb) EX := rfl
@[simp ↓] theorem ev_And : wAnd t t2 ρ Qb EX = t ρ (fun c => if c = true then t2 ρ Qb EX else Qb false) EX := rfl
@[simp ↓] theorem ev_Or : wOr t t2 ρ Qb EX = t ρ (fun c => if c = true then Qb true else t2 ρ Qb EX) EX := rfl
@[simp ↓] theorem ev_Not : wNot t ρ Qb EX = t ρ (fun c => Qb (!c)) EX := rfl
@[simp ↓] theorem ev_AndV : wAndV a b ρ Q EX = a ρ (fun d => truG d fun k => if k = true then b ρ Q EX else Q d) EX := rfl
@[simp ↓] theorem ev_OrV : wOrV a b ρ Q EX = a ρ (fun d => truG d fun k => if k = true then Q d else b ρ Q EX) EX := rfl
@[simp ↓] theorem ev_NotV : wNotV a ρ Q EX = a ρ (fun d => truG d fun k => Q (.bool !k)) EX := rfl
@[simp ↓] theorem ev_If : wIf t a b ρ Q EX = t ρ (fun k => if k = true then a ρ Q EX else b ρ Q EX) EX := rfl
@[simp ↓] theorem ev_Neg : wNeg a ρ Q EX = a ρ (fun d => ∃ i, d = .int i ∧ Q (.int (-i))) EX := rfl
@[simp ↓] theorem ev_Isi {T : String} : wIsi T a ρ Q EX = a ρ (fun d => Q (.bool (isTy T d))) EX := rfl
@[simp ↓] theorem ev_Isi2 {S T : String} : wIsi2 S T a ρ Q EX = a ρ (fun d => Q (.bool (isTy S d || isTy T d))) EX := rfl
@[simp ↓] theorem ev_MaxD : wMaxD a b ρ Q EX = a ρ (fun x => b ρ (fun y => ∃ ns, rowD x = some ns ∧ match ns with | [] => Q y | n :: ns => Q (.int (maxI n ns))) EX) EX := rfl
@[simp ↓] theorem ev_oNone {Q : Option Int → Prop} : woNone ρ Q EX = Q none := rfl
@[simp ↓] theorem ev_oSome {Q : Option Int → Prop} : woSome a ρ Q EX = a ρ (fun d => ∃ i, d = .int i ∧ Q (some i)) EX := rfl
@[simp ↓] theorem ev_Cut {wl wh : Env' → (Option Int → Prop) → EXn → Prop} : wCut a wl wh ρ Q EX = a ρ (fun d => wl ρ (fun lo => wh ρ (fun hi => aCut lo hi d Q) EX) EX) EX := rfl
@[simp ↓] theorem ev_Rev : wRev a ρ Q EX = a ρ (fun d => ∃ xs, d = .list xs ∧ Q (.list xs.reverse)) EX := rfl
@[simp ↓] theorem ev_Lc {wi : WI} {g : WG} {vs : List Nat} : wLc wi g t a vs ρ Q EX = wi ρ (fun ds => wComp g t a (wipeE ρ vs) ds [] Q) EX := rfl
@[simp ↓] theorem ev_Yes : wYes ρ Qb EX = Qb true := rfl
@[simp ↓] theorem ev_iSeq {Q : List D → Prop} : wiSeq a ρ Q EX = a ρ (fun d => ∃ ds, seqD d = some ds ∧ Q ds) EX := rfl
@[simp ↓] theorem ev_iRng1 {Q : List D → Prop} : wiRng1 a ρ Q EX = a ρ (fun d => ∃ j, d = .int j ∧ rBnd j ∧ Q (rngD 0 j.toNat)) EX := rfl
@[simp ↓] theorem ev_iRng2 {Q : List D → Prop} : wiRng2 a b ρ Q EX = a ρ (fun d => b ρ (fun d2 => ∃ i j, d = .int i ∧ d2 = .int j ∧ rBnd i ∧ rBnd j ∧ Q (rngD i (j - i).toNat)) EX) EX := rfl
@[simp ↓] theorem ev_iEnum {Q : List D → Prop} : wiEnum a ρ Q EX = a ρ (fun d => ∃ ds, d = .list ds ∧ Q (enumD ds)) EX := rfl
@[simp ↓] theorem ev_iZip {Q : List D → Prop} : wiZip a b ρ Q EX = a ρ (fun d => b ρ (fun d2 => ∃ ds es, ((d = .list ds ∧ d2 = .list es) ∨ (d = .tuple ds ∧ d2 = .tuple es)) ∧ Q (zipD ds es)) EX) EX := rfl
@[simp ↓] theorem ev_gName {i : Nat} {d : D} {Q : Env' → Prop} : wgName i d ρ Q = Q (ρ.set i (some (.d d))) := rfl
@[simp ↓] theorem ev_gNil {Q : Env' → Prop} : wgNil [] ρ Q ↔ Q ρ := ⟨fun h => h.2, fun h => ⟨rfl, h⟩⟩
@[simp ↓] theorem ev_gCons {g : WG} {us : WGs} {d : D} {r : List D} {Q : Env' → Prop} : wgCons g us (d :: r) ρ Q ↔ g d ρ (fun ρ' => us r ρ' Q) := ⟨fun ⟨_, _, e, h⟩ => by cases e; exact h, fun h => ⟨_, _, rfl, h⟩⟩
@[simp ↓] theorem ev_gTup {n : Nat} {us : WGs} {ds : List D} {Q : Env' → Prop} : wgTup n us (.tuple ds) ρ Q ↔ ds.length = n ∧ us ds ρ Q := ⟨fun ⟨_, e, h⟩ => by cases e; exact h, fun h => ⟨_, rfl, h⟩⟩
@[simp ↓] theorem ev_AugS {i : Nat} {f : F2} : wAugS i f a b D0 ρ = ownL ρ i (fun xs => a ρ (fun j => ∃ k m d, j = .int k ∧ ixN xs.length k = some m ∧ xs[m]? = some d ∧ b ρ (fun y => f d y fun z => D0.nx (ρ.set i (some (.own (.list (xs.set m z)))))) D0.ex) D0.ex) := rfl
@[simp ↓] theorem ev_mNil {Q : List Mv → Prop} : wmNil ρ Q EX = Q [] := rfl
@[simp ↓] theorem ev_mD {r : WMv} {Q : List Mv → Prop} : wmD a r ρ Q EX = a ρ (fun d => r ρ (fun ms => Q (.d d :: ms)) EX) EX := rfl
@[simp ↓] theorem ev_mO {r : WMv} {Q : List Mv → Prop} : wmO a r ρ Q EX = a ρ (fun d => r ρ (fun ms => Q (.own d :: ms)) EX) EX := rfl
@[simp ↓] theorem ev_Skip : wSkip D0 ρ = D0.nx ρ := rfl
@[simp ↓] theorem ev_Break : wBreak D0 ρ = D0.bk ρ := rfl
@[simp ↓] theorem ev_Cont : wCont D0 ρ = D0.ct ρ := rfl
@[simp ↓] theorem ev_Seq : wSeq w u D0 ρ = w { D0 with nx := u D0 } ρ := rfl
@[simp ↓] theorem ev_Expr : wExpr a D0 ρ = a ρ (fun _ => D0.nx ρ) D0.ex := rfl
@[simp ↓] theorem ev_Ret : wRet a D0 ρ = a ρ (fun d => D0.rt d) D0.ex := rfl
@[simp ↓] theorem ev_RetN : wRetN D0 ρ = D0.rt .none := rfl
@[simp ↓] theorem ev_IfS : wIfS t u v D0 ρ = t ρ (fun k => if k = true then u D0 ρ else v D0 ρ) D0.ex := rfl
@[simp ↓] theorem ev_Set {i : Nat} : wSet i a D0 ρ = a ρ (fun d => D0.nx (ρ.set i (some (.d d)))) D0.ex := rfl
@[simp ↓] theorem ev_SetO {i : Nat} : wSetO i a D0 ρ = a ρ (fun d => D0.nx (ρ.set i (some (.own d)))) D0.ex := rfl
@[simp ↓] theorem ev_Raise : wRaise a D0 ρ = a ρ (fun d => ∃ n, d = .str n ∧ n.length ≤ 1000 ∧ D0.ex (.bad n)) D0.ex := rfl
@[simp ↓] theorem ev_Frz {i : Nat} : wFrz i w D0 ρ = (match ρ[i]? with | some (some (.own d)) => w D0 (ρ.set i (some (.d d))) | _ => False) := rfl
@[simp ↓] theorem ev_Par {is : List Nat} {m : WMv} : wPar is m D0 ρ = m ρ (fun ms => is.length = ms.length ∧ (∀ i ∈ is, i < ρ.length) ∧ D0.nx (setAll ρ is ms)) D0.ex := rfl
@[simp ↓] theorem ev_Asg {g : WG} : wAsg a g D0 ρ = a ρ (fun d => g d ρ D0.nx) D0.ex := rfl
@[simp ↓] theorem ev_App {i : Nat} : wApp i a D0 ρ = ownL ρ i (fun xs => a ρ (fun d => xs.length < sizeLine ∧ D0.nx (ρ.set i (some (.own (.list (xs ++ [d])))))) D0.ex) := rfl
@[simp ↓] theorem ev_Put {i : Nat} : wPut i a b D0 ρ = ownL ρ i (fun xs => b ρ (fun d => a ρ (fun j => ∃ k m, j = .int k ∧ ixN xs.length k = some m ∧ D0.nx (ρ.set i (some (.own (.list (xs.set m d)))))) D0.ex) D0.ex) := rfl
@[simp ↓] theorem ev_For {wi : WI} {g : WG} : wFor wi g w D0 ρ = wi ρ (fun ds => wLoop g w D0 ds ρ) D0.ex := rfl
@[simp ↓] theorem ev_Gen {β : Type} {wi : WI} {g : WG} {vs : List Nat} {C : (D → Prop) → β → D → (β → Prop) → Prop} {fin : (D → Prop) → β → Prop} {b0 : β} : wGen wi g t a vs C fin b0 ρ Q EX = wi ρ (fun ds => wFold g t a (C Q) (fin Q) (wipeE ρ vs) ds b0) EX := rfl
@[simp ↓] theorem ev_wipe0 : wipeE ρ [] = ρ := rfl
@[simp ↓] theorem ev_wipe1 {i : Nat} {vs : List Nat} : wipeE ρ (i :: vs) = (wipeE ρ vs).set i none := rfl
@[simp ↓] theorem ev_Index : wIndex a b ρ Q EX = a ρ (fun x => ∃ ds, x = .list ds ∧ SeqAt.shaped (.list ds) = true ∧ b ρ (fun y => SeqAt.shaped y = true ∧ ∃ j, firstAt ds y = some j ∧ Q (.int (j : Nat))) EX) EX := rfl
@[simp ↓] theorem ev_Heard : wHeard a ρ Q EX = ∃ Q0 : D → Prop, (∀ d, Q0 d → Q d) ∧ a (plainE ρ) (fun _ => Q0 (.tuple [])) (heardX Q0) := rfl
@[simp ↓] theorem ev_f1 {f : F1} {x : D} : f1 f [x] Q = f x Q := rfl
@[simp ↓] theorem ev_f2 {f : F2} {x y : D} : f2 f [x, y] Q = f x y Q := rfl
@[simp ↓] theorem ev_truB {k : Bool} : truG (.bool k) Qb = Qb k := rfl
@[simp ↓] theorem ev_truI {k : Int} : truG (.int k) Qb = Qb (k != 0) := rfl
end
/-! ### check -/
def check_w : WS := wIfS (wNot (wTru (wVar 0))) (wRaise (wVar 1)) wSkip
def check_s : FD := fun ws Q EX => ∃ (b : Bool) (n : Str), ws = [.d (.bool b), .d (.str n)] ∧ n.length ≤ 1000 ∧ (b = true → Q .none) ∧ (b = false → EX (.bad n))
theorem mono_check : MonoF check_s := fun ws Q Q' EX h ⟨b, n, e, h1, h2, h3⟩ => ⟨b, n, e, h1, fun z => h _ (h2 z), h3⟩
theorem meets_check (ws : List W) (Q : D → Prop) (EX : EXn) (h : check_s ws Q EX) : mkF 2 2 check_w ws Q EX := by
  obtain ⟨b, n, rfl, hn, h1, h2⟩ := h
  refine ⟨rfl, ?_⟩
  cases b <;> simp [check_w, hn, h1, h2]
/-! ### the drawing of an item -/
def _law_pick_w : WS := wRet (wOp2 aIx (wVar 1) (wCall _law_taken_s (wwRow 0 (wwCons (wOpN (f1 aLen) (waCons (wVar 1) waNil)) wwNil))))
def _law_pick_s : FD := fun ws Q _ => ∃ (d : D) (xs : List D), ws = [.row, .d d] ∧ seqD d = some xs ∧ 0 < xs.length ∧ xs.length < 2 ^ 60 ∧ ∀ x ∈ xs, Q x
theorem mono__law_pick : MonoF _law_pick_s := fun ws Q Q' EX h ⟨d, xs, e, h1, h2, h3, q⟩ => ⟨d, xs, e, h1, h2, h3, fun x m => h _ (q x m)⟩
theorem atD_lt {α : Type} {xs : List α} {i : Int} (h0 : 0 ≤ i) (h1 : i < xs.length) : ∃ x ∈ xs, atD xs i = some x := by
  have h2 : i.toNat < xs.length := by omega
  refine ⟨xs[i.toNat], List.getElem_mem _, ?_⟩
  unfold atD ixN
  rw [if_pos h0, if_pos h1]
  simp [h2]
theorem meets__law_pick (ws : List W) (Q : D → Prop) (EX : EXn) (h : _law_pick_s ws Q EX) : mkF 2 2 _law_pick_w ws Q EX := by
  obtain ⟨d, xs, rfl, hd, h0, h1, q⟩ := h
  refine ⟨rfl, ?_⟩
  cases d with
  | list ys =>
    cases hd
    simp only [_law_pick_w, ev_Ret, ev_Op2, ev_Var, ev_Call, ev_wRow, ev_wCons, ev_OpN, ev_aCons, ev_aNil, ev_wNil, ev_f1]
    refine ⟨rfl, _, rfl, by omega, by omega, fun r r0 r1 => ?_⟩
    obtain ⟨x, hx, e⟩ := atD_lt r0 r1
    exact ⟨x, e, q x hx⟩
  | tuple ys =>
    cases hd
    simp only [_law_pick_w, ev_Ret, ev_Op2, ev_Var, ev_Call, ev_wRow, ev_wCons, ev_OpN, ev_aCons, ev_aNil, ev_wNil, ev_f1]
    refine ⟨rfl, _, rfl, by omega, by omega, fun r r0 r1 => ?_⟩
    obtain ⟨x, hx, e⟩ := atD_lt r0 r1
    exact ⟨x, e, q x hx⟩
  | _ => cases hd
end DD
set_option maxRecDepth 100000
set_option maxHeartbeats 2000000
/-! SemT: comprehensions, folds, loops evaluated; alike. -/
namespace DD
open PySem PySem.Spec PyProof.Rows L2 GenW
section
variable {ρ : Env'} {EX : EXn}
/-- each turn of a comprehension computed: none where the test fails -/
theorem comp_eval {g : WG} {t : WT} {we : WE} (f : D → Option D) : ∀ {ds acc : List D} {Q : D → Prop} (h : ∀ d ∈ ds, ∀ R : Option D → Prop, R (f d) → g d ρ fun ρ2 => t ρ2 (fun k => if k = true then we ρ2 (fun y => R (some y)) noX else R none) noX)
    (hl : acc.length + ds.length ≤ sizeLine) (q : Q (.list (acc ++ ds.filterMap f))), wComp g t we ρ ds acc Q
  | [], acc, Q, h, hl, q => by
    have q : Q (.list (acc ++ [])) := q
    rw [List.append_nil] at q
    exact q
  | d :: ds, acc, Q, h, hl, q => by
    rw [List.length_cons] at hl
    have := h d List.mem_cons_self (fun o => match o with | some y => acc.length < sizeLine ∧ wComp g t we ρ ds (acc ++ [y]) Q | none => wComp g t we ρ ds acc Q) (by
      cases e : f d with
      | none => 
        rw [List.filterMap_cons_none e] at q
        exact comp_eval f (fun x m => h x (List.mem_cons_of_mem _ m)) (by omega) q
      | some y =>
        rw [List.filterMap_cons_some e] at q
        refine ⟨by omega, comp_eval f (fun x m => h x (List.mem_cons_of_mem _ m)) (by rw [List.length_append, List.length_singleton]; omega) ?_⟩
        rw [List.append_assoc]
        exact q)
    exact this
/-- without a test -/
theorem comp_map {g : WG} {we : WE} (f : D → D) {ds : List D} {Q : D → Prop} (h : ∀ d ∈ ds, ∀ R : D → Prop, R (f d) → g d ρ fun ρ2 => we ρ2 R noX) (hl : ds.length ≤ sizeLine) (q : Q (.list (ds.map f))) : wComp g wYes we ρ ds [] Q := by
  refine comp_eval (fun d => some (f d)) (fun d m R r => ?_) (by simpa using hl) (by simpa using q)
  have := h d m (fun y => R (some y)) r
  simpa using this
theorem all_eval {g : WG} {we : WE} (f : D → Bool) {Q : D → Prop} : ∀ {ds : List D} (h : ∀ d ∈ ds, ∀ R : D → Prop, R (.bool (f d)) → g d ρ fun ρ2 => we ρ2 R noX) (q : Q (.bool (ds.all f))), wFold g wYes we (cAll Q) (fun _ => Q (.bool true)) ρ ds ()
  | [], h, q => q
  | d :: ds, h, q => by
    have := h d List.mem_cons_self (fun y => cAll Q () y (fun _ => wFold g wYes we (cAll Q) (fun _ => Q (.bool true)) ρ ds ())) (by
      refine ⟨f d, rfl, ?_⟩
      rw [List.all_cons] at q
      by_cases z : f d = true
      · rw [if_pos z]
        rw [z, Bool.true_and] at q
        exact all_eval f (fun x m => h x (List.mem_cons_of_mem _ m)) q
      · rw [if_neg z]
        rw [Bool.not_eq_true] at z
        rw [z, Bool.false_and] at q
        exact q)
    unfold wFold
    simpa using this
/-- a loop with an invariant -/
theorem loop_inv {g : WG} {bd : WS} {D0 : EndsW} (I : Nat → Env' → Prop) : ∀ {ds : List D} {ρ : Env'} (i0 : Nat) (h0 : I i0 ρ) (hs : ∀ i d ρ (P : Env' → Prop), ds[i]? = some d → I (i0 + i) ρ → (∀ ρ', I (i0 + i + 1) ρ' → P ρ') → g d ρ fun ρ' => bd { nx := P, rt := D0.rt, bk := D0.nx, ct := P, ex := D0.ex } ρ')
    (hn : ∀ ρ, I (i0 + ds.length) ρ → D0.nx ρ), wLoop g bd D0 ds ρ
  | [], ρ, i0, h0, hs, hn => hn ρ h0
  | d :: ds, ρ, i0, h0, hs, hn => by
    refine hs 0 d ρ (wLoop g bd D0 ds) rfl h0 fun ρ' h' => loop_inv I (i0 + 1) h' (fun i d ρ P e hI hP => ?_) (fun ρ h => hn ρ ?_)
    · refine hs (i + 1) d ρ P (by simpa using e) ?_ (fun ρ' h => hP ρ' ?_)
      · rw [show i0 + (i + 1) = i0 + 1 + i by omega]; exact hI
      · rw [show i0 + 1 + i + 1 = i0 + (i + 1) + 1 by omega]; exact h
    · rw [List.length_cons, show i0 + (ds.length + 1) = i0 + 1 + ds.length by omega]; exact h
theorem loop_run {g : WG} {bd : WS} {D0 : EndsW} (I : Nat → Env' → Prop) {ds : List D} {ρ : Env'} (h0 : I 0 ρ) (hs : ∀ i d ρ (P : Env' → Prop), ds[i]? = some d → I i ρ → (∀ ρ', I (i + 1) ρ' → P ρ') → g d ρ fun ρ' => bd { nx := P, rt := D0.rt, bk := D0.nx, ct := P, ex := D0.ex } ρ')
    (hn : ∀ ρ, I ds.length ρ → D0.nx ρ) : wLoop g bd D0 ds ρ :=
  loop_inv I 0 h0 (fun i d ρ P e hI hP => hs i d ρ P e (by simpa using hI) (fun ρ' h => hP ρ' (by simpa using h))) (fun ρ h => hn ρ (by simpa using h))
end
section
variable {Q : Bool → Prop} {Qd : D → Prop}
theorem shaped_int {i : Int} : SeqAt.shaped (.int i) = true := rfl
theorem shaped_bool {i : Bool} : SeqAt.shaped (.bool i) = true := by cases i <;> rfl
theorem shaped_none : SeqAt.shaped .none = true := rfl
@[simp ↓] theorem ev_eqI {i j : Int} : gEq (.int i) (.int j) Q ↔ Q (decide (i = j)) := by
  unfold gEq
  have : PyData.eqv (.int i) (.int j) = decide (i = j) := by
    show (i == j) = _
    by_cases h : i = j
    · rw [h]; simp
    · simp [h]
  rw [this]
  exact ⟨fun h => h.2.2, fun h => ⟨rfl, rfl, h⟩⟩
@[simp ↓] theorem ev_neI {i j : Int} : gNe (.int i) (.int j) Q ↔ Q (!decide (i = j)) := by
  unfold gNe
  have : PyData.eqv (.int i) (.int j) = decide (i = j) := by
    show (i == j) = _
    by_cases h : i = j
    · rw [h]; simp
    · simp [h]
  rw [this]
  exact ⟨fun h => h.2.2, fun h => ⟨rfl, rfl, h⟩⟩
@[simp ↓] theorem ev_eqB {i j : Bool} : gEq (.bool i) (.bool j) Q ↔ Q (decide (i = j)) := by
  unfold gEq
  have : PyData.eqv (.bool i) (.bool j) = decide (i = j) := by cases i <;> cases j <;> rfl
  rw [this, shaped_bool, shaped_bool]
  exact ⟨fun h => h.2.2, fun h => ⟨rfl, rfl, h⟩⟩
@[simp ↓] theorem ev_neB {i j : Bool} : gNe (.bool i) (.bool j) Q ↔ Q (!decide (i = j)) := by
  unfold gNe
  have : PyData.eqv (.bool i) (.bool j) = decide (i = j) := by cases i <;> cases j <;> rfl
  rw [this, shaped_bool, shaped_bool]
  exact ⟨fun h => h.2.2, fun h => ⟨rfl, rfl, h⟩⟩
@[simp ↓] theorem ev_eqS {i j : Str} : gEq (.str i) (.str j) Q ↔ SeqAt.shaped (.str i) = true ∧ SeqAt.shaped (.str j) = true ∧ Q (decide (i = j)) := by
  unfold gEq
  have : PyData.eqv (.str i) (.str j) = decide (i = j) := by
    show (i == j) = _
    by_cases h : i = j
    · rw [h]; simp
    · simp [h]
  rw [this]
@[simp ↓] theorem ev_eqN : gEq .none .none Q ↔ Q true := ⟨fun h => h.2.2, fun h => ⟨rfl, rfl, h⟩⟩
@[simp ↓] theorem ev_eqL0 : gEq (.list []) (.list []) Q ↔ Q true := ⟨fun h => h.2.2, fun h => ⟨rfl, rfl, h⟩⟩
@[simp ↓] theorem ev_ltI {i j : Int} : gLt (.int i) (.int j) Q = Q (decide (i < j)) := rfl
@[simp ↓] theorem ev_leI {i j : Int} : gLe (.int i) (.int j) Q = Q (decide (i ≤ j)) := rfl
@[simp ↓] theorem ev_gtI {i j : Int} : gGt (.int i) (.int j) Q = Q (decide (j < i)) := rfl
@[simp ↓] theorem ev_geI {i j : Int} : gGe (.int i) (.int j) Q = Q (decide (j ≤ i)) := rfl
@[simp ↓] theorem ev_isN {d : D} : gIsN d .none Q ↔ Q (isNone d) := ⟨fun h => h.2, fun h => ⟨rfl, h⟩⟩
@[simp ↓] theorem ev_notN {d : D} : gNotN d .none Q ↔ Q (!isNone d) := ⟨fun h => h.2, fun h => ⟨rfl, h⟩⟩
@[simp ↓] theorem ev_lenL {xs : List D} : aLen (.list xs) Qd = Qd (.int xs.length) := rfl
@[simp ↓] theorem ev_lenT {xs : List D} : aLen (.tuple xs) Qd = Qd (.int xs.length) := rfl
@[simp ↓] theorem ev_addI {i j : Int} : aAdd (.int i) (.int j) Qd = Qd (.int (i + j)) := rfl
@[simp ↓] theorem ev_subI {i j : Int} : aSub (.int i) (.int j) Qd = Qd (.int (i - j)) := rfl
@[simp ↓] theorem ev_aI0 {f : Int → Int → Int} {i j : Int} : aI0 f (.int i) (.int j) Qd = Qd (.int (f i j)) := rfl
@[simp ↓] theorem ev_aI {C : Int → Int → Prop} {f : Int → Int → Int} {i j : Int} : aI C f (.int i) (.int j) Qd = (C i j ∧ Qd (.int (f i j))) := rfl
@[simp ↓] theorem ev_max2 {i j : Int} : aMax2 (.int i) (.int j) Qd = Qd (.int (max i j)) := rfl
@[simp ↓] theorem ev_min2 {i j : Int} : aMin2 (.int i) (.int j) Qd = Qd (.int (min i j)) := rfl
@[simp ↓] theorem ev_ixL {xs : List D} {i : Int} : aIx (.list xs) (.int i) Qd = ∃ d, atD xs i = some d ∧ Qd d := rfl
@[simp ↓] theorem ev_ixT {xs : List D} {i : Int} : aIx (.tuple xs) (.int i) Qd = ∃ d, atD xs i = some d ∧ Qd d := rfl
theorem atD_nat {α : Type} {xs : List α} {i : Nat} {x : α} (h : xs[i]? = some x) : atD xs (i : Int) = some x := atI_nat h
end
/-! ### alike -/
def plainD : Nat → D → Bool
  | _, .none => true
  | _, .bool _ => true
  | _, .int _ => true
  | _, .str s => SeqAt.shaped (.str s)
  | n + 1, .list xs => decide (xs.length ≤ sizeLine) && xs.all (plainD n)
  | n + 1, .tuple xs => decide (xs.length ≤ sizeLine) && xs.all (plainD n)
  | _, _ => false
def _law_alike_w (sp : FD) : WS := wSeq (wIfS (wTru (wIsi2 "tuple" "list" (wVar 1))) (wSeq (wIfS (wOr (wNot (wTru (wIsi2 "tuple" "list" (wVar 0)))) (wTst2 gNe (wIsi "list" (wVar 0)) (wIsi "list" (wVar 1)))) (wRet (wC (.bool false))) wSkip) (wSeq (wIfS (wTst2 gNe (wOpN (f1 aLen) (waCons (wVar 0) waNil)) (wOpN (f1 aLen) (waCons (wVar 1) waNil))) (wRet (wC (.bool false))) wSkip) (wRet (wCmp2 gEq (wLc (wiRng1 (wOpN (f1 aLen) (waCons (wVar 1) waNil))) (wgName 2) (wNot (wTru (wCall sp (wwCons (wOp2 aIx (wVar 0) (wVar 2)) (wwCons (wOp2 aIx (wVar 1) (wVar 2)) wwNil))))) (wVar 2) [2]) (wLst waNil))))) wSkip) (wSeq (wIfS (wTru (wIsi "dict" (wVar 1))) (wSeq (wIfS (wOr (wNot (wTru (wIsi "dict" (wVar 0)))) (wTst2 gNe (wOpN (f1 aListOf) (waCons (wVar 0) waNil)) (wOpN (f1 aListOf) (waCons (wVar 1) waNil)))) (wRet (wC (.bool false))) wSkip) (wRet (wCmp2 gEq (wLc (wiSeq (wVar 1)) (wgName 3) (wNot (wTru (wCall sp (wwCons (wOp2 aIx (wVar 0) (wVar 3)) (wwCons (wOp2 aIx (wVar 1) (wVar 3)) wwNil))))) (wVar 3) [3]) (wLst waNil)))) wSkip) (wSeq (wIfS (wOr (wTst2 gIsN (wVar 1) (wC .none)) (wTru (wIsi "str" (wVar 1)))) (wRet (wAndV (wCmp2 gEq (wVar 0) (wVar 1)) (wCmp2 gEq (wIsi "str" (wVar 0)) (wIsi "str" (wVar 1))))) wSkip) (wRet (wAndV (wIsi "int" (wVar 0)) (wAndV (wCmp2 gEq (wIsi "bool" (wVar 0)) (wIsi "bool" (wVar 1))) (wCmp2 gEq (wVar 0) (wVar 1)))))))
def alikeS (n : Nat) : FD := fun ws Q _ => ∃ d, ws = [.d d, .d d] ∧ plainD n d = true ∧ Q (.bool true)
theorem mono_alikeS {n : Nat} : MonoF (alikeS n) := fun ws Q Q' EX h ⟨d, e, h1, q⟩ => ⟨d, e, h1, h _ q⟩
def neverF : FD := fun _ _ _ => False
theorem filterMap_no {α β : Type} : ∀ xs : List α, xs.filterMap (fun _ => (none : Option β)) = []
  | [] => rfl
  | x :: xs => by rw [List.filterMap_cons_none rfl]; exact filterMap_no xs
theorem alike_items {sp : FD} {n : Nat} {xs : List D} {c : List D → D} (hc : ∀ (i : Nat) (d : D) (Q : D → Prop), xs[i]? = some d → Q d → aIx (c xs) (.int i) Q) (hsp : ∀ d, plainD n d = true → ∀ Q : D → Prop, Q (.bool true) → sp [.d d, .d d] Q noX) (hl : xs.length ≤ sizeLine) (hx : xs.all (plainD n) = true) {Q : D → Prop} (q : Q (.list [])) {ρ : Env'} (h0 : ρ = [some (.d (c xs)), some (.d (c xs)), none, none]) :
    wComp (wgName 2) (wNot (wTru (wCall sp (wwCons (wOp2 aIx (wVar 0) (wVar 2)) (wwCons (wOp2 aIx (wVar 1) (wVar 2)) wwNil))))) (wVar 2) ρ (rngD 0 xs.length) [] Q := by
  subst h0
  refine comp_eval (fun _ => none) (fun d hd R r => ?_) (by unfold rngD; simpa using hl) (by rw [filterMap_no]; exact q)
  unfold rngD at hd
  obtain ⟨i, hi, rfl⟩ := List.mem_map.mp hd
  rw [List.mem_range] at hi
  simp
  refine hc i xs[i] _ (List.getElem?_eq_getElem hi) (hc i xs[i] _ (List.getElem?_eq_getElem hi) (hsp _ (List.all_eq_true.mp hx _ (List.getElem_mem _)) _ ?_))
  simpa using r
theorem meets_alike {n : Nat} {sp : FD} (hsp : ∀ m d, n = m + 1 → plainD m d = true → ∀ Q : D → Prop, Q (.bool true) → sp [.d d, .d d] Q noX) (ws : List W) (Q : D → Prop) (EX : EXn) (h : alikeS n ws Q EX) : mkF 2 4 (_law_alike_w sp) ws Q EX := by
  obtain ⟨d, rfl, hd, q⟩ := h
  refine ⟨rfl, ?_⟩
  cases d with
  | none => simpa [_law_alike_w, isTy, tyD, isNone] using q
  | bool b => simpa [_law_alike_w, isTy, tyD, isNone] using q
  | int i => simpa [_law_alike_w, isTy, tyD, isNone] using q
  | str s =>
    have hs : SeqAt.shaped (.str s) = true := by cases n <;> exact hd
    simpa [_law_alike_w, isTy, tyD, isNone, hs] using q
  | list xs =>
    cases n with
    | zero => simp [plainD] at hd
    | succ m =>
      simp [plainD] at hd
      simp [_law_alike_w, isTy, tyD, isNone]
      refine ⟨?_, alike_items (c := .list) (fun i d Q h q => ⟨d, atD_nat h, q⟩) (fun d hp Q q => hsp m d rfl hp Q q) hd.1 (List.all_eq_true.mpr hd.2) (by simpa using q) rfl⟩
      have := hd.1
      rw [sizeLine_eq] at this
      unfold rBnd; omega
  | tuple xs =>
    cases n with
    | zero => simp [plainD] at hd
    | succ m =>
      simp [plainD] at hd
      simp [_law_alike_w, isTy, tyD, isNone]
      refine ⟨?_, alike_items (c := .tuple) (fun i d Q h q => ⟨d, atD_nat h, q⟩) (fun d hp Q q => hsp m d rfl hp Q q) hd.1 (List.all_eq_true.mpr hd.2) (by simpa using q) rfl⟩
      have := hd.1
      rw [sizeLine_eq] at this
      unfold rBnd; omega
  | dict kvs => cases n <;> simp [plainD] at hd
end DD
set_option maxRecDepth 100000
set_option maxHeartbeats 2000000
/-! SemU: the law's own def, the end. -/
namespace DD
open PySem PySem.Spec PyProof.Rows L2 GenW
/-- the end, the head's empty tables told of -/
theorem walk_end {l : PySem.W.OpenLaw} {n k : Nat} {q : Program} {loose : List Str} {XP : (Str → Option Value) → Heap → Prop} {YP : World → Heap → Prop} {d : DefRec} {K : Params → PySem.W.Frag} {CX : World → CXT} {x : Str}
    (hn : l.most = some n) (hn2 : n ≤ sizeLine) (hdf : d.params.defaults = []) (hr : Room k callerA) (hY : ∀ (w : World) (h : Heap), YP w h → (K w.params).In h)
    (F : ∀ (w : World) (mg : Str → Option Value) (fa : Addr) (h : Heap), (∀ (y : Str) (c P : Addr), ((recsOf q).find? (fun e => e.name == y)).isSome = true → PySem.W.tabIn (K w.params) y = some (c, P) → PySem.W.CodeHd h c P ∧ h.get? P = some { cls := .none, data := .fields #[] }) → (K w.params).In h → h.Ns mainGlobals mg → mg d.name = some (.ref fa) → LamX.LawAtS l w (K w.params) (CX w) k n x mg fa h)
    (hCX : ∀ (w : World) (H : Hp) (s : Shared) (e : Value) (s' : Shared), CX w [] H s (fun _ _ _ => False) e s' → False) :
    PySem.W.WalkO q loose XP YP l.row.toRowW d [] (fun f vs => PySem.call f vs) := by
  refine Att.attach_callB hn hdf fun w s₀ s₁ mg mb fa o pm cd doc a vs ns G Y ho hd hcd hmg hobj hints hlen hbits hg => ?_
  have KX := hY w _ Y
  obtain ⟨fd, cs, sp, hT, nT, C, hb, hsp, hF⟩ := F w mg fa _ (fun y c P hy ht => by
    obtain ⟨d', hd'⟩ := Option.isSome_iff_exists.mp hy
    exact PySem.W.tab_of G.T KX hd' ht) KX G.T.g hmg
  exact LamX.law_callTs KX G.T.g G.T.b G.T.builtins G.T.nolimit hg hT nT C G.T.bmain hobj hints (Nat.le_trans hlen hn2) hr hF hb (fun H hH hS => hsp H a ns hlen hbits hH hS) fun H e s' => hCX w H s₁ e s'
/-- the promise of the law: it gives True -/
def spLaw (K : PySem.W.Frag) (cs : List (Addr × Addr)) : Sp := fun vs H Q E => ∃ (a : Addr) (ns : List Int), vs = [.ref a] ∧ (∀ p ∈ cs, H p.2 = some (.tbl #[])) ∧ SqL K H a (ns.map V.int) ∧ ∀ H', Q (.bl true) H'
theorem law_fn {P : Program} {w0 : World} {K : PySem.W.Frag} {mg : Str → Option Value} {base : Heap} {k : Nat} {st h0 : Stmt} {rest : List Stmt} {f : Addr} {fd : FuncData} {cdv : Value} {m : Nat} {N : List Str} {w : WS} {cs : List (Addr × Addr)} {T : List (Addr × Str)} {G : List Addr} {cB cU : Addr}
    (F : FunC K "law" "law" st f fd cdv) (Sc : FnScope N ["script"] (defScope st)) (hm : N.length = m + 2) (hsplit : defBody st = h0 :: rest)
    (hT : ∀ q ∈ T, q.1 ∈ cs.map (·.2)) (hG : ∀ q ∈ G, q ∈ cs.map (·.2)) (hTG : ∀ q ∈ G, ∀ t ∈ T, t.1 ≠ q)
    (hhead : ∀ (A : Around) (outer : List Env) (s : Shared) (H : Hp) (E : XK), PS (bodyCx P w0 K mg base N "law" st f cdv A outer s H E) h0 (tAsg (tLst (tCons (tVar 0) (tCons (tC (.int 0)) (tCons (tC (.int 6007027)) (tCons (tC (.int 0)) tNil))))) (gName 1)))
    (hbody : ∀ S : Par, S.K = K → S.T = T → S.G = G → S.cBad = cB → S.cUnr = cU → ∀ (N0 : Addr → Prop) (H0 : Hp) (A : Around) (outer : List Env) (s : Shared) (H : Hp) (E : XK), Room k (A.deeper (envOfC "law" (defScope st) s.heap.objs.size f cdv)) → DSs (S.inn N0 H0 E) (bodyCx P w0 K mg base N "law" st f cdv A outer s H E) rest w)
    (plain : w { nx := fun _ => False, rt := fun d => d = .bool true, ex := noX } (none :: some .row :: List.replicate m none)) :
    FnOk P w0 K mg base (L2.CX P w0) (k + 1) f fd ["script"] (spLaw K cs) := by
  obtain ⟨oc, od, kV, doc, pm, an, ct, osl, rfl, lk, hcd⟩ := F.ex
  refine fn_of lk hcd Sc (fun vs H Q E ⟨a, ns, e, _⟩ => by rw [e]; rfl) fun A outer s H vs Q E hr ⟨a, ns, e, hcs, hS, hQ⟩ => ?_
  subst e
  let SS : Addr → Par := fun r => { K := K, w := w0, T := T, G := G, r := r, scr := a, ns := ns, cBad := cB, cUnr := cU, N := fun _ => False, H0 := H, E := E }
  have hrest : PSs (bodyCx P w0 K mg base N "law" st f cdv A outer s H E) rest (fun D σ H' => ∃ (r : Addr) (H0 : Hp), LS (((SS r).inn (fun _ => False) H0 E).at K) w D σ H') :=
    ⟨fun pins s' σ H' D I ⟨r, H0, ht⟩ => (hbody (SS r) rfl rfl rfl rfl rfl (fun _ => False) H0 A outer s H E hr).ps.run pins s' σ H' D I ht⟩
  have hmono := (hbody (SS 0) rfl rfl rfl rfl rfl (fun _ => False) H A outer s H E hr).mono
  refine ⟨_, by rw [hsplit]; exact pss_cons (hhead A outer s H E) hrest, ?_⟩
  have hst : L2.start N [V.ref a] = some (.ref a) :: none :: List.replicate m none := by
    unfold L2.start
    rw [hm]
    rfl
  rw [hst]
  refine ⟨_, rfl, (by rw [sizeLine_eq]; show 4 ≤ 16777216; decide), fun r hr0 => ?_⟩
  let H1 := upd H r (.lst [.ref a, .int 0, .int 6007027, .int 0])
  have tb : ∀ P ∈ cs.map (·.2), H1 P = some (.tbl #[]) := fun P hP => by
    obtain ⟨q, hq, e⟩ := List.mem_map.mp hP
    show upd H r _ P = _
    rw [upd_ne (fun z => by rw [← e] at z; rw [← z, hcs q hq] at hr0; cases hr0), ← e]
    exact hcs q hq
  have wd : Wd (((SS r).inn (fun _ => False) H1 E).at K) H1 := by
    refine ⟨hTG, fun P hP => ⟨#[], tb P (hG P hP), ?_⟩, fun q hq => ⟨#[], tb q.1 (hT q hq), ?_, fun pos cv h => ?_⟩, ⟨0, 6007027, 0, by show upd H r _ r = _; unfold L2.upd; rw [if_pos rfl], by decide, by decide, by decide, by decide⟩, ?_⟩
    · exact trivial
    · exact trivial
    · simp [codeAmong] at h
    · show SqL K (upd H r _) a (ns.map V.int)
      rcases hS with (hS | ⟨o, hS⟩) | hS
      · exact .inl (.inl (by rw [upd_ne (fun z => by rw [z, hr0] at hS; cases hS)]; exact hS))
      · exact .inl (.inr ⟨o, by rw [upd_ne (fun z => by rw [z, hr0] at hS; cases hS)]; exact hS⟩)
      · exact .inr hS
  refine ⟨r, H1, none :: some .row :: List.replicate m none, noOwn, noX, ⟨wd, Ext.refl wd, ?_, fun i w hw => ?_, fun i j a h _ => (by cases h), fun x hx => (by cases hx), fun i a h => (by cases h)⟩, exok_no, hmono { nx := fun _ => False, rt := fun d => d = .bool true, ex := noX } _ _ ⟨fun _ h => h.elim, fun d h v H' _ _ r => ?_, fun _ h => h.elim, fun _ h => h.elim, rfl⟩ plain⟩
  · simp
  · match i, hw with
    | 1, hw =>
      have e : W.row = w := by simpa using hw
      subst e
      rfl
    | i + 2, hw =>
      have : (List.replicate m (none : Option W))[i]? = some (some w) := by simpa using hw
      rw [List.getElem?_replicate] at this
      split at this <;> cases this
  · subst h
    have e := r.b (p := ((SS _).inn (fun _ => False) H1 E).at K) (O := noOwn)
    rw [e.bool]
    exact hQ _
/-- alike, level by level -/
theorem cal_alike {P : Program} {w0 : World} {K : PySem.W.Frag} {mg : Str → Option Value} {base : Heap} {S : Par} {st : Stmt} {f : Addr} {fd : FuncData} {cdv : Value} {ps : List Str} (F : FunC K "_law_alike" "_law_alike" st f fd cdv) (hm : mg "_law_alike" = some (.ref f)) (hb : Binds K fd ps [])
    (step : ∀ (j : Nat) (sp : FD), Cal P w0 K mg base S j "_law_alike" ps sp → FnOk P w0 K mg base (L2.CX P w0) (j + 1) f fd ps (SpD S (mkF 2 4 (_law_alike_w sp)))) : ∀ n : Nat, Cal P w0 K mg base S (n + 1) "_law_alike" ps (alikeS n)
  | 0 => cal_of F hm hb (step 0 neverF ⟨⟨f, fd, ⟨fun _ _ _ _ ⟨_, _, _, _, _, _, h, _⟩ => h.elim, fun _ _ _ _ _ _ _ _ _ _ _ _ _ ⟨_, _, _, _, _, _, h, _⟩ => h.elim⟩, hm, F.kp, hb⟩, fun _ _ _ _ _ h => h.elim⟩) mono_alikeS
      (meets_alike fun m d e => by omega)
  | n + 1 => cal_of F hm hb (step (n + 1) _ (cal_alike F hm hb step n)) mono_alikeS
      (meets_alike fun m d e hp Q q => by
        obtain rfl : n = m := by omega
        exact ⟨d, rfl, hp, q⟩)
theorem no_cx {P : Program} {w : World} {H : Hp} {s : Shared} {e : Value} {s' : Shared} (h : L2.CX P w [] H s (fun _ _ _ => False) e s') : False := by
  obtain ⟨a, B, H', cls, d, _, _, _, _, _, _, _, z⟩ := h
  exact z
end DD
set_option maxRecDepth 100000
set_option maxHeartbeats 2000000
/-! SemV: comprehensions and loops over rows of Lean values. -/
namespace DD
open PySem PySem.Spec PyProof.Rows L2 GenW
section
variable {ρ : Env'} {EX : EXn} {α β : Type}
/-- a comprehension over a row of Lean values -/
theorem comp_evalM {g : WG} {t : WT} {we : WE} {h : α → D} (f : α → Option D) : ∀ {xs : List α} {acc : List D} {Q : D → Prop} (hh : ∀ x ∈ xs, ∀ R : Option D → Prop, R (f x) → g (h x) ρ fun ρ2 => t ρ2 (fun k => if k = true then we ρ2 (fun y => R (some y)) noX else R none) noX)
    (hl : acc.length + xs.length ≤ sizeLine) (q : Q (.list (acc ++ xs.filterMap f))), wComp g t we ρ (xs.map h) acc Q
  | [], acc, Q, hh, hl, q => by
    have q : Q (.list (acc ++ [])) := q
    rw [List.append_nil] at q
    exact q
  | d :: ds, acc, Q, hh, hl, q => by
    rw [List.length_cons] at hl
    have := hh d List.mem_cons_self (fun o => match o with | some y => acc.length < sizeLine ∧ wComp g t we ρ (ds.map h) (acc ++ [y]) Q | none => wComp g t we ρ (ds.map h) acc Q) (by
      cases e : f d with
      | none =>
        rw [List.filterMap_cons_none e] at q
        exact comp_evalM f (fun x m => hh x (List.mem_cons_of_mem _ m)) (by omega) q
      | some y =>
        rw [List.filterMap_cons_some e] at q
        refine ⟨by omega, comp_evalM f (fun x m => hh x (List.mem_cons_of_mem _ m)) (by rw [List.length_append, List.length_singleton]; omega) ?_⟩
        rw [List.append_assoc]
        exact q)
    exact this
theorem comp_mapM {g : WG} {we : WE} {h : α → D} (f : α → D) {xs : List α} {Q : D → Prop} (hh : ∀ x ∈ xs, ∀ R : D → Prop, R (f x) → g (h x) ρ fun ρ2 => we ρ2 R noX) (hl : xs.length ≤ sizeLine) (q : Q (.list (xs.map f))) : wComp g wYes we ρ (xs.map h) [] Q := by
  refine comp_evalM (fun d => some (f d)) (fun d m R r => ?_) (by simpa using hl) (by simpa using q)
  have := hh d m (fun y => R (some y)) r
  simpa using this
theorem filt_map {p : α → Bool} {e : α → β} : ∀ xs : List α, xs.filterMap (fun x => if p x = true then some (e x) else none) = (xs.filter p).map e
  | [] => rfl
  | x :: xs => by
    by_cases z : p x = true
    · rw [List.filterMap_cons_some (b := e x) (by simp [z]), List.filter_cons_of_pos z, List.map_cons, filt_map xs]
    · rw [List.filterMap_cons_none (by simp [z]), List.filter_cons_of_neg z, filt_map xs]
/-- with a test -/
theorem comp_filtM {g : WG} {t : WT} {we : WE} {h : α → D} (p : α → Bool) (e : α → D) {xs : List α} {Q : D → Prop} (hh : ∀ x ∈ xs, ∀ R : Option D → Prop, R (if p x = true then some (e x) else none) → g (h x) ρ fun ρ2 => t ρ2 (fun k => if k = true then we ρ2 (fun y => R (some y)) noX else R none) noX)
    (hl : xs.length ≤ sizeLine) (q : Q (.list ((xs.filter p).map e))) : wComp g t we ρ (xs.map h) [] Q :=
  comp_evalM (fun x => if p x = true then some (e x) else none) hh (by simpa using hl) (by rw [filt_map]; exact q)
theorem all_evalM {g : WG} {we : WE} {h : α → D} (f : α → Bool) {xs : List α} {Q : D → Prop} (hh : ∀ x ∈ xs, ∀ R : D → Prop, R (.bool (f x)) → g (h x) ρ fun ρ2 => we ρ2 R noX) (q : Q (.bool (xs.all f))) : wFold g wYes we (cAll Q) (fun _ => Q (.bool true)) ρ (xs.map h) () := by
  induction xs with
  | nil => exact q
  | cons d ds ih =>
    have := hh d List.mem_cons_self (fun y => cAll Q () y (fun _ => wFold g wYes we (cAll Q) (fun _ => Q (.bool true)) ρ (ds.map h) ())) (by
      refine ⟨f d, rfl, ?_⟩
      rw [List.all_cons] at q
      by_cases z : f d = true
      · rw [if_pos z]
        rw [z, Bool.true_and] at q
        exact ih (fun x m => hh x (List.mem_cons_of_mem _ m)) q
      · rw [if_neg z]
        rw [Bool.not_eq_true] at z
        rw [z, Bool.false_and] at q
        exact q)
    rw [List.map_cons]
    unfold wFold
    simpa using this
theorem loop_runM {g : WG} {bd : WS} {D0 : EndsW} {h : α → D} (I : Nat → Env' → Prop) {xs : List α} (h0 : I 0 ρ) (hs : ∀ i x ρ (P : Env' → Prop), xs[i]? = some x → I i ρ → (∀ ρ', I (i + 1) ρ' → P ρ') → g (h x) ρ fun ρ' => bd { nx := P, rt := D0.rt, bk := D0.nx, ct := P, ex := D0.ex } ρ')
    (hn : ∀ ρ, I xs.length ρ → D0.nx ρ) : wLoop g bd D0 (xs.map h) ρ := by
  refine loop_run I h0 (fun i d ρ P e hI hP => ?_) (fun ρ q => hn ρ (by simpa using q))
  rw [List.getElem?_map] at e
  cases e1 : xs[i]? with
  | none => rw [e1] at e; cases e
  | some x =>
    rw [e1] at e
    cases e
    exact hs i x ρ P e1 hI hP
theorem zipD_map (a : α → D) (b : β → D) : ∀ (xs : List α) (ys : List β), zipD (xs.map a) (ys.map b) = (xs.zip ys).map (fun p => .tuple [a p.1, b p.2])
  | [], ys => by cases ys <;> rfl
  | x :: xs, [] => rfl
  | x :: xs, y :: ys => by
    have := zipD_map a b xs ys
    unfold zipD at this ⊢
    rw [List.map_cons, List.map_cons, List.zipWith_cons_cons, List.zip_cons_cons, List.map_cons, this]
theorem enumD_map (a : α → D) (xs : List α) : enumD (xs.map a) = xs.zipIdx.map (fun p => .tuple [.int ((p.2 : Nat) : Int), a p.1]) := by
  unfold enumD
  apply List.ext_getElem?
  intro i
  rw [List.getElem?_map, List.getElem?_map, List.getElem?_zipIdx, List.length_map]
  by_cases hi : i < xs.length
  · rw [List.getElem?_range hi, List.getElem?_eq_getElem hi]
    simp [hi]
  · rw [List.getElem?_eq_none (by simp; omega), List.getElem?_eq_none (by omega)]
    rfl
theorem rngD_map {lo : Int} {n : Nat} : rngD lo n = (List.range n).map (fun i => .int (lo + (i : Nat))) := rfl
theorem cut1 {α : Type} (xs : List α) : cutD xs (some 1) none = xs.drop 1 := by
  unfold cutD
  have e : HT.sIx xs.length 0 (some 1) = min 1 xs.length := HT.sIx_nat xs.length 0 1
  rw [HT.sIx_none, e]
  cases xs with
  | nil => rfl
  | cons x xs =>
    have : min 1 (x :: xs).length = 1 := by rw [List.length_cons]; omega
    rw [this]
    exact List.take_of_length_le (by simp)
theorem flat1 {α : Type} (x : α) : ∀ n : Nat, (List.replicate n [x]).flatten = List.replicate n x
  | 0 => rfl
  | n + 1 => by rw [List.replicate_succ, List.flatten_cons, flat1 x n]; rfl
section
variable {Q : D → Prop} {f : Int → List Int → Int}
@[simp ↓] theorem ev_tupL {xs : List D} : aTupleOf (.list xs) Q = Q (.tuple xs) := rfl
@[simp ↓] theorem ev_tupT {xs : List D} : aTupleOf (.tuple xs) Q = Q (.tuple xs) := rfl
@[simp ↓] theorem ev_lstL {xs : List D} : aListOf (.list xs) Q = Q (.list xs) := rfl
@[simp ↓] theorem ev_lstT {xs : List D} : aListOf (.tuple xs) Q = Q (.list xs) := rfl
@[simp ↓] theorem ev_mulL {xs : List D} {k : Int} : aMulL (.list xs) (.int k) Q = ((-(2 ^ 63) ≤ k ∧ k < 2 ^ 63 ∧ xs.length * k.toNat ≤ sizeLine) ∧ Q (.list (List.replicate k.toNat xs).flatten)) := rfl
@[simp ↓] theorem ev_mulT {xs : List D} {k : Int} : aMul (.tuple xs) (.int k) Q = ((xs ≠ [] ∧ 2 ≤ k ∧ k ≤ 1000 ∧ xs.length ≤ 1000) ∧ Q (.tuple (List.replicate k.toNat xs).flatten)) := rfl
@[simp ↓] theorem ev_mulA {xs : List D} {k : Int} : aMul (.list xs) (.int k) Q = ((-(2 ^ 63) ≤ k ∧ k < 2 ^ 63 ∧ xs.length * k.toNat ≤ sizeLine) ∧ Q (.list (List.replicate k.toNat xs).flatten)) := rfl
@[simp ↓] theorem ev_addL {xs ys : List D} : aAdd (.list xs) (.list ys) Q = (xs.length + ys.length ≤ sizeLine ∧ Q (.list (xs ++ ys))) := rfl
@[simp ↓] theorem ev_addT {xs ys : List D} : aAdd (.tuple xs) (.tuple ys) Q = (xs.length + ys.length ≤ sizeLine ∧ Q (.tuple (xs ++ ys))) := rfl
@[simp ↓] theorem ev_addLL {xs ys : List D} : aAddL (.list xs) (.list ys) Q = (xs.length + ys.length ≤ sizeLine ∧ Q (.list (xs ++ ys))) := rfl
theorem best_list {n : Int} {ns : List Int} {xs : List D} (e : xs = (n :: ns).map .int) (q : Q (.int (f n ns))) : aBest f (.list xs) Q := ⟨n, ns, by rw [e]; exact intsD_map _, q⟩
theorem best_tuple {n : Int} {ns : List Int} {xs : List D} (e : xs = (n :: ns).map .int) (q : Q (.int (f n ns))) : aBest f (.tuple xs) Q := ⟨n, ns, by rw [e]; exact intsD_map _, q⟩
theorem truG_list {xs : List D} {Qb : Bool → Prop} : truG (.list xs) Qb = Qb (!xs.isEmpty) := rfl
theorem ixN_nat {n i : Nat} (h : i < n) : ixN n (i : Int) = some i := by
  unfold ixN
  rw [if_pos (by omega), if_pos (by omega)]
  simp
end
end
/-! ### shapes -/
def shD (n : Nat) (d : D) : Prop := d.canLay0 = true ∧ d.depth ≤ n
theorem shaped_of {n : Nat} {d : D} (h : shD n d) (hn : n ≤ 64 := by decide) : SeqAt.shaped d = true := by
  unfold SeqAt.shaped
  rw [h.1, Bool.true_and]
  exact decide_eq_true (Nat.le_trans h.2 hn)
theorem shD_int {n : Nat} {i : Int} : shD n (.int i) := ⟨by simp only [PyData.canLay0], by simp only [PyData.depth]; exact Nat.zero_le _⟩
theorem shD_bool {n : Nat} {i : Bool} : shD n (.bool i) := ⟨by simp only [PyData.canLay0], by simp only [PyData.depth]; exact Nat.zero_le _⟩
theorem shD_none {n : Nat} : shD n .none := ⟨by simp only [PyData.canLay0], by simp only [PyData.depth]; exact Nat.zero_le _⟩
theorem shD_str {n : Nat} {x : Str} (h : SeqAt.shaped (.str x) = true) : shD n (.str x) := ⟨SeqAt.canLay_of_shaped h, by simp only [PyData.depth]; exact Nat.zero_le _⟩
theorem canAll {xs : List D} (h : ∀ x ∈ xs, x.canLay0 = true) : PyData.canLayAll0 xs = true := by
  induction xs with
  | nil => simp only [PyData.canLayAll0]
  | cons x xs ih =>
    simp only [PyData.canLayAll0, Bool.and_eq_true]
    exact ⟨h x List.mem_cons_self, ih fun y m => h y (List.mem_cons_of_mem _ m)⟩
theorem depAll {n : Nat} {xs : List D} (h : ∀ x ∈ xs, x.depth ≤ n) : PyData.depthAll xs ≤ n := by
  induction xs with
  | nil => simp only [PyData.depthAll]; exact Nat.zero_le _
  | cons x xs ih =>
    simp only [PyData.depthAll]
    exact Nat.max_le.mpr ⟨h x List.mem_cons_self, ih fun y m => h y (List.mem_cons_of_mem _ m)⟩
theorem shD_list {n : Nat} {xs : List D} (h : ∀ x ∈ xs, shD n x) : shD (n + 1) (.list xs) := by
  refine ⟨?_, ?_⟩
  · simp only [PyData.canLay0]; exact canAll fun x m => (h x m).1
  · simp only [PyData.depth]; exact Nat.succ_le_succ (depAll fun x m => (h x m).2)
theorem shD_tuple {n : Nat} {xs : List D} (h : ∀ x ∈ xs, shD n x) : shD (n + 1) (.tuple xs) := by
  refine ⟨?_, ?_⟩
  · simp only [PyData.canLay0]; exact canAll fun x m => (h x m).1
  · simp only [PyData.depth]; exact Nat.succ_le_succ (depAll fun x m => (h x m).2)
theorem shD_ints {n : Nat} {ns : List Int} : ∀ x ∈ ns.map PyData.int, shD n x := fun x hx => by
  obtain ⟨i, _, rfl⟩ := List.mem_map.mp hx
  exact shD_int
theorem shaped_ints {ns : List Int} : SeqAt.shaped (.list (ns.map .int)) = true := shaped_of (shD_list (n := 0) shD_ints)
theorem shaped_nil : SeqAt.shaped (.list []) = true := rfl
theorem ne_nil {xs : List D} {Q : Bool → Prop} (h : SeqAt.shaped (.list xs) = true) (q : Q (!xs.isEmpty)) : gNe (.list xs) (.list []) Q := by
  refine ⟨h, shaped_nil, ?_⟩
  cases xs with
  | nil => exact q
  | cons x xs => exact q
theorem eq_nil {xs : List D} {Q : Bool → Prop} (h : SeqAt.shaped (.list xs) = true) (q : Q xs.isEmpty) : gEq (.list xs) (.list []) Q := by
  refine ⟨h, shaped_nil, ?_⟩
  cases xs with
  | nil => exact q
  | cons x xs => exact q
end DD
set_option maxRecDepth 100000
set_option maxHeartbeats 2000000
/-! K27M: vans at gates, in plain Lean. -/
namespace K27
open DD
abbrev Van := Int × Int
structure Sim where
  F : List Int
  B : List (Nat × Int)
  I : List Int
def minL : List Int → Int
  | [] => 0
  | x :: xs => minI x xs
def wh (s : Sim) (v : Van) : Int := max v.1 (minL s.F)
def ga (s : Sim) (v : Van) : Nat := s.F.findIdx (fun t => decide (t ≤ wh s v))
def step (s : Sim) (v : Van) : Sim := ⟨s.F.set (ga s v) (wh s v + v.2), s.B ++ [(ga s v, wh s v)], s.I.set (ga s v) (s.I.getD (ga s v) 0 + (wh s v - s.F.getD (ga s v) 0))⟩
def init (g : Nat) : Sim := ⟨List.replicate g 0, [], List.replicate g 0⟩
def run (g : Nat) (vs : List Van) : Sim := vs.foldl step (init g)
theorem snoc_ind {α : Type} {P : List α → Prop} (h0 : P []) (hs : ∀ l x, P l → P (l ++ [x])) (l : List α) : P l := by
  have : ∀ m : List α, P m.reverse := fun m => by
    induction m with
    | nil => exact h0
    | cons x m ih => rw [List.reverse_cons]; exact hs _ _ ih
  have h := this l.reverse
  rwa [List.reverse_reverse] at h
theorem run_snoc (g : Nat) (vs : List Van) (v : Van) : run g (vs ++ [v]) = step (run g vs) v := by
  unfold run; rw [List.foldl_append]; rfl
theorem take_succ' {α : Type} {l : List α} {i : Nat} {x : α} (h : l[i]? = some x) : l.take (i + 1) = l.take i ++ [x] := by
  rw [List.take_succ, h]; rfl
theorem run_take {g : Nat} {vs : List Van} {i : Nat} {v : Van} (h : vs[i]? = some v) : run g (vs.take (i + 1)) = step (run g (vs.take i)) v := by
  rw [take_succ' h, run_snoc]
theorem foldl_min_le (xs : List Int) : ∀ n : Int, xs.foldl min n ≤ n ∧ (∀ x ∈ xs, xs.foldl min n ≤ x) ∧ (xs.foldl min n = n ∨ xs.foldl min n ∈ xs) := by
  induction xs with
  | nil => intro n; exact ⟨Int.le_refl _, (fun x h => (List.not_mem_nil h).elim), Or.inl rfl⟩
  | cons y ys ih =>
    intro n
    obtain ⟨h1, h2, h3⟩ := ih (min n y)
    rw [List.foldl_cons]
    refine ⟨by omega, fun x hx => ?_, ?_⟩
    · rcases List.mem_cons.mp hx with rfl | hx
      · omega
      · exact h2 x hx
    · rcases h3 with h3 | h3
      · rw [h3]
        by_cases z : n ≤ y
        · left; omega
        · right; rw [show min n y = y by omega]; exact List.mem_cons_self
      · right; exact List.mem_cons_of_mem _ h3
theorem foldl_max_le (xs : List Int) : ∀ n : Int, n ≤ xs.foldl max n ∧ (∀ x ∈ xs, x ≤ xs.foldl max n) ∧ (xs.foldl max n = n ∨ xs.foldl max n ∈ xs) := by
  induction xs with
  | nil => intro n; exact ⟨Int.le_refl _, (fun x h => (List.not_mem_nil h).elim), Or.inl rfl⟩
  | cons y ys ih =>
    intro n
    obtain ⟨h1, h2, h3⟩ := ih (max n y)
    rw [List.foldl_cons]
    refine ⟨by omega, fun x hx => ?_, ?_⟩
    · rcases List.mem_cons.mp hx with rfl | hx
      · omega
      · exact h2 x hx
    · rcases h3 with h3 | h3
      · rw [h3]
        by_cases z : y ≤ n
        · left; omega
        · right; rw [show max n y = y by omega]; exact List.mem_cons_self
      · right; exact List.mem_cons_of_mem _ h3
theorem minL_le {xs : List Int} {x : Int} (h : x ∈ xs) : minL xs ≤ x := by
  cases xs with
  | nil => cases h
  | cons y ys =>
    obtain ⟨h1, h2, _⟩ := foldl_min_le ys y
    rcases List.mem_cons.mp h with rfl | h
    · exact h1
    · exact h2 x h
theorem minL_mem {xs : List Int} (h : 0 < xs.length) : minL xs ∈ xs := by
  cases xs with
  | nil => cases h
  | cons y ys =>
    obtain ⟨_, _, h3⟩ := foldl_min_le ys y
    rcases h3 with h3 | h3
    · show ys.foldl min y ∈ _; rw [h3]; exact List.mem_cons_self
    · exact List.mem_cons_of_mem _ h3
theorem ga_lt {s : Sim} {v : Van} (h : 0 < s.F.length) : ga s v < s.F.length := by
  unfold ga
  rw [List.findIdx_lt_length]
  exact ⟨_, minL_mem h, by unfold wh; simp; omega⟩
theorem ga_le {s : Sim} {v : Van} (h : 0 < s.F.length) : s.F[ga s v]'(ga_lt h) ≤ wh s v := by
  have := List.findIdx_getElem (xs := s.F) (p := fun t => decide (t ≤ wh s v)) (w := ga_lt h)
  exact of_decide_eq_true this
theorem lenF {g : Nat} {vs : List Van} : (run g vs).F.length = g := by
  refine snoc_ind (P := fun vs => (run g vs).F.length = g) ?_ (fun l v ih => ?_) vs
  · simp [run, init]
  · rw [run_snoc]; simp [step, ih]
theorem lenI {g : Nat} {vs : List Van} : (run g vs).I.length = g := by
  refine snoc_ind (P := fun vs => (run g vs).I.length = g) ?_ (fun l v ih => ?_) vs
  · simp [run, init]
  · rw [run_snoc]; simp [step, ih]
theorem lenB {g : Nat} {vs : List Van} : (run g vs).B.length = vs.length := by
  refine snoc_ind (P := fun vs => (run g vs).B.length = vs.length) ?_ (fun l v ih => ?_) vs
  · simp [run, init]
  · rw [run_snoc]; simp [step, ih]
/-- the i-th van's begin -/
theorem atB {g : Nat} {vs : List Van} {i : Nat} {v : Van} (h : vs[i]? = some v) : (run g vs).B[i]? = some (ga (run g (vs.take i)) v, wh (run g (vs.take i)) v) := by
  have hi : i < vs.length := (List.getElem?_eq_some_iff.mp h).1
  have key : ∀ r : List Van, (run g (vs.take (i + 1) ++ r)).B[i]? = some (ga (run g (vs.take i)) v, wh (run g (vs.take i)) v) := by
    refine snoc_ind ?_ (fun l x ih => ?_)
    · rw [List.append_nil, run_take h]
      have e : (run g (vs.take i)).B.length = i := by rw [lenB, List.length_take]; omega
      show ((run g (vs.take i)).B ++ [_])[i]? = _
      rw [List.getElem?_append_right (by omega), e]
      simp
    · rw [← List.append_assoc, run_snoc]
      show ((run g (vs.take (i + 1) ++ l)).B ++ [_])[i]? = _
      rw [List.getElem?_append_left, ih]
      rw [lenB, List.length_append, List.length_take]; omega
  have := key (vs.drop (i + 1))
  rwa [List.take_append_drop] at this
/-- the vans as they come -/
structure Good (vs : List Van) : Prop where
  len : vs.length ≤ 24
  rng : ∀ v ∈ vs, 0 ≤ v.1 ∧ v.1 ≤ 200 ∧ 1 ≤ v.2 ∧ v.2 ≤ 50
  srt : ∀ i v w, vs[i]? = some v → vs[i + 1]? = some w → v.1 ≤ w.1
theorem F_nonneg {g : Nat} {vs : List Van} (hr : ∀ v ∈ vs, 0 ≤ v.1 ∧ v.1 ≤ 200 ∧ 1 ≤ v.2 ∧ v.2 ≤ 50) : ∀ x ∈ (run g vs).F, 0 ≤ x := by
  revert hr
  refine snoc_ind (P := fun vs => (∀ v ∈ vs, 0 ≤ v.1 ∧ v.1 ≤ 200 ∧ 1 ≤ v.2 ∧ v.2 ≤ 50) → ∀ x ∈ (run g vs).F, 0 ≤ x) (fun _ x hx => ?_) (fun l v ih hr x hx => ?_) vs
  · simp [run, init, List.mem_replicate] at hx
    omega
  · rw [run_snoc] at hx
    rcases List.mem_or_eq_of_mem_set hx with hx | hx
    · exact ih (fun v hv => hr v (List.mem_append_left _ hv)) x hx
    · have := hr v (List.mem_append_right _ List.mem_cons_self)
      rw [hx]; unfold wh; omega
theorem wh_le {g : Nat} {vs : List Van} {i : Nat} {v w : Van} (hg : 0 < g) (G : Good vs) (h : vs[i]? = some v) (h2 : vs[i + 1]? = some w) : wh (run g (vs.take i)) v ≤ wh (run g (vs.take (i + 1))) w := by
  have hs := G.srt i v w h h2
  have hm := minL_mem (xs := (run g (vs.take (i + 1))).F) (by rw [lenF]; exact hg)
  have hv := G.rng v (List.mem_of_getElem? h)
  unfold wh
  generalize hM : minL (run g (vs.take (i + 1))).F = M at hm ⊢
  rw [run_take h] at hm
  rcases List.mem_or_eq_of_mem_set hm with hm | hm
  · have := minL_le hm
    omega
  · unfold wh at hm
    omega
end K27
set_option maxRecDepth 100000
set_option maxHeartbeats 2000000
/-! K27N: waits, ends, how many at once, in plain Lean. -/
namespace K27
open DD
def waitsL (g : Nat) (vs : List Van) : List Int := List.zipWith (fun b v => b.2 - v.1) (run g vs).B vs
def endsL (g : Nat) (vs : List Van) : List Int := List.zipWith (fun b v => b.2 + v.2) (run g vs).B vs
def max0 : List Int → Int
  | [] => 0
  | n :: ns => maxI n ns
theorem max0_eq {ns : List Int} (h : ∀ x ∈ ns, 0 ≤ x) : max0 ns = maxI 0 ns := by
  cases ns with
  | nil => rfl
  | cons n ns =>
    have := h n List.mem_cons_self
    show ns.foldl max n = ns.foldl max (max 0 n)
    rw [show max 0 n = n by omega]
theorem maxI0_le {ns : List Int} {l : Int} (hl : 0 ≤ l) : maxI 0 ns ≤ l ↔ ∀ x ∈ ns, x ≤ l := by
  obtain ⟨h1, h2, h3⟩ := foldl_max_le ns 0
  constructor
  · intro h x hx
    exact Int.le_trans (h2 x hx) h
  · intro h
    rcases h3 with h3 | h3
    · show ns.foldl max 0 ≤ l; omega
    · exact h _ h3
theorem waits_len {g : Nat} {vs : List Van} : (waitsL g vs).length = vs.length := by
  unfold waitsL; rw [List.length_zipWith, lenB]; omega
theorem ends_len {g : Nat} {vs : List Van} : (endsL g vs).length = vs.length := by
  unfold endsL; rw [List.length_zipWith, lenB]; omega
theorem waits_get {g : Nat} {vs : List Van} {i : Nat} {v : Van} (h : vs[i]? = some v) : (waitsL g vs)[i]? = some (wh (run g (vs.take i)) v - v.1) := by
  unfold waitsL
  rw [List.getElem?_zipWith, atB h, h]
theorem ends_get {g : Nat} {vs : List Van} {i : Nat} {v : Van} (h : vs[i]? = some v) : (endsL g vs)[i]? = some (wh (run g (vs.take i)) v + v.2) := by
  unfold endsL
  rw [List.getElem?_zipWith, atB h, h]
theorem some_of_lt {α : Type} {l : List α} {i : Nat} (h : i < l.length) : ∃ x, l[i]? = some x := ⟨_, List.getElem?_eq_getElem h⟩
theorem waits_mem {g : Nat} {vs : List Van} {x : Int} (h : x ∈ waitsL g vs) : ∃ i v, vs[i]? = some v ∧ x = wh (run g (vs.take i)) v - v.1 := by
  obtain ⟨i, hi⟩ := List.getElem?_of_mem h
  have h1 : i < (waitsL g vs).length := (List.getElem?_eq_some_iff.mp hi).1
  rw [waits_len] at h1
  obtain ⟨v, hv⟩ := some_of_lt h1
  refine ⟨i, v, hv, ?_⟩
  rw [waits_get hv] at hi
  exact (Option.some.inj hi).symm
theorem ends_mem {g : Nat} {vs : List Van} {x : Int} (h : x ∈ endsL g vs) : ∃ i v, vs[i]? = some v ∧ x = wh (run g (vs.take i)) v + v.2 := by
  obtain ⟨i, hi⟩ := List.getElem?_of_mem h
  have h1 : i < (endsL g vs).length := (List.getElem?_eq_some_iff.mp hi).1
  rw [ends_len] at h1
  obtain ⟨v, hv⟩ := some_of_lt h1
  refine ⟨i, v, hv, ?_⟩
  rw [ends_get hv] at hi
  exact (Option.some.inj hi).symm
theorem wh_ge {s : Sim} {v : Van} : v.1 ≤ wh s v := by unfold wh; omega
theorem waits_nn {g : Nat} {vs : List Van} : ∀ x ∈ waitsL g vs, 0 ≤ x := fun x hx => by
  obtain ⟨i, v, hv, rfl⟩ := waits_mem hx
  have := wh_ge (s := run g (vs.take i)) (v := v)
  omega
theorem ends_nn {g : Nat} {vs : List Van} (G : Good vs) : ∀ x ∈ endsL g vs, 0 ≤ x := fun x hx => by
  obtain ⟨i, v, hv, rfl⟩ := ends_mem hx
  have := wh_ge (s := run g (vs.take i)) (v := v)
  have := G.rng v (List.mem_of_getElem? hv)
  omega
theorem Good.take {vs : List Van} (G : Good vs) (i : Nat) : Good (vs.take i) where
  len := by have := G.len; rw [List.length_take]; omega
  rng := fun v hv => G.rng v (List.mem_of_mem_take hv)
  srt := fun j v w h1 h2 => by
    have a := (List.getElem?_eq_some_iff.mp h1).1
    have b := (List.getElem?_eq_some_iff.mp h2).1
    rw [List.length_take] at a b
    rw [List.getElem?_take_of_lt (by omega)] at h1 h2
    exact G.srt j v w h1 h2
theorem srt_le {vs : List Van} (G : Good vs) {i : Nat} {v : Van} (h : vs[i]? = some v) : ∀ (k : Nat) (w : Van), vs[i + k]? = some w → v.1 ≤ w.1
  | 0, w, hw => by rw [Nat.add_zero, h] at hw; cases hw; exact Int.le_refl _
  | k + 1, w, hw => by
    have hl := (List.getElem?_eq_some_iff.mp hw).1
    obtain ⟨u, hu⟩ := some_of_lt (l := vs) (i := i + k) (by omega)
    exact Int.le_trans (srt_le G h k u hu) (G.srt (i + k) u w hu hw)
theorem srt_le' {vs : List Van} (G : Good vs) {i j : Nat} {v w : Van} (h : vs[i]? = some v) (hw : vs[j]? = some w) (hij : i ≤ j) : v.1 ≤ w.1 :=
  srt_le G h (j - i) w (by rw [show i + (j - i) = j by omega]; exact hw)
/-! ### how many are there -/
def at1 (t : Int) (v : Van) : Bool := decide (v.1 ≤ t) && decide (t < v.1 + v.2)
def cnt (vs : List Van) (t : Int) : Nat := vs.countP (at1 t)
/-- the begins with their vans -/
def bv (g : Nat) (vs : List Van) : List ((Nat × Int) × Van) := (run g vs).B.zip vs
theorem bv_snoc {g : Nat} {vs : List Van} {v : Van} : bv g (vs ++ [v]) = bv g vs ++ [((ga (run g vs) v, wh (run g vs) v), v)] := by
  unfold bv
  rw [run_snoc]
  show ((run g vs).B ++ [_]).zip (vs ++ [v]) = _
  rw [List.zip_append lenB]
  rfl
theorem countP_set' {p : Int → Bool} : ∀ {l : List Int} {i : Nat} {a : Int} (h : i < l.length), (l.set i a).countP p + (if p l[i] = true then 1 else 0) = l.countP p + (if p a = true then 1 else 0)
  | x :: l, 0, a, h => by
    rw [List.set_cons_zero, List.countP_cons, List.countP_cons]
    show l.countP p + (if p a = true then 1 else 0) + (if p x = true then 1 else 0) = _
    omega
  | x :: l, i + 1, a, h => by
    rw [List.set_cons_succ, List.countP_cons, List.countP_cons]
    have := countP_set' (p := p) (l := l) (i := i) (a := a) (by simpa using h)
    show (l.set i a).countP p + (if p x = true then 1 else 0) + (if p (l[i]'(by simpa using h)) = true then 1 else 0) = _
    omega
theorem countAG {g : Nat} {vs : List Van} (t : Int) (hg : 0 < g) (hr : ∀ v ∈ vs, 1 ≤ v.2) : (bv g vs).countP (fun p => decide (p.1.2 ≤ t) && decide (t < p.1.2 + p.2.2)) ≤ (run g vs).F.countP (fun x => decide (t < x)) := by
  revert hr
  refine snoc_ind (P := fun vs => (∀ v ∈ vs, 1 ≤ v.2) → (bv g vs).countP (fun p => decide (p.1.2 ≤ t) && decide (t < p.1.2 + p.2.2)) ≤ (run g vs).F.countP (fun x => decide (t < x))) (fun _ => ?_) (fun l v ih hr => ?_) vs
  · exact Nat.zero_le _
  · have ih := ih (fun v hv => hr v (List.mem_append_left _ hv))
    have hv := hr v (List.mem_append_right _ List.mem_cons_self)
    rw [bv_snoc, List.countP_append, run_snoc, List.countP_singleton]
    have hl : 0 < (run g l).F.length := by rw [lenF]; exact hg
    have h1 := countP_set' (p := fun x => decide (t < x)) (a := wh (run g l) v + v.2) (ga_lt (v := v) hl)
    have h2 := ga_le (v := v) hl
    show _ ≤ ((run g l).F.set (ga (run g l) v) (wh (run g l) v + v.2)).countP (fun x => decide (t < x))
    generalize (run g l).F[ga (run g l) v]'(ga_lt hl) = y at h1 h2
    generalize ((run g l).F.set (ga (run g l) v) (wh (run g l) v + v.2)).countP (fun x => decide (t < x)) = A at h1 ⊢
    generalize wh (run g l) v = w at h1 h2 ⊢
    simp only [decide_eq_true_eq, Bool.and_eq_true] at h1 ⊢
    by_cases c1 : t < y <;> by_cases c2 : t < w + v.2 <;> by_cases c3 : w ≤ t <;> simp [c1, c2, c3] at h1 ⊢ <;> omega
theorem countGE {g : Nat} {vs : List Van} {t : Int} (ht : 0 ≤ t) (hg : 0 < g) : (run g vs).F.countP (fun x => decide (t < x)) ≤ (bv g vs).countP (fun p => decide (t < p.1.2 + p.2.2)) := by
  refine snoc_ind (P := fun vs => (run g vs).F.countP (fun x => decide (t < x)) ≤ (bv g vs).countP (fun p => decide (t < p.1.2 + p.2.2))) ?_ (fun l v ih => ?_) vs
  · show (List.replicate g (0 : Int)).countP _ ≤ _
    rw [List.countP_replicate, if_neg (by simp; omega)]
    exact Nat.zero_le _
  · rw [bv_snoc, List.countP_append, run_snoc, List.countP_singleton]
    have hl : 0 < (run g l).F.length := by rw [lenF]; exact hg
    have h1 := countP_set' (p := fun x => decide (t < x)) (a := wh (run g l) v + v.2) (ga_lt (v := v) hl)
    show ((run g l).F.set (ga (run g l) v) (wh (run g l) v + v.2)).countP (fun x => decide (t < x)) ≤ _
    generalize (run g l).F[ga (run g l) v]'(ga_lt hl) = y at h1
    generalize ((run g l).F.set (ga (run g l) v) (wh (run g l) v + v.2)).countP (fun x => decide (t < x)) = A at h1 ⊢
    generalize wh (run g l) v = w at h1 ⊢
    simp only [decide_eq_true_eq] at h1 ⊢
    by_cases c1 : t < y <;> by_cases c2 : t < w + v.2 <;> simp [c1, c2] at h1 ⊢ <;> omega
/-- no van waits -/
def NoWait (g : Nat) (vs : List Van) : Prop := ∀ i v, vs[i]? = some v → wh (run g (vs.take i)) v = v.1
theorem bv_nowait {g : Nat} {vs : List Van} (h : NoWait g vs) : ∀ p ∈ bv g vs, p.1.2 = p.2.1 := fun p hp => by
  unfold bv at hp
  obtain ⟨i, hi⟩ := List.getElem?_of_mem hp
  rw [List.getElem?_zip_eq_some] at hi
  have := atB (g := g) hi.2
  rw [hi.1] at this
  rw [Option.some.inj this]
  exact h i _ hi.2
theorem bv_count {g : Nat} {vs : List Van} {q : Van → Bool} : (bv g vs).countP (fun p => q p.2) = vs.countP q := by
  have : ((bv g vs).map Prod.snd) = vs := by unfold bv; rw [List.map_snd_zip (by rw [lenB]; exact Nat.le_refl _)]
  conv => rhs; rw [← this]
  rw [List.countP_map]
  rfl
theorem cnt_le_gates {g : Nat} {vs : List Van} (hg : 0 < g) (G : Good vs) (h : NoWait g vs) (t : Int) : cnt vs t ≤ g := by
  have h1 := countAG (vs := vs) t hg (fun v hv => (G.rng v hv).2.2.1)
  have h2 : (bv g vs).countP (fun p => decide (p.1.2 ≤ t) && decide (t < p.1.2 + p.2.2)) = (bv g vs).countP (fun p => at1 t p.2) :=
    List.countP_congr fun p hp => by rw [bv_nowait h p hp]; rfl
  rw [h2, bv_count] at h1
  have h3 : (run g vs).F.countP (fun x => decide (t < x)) ≤ (run g vs).F.length := List.countP_le_length
  rw [lenF] at h3
  unfold cnt; omega
theorem nowait_of {g : Nat} {vs : List Van} (hg : 0 < g) (G : Good vs) (hm : ∀ t, 0 ≤ t → cnt vs t ≤ g) : ∀ (n i : Nat) (v : Van), i < n → vs[i]? = some v → wh (run g (vs.take i)) v = v.1
  | 0, i, v, hn, _ => absurd hn (Nat.not_lt_zero _)
  | n + 1, i, v, hn, hv => by
    have ih := nowait_of hg G hm n
    have hil := (List.getElem?_eq_some_iff.mp hv).1
    have hv0 := G.rng v (List.mem_of_getElem? hv)
    have nw : NoWait g (vs.take i) := fun j w hw => by
      have a := (List.getElem?_eq_some_iff.mp hw).1
      rw [List.length_take] at a
      rw [List.getElem?_take_of_lt (by omega)] at hw
      rw [List.take_take, show min j i = j by omega]
      exact ih j w (by omega) hw
    have h1 := countGE (vs := vs.take i) (t := v.1) (by omega) hg
    have h2 : (bv g (vs.take i)).countP (fun p => decide (v.1 < p.1.2 + p.2.2)) = (bv g (vs.take i)).countP (fun p => at1 v.1 p.2) :=
      List.countP_congr fun p hp => by
        have e := bv_nowait nw p hp
        have m : p.2 ∈ vs.take i := by unfold bv at hp; exact (List.of_mem_zip hp).2
        obtain ⟨j, hj⟩ := List.getElem?_of_mem m
        have a := (List.getElem?_eq_some_iff.mp hj).1
        rw [List.length_take] at a
        rw [List.getElem?_take_of_lt (by omega)] at hj
        have := srt_le' G hj hv (by omega)
        unfold at1
        rw [e]
        simp [this]
    rw [h2, bv_count] at h1
    have h3 : (vs.take i).countP (at1 v.1) + 1 ≤ cnt vs v.1 := by
      have : cnt vs v.1 = (vs.take (i + 1)).countP (at1 v.1) + (vs.drop (i + 1)).countP (at1 v.1) := by
        unfold cnt
        rw [← List.countP_append, List.take_append_drop]
      rw [this, take_succ' hv, List.countP_append, List.countP_singleton, if_pos (by unfold at1; simp; omega)]
      omega
    have h4 := hm v.1 (by omega)
    have h5 : ∃ x ∈ (run g (vs.take i)).F, x ≤ v.1 := by
      apply Classical.byContradiction
      intro hc
      have : (run g (vs.take i)).F.countP (fun x => decide (v.1 < x)) = (run g (vs.take i)).F.length := by
        rw [List.countP_eq_length]
        intro x hx
        apply decide_eq_true
        apply Classical.byContradiction
        intro hlt
        exact hc ⟨x, hx, by omega⟩
      rw [lenF] at this
      omega
    obtain ⟨x, hx, hle⟩ := h5
    have := minL_le hx
    unfold wh
    omega
theorem nowait_iff {g : Nat} {vs : List Van} (hg : 0 < g) (G : Good vs) : NoWait g vs ↔ ∀ t, 0 ≤ t → cnt vs t ≤ g :=
  ⟨fun h t _ => cnt_le_gates hg G h t, fun h i v hv => nowait_of hg G h (i + 1) i v (by omega) hv⟩
theorem long_le {g : Nat} {vs : List Van} {l : Int} (hl : 0 ≤ l) : max0 (waitsL g vs) ≤ l ↔ ∀ i v, vs[i]? = some v → wh (run g (vs.take i)) v - v.1 ≤ l := by
  rw [max0_eq waits_nn, maxI0_le hl]
  constructor
  · intro h i v hv
    exact h _ (List.mem_of_getElem? (waits_get hv))
  · intro h x hx
    obtain ⟨i, v, hv, rfl⟩ := waits_mem hx
    exact h i v hv
theorem long_zero {g : Nat} {vs : List Van} : max0 (waitsL g vs) ≤ 0 ↔ NoWait g vs := by
  rw [long_le (Int.le_refl 0)]
  constructor
  · intro h i v hv
    have := h i v hv
    have := wh_ge (s := run g (vs.take i)) (v := v)
    omega
  · intro h i v hv
    rw [h i v hv]; omega
/-! ### the most at once -/
def bst (vs : List Van) (b : Int × Int) (v : Van) : Int × Int := if (cnt vs v.1 : Int) > b.1 then ((cnt vs v.1 : Int), v.1) else b
def mostP (vs : List Van) : Int × Int := vs.foldl (bst vs) (0, 0)
structure Best (vs : List Van) (i : Nat) (b : Int × Int) : Prop where
  nn : 0 ≤ b.1
  ge : ∀ j v, j < i → vs[j]? = some v → (cnt vs v.1 : Int) ≤ b.1
  at_ : (b = (0, 0) ∧ i = 0) ∨ (0 < b.1 ∧ ∃ j v, j < i ∧ vs[j]? = some v ∧ v.1 = b.2 ∧ (cnt vs v.1 : Int) = b.1)
  lt : ∀ j v, j < i → vs[j]? = some v → v.1 < b.2 → (cnt vs v.1 : Int) < b.1
theorem cnt_pos {vs : List Van} (G : Good vs) {i : Nat} {v : Van} (h : vs[i]? = some v) : 0 < cnt vs v.1 := by
  unfold cnt
  rw [List.countP_pos_iff]
  have := G.rng v (List.mem_of_getElem? h)
  exact ⟨v, List.mem_of_getElem? h, by unfold at1; simp; omega⟩
theorem best_take {vs : List Van} (G : Good vs) : ∀ i, i ≤ vs.length → Best vs i ((vs.take i).foldl (bst vs) (0, 0))
  | 0, _ => ⟨Int.le_refl _, fun j v h => absurd h (Nat.not_lt_zero _), Or.inl ⟨rfl, rfl⟩, fun j v h => absurd h (Nat.not_lt_zero _)⟩
  | i + 1, hi => by
    obtain ⟨v, hv⟩ := some_of_lt (l := vs) (i := i) (by omega)
    have B := best_take G i (by omega)
    rw [take_succ' hv, List.foldl_append]
    generalize (vs.take i).foldl (bst vs) (0, 0) = b at B ⊢
    have hp := cnt_pos G hv
    show Best vs (i + 1) (bst vs b v)
    unfold bst
    split
    · rename_i hgt
      refine ⟨by show (0 : Int) ≤ (cnt vs v.1 : Int); omega, fun j w hj hw => ?_, Or.inr ⟨by show (0 : Int) < (cnt vs v.1 : Int); omega, i, v, by omega, hv, rfl, rfl⟩, fun j w hj hw hlt => ?_⟩
      · by_cases e : j = i
        · subst e; rw [hv] at hw; cases hw; exact Int.le_refl _
        · have := B.ge j w (by omega) hw
          show (cnt vs w.1 : Int) ≤ (cnt vs v.1 : Int); omega
      · by_cases e : j = i
        · subst e; rw [hv] at hw; cases hw; exact absurd hlt (Int.lt_irrefl _)
        · have := B.ge j w (by omega) hw
          show (cnt vs w.1 : Int) < (cnt vs v.1 : Int); omega
    · rename_i hgt
      have hb : 0 < b.1 := by omega
      refine ⟨B.nn, fun j w hj hw => ?_, Or.inr ?_, fun j w hj hw hlt => ?_⟩
      · by_cases e : j = i
        · subst e; rw [hv] at hw; cases hw; omega
        · exact B.ge j w (by omega) hw
      · rcases B.at_ with ⟨h, _⟩ | ⟨_, j, w, h1, h2, h3, h4⟩
        · rw [h] at hb; exact absurd hb (Int.lt_irrefl _)
        · exact ⟨hb, j, w, by omega, h2, h3, h4⟩
      · by_cases e : j = i
        · subst e
          rw [hv] at hw; cases hw
          rcases B.at_ with ⟨h, _⟩ | ⟨_, j, w, h1, h2, h3, h4⟩
          · rw [h] at hb; exact absurd hb (Int.lt_irrefl _)
          · have := srt_le' G h2 hv (by omega)
            omega
        · exact B.lt j w (by omega) hw hlt
theorem best_most {vs : List Van} (G : Good vs) : Best vs vs.length (mostP vs) := by
  have := best_take G vs.length (Nat.le_refl _)
  rwa [List.take_length] at this
/-- a time with vans has a come time not later with as many -/
theorem cnt_come {vs : List Van} (t : Int) (h : 0 < cnt vs t) : ∃ v ∈ vs, v.1 ≤ t ∧ cnt vs t ≤ cnt vs v.1 := by
  -- the latest comer among those that are there
  have key : ∀ l : List Van, 0 < l.countP (at1 t) → ∃ v ∈ l, at1 t v = true ∧ ∀ w ∈ l, at1 t w = true → w.1 ≤ v.1 := by
    intro l
    induction l with
    | nil => intro h; exact absurd h (Nat.lt_irrefl _)
    | cons x l ih =>
      intro h
      by_cases hx : at1 t x = true
      · by_cases hl : 0 < l.countP (at1 t)
        · obtain ⟨v, hv, h1, h2⟩ := ih hl
          by_cases c : x.1 ≤ v.1
          · refine ⟨v, List.mem_cons_of_mem _ hv, h1, fun w hw ha => ?_⟩
            rcases List.mem_cons.mp hw with rfl | hw
            · exact c
            · exact h2 w hw ha
          · refine ⟨x, List.mem_cons_self, hx, fun w hw ha => ?_⟩
            rcases List.mem_cons.mp hw with rfl | hw
            · exact Int.le_refl _
            · have := h2 w hw ha; omega
        · refine ⟨x, List.mem_cons_self, hx, fun w hw ha => ?_⟩
          rcases List.mem_cons.mp hw with rfl | hw
          · exact Int.le_refl _
          · exact absurd (List.countP_pos_iff.mpr ⟨w, hw, ha⟩) hl
      · rw [List.countP_cons_of_neg (by simpa using hx)] at h
        obtain ⟨v, hv, h1, h2⟩ := ih h
        refine ⟨v, List.mem_cons_of_mem _ hv, h1, fun w hw ha => ?_⟩
        rcases List.mem_cons.mp hw with rfl | hw
        · exact absurd ha hx
        · exact h2 w hw ha
  obtain ⟨v, hv, h1, h2⟩ := key vs h
  unfold at1 at h1
  simp at h1
  refine ⟨v, hv, h1.1, List.countP_mono_left fun w hw ha => ?_⟩
  have := h2 w hw ha
  unfold at1 at ha ⊢
  simp at ha ⊢
  omega
theorem most_ge {vs : List Van} (G : Good vs) (t : Int) : (cnt vs t : Int) ≤ (mostP vs).1 := by
  have B := best_most G
  by_cases h : 0 < cnt vs t
  · obtain ⟨v, hv, h1, h2⟩ := cnt_come t h
    obtain ⟨j, hj⟩ := List.getElem?_of_mem hv
    have := B.ge j v (List.getElem?_eq_some_iff.mp hj).1 hj
    omega
  · have := B.nn; omega
theorem most_first {vs : List Van} (G : Good vs) {t : Int} (ht : t < (mostP vs).2) (hp : 0 < (mostP vs).1) : (cnt vs t : Int) < (mostP vs).1 := by
  have B := best_most G
  by_cases h : 0 < cnt vs t
  · obtain ⟨v, hv, h1, h2⟩ := cnt_come t h
    obtain ⟨j, hj⟩ := List.getElem?_of_mem hv
    have := B.lt j v (List.getElem?_eq_some_iff.mp hj).1 hj (by omega)
    omega
  · omega
theorem most_at {vs : List Van} (G : Good vs) : (mostP vs = (0, 0) ∧ vs = []) ∨ (0 < (mostP vs).1 ∧ (cnt vs (mostP vs).2 : Int) = (mostP vs).1 ∧ 0 ≤ (mostP vs).2 ∧ (mostP vs).2 ≤ 200) := by
  rcases (best_most G).at_ with ⟨h, e⟩ | ⟨h, j, v, h1, h2, h3, h4⟩
  · exact Or.inl ⟨h, List.eq_nil_of_length_eq_zero e⟩
  · have := G.rng v (List.mem_of_getElem? h2)
    rw [← h3]
    exact Or.inr ⟨h, h4, this.1, this.2.1⟩
theorem nowait_most {g : Nat} {vs : List Van} (hg : 0 < g) (G : Good vs) : NoWait g vs ↔ (mostP vs).1 ≤ g := by
  rw [nowait_iff hg G]
  constructor
  · intro h
    rcases most_at G with ⟨h0, _⟩ | ⟨h1, h2, h3, h4⟩
    · rw [h0]; exact Int.natCast_nonneg _
    · have := h _ h3; omega
  · intro h t ht
    have := most_ge G t
    omega
end K27
set_option maxRecDepth 100000
set_option maxHeartbeats 2000000
/-! K27O: going through time, in plain Lean. -/
namespace K27
open DD
theorem F_le {g : Nat} {vs : List Van} (hg : 0 < g) (hr : ∀ v ∈ vs, 0 ≤ v.1 ∧ v.1 ≤ 200 ∧ 1 ≤ v.2 ∧ v.2 ≤ 50) : ∀ x ∈ (run g vs).F, x ≤ 200 + 50 * (vs.length : Int) := by
  revert hr
  refine snoc_ind (P := fun vs => (∀ v ∈ vs, 0 ≤ v.1 ∧ v.1 ≤ 200 ∧ 1 ≤ v.2 ∧ v.2 ≤ 50) → ∀ x ∈ (run g vs).F, x ≤ 200 + 50 * (vs.length : Int)) (fun _ x hx => ?_) (fun l v ih hr x hx => ?_) vs
  · simp [run, init, List.mem_replicate] at hx
    simp; omega
  · rw [run_snoc] at hx
    have ih := ih (fun v hv => hr v (List.mem_append_left _ hv))
    rw [List.length_append, List.length_singleton]
    rcases List.mem_or_eq_of_mem_set hx with hx | hx
    · have := ih x hx
      omega
    · have := hr v (List.mem_append_right _ List.mem_cons_self)
      have hm := ih _ (minL_mem (xs := (run g l).F) (by rw [lenF]; exact hg))
      rw [hx]; unfold wh; omega
theorem wh_le' {g : Nat} {vs : List Van} {m : Nat} {v : Van} (hg : 0 < g) (G : Good vs) (h : vs[m]? = some v) : wh (run g (vs.take m)) v ≤ 1400 := by
  have h1 := F_le (vs := vs.take m) hg (fun v hv => G.rng v (List.mem_of_mem_take hv)) _ (minL_mem (by rw [lenF]; exact hg))
  have h2 := G.rng v (List.mem_of_getElem? h)
  have h3 := G.len
  rw [List.length_take] at h1
  have hm := (List.getElem?_eq_some_iff.mp h).1
  unfold wh
  omega
/-- how long each gate is not free yet, at a time -/
def lf (s : Sim) (t : Int) : List Int := s.F.map (fun f => max 0 (f - t))
/-- how long each gate has stood free, at a time -/
def sp (s : Sim) (t : Int) : List Int := List.zipWith (fun i f => i + max 0 (t - f)) s.I s.F
theorem lf_len {s : Sim} {t : Int} : (lf s t).length = s.F.length := by unfold lf; rw [List.length_map]
theorem lf_get {s : Sim} {t : Int} {j : Nat} {f : Int} (h : s.F[j]? = some f) : (lf s t)[j]? = some (max 0 (f - t)) := by unfold lf; rw [List.getElem?_map, h]; rfl
theorem sp_get {s : Sim} {t : Int} {j : Nat} {i f : Int} (hi : s.I[j]? = some i) (h : s.F[j]? = some f) : (sp s t)[j]? = some (i + max 0 (t - f)) := by unfold sp; rw [List.getElem?_zipWith, hi, h]
theorem lf_tick {s : Sim} {t : Int} : (lf s t).map (fun x => max 0 (x - 1)) = lf s (t + 1) := by
  unfold lf
  rw [List.map_map]
  refine List.map_congr_left fun f _ => ?_
  show max 0 (max 0 (f - t) - 1) = max 0 (f - (t + 1))
  omega
theorem lf_step {s : Sim} {v : Van} {t : Int} (hw : wh s v = t) (hv : 1 ≤ v.2) : lf (step s v) t = (lf s t).set (ga s v) v.2 := by
  unfold lf step
  simp only
  rw [List.map_set, hw, show max 0 (t + v.2 - t) = v.2 by omega]
theorem sp_step {s : Sim} {v : Van} {t i f : Int} (hw : wh s v = t) (hv : 1 ≤ v.2) (hi : s.I[ga s v]? = some i) (hf : s.F[ga s v]? = some f) (hft : f ≤ t) : sp (step s v) t = sp s t := by
  unfold sp step
  simp only
  apply List.ext_getElem?
  intro j
  rw [List.getElem?_zipWith, List.getElem?_zipWith]
  by_cases e : ga s v = j
  · subst e
    rw [List.getElem?_set_self (List.getElem?_eq_some_iff.mp hi).1, List.getElem?_set_self (List.getElem?_eq_some_iff.mp hf).1, hi, hf]
    rw [List.getD_eq_getElem?_getD, List.getD_eq_getElem?_getD, hi, hf, hw]
    simp only [Option.getD_some]
    congr 1
    omega
  · rw [List.getElem?_set_ne e, List.getElem?_set_ne e]
theorem I_step {s : Sim} {v : Van} {t i f : Int} (hw : wh s v = t) (hi : s.I[ga s v]? = some i) (hf : s.F[ga s v]? = some f) (hft : f ≤ t) : (step s v).I = s.I.set (ga s v) (i + max 0 (t - f)) := by
  unfold step
  simp only
  rw [List.getD_eq_getElem?_getD, List.getD_eq_getElem?_getD, hi, hf, hw]
  simp only [Option.getD_some]
  rw [show i + max 0 (t - f) = i + (t - f) by omega]
/-- the gates that are free at a time -/
def fr (g : Nat) (s : Sim) (t : Int) : List Nat := (List.range g).filter (fun j => decide (s.F.getD j 0 ≤ t))
theorem fr_head {g : Nat} {s : Sim} {v : Van} {t : Int} (hl : s.F.length = g) (hg : 0 < g) (hw : wh s v = t) : ∃ r, fr g s t = ga s v :: r := by
  have h : (fr g s t).head? = some (ga s v) := by
    unfold fr
    rw [List.head?_filter, List.find?_range_eq_some]
    have h1 := ga_lt (s := s) (v := v) (by omega)
    have h2 := ga_le (s := s) (v := v) (by omega)
    refine ⟨?_, by rw [List.mem_range]; omega, fun j hj => ?_⟩
    · apply decide_eq_true
      rw [List.getD_eq_getElem?_getD, List.getElem?_eq_getElem h1, ← hw]
      exact h2
    · have h3 := List.not_of_lt_findIdx (p := fun t => decide (t ≤ wh s v)) (xs := s.F) (i := j) hj
      rw [List.getD_eq_getElem?_getD, List.getElem?_eq_getElem (by omega), ← hw]
      simpa using h3
  cases e : fr g s t with
  | nil => rw [e] at h; cases h
  | cons x r => rw [e] at h; cases h; exact ⟨r, rfl⟩
/-- a free gate: the least is free -/
theorem fr_min {g : Nat} {s : Sim} {t : Int} (hl : s.F.length = g) (h : fr g s t ≠ []) : minL s.F ≤ t := by
  cases e : fr g s t with
  | nil => exact absurd e h
  | cons x r =>
    have hx : x ∈ fr g s t := by rw [e]; exact List.mem_cons_self
    unfold fr at hx
    rw [List.mem_filter, List.mem_range] at hx
    have h1 := of_decide_eq_true hx.2
    rw [List.getD_eq_getElem?_getD, List.getElem?_eq_getElem (by omega)] at h1
    exact Int.le_trans (minL_le (List.getElem_mem _)) h1
/-- it goes on at this time just if its time is not later -/
theorem go_iff {g : Nat} {s : Sim} {v : Van} {t : Int} (hl : s.F.length = g) (hg : 0 < g) (hn : t ≤ wh s v) : (v.1 ≤ t ∧ fr g s t ≠ []) ↔ wh s v = t := by
  constructor
  · intro ⟨h1, h2⟩
    have := fr_min hl h2
    have h3 : wh s v = max v.1 (minL s.F) := rfl
    omega
  · intro h
    obtain ⟨r, e⟩ := fr_head (v := v) hl hg h
    refine ⟨?_, by rw [e]; exact List.cons_ne_nil _ _⟩
    have := wh_ge (s := s) (v := v)
    omega
theorem sp_tick {g : Nat} {s : Sim} {t : Int} (hl : s.F.length = g) (hi : s.I.length = g) : (List.range g).map (fun j => (sp s t).getD j 0 + (if (lf s t).getD j 0 = 0 then 1 else 0)) = sp s (t + 1) := by
  apply List.ext_getElem?
  intro j
  by_cases h : j < g
  · rw [List.getElem?_map, List.getElem?_range h]
    have e1 := List.getElem?_eq_getElem (l := s.F) (i := j) (by omega)
    have e2 := List.getElem?_eq_getElem (l := s.I) (i := j) (by omega)
    rw [sp_get e2 e1]
    simp only [Option.map_some]
    rw [List.getD_eq_getElem?_getD, List.getD_eq_getElem?_getD, sp_get e2 e1, lf_get e1]
    simp only [Option.getD_some]
    congr 1
    split <;> omega
  · rw [List.getElem?_map, List.getElem?_eq_none (by simp; omega), List.getElem?_eq_none (by unfold sp; rw [List.length_zipWith]; omega)]
    rfl
end K27
set_option maxRecDepth 100000
set_option maxHeartbeats 2000000
/-! K27T: what the law compares, in plain Lean. -/
namespace K27
open DD
theorem maxI_eq {n M : Int} {ns : List Int} (hm : M ∈ n :: ns) (hle : ∀ x ∈ n :: ns, x ≤ M) : maxI n ns = M := by
  obtain ⟨h1, h2, h3⟩ := foldl_max_le ns n
  show ns.foldl max n = M
  have a : ns.foldl max n ≤ M := by
    rcases h3 with h3 | h3
    · rw [h3]; exact hle n List.mem_cons_self
    · exact hle _ (List.mem_cons_of_mem _ h3)
  rcases List.mem_cons.mp hm with rfl | hm
  · omega
  · have := h2 M hm; omega
theorem minI_eq {n : Int} {ns : List Int} (hle : ∀ x ∈ ns, n ≤ x) : minI n ns = n := by
  obtain ⟨h1, h2, h3⟩ := foldl_min_le ns n
  show ns.foldl min n = n
  rcases h3 with h3 | h3
  · exact h3
  · have := hle _ h3; omega
/-- the gates that do, ascending -/
def gl (p : Nat → Bool) (i : Nat) : List Int := ((List.range i).filter p).map (fun j => ((j + 1 : Nat) : Int))
theorem gl_succ {p : Nat → Bool} {i : Nat} : gl p (i + 1) = gl p i ++ (if p i = true then [((i + 1 : Nat) : Int)] else []) := by
  unfold gl
  rw [List.range_succ, List.filter_append, List.map_append]
  by_cases c : p i = true
  · rw [if_pos c, List.filter_cons_of_pos c]; rfl
  · rw [if_neg c, List.filter_cons_of_neg c]; rfl
theorem gl_nil {p : Nat → Bool} {i : Nat} (h : gl p i = []) : (List.range i).find? p = none := by
  unfold gl at h
  rw [List.map_eq_nil_iff] at h
  rw [← List.head?_filter, h]; rfl
theorem gl_cons {p : Nat → Bool} {i : Nat} {n : Int} {ns : List Int} (h : gl p i = n :: ns) : ∃ j, (List.range i).find? p = some j ∧ n = ((j + 1 : Nat) : Int) ∧ minI n ns = n := by
  unfold gl at h
  have hp : ((List.range i).filter p).Pairwise (· < ·) := List.Pairwise.filter _ List.pairwise_lt_range
  cases e : (List.range i).filter p with
  | nil => rw [e] at h; cases h
  | cons j r =>
    rw [e] at h hp
    rw [List.map_cons] at h
    cases h
    refine ⟨j, by rw [← List.head?_filter, e]; rfl, rfl, minI_eq fun x hx => ?_⟩
    obtain ⟨y, hy, rfl⟩ := List.mem_map.mp hx
    have := List.rel_of_pairwise_cons hp hy
    omega
/-- the counts of all times -/
def counts (vs : List Van) : List Int := (List.range 201).map (fun t : Nat => (cnt vs (t : Int) : Int))
theorem counts_get {vs : List Van} {t : Nat} (h : t < 201) : (counts vs)[t]? = some (cnt vs (t : Int) : Int) := by
  unfold counts
  rw [List.getElem?_map, List.getElem?_range h]; rfl
theorem counts_most {vs : List Van} (G : Good vs) : (mostP vs).1 ∈ counts vs := by
  rcases most_at G with ⟨h, e⟩ | ⟨h1, h2, h3, h4⟩
  · subst e
    rw [h]
    exact List.mem_of_getElem? (i := 0) (counts_get (by decide))
  · have := counts_get (vs := vs) (t := (mostP vs).2.toNat) (by omega)
    rw [show (((mostP vs).2.toNat : Nat) : Int) = (mostP vs).2 by omega, h2] at this
    exact List.mem_of_getElem? this
theorem counts_le {vs : List Van} (G : Good vs) : ∀ x ∈ counts vs, x ≤ (mostP vs).1 := fun x hx => by
  unfold counts at hx
  obtain ⟨t, _, rfl⟩ := List.mem_map.mp hx
  exact most_ge G _
theorem counts_first {vs : List Van} (G : Good vs) (hp : 0 < (mostP vs).1) : (counts vs).findIdx? (fun x => decide (x = (mostP vs).1)) = some (mostP vs).2.toNat := by
  rcases most_at G with ⟨h, e⟩ | ⟨h1, h2, h3, h4⟩
  · rw [h] at hp; exact absurd hp (Int.lt_irrefl _)
  · rw [List.findIdx?_eq_some_iff_getElem]
    have hl : (counts vs).length = 201 := by unfold counts; rw [List.length_map, List.length_range]
    have g : ∀ t (h : t < (counts vs).length), (counts vs)[t] = (cnt vs (t : Int) : Int) := fun t h => by
      have := counts_get (vs := vs) (t := t) (by omega)
      rw [List.getElem?_eq_getElem h] at this
      exact Option.some.inj this
    refine ⟨by omega, ?_, fun j hj => ?_⟩
    · rw [g, show (((mostP vs).2.toNat : Nat) : Int) = (mostP vs).2 by omega, h2]
      exact decide_eq_true rfl
    · rw [g]
      have := most_first G (t := (j : Int)) (by omega) hp
      simp only [decide_eq_true_eq]
      omega
theorem few_most {vs : List Van} (G : Good vs) (hne : vs ≠ []) (h8 : (mostP vs).1 ≤ 8) : (List.range 8).find? (fun j => decide (max0 (waitsL (j + 1) vs) ≤ 0)) = some ((mostP vs).1.toNat - 1) := by
  rcases most_at G with ⟨h, e⟩ | ⟨h1, h2, h3, h4⟩
  · exact absurd e hne
  · have key : ∀ j, max0 (waitsL (j + 1) vs) ≤ 0 ↔ (mostP vs).1 ≤ ((j + 1 : Nat) : Int) := fun j => by
      rw [long_zero, nowait_most (by omega) G]
    rw [List.find?_range_eq_some]
    refine ⟨decide_eq_true ((key _).mpr (by omega)), by rw [List.mem_range]; omega, fun j hj => ?_⟩
    have := mt (key j).mp (by omega)
    simpa using this
theorem Good.snoc {vs : List Van} {v : Van} (G : Good vs) (hl : vs.length < 24) (hv : 0 ≤ v.1 ∧ v.1 ≤ 200 ∧ 1 ≤ v.2 ∧ v.2 ≤ 50) (hm : ∀ w ∈ vs, w.1 ≤ v.1) : Good (vs ++ [v]) where
  len := by rw [List.length_append, List.length_singleton]; omega
  rng := fun w hw => by
    rcases List.mem_append.mp hw with hw | hw
    · exact G.rng w hw
    · rw [List.mem_singleton.mp hw]; exact hv
  srt := fun i x y hx hy => by
    have hl2 := (List.getElem?_eq_some_iff.mp hy).1
    rw [List.length_append, List.length_singleton] at hl2
    rw [List.getElem?_append_left (by omega)] at hx
    by_cases c : i + 1 < vs.length
    · rw [List.getElem?_append_left c] at hy
      exact G.srt i x y hx hy
    · rw [List.getElem?_append_right (by omega), show i + 1 - vs.length = 0 by omega] at hy
      cases hy
      exact hm x (List.mem_of_getElem? hx)
theorem Good.nil : Good [] := ⟨Nat.zero_le _, fun v h => (List.not_mem_nil h).elim, fun i v w h => by cases h⟩
theorem waits_range {g : Nat} {vs : List Van} : (List.range vs.length).map (fun i => ((run g vs).B.getD i (0, 0)).2 - (vs.getD i (0, 0)).1) = waitsL g vs := by
  apply List.ext_getElem?
  intro i
  by_cases h : i < vs.length
  · obtain ⟨v, hv⟩ := some_of_lt h
    rw [List.getElem?_map, List.getElem?_range h, waits_get hv]
    simp only [Option.map_some]
    rw [List.getD_eq_getElem?_getD, List.getD_eq_getElem?_getD, atB hv, hv]
    rfl
  · rw [List.getElem?_eq_none (by simp; omega), List.getElem?_eq_none (by rw [waits_len]; omega)]
theorem ends_range {g : Nat} {vs : List Van} : (List.range vs.length).map (fun i => ((run g vs).B.getD i (0, 0)).2 + (vs.getD i (0, 0)).2) = endsL g vs := by
  apply List.ext_getElem?
  intro i
  by_cases h : i < vs.length
  · obtain ⟨v, hv⟩ := some_of_lt h
    rw [List.getElem?_map, List.getElem?_range h, ends_get hv]
    simp only [Option.map_some]
    rw [List.getD_eq_getElem?_getD, List.getD_eq_getElem?_getD, atB hv, hv]
    rfl
  · rw [List.getElem?_eq_none (by simp; omega), List.getElem?_eq_none (by rw [ends_len]; omega)]
end K27
set_option maxRecDepth 100000
set_option maxHeartbeats 8000000
namespace DD
open PySem PySem.Spec PyProof.Rows L2 GenW
open K27 (Van Good Sim run wh ga minL waitsL endsL max0 cnt at1 mostP)
/-! ### numbers -/
def isNum (d : D) (lo hi : Int) : Bool := match d with
  | .int i => decide (lo ≤ i) && decide (i ≤ hi)
  | _ => false
theorem isNum_int {d : D} {lo hi : Int} (h : isNum d lo hi = true) : ∃ i, d = .int i ∧ lo ≤ i ∧ i ≤ hi := by
  cases d with
  | int i => simp [isNum] at h; exact ⟨i, rfl, h⟩
  | _ => simp [isNum] at h
def is_number_w : WS := wRet (wAndV (wIsi "int" (wVar 0)) (wAndV (wNotV (wIsi "bool" (wVar 0))) (wChainE gLe gLe (wVar 1) (wVar 0) (wVar 2))))
def is_number_s : FD := fun ws Q EX => ∃ (d : D) (lo hi : Int), ws = [.d d, .d (.int lo), .d (.int hi)] ∧ Q (.bool (isNum d lo hi))
theorem mono_is_number : MonoF is_number_s := fun ws Q Q' EX h ⟨d, lo, hi, e, q⟩ => ⟨d, lo, hi, e, h _ q⟩
theorem meets_is_number (ws : List W) (Q : D → Prop) (EX : EXn) (h : is_number_s ws Q EX) : mkF 3 3 is_number_w ws Q EX := by
  obtain ⟨d, lo, hi, rfl, q⟩ := h
  refine ⟨rfl, ?_⟩
  cases d with
  | int i =>
    by_cases z : lo ≤ i
    · simpa [is_number_w, isTy, tyD, isNum, z] using q
    · simpa [is_number_w, isTy, tyD, isNum, z] using q
  | _ => simpa [is_number_w, isTy, tyD, isNum] using q
def areNums (d : D) (n lo hi : Int) : Bool := match d with
  | .tuple xs => decide ((xs.length : Int) = n) && xs.all (fun x => isNum x lo hi)
  | _ => false
def are_numbers_w : WS := wRet (wAndV (wIsi "tuple" (wVar 0)) (wAndV (wCmp2 gEq (wOpN (f1 aLen) (waCons (wVar 0) waNil)) (wVar 1)) (wAllG (wiSeq (wVar 0)) (wgName 4) wYes (wCall is_number_s (wwCons (wVar 4) (wwCons (wVar 2) (wwCons (wVar 3) wwNil)))) [4])))
def are_numbers_s : FD := fun ws Q EX => ∃ (d : D) (n lo hi : Int), ws = [.d d, .d (.int n), .d (.int lo), .d (.int hi)] ∧ Q (.bool (areNums d n lo hi))
theorem mono_are_numbers : MonoF are_numbers_s := fun ws Q Q' EX h ⟨d, n, lo, hi, e, q⟩ => ⟨d, n, lo, hi, e, h _ q⟩
theorem meets_are_numbers (ws : List W) (Q : D → Prop) (EX : EXn) (h : are_numbers_s ws Q EX) : mkF 4 5 are_numbers_w ws Q EX := by
  obtain ⟨d, n, lo, hi, rfl, q⟩ := h
  refine ⟨rfl, ?_⟩
  cases d with
  | tuple xs =>
    by_cases z : (xs.length : Int) = n
    · simp [are_numbers_w, isTy, tyD, z]
      refine ⟨xs, rfl, all_eval (fun x => isNum x lo hi) (fun x _ R r => ?_) ?_⟩
      · simp
        exact ⟨x, lo, hi, rfl, r⟩
      · simpa [areNums, z] using q
    · simpa [are_numbers_w, isTy, tyD, areNums, z] using q
  | _ => simpa [are_numbers_w, isTy, tyD, areNums] using q
theorem areNums2 {d : D} {lo hi : Int} (h : areNums d 2 lo hi = true) : ∃ a b, d = .tuple [.int a, .int b] ∧ lo ≤ a ∧ a ≤ hi ∧ lo ≤ b ∧ b ≤ hi := by
  cases d with
  | tuple xs =>
    simp only [areNums, Bool.and_eq_true, decide_eq_true_eq, List.all_eq_true] at h
    obtain ⟨h1, h2⟩ := h
    match xs, h1, h2 with
    | [x, y], _, h2 =>
      obtain ⟨a, rfl, h3⟩ := isNum_int (h2 x (by simp))
      obtain ⟨b, rfl, h4⟩ := isNum_int (h2 y (by simp))
      exact ⟨a, b, rfl, h3.1, h3.2, h4.1, h4.2⟩
    | [], h1, _ => simp at h1
    | [x], h1, _ => simp at h1
    | x :: y :: z :: r, h1, _ => simp at h1; omega
  | _ => simp [areNums] at h
/-! ### vans -/
def lastOk : D → Bool
  | .tuple [_, .int s] => decide (1 ≤ s) && decide (s ≤ 50)
  | _ => false
def isVan (d : D) : Bool := areNums d 2 0 200 && lastOk d
theorem isVan2 {d : D} (h : isVan d = true) : ∃ a b, d = .tuple [.int a, .int b] ∧ 0 ≤ a ∧ a ≤ 200 ∧ 1 ≤ b ∧ b ≤ 50 := by
  simp only [isVan, Bool.and_eq_true] at h
  obtain ⟨a, b, rfl, h1, h2, h3, h4⟩ := areNums2 h.1
  have := h.2
  simp [lastOk] at this
  exact ⟨a, b, rfl, h1, h2, this.1, this.2⟩
def is_van_w : WS := wRet (wAndV (wCall are_numbers_s (wwCons (wVar 0) (wwCons (wC (.int 2)) (wwCons (wC (.int 0)) (wwCons (wC (.int 200)) wwNil))))) (wChainE gLe gLe (wC (.int 1)) (wOp2 aIx (wVar 0) (wC (.int 1))) (wC (.int 50))))
def is_van_s : FD := fun ws Q EX => ∃ d : D, ws = [.d d] ∧ Q (.bool (isVan d))
theorem mono_is_van : MonoF is_van_s := fun ws Q Q' EX h ⟨d, e, q⟩ => ⟨d, e, h _ q⟩
theorem meets_is_van (ws : List W) (Q : D → Prop) (EX : EXn) (h : is_van_s ws Q EX) : mkF 1 1 is_van_w ws Q EX := by
  obtain ⟨d, rfl, q⟩ := h
  refine ⟨rfl, ?_⟩
  simp [is_van_w]
  refine ⟨d, 2, 0, 200, rfl, ?_⟩
  cases z : areNums d 2 0 200 with
  | false => simpa [isVan, z] using q
  | true =>
    obtain ⟨a, b, rfl, h1, h2, h3, h4⟩ := areNums2 z
    simp
    refine ⟨_, rfl, ?_⟩
    simp [isVan, z, lastOk] at q
    by_cases y : 1 ≤ b
    · simpa [y] using q
    · simpa [y] using q
abbrev vanD (v : Van) : D := .tuple [.int v.1, .int v.2]
def vansD (vs : List Van) : D := .tuple (vs.map vanD)
def vanOf : D → Van
  | .tuple [.int a, .int b] => (a, b)
  | _ => (0, 0)
def rdV : D → List Van
  | .tuple xs => xs.map vanOf
  | _ => []
def rdI : D → Int
  | .int i => i
  | _ => 0
def srtB (vs : List Van) : Bool := (vs.zip (vs.drop 1)).all (fun p => decide (p.1.1 ≤ p.2.1))
def vansOk : D → Bool
  | .tuple xs => decide (xs.length ≤ 24) && xs.all isVan && srtB (xs.map vanOf)
  | _ => false
theorem van_of {d : D} (h : isVan d = true) : vanD (vanOf d) = d := by
  obtain ⟨a, b, rfl, _⟩ := isVan2 h
  rfl
theorem vans_of {xs : List D} (h : xs.all isVan = true) : (xs.map vanOf).map vanD = xs := by
  rw [List.all_eq_true] at h
  rw [List.map_map]
  conv => rhs; rw [← List.map_id xs]
  exact List.map_congr_left fun x hx => van_of (h x hx)
theorem isVan_vanD {v : Van} (h : 0 ≤ v.1 ∧ v.1 ≤ 200 ∧ 1 ≤ v.2 ∧ v.2 ≤ 50) : isVan (vanD v) = true := by
  simp [isVan, areNums, isNum, lastOk]
  omega
theorem ok_read {v : D} (h : vansOk v = true) : v = vansD (rdV v) ∧ Good (rdV v) := by
  cases v with
  | tuple xs =>
    simp only [vansOk, Bool.and_eq_true, decide_eq_true_eq] at h
    obtain ⟨⟨h1, h2⟩, h3⟩ := h
    refine ⟨by unfold vansD rdV; rw [vans_of h2], ⟨by simpa [rdV] using h1, fun v hv => ?_, fun i v w hv hw => ?_⟩⟩
    · obtain ⟨x, hx, rfl⟩ := List.mem_map.mp hv
      obtain ⟨a, b, rfl, h⟩ := isVan2 (List.all_eq_true.mp h2 x hx)
      exact h
    · simp only [srtB, List.all_eq_true] at h3
      have := h3 (v, w) (List.mem_of_getElem? (i := i) (by
        rw [List.getElem?_zip_eq_some]
        exact ⟨hv, by rw [List.getElem?_drop, Nat.add_comm]; exact hw⟩))
      simpa using this
  | _ => simp [vansOk] at h
theorem good_srt {vs : List Van} (G : Good vs) : srtB vs = true := by
  simp only [srtB, List.all_eq_true]
  intro p hp
  obtain ⟨i, hi⟩ := List.getElem?_of_mem hp
  rw [List.getElem?_zip_eq_some, List.getElem?_drop, Nat.add_comm] at hi
  exact decide_eq_true (G.srt i p.1 p.2 hi.1 hi.2)
theorem rdV_vansD {vs : List Van} : rdV (vansD vs) = vs := by
  unfold rdV vansD
  simp only
  rw [List.map_map]
  conv => rhs; rw [← List.map_id vs]
  exact List.map_congr_left fun x hx => rfl
theorem good_ok {vs : List Van} (G : Good vs) : vansOk (vansD vs) = true := by
  have e : (vs.map vanD).map vanOf = vs := rdV_vansD
  simp only [vansD, vansOk, Bool.and_eq_true, decide_eq_true_eq, e]
  refine ⟨⟨by have := G.len; simpa using this, ?_⟩, good_srt G⟩
  rw [List.all_map, List.all_eq_true]
  exact fun v hv => isVan_vanD (G.rng v hv)
def check_vans_w : WS := wSeq (wSet 1 (wAndV (wIsi "tuple" (wVar 0)) (wAndV (wCmp2 gLe (wOpN (f1 aLen) (waCons (wVar 0) waNil)) (wC (.int 24))) (wAllG (wiSeq (wVar 0)) (wgName 2) wYes (wCall is_van_s (wwCons (wVar 2) wwNil)) [2])))) (wExpr (wCall check_s (wwCons (wAndV (wVar 1) (wAllG (wiZip (wVar 0) (wCut (wVar 0) (woSome (wC (.int 1))) woNone)) (wgTup 2 (wgCons (wgName 3) (wgCons (wgName 4) wgNil))) wYes (wCmp2 gLe (wOp2 aIx (wVar 3) (wC (.int 0))) (wOp2 aIx (wVar 4) (wC (.int 0)))) [3, 4])) (wwCons (wC (.str "vans")) wwNil))))
def check_vans_s : FD := fun ws Q EX => ∃ v : D, ws = [.d v] ∧ (vansOk v = true → Q .none) ∧ (vansOk v = false → EX (.bad "vans"))
theorem mono_check_vans : MonoF check_vans_s := fun ws Q Q' EX h ⟨d, e, q, r⟩ => ⟨d, e, fun z => h _ (q z), r⟩
theorem check_use {b : Bool} {n : Str} {Q : D → Prop} {EX : EXn} (hn : n.length ≤ 1000) (h1 : b = true → Q .none) (h2 : b = false → EX (.bad n)) : check_s [.d (.bool b), .d (.str n)] Q EX := ⟨b, n, rfl, hn, h1, h2⟩
theorem meets_check_vans (ws : List W) (Q : D → Prop) (EX : EXn) (h : check_vans_s ws Q EX) : mkF 1 5 check_vans_w ws Q EX := by
  obtain ⟨v, rfl, h1, h2⟩ := h
  refine ⟨rfl, ?_⟩
  cases v with
  | tuple xs =>
    by_cases z : xs.length ≤ 24
    · have z' : (xs.length : Int) ≤ 24 := by omega
      simp [check_vans_w, isTy, tyD, z']
      refine ⟨xs, rfl, all_eval isVan (fun x _ R r => ?_) ?_⟩
      · simp
        exact ⟨x, rfl, r⟩
      · cases y : xs.all isVan with
        | false =>
          simp
          exact check_use (by decide) (by simp) (fun _ => h2 (by simp [vansOk, y]))
        | true =>
          simp
          refine ⟨xs, cutD xs (some 1) none, ⟨rfl, rfl⟩, ?_⟩
          rw [cut1, ← vans_of y, ← List.map_drop, zipD_map]
          refine all_evalM (fun p => decide (p.1.1 ≤ p.2.1)) (fun p hp R r => ?_) ?_
          · simp [atD]
            exact ⟨_, rfl, _, rfl, r⟩
          · refine check_use (by decide) (fun e => h1 ?_) (fun e => h2 ?_)
            · simp only [vansOk, Bool.and_eq_true, decide_eq_true_eq]
              exact ⟨⟨z, y⟩, e⟩
            · simp only [vansOk, y, srtB, e, Bool.and_false]
    · have z' : ¬ (xs.length : Int) ≤ 24 := by omega
      simp [check_vans_w, isTy, tyD, z']
      exact check_use (by decide) (by simp) (fun _ => h2 (by simp [vansOk, z]))
  | _ =>
    simp [check_vans_w, isTy, tyD]
    exact check_use (by decide) (by simp) (fun _ => h2 rfl)
end DD
set_option maxRecDepth 100000
set_option maxHeartbeats 8000000
namespace DD
open PySem PySem.Spec PyProof.Rows L2 GenW
open K27 (Van Good Sim run wh ga minL waitsL endsL max0 cnt at1 mostP lenF lenB lenI)
section
variable {R : List Van → Nat → D} {ws : List W} {Q : D → Prop} {EX : EXn} {v g : D} {vs : List Van} {k : Nat}
def gsS (R : List Van → Nat → D) : FD := fun ws Q EX => ∃ v g : D, ws = [.d v, .d g] ∧ (vansOk v = false → EX (.bad "vans")) ∧ (vansOk v = true → isNum g 1 8 = false → EX (.bad "gates")) ∧ (vansOk v = true → isNum g 1 8 = true → Q (R (rdV v) (rdI g).toNat))
theorem mono_gsS : MonoF (gsS R) := fun ws Q Q' EX h ⟨v, g, e, h1, h2, h3⟩ => ⟨v, g, e, h1, h2, fun a b => h _ (h3 a b)⟩
theorem num_ok (h1 : 1 ≤ k) (h8 : k ≤ 8) : isNum (.int (k : Nat)) 1 8 = true := by simp [isNum]; omega
theorem gs_elim {P : List W → Prop} (h : gsS R ws Q EX) (bad1 : ∀ v g, vansOk v = false → EX (.bad "vans") → P [.d v, .d g]) (bad2 : ∀ vs g, Good vs → isNum g 1 8 = false → EX (.bad "gates") → P [.d (vansD vs), .d g]) (good : ∀ vs (k : Nat), Good vs → 1 ≤ k → k ≤ 8 → Q (R vs k) → P [.d (vansD vs), .d (.int (k : Nat))]) : P ws := by
  obtain ⟨v, g, rfl, h1, h2, h3⟩ := h
  cases hv : vansOk v with
  | false => exact bad1 v g hv (h1 hv)
  | true =>
    obtain ⟨e, G⟩ := ok_read hv
    cases hg : isNum g 1 8 with
    | false => rw [e]; exact bad2 _ g G hg (h2 hv hg)
    | true =>
      obtain ⟨i, rfl, a, b⟩ := isNum_int hg
      have := good (rdV v) i.toNat G (by omega) (by omega) (h3 hv hg)
      rw [show ((i.toNat : Nat) : Int) = i by omega] at this
      rw [e]; exact this
theorem gs_bad1 (h : vansOk v = false) (hx : EX (.bad "vans")) : gsS R [.d v, .d g] Q EX := ⟨v, g, rfl, fun _ => hx, fun z => by (rw [h] at z; cases z), fun z => by (rw [h] at z; cases z)⟩
theorem gs_bad2 (G : Good vs) (h : isNum g 1 8 = false) (hx : EX (.bad "gates")) : gsS R [.d (vansD vs), .d g] Q EX := ⟨_, g, rfl, fun z => (by rw [good_ok G] at z; cases z), fun _ _ => hx, fun _ z => by (rw [h] at z; cases z)⟩
theorem gs_good (G : Good vs) (h1 : 1 ≤ k) (h8 : k ≤ 8) (q : Q (R vs k)) : gsS R [.d (vansD vs), .d (.int (k : Nat))] Q EX :=
  ⟨_, _, rfl, fun z => (by rw [good_ok G] at z; cases z), fun _ z => (by rw [num_ok h1 h8] at z; cases z), fun _ _ => by
    rw [rdV_vansD]
    exact q⟩
theorem cv_good (G : Good vs) (q : Q .none) : check_vans_s [.d (vansD vs)] Q EX := ⟨_, rfl, fun _ => q, fun z => by (rw [good_ok G] at z; cases z)⟩
theorem cv_bad (h : vansOk v = false) (hx : EX (.bad "vans")) : check_vans_s [.d v] Q EX := ⟨_, rfl, fun z => (by rw [h] at z; cases z), fun _ => hx⟩
theorem best_min {xs : List Int} (h : 0 < xs.length) (q : Q (.int (minL xs))) : aBest minI (.list (xs.map .int)) Q := by
  cases xs with
  | nil => cases h
  | cons n ns => exact best_list rfl q
theorem best_first {xs : List Int} {q : Int → Bool} : ∀ (n : Nat), (∃ x ∈ xs, q x = true) → ∃ x r, (xs.zipIdx n).filter (fun p => q p.1) = (x, n + xs.findIdx q) :: r := by
  induction xs with
  | nil => intro n ⟨x, hx, _⟩; cases hx
  | cons y ys ih =>
    intro n ⟨x, hx, hq⟩
    rw [List.zipIdx_cons]
    by_cases c : q y = true
    · refine ⟨y, (ys.zipIdx (n + 1)).filter (fun p => q p.1), ?_⟩
      rw [List.filter_cons_of_pos (by simpa using c), List.findIdx_cons, c]
      rfl
    · have : ∃ x ∈ ys, q x = true := by
        rcases List.mem_cons.mp hx with rfl | hx
        · exact absurd hq c
        · exact ⟨x, hx, hq⟩
      obtain ⟨x', r, e⟩ := ih (n + 1) this
      refine ⟨x', r, ?_⟩
      rw [List.filter_cons_of_neg (by simpa using c), e, List.findIdx_cons]
      simp only [Bool.not_eq_true] at c
      rw [c, cond_false, show n + 1 + ys.findIdx q = n + (ys.findIdx q + 1) by omega]
end
/-! ### begins -/
abbrev bD (b : Nat × Int) : D := .tuple [.int (b.1 : Nat), .int b.2]
def beginsR (vs : List Van) (k : Nat) : D := .tuple ((run k vs).B.map bD)
abbrev begins_s : FD := gsS beginsR
theorem mono_begins : MonoF begins_s := mono_gsS
def begins_w : WS := wSeq (wExpr (wCall check_vans_s (wwCons (wVar 0) wwNil))) (wSeq (wExpr (wCall check_s (wwCons (wCall is_number_s (wwCons (wVar 1) (wwCons (wC (.int 1)) (wwCons (wC (.int 8)) wwNil)))) (wwCons (wC (.str "gates")) wwNil)))) (wSeq (wSetO 2 (wOp2 aMulL (wLst (waCons (wC (.int 0)) waNil)) (wVar 1))) (wSeq (wSetO 3 (wLst waNil)) (wSeq (wFor (wiSeq (wVar 0)) (wgTup 2 (wgCons (wgName 4) (wgCons (wgName 5) wgNil))) (wSeq (wSet 6 (wOpN (f2 aMax2) (waCons (wVar 4) (waCons (wOpN (f1 (aBest minI)) (waCons (wOwn 2) waNil)) waNil)))) (wSeq (wSet 7 (wOp2 aIx (wLc (wiEnum (wOwn 2)) (wgTup 2 (wgCons (wgName 8) (wgCons (wgName 9) wgNil))) (wTst2 gLe (wVar 9) (wVar 6)) (wVar 8) [8, 9]) (wC (.int 0)))) (wSeq (wApp 3 (wTup (waCons (wVar 7) (waCons (wVar 6) waNil)))) (wPut 2 (wVar 7) (wOp2 aAdd (wVar 6) (wVar 5))))))) (wRet (wOpN (f1 aTupleOf) (waCons (wOwn 3) waNil)))))))
theorem meets_begins (ws : List W) (Q : D → Prop) (EX : EXn) (h : begins_s ws Q EX) : mkF 2 10 begins_w ws Q EX := by
  refine gs_elim (P := fun ws => mkF 2 10 begins_w ws Q EX) h ?_ ?_ ?_
  · intro v g hv hx
    refine ⟨rfl, ?_⟩
    simp [begins_w]
    exact cv_bad hv hx
  · intro vs g G hg hx
    refine ⟨rfl, ?_⟩
    simp [begins_w]
    refine cv_good G ⟨g, 1, 8, rfl, ?_⟩
    rw [hg]
    exact check_use (by decide) (by simp) (fun _ => hx)
  · intro vs k G h1 h8 q
    refine ⟨rfl, ?_⟩
    simp [begins_w]
    refine cv_good G ⟨_, 1, 8, rfl, ?_⟩
    rw [num_ok h1 h8]
    refine check_use (by decide) (fun _ => ?_) (by simp)
    refine ⟨⟨by omega, by rw [sizeLine_eq]; omega⟩, _, rfl, ?_⟩
    refine loop_runM (fun i ρ => ∃ x4 x5 x6 x7 x8 x9, ρ = [some (.d (vansD vs)), some (.d (.int (k : Nat))), some (.own (.list ((run k (vs.take i)).F.map .int))), some (.own (.list ((run k (vs.take i)).B.map bD))), x4, x5, x6, x7, x8, x9]) ⟨none, none, none, none, none, none, by simp [K27.run, K27.init]⟩ ?_ ?_
    · intro i v ρ P e ⟨x4, x5, x6, x7, x8, x9, hρ⟩ hP
      subst hρ
      simp [vanD]
      have hF : 0 < (run k (vs.take i)).F.length := by rw [lenF]; exact h1
      refine best_min hF ?_
      simp
      rw [enumD_map]
      have hB : (run k (vs.take i)).B.length ≤ 24 := by have := G.len; rw [lenB, List.length_take]; omega
      have hw : max v.1 (minL (run k (vs.take i)).F) = wh (run k (vs.take i)) v := rfl
      rw [hw]
      refine comp_filtM (fun p => decide (p.1 ≤ wh (run k (vs.take i)) v)) (fun p => .int ((p.2 : Nat) : Int)) (fun p hp R r => ?_) (by simp; rw [lenF, sizeLine_eq]; omega) ?_
      · by_cases c : p.1 ≤ wh (run k (vs.take i)) v <;> simpa [c] using r
      · obtain ⟨x, r, e1⟩ := best_first (xs := (run k (vs.take i)).F) (q := fun t => decide (t ≤ wh (run k (vs.take i)) v)) 0 ⟨_, K27.minL_mem hF, by simp [← hw]; omega⟩
        rw [e1]
        have hg : (run k (vs.take i)).F.findIdx (fun t => decide (t ≤ wh (run k (vs.take i)) v)) = ga (run k (vs.take i)) v := rfl
        rw [hg, Nat.zero_add]
        refine ⟨_, atD_nat (i := 0) rfl, ?_⟩
        simp [ownL]
        rw [K27.run_take e] at hP
        simp only [K27.step, List.map_set, List.map_append] at hP
        exact ⟨by rw [sizeLine_eq]; omega, _, ixN_nat (K27.ga_lt hF), hP _ ⟨_, _, _, _, _, _, rfl⟩⟩
    · intro ρ ⟨x4, x5, x6, x7, x8, x9, hρ⟩
      subst hρ
      rw [List.take_length]
      simpa [beginsR] using q
/-! ### waits, ends -/
theorem zip_int {α β : Type} (f : α → β → Int) : ∀ (xs : List α) (ys : List β), (xs.zip ys).map (fun p => PyData.int (f p.1 p.2)) = (List.zipWith f xs ys).map .int
  | [], ys => by cases ys <;> rfl
  | x :: xs, [] => rfl
  | x :: xs, y :: ys => by rw [List.zip_cons_cons, List.map_cons, List.zipWith_cons_cons, List.map_cons, zip_int f xs ys]
theorem bz_len {k : Nat} {vs : List Van} (G : Good vs) : ((run k vs).B.zip vs).length ≤ sizeLine := by
  have := G.len
  rw [List.length_zip, lenB, sizeLine_eq]; omega
def waitsR (vs : List Van) (k : Nat) : D := .tuple ((waitsL k vs).map .int)
abbrev waits_s : FD := gsS waitsR
theorem mono_waits : MonoF waits_s := mono_gsS
def waits_w : WS := wRet (wOpN (f1 aTupleOf) (waCons (wLc (wiZip (wCall begins_s (wwCons (wVar 0) (wwCons (wVar 1) wwNil))) (wVar 0)) (wgTup 2 (wgCons (wgName 2) (wgCons (wgName 3) wgNil))) wYes (wOp2 aSub (wOp2 aIx (wVar 2) (wC (.int 1))) (wOp2 aIx (wVar 3) (wC (.int 0)))) [2, 3]) waNil))
theorem meets_waits (ws : List W) (Q : D → Prop) (EX : EXn) (h : waits_s ws Q EX) : mkF 2 4 waits_w ws Q EX := by
  refine gs_elim (P := fun ws => mkF 2 4 waits_w ws Q EX) h ?_ ?_ ?_
  · intro v g hv hx
    refine ⟨rfl, ?_⟩
    simp [waits_w]
    exact gs_bad1 hv hx
  · intro vs g G hg hx
    refine ⟨rfl, ?_⟩
    simp [waits_w]
    exact gs_bad2 G hg hx
  · intro vs k G h1 h8 q
    refine ⟨rfl, ?_⟩
    simp [waits_w]
    refine gs_good G h1 h8 ⟨_, _, Or.inr ⟨rfl, rfl⟩, ?_⟩
    rw [zipD_map]
    refine comp_mapM (fun p => .int (p.1.2 - p.2.1)) (fun p hp R r => ?_) (bz_len G) ?_
    · simp
      exact ⟨_, atD_nat (i := 1) rfl, _, atD_nat (i := 0) rfl, r⟩
    · rw [zip_int (fun (b : Nat × Int) (v : Van) => b.2 - v.1)]
      exact q
def longR (vs : List Van) (k : Nat) : D := .int (max0 (waitsL k vs))
abbrev longest_wait_s : FD := gsS longR
theorem mono_longest_wait : MonoF longest_wait_s := mono_gsS
def longest_wait_w : WS := wRet (wMaxD (wCall waits_s (wwCons (wVar 0) (wwCons (wVar 1) wwNil))) (wC (.int 0)))
theorem maxd {ns : List Int} {Q : D → Prop} (q : Q (.int (max0 ns))) : ∃ ms, rowD (.tuple (ns.map .int)) = some ms ∧ match ms with | [] => Q (.int 0) | n :: ns => Q (.int (maxI n ns)) := by
  refine ⟨ns, intsD_map ns, ?_⟩
  cases ns with
  | nil => exact q
  | cons n ns => exact q
theorem maxdL {ns : List Int} {Q : D → Prop} (q : Q (.int (max0 ns))) : ∃ ms, rowD (.list (ns.map .int)) = some ms ∧ match ms with | [] => Q (.int 0) | n :: ns => Q (.int (maxI n ns)) := by
  refine ⟨ns, intsD_map ns, ?_⟩
  cases ns with
  | nil => exact q
  | cons n ns => exact q
theorem meets_longest_wait (ws : List W) (Q : D → Prop) (EX : EXn) (h : longest_wait_s ws Q EX) : mkF 2 2 longest_wait_w ws Q EX := by
  refine gs_elim (P := fun ws => mkF 2 2 longest_wait_w ws Q EX) h ?_ ?_ ?_
  · intro v g hv hx
    refine ⟨rfl, ?_⟩
    simp [longest_wait_w]
    exact gs_bad1 hv hx
  · intro vs g G hg hx
    refine ⟨rfl, ?_⟩
    simp [longest_wait_w]
    exact gs_bad2 G hg hx
  · intro vs k G h1 h8 q
    refine ⟨rfl, ?_⟩
    simp [longest_wait_w]
    exact gs_good G h1 h8 (maxd q)
def endsR (vs : List Van) (k : Nat) : D := .int (max0 (endsL k vs))
abbrev ends_s : FD := gsS endsR
theorem mono_ends : MonoF ends_s := mono_gsS
def ends_w : WS := wRet (wMaxD (wLc (wiZip (wCall begins_s (wwCons (wVar 0) (wwCons (wVar 1) wwNil))) (wVar 0)) (wgTup 2 (wgCons (wgName 2) (wgCons (wgName 3) wgNil))) wYes (wOp2 aAdd (wOp2 aIx (wVar 2) (wC (.int 1))) (wOp2 aIx (wVar 3) (wC (.int 1)))) [2, 3]) (wC (.int 0)))
theorem meets_ends (ws : List W) (Q : D → Prop) (EX : EXn) (h : ends_s ws Q EX) : mkF 2 4 ends_w ws Q EX := by
  refine gs_elim (P := fun ws => mkF 2 4 ends_w ws Q EX) h ?_ ?_ ?_
  · intro v g hv hx
    refine ⟨rfl, ?_⟩
    simp [ends_w]
    exact gs_bad1 hv hx
  · intro vs g G hg hx
    refine ⟨rfl, ?_⟩
    simp [ends_w]
    exact gs_bad2 G hg hx
  · intro vs k G h1 h8 q
    refine ⟨rfl, ?_⟩
    simp [ends_w]
    refine gs_good G h1 h8 ⟨_, _, Or.inr ⟨rfl, rfl⟩, ?_⟩
    rw [zipD_map]
    refine comp_mapM (fun p => .int (p.1.2 + p.2.2)) (fun p hp R r => ?_) (bz_len G) ?_
    · simp
      exact ⟨_, atD_nat (i := 1) rfl, _, atD_nat (i := 1) rfl, r⟩
    · rw [zip_int (fun (b : Nat × Int) (v : Van) => b.2 + v.2)]
      exact maxdL q
/-! ### idle -/
def idleR (vs : List Van) (k : Nat) : D := .tuple ((run k vs).I.map .int)
abbrev idle_s : FD := gsS idleR
theorem mono_idle : MonoF idle_s := mono_gsS
def idle_w : WS := wSeq (wSetO 2 (wIf (wTru (wCall is_number_s (wwCons (wVar 1) (wwCons (wC (.int 1)) (wwCons (wC (.int 8)) wwNil))))) (wOp2 aMulL (wLst (waCons (wC (.int 0)) waNil)) (wVar 1)) (wLst waNil))) (wSeq (wSetO 3 (wOpN (f1 aListOf) (waCons (wOwn 2) waNil))) (wSeq (wFor (wiZip (wCall begins_s (wwCons (wVar 0) (wwCons (wVar 1) wwNil))) (wVar 0)) (wgTup 2 (wgCons (wgTup 2 (wgCons (wgName 4) (wgCons (wgName 5) wgNil))) (wgCons (wgName 6) wgNil))) (wSeq (wAugS 2 (aI0 fun i j => i + j) (wVar 4) (wOp2 aSub (wVar 5) (wOp2 aIx (wOwn 3) (wVar 4)))) (wPut 3 (wVar 4) (wOp2 aAdd (wVar 5) (wOp2 aIx (wVar 6) (wC (.int 1))))))) (wRet (wOpN (f1 aTupleOf) (waCons (wOwn 2) waNil)))))
theorem meets_idle (ws : List W) (Q : D → Prop) (EX : EXn) (h : idle_s ws Q EX) : mkF 2 7 idle_w ws Q EX := by
  refine gs_elim (P := fun ws => mkF 2 7 idle_w ws Q EX) h ?_ ?_ ?_
  · intro v g hv hx
    refine ⟨rfl, ?_⟩
    simp [idle_w]
    refine ⟨g, 1, 8, rfl, ?_⟩
    cases hg : isNum g 1 8 with
    | false =>
      simp
      exact gs_bad1 hv hx
    | true =>
      obtain ⟨i, rfl, a, b⟩ := isNum_int hg
      simp
      refine ⟨⟨by omega, by omega, by rw [sizeLine_eq]; omega⟩, ?_⟩
      exact gs_bad1 hv hx
  · intro vs g G hg hx
    refine ⟨rfl, ?_⟩
    simp [idle_w]
    refine ⟨g, 1, 8, rfl, ?_⟩
    rw [hg]
    simp
    exact gs_bad2 G hg hx
  · intro vs k G h1 h8 q
    refine ⟨rfl, ?_⟩
    simp [idle_w]
    refine ⟨_, 1, 8, rfl, ?_⟩
    rw [num_ok h1 h8]
    simp
    refine ⟨⟨by omega, by rw [sizeLine_eq]; omega⟩, ?_⟩
    refine gs_good G h1 h8 ⟨_, _, Or.inr ⟨rfl, rfl⟩, ?_⟩
    rw [zipD_map]
    refine loop_runM (fun i ρ => ∃ x4 x5 x6, ρ = [some (.d (vansD vs)), some (.d (.int (k : Nat))), some (.own (.list ((run k (vs.take i)).I.map .int))), some (.own (.list ((run k (vs.take i)).F.map .int))), x4, x5, x6]) ⟨none, none, none, by simp [K27.run, K27.init]⟩ ?_ ?_
    · intro i p ρ P e ⟨x4, x5, x6, hρ⟩ hP
      subst hρ
      rw [List.getElem?_zip_eq_some] at e
      obtain ⟨e1, e2⟩ := e
      rw [K27.atB e2] at e1
      have hF : 0 < (run k (vs.take i)).F.length := by rw [lenF]; exact h1
      have hg := K27.ga_lt (v := p.2) hF
      have hg' : ga (run k (vs.take i)) p.2 < (run k (vs.take i)).I.length := by rw [lenI]; rw [lenF] at hg; exact hg
      have e1 := Option.some.inj e1
      simp [← e1, ownL]
      refine ⟨_, ixN_nat hg', _, ⟨_, List.getElem?_eq_getElem hg', rfl⟩, _, atD_nat (by rw [List.getElem?_map, List.getElem?_eq_getElem hg]; rfl), ?_⟩
      simp [ownL]
      refine ⟨_, atD_nat (i := 1) rfl, ?_⟩
      simp
      rw [K27.run_take e2] at hP
      refine ⟨_, ixN_nat hg, ?_⟩
      have gi : (run k (vs.take i)).I.getD (ga (run k (vs.take i)) p.2) 0 = (run k (vs.take i)).I[ga (run k (vs.take i)) p.2] := by
        rw [List.getD_eq_getElem?_getD, List.getElem?_eq_getElem hg']; rfl
      have gf : (run k (vs.take i)).F.getD (ga (run k (vs.take i)) p.2) 0 = (run k (vs.take i)).F[ga (run k (vs.take i)) p.2] := by
        rw [List.getD_eq_getElem?_getD, List.getElem?_eq_getElem hg]; rfl
      simp only [K27.step, List.map_set, gi, gf] at hP
      exact hP _ ⟨_, _, _, rfl⟩
    · intro ρ ⟨x4, x5, x6, hρ⟩
      subst hρ
      simp [lenB]
      exact q
/-! ### the fewest gates -/
def fewD (vs : List Van) (l : Int) : D := match (List.range 8).find? (fun j => decide (max0 (waitsL (j + 1) vs) ≤ l)) with
  | some j => .int ((j + 1 : Nat) : Int)
  | none => .none
def fewest_gates_s : FD := fun ws Q EX => ∃ v l : D, ws = [.d v, .d l] ∧ (vansOk v = false → EX (.bad "vans")) ∧ (vansOk v = true → isNum l 0 200 = false → EX (.bad "longest")) ∧ (vansOk v = true → isNum l 0 200 = true → Q (fewD (rdV v) (rdI l)))
theorem mono_fewest_gates : MonoF fewest_gates_s := fun ws Q Q' EX h ⟨v, g, e, h1, h2, h3⟩ => ⟨v, g, e, h1, h2, fun a b => h _ (h3 a b)⟩
theorem fg_bad1 {v l : D} {Q : D → Prop} {EX : EXn} (h : vansOk v = false) (hx : EX (.bad "vans")) : fewest_gates_s [.d v, .d l] Q EX := ⟨v, l, rfl, fun _ => hx, fun z => by (rw [h] at z; cases z), fun z => by (rw [h] at z; cases z)⟩
theorem fg_bad2 {vs : List Van} {l : D} {Q : D → Prop} {EX : EXn} (G : Good vs) (h : isNum l 0 200 = false) (hx : EX (.bad "longest")) : fewest_gates_s [.d (vansD vs), .d l] Q EX := ⟨_, l, rfl, fun z => (by rw [good_ok G] at z; cases z), fun _ _ => hx, fun _ z => by (rw [h] at z; cases z)⟩
theorem fg_good {vs : List Van} {l : Int} {Q : D → Prop} {EX : EXn} (G : Good vs) (h0 : 0 ≤ l) (h1 : l ≤ 200) (q : Q (fewD vs l)) : fewest_gates_s [.d (vansD vs), .d (.int l)] Q EX :=
  ⟨_, _, rfl, fun z => (by rw [good_ok G] at z; cases z), fun _ z => (by simp [isNum, h0, h1] at z), fun _ _ => by
    rw [rdV_vansD]
    exact q⟩
def fewest_gates_w : WS := wSeq (wExpr (wCall check_vans_s (wwCons (wVar 0) wwNil))) (wSeq (wExpr (wCall check_s (wwCons (wCall is_number_s (wwCons (wVar 1) (wwCons (wC (.int 0)) (wwCons (wC (.int 200)) wwNil)))) (wwCons (wC (.str "longest")) wwNil)))) (wSeq (wFor (wiRng2 (wC (.int 1)) (wOp2 aAdd (wC (.int 8)) (wC (.int 1)))) (wgName 2) (wIfS (wTst2 gLe (wCall longest_wait_s (wwCons (wVar 0) (wwCons (wVar 2) wwNil))) (wVar 1)) (wRet (wVar 2)) wSkip)) (wRet (wC .none))))
theorem meets_fewest_gates (ws : List W) (Q : D → Prop) (EX : EXn) (h : fewest_gates_s ws Q EX) : mkF 2 3 fewest_gates_w ws Q EX := by
  obtain ⟨v, l, rfl, h1, h2, h3⟩ := h
  refine ⟨rfl, ?_⟩
  cases hv : vansOk v with
  | false =>
    simp [fewest_gates_w]
    exact cv_bad hv (h1 hv)
  | true =>
    obtain ⟨ev, G⟩ := ok_read hv
    cases hl : isNum l 0 200 with
    | false =>
      simp [fewest_gates_w]
      rw [ev]
      refine cv_good G ⟨l, 0, 200, rfl, ?_⟩
      rw [hl]
      exact check_use (by decide) (by simp) (fun _ => h2 hv hl)
    | true =>
      have q := h3 hv hl
      generalize rdV v = vs at ev G q
      subst ev
      obtain ⟨i, rfl, a, b⟩ := isNum_int hl
      have q : Q (fewD vs i) := q
      simp [fewest_gates_w]
      refine cv_good G ⟨_, 0, 200, rfl, ?_⟩
      rw [hl]
      refine check_use (by decide) (fun _ => ?_) (by simp)
      refine ⟨by unfold rBnd; omega, by unfold rBnd; omega, ?_⟩
      rw [rngD_map]
      refine loop_runM (fun j ρ => (∀ m, m < j → ¬ max0 (waitsL (m + 1) vs) ≤ i) ∧ ∃ x, ρ = [some (.d (vansD vs)), some (.d (.int i)), x]) ⟨fun m h => absurd h (Nat.not_lt_zero _), none, rfl⟩ ?_ ?_
      · intro j n ρ P e ⟨hno, x, hρ⟩ hP
        subst hρ
        have hj : j < 8 := by have := (List.getElem?_eq_some_iff.mp e).1; simpa using this
        rw [List.getElem?_range (by exact hj)] at e
        cases e
        simp
        rw [show (1 + (j : Int)) = ((j + 1 : Nat) : Int) by omega]
        refine gs_good G (by omega) (by omega) ?_
        by_cases c : max0 (waitsL (j + 1) vs) ≤ i
        · simp [longR, c]
          have : fewD vs i = .int ((j + 1 : Nat) : Int) := by
            unfold fewD
            have : (List.range 8).find? (fun j => decide (max0 (waitsL (j + 1) vs) ≤ i)) = some j := by
              rw [List.find?_range_eq_some]
              refine ⟨decide_eq_true c, by simpa using hj, fun m hm => ?_⟩
              simpa using hno m hm
            rw [this]
          rw [this] at q
          simpa using q
        · simp [longR, c]
          refine hP _ ⟨fun m hm => ?_, _, rfl⟩
          by_cases z : m = j
          · rw [z]; exact c
          · exact hno m (by omega)
      · intro ρ ⟨hno, x, hρ⟩
        subst hρ
        simp
        have : fewD vs i = .none := by
          unfold fewD
          have : (List.range 8).find? (fun j => decide (max0 (waitsL (j + 1) vs) ≤ i)) = none := by
            rw [List.find?_eq_none]
            intro m hm
            rw [List.mem_range] at hm
            have := hno m (by simpa using hm)
            simpa using this
          rw [this]
        rwa [this] at q
/-! ### the most at once -/
def pairD (p : Int × Int) : D := .tuple [.int p.1, .int p.2]
def most_at_once_s : FD := fun ws Q EX => ∃ v : D, ws = [.d v] ∧ (vansOk v = false → EX (.bad "vans")) ∧ (vansOk v = true → Q (pairD (mostP (rdV v))))
theorem mono_most_at_once : MonoF most_at_once_s := fun ws Q Q' EX h ⟨v, e, h1, h3⟩ => ⟨v, e, h1, fun a => h _ (h3 a)⟩
theorem mo_bad {v : D} {Q : D → Prop} {EX : EXn} (h : vansOk v = false) (hx : EX (.bad "vans")) : most_at_once_s [.d v] Q EX := ⟨v, rfl, fun _ => hx, fun z => by (rw [h] at z; cases z)⟩
theorem mo_good {vs : List Van} {Q : D → Prop} {EX : EXn} (G : Good vs) (q : Q (pairD (mostP vs))) : most_at_once_s [.d (vansD vs)] Q EX :=
  ⟨_, rfl, fun z => (by rw [good_ok G] at z; cases z), fun _ => by
    rw [rdV_vansD]
    exact q⟩
theorem filt_cnt {vs : List Van} {t : Int} : (((vs.filter (at1 t)).map vanD).length : Int) = (cnt vs t : Int) := by
  unfold K27.cnt
  rw [List.length_map, List.countP_eq_length_filter]
def most_at_once_w : WS := wSeq (wExpr (wCall check_vans_s (wwCons (wVar 0) wwNil))) (wSeq (wSet 1 (wTup (waCons (wC (.int 0)) (waCons (wC (.int 0)) waNil)))) (wSeq (wFor (wiSeq (wLc (wiSeq (wVar 0)) (wgName 3) wYes (wOp2 aIx (wVar 3) (wC (.int 0))) [3])) (wgName 2) (wSeq (wSet 4 (wOpN (f1 aLen) (waCons (wLc (wiSeq (wVar 0)) (wgName 3) (wChain gLe gLt (wOp2 aIx (wVar 3) (wC (.int 0))) (wVar 2) (wOp2 aAdd (wOp2 aIx (wVar 3) (wC (.int 0))) (wOp2 aIx (wVar 3) (wC (.int 1))))) (wVar 3) [3]) waNil))) (wSet 1 (wIf (wTst2 gGt (wVar 4) (wOp2 aIx (wVar 1) (wC (.int 0)))) (wTup (waCons (wVar 4) (waCons (wVar 2) waNil))) (wVar 1))))) (wRet (wVar 1))))
theorem meets_most_at_once (ws : List W) (Q : D → Prop) (EX : EXn) (h : most_at_once_s ws Q EX) : mkF 1 5 most_at_once_w ws Q EX := by
  obtain ⟨v, rfl, h1, h3⟩ := h
  refine ⟨rfl, ?_⟩
  cases hv : vansOk v with
  | false =>
    simp [most_at_once_w]
    exact cv_bad hv (h1 hv)
  | true =>
    obtain ⟨ev, G⟩ := ok_read hv
    have q := h3 hv
    generalize rdV v = vs at ev G q
    subst ev
    have hlen : vs.length ≤ sizeLine := by have := G.len; rw [sizeLine_eq]; omega
    simp [most_at_once_w]
    refine cv_good G ⟨_, rfl, ?_⟩
    refine comp_mapM (fun v => .int v.1) (fun v hv R r => ?_) hlen ?_
    · simp
      exact ⟨_, atD_nat (i := 0) rfl, r⟩
    · refine ⟨_, rfl, ?_⟩
      refine loop_runM (fun i ρ => ∃ x2 x3 x4, ρ = [some (.d (vansD vs)), some (.d (pairD ((vs.take i).foldl (K27.bst vs) (0, 0)))), x2, x3, x4]) ⟨none, none, none, rfl⟩ ?_ ?_
      · intro i v ρ P e ⟨x2, x3, x4, hρ⟩ hP
        subst hρ
        simp
        refine ⟨_, rfl, ?_⟩
        refine comp_filtM (at1 v.1) vanD (fun w hw R r => ?_) hlen ?_
        · simp
          refine ⟨_, atD_nat (i := 0) rfl, ?_⟩
          simp
          unfold at1 at r
          by_cases c : w.1 ≤ v.1
          · rw [if_pos c]
            refine ⟨_, atD_nat (i := 0) rfl, _, atD_nat (i := 1) rfl, ?_⟩
            by_cases c2 : v.1 < w.1 + w.2 <;> simpa [c, c2] using r
          · rw [if_neg c]
            simpa [c] using r
        · simp only [ev_lenL, filt_cnt]
          simp [pairD]
          refine ⟨_, atD_nat (i := 0) rfl, ?_⟩
          simp
          rw [K27.take_succ' e, List.foldl_append] at hP
          have hP : ∀ ρ', (∃ x2 x3 x4, ρ' = [some (.d (vansD vs)), some (.d (pairD (K27.bst vs ((vs.take i).foldl (K27.bst vs) (0, 0)) v))), x2, x3, x4]) → P ρ' := hP
          unfold K27.bst at hP
          by_cases c : ((vs.take i).foldl (K27.bst vs) (0, 0)).1 < (cnt vs v.1 : Int)
          · rw [if_pos c]
            have hP := hP
            unfold K27.bst at c
            simp only [gt_iff_lt, if_pos c] at hP
            exact hP _ ⟨_, _, _, rfl⟩
          · rw [if_neg c]
            have hP := hP
            unfold K27.bst at c
            simp only [gt_iff_lt, if_neg c] at hP
            exact hP _ ⟨_, _, _, rfl⟩
      · intro ρ ⟨x2, x3, x4, hρ⟩
        subst hρ
        simp
        exact q
end DD
set_option maxRecDepth 100000
set_option maxHeartbeats 8000000
namespace DD
open PySem PySem.Spec PyProof.Rows L2 GenW
open K27 (Van Good Sim wh ga minL waitsL endsL max0 cnt at1 mostP lenF lenB lenI lf sp fr)
def _law_through_time_s : FD := fun ws Q _ => ∃ (vs : List Van) (k : Nat), Good vs ∧ 1 ≤ k ∧ k ≤ 8 ∧ ws = [.d (vansD vs), .d (.int (k : Nat))] ∧ Q (.tuple [.list ((K27.run k vs).B.map bD), .list ((K27.run k vs).I.map .int)])
theorem mono__law_through_time : MonoF _law_through_time_s := fun ws Q Q' EX h ⟨vs, k, G, a, b, e, q⟩ => ⟨vs, k, G, a, b, e, h _ q⟩
def _law_through_time_w : WS := wSeq (wPar [2, 3, 4, 5] (wmO (wLst waNil) (wmO (wOp2 aMulL (wLst (waCons (wC (.int 0)) waNil)) (wVar 1)) (wmO (wOp2 aMulL (wLst (waCons (wC (.int 0)) waNil)) (wVar 1)) (wmD (wC (.int 0)) wmNil))))) (wSeq (wSet 6 (wOp2 aMulL (wLst (waCons (wC (.int 0)) waNil)) (wVar 1))) (wSeq (wWhile (wTst2 gLt (wOpN (f1 aLen) (waCons (wOwn 2) waNil)) (wOpN (f1 aLen) (waCons (wVar 0) waNil))) (wSeq (wFor (wiRng1 (wOpN (f1 aLen) (waCons (wVar 0) waNil))) (wgName 7) (wSeq (wSet 8 (wLc (wiRng1 (wVar 1)) (wgName 9) (wTst2 gEq (wOp2 aIx (wOwn 3) (wVar 9)) (wC (.int 0))) (wVar 9) [9])) (wIfS (wAnd (wTst2 gEq (wVar 7) (wOpN (f1 aLen) (waCons (wOwn 2) waNil))) (wAnd (wTst2 gLe (wOp2 aIx (wOp2 aIx (wVar 0) (wVar 7)) (wC (.int 0))) (wVar 5)) (wTst2 gNe (wVar 8) (wLst waNil)))) (wSeq (wApp 2 (wTup (waCons (wOp2 aIx (wVar 8) (wC (.int 0))) (waCons (wVar 5) waNil)))) (wSeq (wPut 3 (wOp2 aIx (wVar 8) (wC (.int 0))) (wOp2 aIx (wOp2 aIx (wVar 0) (wVar 7)) (wC (.int 1)))) (wPut 4 (wOp2 aIx (wVar 8) (wC (.int 0))) (wOp2 aIx (wVar 6) (wOp2 aIx (wVar 8) (wC (.int 0))))))) wSkip))) (wSeq (wSet 6 (wLc (wiRng1 (wVar 1)) (wgName 9) wYes (wOp2 aAdd (wOp2 aIx (wVar 6) (wVar 9)) (wIf (wTst2 gEq (wOp2 aIx (wOwn 3) (wVar 9)) (wC (.int 0))) (wC (.int 1)) (wC (.int 0)))) [9])) (wSeq (wSetO 3 (wLc (wiSeq (wOwn 3)) (wgName 7) wYes (wOpN (f2 aMax2) (waCons (wC (.int 0)) (waCons (wOp2 aSub (wVar 7) (wC (.int 1))) waNil))) [7])) (wSet 5 (wOp2 aAdd (wVar 5) (wC (.int 1)))))))) (wFrz 2 (wFrz 4 (wRet (wTup (waCons (wVar 2) (waCons (wVar 4) waNil))))))))
def ttE (vs : List Van) (k m : Nat) (t : Int) (x7 x8 x9 : Option W) : Env' :=
  [some (.d (vansD vs)), some (.d (.int (k : Nat))), some (.own (.list ((K27.run k (vs.take m)).B.map bD))), some (.own (.list ((lf (K27.run k (vs.take m)) t).map .int))), some (.own (.list ((K27.run k (vs.take m)).I.map .int))), some (.d (.int t)), some (.d (.list ((sp (K27.run k (vs.take m)) t).map .int))), x7, x8, x9]
theorem ints_get {xs : List Int} {j : Nat} {x : Int} (h : xs[j]? = some x) : (xs.map PyData.int)[j]? = some (.int x) := by rw [List.getElem?_map, h]; rfl
theorem range_ints {k : Nat} {p : Nat → Bool} : ((List.range k).filter p).map (fun j => PyData.int ((j : Nat) : Int)) = (((List.range k).filter p).map (fun j : Nat => (j : Int))).map .int := by rw [List.map_map]; rfl
abbrev ttBody : WS := (wSeq (wSet 8 (wLc (wiRng1 (wVar 1)) (wgName 9) (wTst2 gEq (wOp2 aIx (wOwn 3) (wVar 9)) (wC (.int 0))) (wVar 9) [9])) (wIfS (wAnd (wTst2 gEq (wVar 7) (wOpN (f1 aLen) (waCons (wOwn 2) waNil))) (wAnd (wTst2 gLe (wOp2 aIx (wOp2 aIx (wVar 0) (wVar 7)) (wC (.int 0))) (wVar 5)) (wTst2 gNe (wVar 8) (wLst waNil)))) (wSeq (wApp 2 (wTup (waCons (wOp2 aIx (wVar 8) (wC (.int 0))) (waCons (wVar 5) waNil)))) (wSeq (wPut 3 (wOp2 aIx (wVar 8) (wC (.int 0))) (wOp2 aIx (wOp2 aIx (wVar 0) (wVar 7)) (wC (.int 1)))) (wPut 4 (wOp2 aIx (wVar 8) (wC (.int 0))) (wOp2 aIx (wVar 6) (wOp2 aIx (wVar 8) (wC (.int 0))))))) wSkip))
theorem tt_for {vs : List Van} {k m : Nat} {t : Int} {x7 x8 x9 : Option W} {D0 : EndsW} (G : Good vs) (h1 : 1 ≤ k) (h8 : k ≤ 8) (hm : m ≤ vs.length) (hn : ∀ v, vs[m]? = some v → t ≤ wh (K27.run k (vs.take m)) v)
    (hq : ∀ m' x7 x8 x9, m' ≤ vs.length → (∀ v, vs[m']? = some v → t < wh (K27.run k (vs.take m')) v) → D0.nx (ttE vs k m' t x7 x8 x9)) : wLoop (wgName 7) ttBody D0 (rngD 0 vs.length) (ttE vs k m t x7 x8 x9) := by
  have hlen := G.len
  rw [rngD_map]
  refine loop_runM (fun i ρ => ∃ m' x7 x8 x9, ρ = ttE vs k m' t x7 x8 x9 ∧ m' ≤ vs.length ∧ (∀ v, vs[m']? = some v → t ≤ wh (K27.run k (vs.take m')) v) ∧ (∀ v, vs[m']? = some v → m' < i → t < wh (K27.run k (vs.take m')) v))
    ⟨m, x7, x8, x9, rfl, hm, hn, fun v _ h => absurd h (Nat.not_lt_zero _)⟩ ?_ ?_
  · intro i j ρ P e ⟨m, x7, x8, x9, hρ, hm, hn, hlt⟩ hP
    subst hρ
    have hi : i < vs.length := by have := (List.getElem?_eq_some_iff.mp e).1; simpa using this
    rw [List.getElem?_range hi] at e
    cases e
    have hF : (K27.run k (vs.take m)).F.length = k := lenF
    have hI : (K27.run k (vs.take m)).I.length = k := lenI
    have hB : (K27.run k (vs.take m)).B.length = m := by rw [lenB, List.length_take]; omega
    generalize hS : K27.run k (vs.take m) = S at hF hI hB hn hlt
    simp [ttE, hS]
    refine ⟨by unfold rBnd; omega, ?_⟩
    rw [rngD_map]
    refine comp_filtM (fun j => decide (S.F.getD j 0 ≤ t)) (fun j => .int ((j : Nat) : Int)) (fun j hj R r => ?_) (by rw [List.length_range, sizeLine_eq]; omega) ?_
    · rw [List.mem_range] at hj
      have e1 := List.getElem?_eq_getElem (l := S.F) (i := j) (by omega)
      simp
      refine ⟨_, atD_nat (ints_get (K27.lf_get e1)), ?_⟩
      simp
      rw [List.getD_eq_getElem?_getD, e1] at r
      simp at r
      by_cases c : S.F[j] ≤ t
      · rw [if_pos c] at r
        rw [if_pos (by omega)]; exact r
      · rw [if_neg c] at r
        rw [if_neg (by omega)]; exact r
    · rw [range_ints]
      generalize hX : ((List.range k).filter (fun j => decide (S.F.getD j 0 ≤ t))).map (fun j : Nat => (j : Int)) = X
      have hX : (fr k S t).map (fun j : Nat => (j : Int)) = X := hX
      simp [hB]
      by_cases c : i = m
      · subst c
        obtain ⟨v, hv⟩ := K27.some_of_lt hi
        have hv' : (vs.map vanD)[i]? = some (vanD v) := by rw [List.getElem?_map, hv]; rfl
        have hg0 := hn v hv
        have hvr := G.rng v (List.mem_of_getElem? hv)
        rw [if_pos rfl]
        refine ⟨_, atD_nat hv', _, atD_nat (i := 0) rfl, ?_⟩
        simp
        by_cases hw : wh S v = t
        · obtain ⟨r, er⟩ := K27.fr_head (v := v) hF (by omega) hw
          rw [er] at hX
          subst hX
          have hvt : v.1 ≤ t := ((K27.go_iff hF (by omega) hg0).mpr hw).1
          rw [if_pos hvt]
          have hgF := K27.ga_lt (s := S) (v := v) (by omega)
          have hgI : ga S v < S.I.length := by omega
          have eF := List.getElem?_eq_getElem hgF
          have eI := List.getElem?_eq_getElem hgI
          have hft : S.F[ga S v] ≤ t := by rw [← hw]; exact K27.ga_le (by omega)
          have e5 := K27.lf_step (t := t) hw (by omega)
          have e6 := K27.sp_step (t := t) hw (by omega) eI eF hft
          have e7 := K27.I_step (t := t) hw eI eF hft
          have e8 : (K27.step S v).B = S.B ++ [(ga S v, t)] := by rw [← hw]; rfl
          refine ne_nil shaped_ints ?_
          simp [ownL]
          refine ⟨_, atD_nat (i := 0) rfl, by rw [hB, sizeLine_eq]; omega, _, atD_nat hv', _, atD_nat (i := 1) rfl, _, atD_nat (i := 0) rfl, _, rfl, _, ixN_nat (by rw [K27.lf_len]; exact hgF), ?_⟩
          refine ⟨_, atD_nat (i := 0) rfl, _, atD_nat (ints_get (K27.sp_get eI eF)), _, atD_nat (i := 0) rfl, _, rfl, _, ixN_nat hgI, ?_⟩
          have := hP (ttE vs k (i + 1) t (some (.d (.int (i : Nat)))) (some (.d (.list (((ga S v :: r).map (fun j : Nat => (j : Int))).map .int)))) x9) ⟨i + 1, _, _, _, rfl, by omega, fun w hw2 => by
            have := K27.wh_le (g := k) (by omega) G hv hw2
            rw [hS, hw] at this
            exact this, fun w _ h => absurd h (Nat.lt_irrefl _)⟩
          unfold ttE at this
          rw [K27.run_take hv, hS, e5, e6, e7, e8] at this
          simpa [List.map_set] using this
        · have hlt2 : t < wh S v := by omega
          have fin : ∀ x, P (ttE vs k i t (some (.d (.int (i : Nat)))) x x9) := fun x => hP _ ⟨i, _, _, _, rfl, by omega, by rw [hS]; exact hn, fun w hw2 _ => by rw [hv] at hw2; cases hw2; rw [hS]; exact hlt2⟩
          by_cases hvt : v.1 ≤ t
          · rw [if_pos hvt]
            have he : fr k S t = [] := by
              apply Classical.byContradiction
              intro hne
              exact hw ((K27.go_iff hF (by omega) hg0).mp ⟨hvt, hne⟩)
            rw [he] at hX
            subst hX
            refine ne_nil shaped_ints ?_
            have := fin (some (.d (.list [])))
            unfold ttE at this
            rw [hS] at this
            simpa using this
          · rw [if_neg hvt]
            have := fin (some (.d (.list (X.map .int))))
            unfold ttE at this
            rw [hS] at this
            exact this
      · rw [if_neg (by omega)]
        have := hP (ttE vs k m t (some (.d (.int (i : Nat)))) (some (.d (.list (X.map .int)))) x9) ⟨m, _, _, _, rfl, hm, by rw [hS]; exact hn, fun w hw2 h => by rw [hS]; exact hlt w hw2 (by omega)⟩
        unfold ttE at this
        rw [hS] at this
        exact this
  · intro ρ ⟨m, x7, x8, x9, hρ, hm, hn, hlt⟩
    subst hρ
    refine hq m x7 x8 x9 hm fun v hv => hlt v hv ?_
    have := (List.getElem?_eq_some_iff.mp hv).1
    rw [List.length_range]; exact this
def ttW (vs : List Van) (k μ : Nat) (ρ : Env') : Prop := ∃ m x7 x8 x9, ∃ t : Nat, ρ = ttE vs k m t x7 x8 x9 ∧ m ≤ vs.length ∧ t ≤ 1401 ∧ (∀ v, vs[m]? = some v → (t : Int) ≤ wh (K27.run k (vs.take m)) v) ∧ μ = 1401 - t
theorem meets__law_through_time (ws : List W) (Q : D → Prop) (EX : EXn) (h : _law_through_time_s ws Q EX) : mkF 2 10 _law_through_time_w ws Q EX := by
  obtain ⟨vs, k, G, h1, h8, rfl, q⟩ := h
  refine ⟨rfl, ?_⟩
  have hlen := G.len
  simp [_law_through_time_w, setAll, Mv.w]
  refine ⟨⟨by omega, by rw [sizeLine_eq]; omega⟩, ?_⟩
  refine ⟨ttW vs k, ⟨1401, 0, none, none, none, 0, ?_, Nat.zero_le _, by omega, fun v hv => ?_, rfl⟩, ?_⟩
  · have e1 : lf (K27.init k) 0 = List.replicate k 0 := by
      unfold lf K27.init
      simp
    have e2 : sp (K27.init k) 0 = List.replicate k 0 := by
      unfold sp K27.init
      simp
    have e3 : K27.run k (vs.take 0) = K27.init k := rfl
    unfold ttE
    rw [e3]
    simp only [Int.natCast_zero, Int.cast_ofNat_Int]
    rw [e1, e2]
    simp [K27.init]
  · have := G.rng v (List.mem_of_getElem? hv)
    have := K27.wh_ge (s := K27.run k (vs.take 0)) (v := v)
    omega
  · intro μ ρ ⟨m, x7, x8, x9, t, hρ, hm, ht, hn, hμ⟩
    subst hρ
    have hB : (K27.run k (vs.take m)).B.length = m := by rw [lenB, List.length_take]; omega
    by_cases c : m < vs.length
    · simp [ttE, hB, vansD, c]
      refine ⟨by unfold rBnd; omega, ?_⟩
      refine tt_for (t := (t : Int)) G h1 h8 hm hn fun m' y7 y8 y9 hm' hn' => ?_
      have hF : (K27.run k (vs.take m')).F.length = k := lenF
      have hI : (K27.run k (vs.take m')).I.length = k := lenI
      have ht1 : t ≤ 1400 := by
        obtain ⟨v, hv⟩ := K27.some_of_lt c
        have := hn v hv
        have := K27.wh_le' (g := k) (by omega) G hv
        omega
      generalize hS : K27.run k (vs.take m') = S at hF hI hn'
      simp [ttE, hS]
      refine ⟨by unfold rBnd; omega, ?_⟩
      rw [rngD_map]
      refine comp_mapM (fun j : Nat => .int ((sp S t).getD j 0 + (if (lf S t).getD j 0 = 0 then 1 else 0))) (fun j hj R r => ?_) (by rw [List.length_range, sizeLine_eq]; omega) ?_
      · rw [List.mem_range] at hj
        have e1 := List.getElem?_eq_getElem (l := S.F) (i := j) (by omega)
        have e2 := List.getElem?_eq_getElem (l := S.I) (i := j) (by omega)
        simp
        refine ⟨_, atD_nat (ints_get (K27.sp_get e2 e1)), _, atD_nat (ints_get (K27.lf_get e1)), ?_⟩
        rw [List.getD_eq_getElem?_getD, List.getD_eq_getElem?_getD, K27.sp_get e2 e1, K27.lf_get e1] at r
        simp only [Option.getD_some] at r
        simp
        split at r
        · rename_i z
          rw [if_pos z]; exact r
        · rename_i z
          rw [if_neg z]; rwa [Int.add_zero] at r
      · have e : (List.range k).map (fun j : Nat => PyData.int ((sp S t).getD j 0 + (if (lf S t).getD j 0 = 0 then 1 else 0))) = (sp S (t + 1)).map .int := by
          rw [← K27.sp_tick hF hI, List.map_map]; rfl
        rw [e]
        refine ⟨_, rfl, ?_⟩
        refine comp_mapM (fun x : Int => .int (max 0 (x - 1))) (fun x hx R r => ?_) (by rw [K27.lf_len, hF, sizeLine_eq]; omega) ?_
        · simpa using r
        · have e3 : (lf S t).map (fun x : Int => PyData.int (max 0 (x - 1))) = (lf S (t + 1)).map .int := by
            rw [← K27.lf_tick, List.map_map]; rfl
          rw [e3]
          refine ⟨1401 - (t + 1), by omega, m', y7, y8, y9, t + 1, ?_, hm', by omega, fun v hv => ?_, rfl⟩
          · unfold ttE
            rw [hS]
            simp [vansD]
          · rw [hS]
            have := hn' v hv
            omega
    · have e : vs.take m = vs := List.take_of_length_le (by omega)
      simp [ttE, hB, vansD, c]
      rw [e]
      exact q
end DD
set_option maxRecDepth 100000
set_option maxHeartbeats 8000000
namespace DD
open PySem PySem.Spec PyProof.Rows L2 GenW
open K27 (Van Good Sim wh ga minL waitsL endsL max0 cnt at1 mostP lenF lenB lenI)
abbrev _law_alike_s : FD := alikeS 12
theorem plain_list {n : Nat} {xs : List D} (hl : xs.length ≤ sizeLine) (h : ∀ x ∈ xs, plainD n x = true) : plainD (n + 1) (.list xs) = true := by
  unfold plainD
  rw [List.all_eq_true.mpr h, decide_eq_true hl]
  rfl
theorem plain_tuple {n : Nat} {xs : List D} (hl : xs.length ≤ sizeLine) (h : ∀ x ∈ xs, plainD n x = true) : plainD (n + 1) (.tuple xs) = true := by
  unfold plainD
  rw [List.all_eq_true.mpr h, decide_eq_true hl]
  rfl
theorem plain_int {n : Nat} {i : Int} : plainD n (.int i) = true := by cases n <;> rfl
theorem plain_bool {n : Nat} {i : Bool} : plainD n (.bool i) = true := by cases n <;> rfl
theorem plain_none {n : Nat} : plainD n .none = true := by cases n <;> rfl
theorem plain_str {n : Nat} {x : Str} (h : SeqAt.shaped (.str x) = true) : plainD n (.str x) = true := by cases n <;> exact h
theorem plain_ints {n : Nat} {ns : List Int} : ∀ x ∈ ns.map PyData.int, plainD n x = true := fun x hx => by
  obtain ⟨i, _, rfl⟩ := List.mem_map.mp hx
  exact plain_int
theorem plain_bad {n : Nat} {x : Str} (h : SeqAt.shaped (.str x) = true) : plainD (n + 1) (.tuple [.str "bad", .str x, .bool true]) = true := by
  refine plain_tuple (by rw [sizeLine_eq]; simp) fun y hy => ?_
  simp only [List.mem_cons, List.not_mem_nil, or_false] at hy
  rcases hy with rfl | rfl | rfl
  · exact plain_str (by decide +kernel)
  · exact plain_str h
  · exact plain_bool
theorem alike_use {d : D} {Q : D → Prop} {EX : EXn} (h : plainD 12 d = true) (q : Q (.bool true)) : alikeS 12 [.d d, .d d] Q EX := ⟨d, rfl, h, q⟩
/-- a call that raises an error of a name -/
theorem heard_bad {f : FD} {ws : List W} {n : Str} {Q : D → Prop} (h : ∀ Q', f ws Q' (heardX fun d => d = .tuple [.str "bad", .str n, .bool true])) (q : Q (.tuple [.str "bad", .str n, .bool true])) : ∃ Q0 : D → Prop, (∀ d, Q0 d → Q d) ∧ f ws (fun _ => Q0 (.tuple [])) (heardX Q0) :=
  ⟨fun d => d = .tuple [.str "bad", .str n, .bool true], fun d e => by rw [e]; exact q, h _⟩
def _law_refused_s : FD := fun ws Q _ => ∃ vs : List Van, Good vs ∧ ws = [.row, .d (vansD vs)] ∧ Q (.bool true)
theorem mono__law_refused : MonoF _law_refused_s := fun ws Q Q' EX h ⟨vs, G, e, q⟩ => ⟨vs, G, e, h _ q⟩
def _law_refused_r8 : WS := (wRet (wCall _law_alike_s (wwCons (wVar 3) (wwCons (wOp2 aMulL (wLst (waCons (wTup (waCons (wC (.str "bad")) (waCons (wC (.str "vans")) (waCons (wC (.bool true)) waNil)))) waNil)) (wC (.int 5))) wwNil))))
def _law_refused_r7 : WS := wSeq (wSet 3 (wLst (waCons (wHeard (wCall begins_s (wwCons (wVar 2) (wwCons (wC .none) wwNil)))) (waCons (wHeard (wCall most_at_once_s (wwCons (wVar 2) wwNil))) (waCons (wHeard (wCall fewest_gates_s (wwCons (wVar 2) (wwCons (wC .none) wwNil)))) (waCons (wHeard (wCall longest_wait_s (wwCons (wVar 2) (wwCons (wC .none) wwNil)))) (waCons (wHeard (wCall idle_s (wwCons (wVar 2) (wwCons (wC .none) wwNil)))) waNil))))))) _law_refused_r8
def _law_refused_r6 : WS := wSeq (wSet 2 (wCall _law_pick_s (wwRow 0 (wwCons (wLst (waCons (wC .none) (waCons (wOpN (f1 aListOf) (waCons (wVar 1) waNil)) (waCons (wVar 4) (waCons (wOp2 aMul (wTup (waCons (wTup (waCons (wC (.int 0)) (waCons (wC (.int 1)) waNil))) waNil)) (wC (.int 25))) (waCons (wC (.str "0")) waNil)))))) wwNil)))) _law_refused_r7
def _law_refused_r5 : WS := wSeq (wSet 4 (wCall _law_pick_s (wwRow 0 (wwCons (wLst (waCons (wTup (waCons (wTup (waCons (wC (.int 1)) (waCons (wC (.int 1)) waNil))) (waCons (wTup (waCons (wC (.int 0)) (waCons (wC (.int 1)) waNil))) waNil))) (waCons (wTup (waCons (wTup (waCons (wC (.int 0)) (waCons (wC (.int 0)) waNil))) waNil)) (waCons (wTup (waCons (wTup (waCons (wC (.int 0)) (waCons (wC (.int 51)) waNil))) waNil)) (waCons (wTup (waCons (wTup (waCons (wC (.int 201)) (waCons (wC (.int 1)) waNil))) waNil)) (waCons (wTup (waCons (wTup (waCons (wNeg (wC (.int 1))) (waCons (wC (.int 1)) waNil))) waNil)) (waCons (wTup (waCons (wTup (waCons (wC (.int 0)) waNil)) waNil)) (waCons (wTup (waCons (wLst (waCons (wC (.int 0)) (waCons (wC (.int 1)) waNil))) waNil)) (waCons (wTup (waCons (wTup (waCons (wC (.bool true)) (waCons (wC (.int 1)) waNil))) waNil)) waNil))))))))) wwNil)))) _law_refused_r6
def _law_refused_r4 : WS := wSeq (wIfS (wNot (wTru (wCall _law_alike_s (wwCons (wVar 3) (wwCons (wOp2 aMulL (wLst (waCons (wTup (waCons (wC (.str "bad")) (waCons (wC (.str "gates")) (waCons (wC (.bool true)) waNil)))) waNil)) (wC (.int 4))) wwNil))))) (wRet (wC (.bool false))) wSkip) _law_refused_r5
def _law_refused_r3 : WS := wSeq (wSet 3 (wLst (waCons (wHeard (wCall begins_s (wwCons (wVar 1) (wwCons (wVar 2) wwNil)))) (waCons (wHeard (wCall waits_s (wwCons (wVar 1) (wwCons (wVar 2) wwNil)))) (waCons (wHeard (wCall idle_s (wwCons (wVar 1) (wwCons (wVar 2) wwNil)))) (waCons (wHeard (wCall ends_s (wwCons (wVar 1) (wwCons (wVar 2) wwNil)))) waNil)))))) _law_refused_r4
def _law_refused_r2 : WS := wSeq (wSet 2 (wCall _law_pick_s (wwRow 0 (wwCons (wLst (waCons (wC .none) (waCons (wC (.int 0)) (waCons (wC (.int 9)) (waCons (wC (.bool true)) (waCons (wC (.str "2")) waNil)))))) wwNil)))) _law_refused_r3
def _law_refused_r1 : WS := wSeq (wIfS (wNot (wTru (wCall _law_alike_s (wwCons (wHeard (wCall fewest_gates_s (wwCons (wVar 1) (wwCons (wVar 2) wwNil)))) (wwCons (wTup (waCons (wC (.str "bad")) (waCons (wC (.str "longest")) (waCons (wC (.bool true)) waNil)))) wwNil))))) (wRet (wC (.bool false))) wSkip) _law_refused_r2
def _law_refused_r0 : WS := wSeq (wSet 2 (wCall _law_pick_s (wwRow 0 (wwCons (wLst (waCons (wC .none) (waCons (wNeg (wC (.int 1))) (waCons (wC (.int 201)) (waCons (wC (.bool true)) (waCons (wC (.str "0")) waNil)))))) wwNil)))) _law_refused_r1
def _law_refused_w : WS := wSeq (wSet 2 (wCall _law_pick_s (wwRow 0 (wwCons (wLst (waCons (wC .none) (waCons (wNeg (wC (.int 1))) (waCons (wC (.int 201)) (waCons (wC (.bool true)) (waCons (wC (.str "0")) waNil)))))) wwNil)))) (wSeq (wIfS (wNot (wTru (wCall _law_alike_s (wwCons (wHeard (wCall fewest_gates_s (wwCons (wVar 1) (wwCons (wVar 2) wwNil)))) (wwCons (wTup (waCons (wC (.str "bad")) (waCons (wC (.str "longest")) (waCons (wC (.bool true)) waNil)))) wwNil))))) (wRet (wC (.bool false))) wSkip) (wSeq (wSet 2 (wCall _law_pick_s (wwRow 0 (wwCons (wLst (waCons (wC .none) (waCons (wC (.int 0)) (waCons (wC (.int 9)) (waCons (wC (.bool true)) (waCons (wC (.str "2")) waNil)))))) wwNil)))) (wSeq (wSet 3 (wLst (waCons (wHeard (wCall begins_s (wwCons (wVar 1) (wwCons (wVar 2) wwNil)))) (waCons (wHeard (wCall waits_s (wwCons (wVar 1) (wwCons (wVar 2) wwNil)))) (waCons (wHeard (wCall idle_s (wwCons (wVar 1) (wwCons (wVar 2) wwNil)))) (waCons (wHeard (wCall ends_s (wwCons (wVar 1) (wwCons (wVar 2) wwNil)))) waNil)))))) (wSeq (wIfS (wNot (wTru (wCall _law_alike_s (wwCons (wVar 3) (wwCons (wOp2 aMulL (wLst (waCons (wTup (waCons (wC (.str "bad")) (waCons (wC (.str "gates")) (waCons (wC (.bool true)) waNil)))) waNil)) (wC (.int 4))) wwNil))))) (wRet (wC (.bool false))) wSkip) (wSeq (wSet 4 (wCall _law_pick_s (wwRow 0 (wwCons (wLst (waCons (wTup (waCons (wTup (waCons (wC (.int 1)) (waCons (wC (.int 1)) waNil))) (waCons (wTup (waCons (wC (.int 0)) (waCons (wC (.int 1)) waNil))) waNil))) (waCons (wTup (waCons (wTup (waCons (wC (.int 0)) (waCons (wC (.int 0)) waNil))) waNil)) (waCons (wTup (waCons (wTup (waCons (wC (.int 0)) (waCons (wC (.int 51)) waNil))) waNil)) (waCons (wTup (waCons (wTup (waCons (wC (.int 201)) (waCons (wC (.int 1)) waNil))) waNil)) (waCons (wTup (waCons (wTup (waCons (wNeg (wC (.int 1))) (waCons (wC (.int 1)) waNil))) waNil)) (waCons (wTup (waCons (wTup (waCons (wC (.int 0)) waNil)) waNil)) (waCons (wTup (waCons (wLst (waCons (wC (.int 0)) (waCons (wC (.int 1)) waNil))) waNil)) (waCons (wTup (waCons (wTup (waCons (wC (.bool true)) (waCons (wC (.int 1)) waNil))) waNil)) waNil))))))))) wwNil)))) (wSeq (wSet 2 (wCall _law_pick_s (wwRow 0 (wwCons (wLst (waCons (wC .none) (waCons (wOpN (f1 aListOf) (waCons (wVar 1) waNil)) (waCons (wVar 4) (waCons (wOp2 aMul (wTup (waCons (wTup (waCons (wC (.int 0)) (waCons (wC (.int 1)) waNil))) waNil)) (wC (.int 25))) (waCons (wC (.str "0")) waNil)))))) wwNil)))) (wSeq (wSet 3 (wLst (waCons (wHeard (wCall begins_s (wwCons (wVar 2) (wwCons (wC .none) wwNil)))) (waCons (wHeard (wCall most_at_once_s (wwCons (wVar 2) wwNil))) (waCons (wHeard (wCall fewest_gates_s (wwCons (wVar 2) (wwCons (wC .none) wwNil)))) (waCons (wHeard (wCall longest_wait_s (wwCons (wVar 2) (wwCons (wC .none) wwNil)))) (waCons (wHeard (wCall idle_s (wwCons (wVar 2) (wwCons (wC .none) wwNil)))) waNil))))))) (wRet (wCall _law_alike_s (wwCons (wVar 3) (wwCons (wOp2 aMulL (wLst (waCons (wTup (waCons (wC (.str "bad")) (waCons (wC (.str "vans")) (waCons (wC (.bool true)) waNil)))) waNil)) (wC (.int 5))) wwNil)))))))))))
theorem _law_refused_r : _law_refused_w = _law_refused_r0 := rfl
theorem pick_use {xs : List D} {Q : D → Prop} {EX : EXn} (h0 : 0 < xs.length) (h1 : xs.length < 2 ^ 60) (q : ∀ x ∈ xs, Q x) : _law_pick_s [.row, .d (.list xs)] Q EX := ⟨_, xs, rfl, rfl, h0, h1, q⟩
theorem meets__law_refused (ws : List W) (Q : D → Prop) (EX : EXn) (h : _law_refused_s ws Q EX) : mkF 2 5 _law_refused_w ws Q EX := by
  obtain ⟨vs, G, rfl, q⟩ := h
  refine ⟨rfl, ?_⟩
  have hlen := G.len
  rw [_law_refused_r]
  simp [_law_refused_r0]
  refine pick_use (by simp) (by simp) fun bad hb => ?_
  have hbad : isNum bad 0 200 = false := by
    simp at hb
    rcases hb with rfl | rfl | rfl | rfl | rfl <;> rfl
  simp [_law_refused_r1, plainE]
  refine heard_bad (fun Q' => fg_bad2 G hbad rfl) (alike_use (plain_bad (by decide +kernel)) ?_)
  simp [_law_refused_r2]
  refine pick_use (by simp) (by simp) fun bad hb => ?_
  have hbad : isNum bad 1 8 = false := by
    simp at hb
    rcases hb with rfl | rfl | rfl | rfl | rfl <;> rfl
  simp [_law_refused_r3, plainE]
  refine heard_bad (fun Q' => gs_bad2 G hbad rfl) ?_
  refine heard_bad (fun Q' => gs_bad2 G hbad rfl) ?_
  refine heard_bad (fun Q' => gs_bad2 G hbad rfl) ?_
  refine heard_bad (fun Q' => gs_bad2 G hbad rfl) ?_
  simp [_law_refused_r4]
  refine ⟨by rw [sizeLine_eq]; decide, alike_use (plain_list (by rw [sizeLine_eq]; simp) fun y hy => ?_) ?_⟩
  · simp only [List.mem_cons, List.not_mem_nil, or_false, or_self] at hy
    rw [hy]
    exact plain_bad (by decide +kernel)
  simp [_law_refused_r5]
  refine pick_use (by simp) (by simp) fun some hs => ?_
  have hsome : vansOk some = false := by
    simp at hs
    rcases hs with rfl | rfl | rfl | rfl | rfl | rfl | rfl | rfl <;> decide +kernel
  simp [_law_refused_r6]
  simp only [vansD, ev_lstT]
  refine pick_use (by simp) (by simp) fun bad hb => ?_
  have hbad : vansOk bad = false := by
    simp at hb
    rcases hb with rfl | rfl | rfl | rfl | rfl
    · rfl
    · rfl
    · exact hsome
    · decide +kernel
    · rfl
  simp [_law_refused_r7, plainE]
  refine heard_bad (fun Q' => gs_bad1 hbad rfl) ?_
  refine heard_bad (fun Q' => mo_bad hbad rfl) ?_
  refine heard_bad (fun Q' => fg_bad1 hbad rfl) ?_
  refine heard_bad (fun Q' => gs_bad1 hbad rfl) ?_
  refine heard_bad (fun Q' => gs_bad1 hbad rfl) ?_
  simp [_law_refused_r8]
  refine ⟨by rw [sizeLine_eq]; decide, alike_use (plain_list (by rw [sizeLine_eq]; simp) fun y hy => ?_) ?_⟩
  · simp only [List.mem_cons, List.not_mem_nil, or_false, or_self] at hy
    rw [hy]
    exact plain_bad (by decide +kernel)
  exact q
end DD
set_option maxRecDepth 100000
set_option maxHeartbeats 8000000
namespace DD
open PySem PySem.Spec PyProof.Rows L2 GenW
open K27 (Van Good Sim wh ga minL waitsL endsL max0 cnt at1 mostP lenF lenB lenI gl counts)
def law_r17 : WS := (wRet (wCall _law_refused_s (wwRow 1 (wwCons (wVar 8) wwNil))))
def law_r16 : WS := wSeq (wIfS (wAnd (wTst2 gLe (wVar 20) (wC (.int 8))) (wAnd (wTst2 gGt (wVar 2) (wC (.int 0))) (wNot (wTru (wCall _law_alike_s (wwCons (wCall fewest_gates_s (wwCons (wVar 8) (wwCons (wC (.int 0)) wwNil))) (wwCons (wVar 20) wwNil))))))) (wRet (wC (.bool false))) wSkip) law_r17
def law_r15 : WS := wSeq (wIfS (wNot (wTru (wCall _law_alike_s (wwCons (wCall most_at_once_s (wwCons (wVar 8) wwNil)) (wwCons (wTup (waCons (wVar 20) (waCons (wIf (wTst2 gGt (wVar 20) (wC (.int 0))) (wIndex (wVar 18) (wVar 20)) (wC (.int 0))) waNil))) wwNil))))) (wRet (wC (.bool false))) wSkip) law_r16
def law_r14 : WS := wSeq (wSet 20 (wOpN (f1 (aBest maxI)) (waCons (wVar 18) waNil))) law_r15
def law_r13 : WS := wSeq (wSet 18 (wLc (wiRng1 (wC (.int 201))) (wgName 5) wYes (wOpN (f1 aLen) (waCons (wLc (wiSeq (wVar 8)) (wgName 19) (wChain gLe gLt (wOp2 aIx (wVar 19) (wC (.int 0))) (wVar 5) (wOp2 aAdd (wOp2 aIx (wVar 19) (wC (.int 0))) (wOp2 aIx (wVar 19) (wC (.int 1))))) (wVar 19) [19]) waNil)) [5])) law_r14
def law_r12 : WS := wSeq (wIfS (wNot (wTru (wCall _law_alike_s (wwCons (wVar 14) (wwCons (wIf (wTst2 gNe (wVar 15) (wLst waNil)) (wOpN (f1 (aBest minI)) (waCons (wVar 15) waNil)) (wC .none)) wwNil))))) (wRet (wC (.bool false))) wSkip) law_r13
def law_r11 : WS := wSeq (wFor (wiRng2 (wC (.int 1)) (wC (.int 9))) (wgName 7) (wSeq (wSet 16 (wOp2 aIx (wCall _law_through_time_s (wwCons (wVar 8) (wwCons (wVar 7) wwNil))) (wC (.int 0)))) (wSet 15 (wOp2 aAddL (wVar 15) (wIf (wTst2 gLe (wOpN (f1 (aBest maxI)) (waCons (wOp2 aAddL (wLst (waCons (wC (.int 0)) waNil)) (wLc (wiRng1 (wVar 2)) (wgName 17) wYes (wOp2 aSub (wOp2 aIx (wOp2 aIx (wVar 16) (wVar 17)) (wC (.int 1))) (wOp2 aIx (wOp2 aIx (wVar 8) (wVar 17)) (wC (.int 0)))) [17])) waNil)) (wVar 13)) (wLst (waCons (wVar 7) waNil)) (wLst waNil)))))) law_r12
def law_r10 : WS := wSeq (wSet 15 (wLst waNil)) law_r11
def law_r9 : WS := wSeq (wSet 14 (wCall fewest_gates_s (wwCons (wVar 8) (wwCons (wVar 13) wwNil)))) law_r10
def law_r8 : WS := wSeq (wSet 13 (wCall _law_pick_s (wwRow 1 (wwCons (wLst (waCons (wC (.int 0)) (waCons (wCall _law_taken_s (wwRow 1 (wwCons (wC (.int 5)) wwNil))) (waCons (wCall _law_taken_s (wwRow 1 (wwCons (wC (.int 201)) wwNil))) waNil)))) wwNil)))) law_r9
def law_r7 : WS := wSeq (wIfS (wOr (wNot (wTru (wCall _law_alike_s (wwCons (wCall longest_wait_s (wwCons (wVar 8) (wwCons (wVar 9) wwNil))) (wwCons (wOpN (f1 (aBest maxI)) (waCons (wOp2 aAdd (wTup (waCons (wC (.int 0)) waNil)) (wVar 12)) waNil)) wwNil))))) (wNot (wTru (wCall _law_alike_s (wwCons (wCall ends_s (wwCons (wVar 8) (wwCons (wVar 9) wwNil))) (wwCons (wOpN (f1 (aBest maxI)) (waCons (wOp2 aAddL (wLst (waCons (wC (.int 0)) waNil)) (wLc (wiRng1 (wVar 2)) (wgName 7) wYes (wOp2 aAdd (wOp2 aIx (wOp2 aIx (wVar 10) (wVar 7)) (wC (.int 1))) (wOp2 aIx (wOp2 aIx (wVar 8) (wVar 7)) (wC (.int 1)))) [7])) waNil)) wwNil)))))) (wRet (wC (.bool false))) wSkip) law_r8
def law_r6 : WS := wSeq (wIfS (wNot (wTru (wCall _law_alike_s (wwCons (wLst (waCons (wCall begins_s (wwCons (wVar 8) (wwCons (wVar 9) wwNil))) (waCons (wCall waits_s (wwCons (wVar 8) (wwCons (wVar 9) wwNil))) (waCons (wCall idle_s (wwCons (wVar 8) (wwCons (wVar 9) wwNil))) waNil)))) (wwCons (wLst (waCons (wOpN (f1 aTupleOf) (waCons (wVar 10) waNil)) (waCons (wVar 12) (waCons (wOpN (f1 aTupleOf) (waCons (wVar 11) waNil)) waNil)))) wwNil))))) (wRet (wC (.bool false))) wSkip) law_r7
def law_r5 : WS := wSeq (wSet 12 (wOpN (f1 aTupleOf) (waCons (wLc (wiRng1 (wVar 2)) (wgName 7) wYes (wOp2 aSub (wOp2 aIx (wOp2 aIx (wVar 10) (wVar 7)) (wC (.int 1))) (wOp2 aIx (wOp2 aIx (wVar 8) (wVar 7)) (wC (.int 0)))) [7]) waNil))) law_r6
def law_r4 : WS := wSeq (wAsg (wCall _law_through_time_s (wwCons (wVar 8) (wwCons (wVar 9) wwNil))) (wgTup 2 (wgCons (wgName 10) (wgCons (wgName 11) wgNil)))) law_r5
def law_r3 : WS := wSeq (wPar [8, 9] (wmD (wOpN (f1 aTupleOf) (waCons (wOwn 6) waNil)) (wmD (wOp2 aAdd (wC (.int 1)) (wCall _law_taken_s (wwRow 1 (wwCons (wCall _law_pick_s (wwRow 1 (wwCons (wLst (waCons (wC (.int 3)) (waCons (wC (.int 8)) waNil))) wwNil))) wwNil)))) wmNil))) law_r4
def law_r2 : WS := wSeq (wFor (wiRng1 (wVar 2)) (wgName 7) (wSeq (wSet 5 (wOpN (f2 aMin2) (waCons (wC (.int 200)) (waCons (wOp2 aAdd (wVar 5) (wCall _law_taken_s (wwRow 1 (wwCons (wVar 3) wwNil)))) waNil)))) (wApp 6 (wTup (waCons (wVar 5) (waCons (wOp2 aAdd (wC (.int 1)) (wCall _law_taken_s (wwRow 1 (wwCons (wVar 4) wwNil)))) waNil)))))) law_r3
def law_r1 : WS := wSeq (wPar [3, 4, 5, 6] (wmD (wCall _law_pick_s (wwRow 1 (wwCons (wLst (waCons (wC (.int 1)) (waCons (wC (.int 3)) (waCons (wC (.int 12)) waNil)))) wwNil))) (wmD (wCall _law_pick_s (wwRow 1 (wwCons (wLst (waCons (wC (.int 2)) (waCons (wC (.int 9)) (waCons (wC (.int 50)) waNil)))) wwNil))) (wmD (wCall _law_taken_s (wwRow 1 (wwCons (wC (.int 4)) wwNil))) (wmO (wLst waNil) wmNil))))) law_r2
def law_r0 : WS := wSeq (wSet 2 (wCall _law_taken_s (wwRow 1 (wwCons (wCall _law_pick_s (wwRow 1 (wwCons (wLst (waCons (wC (.int 5)) (waCons (wC (.int 12)) (waCons (wC (.int 25)) waNil)))) wwNil))) wwNil)))) law_r1
def law_w : WS := wSeq (wSet 2 (wCall _law_taken_s (wwRow 1 (wwCons (wCall _law_pick_s (wwRow 1 (wwCons (wLst (waCons (wC (.int 5)) (waCons (wC (.int 12)) (waCons (wC (.int 25)) waNil)))) wwNil))) wwNil)))) (wSeq (wPar [3, 4, 5, 6] (wmD (wCall _law_pick_s (wwRow 1 (wwCons (wLst (waCons (wC (.int 1)) (waCons (wC (.int 3)) (waCons (wC (.int 12)) waNil)))) wwNil))) (wmD (wCall _law_pick_s (wwRow 1 (wwCons (wLst (waCons (wC (.int 2)) (waCons (wC (.int 9)) (waCons (wC (.int 50)) waNil)))) wwNil))) (wmD (wCall _law_taken_s (wwRow 1 (wwCons (wC (.int 4)) wwNil))) (wmO (wLst waNil) wmNil))))) (wSeq (wFor (wiRng1 (wVar 2)) (wgName 7) (wSeq (wSet 5 (wOpN (f2 aMin2) (waCons (wC (.int 200)) (waCons (wOp2 aAdd (wVar 5) (wCall _law_taken_s (wwRow 1 (wwCons (wVar 3) wwNil)))) waNil)))) (wApp 6 (wTup (waCons (wVar 5) (waCons (wOp2 aAdd (wC (.int 1)) (wCall _law_taken_s (wwRow 1 (wwCons (wVar 4) wwNil)))) waNil)))))) (wSeq (wPar [8, 9] (wmD (wOpN (f1 aTupleOf) (waCons (wOwn 6) waNil)) (wmD (wOp2 aAdd (wC (.int 1)) (wCall _law_taken_s (wwRow 1 (wwCons (wCall _law_pick_s (wwRow 1 (wwCons (wLst (waCons (wC (.int 3)) (waCons (wC (.int 8)) waNil))) wwNil))) wwNil)))) wmNil))) (wSeq (wAsg (wCall _law_through_time_s (wwCons (wVar 8) (wwCons (wVar 9) wwNil))) (wgTup 2 (wgCons (wgName 10) (wgCons (wgName 11) wgNil)))) (wSeq (wSet 12 (wOpN (f1 aTupleOf) (waCons (wLc (wiRng1 (wVar 2)) (wgName 7) wYes (wOp2 aSub (wOp2 aIx (wOp2 aIx (wVar 10) (wVar 7)) (wC (.int 1))) (wOp2 aIx (wOp2 aIx (wVar 8) (wVar 7)) (wC (.int 0)))) [7]) waNil))) (wSeq (wIfS (wNot (wTru (wCall _law_alike_s (wwCons (wLst (waCons (wCall begins_s (wwCons (wVar 8) (wwCons (wVar 9) wwNil))) (waCons (wCall waits_s (wwCons (wVar 8) (wwCons (wVar 9) wwNil))) (waCons (wCall idle_s (wwCons (wVar 8) (wwCons (wVar 9) wwNil))) waNil)))) (wwCons (wLst (waCons (wOpN (f1 aTupleOf) (waCons (wVar 10) waNil)) (waCons (wVar 12) (waCons (wOpN (f1 aTupleOf) (waCons (wVar 11) waNil)) waNil)))) wwNil))))) (wRet (wC (.bool false))) wSkip) (wSeq (wIfS (wOr (wNot (wTru (wCall _law_alike_s (wwCons (wCall longest_wait_s (wwCons (wVar 8) (wwCons (wVar 9) wwNil))) (wwCons (wOpN (f1 (aBest maxI)) (waCons (wOp2 aAdd (wTup (waCons (wC (.int 0)) waNil)) (wVar 12)) waNil)) wwNil))))) (wNot (wTru (wCall _law_alike_s (wwCons (wCall ends_s (wwCons (wVar 8) (wwCons (wVar 9) wwNil))) (wwCons (wOpN (f1 (aBest maxI)) (waCons (wOp2 aAddL (wLst (waCons (wC (.int 0)) waNil)) (wLc (wiRng1 (wVar 2)) (wgName 7) wYes (wOp2 aAdd (wOp2 aIx (wOp2 aIx (wVar 10) (wVar 7)) (wC (.int 1))) (wOp2 aIx (wOp2 aIx (wVar 8) (wVar 7)) (wC (.int 1)))) [7])) waNil)) wwNil)))))) (wRet (wC (.bool false))) wSkip) (wSeq (wSet 13 (wCall _law_pick_s (wwRow 1 (wwCons (wLst (waCons (wC (.int 0)) (waCons (wCall _law_taken_s (wwRow 1 (wwCons (wC (.int 5)) wwNil))) (waCons (wCall _law_taken_s (wwRow 1 (wwCons (wC (.int 201)) wwNil))) waNil)))) wwNil)))) (wSeq (wSet 14 (wCall fewest_gates_s (wwCons (wVar 8) (wwCons (wVar 13) wwNil)))) (wSeq (wSet 15 (wLst waNil)) (wSeq (wFor (wiRng2 (wC (.int 1)) (wC (.int 9))) (wgName 7) (wSeq (wSet 16 (wOp2 aIx (wCall _law_through_time_s (wwCons (wVar 8) (wwCons (wVar 7) wwNil))) (wC (.int 0)))) (wSet 15 (wOp2 aAddL (wVar 15) (wIf (wTst2 gLe (wOpN (f1 (aBest maxI)) (waCons (wOp2 aAddL (wLst (waCons (wC (.int 0)) waNil)) (wLc (wiRng1 (wVar 2)) (wgName 17) wYes (wOp2 aSub (wOp2 aIx (wOp2 aIx (wVar 16) (wVar 17)) (wC (.int 1))) (wOp2 aIx (wOp2 aIx (wVar 8) (wVar 17)) (wC (.int 0)))) [17])) waNil)) (wVar 13)) (wLst (waCons (wVar 7) waNil)) (wLst waNil)))))) (wSeq (wIfS (wNot (wTru (wCall _law_alike_s (wwCons (wVar 14) (wwCons (wIf (wTst2 gNe (wVar 15) (wLst waNil)) (wOpN (f1 (aBest minI)) (waCons (wVar 15) waNil)) (wC .none)) wwNil))))) (wRet (wC (.bool false))) wSkip) (wSeq (wSet 18 (wLc (wiRng1 (wC (.int 201))) (wgName 5) wYes (wOpN (f1 aLen) (waCons (wLc (wiSeq (wVar 8)) (wgName 19) (wChain gLe gLt (wOp2 aIx (wVar 19) (wC (.int 0))) (wVar 5) (wOp2 aAdd (wOp2 aIx (wVar 19) (wC (.int 0))) (wOp2 aIx (wVar 19) (wC (.int 1))))) (wVar 19) [19]) waNil)) [5])) (wSeq (wSet 20 (wOpN (f1 (aBest maxI)) (waCons (wVar 18) waNil))) (wSeq (wIfS (wNot (wTru (wCall _law_alike_s (wwCons (wCall most_at_once_s (wwCons (wVar 8) wwNil)) (wwCons (wTup (waCons (wVar 20) (waCons (wIf (wTst2 gGt (wVar 20) (wC (.int 0))) (wIndex (wVar 18) (wVar 20)) (wC (.int 0))) waNil))) wwNil))))) (wRet (wC (.bool false))) wSkip) (wSeq (wIfS (wAnd (wTst2 gLe (wVar 20) (wC (.int 8))) (wAnd (wTst2 gGt (wVar 2) (wC (.int 0))) (wNot (wTru (wCall _law_alike_s (wwCons (wCall fewest_gates_s (wwCons (wVar 8) (wwCons (wC (.int 0)) wwNil))) (wwCons (wVar 20) wwNil))))))) (wRet (wC (.bool false))) wSkip) (wRet (wCall _law_refused_s (wwRow 1 (wwCons (wVar 8) wwNil))))))))))))))))))))
theorem law_r : law_w = law_r0 := rfl
theorem taken_use {n : Int} {Q : D → Prop} {EX : EXn} (h0 : 0 < n) (h1 : n < 2 ^ 64) (q : ∀ r : Int, 0 ≤ r → r < n → Q (.int r)) : _law_taken_s [.row, .d (.int n)] Q EX := ⟨n, rfl, h0, h1, q⟩
theorem plain_pair {n : Nat} {a b : Int} : plainD (n + 1) (.tuple [.int a, .int b]) = true :=
  plain_tuple (by rw [sizeLine_eq]; simp) fun y hy => by
    simp only [List.mem_cons, List.not_mem_nil, or_false] at hy
    rcases hy with rfl | rfl <;> exact plain_int
theorem plain_begins {n : Nat} {vs : List Van} {k : Nat} (G : Good vs) : plainD (n + 2) (beginsR vs k) = true := by
  have := G.len
  refine plain_tuple (by rw [List.length_map, lenB, sizeLine_eq]; omega) fun y hy => ?_
  obtain ⟨b, _, rfl⟩ := List.mem_map.mp hy
  exact plain_pair
theorem plain_waits {n : Nat} {vs : List Van} {k : Nat} (G : Good vs) : plainD (n + 1) (waitsR vs k) = true := by
  have := G.len
  exact plain_tuple (by rw [List.length_map, K27.waits_len, sizeLine_eq]; omega) plain_ints
theorem plain_idle {n : Nat} {vs : List Van} {k : Nat} (h8 : k ≤ 8) : plainD (n + 1) (idleR vs k) = true :=
  plain_tuple (by rw [List.length_map, lenI, sizeLine_eq]; omega) plain_ints
theorem pairs_get {xs : List (Nat × Int)} {j : Nat} {x : Nat × Int} (h : xs[j]? = some x) : (xs.map bD)[j]? = some (bD x) := by rw [List.getElem?_map, h]; rfl
theorem vans_get {xs : List Van} {j : Nat} {x : Van} (h : xs[j]? = some x) : (xs.map vanD)[j]? = some (vanD x) := by rw [List.getElem?_map, h]; rfl
theorem first_ints {xs : List Int} {M : Int} : firstAt (xs.map .int) (.int M) = xs.findIdx? (fun x => decide (x = M)) := by
  unfold firstAt
  rw [List.findIdx?_map]
  rfl
theorem plain_law : law_w { nx := fun _ => False, rt := fun d => d = .bool true, ex := noX } (none :: some .row :: List.replicate 19 none) := by
  rw [law_r]
  simp [law_r0]
  refine pick_use (by simp) (by simp) fun n hn => ?_
  have hn : ∃ i : Int, n = .int i ∧ 0 < i ∧ i ≤ 25 := by
    simp at hn
    rcases hn with rfl | rfl | rfl <;> exact ⟨_, rfl, by decide, by decide⟩
  obtain ⟨n, rfl, hn0, hn1⟩ := hn
  refine taken_use hn0 (by omega) fun many hm0 hm1 => ?_
  simp [law_r1]
  refine pick_use (by simp) (by simp) fun gap hg => ?_
  have hg : ∃ i : Int, gap = .int i ∧ 0 < i ∧ i ≤ 25 := by
    simp at hg
    rcases hg with rfl | rfl | rfl <;> exact ⟨_, rfl, by decide, by decide⟩
  obtain ⟨gap, rfl, hg0, hg1⟩ := hg
  refine pick_use (by simp) (by simp) fun long hl => ?_
  have hl : ∃ i : Int, long = .int i ∧ 0 < i ∧ i ≤ 50 := by
    simp at hl
    rcases hl with rfl | rfl | rfl <;> exact ⟨_, rfl, by decide, by decide⟩
  obtain ⟨long, rfl, hl0, hl1⟩ := hl
  refine taken_use (by omega) (by omega) fun time ht0 ht1 => ?_
  simp [setAll, Mv.w]
  obtain ⟨m, rfl⟩ : ∃ m : Nat, many = (m : Int) := ⟨many.toNat, by omega⟩
  have hm24 : m ≤ 24 := by omega
  simp [law_r2]
  refine ⟨by unfold rBnd; omega, ?_⟩
  rw [rngD_map]
  refine loop_runM (fun i ρ => ∃ (vs : List Van) (t : Int) (x7 : Option W), ρ = [none, some W.row, some (W.d (PyData.int (m : Int))), some (W.d (PyData.int gap)), some (W.d (PyData.int long)), some (W.d (PyData.int t)), some (W.own (PyData.list (vs.map vanD))), x7, none, none, none, none, none, none, none, none, none, none, none, none, none] ∧ Good vs ∧ vs.length = i ∧ 0 ≤ t ∧ t ≤ 200 ∧ ∀ w ∈ vs, w.1 ≤ t)
    ⟨[], time, none, rfl, K27.Good.nil, rfl, ht0, by omega, fun w h => (List.not_mem_nil h).elim⟩ ?_ ?_
  · intro i j ρ P e ⟨vs, t, x7, hρ, G, hvl, t0, t1, hle⟩ hP
    subst hρ
    have hi : i < m := by have := (List.getElem?_eq_some_iff.mp e).1; simpa using this
    simp
    refine taken_use (by omega) (by omega) fun r hr0 hr1 => ?_
    simp [ownL]
    refine taken_use (by omega) (by omega) fun s hs0 hs1 => ?_
    refine ⟨by rw [hvl, sizeLine_eq]; omega, ?_⟩
    refine hP _ ⟨vs ++ [(min 200 (t + r), 1 + s)], min 200 (t + r), some (W.d (PyData.int (i : Int))), ?_, ?_, ?_, ?_, ?_, ?_⟩
    · have : j = i := by rw [List.getElem?_range hi] at e; exact (Option.some.inj e).symm
      simp [this]
    · exact G.snoc (by omega) ⟨by simp; omega, by simp; omega, by simp; omega, by simp; omega⟩ (fun w hw => by have := hle w hw; show w.1 ≤ min 200 (t + r); omega)
    · simp [hvl]
    · omega
    · omega
    · intro w hw
      rcases List.mem_append.mp hw with hw | hw
      · have := hle w hw; omega
      · rw [List.mem_singleton.mp hw]; exact Int.le_refl _
  intro ρ ⟨vs, t, x7, hρ, G, hvl, t0, t1, hle⟩
  subst hρ
  rw [List.length_range] at hvl
  simp [law_r3]
  refine pick_use (by simp) (by simp) fun kk hk => ?_
  have hk : ∃ i : Int, kk = .int i ∧ 0 < i ∧ i ≤ 8 := by
    simp at hk
    rcases hk with rfl | rfl <;> exact ⟨_, rfl, by decide, by decide⟩
  obtain ⟨kk, rfl, hk0, hk1⟩ := hk
  refine taken_use (by omega) (by omega) fun k0 hk2 hk3 => ?_
  obtain ⟨k, hk⟩ : ∃ k : Nat, 1 + k0 = (k : Int) := ⟨(1 + k0).toNat, by omega⟩
  have h1 : 1 ≤ k := by omega
  have h8 : k ≤ 8 := by omega
  have hlen := G.len
  simp [setAll, Mv.w, hk]
  have ev : PyData.tuple (vs.map vanD) = vansD vs := rfl
  simp only [law_r4, ev_Seq, ev_Asg, ev_Call, ev_wCons, ev_wNil, ev_Var]
  refine ⟨vs, k, G, h1, h8, rfl, ?_⟩
  simp [law_r5]
  refine ⟨by unfold rBnd; omega, ?_⟩
  rw [rngD_map]
  refine comp_mapM (fun i : Nat => PyData.int (((K27.run k vs).B.getD i (0, 0)).2 - (vs.getD i (0, 0)).1)) (fun i hi R r => ?_) (by rw [List.length_range, sizeLine_eq]; omega) ?_
  · rw [List.mem_range] at hi
    obtain ⟨v, hv⟩ := K27.some_of_lt (l := vs) (i := i) (by omega)
    have hb := K27.atB (g := k) hv
    simp
    refine ⟨_, atD_nat (pairs_get hb), _, atD_nat (i := 1) rfl, _, atD_nat (vans_get hv), _, atD_nat (i := 0) rfl, ?_⟩
    rw [List.getD_eq_getElem?_getD, List.getD_eq_getElem?_getD, hb, hv] at r
    exact r
  have ew : (List.range m).map (fun i : Nat => PyData.int (((K27.run k vs).B.getD i (0, 0)).2 - (vs.getD i (0, 0)).1)) = (waitsL k vs).map .int := by
    rw [← K27.waits_range, hvl, List.map_map]; rfl
  rw [ew, ev]
  simp [law_r6]
  refine gs_good G h1 h8 (gs_good G h1 h8 (gs_good G h1 h8 ?_))
  refine alike_use (plain_list (by rw [sizeLine_eq]; simp) fun y hy => ?_) ?_
  · simp only [List.mem_cons, List.not_mem_nil, or_false] at hy
    rcases hy with rfl | rfl | rfl
    · exact plain_begins G
    · exact plain_waits G
    · exact plain_idle h8
  simp [law_r7]
  refine gs_good G h1 h8 ⟨by rw [K27.waits_len, sizeLine_eq]; omega, best_tuple (n := 0) (ns := waitsL k vs) rfl ?_⟩
  rw [show longR vs k = .int (maxI 0 (waitsL k vs)) from congrArg _ (K27.max0_eq K27.waits_nn)]
  refine alike_use plain_int ⟨rfl, ?_⟩
  refine gs_good G h1 h8 ⟨by unfold rBnd; omega, ?_⟩
  rw [rngD_map]
  refine comp_mapM (fun i : Nat => PyData.int (((K27.run k vs).B.getD i (0, 0)).2 + (vs.getD i (0, 0)).2)) (fun i hi R r => ?_) (by rw [List.length_range, sizeLine_eq]; omega) ?_
  · rw [List.mem_range] at hi
    obtain ⟨v, hv⟩ := K27.some_of_lt (l := vs) (i := i) (by omega)
    have hb := K27.atB (g := k) hv
    simp
    refine ⟨_, atD_nat (pairs_get hb), _, atD_nat (i := 1) rfl, _, atD_nat (vans_get hv), _, atD_nat (i := 1) rfl, ?_⟩
    rw [List.getD_eq_getElem?_getD, List.getD_eq_getElem?_getD, hb, hv] at r
    exact r
  have ee : (List.range m).map (fun i : Nat => PyData.int (((K27.run k vs).B.getD i (0, 0)).2 + (vs.getD i (0, 0)).2)) = (endsL k vs).map .int := by
    rw [← K27.ends_range, hvl, List.map_map]; rfl
  rw [ee]
  refine ⟨by rw [List.length_map, K27.ends_len, sizeLine_eq]; simp; omega, best_list (n := 0) (ns := endsL k vs) rfl ?_⟩
  rw [show endsR vs k = .int (maxI 0 (endsL k vs)) from congrArg _ (K27.max0_eq (K27.ends_nn G))]
  refine alike_use plain_int ⟨rfl, ?_⟩
  simp [law_r8]
  refine taken_use (by omega) (by omega) fun r1 hr1 hr1' => ?_
  refine taken_use (by omega) (by omega) fun r2 hr2 hr2' => ?_
  refine pick_use (by simp) (by simp) fun l hl => ?_
  have hl : ∃ i : Int, l = .int i ∧ 0 ≤ i ∧ i ≤ 200 := by
    simp at hl
    rcases hl with rfl | rfl | rfl
    · exact ⟨0, rfl, by omega, by omega⟩
    · exact ⟨_, rfl, by omega, by omega⟩
    · exact ⟨_, rfl, by omega, by omega⟩
  obtain ⟨l, rfl, hl0, hl1⟩ := hl
  simp [law_r9, law_r10]
  refine fg_good G hl0 hl1 ?_
  simp [law_r11]
  refine ⟨by unfold rBnd; omega, by unfold rBnd; omega, ?_⟩
  rw [rngD_map]
  refine loop_runM (fun i ρ => ∃ (x7 x16 : Option W), ρ = [none, some W.row, some (W.d (PyData.int (m : Int))), some (W.d (PyData.int gap)), some (W.d (PyData.int long)), some (W.d (PyData.int t)), some (W.own (PyData.list (vs.map vanD))), x7, some (W.d (vansD vs)), some (W.d (PyData.int (k : Int))), some (W.d (PyData.list ((K27.run k vs).B.map bD))), some (W.d (PyData.list ((K27.run k vs).I.map PyData.int))), some (W.d (PyData.tuple ((waitsL k vs).map PyData.int))), some (W.d (PyData.int l)), some (W.d (fewD vs l)), some (W.d (PyData.list ((gl (fun j => decide (max0 (waitsL (j + 1) vs) ≤ l)) i).map PyData.int))), x16, none, none, none, none]) ⟨x7, none, rfl⟩ ?_ ?_
  · intro i j ρ P e ⟨x7, x16, hρ⟩ hP
    subst hρ
    have hi : i < 8 := by have := (List.getElem?_eq_some_iff.mp e).1; simpa using this
    rw [List.getElem?_range (by exact hi)] at e
    cases e
    simp
    rw [show (1 + (i : Int)) = ((i + 1 : Nat) : Int) by omega]
    refine ⟨vs, i + 1, G, by omega, by omega, rfl, ?_⟩
    simp
    refine ⟨_, atD_nat (i := 0) rfl, by unfold rBnd; omega, ?_⟩
    rw [rngD_map]
    refine comp_mapM (fun a : Nat => PyData.int (((K27.run (i + 1) vs).B.getD a (0, 0)).2 - (vs.getD a (0, 0)).1)) (fun a ha R r => ?_) (by rw [List.length_range, sizeLine_eq]; omega) ?_
    · rw [List.mem_range] at ha
      obtain ⟨v, hv⟩ := K27.some_of_lt (l := vs) (i := a) (by omega)
      have hb := K27.atB (g := i + 1) hv
      simp
      refine ⟨_, atD_nat (pairs_get hb), _, atD_nat (i := 1) rfl, _, atD_nat (vans_get hv), _, atD_nat (i := 0) rfl, ?_⟩
      rw [List.getD_eq_getElem?_getD, List.getD_eq_getElem?_getD, hb, hv] at r
      exact r
    · have ew : (List.range m).map (fun a : Nat => PyData.int (((K27.run (i + 1) vs).B.getD a (0, 0)).2 - (vs.getD a (0, 0)).1)) = (waitsL (i + 1) vs).map .int := by
        rw [← K27.waits_range, hvl, List.map_map]; rfl
      rw [ew]
      refine ⟨by rw [List.length_map, K27.waits_len, sizeLine_eq]; simp; omega, best_list (n := 0) (ns := waitsL (i + 1) vs) rfl ?_⟩
      rw [show maxI 0 (waitsL (i + 1) vs) = max0 (waitsL (i + 1) vs) from (K27.max0_eq K27.waits_nn).symm]
      have hgl : (gl (fun j => decide (max0 (waitsL (j + 1) vs) ≤ l)) i).length ≤ 8 := by
        unfold gl
        rw [List.length_map]
        have := List.length_filter_le (fun j => decide (max0 (waitsL (j + 1) vs) ≤ l)) (List.range i)
        rw [List.length_range] at this
        omega
      rw [K27.gl_succ] at hP
      simp
      by_cases c : max0 (waitsL (i + 1) vs) ≤ l
      · rw [if_pos (by exact c)]
        rw [if_pos (by exact decide_eq_true c)] at hP
        refine ⟨by rw [sizeLine_eq]; first | omega | (simp; omega), ?_⟩
        simp only [List.map_append] at hP
        exact hP _ ⟨_, _, rfl⟩
      · rw [if_neg (by exact c)]
        rw [if_neg (by simpa using c), List.append_nil] at hP
        refine ⟨by rw [sizeLine_eq]; first | omega | (simp; omega), ?_⟩
        exact hP _ ⟨_, _, rfl⟩
  intro ρ ⟨x7, x16, hρ⟩
  subst hρ
  rw [List.length_range]
  simp [law_r12]
  refine ne_nil shaped_ints ?_
  have fin : ∀ d, d = fewD vs l → _law_alike_s [.d (fewD vs l), .d d] (fun d => truG d fun c => c = true ∧ law_r13 { nx := fun x => False, rt := fun d => d = PyData.bool true, ex := noX } [none, some W.row, some (W.d (PyData.int (m : Int))), some (W.d (PyData.int gap)), some (W.d (PyData.int long)), some (W.d (PyData.int t)), some (W.own (PyData.list (vs.map vanD))), x7, some (W.d (vansD vs)), some (W.d (PyData.int (k : Int))), some (W.d (PyData.list ((K27.run k vs).B.map bD))), some (W.d (PyData.list ((K27.run k vs).I.map PyData.int))), some (W.d (PyData.tuple ((waitsL k vs).map PyData.int))), some (W.d (PyData.int l)), some (W.d (fewD vs l)), some (W.d (PyData.list ((gl (fun j => decide (max0 (waitsL (j + 1) vs) ≤ l)) 8).map PyData.int))), x16, none, none, none, none]) noX := fun d hd => by
    subst hd
    refine alike_use ?_ ⟨rfl, ?_⟩
    · unfold fewD
      split
      · exact plain_int
      · exact plain_none
    simp [law_r13]
    refine ⟨by unfold rBnd; omega, ?_⟩
    rw [rngD_map]
    refine comp_mapM (fun a : Nat => PyData.int (cnt vs (a : Int) : Int)) (fun a ha R r => ?_) (by rw [List.length_range, sizeLine_eq]; omega) ?_
    · simp
      refine ⟨_, rfl, ?_⟩
      refine comp_filtM (at1 (a : Int)) vanD (fun w hw R r => ?_) (by rw [sizeLine_eq]; omega) ?_
      · simp
        refine ⟨_, atD_nat (i := 0) rfl, ?_⟩
        simp
        unfold at1 at r
        by_cases c : w.1 ≤ (a : Int)
        · rw [if_pos c]
          refine ⟨_, atD_nat (i := 0) rfl, _, atD_nat (i := 1) rfl, ?_⟩
          by_cases c2 : (a : Int) < w.1 + w.2 <;> simpa [c, c2] using r
        · rw [if_neg c]
          simpa [c] using r
      · simp only [ev_lenL, filt_cnt]
        exact r
    have ec : (List.range 201).map (fun a : Nat => PyData.int (cnt vs (a : Int) : Int)) = (counts vs).map .int := by
      unfold counts
      rw [List.map_map]; rfl
    rw [ec]
    have hcl : (counts vs).length = 201 := by unfold counts; rw [List.length_map, List.length_range]
    obtain ⟨c0, cs, ecs⟩ : ∃ c0 cs, counts vs = c0 :: cs := by
      cases e : counts vs with
      | nil => rw [e] at hcl; cases hcl
      | cons c0 cs => exact ⟨c0, cs, rfl⟩
    simp [law_r14]
    refine best_list (n := c0) (ns := cs) (by rw [ecs]) ?_
    rw [K27.maxI_eq (by rw [← ecs]; exact K27.counts_most G) (by rw [← ecs]; exact K27.counts_le G)]
    simp [law_r15]
    refine mo_good G ?_
    have hfin : ∀ d, d = PyData.int (mostP vs).2 → _law_alike_s [.d (pairD (mostP vs)), .d (.tuple [.int (mostP vs).1, d])] (fun d => truG d fun c => c = true ∧ law_r16 { nx := fun x => False, rt := fun d => d = PyData.bool true, ex := noX } [none, some W.row, some (W.d (PyData.int (m : Int))), some (W.d (PyData.int gap)), some (W.d (PyData.int long)), some (W.d (PyData.int t)), some (W.own (PyData.list (vs.map vanD))), x7, some (W.d (vansD vs)), some (W.d (PyData.int (k : Int))), some (W.d (PyData.list ((K27.run k vs).B.map bD))), some (W.d (PyData.list ((K27.run k vs).I.map PyData.int))), some (W.d (PyData.tuple ((waitsL k vs).map PyData.int))), some (W.d (PyData.int l)), some (W.d (fewD vs l)), some (W.d (PyData.list ((gl (fun j => decide (max0 (waitsL (j + 1) vs) ≤ l)) 8).map PyData.int))), x16, none, some (W.d (PyData.list ((counts vs).map PyData.int))), none, some (W.d (PyData.int (mostP vs).1))]) noX := fun d hd => by
      subst hd
      refine alike_use plain_pair ⟨rfl, ?_⟩
      simp [law_r16]
      have last : law_r17 { nx := fun x => False, rt := fun d => d = PyData.bool true, ex := noX } [none, some W.row, some (W.d (PyData.int (m : Int))), some (W.d (PyData.int gap)), some (W.d (PyData.int long)), some (W.d (PyData.int t)), some (W.own (PyData.list (vs.map vanD))), x7, some (W.d (vansD vs)), some (W.d (PyData.int (k : Int))), some (W.d (PyData.list ((K27.run k vs).B.map bD))), some (W.d (PyData.list ((K27.run k vs).I.map PyData.int))), some (W.d (PyData.tuple ((waitsL k vs).map PyData.int))), some (W.d (PyData.int l)), some (W.d (fewD vs l)), some (W.d (PyData.list ((gl (fun j => decide (max0 (waitsL (j + 1) vs) ≤ l)) 8).map PyData.int))), x16, none, some (W.d (PyData.list ((counts vs).map PyData.int))), none, some (W.d (PyData.int (mostP vs).1))] := by
        simp [law_r17]
        exact ⟨vs, G, rfl, rfl⟩
      by_cases c8 : (mostP vs).1 ≤ 8
      · rw [if_pos c8]
        by_cases cm : 0 < m
        · rw [if_pos cm]
          refine fg_good G (by omega) (by omega) ?_
          have hne : vs ≠ [] := fun z => by rw [z] at hvl; simp at hvl; omega
          have hpos : 0 < (mostP vs).1 := by
            rcases K27.most_at G with ⟨_, z⟩ | ⟨z, _⟩
            · exact absurd z hne
            · exact z
          have ef : fewD vs 0 = .int (mostP vs).1 := by
            unfold fewD
            rw [K27.few_most G hne c8]
            show PyData.int (((mostP vs).1.toNat - 1 + 1 : Nat) : Int) = _
            congr 1
            omega
          rw [ef]
          exact alike_use plain_int ⟨rfl, last⟩
        · rw [if_neg cm]
          exact last
      · rw [if_neg c8]
        exact last
    by_cases cp : 0 < (mostP vs).1
    · rw [if_pos cp]
      refine ⟨shaped_ints, shaped_int, (mostP vs).2.toNat, ?_, hfin _ ?_⟩
      · rw [first_ints]
        exact K27.counts_first G cp
      · have : 0 ≤ (mostP vs).2 := by
          rcases K27.most_at G with ⟨z, _⟩ | ⟨_, _, z, _⟩
          · rw [z]; exact Int.le_refl _
          · exact z
        congr 1
        omega
    · rw [if_neg cp]
      refine hfin _ ?_
      rcases K27.most_at G with ⟨z, _⟩ | ⟨z, _⟩
      · rw [z]
      · exact absurd z cp
  cases eg : gl (fun j => decide (max0 (waitsL (j + 1) vs) ≤ l)) 8 with
  | nil =>
    rw [eg] at fin
    simp
    exact fin _ (by unfold fewD; rw [K27.gl_nil eg])
  | cons a as =>
    rw [eg] at fin
    obtain ⟨j, h1, h2, h3⟩ := K27.gl_cons eg
    simp
    refine best_list (n := a) (ns := as) rfl ?_
    rw [h3]
    exact fin _ (by unfold fewD; rw [h1, h2])
end DD
set_option maxRecDepth 100000
set_option maxHeartbeats 8000000
namespace DD
open PySem PySem.Spec PyProof.Rows L2 GenW
def top (i : Nat) : Stmt := PySem.Challenge.pw_loadedvan_k27_whole_gates.main.body.getD i (.Pass ⟨0, 0, 0, 0⟩)
abbrev st_is_number : Stmt := top 5
abbrev ps_is_number : List Str := ["value", "low", "high"]
abbrev st_check : Stmt := top 6
abbrev ps_check : List Str := ["is_right", "name"]
abbrev st_are_numbers : Stmt := top 7
abbrev ps_are_numbers : List Str := ["value", "many", "low", "high"]
abbrev st_is_van : Stmt := top 14
abbrev ps_is_van : List Str := ["value"]
abbrev st_check_vans : Stmt := top 13
abbrev ps_check_vans : List Str := ["vans"]
abbrev st_begins : Stmt := top 15
abbrev ps_begins : List Str := ["vans", "gates"]
abbrev st_waits : Stmt := top 16
abbrev ps_waits : List Str := ["vans", "gates"]
abbrev st_longest_wait : Stmt := top 17
abbrev ps_longest_wait : List Str := ["vans", "gates"]
abbrev st_ends : Stmt := top 18
abbrev ps_ends : List Str := ["vans", "gates"]
abbrev st_fewest_gates : Stmt := top 19
abbrev ps_fewest_gates : List Str := ["vans", "longest"]
abbrev st_most_at_once : Stmt := top 20
abbrev ps_most_at_once : List Str := ["vans"]
abbrev st_idle : Stmt := top 21
abbrev ps_idle : List Str := ["vans", "gates"]
abbrev st__law_taken : Stmt := top 23
abbrev ps__law_taken : List Str := ["row", "many"]
abbrev st__law_pick : Stmt := top 24
abbrev ps__law_pick : List Str := ["row", "some"]
abbrev st__law_through_time : Stmt := top 25
abbrev ps__law_through_time : List Str := ["vans", "gates"]
abbrev st__law_alike : Stmt := top 26
abbrev ps__law_alike : List Str := ["found", "due"]
abbrev st__law_heard : Stmt := top 27
abbrev ps__law_heard : List Str := ["ask"]
abbrev st__law_refused : Stmt := top 28
abbrev ps__law_refused : List Str := ["row", "vans"]
abbrev st_law : Stmt := top 29
abbrev ps_law : List Str := ["script"]
abbrev QT_is_number : Str := "is_number" ++ ".<locals>." ++ "<lambda>"
abbrev QT_check : Str := "check" ++ ".<locals>." ++ "<lambda>"
abbrev QT_are_numbers : Str := "are_numbers" ++ ".<locals>." ++ "<lambda>"
abbrev QT_is_van : Str := "is_van" ++ ".<locals>." ++ "<lambda>"
abbrev QT_check_vans : Str := "check_vans" ++ ".<locals>." ++ "<lambda>"
abbrev QT_begins : Str := "begins" ++ ".<locals>." ++ "<lambda>"
abbrev QT_waits : Str := "waits" ++ ".<locals>." ++ "<lambda>"
abbrev QT_longest_wait : Str := "longest_wait" ++ ".<locals>." ++ "<lambda>"
abbrev QT_ends : Str := "ends" ++ ".<locals>." ++ "<lambda>"
abbrev QT_fewest_gates : Str := "fewest_gates" ++ ".<locals>." ++ "<lambda>"
abbrev QT_most_at_once : Str := "most_at_once" ++ ".<locals>." ++ "<lambda>"
abbrev QT_idle : Str := "idle" ++ ".<locals>." ++ "<lambda>"
abbrev QT__law_taken : Str := "_law_taken" ++ ".<locals>." ++ "<lambda>"
abbrev QT__law_pick : Str := "_law_pick" ++ ".<locals>." ++ "<lambda>"
abbrev QT__law_through_time : Str := "_law_through_time" ++ ".<locals>." ++ "<lambda>"
abbrev QT__law_alike : Str := "_law_alike" ++ ".<locals>." ++ "<lambda>"
abbrev QT__law_heard : Str := "_law_heard" ++ ".<locals>." ++ "<lambda>"
abbrev QT__law_refused : Str := "_law_refused" ++ ".<locals>." ++ "<lambda>"
abbrev QT_law : Str := "law" ++ ".<locals>." ++ "<lambda>"
structure Names (mg : Str → Option Value) : Prop where
  n_all : mg "all" = none
  n_bool : mg "bool" = none
  n_dict : mg "dict" = none
  n_enumerate : mg "enumerate" = none
  n_int : mg "int" = none
  n_isinstance : mg "isinstance" = none
  n_len : mg "len" = none
  n_list : mg "list" = none
  n_max : mg "max" = none
  n_min : mg "min" = none
  n_range : mg "range" = none
  n_str : mg "str" = none
  n_tuple : mg "tuple" = none
  n_zip : mg "zip" = none
  c_MOST_GATES : ∃ t, mg "MOST_GATES" = some (.int 8 t)
  c_MOST_LONG : ∃ t, mg "MOST_LONG" = some (.int 50 t)
  c_MOST_TIME : ∃ t, mg "MOST_TIME" = some (.int 200 t)
  c_MOST_VANS : ∃ t, mg "MOST_VANS" = some (.int 24 t)
theorem sc_is_number : FnScope ["value", "low", "high"] ["value", "low", "high"] (defScope st_is_number) := C8.fnScope_by (by decide +kernel)
theorem ok_is_number {P : Program} {w0 : World} {K : PySem.W.Frag} {mg : Str → Option Value} {base : Heap} {S : Par} (hK : S.K = K) (B : Names mg) {f : Addr} {fd : FuncData} {cdv : Value} (F : FunC K "is_number" "is_number" st_is_number f fd cdv)  :
    FnOk P w0 K mg base (L2.CX P w0) 3 f fd ["value", "low", "high"] (SpD S (mkF 3 3 is_number_w)) := by
  refine fn_D F hK sc_is_number fun N0 A outer s H E hr => ?_
  have nd := sc_is_number.nd
  have hx : XP (S.inn N0 H E) (bodyCx P w0 K mg base ["value", "low", "high"] "is_number" st_is_number f cdv A outer s H E) := body_xp (S := S) (N0 := N0) (H := H)
  have lk : Like ((S.inn N0 H E).at K) S := ⟨hK.symm, rfl, rfl, rfl, rfl, rfl, rfl, rfl⟩
  have own_ : PassesOwn (model P w0) (bodyCx P w0 K mg base ["value", "low", "high"] "is_number" st_is_number f cdv A outer s H E).A (bodyCx P w0 K mg base ["value", "low", "high"] "is_number" st_is_number f cdv A outer s H E).env (bodyCx P w0 K mg base ["value", "low", "high"] "is_number" st_is_number f cdv A outer s H E).xe := body_own
  exact (dss_one (ds_ret (de_and (de_isi B.n_isinstance B.n_int boot_int ok_int (DE.b (de_var 0))) (de_and (de_not (DE.b (de_isi B.n_isinstance B.n_bool boot_bool ok_bool (DE.b (de_var 0))))) (de_one (de_chain (op_leA hr.units0) (op_leA hr.units0) c_le c_le (DE.b (de_var 1)) (DE.b (de_var 0)) (DE.b (de_var 2))))))))
theorem sc_check : FnScope ["is_right", "name"] ["is_right", "name"] (defScope st_check) := C8.fnScope_by (by decide +kernel)
theorem ok_check {P : Program} {w0 : World} {K : PySem.W.Frag} {mg : Str → Option Value} {base : Heap} {S : Par} (hK : S.K = K) (B : Names mg) {f : Addr} {fd : FuncData} {cdv : Value} {Cb fI ccb : Addr} (BAD : BadTxt P K mg Cb fI ccb) (hCb : S.cBad = Cb) (F : FunC K "check" "check" st_check f fd cdv)  :
    FnOk P w0 K mg base (L2.CX P w0) 3 f fd ["is_right", "name"] (SpD S (mkF 2 2 check_w)) := by
  refine fn_D F hK sc_check fun N0 A outer s H E hr => ?_
  have nd := sc_check.nd
  have hx : XP (S.inn N0 H E) (bodyCx P w0 K mg base ["is_right", "name"] "check" st_check f cdv A outer s H E) := body_xp (S := S) (N0 := N0) (H := H)
  have lk : Like ((S.inn N0 H E).at K) S := ⟨hK.symm, rfl, rfl, rfl, rfl, rfl, rfl, rfl⟩
  have own_ : PassesOwn (model P w0) (bodyCx P w0 K mg base ["is_right", "name"] "check" st_check f cdv A outer s H E).A (bodyCx P w0 K mg base ["is_right", "name"] "check" st_check f cdv A outer s H E).env (bodyCx P w0 K mg base ["is_right", "name"] "check" st_check f cdv A outer s H E).xe := body_own
  exact (dss_one (ds_if (dt_not (dt_val (DE.b (de_var 0)))) (dss_one (ds_raiseBad rfl BAD hCb hr (takes_of (E := E) rfl rfl rfl rfl) (de_var 1))) dss_nil))
theorem sc_are_numbers : FnScope ["value", "many", "low", "high", "one"] ["value", "many", "low", "high"] (defScope st_are_numbers) := C8.fnScope_by (by decide +kernel)
theorem ok_are_numbers {P : Program} {w0 : World} {K : PySem.W.Frag} {mg : Str → Option Value} {base : Heap} {S : Par} (hK : S.K = K) (B : Names mg) {f : Addr} {fd : FuncData} {cc PP : Addr} (tb : LamX.TabB base mg cc PP) (hPG : PP ∈ S.G) (F : FunC K "are_numbers" "are_numbers" st_are_numbers f fd (.ref cc)) (C_is_number : Cal P w0 K mg base S 3 "is_number" ps_is_number is_number_s) :
    FnOk P w0 K mg base (L2.CX P w0) 6 f fd ["value", "many", "low", "high"] (SpD S (mkF 4 5 are_numbers_w)) := by
  refine fn_D F hK sc_are_numbers fun N0 A outer s H E hr => ?_
  have nd := sc_are_numbers.nd
  have hx : XP (S.inn N0 H E) (bodyCx P w0 K mg base ["value", "many", "low", "high", "one"] "are_numbers" st_are_numbers f (.ref cc) A outer s H E) := body_xp (S := S) (N0 := N0) (H := H)
  have lk : Like ((S.inn N0 H E).at K) S := ⟨hK.symm, rfl, rfl, rfl, rfl, rfl, rfl, rfl⟩
  have own_ : PassesOwn (model P w0) (bodyCx P w0 K mg base ["value", "many", "low", "high", "one"] "are_numbers" st_are_numbers f (.ref cc) A outer s H E).A (bodyCx P w0 K mg base ["value", "many", "low", "high", "one"] "are_numbers" st_are_numbers f (.ref cc) A outer s H E).env (bodyCx P w0 K mg base ["value", "many", "low", "high", "one"] "are_numbers" st_are_numbers f (.ref cc) A outer s H E).xe := body_own
  exact (dss_one (ds_ret (de_and (de_isi B.n_isinstance B.n_tuple boot_tuple ok_tuple (DE.b (de_var 0))) (de_and (de_cmp (op_eqD hr.units) c_eq (DE.b (de_callB call_len n_len B.n_len boot_len (dbs_cons (DE.b (de_var 0)) dbs_nil))) (DE.b (de_var 1))) (de_one (de_all (gp (own := [("one", 4)]) nd lk tb hPG hr (di_seq (DB.h (DE.b (de_var 0)))) (fun _ _ _ _ _ _ _ => (dg_name 4 nd)) (fun _ _ _ _ _ _ _ hr hx lk => dts_nil) (fun _ _ _ _ _ _ _ hr hx lk => (de_callC C_is_number lk hr hx (dws_cons (de_var 4) (dws_cons (de_var 2) (dws_cons (de_var 3) dws_nil)))))) B.n_all))))))
theorem sc_is_van : FnScope ["value"] ["value"] (defScope st_is_van) := C8.fnScope_by (by decide +kernel)
theorem ok_is_van {P : Program} {w0 : World} {K : PySem.W.Frag} {mg : Str → Option Value} {base : Heap} {S : Par} (hK : S.K = K) (B : Names mg) {f : Addr} {fd : FuncData} {cdv : Value} (F : FunC K "is_van" "is_van" st_is_van f fd cdv) (C_are_numbers : Cal P w0 K mg base S 6 "are_numbers" ps_are_numbers are_numbers_s) :
    FnOk P w0 K mg base (L2.CX P w0) 7 f fd ["value"] (SpD S (mkF 1 1 is_van_w)) := by
  refine fn_D F hK sc_is_van fun N0 A outer s H E hr => ?_
  have nd := sc_is_van.nd
  have hx : XP (S.inn N0 H E) (bodyCx P w0 K mg base ["value"] "is_van" st_is_van f cdv A outer s H E) := body_xp (S := S) (N0 := N0) (H := H)
  have lk : Like ((S.inn N0 H E).at K) S := ⟨hK.symm, rfl, rfl, rfl, rfl, rfl, rfl, rfl⟩
  have own_ : PassesOwn (model P w0) (bodyCx P w0 K mg base ["value"] "is_van" st_is_van f cdv A outer s H E).A (bodyCx P w0 K mg base ["value"] "is_van" st_is_van f cdv A outer s H E).env (bodyCx P w0 K mg base ["value"] "is_van" st_is_van f cdv A outer s H E).xe := body_own
  exact (dss_one (ds_ret (de_and (de_callC C_are_numbers lk hr hx (dws_cons (de_var 0) (dws_cons de_int (dws_cons de_int (dws_cons (de_globI B.c_MOST_TIME) dws_nil))))) (de_one (de_chain (op_leA hr.units0) (op_leA hr.units0) c_le c_le (DE.b de_int) (DE.b (de_ix ix_seq o_ix (DE.b (de_var 0)) (DE.b de_int))) (DE.b (de_globI B.c_MOST_LONG)))))))
theorem sc_check_vans : FnScope ["vans", "right", "van", "one", "other"] ["vans"] (defScope st_check_vans) := C8.fnScope_by (by decide +kernel)
theorem ok_check_vans {P : Program} {w0 : World} {K : PySem.W.Frag} {mg : Str → Option Value} {base : Heap} {S : Par} (hK : S.K = K) (B : Names mg) {f : Addr} {fd : FuncData} {cc PP : Addr} (tb : LamX.TabB base mg cc PP) (hPG : PP ∈ S.G) (F : FunC K "check_vans" "check_vans" st_check_vans f fd (.ref cc)) (C_check : Cal P w0 K mg base S 3 "check" ps_check check_s) (C_is_van : Cal P w0 K mg base S 7 "is_van" ps_is_van is_van_s) :
    FnOk P w0 K mg base (L2.CX P w0) 10 f fd ["vans"] (SpD S (mkF 1 5 check_vans_w)) := by
  refine fn_D F hK sc_check_vans fun N0 A outer s H E hr => ?_
  have nd := sc_check_vans.nd
  have hx : XP (S.inn N0 H E) (bodyCx P w0 K mg base ["vans", "right", "van", "one", "other"] "check_vans" st_check_vans f (.ref cc) A outer s H E) := body_xp (S := S) (N0 := N0) (H := H)
  have lk : Like ((S.inn N0 H E).at K) S := ⟨hK.symm, rfl, rfl, rfl, rfl, rfl, rfl, rfl⟩
  have own_ : PassesOwn (model P w0) (bodyCx P w0 K mg base ["vans", "right", "van", "one", "other"] "check_vans" st_check_vans f (.ref cc) A outer s H E).A (bodyCx P w0 K mg base ["vans", "right", "van", "one", "other"] "check_vans" st_check_vans f (.ref cc) A outer s H E).env (bodyCx P w0 K mg base ["vans", "right", "van", "one", "other"] "check_vans" st_check_vans f (.ref cc) A outer s H E).xe := body_own
  exact (dss_cons (ds_set 1 (de_and (de_isi B.n_isinstance B.n_tuple boot_tuple ok_tuple (DE.b (de_var 0))) (de_and (de_cmp (op_leA hr.units0) c_le (DE.b (de_callB call_len n_len B.n_len boot_len (dbs_cons (DE.b (de_var 0)) dbs_nil))) (DE.b (de_globI B.c_MOST_VANS))) (de_one (de_all (gp (own := [("van", 2)]) nd lk tb hPG hr (di_seq (DB.h (DE.b (de_var 0)))) (fun _ _ _ _ _ _ _ => (dg_name 2 nd)) (fun _ _ _ _ _ _ _ hr hx lk => dts_nil) (fun _ _ _ _ _ _ _ hr hx lk => (de_callC C_is_van lk hr hx (dws_cons (de_var 2) dws_nil)))) B.n_all)))) nd) (dss_one (ds_expr (DE.b (de_callC C_check lk hr hx (dws_cons (de_and (de_var 1) (de_one (de_all (gp (own := [("one", 3), ("other", 4)]) nd lk tb hPG hr (di_zip B.n_zip (DB.h (DE.b (de_var 0))) (DB.h (DE.b (de_cut (DE.b (de_var 0)) (do_some (DE.b de_int)) do_none)))) (fun _ _ _ _ _ _ _ => (dg_tup rfl (dgs_cons (dg_name 3 nd) (dgs_cons (dg_name 4 nd) dgs_nil)))) (fun _ _ _ _ _ _ _ hr hx lk => dts_nil) (fun _ _ _ _ _ _ _ hr hx lk => (de_cmp (op_leA hr.units0) c_le (DE.b (de_ix ix_seq o_ix (DE.b (de_var 3)) (DE.b de_int))) (DE.b (de_ix ix_seq o_ix (DE.b (de_var 4)) (DE.b de_int)))))) B.n_all))) (dws_cons de_str dws_nil)))))))
theorem sc_begins : FnScope ["vans", "gates", "free", "found", "comes", "stays", "when", "gate", "number", "time"] ["vans", "gates"] (defScope st_begins) := C8.fnScope_by (by decide +kernel)
theorem ok_begins {P : Program} {w0 : World} {K : PySem.W.Frag} {mg : Str → Option Value} {base : Heap} {S : Par} (hK : S.K = K) (B : Names mg) {f : Addr} {fd : FuncData} {cdv : Value} (F : FunC K "begins" "begins" st_begins f fd cdv) (C_check : Cal P w0 K mg base S 3 "check" ps_check check_s) (C_check_vans : Cal P w0 K mg base S 10 "check_vans" ps_check_vans check_vans_s) (C_is_number : Cal P w0 K mg base S 3 "is_number" ps_is_number is_number_s) :
    FnOk P w0 K mg base (L2.CX P w0) 11 f fd ["vans", "gates"] (SpD S (mkF 2 10 begins_w)) := by
  refine fn_D F hK sc_begins fun N0 A outer s H E hr => ?_
  have nd := sc_begins.nd
  have hx : XP (S.inn N0 H E) (bodyCx P w0 K mg base ["vans", "gates", "free", "found", "comes", "stays", "when", "gate", "number", "time"] "begins" st_begins f cdv A outer s H E) := body_xp (S := S) (N0 := N0) (H := H)
  have lk : Like ((S.inn N0 H E).at K) S := ⟨hK.symm, rfl, rfl, rfl, rfl, rfl, rfl, rfl⟩
  have own_ : PassesOwn (model P w0) (bodyCx P w0 K mg base ["vans", "gates", "free", "found", "comes", "stays", "when", "gate", "number", "time"] "begins" st_begins f cdv A outer s H E).A (bodyCx P w0 K mg base ["vans", "gates", "free", "found", "comes", "stays", "when", "gate", "number", "time"] "begins" st_begins f cdv A outer s H E).env (bodyCx P w0 K mg base ["vans", "gates", "free", "found", "comes", "stays", "when", "gate", "number", "time"] "begins" st_begins f cdv A outer s H E).xe := body_own
  exact (dss_cons (ds_expr (DE.b (de_callC C_check_vans lk hr hx (dws_cons (de_var 0) dws_nil)))) (dss_cons (ds_expr (DE.b (de_callC C_check lk hr hx (dws_cons (de_callC C_is_number lk hr hx (dws_cons (de_var 1) (dws_cons de_int (dws_cons (de_globI B.c_MOST_GATES) dws_nil)))) (dws_cons de_str dws_nil))))) (dss_cons (ds_setO 2 (df_op op_mulA o_mulL (DE.b (DF.e (df_lst (an_cons de_int an_nil)))) (DE.b (de_var 1))) nd) (dss_cons (ds_setO 3 (df_lst an_nil) nd) (dss_cons (ds_for own_ rfl (di_seq (DE.h (de_var 0))) (dg_tup rfl (dgs_cons (dg_name 4 nd) (dgs_cons (dg_name 5 nd) dgs_nil))) (dss_cons (ds_set 6 (de_callB (call_max2 rfl) n_max2 B.n_max boot_max (dbs_cons (DE.b (de_var 4)) (dbs_cons (DE.b (de_callB (cr_minA rfl hr.units) n_best B.n_min boot_min (dbs_cons (db_own 2) dbs_nil))) dbs_nil))) nd) (dss_cons (ds_set 7 (de_ix ix_seq o_ix (DE.b (DF.e (df_lc (lp (own := [("number", 8), ("time", 9)]) nd lk (di_enum B.n_enumerate (DB.h (db_own 2))) (fun _ _ _ _ _ => (dg_tup rfl (dgs_cons (dg_name 8 nd) (dgs_cons (dg_name 9 nd) dgs_nil)))) (fun _ _ _ _ _ hx lk => (dts_one (dt_cmp (op_leA hr.units0) c_le (DE.b (de_var 9)) (DE.b (de_var 6))))) (fun _ _ _ _ _ hx lk => (de_var 8)))))) (DE.b de_int)) nd) (dss_cons (ds_app 3 (de_tup (an_cons (de_var 7) (an_cons (de_var 6) an_nil)))) (dss_one (ds_put 2 (de_op op_addA o_add (DE.b (de_var 6)) (DE.b (de_var 5))) (de_var 7))))))) (dss_one (ds_ret (de_callTy call_tuple_of n_tupleOf B.n_tuple boot_tuple (dbs_cons (db_own 3) dbs_nil)))))))))
theorem sc_waits : FnScope ["vans", "gates", "begin", "van"] ["vans", "gates"] (defScope st_waits) := C8.fnScope_by (by decide +kernel)
theorem ok_waits {P : Program} {w0 : World} {K : PySem.W.Frag} {mg : Str → Option Value} {base : Heap} {S : Par} (hK : S.K = K) (B : Names mg) {f : Addr} {fd : FuncData} {cdv : Value} (F : FunC K "waits" "waits" st_waits f fd cdv) (C_begins : Cal P w0 K mg base S 11 "begins" ps_begins begins_s) :
    FnOk P w0 K mg base (L2.CX P w0) 12 f fd ["vans", "gates"] (SpD S (mkF 2 4 waits_w)) := by
  refine fn_D F hK sc_waits fun N0 A outer s H E hr => ?_
  have nd := sc_waits.nd
  have hx : XP (S.inn N0 H E) (bodyCx P w0 K mg base ["vans", "gates", "begin", "van"] "waits" st_waits f cdv A outer s H E) := body_xp (S := S) (N0 := N0) (H := H)
  have lk : Like ((S.inn N0 H E).at K) S := ⟨hK.symm, rfl, rfl, rfl, rfl, rfl, rfl, rfl⟩
  have own_ : PassesOwn (model P w0) (bodyCx P w0 K mg base ["vans", "gates", "begin", "van"] "waits" st_waits f cdv A outer s H E).A (bodyCx P w0 K mg base ["vans", "gates", "begin", "van"] "waits" st_waits f cdv A outer s H E).env (bodyCx P w0 K mg base ["vans", "gates", "begin", "van"] "waits" st_waits f cdv A outer s H E).xe := body_own
  exact (dss_one (ds_ret (de_callTy call_tuple_of n_tupleOf B.n_tuple boot_tuple (dbs_cons (DE.b (DF.e (df_lc (lp (own := [("begin", 2), ("van", 3)]) nd lk (di_zip B.n_zip (DB.h (DE.b (de_callC C_begins lk hr hx (dws_cons (de_var 0) (dws_cons (de_var 1) dws_nil))))) (DB.h (DE.b (de_var 0)))) (fun _ _ _ _ _ => (dg_tup rfl (dgs_cons (dg_name 2 nd) (dgs_cons (dg_name 3 nd) dgs_nil)))) (fun _ _ _ _ _ hx lk => dts_nil) (fun _ _ _ _ _ hx lk => (de_op op_sub o_int0 (DE.b (de_ix ix_seq o_ix (DE.b (de_var 2)) (DE.b de_int))) (DE.b (de_ix ix_seq o_ix (DE.b (de_var 3)) (DE.b de_int))))))))) dbs_nil))))
theorem sc_longest_wait : FnScope ["vans", "gates"] ["vans", "gates"] (defScope st_longest_wait) := C8.fnScope_by (by decide +kernel)
theorem ok_longest_wait {P : Program} {w0 : World} {K : PySem.W.Frag} {mg : Str → Option Value} {base : Heap} {S : Par} (hK : S.K = K) (B : Names mg) {f : Addr} {fd : FuncData} {cdv : Value} (F : FunC K "longest_wait" "longest_wait" st_longest_wait f fd cdv) (C_waits : Cal P w0 K mg base S 12 "waits" ps_waits waits_s) :
    FnOk P w0 K mg base (L2.CX P w0) 13 f fd ["vans", "gates"] (SpD S (mkF 2 2 longest_wait_w)) := by
  refine fn_D F hK sc_longest_wait fun N0 A outer s H E hr => ?_
  have nd := sc_longest_wait.nd
  have hx : XP (S.inn N0 H E) (bodyCx P w0 K mg base ["vans", "gates"] "longest_wait" st_longest_wait f cdv A outer s H E) := body_xp (S := S) (N0 := N0) (H := H)
  have lk : Like ((S.inn N0 H E).at K) S := ⟨hK.symm, rfl, rfl, rfl, rfl, rfl, rfl, rfl⟩
  have own_ : PassesOwn (model P w0) (bodyCx P w0 K mg base ["vans", "gates"] "longest_wait" st_longest_wait f cdv A outer s H E).A (bodyCx P w0 K mg base ["vans", "gates"] "longest_wait" st_longest_wait f cdv A outer s H E).env (bodyCx P w0 K mg base ["vans", "gates"] "longest_wait" st_longest_wait f cdv A outer s H E).xe := body_own
  exact (dss_one (ds_ret (de_maxD rfl hr.units B.n_max (DE.b (de_callC C_waits lk hr hx (dws_cons (de_var 0) (dws_cons (de_var 1) dws_nil)))) de_int)))
theorem sc_ends : FnScope ["vans", "gates", "begin", "van"] ["vans", "gates"] (defScope st_ends) := C8.fnScope_by (by decide +kernel)
theorem ok_ends {P : Program} {w0 : World} {K : PySem.W.Frag} {mg : Str → Option Value} {base : Heap} {S : Par} (hK : S.K = K) (B : Names mg) {f : Addr} {fd : FuncData} {cdv : Value} (F : FunC K "ends" "ends" st_ends f fd cdv) (C_begins : Cal P w0 K mg base S 11 "begins" ps_begins begins_s) :
    FnOk P w0 K mg base (L2.CX P w0) 12 f fd ["vans", "gates"] (SpD S (mkF 2 4 ends_w)) := by
  refine fn_D F hK sc_ends fun N0 A outer s H E hr => ?_
  have nd := sc_ends.nd
  have hx : XP (S.inn N0 H E) (bodyCx P w0 K mg base ["vans", "gates", "begin", "van"] "ends" st_ends f cdv A outer s H E) := body_xp (S := S) (N0 := N0) (H := H)
  have lk : Like ((S.inn N0 H E).at K) S := ⟨hK.symm, rfl, rfl, rfl, rfl, rfl, rfl, rfl⟩
  have own_ : PassesOwn (model P w0) (bodyCx P w0 K mg base ["vans", "gates", "begin", "van"] "ends" st_ends f cdv A outer s H E).A (bodyCx P w0 K mg base ["vans", "gates", "begin", "van"] "ends" st_ends f cdv A outer s H E).env (bodyCx P w0 K mg base ["vans", "gates", "begin", "van"] "ends" st_ends f cdv A outer s H E).xe := body_own
  exact (dss_one (ds_ret (de_maxD rfl hr.units B.n_max (DE.b (DF.e (df_lc (lp (own := [("begin", 2), ("van", 3)]) nd lk (di_zip B.n_zip (DB.h (DE.b (de_callC C_begins lk hr hx (dws_cons (de_var 0) (dws_cons (de_var 1) dws_nil))))) (DB.h (DE.b (de_var 0)))) (fun _ _ _ _ _ => (dg_tup rfl (dgs_cons (dg_name 2 nd) (dgs_cons (dg_name 3 nd) dgs_nil)))) (fun _ _ _ _ _ hx lk => dts_nil) (fun _ _ _ _ _ hx lk => (de_op op_addA o_add (DE.b (de_ix ix_seq o_ix (DE.b (de_var 2)) (DE.b de_int))) (DE.b (de_ix ix_seq o_ix (DE.b (de_var 3)) (DE.b de_int))))))))) de_int)))
theorem sc_fewest_gates : FnScope ["vans", "longest", "gates"] ["vans", "longest"] (defScope st_fewest_gates) := C8.fnScope_by (by decide +kernel)
theorem ok_fewest_gates {P : Program} {w0 : World} {K : PySem.W.Frag} {mg : Str → Option Value} {base : Heap} {S : Par} (hK : S.K = K) (B : Names mg) {f : Addr} {fd : FuncData} {cdv : Value} (F : FunC K "fewest_gates" "fewest_gates" st_fewest_gates f fd cdv) (C_check : Cal P w0 K mg base S 3 "check" ps_check check_s) (C_check_vans : Cal P w0 K mg base S 10 "check_vans" ps_check_vans check_vans_s) (C_is_number : Cal P w0 K mg base S 3 "is_number" ps_is_number is_number_s) (C_longest_wait : Cal P w0 K mg base S 13 "longest_wait" ps_longest_wait longest_wait_s) :
    FnOk P w0 K mg base (L2.CX P w0) 14 f fd ["vans", "longest"] (SpD S (mkF 2 3 fewest_gates_w)) := by
  refine fn_D F hK sc_fewest_gates fun N0 A outer s H E hr => ?_
  have nd := sc_fewest_gates.nd
  have hx : XP (S.inn N0 H E) (bodyCx P w0 K mg base ["vans", "longest", "gates"] "fewest_gates" st_fewest_gates f cdv A outer s H E) := body_xp (S := S) (N0 := N0) (H := H)
  have lk : Like ((S.inn N0 H E).at K) S := ⟨hK.symm, rfl, rfl, rfl, rfl, rfl, rfl, rfl⟩
  have own_ : PassesOwn (model P w0) (bodyCx P w0 K mg base ["vans", "longest", "gates"] "fewest_gates" st_fewest_gates f cdv A outer s H E).A (bodyCx P w0 K mg base ["vans", "longest", "gates"] "fewest_gates" st_fewest_gates f cdv A outer s H E).env (bodyCx P w0 K mg base ["vans", "longest", "gates"] "fewest_gates" st_fewest_gates f cdv A outer s H E).xe := body_own
  exact (dss_cons (ds_expr (DE.b (de_callC C_check_vans lk hr hx (dws_cons (de_var 0) dws_nil)))) (dss_cons (ds_expr (DE.b (de_callC C_check lk hr hx (dws_cons (de_callC C_is_number lk hr hx (dws_cons (de_var 1) (dws_cons de_int (dws_cons (de_globI B.c_MOST_TIME) dws_nil)))) (dws_cons de_str dws_nil))))) (dss_cons (ds_for own_ rfl (di_rng2 B.n_range (DE.b de_int) (DE.b (de_op op_addA o_add (DE.b (de_globI B.c_MOST_GATES)) (DE.b de_int)))) (dg_name 2 nd) (dss_one (ds_if (dt_cmp (op_leA hr.units0) c_le (DE.b (de_callC C_longest_wait lk hr hx (dws_cons (de_var 0) (dws_cons (de_var 2) dws_nil)))) (DE.b (de_var 1))) (dss_one (ds_ret (de_var 2))) dss_nil))) (dss_one (ds_ret de_non)))))
theorem sc_most_at_once : FnScope ["vans", "best", "time", "van", "many"] ["vans"] (defScope st_most_at_once) := C8.fnScope_by (by decide +kernel)
theorem ok_most_at_once {P : Program} {w0 : World} {K : PySem.W.Frag} {mg : Str → Option Value} {base : Heap} {S : Par} (hK : S.K = K) (B : Names mg) {f : Addr} {fd : FuncData} {cdv : Value} (F : FunC K "most_at_once" "most_at_once" st_most_at_once f fd cdv) (C_check_vans : Cal P w0 K mg base S 10 "check_vans" ps_check_vans check_vans_s) :
    FnOk P w0 K mg base (L2.CX P w0) 11 f fd ["vans"] (SpD S (mkF 1 5 most_at_once_w)) := by
  refine fn_D F hK sc_most_at_once fun N0 A outer s H E hr => ?_
  have nd := sc_most_at_once.nd
  have hx : XP (S.inn N0 H E) (bodyCx P w0 K mg base ["vans", "best", "time", "van", "many"] "most_at_once" st_most_at_once f cdv A outer s H E) := body_xp (S := S) (N0 := N0) (H := H)
  have lk : Like ((S.inn N0 H E).at K) S := ⟨hK.symm, rfl, rfl, rfl, rfl, rfl, rfl, rfl⟩
  have own_ : PassesOwn (model P w0) (bodyCx P w0 K mg base ["vans", "best", "time", "van", "many"] "most_at_once" st_most_at_once f cdv A outer s H E).A (bodyCx P w0 K mg base ["vans", "best", "time", "van", "many"] "most_at_once" st_most_at_once f cdv A outer s H E).env (bodyCx P w0 K mg base ["vans", "best", "time", "van", "many"] "most_at_once" st_most_at_once f cdv A outer s H E).xe := body_own
  exact (dss_cons (ds_expr (DE.b (de_callC C_check_vans lk hr hx (dws_cons (de_var 0) dws_nil)))) (dss_cons (ds_set 1 (de_tup (an_cons de_int (an_cons de_int an_nil))) nd) (dss_cons (ds_for own_ rfl (di_seq (DE.h (DF.e (df_lc (lp (own := [("van", 3)]) nd lk (di_seq (DB.h (DE.b (de_var 0)))) (fun _ _ _ _ _ => (dg_name 3 nd)) (fun _ _ _ _ _ hx lk => dts_nil) (fun _ _ _ _ _ hx lk => (de_ix ix_seq o_ix (DE.b (de_var 3)) (DE.b de_int)))))))) (dg_name 2 nd) (dss_cons (ds_set 4 (de_callB call_len n_len B.n_len boot_len (dbs_cons (DE.b (DF.e (df_lc (lp (own := [("van", 3)]) nd lk (di_seq (DB.h (DE.b (de_var 0)))) (fun _ _ _ _ _ => (dg_name 3 nd)) (fun _ _ _ _ _ hx lk => (dts_one (dt_chain (op_leA hr.units0) (op_ltA hr.units0) c_le c_lt (DE.b (de_ix ix_seq o_ix (DE.b (de_var 3)) (DE.b de_int))) (DE.b (de_var 2)) (DE.b (de_op op_addA o_add (DE.b (de_ix ix_seq o_ix (DE.b (de_var 3)) (DE.b de_int))) (DE.b (de_ix ix_seq o_ix (DE.b (de_var 3)) (DE.b de_int)))))))) (fun _ _ _ _ _ hx lk => (de_var 3)))))) dbs_nil)) nd) (dss_one (ds_set 1 (de_if (dt_cmp op_gt c_int (DE.b (de_var 4)) (DE.b (de_ix ix_seq o_ix (DE.b (de_var 1)) (DE.b de_int)))) (de_tup (an_cons (de_var 4) (an_cons (de_var 2) an_nil))) (de_var 1)) nd)))) (dss_one (ds_ret (de_var 1))))))
theorem sc_idle : FnScope ["vans", "gates", "found", "free", "gate", "when", "van"] ["vans", "gates"] (defScope st_idle) := C8.fnScope_by (by decide +kernel)
theorem ok_idle {P : Program} {w0 : World} {K : PySem.W.Frag} {mg : Str → Option Value} {base : Heap} {S : Par} (hK : S.K = K) (B : Names mg) {f : Addr} {fd : FuncData} {cdv : Value} (F : FunC K "idle" "idle" st_idle f fd cdv) (C_begins : Cal P w0 K mg base S 11 "begins" ps_begins begins_s) (C_is_number : Cal P w0 K mg base S 3 "is_number" ps_is_number is_number_s) :
    FnOk P w0 K mg base (L2.CX P w0) 12 f fd ["vans", "gates"] (SpD S (mkF 2 7 idle_w)) := by
  refine fn_D F hK sc_idle fun N0 A outer s H E hr => ?_
  have nd := sc_idle.nd
  have hx : XP (S.inn N0 H E) (bodyCx P w0 K mg base ["vans", "gates", "found", "free", "gate", "when", "van"] "idle" st_idle f cdv A outer s H E) := body_xp (S := S) (N0 := N0) (H := H)
  have lk : Like ((S.inn N0 H E).at K) S := ⟨hK.symm, rfl, rfl, rfl, rfl, rfl, rfl, rfl⟩
  have own_ : PassesOwn (model P w0) (bodyCx P w0 K mg base ["vans", "gates", "found", "free", "gate", "when", "van"] "idle" st_idle f cdv A outer s H E).A (bodyCx P w0 K mg base ["vans", "gates", "found", "free", "gate", "when", "van"] "idle" st_idle f cdv A outer s H E).env (bodyCx P w0 K mg base ["vans", "gates", "found", "free", "gate", "when", "van"] "idle" st_idle f cdv A outer s H E).xe := body_own
  exact (dss_cons (ds_setO 2 (df_if (dt_val (DE.b (de_callC C_is_number lk hr hx (dws_cons (de_var 1) (dws_cons de_int (dws_cons (de_globI B.c_MOST_GATES) dws_nil)))))) (df_op op_mulA o_mulL (DE.b (DF.e (df_lst (an_cons de_int an_nil)))) (DE.b (de_var 1))) (df_lst an_nil)) nd) (dss_cons (ds_setO 3 (df_callTy call_list_of n_listOf B.n_list boot_list (dbs_cons (db_own 2) dbs_nil)) nd) (dss_cons (ds_for own_ rfl (di_zip B.n_zip (DE.h (de_callC C_begins lk hr hx (dws_cons (de_var 0) (dws_cons (de_var 1) dws_nil)))) (DE.h (de_var 0))) (dg_tup rfl (dgs_cons (dg_tup rfl (dgs_cons (dg_name 4 nd) (dgs_cons (dg_name 5 nd) dgs_nil))) (dgs_cons (dg_name 6 nd) dgs_nil))) (dss_cons (ds_augS 2 ip_addI (DE.b (de_op op_sub o_int0 (DE.b (de_var 5)) (DE.b (de_ix ix_seq o_ix (db_own 3) (DE.b (de_var 4)))))) (de_var 4)) (dss_one (ds_put 3 (de_op op_addA o_add (DE.b (de_var 5)) (DE.b (de_ix ix_seq o_ix (DE.b (de_var 6)) (DE.b de_int)))) (de_var 4))))) (dss_one (ds_ret (de_callTy call_tuple_of n_tupleOf B.n_tuple boot_tuple (dbs_cons (db_own 2) dbs_nil)))))))
theorem sc__law_taken : FnScope ["row", "many", "found", "cell"] ["row", "many"] (defScope st__law_taken) := C8.fnScope_by (by decide +kernel)
theorem ok__law_taken {P : Program} {w0 : World} {K : PySem.W.Frag} {mg : Str → Option Value} {base : Heap} {S : Par} (hK : S.K = K) (B : Names mg) {f : Addr} {fd : FuncData} {cdv : Value} (F : FunC K "_law_taken" "_law_taken" st__law_taken f fd cdv) :
    FnOk P w0 K mg base (L2.CX P w0) 1 f fd ["row", "many"] (SpD S _law_taken_s) := by
  obtain ⟨oc, od, kV, doc, pm, an, ct, osl, rfl, lk, hcd⟩ := F.ex
  subst hK
  have nd := sc__law_taken.nd
  refine fn_of lk hcd sc__law_taken (fun vs H Q E h => ?_) fun A outer s H vs Q E hr h => ⟨t_taken _, ?_, pure_taken h⟩
  · obtain ⟨N0, ws, EX, _, _, hp, ⟨n, rfl, _⟩, _⟩ := h
    rw [paired_len hp]; rfl
  · exact pss_cons (ps_if (pt_cmpR op_gt (pe_ix ix_list (pv 0) pe_int (by intro _ _; rfl)) pe_int (nomark _)) (pss_cons (ps_set (i := 2) nd rfl (Or.inl rfl) (pe_op op_mod (pe_callTy call_int1 rfl B.n_int boot_int (pa_cons (pe_ix ix_list (pv 0) pe_int (by intro _ _; rfl)) pa_nil)) (pv 1))) (pss_cons (ps_asg (pe_op op_fdivW (pe_ix ix_list (pv 0) pe_int (by intro _ _; rfl)) (pv 1)) (pg_sub (pv 0) pe_int set_list (by intro _; rfl))) (pss_one (ps_ret (pv 2))))) pss_nil) (pss_cons (ps_asg (pe_op op_add (pe_ix ix_list (pv 0) pe_int (by intro _ _; rfl)) pe_int) (pg_sub (pv 0) pe_int set_list (by intro _; rfl))) (pss_cons (ps_if (pt_cmpR op_gt (pe_ix ix_list (pv 0) pe_int (by intro _ _; rfl)) (pe_callB call_len rfl B.n_len boot_len (pa_cons (pe_ix ix_list (pv 0) pe_int (by intro _ _; rfl)) pa_nil)) (nomark _)) (pss_cons (ps_asg (pe_op op_mod (pe_callTy call_int1 rfl B.n_int boot_int (pa_cons (pe_op op_add (pe_op op_mul (pe_ix ix_list (pv 0) pe_int (by intro _ _; rfl)) pe_int) pe_int) pa_nil)) pe_int) (pg_sub (pv 0) pe_int set_list (by intro _; rfl))) (pss_one (ps_ret (pe_op op_mod (pe_callTy call_int1 rfl B.n_int boot_int (pa_cons (pe_op op_fdivW (pe_ix ix_list (pv 0) pe_int (by intro _ _; rfl)) pe_int) pa_nil)) (pv 1))))) pss_nil) (pss_cons (ps_set (i := 3) nd rfl (Or.inl rfl) (pe_ix ix_list (pe_ix ix_list (pv 0) pe_int (by intro _ _; rfl)) (pe_op op_sub (pe_ix ix_list (pv 0) pe_int (by intro _ _; rfl)) pe_int) (by intro _ _; rfl))) (pss_cons (ps_asg (pe_op op_mod (pe_callTy call_int1 rfl B.n_int boot_int (pa_cons (pe_op op_add (pe_op op_add (pe_op op_mul (pe_ix ix_list (pv 0) pe_int (by intro _ _; rfl)) pe_int) (pv 3)) pe_int) pa_nil)) pe_int) (pg_sub (pv 0) pe_int set_list (by intro _; rfl))) (pss_cons (ps_if (pt_cmpR op_ge (pv 3) (pe_op op_pow pe_int pe_int) (nomark _)) (pss_one (ps_asg (pe_op op_fdivW (pv 3) (pv 1)) (pg_sub (pv 0) pe_int set_list (by intro _; rfl)))) pss_nil) (pss_one (ps_ret (pe_op op_mod (pe_callTy call_int1 rfl B.n_int boot_int (pa_cons (pv 3) pa_nil)) (pv 1)))))))))
theorem sc__law_pick : FnScope ["row", "some"] ["row", "some"] (defScope st__law_pick) := C8.fnScope_by (by decide +kernel)
theorem ok__law_pick {P : Program} {w0 : World} {K : PySem.W.Frag} {mg : Str → Option Value} {base : Heap} {S : Par} (hK : S.K = K) (B : Names mg) {f : Addr} {fd : FuncData} {cdv : Value} (F : FunC K "_law_pick" "_law_pick" st__law_pick f fd cdv) (C__law_taken : Cal P w0 K mg base S 1 "_law_taken" ps__law_taken _law_taken_s) :
    FnOk P w0 K mg base (L2.CX P w0) 3 f fd ["row", "some"] (SpD S (mkF 2 2 _law_pick_w)) := by
  refine fn_D F hK sc__law_pick fun N0 A outer s H E hr => ?_
  have nd := sc__law_pick.nd
  have hx : XP (S.inn N0 H E) (bodyCx P w0 K mg base ["row", "some"] "_law_pick" st__law_pick f cdv A outer s H E) := body_xp (S := S) (N0 := N0) (H := H)
  have lk : Like ((S.inn N0 H E).at K) S := ⟨hK.symm, rfl, rfl, rfl, rfl, rfl, rfl, rfl⟩
  have own_ : PassesOwn (model P w0) (bodyCx P w0 K mg base ["row", "some"] "_law_pick" st__law_pick f cdv A outer s H E).A (bodyCx P w0 K mg base ["row", "some"] "_law_pick" st__law_pick f cdv A outer s H E).env (bodyCx P w0 K mg base ["row", "some"] "_law_pick" st__law_pick f cdv A outer s H E).xe := body_own
  exact (dss_one (ds_ret (de_ix ix_seq o_ix (DE.b (de_var 1)) (DE.b (de_callC C__law_taken lk hr hx (dws_row 0 (dws_cons (de_callB call_len n_len B.n_len boot_len (dbs_cons (DE.b (de_var 1)) dbs_nil)) dws_nil)))))))
theorem sc__law_through_time : FnScope ["vans", "gates", "found", "left", "stood", "time", "spans", "k", "free", "gate"] ["vans", "gates"] (defScope st__law_through_time) := C8.fnScope_by (by decide +kernel)
theorem ok__law_through_time {P : Program} {w0 : World} {K : PySem.W.Frag} {mg : Str → Option Value} {base : Heap} {S : Par} (hK : S.K = K) (B : Names mg) {f : Addr} {fd : FuncData} {cdv : Value} (F : FunC K "_law_through_time" "_law_through_time" st__law_through_time f fd cdv)  :
    FnOk P w0 K mg base (L2.CX P w0) 3 f fd ["vans", "gates"] (SpD S (mkF 2 10 _law_through_time_w)) := by
  refine fn_D F hK sc__law_through_time fun N0 A outer s H E hr => ?_
  have nd := sc__law_through_time.nd
  have hx : XP (S.inn N0 H E) (bodyCx P w0 K mg base ["vans", "gates", "found", "left", "stood", "time", "spans", "k", "free", "gate"] "_law_through_time" st__law_through_time f cdv A outer s H E) := body_xp (S := S) (N0 := N0) (H := H)
  have lk : Like ((S.inn N0 H E).at K) S := ⟨hK.symm, rfl, rfl, rfl, rfl, rfl, rfl, rfl⟩
  have own_ : PassesOwn (model P w0) (bodyCx P w0 K mg base ["vans", "gates", "found", "left", "stood", "time", "spans", "k", "free", "gate"] "_law_through_time" st__law_through_time f cdv A outer s H E).A (bodyCx P w0 K mg base ["vans", "gates", "found", "left", "stood", "time", "spans", "k", "free", "gate"] "_law_through_time" st__law_through_time f cdv A outer s H E).env (bodyCx P w0 K mg base ["vans", "gates", "found", "left", "stood", "time", "spans", "k", "free", "gate"] "_law_through_time" st__law_through_time f cdv A outer s H E).xe := body_own
  exact (dss_cons (ds_parN (n := 0) (dm_o (df_lst an_nil) (dm_o (df_op op_mulA o_mulL (DE.b (DF.e (df_lst (an_cons de_int an_nil)))) (DE.b (de_var 1))) (dm_o (df_op op_mulA o_mulL (DE.b (DF.e (df_lst (an_cons de_int an_nil)))) (DE.b (de_var 1))) (dm_d de_int dm_nil)))) rfl nd (.cons rfl (by first | exact .inl rfl | exact .inr rfl) (by first | exact .inl rfl | exact .inr rfl) rfl (.cons rfl (by first | exact .inl rfl | exact .inr rfl) (by first | exact .inl rfl | exact .inr rfl) rfl (.cons rfl (by first | exact .inl rfl | exact .inr rfl) (by first | exact .inl rfl | exact .inr rfl) rfl (.cons rfl (by first | exact .inl rfl | exact .inr rfl) (by first | exact .inl rfl | exact .inr rfl) rfl .nil))))) (dss_cons (ds_set 6 (DF.e (df_op op_mulA o_mulL (DE.b (DF.e (df_lst (an_cons de_int an_nil)))) (DE.b (de_var 1)))) nd) (dss_cons (ds_while own_ (dt_cmp (op_ltA hr.units0) c_lt (DE.b (de_callB call_len n_len B.n_len boot_len (dbs_cons (db_own 2) dbs_nil))) (DE.b (de_callB call_len n_len B.n_len boot_len (dbs_cons (DE.b (de_var 0)) dbs_nil)))) (dss_cons (ds_for own_ rfl (di_rng1 B.n_range (DE.b (de_callB call_len n_len B.n_len boot_len (dbs_cons (DE.b (de_var 0)) dbs_nil)))) (dg_name 7 nd) (dss_cons (ds_setLc 8 (lp (own := [("gate", 9)]) nd lk (di_rng1 B.n_range (DE.b (de_var 1))) (fun _ _ _ _ _ => (dg_name 9 nd)) (fun _ _ _ _ _ hx lk => (dts_one (dt_cmp (op_eqD hr.units) c_eq (DE.b (de_ix ix_seq o_ix (db_own 3) (DE.b (de_var 9)))) (DE.b de_int)))) (fun _ _ _ _ _ hx lk => (de_var 9))) (sw_true rfl rfl rfl rfl)) (dss_one (ds_if (DW.t (dw_and (dt_cmp (op_eqD hr.units) c_eq (DE.b (de_var 7)) (DE.b (de_callB call_len n_len B.n_len boot_len (dbs_cons (db_own 2) dbs_nil)))) (dw_and (dt_cmp (op_leA hr.units0) c_le (DE.b (de_ix ix_seq o_ix (DE.b (de_ix ix_seq o_ix (DE.b (de_var 0)) (DE.b (de_var 7)))) (DE.b de_int))) (DE.b (de_var 5))) (dw_and1 (dt_cmp (op_neD hr.units) c_ne (DE.b (de_var 8)) (DE.b (DF.e (df_lst an_nil)))))))) (dss_cons (ds_app 2 (de_tup (an_cons (de_ix ix_seq o_ix (DE.b (de_var 8)) (DE.b de_int)) (an_cons (de_var 5) an_nil)))) (dss_cons (ds_put 3 (de_ix ix_seq o_ix (DE.b (de_ix ix_seq o_ix (DE.b (de_var 0)) (DE.b (de_var 7)))) (DE.b de_int)) (de_ix ix_seq o_ix (DE.b (de_var 8)) (DE.b de_int))) (dss_one (ds_put 4 (de_ix ix_seq o_ix (DE.b (de_var 6)) (DE.b (de_ix ix_seq o_ix (DE.b (de_var 8)) (DE.b de_int)))) (de_ix ix_seq o_ix (DE.b (de_var 8)) (DE.b de_int)))))) dss_nil)))) (dss_cons (ds_set 6 (DF.e (df_lc (lp (own := [("gate", 9)]) nd lk (di_rng1 B.n_range (DE.b (de_var 1))) (fun _ _ _ _ _ => (dg_name 9 nd)) (fun _ _ _ _ _ hx lk => dts_nil) (fun _ _ _ _ _ hx lk => (de_op op_addA o_add (DE.b (de_ix ix_seq o_ix (DE.b (de_var 6)) (DE.b (de_var 9)))) (DE.b (de_if (dt_cmp (op_eqD hr.units) c_eq (DE.b (de_ix ix_seq o_ix (db_own 3) (DE.b (de_var 9)))) (DE.b de_int)) de_int de_int))))))) nd) (dss_cons (ds_setO 3 (df_lc (lp (own := [("k", 7)]) nd lk (di_seq (DB.h (db_own 3))) (fun _ _ _ _ _ => (dg_name 7 nd)) (fun _ _ _ _ _ hx lk => dts_nil) (fun _ _ _ _ _ hx lk => (de_callB (call_max2 rfl) n_max2 B.n_max boot_max (dbs_cons (DE.b de_int) (dbs_cons (DE.b (de_op op_sub o_int0 (DE.b (de_var 7)) (DE.b de_int))) dbs_nil)))))) nd) (dss_one (ds_set 5 (de_op op_addA o_add (DE.b (de_var 5)) (DE.b de_int)) nd)))))) (dss_one (ds_frz 2 (ds_frz 4 (ds_ret (de_tup (an_cons (de_var 2) (an_cons (de_var 4) an_nil))))))))))
theorem sc__law_alike : FnScope ["found", "due", "k", "key"] ["found", "due"] (defScope st__law_alike) := C8.fnScope_by (by decide +kernel)
theorem ok__law_alike {P : Program} {w0 : World} {K : PySem.W.Frag} {mg : Str → Option Value} {base : Heap} {S : Par} {j : Nat} {sp : FD} (hK : S.K = K) (B : Names mg) {f : Addr} {fd : FuncData} {cdv : Value} (F : FunC K "_law_alike" "_law_alike" st__law_alike f fd cdv) (C__law_alike : Cal P w0 K mg base S j "_law_alike" ps__law_alike sp) :
    FnOk P w0 K mg base (L2.CX P w0) (j + 1) f fd ["found", "due"] (SpD S (mkF 2 4 (_law_alike_w sp))) := by
  refine fn_D F hK sc__law_alike fun N0 A outer s H E hr => ?_
  have nd := sc__law_alike.nd
  have hx : XP (S.inn N0 H E) (bodyCx P w0 K mg base ["found", "due", "k", "key"] "_law_alike" st__law_alike f cdv A outer s H E) := body_xp
  have lk : Like ((S.inn N0 H E).at K) S := ⟨hK.symm, rfl, rfl, rfl, rfl, rfl, rfl, rfl⟩
  exact (dss_cons (ds_if (dt_val (DE.b (de_isi2 B.n_isinstance B.n_tuple B.n_list boot_tuple boot_list ok_tuple ok_list (DE.b (de_var 1))))) (dss_cons (ds_if (DW.t (dw_or (dt_not (dt_val (DE.b (de_isi2 B.n_isinstance B.n_tuple B.n_list boot_tuple boot_list ok_tuple ok_list (DE.b (de_var 0)))))) (dw_or1 (dt_cmp (op_neD hr.units) c_ne (DE.b (de_isi B.n_isinstance B.n_list boot_list ok_list (DE.b (de_var 0)))) (DE.b (de_isi B.n_isinstance B.n_list boot_list ok_list (DE.b (de_var 1)))))))) (dss_one (ds_ret de_bl)) dss_nil) (dss_cons (ds_if (dt_cmp (op_neD hr.units) c_ne (DE.b (de_callB call_len n_len B.n_len boot_len (dbs_cons (DE.b (de_var 0)) dbs_nil))) (DE.b (de_callB call_len n_len B.n_len boot_len (dbs_cons (DE.b (de_var 1)) dbs_nil)))) (dss_one (ds_ret de_bl)) dss_nil) (dss_one (ds_ret (de_cmp (op_eqD hr.units) c_eq (DE.b (DF.e (df_lc (lp (own := [("k", 2)]) nd lk (di_rng1 B.n_range (DE.b (de_callB call_len n_len B.n_len boot_len (dbs_cons (DE.b (de_var 1)) dbs_nil)))) (fun _ _ _ _ _ => (dg_name 2 nd)) (fun _ _ _ _ _ hx lk => (dts_one (dt_not (dt_val (DE.b (de_callC C__law_alike lk hr hx (dws_cons (de_ix ix_seq o_ix (DE.b (de_var 0)) (DE.b (de_var 2))) (dws_cons (de_ix ix_seq o_ix (DE.b (de_var 1)) (DE.b (de_var 2))) dws_nil)))))))) (fun _ _ _ _ _ hx lk => (de_var 2)))))) (DE.b (DF.e (df_lst an_nil)))))))) dss_nil) (dss_cons (ds_if (dt_val (DE.b (de_isi B.n_isinstance B.n_dict boot_dict ok_dict (DE.b (de_var 1))))) (dss_cons (ds_if (DW.t (dw_or (dt_not (dt_val (DE.b (de_isi B.n_isinstance B.n_dict boot_dict ok_dict (DE.b (de_var 0)))))) (dw_or1 (dt_cmp (op_neD hr.units) c_ne (DE.b (DF.e (df_callTy call_list_of n_listOf B.n_list boot_list (dbs_cons (DE.b (de_var 0)) dbs_nil)))) (DE.b (DF.e (df_callTy call_list_of n_listOf B.n_list boot_list (dbs_cons (DE.b (de_var 1)) dbs_nil)))))))) (dss_one (ds_ret de_bl)) dss_nil) (dss_one (ds_ret (de_cmp (op_eqD hr.units) c_eq (DE.b (DF.e (df_lc (lp (own := [("key", 3)]) nd lk (di_seq (DB.h (DE.b (de_var 1)))) (fun _ _ _ _ _ => (dg_name 3 nd)) (fun _ _ _ _ _ hx lk => (dts_one (dt_not (dt_val (DE.b (de_callC C__law_alike lk hr hx (dws_cons (de_ix ix_seq o_ix (DE.b (de_var 0)) (DE.b (de_var 3))) (dws_cons (de_ix ix_seq o_ix (DE.b (de_var 1)) (DE.b (de_var 3))) dws_nil)))))))) (fun _ _ _ _ _ hx lk => (de_var 3)))))) (DE.b (DF.e (df_lst an_nil))))))) dss_nil) (dss_cons (ds_if (DW.t (dw_or (dt_cmp op_isN c_isN (DE.b (de_var 1)) (DE.b de_non)) (dw_or1 (dt_val (DE.b (de_isi B.n_isinstance B.n_str boot_str ok_str (DE.b (de_var 1)))))))) (dss_one (ds_ret (de_and (de_cmp (op_eqD hr.units) c_eq (DE.b (de_var 0)) (DE.b (de_var 1))) (de_one (de_cmp (op_eqD hr.units) c_eq (DE.b (de_isi B.n_isinstance B.n_str boot_str ok_str (DE.b (de_var 0)))) (DE.b (de_isi B.n_isinstance B.n_str boot_str ok_str (DE.b (de_var 1))))))))) dss_nil) (dss_one (ds_ret (de_and (de_isi B.n_isinstance B.n_int boot_int ok_int (DE.b (de_var 0))) (de_and (de_cmp (op_eqD hr.units) c_eq (DE.b (de_isi B.n_isinstance B.n_bool boot_bool ok_bool (DE.b (de_var 0)))) (DE.b (de_isi B.n_isinstance B.n_bool boot_bool ok_bool (DE.b (de_var 1))))) (de_one (de_cmp (op_eqD hr.units) c_eq (DE.b (de_var 0)) (DE.b (de_var 1)))))))))))
theorem sc__law_refused : FnScope ["row", "vans", "bad", "heard", "some"] ["row", "vans"] (defScope st__law_refused) := C8.fnScope_by (by decide +kernel)
theorem ok__law_refused {P : Program} {w0 : World} {K : PySem.W.Frag} {mg : Str → Option Value} {base : Heap} {S : Par} (hK : S.K = K) (B : Names mg) {f : Addr} {fd : FuncData} {cc PP : Addr} (tb : LamX.TabB base mg cc PP) {gH Cb Vb : Addr} (heard : ∀ X : Cx, X.K = K → X.mg = mg → HeardC X gH Cb Vb) (hCb : S.cBad = Cb) (hPT : (PP, QT__law_refused) ∈ S.T) (hTu : ∀ r ∈ S.T, r.1 = PP → r.2 = QT__law_refused) (F : FunC K "_law_refused" "_law_refused" st__law_refused f fd (.ref cc)) (C__law_alike : Cal P w0 K mg base S 13 "_law_alike" ps__law_alike _law_alike_s) (C__law_pick : Cal P w0 K mg base S 3 "_law_pick" ps__law_pick _law_pick_s) (C_begins : Cal P w0 K mg base S 11 "begins" ps_begins begins_s) (C_ends : Cal P w0 K mg base S 12 "ends" ps_ends ends_s) (C_fewest_gates : Cal P w0 K mg base S 14 "fewest_gates" ps_fewest_gates fewest_gates_s) (C_idle : Cal P w0 K mg base S 12 "idle" ps_idle idle_s) (C_longest_wait : Cal P w0 K mg base S 13 "longest_wait" ps_longest_wait longest_wait_s) (C_most_at_once : Cal P w0 K mg base S 11 "most_at_once" ps_most_at_once most_at_once_s) (C_waits : Cal P w0 K mg base S 12 "waits" ps_waits waits_s) :
    FnOk P w0 K mg base (L2.CX P w0) 17 f fd ["row", "vans"] (SpD S (mkF 2 5 _law_refused_w)) := by
  refine fn_D F hK sc__law_refused fun N0 A outer s H E hr => ?_
  have nd := sc__law_refused.nd
  have hx : XP (S.inn N0 H E) (bodyCx P w0 K mg base ["row", "vans", "bad", "heard", "some"] "_law_refused" st__law_refused f (.ref cc) A outer s H E) := body_xp (S := S) (N0 := N0) (H := H)
  have lk : Like ((S.inn N0 H E).at K) S := ⟨hK.symm, rfl, rfl, rfl, rfl, rfl, rfl, rfl⟩
  have own_ : PassesOwn (model P w0) (bodyCx P w0 K mg base ["row", "vans", "bad", "heard", "some"] "_law_refused" st__law_refused f (.ref cc) A outer s H E).A (bodyCx P w0 K mg base ["row", "vans", "bad", "heard", "some"] "_law_refused" st__law_refused f (.ref cc) A outer s H E).env (bodyCx P w0 K mg base ["row", "vans", "bad", "heard", "some"] "_law_refused" st__law_refused f (.ref cc) A outer s H E).xe := body_own
  exact (dss_cons (ds_set 2 (de_callC C__law_pick lk hr hx (dws_row 0 (dws_cons (DF.e (df_lst (an_cons de_non (an_cons (de_neg (DE.b de_int)) (an_cons de_int (an_cons de_bl (an_cons de_str an_nil))))))) dws_nil))) nd) (dss_cons (ds_if (dt_not (dt_val (DE.b (de_callC C__law_alike lk hr hx (dws_cons (hd (heard _ rfl rfl) hCb tb lk hPT hTu hr (fun _ _ _ _ _ _ _ _ _ hr hx lk => (de_callC C_fewest_gates lk hr hx (dws_cons (de_var 1) (dws_cons (de_var 2) dws_nil))))) (dws_cons (de_tup (an_cons de_str (an_cons de_str (an_cons de_bl an_nil)))) dws_nil)))))) (dss_one (ds_ret de_bl)) dss_nil) (dss_cons (ds_set 2 (de_callC C__law_pick lk hr hx (dws_row 0 (dws_cons (DF.e (df_lst (an_cons de_non (an_cons de_int (an_cons de_int (an_cons de_bl (an_cons de_str an_nil))))))) dws_nil))) nd) (dss_cons (ds_set 3 (DF.e (df_lst (an_cons (hd (heard _ rfl rfl) hCb tb lk hPT hTu hr (fun _ _ _ _ _ _ _ _ _ hr hx lk => (de_callC C_begins lk hr hx (dws_cons (de_var 1) (dws_cons (de_var 2) dws_nil))))) (an_cons (hd (heard _ rfl rfl) hCb tb lk hPT hTu hr (fun _ _ _ _ _ _ _ _ _ hr hx lk => (de_callC C_waits lk hr hx (dws_cons (de_var 1) (dws_cons (de_var 2) dws_nil))))) (an_cons (hd (heard _ rfl rfl) hCb tb lk hPT hTu hr (fun _ _ _ _ _ _ _ _ _ hr hx lk => (de_callC C_idle lk hr hx (dws_cons (de_var 1) (dws_cons (de_var 2) dws_nil))))) (an_cons (hd (heard _ rfl rfl) hCb tb lk hPT hTu hr (fun _ _ _ _ _ _ _ _ _ hr hx lk => (de_callC C_ends lk hr hx (dws_cons (de_var 1) (dws_cons (de_var 2) dws_nil))))) an_nil)))))) nd) (dss_cons (ds_if (dt_not (dt_val (DE.b (de_callC C__law_alike lk hr hx (dws_cons (de_var 3) (dws_cons (DF.e (df_op op_mulA o_mulL (DE.b (DF.e (df_lst (an_cons (de_tup (an_cons de_str (an_cons de_str (an_cons de_bl an_nil)))) an_nil)))) (DE.b de_int))) dws_nil)))))) (dss_one (ds_ret de_bl)) dss_nil) (dss_cons (ds_set 4 (de_callC C__law_pick lk hr hx (dws_row 0 (dws_cons (DF.e (df_lst (an_cons (de_tup (an_cons (de_tup (an_cons de_int (an_cons de_int an_nil))) (an_cons (de_tup (an_cons de_int (an_cons de_int an_nil))) an_nil))) (an_cons (de_tup (an_cons (de_tup (an_cons de_int (an_cons de_int an_nil))) an_nil)) (an_cons (de_tup (an_cons (de_tup (an_cons de_int (an_cons de_int an_nil))) an_nil)) (an_cons (de_tup (an_cons (de_tup (an_cons de_int (an_cons de_int an_nil))) an_nil)) (an_cons (de_tup (an_cons (de_tup (an_cons (de_neg (DE.b de_int)) (an_cons de_int an_nil))) an_nil)) (an_cons (de_tup (an_cons (de_tup (an_cons de_int an_nil)) an_nil)) (an_cons (de_tup (an_cons (DF.e (df_lst (an_cons de_int (an_cons de_int an_nil)))) an_nil)) (an_cons (de_tup (an_cons (de_tup (an_cons de_bl (an_cons de_int an_nil))) an_nil)) an_nil)))))))))) dws_nil))) nd) (dss_cons (ds_set 2 (de_callC C__law_pick lk hr hx (dws_row 0 (dws_cons (DF.e (df_lst (an_cons de_non (an_cons (DF.e (df_callTy call_list_of n_listOf B.n_list boot_list (dbs_cons (DE.b (de_var 1)) dbs_nil))) (an_cons (de_var 4) (an_cons (de_op op_mulA o_mul (DE.b (de_tup (an_cons (de_tup (an_cons de_int (an_cons de_int an_nil))) an_nil))) (DE.b de_int)) (an_cons de_str an_nil))))))) dws_nil))) nd) (dss_cons (ds_set 3 (DF.e (df_lst (an_cons (hd (heard _ rfl rfl) hCb tb lk hPT hTu hr (fun _ _ _ _ _ _ _ _ _ hr hx lk => (de_callC C_begins lk hr hx (dws_cons (de_var 2) (dws_cons de_non dws_nil))))) (an_cons (hd (heard _ rfl rfl) hCb tb lk hPT hTu hr (fun _ _ _ _ _ _ _ _ _ hr hx lk => (de_callC C_most_at_once lk hr hx (dws_cons (de_var 2) dws_nil)))) (an_cons (hd (heard _ rfl rfl) hCb tb lk hPT hTu hr (fun _ _ _ _ _ _ _ _ _ hr hx lk => (de_callC C_fewest_gates lk hr hx (dws_cons (de_var 2) (dws_cons de_non dws_nil))))) (an_cons (hd (heard _ rfl rfl) hCb tb lk hPT hTu hr (fun _ _ _ _ _ _ _ _ _ hr hx lk => (de_callC C_longest_wait lk hr hx (dws_cons (de_var 2) (dws_cons de_non dws_nil))))) (an_cons (hd (heard _ rfl rfl) hCb tb lk hPT hTu hr (fun _ _ _ _ _ _ _ _ _ hr hx lk => (de_callC C_idle lk hr hx (dws_cons (de_var 2) (dws_cons de_non dws_nil))))) an_nil))))))) nd) (dss_one (ds_ret (de_callC C__law_alike lk hr hx (dws_cons (de_var 3) (dws_cons (DF.e (df_op op_mulA o_mulL (DE.b (DF.e (df_lst (an_cons (de_tup (an_cons de_str (an_cons de_str (an_cons de_bl an_nil)))) an_nil)))) (DE.b de_int))) dws_nil)))))))))))))
theorem sc_law : FnScope ["script", "row", "many", "gap", "long", "time", "rows", "k", "vans", "gates", "due", "free", "late", "longest", "found", "good", "own", "i", "counts", "van", "most"] ["script"] (defScope st_law) := C8.fnScope_by (by decide +kernel)
def law_N : List Str := ["script", "row", "many", "gap", "long", "time", "rows", "k", "vans", "gates", "due", "free", "late", "longest", "found", "good", "own", "i", "counts", "van", "most"]
theorem ok_law {P : Program} {w0 : World} {K : PySem.W.Frag} {mg : Str → Option Value} {base : Heap} {S : Par} (hK : S.K = K) (B : Names mg) {f : Addr} {cdv : Value} (C__law_alike : Cal P w0 K mg base S 13 "_law_alike" ps__law_alike _law_alike_s) (C__law_pick : Cal P w0 K mg base S 3 "_law_pick" ps__law_pick _law_pick_s) (C__law_refused : Cal P w0 K mg base S 17 "_law_refused" ps__law_refused _law_refused_s) (C__law_taken : Cal P w0 K mg base S 1 "_law_taken" ps__law_taken _law_taken_s) (C__law_through_time : Cal P w0 K mg base S 3 "_law_through_time" ps__law_through_time _law_through_time_s) (C_begins : Cal P w0 K mg base S 11 "begins" ps_begins begins_s) (C_ends : Cal P w0 K mg base S 12 "ends" ps_ends ends_s) (C_fewest_gates : Cal P w0 K mg base S 14 "fewest_gates" ps_fewest_gates fewest_gates_s) (C_idle : Cal P w0 K mg base S 12 "idle" ps_idle idle_s) (C_longest_wait : Cal P w0 K mg base S 13 "longest_wait" ps_longest_wait longest_wait_s) (C_most_at_once : Cal P w0 K mg base S 11 "most_at_once" ps_most_at_once most_at_once_s) (C_waits : Cal P w0 K mg base S 12 "waits" ps_waits waits_s) (N0 : Addr → Prop) (H0 : Hp) (A : Around) (outer : List Env) (s : Shared) (H : Hp) (E : XK) (hr : Room 17 (A.deeper (envOfC "law" (defScope st_law) s.heap.objs.size f cdv))) :
    DSs (S.inn N0 H0 E) (bodyCx P w0 K mg base ["script", "row", "many", "gap", "long", "time", "rows", "k", "vans", "gates", "due", "free", "late", "longest", "found", "good", "own", "i", "counts", "van", "most"] "law" st_law f cdv A outer s H E) ((defBody st_law).drop 1) law_w := by
  have nd := sc_law.nd
  have hx : XP (S.inn N0 H0 E) (bodyCx P w0 K mg base ["script", "row", "many", "gap", "long", "time", "rows", "k", "vans", "gates", "due", "free", "late", "longest", "found", "good", "own", "i", "counts", "van", "most"] "law" st_law f cdv A outer s H E) := body_xp (S := S) (N0 := N0) (H := H)
  have lk : Like ((S.inn N0 H0 E).at K) S := ⟨hK.symm, rfl, rfl, rfl, rfl, rfl, rfl, rfl⟩
  have own_ : PassesOwn (model P w0) (bodyCx P w0 K mg base ["script", "row", "many", "gap", "long", "time", "rows", "k", "vans", "gates", "due", "free", "late", "longest", "found", "good", "own", "i", "counts", "van", "most"] "law" st_law f cdv A outer s H E).A (bodyCx P w0 K mg base ["script", "row", "many", "gap", "long", "time", "rows", "k", "vans", "gates", "due", "free", "late", "longest", "found", "good", "own", "i", "counts", "van", "most"] "law" st_law f cdv A outer s H E).env (bodyCx P w0 K mg base ["script", "row", "many", "gap", "long", "time", "rows", "k", "vans", "gates", "due", "free", "late", "longest", "found", "good", "own", "i", "counts", "van", "most"] "law" st_law f cdv A outer s H E).xe := body_own
  exact (dss_cons (ds_set 2 (de_callC C__law_taken lk hr hx (dws_row 1 (dws_cons (de_callC C__law_pick lk hr hx (dws_row 1 (dws_cons (DF.e (df_lst (an_cons de_int (an_cons de_int (an_cons de_int an_nil))))) dws_nil))) dws_nil))) nd) (dss_cons (ds_parN (n := 0) (dm_d (de_callC C__law_pick lk hr hx (dws_row 1 (dws_cons (DF.e (df_lst (an_cons de_int (an_cons de_int (an_cons de_int an_nil))))) dws_nil))) (dm_d (de_callC C__law_pick lk hr hx (dws_row 1 (dws_cons (DF.e (df_lst (an_cons de_int (an_cons de_int (an_cons de_int an_nil))))) dws_nil))) (dm_d (de_callC C__law_taken lk hr hx (dws_row 1 (dws_cons de_int dws_nil))) (dm_o (df_lst an_nil) dm_nil)))) rfl nd (.cons rfl (by first | exact .inl rfl | exact .inr rfl) (by first | exact .inl rfl | exact .inr rfl) rfl (.cons rfl (by first | exact .inl rfl | exact .inr rfl) (by first | exact .inl rfl | exact .inr rfl) rfl (.cons rfl (by first | exact .inl rfl | exact .inr rfl) (by first | exact .inl rfl | exact .inr rfl) rfl (.cons rfl (by first | exact .inl rfl | exact .inr rfl) (by first | exact .inl rfl | exact .inr rfl) rfl .nil))))) (dss_cons (ds_for own_ rfl (di_rng1 B.n_range (DE.b (de_var 2))) (dg_name 7 nd) (dss_cons (ds_set 5 (de_callB (call_min2 rfl) n_min2 B.n_min boot_min (dbs_cons (DE.b de_int) (dbs_cons (DE.b (de_op op_addA o_add (DE.b (de_var 5)) (DE.b (de_callC C__law_taken lk hr hx (dws_row 1 (dws_cons (de_var 3) dws_nil)))))) dbs_nil))) nd) (dss_one (ds_app 6 (de_tup (an_cons (de_var 5) (an_cons (de_op op_addA o_add (DE.b de_int) (DE.b (de_callC C__law_taken lk hr hx (dws_row 1 (dws_cons (de_var 4) dws_nil))))) an_nil))))))) (dss_cons (ds_parN (n := 0) (dm_d (de_callTy call_tuple_of n_tupleOf B.n_tuple boot_tuple (dbs_cons (db_own 6) dbs_nil)) (dm_d (de_op op_addA o_add (DE.b de_int) (DE.b (de_callC C__law_taken lk hr hx (dws_row 1 (dws_cons (de_callC C__law_pick lk hr hx (dws_row 1 (dws_cons (DF.e (df_lst (an_cons de_int (an_cons de_int an_nil)))) dws_nil))) dws_nil))))) dm_nil)) rfl nd (.cons rfl (by first | exact .inl rfl | exact .inr rfl) (by first | exact .inl rfl | exact .inr rfl) rfl (.cons rfl (by first | exact .inl rfl | exact .inr rfl) (by first | exact .inl rfl | exact .inr rfl) rfl .nil))) (dss_cons (ds_asg (de_callC C__law_through_time lk hr hx (dws_cons (de_var 8) (dws_cons (de_var 9) dws_nil))) (dg_tup rfl (dgs_cons (dg_name 10 nd) (dgs_cons (dg_name 11 nd) dgs_nil)))) (dss_cons (ds_set 12 (de_callTy call_tuple_of n_tupleOf B.n_tuple boot_tuple (dbs_cons (DE.b (DF.e (df_lc (lp (own := [("k", 7)]) nd lk (di_rng1 B.n_range (DE.b (de_var 2))) (fun _ _ _ _ _ => (dg_name 7 nd)) (fun _ _ _ _ _ hx lk => dts_nil) (fun _ _ _ _ _ hx lk => (de_op op_sub o_int0 (DE.b (de_ix ix_seq o_ix (DE.b (de_ix ix_seq o_ix (DE.b (de_var 10)) (DE.b (de_var 7)))) (DE.b de_int))) (DE.b (de_ix ix_seq o_ix (DE.b (de_ix ix_seq o_ix (DE.b (de_var 8)) (DE.b (de_var 7)))) (DE.b de_int))))))))) dbs_nil)) nd) (dss_cons (ds_if (dt_not (dt_val (DE.b (de_callC C__law_alike lk hr hx (dws_cons (DF.e (df_lst (an_cons (de_callC C_begins lk hr hx (dws_cons (de_var 8) (dws_cons (de_var 9) dws_nil))) (an_cons (de_callC C_waits lk hr hx (dws_cons (de_var 8) (dws_cons (de_var 9) dws_nil))) (an_cons (de_callC C_idle lk hr hx (dws_cons (de_var 8) (dws_cons (de_var 9) dws_nil))) an_nil))))) (dws_cons (DF.e (df_lst (an_cons (de_callTy call_tuple_of n_tupleOf B.n_tuple boot_tuple (dbs_cons (DE.b (de_var 10)) dbs_nil)) (an_cons (de_var 12) (an_cons (de_callTy call_tuple_of n_tupleOf B.n_tuple boot_tuple (dbs_cons (DE.b (de_var 11)) dbs_nil)) an_nil))))) dws_nil)))))) (dss_one (ds_ret de_bl)) dss_nil) (dss_cons (ds_if (DW.t (dw_or (dt_not (dt_val (DE.b (de_callC C__law_alike lk hr hx (dws_cons (de_callC C_longest_wait lk hr hx (dws_cons (de_var 8) (dws_cons (de_var 9) dws_nil))) (dws_cons (de_callB (cr_maxA rfl hr.units) n_best B.n_max boot_max (dbs_cons (DE.b (de_op op_addA o_add (DE.b (de_tup (an_cons de_int an_nil))) (DE.b (de_var 12)))) dbs_nil)) dws_nil)))))) (dw_or1 (dt_not (dt_val (DE.b (de_callC C__law_alike lk hr hx (dws_cons (de_callC C_ends lk hr hx (dws_cons (de_var 8) (dws_cons (de_var 9) dws_nil))) (dws_cons (de_callB (cr_maxA rfl hr.units) n_best B.n_max boot_max (dbs_cons (DE.b (DF.e (df_op op_addA o_addL (DE.b (DF.e (df_lst (an_cons de_int an_nil)))) (DE.b (DF.e (df_lc (lp (own := [("k", 7)]) nd lk (di_rng1 B.n_range (DE.b (de_var 2))) (fun _ _ _ _ _ => (dg_name 7 nd)) (fun _ _ _ _ _ hx lk => dts_nil) (fun _ _ _ _ _ hx lk => (de_op op_addA o_add (DE.b (de_ix ix_seq o_ix (DE.b (de_ix ix_seq o_ix (DE.b (de_var 10)) (DE.b (de_var 7)))) (DE.b de_int))) (DE.b (de_ix ix_seq o_ix (DE.b (de_ix ix_seq o_ix (DE.b (de_var 8)) (DE.b (de_var 7)))) (DE.b de_int)))))))))))) dbs_nil)) dws_nil))))))))) (dss_one (ds_ret de_bl)) dss_nil) (dss_cons (ds_set 13 (de_callC C__law_pick lk hr hx (dws_row 1 (dws_cons (DF.e (df_lst (an_cons de_int (an_cons (de_callC C__law_taken lk hr hx (dws_row 1 (dws_cons de_int dws_nil))) (an_cons (de_callC C__law_taken lk hr hx (dws_row 1 (dws_cons de_int dws_nil))) an_nil))))) dws_nil))) nd) (dss_cons (ds_set 14 (de_callC C_fewest_gates lk hr hx (dws_cons (de_var 8) (dws_cons (de_var 13) dws_nil))) nd) (dss_cons (ds_set 15 (DF.e (df_lst an_nil)) nd) (dss_cons (ds_for own_ rfl (di_rng2 B.n_range (DE.b de_int) (DE.b de_int)) (dg_name 7 nd) (dss_cons (ds_set 16 (de_ix ix_seq o_ix (DE.b (de_callC C__law_through_time lk hr hx (dws_cons (de_var 8) (dws_cons (de_var 7) dws_nil)))) (DE.b de_int)) nd) (dss_one (ds_set 15 (DF.e (df_op op_addA o_addL (DE.b (de_var 15)) (DE.b (DF.e (df_if (dt_cmp (op_leA hr.units0) c_le (DE.b (de_callB (cr_maxA rfl hr.units) n_best B.n_max boot_max (dbs_cons (DE.b (DF.e (df_op op_addA o_addL (DE.b (DF.e (df_lst (an_cons de_int an_nil)))) (DE.b (DF.e (df_lc (lp (own := [("i", 17)]) nd lk (di_rng1 B.n_range (DE.b (de_var 2))) (fun _ _ _ _ _ => (dg_name 17 nd)) (fun _ _ _ _ _ hx lk => dts_nil) (fun _ _ _ _ _ hx lk => (de_op op_sub o_int0 (DE.b (de_ix ix_seq o_ix (DE.b (de_ix ix_seq o_ix (DE.b (de_var 16)) (DE.b (de_var 17)))) (DE.b de_int))) (DE.b (de_ix ix_seq o_ix (DE.b (de_ix ix_seq o_ix (DE.b (de_var 8)) (DE.b (de_var 17)))) (DE.b de_int)))))))))))) dbs_nil))) (DE.b (de_var 13))) (df_lst (an_cons (de_var 7) an_nil)) (df_lst an_nil)))))) nd)))) (dss_cons (ds_if (dt_not (dt_val (DE.b (de_callC C__law_alike lk hr hx (dws_cons (de_var 14) (dws_cons (de_if (dt_cmp (op_neD hr.units) c_ne (DE.b (de_var 15)) (DE.b (DF.e (df_lst an_nil)))) (de_callB (cr_minA rfl hr.units) n_best B.n_min boot_min (dbs_cons (DE.b (de_var 15)) dbs_nil)) de_non) dws_nil)))))) (dss_one (ds_ret de_bl)) dss_nil) (dss_cons (ds_setLc 18 (lp (own := [("time", 5)]) nd lk (di_rng1 B.n_range (DE.b de_int)) (fun _ _ _ _ _ => (dg_name 5 nd)) (fun _ _ _ _ _ hx lk => dts_nil) (fun _ _ _ _ _ hx lk => (de_callB call_len n_len B.n_len boot_len (dbs_cons (DE.b (DF.e (df_lc (lp (own := [("van", 19)]) nd lk (di_seq (DB.h (DE.b (de_var 8)))) (fun _ _ _ _ _ => (dg_name 19 nd)) (fun _ _ _ _ _ hx lk => (dts_one (dt_chain (op_leA hr.units0) (op_ltA hr.units0) c_le c_lt (DE.b (de_ix ix_seq o_ix (DE.b (de_var 19)) (DE.b de_int))) (DE.b (de_var 5)) (DE.b (de_op op_addA o_add (DE.b (de_ix ix_seq o_ix (DE.b (de_var 19)) (DE.b de_int))) (DE.b (de_ix ix_seq o_ix (DE.b (de_var 19)) (DE.b de_int)))))))) (fun _ _ _ _ _ hx lk => (de_var 19)))))) dbs_nil)))) (sw_true rfl rfl rfl rfl)) (dss_cons (ds_set 20 (de_callB (cr_maxA rfl hr.units) n_best B.n_max boot_max (dbs_cons (DE.b (de_var 18)) dbs_nil)) nd) (dss_cons (ds_if (dt_not (dt_val (DE.b (de_callC C__law_alike lk hr hx (dws_cons (de_callC C_most_at_once lk hr hx (dws_cons (de_var 8) dws_nil)) (dws_cons (de_tup (an_cons (de_var 20) (an_cons (de_if (dt_cmp op_gt c_int (DE.b (de_var 20)) (DE.b de_int)) (de_index (hu65 hr) (DE.b (de_var 18)) (DE.b (de_var 20))) de_int) an_nil))) dws_nil)))))) (dss_one (ds_ret de_bl)) dss_nil) (dss_cons (ds_if (DW.t (dw_and (dt_cmp (op_leA hr.units0) c_le (DE.b (de_var 20)) (DE.b de_int)) (dw_and (dt_cmp op_gt c_int (DE.b (de_var 2)) (DE.b de_int)) (dw_and1 (dt_not (dt_val (DE.b (de_callC C__law_alike lk hr hx (dws_cons (de_callC C_fewest_gates lk hr hx (dws_cons (de_var 8) (dws_cons de_int dws_nil))) (dws_cons (de_var 20) dws_nil)))))))))) (dss_one (ds_ret de_bl)) dss_nil) (dss_one (ds_ret (de_callC C__law_refused lk hr hx (dws_row 1 (dws_cons (de_var 8) dws_nil))))))))))))))))))))))
theorem all_ok {P : Program} {w0 : World} {K : PySem.W.Frag} {mg : Str → Option Value} {base : Heap} {f_is_number f_check f_are_numbers f_is_van f_check_vans f_begins f_waits f_longest_wait f_ends f_fewest_gates f_most_at_once f_idle f__law_taken f__law_pick f__law_through_time f__law_alike f__law_heard f__law_refused f_law : Addr} {fd_is_number fd_check fd_are_numbers fd_is_van fd_check_vans fd_begins fd_waits fd_longest_wait fd_ends fd_fewest_gates fd_most_at_once fd_idle fd__law_taken fd__law_pick fd__law_through_time fd__law_alike fd__law_heard fd__law_refused fd_law : FuncData} {cd_is_number cd_check cd_is_van cd_begins cd_waits cd_longest_wait cd_ends cd_fewest_gates cd_most_at_once cd_idle cd__law_taken cd__law_pick cd__law_through_time cd__law_alike cd__law_heard cd_law : Value} {cc_are_numbers PP_are_numbers cc_check_vans PP_check_vans cc__law_refused PP__law_refused : Addr} {Cb fI ccb Vb : Addr} (B : Names mg) (BAD : BadTxt P K mg Cb fI ccb) (HT : HeardTxt K mg Cb Vb)
    (F_is_number : FunC K "is_number" "is_number" st_is_number f_is_number fd_is_number cd_is_number) (m_is_number : mg "is_number" = some (.ref f_is_number))
    (F_check : FunC K "check" "check" st_check f_check fd_check cd_check) (m_check : mg "check" = some (.ref f_check))
    (F_are_numbers : FunC K "are_numbers" "are_numbers" st_are_numbers f_are_numbers fd_are_numbers (.ref cc_are_numbers)) (m_are_numbers : mg "are_numbers" = some (.ref f_are_numbers))
    (F_is_van : FunC K "is_van" "is_van" st_is_van f_is_van fd_is_van cd_is_van) (m_is_van : mg "is_van" = some (.ref f_is_van))
    (F_check_vans : FunC K "check_vans" "check_vans" st_check_vans f_check_vans fd_check_vans (.ref cc_check_vans)) (m_check_vans : mg "check_vans" = some (.ref f_check_vans))
    (F_begins : FunC K "begins" "begins" st_begins f_begins fd_begins cd_begins) (m_begins : mg "begins" = some (.ref f_begins))
    (F_waits : FunC K "waits" "waits" st_waits f_waits fd_waits cd_waits) (m_waits : mg "waits" = some (.ref f_waits))
    (F_longest_wait : FunC K "longest_wait" "longest_wait" st_longest_wait f_longest_wait fd_longest_wait cd_longest_wait) (m_longest_wait : mg "longest_wait" = some (.ref f_longest_wait))
    (F_ends : FunC K "ends" "ends" st_ends f_ends fd_ends cd_ends) (m_ends : mg "ends" = some (.ref f_ends))
    (F_fewest_gates : FunC K "fewest_gates" "fewest_gates" st_fewest_gates f_fewest_gates fd_fewest_gates cd_fewest_gates) (m_fewest_gates : mg "fewest_gates" = some (.ref f_fewest_gates))
    (F_most_at_once : FunC K "most_at_once" "most_at_once" st_most_at_once f_most_at_once fd_most_at_once cd_most_at_once) (m_most_at_once : mg "most_at_once" = some (.ref f_most_at_once))
    (F_idle : FunC K "idle" "idle" st_idle f_idle fd_idle cd_idle) (m_idle : mg "idle" = some (.ref f_idle))
    (F__law_taken : FunC K "_law_taken" "_law_taken" st__law_taken f__law_taken fd__law_taken cd__law_taken) (m__law_taken : mg "_law_taken" = some (.ref f__law_taken))
    (F__law_pick : FunC K "_law_pick" "_law_pick" st__law_pick f__law_pick fd__law_pick cd__law_pick) (m__law_pick : mg "_law_pick" = some (.ref f__law_pick))
    (F__law_through_time : FunC K "_law_through_time" "_law_through_time" st__law_through_time f__law_through_time fd__law_through_time cd__law_through_time) (m__law_through_time : mg "_law_through_time" = some (.ref f__law_through_time))
    (F__law_alike : FunC K "_law_alike" "_law_alike" st__law_alike f__law_alike fd__law_alike cd__law_alike) (m__law_alike : mg "_law_alike" = some (.ref f__law_alike))
    (F__law_heard : FunC K "_law_heard" "_law_heard" st__law_heard f__law_heard fd__law_heard cd__law_heard) (m__law_heard : mg "_law_heard" = some (.ref f__law_heard))
    (F__law_refused : FunC K "_law_refused" "_law_refused" st__law_refused f__law_refused fd__law_refused (.ref cc__law_refused)) (m__law_refused : mg "_law_refused" = some (.ref f__law_refused))
    (F_law : FunC K "law" "law" st_law f_law fd_law cd_law)
    (HF : ∀ X : Cx, X.K = K → X.mg = mg → HeardC X f__law_heard Cb Vb)
    (tb_are_numbers : LamX.TabB base mg cc_are_numbers PP_are_numbers)
    (tb_check_vans : LamX.TabB base mg cc_check_vans PP_check_vans)
    (tb__law_refused : LamX.TabB base mg cc__law_refused PP__law_refused)
    (hTu__law_refused : ∀ r ∈ ([(PP__law_refused, QT__law_refused)] : List (Addr × Str)), r.1 = PP__law_refused → r.2 = QT__law_refused)
    {S : Par} (hK : S.K = K) (hST : S.T = [(PP__law_refused, QT__law_refused)]) (hSG : S.G = [PP_are_numbers, PP_check_vans]) (hSB : S.cBad = Cb)
    (N0 : Addr → Prop) (H0 : Hp) (A : Around) (outer : List Env) (s : Shared) (H : Hp) (E : XK) (hr : Room 17 (A.deeper (envOfC "law" (defScope st_law) s.heap.objs.size f_law cd_law))) :
    DSs (S.inn N0 H0 E) (bodyCx P w0 K mg base law_N "law" st_law f_law cd_law A outer s H E) ((defBody st_law).drop 1) law_w := by
  have C_is_number : Cal P w0 K mg base S 3 "is_number" ps_is_number is_number_s := cal_of F_is_number m_is_number (F_is_number.binds (ps := ps_is_number) fun _ _ _ _ _ _ us hl => match us, hl with | [_, _, _], _ => rfl) (ok_is_number hK B F_is_number ) mono_is_number meets_is_number
  have C_check : Cal P w0 K mg base S 3 "check" ps_check check_s := cal_of F_check m_check (F_check.binds (ps := ps_check) fun _ _ _ _ _ _ us hl => match us, hl with | [_, _], _ => rfl) (ok_check hK B BAD hSB F_check ) mono_check meets_check
  have C_are_numbers : Cal P w0 K mg base S 6 "are_numbers" ps_are_numbers are_numbers_s := cal_of F_are_numbers m_are_numbers (F_are_numbers.binds (ps := ps_are_numbers) fun _ _ _ _ _ _ us hl => match us, hl with | [_, _, _, _], _ => rfl) (ok_are_numbers hK B tb_are_numbers (by rw [hSG]; exact (.head _)) F_are_numbers C_is_number) mono_are_numbers meets_are_numbers
  have C_is_van : Cal P w0 K mg base S 7 "is_van" ps_is_van is_van_s := cal_of F_is_van m_is_van (F_is_van.binds (ps := ps_is_van) fun _ _ _ _ _ _ us hl => match us, hl with | [_], _ => rfl) (ok_is_van hK B F_is_van C_are_numbers) mono_is_van meets_is_van
  have C_check_vans : Cal P w0 K mg base S 10 "check_vans" ps_check_vans check_vans_s := cal_of F_check_vans m_check_vans (F_check_vans.binds (ps := ps_check_vans) fun _ _ _ _ _ _ us hl => match us, hl with | [_], _ => rfl) (ok_check_vans hK B tb_check_vans (by rw [hSG]; exact (.tail _ (.head _))) F_check_vans C_check C_is_van) mono_check_vans meets_check_vans
  have C_begins : Cal P w0 K mg base S 11 "begins" ps_begins begins_s := cal_of F_begins m_begins (F_begins.binds (ps := ps_begins) fun _ _ _ _ _ _ us hl => match us, hl with | [_, _], _ => rfl) (ok_begins hK B F_begins C_check C_check_vans C_is_number) mono_begins meets_begins
  have C_waits : Cal P w0 K mg base S 12 "waits" ps_waits waits_s := cal_of F_waits m_waits (F_waits.binds (ps := ps_waits) fun _ _ _ _ _ _ us hl => match us, hl with | [_, _], _ => rfl) (ok_waits hK B F_waits C_begins) mono_waits meets_waits
  have C_longest_wait : Cal P w0 K mg base S 13 "longest_wait" ps_longest_wait longest_wait_s := cal_of F_longest_wait m_longest_wait (F_longest_wait.binds (ps := ps_longest_wait) fun _ _ _ _ _ _ us hl => match us, hl with | [_, _], _ => rfl) (ok_longest_wait hK B F_longest_wait C_waits) mono_longest_wait meets_longest_wait
  have C_ends : Cal P w0 K mg base S 12 "ends" ps_ends ends_s := cal_of F_ends m_ends (F_ends.binds (ps := ps_ends) fun _ _ _ _ _ _ us hl => match us, hl with | [_, _], _ => rfl) (ok_ends hK B F_ends C_begins) mono_ends meets_ends
  have C_fewest_gates : Cal P w0 K mg base S 14 "fewest_gates" ps_fewest_gates fewest_gates_s := cal_of F_fewest_gates m_fewest_gates (F_fewest_gates.binds (ps := ps_fewest_gates) fun _ _ _ _ _ _ us hl => match us, hl with | [_, _], _ => rfl) (ok_fewest_gates hK B F_fewest_gates C_check C_check_vans C_is_number C_longest_wait) mono_fewest_gates meets_fewest_gates
  have C_most_at_once : Cal P w0 K mg base S 11 "most_at_once" ps_most_at_once most_at_once_s := cal_of F_most_at_once m_most_at_once (F_most_at_once.binds (ps := ps_most_at_once) fun _ _ _ _ _ _ us hl => match us, hl with | [_], _ => rfl) (ok_most_at_once hK B F_most_at_once C_check_vans) mono_most_at_once meets_most_at_once
  have C_idle : Cal P w0 K mg base S 12 "idle" ps_idle idle_s := cal_of F_idle m_idle (F_idle.binds (ps := ps_idle) fun _ _ _ _ _ _ us hl => match us, hl with | [_, _], _ => rfl) (ok_idle hK B F_idle C_begins C_is_number) mono_idle meets_idle
  have C__law_taken : Cal P w0 K mg base S 1 "_law_taken" ps__law_taken _law_taken_s := ⟨⟨_, _, ok__law_taken hK B F__law_taken, m__law_taken, F__law_taken.kp, (F__law_taken.binds (ps := ps__law_taken) fun _ _ _ _ _ _ us hl => match us, hl with | [_, _], _ => rfl)⟩, mono__law_taken⟩
  have C__law_pick : Cal P w0 K mg base S 3 "_law_pick" ps__law_pick _law_pick_s := cal_of F__law_pick m__law_pick (F__law_pick.binds (ps := ps__law_pick) fun _ _ _ _ _ _ us hl => match us, hl with | [_, _], _ => rfl) (ok__law_pick hK B F__law_pick C__law_taken) mono__law_pick meets__law_pick
  have C__law_through_time : Cal P w0 K mg base S 3 "_law_through_time" ps__law_through_time _law_through_time_s := cal_of F__law_through_time m__law_through_time (F__law_through_time.binds (ps := ps__law_through_time) fun _ _ _ _ _ _ us hl => match us, hl with | [_, _], _ => rfl) (ok__law_through_time hK B F__law_through_time ) mono__law_through_time meets__law_through_time
  have C__law_alike : Cal P w0 K mg base S 13 "_law_alike" ps__law_alike (alikeS 12) := cal_alike F__law_alike m__law_alike (F__law_alike.binds (ps := ps__law_alike) fun _ _ _ _ _ _ us hl => match us, hl with | [_, _], _ => rfl) (fun j sp C => ok__law_alike hK B F__law_alike C) 12
  have C__law_refused : Cal P w0 K mg base S 17 "_law_refused" ps__law_refused _law_refused_s := cal_of F__law_refused m__law_refused (F__law_refused.binds (ps := ps__law_refused) fun _ _ _ _ _ _ us hl => match us, hl with | [_, _], _ => rfl) (ok__law_refused hK B tb__law_refused HF hSB (by rw [hST]; exact (.head _)) (by rw [hST]; exact hTu__law_refused) F__law_refused C__law_alike C__law_pick C_begins C_ends C_fewest_gates C_idle C_longest_wait C_most_at_once C_waits) mono__law_refused meets__law_refused
  exact ok_law hK B C__law_alike C__law_pick C__law_refused C__law_taken C__law_through_time C_begins C_ends C_fewest_gates C_idle C_longest_wait C_most_at_once C_waits N0 H0 A outer s H E hr
theorem all_mk {l : PySem.W.OpenLaw} {q : Program} {w : World} {K : PySem.W.Frag} {h : Heap} {mg : Str → Option Value} {fa : Addr} (X : K.In h) (G : h.Ns mainGlobals mg) (hfa : mg "law" = some (.ref fa))
    (hTab : ∀ (y : Str) (c P : Addr), ((recsOf q).find? (fun e => e.name == y)).isSome = true → PySem.W.tabIn K y = some (c, P) → PySem.W.CodeHd h c P ∧ h.get? P = some { cls := .none, data := .fields #[] })
    {f_is_number : Addr} {od_is_number an_is_number : Option Addr} {oc_is_number kV_is_number dc_is_number pm_is_number cd_is_number ct_is_number : Value} {sl_is_number : Array (Option Value)}
    (a_is_number : PySem.W.nsIn K mainGlobals "is_number" = some (some (.ref f_is_number))) (l_is_number : K.lookup f_is_number = some ⟨oc_is_number, od_is_number, .func (PySem.W.fnOf "is_number" "is_number" (defArgs st_is_number) (defBody st_is_number) (defScope st_is_number) .none kV_is_number dc_is_number pm_is_number an_is_number cd_is_number ct_is_number), sl_is_number⟩) (c_is_number : PySem.W.codeIn K cd_is_number "is_number" = true) (k_is_number : PySem.W.keepIn K (.ref f_is_number) = true)
    {f_check : Addr} {od_check an_check : Option Addr} {oc_check kV_check dc_check pm_check cd_check ct_check : Value} {sl_check : Array (Option Value)}
    (a_check : PySem.W.nsIn K mainGlobals "check" = some (some (.ref f_check))) (l_check : K.lookup f_check = some ⟨oc_check, od_check, .func (PySem.W.fnOf "check" "check" (defArgs st_check) (defBody st_check) (defScope st_check) .none kV_check dc_check pm_check an_check cd_check ct_check), sl_check⟩) (c_check : PySem.W.codeIn K cd_check "check" = true) (k_check : PySem.W.keepIn K (.ref f_check) = true)
    {f_are_numbers : Addr} {od_are_numbers an_are_numbers : Option Addr} {oc_are_numbers kV_are_numbers dc_are_numbers pm_are_numbers ct_are_numbers : Value} {sl_are_numbers : Array (Option Value)} {cc_are_numbers PP_are_numbers : Addr}
    (a_are_numbers : PySem.W.nsIn K mainGlobals "are_numbers" = some (some (.ref f_are_numbers))) (l_are_numbers : K.lookup f_are_numbers = some ⟨oc_are_numbers, od_are_numbers, .func (PySem.W.fnOf "are_numbers" "are_numbers" (defArgs st_are_numbers) (defBody st_are_numbers) (defScope st_are_numbers) .none kV_are_numbers dc_are_numbers pm_are_numbers an_are_numbers (.ref cc_are_numbers) ct_are_numbers), sl_are_numbers⟩) (c_are_numbers : PySem.W.codeIn K (.ref cc_are_numbers) "are_numbers" = true) (k_are_numbers : PySem.W.keepIn K (.ref f_are_numbers) = true) (t_are_numbers : PySem.W.tabIn K "are_numbers" = some (cc_are_numbers, PP_are_numbers)) (n_are_numbers : K.lookup PP_are_numbers = none) (r_are_numbers : ((recsOf q).find? (fun e => e.name == ("are_numbers" : Str))).isSome = true)
    {f_is_van : Addr} {od_is_van an_is_van : Option Addr} {oc_is_van kV_is_van dc_is_van pm_is_van cd_is_van ct_is_van : Value} {sl_is_van : Array (Option Value)}
    (a_is_van : PySem.W.nsIn K mainGlobals "is_van" = some (some (.ref f_is_van))) (l_is_van : K.lookup f_is_van = some ⟨oc_is_van, od_is_van, .func (PySem.W.fnOf "is_van" "is_van" (defArgs st_is_van) (defBody st_is_van) (defScope st_is_van) .none kV_is_van dc_is_van pm_is_van an_is_van cd_is_van ct_is_van), sl_is_van⟩) (c_is_van : PySem.W.codeIn K cd_is_van "is_van" = true) (k_is_van : PySem.W.keepIn K (.ref f_is_van) = true)
    {f_check_vans : Addr} {od_check_vans an_check_vans : Option Addr} {oc_check_vans kV_check_vans dc_check_vans pm_check_vans ct_check_vans : Value} {sl_check_vans : Array (Option Value)} {cc_check_vans PP_check_vans : Addr}
    (a_check_vans : PySem.W.nsIn K mainGlobals "check_vans" = some (some (.ref f_check_vans))) (l_check_vans : K.lookup f_check_vans = some ⟨oc_check_vans, od_check_vans, .func (PySem.W.fnOf "check_vans" "check_vans" (defArgs st_check_vans) (defBody st_check_vans) (defScope st_check_vans) .none kV_check_vans dc_check_vans pm_check_vans an_check_vans (.ref cc_check_vans) ct_check_vans), sl_check_vans⟩) (c_check_vans : PySem.W.codeIn K (.ref cc_check_vans) "check_vans" = true) (k_check_vans : PySem.W.keepIn K (.ref f_check_vans) = true) (t_check_vans : PySem.W.tabIn K "check_vans" = some (cc_check_vans, PP_check_vans)) (n_check_vans : K.lookup PP_check_vans = none) (r_check_vans : ((recsOf q).find? (fun e => e.name == ("check_vans" : Str))).isSome = true)
    {f_begins : Addr} {od_begins an_begins : Option Addr} {oc_begins kV_begins dc_begins pm_begins cd_begins ct_begins : Value} {sl_begins : Array (Option Value)}
    (a_begins : PySem.W.nsIn K mainGlobals "begins" = some (some (.ref f_begins))) (l_begins : K.lookup f_begins = some ⟨oc_begins, od_begins, .func (PySem.W.fnOf "begins" "begins" (defArgs st_begins) (defBody st_begins) (defScope st_begins) .none kV_begins dc_begins pm_begins an_begins cd_begins ct_begins), sl_begins⟩) (c_begins : PySem.W.codeIn K cd_begins "begins" = true) (k_begins : PySem.W.keepIn K (.ref f_begins) = true)
    {f_waits : Addr} {od_waits an_waits : Option Addr} {oc_waits kV_waits dc_waits pm_waits cd_waits ct_waits : Value} {sl_waits : Array (Option Value)}
    (a_waits : PySem.W.nsIn K mainGlobals "waits" = some (some (.ref f_waits))) (l_waits : K.lookup f_waits = some ⟨oc_waits, od_waits, .func (PySem.W.fnOf "waits" "waits" (defArgs st_waits) (defBody st_waits) (defScope st_waits) .none kV_waits dc_waits pm_waits an_waits cd_waits ct_waits), sl_waits⟩) (c_waits : PySem.W.codeIn K cd_waits "waits" = true) (k_waits : PySem.W.keepIn K (.ref f_waits) = true)
    {f_longest_wait : Addr} {od_longest_wait an_longest_wait : Option Addr} {oc_longest_wait kV_longest_wait dc_longest_wait pm_longest_wait cd_longest_wait ct_longest_wait : Value} {sl_longest_wait : Array (Option Value)}
    (a_longest_wait : PySem.W.nsIn K mainGlobals "longest_wait" = some (some (.ref f_longest_wait))) (l_longest_wait : K.lookup f_longest_wait = some ⟨oc_longest_wait, od_longest_wait, .func (PySem.W.fnOf "longest_wait" "longest_wait" (defArgs st_longest_wait) (defBody st_longest_wait) (defScope st_longest_wait) .none kV_longest_wait dc_longest_wait pm_longest_wait an_longest_wait cd_longest_wait ct_longest_wait), sl_longest_wait⟩) (c_longest_wait : PySem.W.codeIn K cd_longest_wait "longest_wait" = true) (k_longest_wait : PySem.W.keepIn K (.ref f_longest_wait) = true)
    {f_ends : Addr} {od_ends an_ends : Option Addr} {oc_ends kV_ends dc_ends pm_ends cd_ends ct_ends : Value} {sl_ends : Array (Option Value)}
    (a_ends : PySem.W.nsIn K mainGlobals "ends" = some (some (.ref f_ends))) (l_ends : K.lookup f_ends = some ⟨oc_ends, od_ends, .func (PySem.W.fnOf "ends" "ends" (defArgs st_ends) (defBody st_ends) (defScope st_ends) .none kV_ends dc_ends pm_ends an_ends cd_ends ct_ends), sl_ends⟩) (c_ends : PySem.W.codeIn K cd_ends "ends" = true) (k_ends : PySem.W.keepIn K (.ref f_ends) = true)
    {f_fewest_gates : Addr} {od_fewest_gates an_fewest_gates : Option Addr} {oc_fewest_gates kV_fewest_gates dc_fewest_gates pm_fewest_gates cd_fewest_gates ct_fewest_gates : Value} {sl_fewest_gates : Array (Option Value)}
    (a_fewest_gates : PySem.W.nsIn K mainGlobals "fewest_gates" = some (some (.ref f_fewest_gates))) (l_fewest_gates : K.lookup f_fewest_gates = some ⟨oc_fewest_gates, od_fewest_gates, .func (PySem.W.fnOf "fewest_gates" "fewest_gates" (defArgs st_fewest_gates) (defBody st_fewest_gates) (defScope st_fewest_gates) .none kV_fewest_gates dc_fewest_gates pm_fewest_gates an_fewest_gates cd_fewest_gates ct_fewest_gates), sl_fewest_gates⟩) (c_fewest_gates : PySem.W.codeIn K cd_fewest_gates "fewest_gates" = true) (k_fewest_gates : PySem.W.keepIn K (.ref f_fewest_gates) = true)
    {f_most_at_once : Addr} {od_most_at_once an_most_at_once : Option Addr} {oc_most_at_once kV_most_at_once dc_most_at_once pm_most_at_once cd_most_at_once ct_most_at_once : Value} {sl_most_at_once : Array (Option Value)}
    (a_most_at_once : PySem.W.nsIn K mainGlobals "most_at_once" = some (some (.ref f_most_at_once))) (l_most_at_once : K.lookup f_most_at_once = some ⟨oc_most_at_once, od_most_at_once, .func (PySem.W.fnOf "most_at_once" "most_at_once" (defArgs st_most_at_once) (defBody st_most_at_once) (defScope st_most_at_once) .none kV_most_at_once dc_most_at_once pm_most_at_once an_most_at_once cd_most_at_once ct_most_at_once), sl_most_at_once⟩) (c_most_at_once : PySem.W.codeIn K cd_most_at_once "most_at_once" = true) (k_most_at_once : PySem.W.keepIn K (.ref f_most_at_once) = true)
    {f_idle : Addr} {od_idle an_idle : Option Addr} {oc_idle kV_idle dc_idle pm_idle cd_idle ct_idle : Value} {sl_idle : Array (Option Value)}
    (a_idle : PySem.W.nsIn K mainGlobals "idle" = some (some (.ref f_idle))) (l_idle : K.lookup f_idle = some ⟨oc_idle, od_idle, .func (PySem.W.fnOf "idle" "idle" (defArgs st_idle) (defBody st_idle) (defScope st_idle) .none kV_idle dc_idle pm_idle an_idle cd_idle ct_idle), sl_idle⟩) (c_idle : PySem.W.codeIn K cd_idle "idle" = true) (k_idle : PySem.W.keepIn K (.ref f_idle) = true)
    {f__law_taken : Addr} {od__law_taken an__law_taken : Option Addr} {oc__law_taken kV__law_taken dc__law_taken pm__law_taken cd__law_taken ct__law_taken : Value} {sl__law_taken : Array (Option Value)}
    (a__law_taken : PySem.W.nsIn K mainGlobals "_law_taken" = some (some (.ref f__law_taken))) (l__law_taken : K.lookup f__law_taken = some ⟨oc__law_taken, od__law_taken, .func (PySem.W.fnOf "_law_taken" "_law_taken" (defArgs st__law_taken) (defBody st__law_taken) (defScope st__law_taken) .none kV__law_taken dc__law_taken pm__law_taken an__law_taken cd__law_taken ct__law_taken), sl__law_taken⟩) (c__law_taken : PySem.W.codeIn K cd__law_taken "_law_taken" = true) (k__law_taken : PySem.W.keepIn K (.ref f__law_taken) = true)
    {f__law_pick : Addr} {od__law_pick an__law_pick : Option Addr} {oc__law_pick kV__law_pick dc__law_pick pm__law_pick cd__law_pick ct__law_pick : Value} {sl__law_pick : Array (Option Value)}
    (a__law_pick : PySem.W.nsIn K mainGlobals "_law_pick" = some (some (.ref f__law_pick))) (l__law_pick : K.lookup f__law_pick = some ⟨oc__law_pick, od__law_pick, .func (PySem.W.fnOf "_law_pick" "_law_pick" (defArgs st__law_pick) (defBody st__law_pick) (defScope st__law_pick) .none kV__law_pick dc__law_pick pm__law_pick an__law_pick cd__law_pick ct__law_pick), sl__law_pick⟩) (c__law_pick : PySem.W.codeIn K cd__law_pick "_law_pick" = true) (k__law_pick : PySem.W.keepIn K (.ref f__law_pick) = true)
    {f__law_through_time : Addr} {od__law_through_time an__law_through_time : Option Addr} {oc__law_through_time kV__law_through_time dc__law_through_time pm__law_through_time cd__law_through_time ct__law_through_time : Value} {sl__law_through_time : Array (Option Value)}
    (a__law_through_time : PySem.W.nsIn K mainGlobals "_law_through_time" = some (some (.ref f__law_through_time))) (l__law_through_time : K.lookup f__law_through_time = some ⟨oc__law_through_time, od__law_through_time, .func (PySem.W.fnOf "_law_through_time" "_law_through_time" (defArgs st__law_through_time) (defBody st__law_through_time) (defScope st__law_through_time) .none kV__law_through_time dc__law_through_time pm__law_through_time an__law_through_time cd__law_through_time ct__law_through_time), sl__law_through_time⟩) (c__law_through_time : PySem.W.codeIn K cd__law_through_time "_law_through_time" = true) (k__law_through_time : PySem.W.keepIn K (.ref f__law_through_time) = true)
    {f__law_alike : Addr} {od__law_alike an__law_alike : Option Addr} {oc__law_alike kV__law_alike dc__law_alike pm__law_alike cd__law_alike ct__law_alike : Value} {sl__law_alike : Array (Option Value)}
    (a__law_alike : PySem.W.nsIn K mainGlobals "_law_alike" = some (some (.ref f__law_alike))) (l__law_alike : K.lookup f__law_alike = some ⟨oc__law_alike, od__law_alike, .func (PySem.W.fnOf "_law_alike" "_law_alike" (defArgs st__law_alike) (defBody st__law_alike) (defScope st__law_alike) .none kV__law_alike dc__law_alike pm__law_alike an__law_alike cd__law_alike ct__law_alike), sl__law_alike⟩) (c__law_alike : PySem.W.codeIn K cd__law_alike "_law_alike" = true) (k__law_alike : PySem.W.keepIn K (.ref f__law_alike) = true)
    {f__law_heard : Addr} {od__law_heard an__law_heard : Option Addr} {oc__law_heard kV__law_heard dc__law_heard pm__law_heard cd__law_heard ct__law_heard : Value} {sl__law_heard : Array (Option Value)}
    (a__law_heard : PySem.W.nsIn K mainGlobals "_law_heard" = some (some (.ref f__law_heard))) (l__law_heard : K.lookup f__law_heard = some ⟨oc__law_heard, od__law_heard, .func (PySem.W.fnOf "_law_heard" "_law_heard" (defArgs st__law_heard) (defBody st__law_heard) (defScope st__law_heard) .none kV__law_heard dc__law_heard pm__law_heard an__law_heard cd__law_heard ct__law_heard), sl__law_heard⟩) (c__law_heard : PySem.W.codeIn K cd__law_heard "_law_heard" = true) (k__law_heard : PySem.W.keepIn K (.ref f__law_heard) = true)
    {f__law_refused : Addr} {od__law_refused an__law_refused : Option Addr} {oc__law_refused kV__law_refused dc__law_refused pm__law_refused ct__law_refused : Value} {sl__law_refused : Array (Option Value)} {cc__law_refused PP__law_refused : Addr}
    (a__law_refused : PySem.W.nsIn K mainGlobals "_law_refused" = some (some (.ref f__law_refused))) (l__law_refused : K.lookup f__law_refused = some ⟨oc__law_refused, od__law_refused, .func (PySem.W.fnOf "_law_refused" "_law_refused" (defArgs st__law_refused) (defBody st__law_refused) (defScope st__law_refused) .none kV__law_refused dc__law_refused pm__law_refused an__law_refused (.ref cc__law_refused) ct__law_refused), sl__law_refused⟩) (c__law_refused : PySem.W.codeIn K (.ref cc__law_refused) "_law_refused" = true) (k__law_refused : PySem.W.keepIn K (.ref f__law_refused) = true) (t__law_refused : PySem.W.tabIn K "_law_refused" = some (cc__law_refused, PP__law_refused)) (n__law_refused : K.lookup PP__law_refused = none) (r__law_refused : ((recsOf q).find? (fun e => e.name == ("_law_refused" : Str))).isSome = true)
    {f_law : Addr} {od_law an_law : Option Addr} {oc_law kV_law dc_law pm_law cd_law ct_law : Value} {sl_law : Array (Option Value)}
    (a_law : PySem.W.nsIn K mainGlobals "law" = some (some (.ref f_law))) (l_law : K.lookup f_law = some ⟨oc_law, od_law, .func (PySem.W.fnOf "law" "law" (defArgs st_law) (defBody st_law) (defScope st_law) .none kV_law dc_law pm_law an_law cd_law ct_law), sl_law⟩) (c_law : PySem.W.codeIn K cd_law "law" = true) (k_law : PySem.W.keepIn K (.ref f_law) = true)
    (z_all : PySem.W.nsIn K mainGlobals "all" = some none)
    (z_bool : PySem.W.nsIn K mainGlobals "bool" = some none)
    (z_dict : PySem.W.nsIn K mainGlobals "dict" = some none)
    (z_enumerate : PySem.W.nsIn K mainGlobals "enumerate" = some none)
    (z_int : PySem.W.nsIn K mainGlobals "int" = some none)
    (z_isinstance : PySem.W.nsIn K mainGlobals "isinstance" = some none)
    (z_len : PySem.W.nsIn K mainGlobals "len" = some none)
    (z_list : PySem.W.nsIn K mainGlobals "list" = some none)
    (z_max : PySem.W.nsIn K mainGlobals "max" = some none)
    (z_min : PySem.W.nsIn K mainGlobals "min" = some none)
    (z_range : PySem.W.nsIn K mainGlobals "range" = some none)
    (z_str : PySem.W.nsIn K mainGlobals "str" = some none)
    (z_tuple : PySem.W.nsIn K mainGlobals "tuple" = some none)
    (z_zip : PySem.W.nsIn K mainGlobals "zip" = some none)
    {tk_MOST_GATES : Tok} (z_MOST_GATES : PySem.W.nsIn K mainGlobals "MOST_GATES" = some (some (.int 8 tk_MOST_GATES)))
    {tk_MOST_LONG : Tok} (z_MOST_LONG : PySem.W.nsIn K mainGlobals "MOST_LONG" = some (some (.int 50 tk_MOST_LONG)))
    {tk_MOST_TIME : Tok} (z_MOST_TIME : PySem.W.nsIn K mainGlobals "MOST_TIME" = some (some (.int 200 tk_MOST_TIME)))
    {tk_MOST_VANS : Tok} (z_MOST_VANS : PySem.W.nsIn K mainGlobals "MOST_VANS" = some (some (.int 24 tk_MOST_VANS)))
    {nm qn : Str} {NC : Addr} {bs : List Value} {sn : List Str} {sub : List Value} {ab : Bool} {col : Option Bool} {dd : Option Addr} {m0 m1 m2 m3 m5 : Option Value} {bm : List Value} {Cb Vb fI ccb cda : Addr}
    (aC : PySem.W.nsIn K mainGlobals "BadArgument" = some (some (.ref Cb))) (aV : PySem.W.nsIn K mainGlobals "VanError" = some (some (.ref Vb))) (zS : PySem.W.nsIn K mainGlobals "super" = some none) (zE : PySem.W.nsIn K mainGlobals "ValueError" = some none)
    (xC : K.lookup Cb = some (excC nm qn Cb NC bs bm sn sub ab col dd m0 m1 m2 m3 m5)) (xR : PySem.HandSPX.refsVE bm = true) (xS : PySem.W.ks_superIn K Cb Cb "__init__" = some (some (.builtin "ValueError.__init__")))
    (x1 : PySem.W.findIn K (.ref Cb) "__setattr__" = some (some (.builtin "object.__setattr__"))) (x2 : PySem.W.findIn K (.ref Cb) "name" = some none) (x3 : PySem.W.findIn K (.ref Cb) "__init__" = some (some (.ref fI))) (x4 : PySem.W.typeIn K (.ref fI) = some (.type "function"))
    (x5 : PySem.W.keepIn K (.ref Cb) = true) (x6 : PySem.W.subIn K (.ref Cb) (.type "BaseException") = some true) (x7 : PySem.W.subIn K (.ref Cb) (.type "ValueError") = some true) (x8 : PySem.W.typeIn K (.ref Cb) = some (.type "type"))
    (x9 : PySem.W.nsIn K cStatics "thirdparty.any" = some none) (y0 : (l.prog.main.scope.names.lookup ("super" : Str)).isSome = false)
    {ocI dcI pmI ctI : Value} {odI anI : Option Addr} {slI : Array (Option Value)}
    {msg : Str} {jI : Nat} {p1 p2 q1 q2 q3 q4 q5 q6 q7 q8 q9 q10 q11 q12 q13 : Pos} {ccl : Value} {cdd : Option Addr} {vs : Array Value} {ccs : Array (Option Value)} {file : Str} {tf : Tok}
    (lI : K.lookup fI = some ⟨ocI, odI, .func (PySem.W.ksFn "__init__" "BadArgument.__init__" (badA p1 p2) (badB msg jI q1 q2 q3 q4 q5 q6 q7 q8 q9 q10 q11 q12 q13) badS .none .none dcI pmI anI (.ref cda) ctI ccb), slI⟩) (cI : PySem.W.codeIn K (.ref cda) "BadArgument.__init__" = true)
    (lD : K.lookup cda = some ⟨ccl, cdd, .fields vs, ccs⟩) (lF : vs[2]? = some (.str file tf)) (lP : ((l.prog.main.file : Str) == file) = true) (lM : msg.length ≤ 100) (lL : (q3.endLine == q8.line) = true)
    {cl1 : Value} {cl2 : Option Addr} {cl3 : Array (Option Value)} (lC : K.lookup ccb = some ⟨cl1, cl2, .cell (some (.ref Cb)), cl3⟩)
    (u1 : PySem.W.findIn K (.ref Cb) "__getattribute__" = some (some (.builtin "BaseException.__getattribute__"))) (u2 : PySem.W.findIn K (.ref Cb) "__getattr__" = some none) (u3 : PySem.W.hasDictIn K Cb = true) (u4 : PySem.W.findIn K (.ref Cb) "__class__" = some (some (.builtin "object.__class__")))
    (u5 : PySem.W.specialIn K (.builtin "object.__class__") "__get__" = some (some (.builtin "getset_descriptor.__get__"))) (u6 : PySem.W.takesIn K (.builtin "object.__class__") = some true) (u7 : PySem.W.mroIn K Cb (.type "object") = some true)
    (u8 : PySem.W.exmOne K (.ref Cb) (.ref Cb) = some true) (u9 : PySem.W.kitOne K (.ref Cb) (.ref Vb) = some true) (u10 : PySem.W.kitOne K (.ref Cb) (.type "ValueError") = some true)
    (hTu__law_refused : ∀ r ∈ ([(PP__law_refused, QT__law_refused)] : List (Addr × Str)), r.1 = PP__law_refused → r.2 = QT__law_refused)
    (hTG : ∀ q ∈ ([PP_are_numbers, PP_check_vans] : List Addr), ∀ t ∈ ([(PP__law_refused, QT__law_refused)] : List (Addr × Str)), t.1 ≠ q)
    (plain : law_w { nx := fun _ => False, rt := fun d => d = .bool true, ex := noX } (none :: some .row :: List.replicate 19 none)) :
    LamX.LawAtS l w K (L2.CX l.prog w) 18 63 "script" mg fa h := by
  have e := hfa.symm.trans (PySem.W.mg_of X G a_law)
  cases e
  have F_is_number := funC_mk (st := st_is_number) l_is_number c_is_number k_is_number
  have m_is_number := PySem.W.mg_of X G a_is_number
  have F_check := funC_mk (st := st_check) l_check c_check k_check
  have m_check := PySem.W.mg_of X G a_check
  have F_are_numbers := funC_mk (st := st_are_numbers) l_are_numbers c_are_numbers k_are_numbers
  have m_are_numbers := PySem.W.mg_of X G a_are_numbers
  have F_is_van := funC_mk (st := st_is_van) l_is_van c_is_van k_is_van
  have m_is_van := PySem.W.mg_of X G a_is_van
  have F_check_vans := funC_mk (st := st_check_vans) l_check_vans c_check_vans k_check_vans
  have m_check_vans := PySem.W.mg_of X G a_check_vans
  have F_begins := funC_mk (st := st_begins) l_begins c_begins k_begins
  have m_begins := PySem.W.mg_of X G a_begins
  have F_waits := funC_mk (st := st_waits) l_waits c_waits k_waits
  have m_waits := PySem.W.mg_of X G a_waits
  have F_longest_wait := funC_mk (st := st_longest_wait) l_longest_wait c_longest_wait k_longest_wait
  have m_longest_wait := PySem.W.mg_of X G a_longest_wait
  have F_ends := funC_mk (st := st_ends) l_ends c_ends k_ends
  have m_ends := PySem.W.mg_of X G a_ends
  have F_fewest_gates := funC_mk (st := st_fewest_gates) l_fewest_gates c_fewest_gates k_fewest_gates
  have m_fewest_gates := PySem.W.mg_of X G a_fewest_gates
  have F_most_at_once := funC_mk (st := st_most_at_once) l_most_at_once c_most_at_once k_most_at_once
  have m_most_at_once := PySem.W.mg_of X G a_most_at_once
  have F_idle := funC_mk (st := st_idle) l_idle c_idle k_idle
  have m_idle := PySem.W.mg_of X G a_idle
  have F__law_taken := funC_mk (st := st__law_taken) l__law_taken c__law_taken k__law_taken
  have m__law_taken := PySem.W.mg_of X G a__law_taken
  have F__law_pick := funC_mk (st := st__law_pick) l__law_pick c__law_pick k__law_pick
  have m__law_pick := PySem.W.mg_of X G a__law_pick
  have F__law_through_time := funC_mk (st := st__law_through_time) l__law_through_time c__law_through_time k__law_through_time
  have m__law_through_time := PySem.W.mg_of X G a__law_through_time
  have F__law_alike := funC_mk (st := st__law_alike) l__law_alike c__law_alike k__law_alike
  have m__law_alike := PySem.W.mg_of X G a__law_alike
  have F__law_heard := funC_mk (st := st__law_heard) l__law_heard c__law_heard k__law_heard
  have m__law_heard := PySem.W.mg_of X G a__law_heard
  have F__law_refused := funC_mk (st := st__law_refused) l__law_refused c__law_refused k__law_refused
  have m__law_refused := PySem.W.mg_of X G a__law_refused
  have F_law := funC_mk (st := st_law) l_law c_law k_law
  have B : Names mg := ⟨PySem.W.mg_none_of X G z_all, PySem.W.mg_none_of X G z_bool, PySem.W.mg_none_of X G z_dict, PySem.W.mg_none_of X G z_enumerate, PySem.W.mg_none_of X G z_int, PySem.W.mg_none_of X G z_isinstance, PySem.W.mg_none_of X G z_len, PySem.W.mg_none_of X G z_list, PySem.W.mg_none_of X G z_max, PySem.W.mg_none_of X G z_min, PySem.W.mg_none_of X G z_range, PySem.W.mg_none_of X G z_str, PySem.W.mg_none_of X G z_tuple, PySem.W.mg_none_of X G z_zip, ⟨_, PySem.W.mg_of X G z_MOST_GATES⟩, ⟨_, PySem.W.mg_of X G z_MOST_LONG⟩, ⟨_, PySem.W.mg_of X G z_MOST_TIME⟩, ⟨_, PySem.W.mg_of X G z_MOST_VANS⟩⟩
  have BAD : BadTxt l.prog K mg Cb fI ccb :=
    { gC := PySem.W.mg_of X G aC, gS := PySem.W.mg_none_of X G zS, cls := ⟨nm, qn, NC, bs, bm, sn, sub, ab, col, dd, m0, m1, m2, m3, m5, xC, xR⟩, sup := xS, sa := x1, noN := x2, iC := x3, tC := x4, kC := x5, exC := x6, veC := x7, tyC := x8, own := x9, top := y0,
      fn := ⟨_, _, _, _, _, _, _, _, _, _, _, _, _, _, _, _, _, _, _, _, _, _, _, _, _, _, _, _, _, _, _, lI, cI, lD, lF, lP, lM, lL⟩, cell := ⟨_, _, _, lC⟩ }
  have HT : HeardTxt K mg Cb Vb := ⟨PySem.W.mg_of X G aC, PySem.W.mg_of X G aV, B.n_isinstance, PySem.W.mg_none_of X G zE, ⟨u1, u2, x6, u3, u4, u5, u6, u7⟩, x2, u8, u9, u10⟩
  have HF : ∀ X' : Cx, X'.K = K → X'.mg = mg → HeardC X' f__law_heard Cb Vb := fun X' e1 e2 => by
    refine ⟨by rw [e1, e2]; exact HT, by rw [e2]; exact m__law_heard, by rw [e1]; exact k__law_heard, ?_⟩
    rw [e1]
    exact ⟨_, _, _, _, _, _, _, _, _, _, _, _, _, _, _, _, _, _, _, _, _, _, _, _, _, _, _, _, _, _, _, _, _, _, _, _, _, _, l__law_heard, c__law_heard, F__law_heard.binds (ps := ["ask"]) fun _ _ _ _ _ _ us hl => match us, hl with | [_], _ => rfl, C8.fnScope_by (by decide +kernel), .inl rfl, rfl, rfl, rfl, rfl, rfl⟩
  obtain ⟨h1_are_numbers, h2_are_numbers⟩ := hTab _ _ _ r_are_numbers t_are_numbers
  obtain ⟨h1_check_vans, h2_check_vans⟩ := hTab _ _ _ r_check_vans t_check_vans
  obtain ⟨h1__law_refused, h2__law_refused⟩ := hTab _ _ _ r__law_refused t__law_refused
  refine ⟨PySem.W.fnOf "law" "law" (defArgs st_law) (defBody st_law) (defScope st_law) .none kV_law dc_law pm_law an_law cd_law ct_law, [(cc_are_numbers, PP_are_numbers), (cc_check_vans, PP_check_vans), (cc__law_refused, PP__law_refused)], spLaw K [(cc_are_numbers, PP_are_numbers), (cc_check_vans, PP_check_vans), (cc__law_refused, PP__law_refused)], (fun p hp => by
    simp only [List.mem_cons, List.not_mem_nil, or_false] at hp
    rcases hp with rfl | rfl | rfl
    · exact h2_are_numbers
    · exact h2_check_vans
    · exact h2__law_refused), (fun p hp => by
    simp only [List.mem_cons, List.not_mem_nil, or_false] at hp
    rcases hp with rfl | rfl | rfl
    · exact n_are_numbers
    · exact n_check_vans
    · exact n__law_refused), (fun p hp => by
    simp only [List.mem_cons, List.not_mem_nil, or_false] at hp
    rcases hp with rfl | rfl | rfl
    · exact h1_are_numbers
    · exact h1_check_vans
    · exact h1__law_refused), fun s u => .of_eq rfl, fun H a ns hl hb hT hS => ⟨a, ns, rfl, hT, hS, fun _ => rfl⟩, fun base hKb hNb hTB => ?_⟩
  have tb_are_numbers := hTB (cc_are_numbers, PP_are_numbers) (.head _)
  have tb_check_vans := hTB (cc_check_vans, PP_check_vans) (.tail _ (.head _))
  have tb__law_refused := hTB (cc__law_refused, PP__law_refused) (.tail _ (.tail _ (.head _)))
  refine law_fn (cB := Cb) (cU := 0) (T := [(PP__law_refused, QT__law_refused)]) (G := [PP_are_numbers, PP_check_vans]) (N := law_N) (m := 19) (h0 := (defBody st_law).headD (.Pass ⟨0, 0, 0, 0⟩)) (rest := (defBody st_law).drop 1) F_law sc_law rfl rfl ?_ ?_ hTG (fun A outer s H E => ps_set sc_law.nd rfl (.inl rfl) (pe_lst (pa_cons (pv 0) (pa_cons pe_int (pa_cons pe_int (pa_cons pe_int pa_nil)))))) (fun S e1 e2 e3 e4 e5 => all_ok B BAD HT F_is_number m_is_number F_check m_check F_are_numbers m_are_numbers F_is_van m_is_van F_check_vans m_check_vans F_begins m_begins F_waits m_waits F_longest_wait m_longest_wait F_ends m_ends F_fewest_gates m_fewest_gates F_most_at_once m_most_at_once F_idle m_idle F__law_taken m__law_taken F__law_pick m__law_pick F__law_through_time m__law_through_time F__law_alike m__law_alike F__law_heard m__law_heard F__law_refused m__law_refused F_law HF tb_are_numbers tb_check_vans tb__law_refused hTu__law_refused e1 e2 e3 e4) plain
  · intro q hq; simp at hq ⊢; grind
  · intro q hq; simp at hq ⊢; grind
end DD
open PySem PySem.W PyProof.Rows
set_option maxRecDepth 100000 in
set_option maxHeartbeats 0 in
theorem PySem.Challenge.cw_loadedvan_k27_whole_gates_holds : PySem.Challenge.rw_loadedvan_k27_whole_gates.Holds := by
  w_on; o_law; k_head; (case hw => w_witness2)
  k_fill
  refine DD.walk_end (l := PySem.Challenge.rw_loadedvan_k27_whole_gates) (n := 63) (k := 18) (x := "script") (CX := fun w => L2.CX PySem.Challenge.rw_loadedvan_k27_whole_gates.prog w) rfl (by decide) rfl ⟨rfl, by decide, by decide⟩ (fun w h Y => km_in_of Y) ?F ?Z
  case F =>
    intro w mg fa h hTab KX G hmg
    refine' DD.all_mk KX G hmg hTab ?a_is_number ?l_is_number ?c_is_number ?k_is_number ?a_check ?l_check ?c_check ?k_check ?a_are_numbers ?l_are_numbers ?c_are_numbers ?k_are_numbers ?t_are_numbers ?n_are_numbers ?r_are_numbers ?a_is_van ?l_is_van ?c_is_van ?k_is_van ?a_check_vans ?l_check_vans ?c_check_vans ?k_check_vans ?t_check_vans ?n_check_vans ?r_check_vans ?a_begins ?l_begins ?c_begins ?k_begins ?a_waits ?l_waits ?c_waits ?k_waits ?a_longest_wait ?l_longest_wait ?c_longest_wait ?k_longest_wait ?a_ends ?l_ends ?c_ends ?k_ends ?a_fewest_gates ?l_fewest_gates ?c_fewest_gates ?k_fewest_gates ?a_most_at_once ?l_most_at_once ?c_most_at_once ?k_most_at_once ?a_idle ?l_idle ?c_idle ?k_idle ?a__law_taken ?l__law_taken ?c__law_taken ?k__law_taken ?a__law_pick ?l__law_pick ?c__law_pick ?k__law_pick ?a__law_through_time ?l__law_through_time ?c__law_through_time ?k__law_through_time ?a__law_alike ?l__law_alike ?c__law_alike ?k__law_alike ?a__law_heard ?l__law_heard ?c__law_heard ?k__law_heard ?a__law_refused ?l__law_refused ?c__law_refused ?k__law_refused ?t__law_refused ?n__law_refused ?r__law_refused ?a_law ?l_law ?c_law ?k_law ?z_all ?z_bool ?z_dict ?z_enumerate ?z_int ?z_isinstance ?z_len ?z_list ?z_max ?z_min ?z_range ?z_str ?z_tuple ?z_zip ?z_MOST_GATES ?z_MOST_LONG ?z_MOST_TIME ?z_MOST_VANS ?aC ?aV ?zS ?zE ?xC ?xR ?xS ?x1 ?x2 ?x3 ?x4 ?x5 ?x6 ?x7 ?x8 ?x9 ?y0 ?lI ?cI ?lD ?lF ?lP ?lM ?lL ?lC ?u1 ?u2 ?u3 ?u4 ?u5 ?u6 ?u7 ?u8 ?u9 ?u10 ?hTu__law_refused ?hTG DD.plain_law
    (case a_is_number => k_is)
    (case l_is_number => k_is)
    (case c_is_number => k_is)
    (case k_is_number => k_is)
    (case a_check => k_is)
    (case l_check => k_is)
    (case c_check => k_is)
    (case k_check => k_is)
    (case a_are_numbers => k_is)
    (case l_are_numbers => k_is)
    (case c_are_numbers => k_is)
    (case k_are_numbers => k_is)
    (case t_are_numbers => first | k_is | rfl)
    (case n_are_numbers => first | k_is | rfl)
    (case r_are_numbers => decide +kernel)
    (case a_is_van => k_is)
    (case l_is_van => k_is)
    (case c_is_van => k_is)
    (case k_is_van => k_is)
    (case a_check_vans => k_is)
    (case l_check_vans => k_is)
    (case c_check_vans => k_is)
    (case k_check_vans => k_is)
    (case t_check_vans => first | k_is | rfl)
    (case n_check_vans => first | k_is | rfl)
    (case r_check_vans => decide +kernel)
    (case a_begins => k_is)
    (case l_begins => k_is)
    (case c_begins => k_is)
    (case k_begins => k_is)
    (case a_waits => k_is)
    (case l_waits => k_is)
    (case c_waits => k_is)
    (case k_waits => k_is)
    (case a_longest_wait => k_is)
    (case l_longest_wait => k_is)
    (case c_longest_wait => k_is)
    (case k_longest_wait => k_is)
    (case a_ends => k_is)
    (case l_ends => k_is)
    (case c_ends => k_is)
    (case k_ends => k_is)
    (case a_fewest_gates => k_is)
    (case l_fewest_gates => k_is)
    (case c_fewest_gates => k_is)
    (case k_fewest_gates => k_is)
    (case a_most_at_once => k_is)
    (case l_most_at_once => k_is)
    (case c_most_at_once => k_is)
    (case k_most_at_once => k_is)
    (case a_idle => k_is)
    (case l_idle => k_is)
    (case c_idle => k_is)
    (case k_idle => k_is)
    (case a__law_taken => k_is)
    (case l__law_taken => k_is)
    (case c__law_taken => k_is)
    (case k__law_taken => k_is)
    (case a__law_pick => k_is)
    (case l__law_pick => k_is)
    (case c__law_pick => k_is)
    (case k__law_pick => k_is)
    (case a__law_through_time => k_is)
    (case l__law_through_time => k_is)
    (case c__law_through_time => k_is)
    (case k__law_through_time => k_is)
    (case a__law_alike => k_is)
    (case l__law_alike => k_is)
    (case c__law_alike => k_is)
    (case k__law_alike => k_is)
    (case a__law_heard => k_is)
    (case l__law_heard => k_is)
    (case c__law_heard => k_is)
    (case k__law_heard => k_is)
    (case a__law_refused => k_is)
    (case l__law_refused => k_is)
    (case c__law_refused => k_is)
    (case k__law_refused => k_is)
    (case t__law_refused => first | k_is | rfl)
    (case n__law_refused => first | k_is | rfl)
    (case r__law_refused => decide +kernel)
    (case a_law => k_is)
    (case l_law => k_is)
    (case c_law => k_is)
    (case k_law => k_is)
    (case z_all => k_is)
    (case z_bool => k_is)
    (case z_dict => k_is)
    (case z_enumerate => k_is)
    (case z_int => k_is)
    (case z_isinstance => k_is)
    (case z_len => k_is)
    (case z_list => k_is)
    (case z_max => k_is)
    (case z_min => k_is)
    (case z_range => k_is)
    (case z_str => k_is)
    (case z_tuple => k_is)
    (case z_zip => k_is)
    (case z_MOST_GATES => k_is)
    (case z_MOST_LONG => k_is)
    (case z_MOST_TIME => k_is)
    (case z_MOST_VANS => k_is)
    (case aC => k_is)
    (case aV => k_is)
    (case zS => k_is)
    (case zE => k_is)
    (case xC => k_is)
    (case xR => decide +kernel)
    (case xS => first | k_is | kernel_rfl | rfl)
    (case x1 => k_is)
    (case x2 => k_is)
    (case x3 => k_is)
    (case x4 => k_is)
    (case x5 => k_is)
    (case x6 => k_is)
    (case x7 => k_is)
    (case x8 => k_is)
    (case x9 => k_is)
    (case y0 => decide +kernel)
    (case lI => k_is)
    (case cI => k_is)
    (case lD => k_is)
    (case lF => first | rfl | k_is)
    (case lP => decide +kernel)
    (case lM => decide +kernel)
    (case lL => decide +kernel)
    (case lC => k_is)
    (case u1 => first | k_is | rfl)
    (case u2 => first | k_is | rfl)
    (case u3 => first | k_is | rfl)
    (case u4 => first | k_is | rfl)
    (case u5 => first | k_is | rfl)
    (case u6 => first | k_is | rfl)
    (case u7 => first | k_is | rfl)
    (case u8 => first | k_is | rfl)
    (case u9 => first | k_is | rfl)
    (case u10 => first | k_is | rfl)
    (case hTu__law_refused => decide +kernel)
    (case hTG => decide +kernel)
  case Z => 
    intro w H s e s' h
    exact DD.no_cx h
