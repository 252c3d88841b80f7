import PyProof.Rows.All
import Wide.All
import OpenK.AllK
import Wide.FinOn
import HandS.ForMost
import HandS.AnyAll
import HandS.GenList
import HandS.ForExc
import HandS.Zip
import HandS.TupAny
import HandS.TupMul
import HandS.Deep
import HandS.Style
import HandS.IsInst
import KE.SortData
import HandS.TryOnly
import HandS.TupSets
import KE.KeyNested
import HandS.EndTab
import HandS.EndOwn
import PySem.Challenge.RW_stepwebs_k01_whole_webs
-- text GX
set_option Elab.async false
set_option linter.all false
set_option maxRecDepth 100000
set_option maxHeartbeats 2000000
namespace DL
open PySem PySem.Spec PyProof.Rows L2 GxR GenW

/-- the frame of a generator expression, resumed inside A2 -/
abbrev gx (X : Cx) (A2 : Around) (s : Shared) (H : Hp) (ce : Env) (fp : List Addr) (pn : List (Addr × Obj)) : Cx :=
  { X with A := A2.deeper ce, s_0 := s, H_0 := H, env := ce, outer := X.stack, stack := ce :: X.stack, ex := fp, fn := fun _ => false, pn := pn, xe := fun _ _ => False }

/-- what is asked of the scope of a generator expression (beside BlkOk) -/
structure GSc (N : List Str) (scope : Scope) : Prop where
  co : scope.isCoroutine = false
  cell : ∀ y ∈ scope.names, y.2 ≠ .cell
  dot : scope.names.lookup (".0" : Str) = some NameKind.local
  dotN : (".0" : Str) ∉ N
def gscC (N : List Str) (scope : Scope) : Bool :=
  (!scope.isCoroutine) && scope.names.all (fun y => decide (y.2 ≠ .cell)) && decide (scope.names.lookup (".0" : Str) = some NameKind.local) && decide ((".0" : Str) ∉ N)
theorem gsc_by {N : List Str} {scope : Scope} (h : gscC N scope = true) : GSc N scope := by
  unfold gscC at h
  simp only [Bool.and_eq_true, Bool.not_eq_true', decide_eq_true_eq, List.all_eq_true] at h
  exact ⟨h.1.1.1, h.1.1.2, h.1.2, h.2⟩

section
variable {X : Cx} {pins : List (Addr × Obj)} {σ : L2.St} {H : Hp} {s : Shared}

theorem gx_cells (I : Inv X pins σ H s) {scope : Scope} {own : List (Str × Nat)} (ok : BlkOk X.N X.env.scope scope own) {y : Str} {c : Addr}
    (e : (cloFrom X.env.cells scope.names []).lookup y = some c) : X.env.cells.lookup y = some c ∧ scope.names.lookup y = some .free := by
  rcases cloFrom_mem (PySem.mem_of_lookup e) with hm | ⟨hm, rfl⟩
  · cases hm
  · have hk : ∃ c, X.env.cells.lookup y = some c := by
      rcases ok.free _ hm rfl with k | k
      · exact I.ok.has _ (.inl k)
      · exact I.ok.has _ (.inr k)
    obtain ⟨c, hc⟩ := hk
    rw [hc]
    exact ⟨rfl, ok.uniq _ hm⟩
theorem gx_free (I : Inv X pins σ H s) {scope : Scope} {own : List (Str × Nat)} (ok : BlkOk X.N X.env.scope scope own) {y : Str}
    (e : scope.names.lookup y = some .free) : ∃ c, (cloFrom X.env.cells scope.names []).lookup y = some c := by
  obtain ⟨c, hc⟩ := L2.mem_lookup (cloFrom_has (cells := X.env.cells) (acc := []) (PySem.mem_of_lookup e))
  exact ⟨c, hc⟩

/-- the frame begins: the state s is that ahead of the frame's making -/
theorem gx_start {A2 : Around} {scope : Scope} {own : List (Str × Nat)} {fp : List Addr} {code : Value} {m0 : Str → Option Value} {h5 : Heap} {g5 : Array GenState} {t5 : Nat} {pn : List (Addr × Obj)}
    (hcm : X.calm = true) (I : Inv X pins σ H s) (ok : BlkOk X.N X.env.scope scope own) (G : GSc X.N scope) (hN : X.N.Nodup) (hfp : ∀ b ∈ fp, FpOk X pins H b ∧ b < s.heap.objs.size)
    (hA : A2.handled = none) (hF : A2.frames = some X.stack)
    (k : ∀ b o, s.heap.get? b = some o → h5.get? b = some o) (hns : h5.Ns s.heap.objs.size m0) (hg5 : AllBare g5)
    (hpn : ∀ p ∈ pn, s.heap.objs.size < p.1 ∧ h5.get? p.1 = some p.2 ∧ ∀ v, p.2.data ≠ .cell v) :
    Inv (gx X A2 s H (genEnv scope (cloFrom X.env.cells scope.names []) s.heap.objs.size code builtinsNs X.env) fp pn) [] (wipe σ (own.map (·.2))) H { s with heap := h5, gens := g5, toks := t5 } := by
  have clt : ∀ {y c}, (cloFrom X.env.cells scope.names []).lookup y = some c → c < s.heap.objs.size := fun {y c} e => by
    obtain ⟨e1, _⟩ := gx_cells I ok e
    obtain ⟨v, z⟩ := I.cell _ _ e1
    exact z.lt
  have okG : (gx X A2 s H (genEnv scope (cloFrom X.env.cells scope.names []) s.heap.objs.size code builtinsNs X.env) fp pn).Ok := by
    refine ⟨I.ok.mod, ok.kind, I.ok.glob, rfl, Nat.le_refl _, fun y z c e1 e2 => ?_, fun y hy => ?_, fun y c z e => ?_, fun _ => hA, ?_, .inr ⟨rfl, rfl⟩, fun b hb => ⟨?_, fun y c e z => ?_⟩,
      I.bs, Nat.le_trans I.ok.bsz I.sz, fun b o e hb => ?_, fun b hb z => ?_, I.stack, I.stkFree⟩
    · exact I.ok.inj y z c (gx_cells I ok e1).1 (gx_cells I ok e2).1
    · have hy : scope.names.lookup y = some .cell ∨ scope.names.lookup y = some .free := hy
      rcases hy with hy | hy
      · exact absurd rfl (G.cell _ (PySem.mem_of_lookup hy))
      · exact gx_free I ok hy
    · cases (show false = true from z)
    · show Option.map _ A2.frames = _
      rw [hF]; rfl
    · exact Nat.ne_of_lt (hfp b hb).2
    · exact (hfp b hb).1.2.2.2.2.1 y c (gx_cells I ok e).1 z
    · rcases (hfp b hb).1.2.2.2.1 with z | z
      · exact I.ok.noex b o e z
      · exact absurd (Nat.lt_of_lt_of_le (Heap.lt_size e) (Nat.le_trans I.ok.bsz z)) (Nat.lt_irrefl _)
    · rcases List.mem_cons.mp (I.stkSub b z) with z | z
      · exact (hfp b hb).1.2.1 z
      · exact (hfp b hb).1.2.2.1 z
  refine ⟨okG, rfl, hg5, Un.kept k, ⟨m0, hns, fun i y av e1 e2 e3 => ?_⟩, fun y c e => ?_, I.hok.fresh (Nat.le_refl _), fun y c e => ?_, fun p hp => ?_, I.hok.kept k, by rw [wipe_length]; exact I.len⟩
  · obtain ⟨e2, hne⟩ := wipe_some e2
    have hfr : scope.names.lookup y = some .free := by
      have e3 : scope.names.lookup y = some .local ∨ scope.names.lookup y = some .cell ∨ scope.names.lookup y = some .free := e3
      rcases e3 with e3 | e3 | e3
      · rcases ok.own _ (PySem.mem_of_lookup e3) (.inl rfl) with e' | e'
        · obtain ⟨p, hp, hpy⟩ := List.mem_map.mp e'
          have e4 := ok.ix p hp
          rw [show p.1 = y from hpy] at e4
          exact absurd (List.mem_map.mpr ⟨p, hp, nodup_ix hN e4 e1⟩) hne
        · exact absurd (List.mem_of_getElem? e1) e'
      · exact absurd rfl (G.cell _ (PySem.mem_of_lookup e3))
      · exact e3
    obtain ⟨m, hn, hl⟩ := I.loc
    have hk := ok.free _ (PySem.mem_of_lookup hfr) rfl
    have hvis : Vis X.env.scope y := hk.elim (fun k => .inr (.inl k)) (fun k => .inr (.inr k))
    obtain ⟨w, r, q⟩ := hl i y av e1 e2 hvis
    refine ⟨w, r, .inr ⟨.inr hfr, ?_⟩⟩
    obtain ⟨c, hc⟩ := gx_free I ok hfr
    rcases q with ⟨k', _⟩ | ⟨_, c', e', z⟩
    · have k' : X.env.scope.names.lookup y = some .local := k'
      rcases hk with z | z <;> rw [show X.env.scope.names.lookup y = _ from z] at k' <;> cases k'
    · have := (gx_cells I ok hc).1
      rw [this] at e'; cases e'
      exact ⟨c, hc, z.keeps k⟩
  · obtain ⟨w, z⟩ := I.cell y c (gx_cells I ok e).1
    exact ⟨w, z.keeps k⟩
  · exact I.freeC y c (gx_cells I ok e).1
  · have hp : p ∈ pn := by simpa using hp
    obtain ⟨h1, h2, h3⟩ := hpn p hp
    refine ⟨h2, I.hok.fresh (Nat.le_of_lt h1), Nat.ne_of_gt h1, fun z => ?_, h3⟩
    have z : p.1 ∈ frs X.stack := z
    rcases List.mem_cons.mp (I.stkSub _ z) with q | q
    · rw [q] at h1
      exact absurd (Nat.lt_trans h1 I.lt) (Nat.lt_irrefl _)
    · exact I.nofs (Nat.le_of_lt h1) q

/-! ### the generator's code -/
theorem over_ge {A : Around} {elt tg iter : Expr} {scope : Scope} {pos : Pos} {it : Addr} {ce : Env} :
    A.over (.compLoop (.GeneratorExp elt [⟨tg, iter, [], 0⟩] scope pos) 0 (.ref it) .none ce) [] = A.deeper ce := by
  obtain ⟨hd, d, fr, gs, u⟩ := A
  first
    | rfl
    | simp [Around.over, Around.deeper, marksOver, frameCount, unitsOf, envsOf, guardsOf, pushEnvs, pushGuards, Code.envs, Code.env?, Code.isFrame, Code.guards, Code.isGuard, Code.weight, Code.frames, Code.isCreation, Code.isCaller, Code.cUnits]
theorem over_gs {A : Around} {elt tg iter : Expr} {scope : Scope} {pos : Pos} {it : Addr} {ce : Env} :
    A.over (.compStart (.GeneratorExp elt [⟨tg, iter, [], 0⟩] scope pos) 0 (.ref it) .none ce) [] = A.deeper ce := by
  obtain ⟨hd, d, fr, gs, u⟩ := A
  first
    | rfl
    | simp [Around.over, Around.deeper, marksOver, frameCount, unitsOf, envsOf, guardsOf, pushEnvs, pushGuards, Code.envs, Code.env?, Code.isFrame, Code.guards, Code.isGuard, Code.weight, Code.frames, Code.isCreation, Code.isCaller, Code.cUnits]

/-- the truth of an element -/
def TruF (y : V) (b : Bool) : Prop := y = .bl b ∨ ∃ i, y = .int i ∧ b = (i != 0)
theorem tru_val {P : Program} {w : World} {A : Around} {E : Value → Shared → Prop} {s : Shared} {y : V} {v : Value} {b : Bool} {Q : Bool → Shared → Prop} (r : RelV y v) (h : TruF y b) (q : Q b s) : wpAny (model P w) A (truthy v) Q E s := by
  rcases h with rfl | ⟨i, rfl, rfl⟩
  · cases r
    exact wpAny_truthy_bool q
  · obtain ⟨t, rfl⟩ := r
    exact truthy_int q

/-- all(elt for tg in iter): W by the turn and a measure -/
def tAllG (P : Addr) (wi : TI) (g : TG) (te : TE) (vs : List Nat) : TE := fun σ H Q => wi σ H fun J H1 => TabG H1 P ∧ ∀ H2, Tabbed P H1 H2 → ∃ W : Nat → Nat → Hp → Prop, (∃ m, W 0 m H2) ∧ ∀ i m H, W i m H →
  (J.stop i H ∧ Q (.bl true) H) ∨ (J.go i H ∧ ∀ x H', J.yld i H x H' → g x (wipe σ vs) H' fun σ2 H2 => wipe σ2 vs = wipe σ vs ∧ te σ2 H2 fun y H3 => ∃ b, TruF y b ∧
    if b = true then ∃ m', m' < m ∧ W (i + 1) m' H3 else Q (.bl false) H3)

/-- the generator hands out an element -/
def YG (Y : Cx) (Q : VK) : Protocol := fun _ _ v s kap => ∃ (y : V) (b : Bool) (H3 : Hp), RelV y v ∧ TruF y b ∧ (∃ σ2 pins2, Inv Y pins2 σ2 H3 s) ∧ (b = false → Q (.bl false) H3) ∧
  (b = true → ∀ s' : Shared, s'.heap = s.heap → s'.os = s.os → AllBare s'.gens → kap (.send .none) s')
/-- it ends -/
def RG (Y : Cx) (Q : VK) : Nat → Shared → Shared → Prop := fun _ _ s => ∃ H3, (∃ σ2 pins2, Inv Y pins2 σ2 H3 s) ∧ Q (.bl true) H3
def RG' (Y : Cx) (Q : VK) : GenEnd := fun n s₀ r s => ((r = .ok (.ret .none) ∨ r = .ok .next) ∧ RG Y Q n s₀ s) ∨ ∃ e, r = .error e ∧ False

theorem inv_same {Y : Cx} {pins : List (Addr × Obj)} {σ : L2.St} {H : Hp} {s s' : Shared} (I : Inv Y pins σ H s) (h1 : s'.heap = s.heap) (h2 : s'.os = s.os) (h3 : AllBare s'.gens) : Inv Y pins σ H s' :=
  I.call' (ch := []) h2 (by rw [h1]; exact Un.refl) (by rw [h1]; exact I.hok) h3 fun b hb => absurd hb (by simp)

theorem ge_loop {A2 : Around} {elt tg iter : Expr} {scope : Scope} {pos : Pos} {it : Addr} {ce : Env} {fp : List Addr} {pn : List (Addr × Obj)} {tn : Nat → Heap → Prop} {J : It} {s₁ : Shared} {H₁ : Hp} {Q : VK} {W : Nat → Nat → Hp → Prop} {g : TG} {te : TE} {own : List Nat} {σ : L2.St}
    (hcm : X.calm = true) (hco : ce.scope.isCoroutine = false)
    (T : Turn X.prog X.w X.K tg J fp it tn) (hg : PG (gx X A2 s₁ H₁ ce fp pn) tg g) (he : PE (gx X A2 s₁ H₁ ce fp pn) elt te)
    (hnpn : ∀ p ∈ pn, p.1 ∉ fp)
    (turn : ∀ i m H, W i m H → (J.stop i H ∧ Q (.bl true) H) ∨ (J.go i H ∧ ∀ x H', J.yld i H x H' → g x (wipe σ own) H' fun σ2 H2 => wipe σ2 own = wipe σ own ∧ te σ2 H2 fun y H3 => ∃ b, TruF y b ∧
      if b = true then ∃ m', m' < m ∧ W (i + 1) m' H3 else Q (.bl false) H3)) :
    ∀ (n i m : Nat) (H5 : Hp) (s₀ s5 : Shared), m + 1 ≤ n → Inv (gx X A2 s₁ H₁ ce fp pn) [] (wipe σ own) H5 s5 → tn i s5.heap → (∀ b ∈ fp, H5 b = none) → W i m H5 →
      Seg (model X.prog X.w) A2 (RG' (gx X A2 s₁ H₁ ce fp pn) Q) (YG (gx X A2 s₁ H₁ ce fp pn) Q) n s₀
        (.compLoop (.GeneratorExp elt [⟨tg, iter, [], 0⟩] scope pos) 0 (.ref it) .none ce)
        ((model X.prog X.w).den (.compLoop (.GeneratorExp elt [⟨tg, iter, [], 0⟩] scope pos) 0 (.ref it) .none ce)) [] s5 := by
  intro n
  induction n with
  | zero => intro i m H5 s₀ s5 hm; omega
  | succ n ih =>
    intro i m H5 s₀ s5 hm I5 st5 n5 w5
    have stat : ∀ {σ' : L2.St} {H' : Hp} {s' : Shared}, Inv (gx X A2 s₁ H₁ ce fp pn) [] σ' H' s' → (∀ b ∈ fp, H' b = none) → ∀ b ∈ fp, FpOk (gx X A2 s₁ H₁ ce fp pn) [] H' b := fun {σ' H' s'} I' hn b hb =>
      ⟨hn b hb, (I'.ok.exf b hb).1, I'.ok.exfs b hb, .inl hb, fun x c e => (I'.ok.exf b hb).2 x c e, fun p hp z => hnpn p (by simpa using hp) (z ▸ hb)⟩
    show Seg _ A2 _ _ _ s₀ _ ((compTurn (.GeneratorExp elt [⟨tg, iter, [], 0⟩] scope pos) 0 (.ref it) .none ce).onRaise (leaving ce)) [] s5
    rw [compTurn_gen, Sem.onRaise_eq_wrap]
    refine seg_bind_wrap (wpAny_standAt ?_)
    rcases turn i m H5 w5 with ⟨stop, qq⟩ | ⟨go, step⟩
    · refine seg_bind_wrap ?_
      rw [over_ge]
      refine thnF (T.done (gx X A2 s₁ H₁ ce fp pn) rfl rfl rfl hcm i [] s5 _ H5 (fun _ _ => False) I5 (stat I5 n5) st5 stop) fun r s6 ⟨hr, I6⟩ => ?_
      subst hr
      exact seg_end (.ok .next) (.inl ⟨.inr rfl, H5, ⟨_, _, I6⟩, qq⟩)
    · refine seg_bind_wrap ?_
      rw [over_ge]
      refine thnF (T.item (gx X A2 s₁ H₁ ce fp pn) rfl rfl rfl hcm i [] s5 _ H5 (fun _ _ => False) I5 (stat I5 n5) st5 go) fun r s6 ⟨u, hr, h6⟩ => ?_
      subst hr
      refine seg_bind_wrap ?_
      rw [over_ge]
      refine thnF h6 fun _ s7 ⟨x, H7, I7, r7, y7, st7, n7⟩ => ?_
      have I7' := I7.pinned (stat I7 n7) (T.obj _ _ st7)
      refine seg_bind_wrap ?_
      rw [over_ge]
      refine thnF (hg.run _ s7 _ H7 x u _ I7' r7 (step x H7 y7)) fun _ s8 ⟨σ8, H8, I8, hw8, q8⟩ => ?_
      refine seg_bind_wrap ?_
      rw [over_ge]
      refine wpAny_tests_nil ?_
      simp only [if_true]
      have hy : ∀ v, yieldOut ce v = yieldValue v := fun v => by simp only [yieldOut, hco, Bool.false_eq_true, if_false]
      simp only [hy]
      rw [Sem.bind_eq_wrap', Sem.bind_eq_wrap', Sem.wrap_wrap, Sem.wrap_wrap]
      refine seg_wrap ?_
      rw [over_ge]
      refine thnF (he.run _ s8 σ8 H8 _ I8 q8) fun z s9 ⟨yv, H9, I9, r9, b, hb, q9⟩ => ?_
      refine seg_at (seg_yield rfl rfl rfl ⟨yv, b, H9, r9, hb, ⟨_, _, I9⟩, fun e => ?_, fun e s' e1 e2 e3 => ?_⟩)
      · subst e
        simpa using q9
      · subst e
        simp only [if_true] at q9
        obtain ⟨m', hm', w'⟩ := q9
        have I9' := inv_same I9 e1 e2 e3
        have pin' : ∀ b ∈ fp, ∀ o, s7.heap.get? b = some o → s'.heap.get? b = some o ∧ H9 b = none := fun b hb o e =>
          let z := I9'.pin (b, o) (List.mem_append_right _ (List.mem_append_right _ (mem_pinsAt hb e)))
          ⟨z.1, z.2.1⟩
        have hl : (wipe σ own).length = σ8.length := by rw [← hw8, wipe_length]
        refine seg_again rfl (ih (i + 1) m' H9 s' s' (by omega) ((I9'.unpinned (pins := [])).weak hl (fun j v e => ?_)) (T.keep _ _ _ st7 fun b hb o e => (pin' b hb o e).1) (fun b hb => ?_) w')
        · rw [← hw8] at e
          exact (wipe_some e).1
        · obtain ⟨o, e, _⟩ := T.obj _ _ st7 b hb
          exact (pin' b hb o e).2

/-- .. from its beginning -/
theorem ge_begin {A2 : Around} {elt tg iter : Expr} {scope : Scope} {pos : Pos} {it : Addr} {ce : Env} {tn : Nat → Heap → Prop} {R : GenEnd} {Yp : Protocol} {n : Nat} {s₀ s5 : Shared} {P : Program} {w : World}
    (self : ∀ (A : Around) (Q : Value → Shared → Prop) (E : Value → Shared → Prop), Q (.ref it) s5 → wpAny (model P w) A (pyIter (.ref it)) Q E s5)
    (loop : Seg (model P w) A2 R Yp n s₀ (.compLoop (.GeneratorExp elt [⟨tg, iter, [], 0⟩] scope pos) 0 (.ref it) .none ce) ((model P w).den (.compLoop (.GeneratorExp elt [⟨tg, iter, [], 0⟩] scope pos) 0 (.ref it) .none ce)) [] s5) :
    Seg (model P w) A2 R Yp n s₀ (.compStart (.GeneratorExp elt [⟨tg, iter, [], 0⟩] scope pos) 0 (.ref it) .none ce) ((model P w).den (.compStart (.GeneratorExp elt [⟨tg, iter, [], 0⟩] scope pos) 0 (.ref it) .none ce)) [] s5 := by
  show Seg _ A2 _ _ _ s₀ _ ((compStart (.GeneratorExp elt [⟨tg, iter, [], 0⟩] scope pos) 0 (.ref it) .none ce).onRaise (leaving ce)) [] s5
  unfold compStart
  rw [Sem.onRaise_eq_wrap]
  show Seg _ A2 _ _ _ s₀ _ ((ask >>= _).wrap _ _ _ _) [] s5
  refine seg_bind_wrap (wpAny_askSetting ?_)
  split
  · exact seg_again rfl loop
  · first
      | exact seg_bind_wrap (wpAny_rule (seg_bind_wrap (wpAny_standAt (seg_bind_wrap (self _ _ _ (seg_again rfl loop))))))
      | (refine seg_bind_wrap (wpAny_rule ?_)
         show Seg _ A2 _ _ _ s₀ _ ((standAt iter.pos >>= _).wrap _ _ _ _) [] s5
         exact seg_bind_wrap (wpAny_standAt (seg_bind_wrap (self _ _ _ (seg_again rfl loop)))))

/-- the consumer -/
theorem all_loop {A : Around} {Y : Cx} {Q : VK} {a : Addr} {g : Nat} {go : Obj} {R : Result → Shared → Prop} (hp : Y.prog = X.prog) (hw : Y.w = X.w)
    (hh : A.handled = none) (hd : A.depth < recursionLimit) (hgo : ∀ h : Heap, h.get? a = some go → h.IsGen a g) (hpn : (a, go) ∈ Y.pn)
    (hR : ∀ (b : Bool) (H3 : Hp) (s' : Shared), (∃ σ2 pins2, Inv Y pins2 σ2 H3 s') → Q (.bl b) H3 → R (.ok (.ret (.bool b))) s') :
    ∀ (n : Nat) (s : Shared), s.heap.get? a = some go → s.heap.NoLimit →
      (∃ gs, s.gens[g]? = some gs ∧ gs.Goes (model X.prog X.w) A.in1.in1 (RG' Y Q) (YG Y Q) n (.send .none) (s.setGen g .running)) →
      codeAny (model X.prog X.w) A (.builtin "all.loop" ⟨[.ref a], []⟩) R s := by
  intro n
  induction n with
  | zero =>
    intro s ha hl ⟨gs, hgs, hgoes⟩
    refine codeAny_builtin F.entry_all_loop ?_
    rw [Around.under_plainId F.plain_all_loop _]
    show wpAny _ A.in1 (pyNext (.ref a) >>= _) _ _ s
    refine wpAny_bind (next_genG (A := A.in1) hh hl hd (hgo _ ha) hgs hgoes (fun v s₁ gs' hbare hv => ?_) (fun s₁ hr h' hk => ?_) fun e s₁ he => he.elim)
    · obtain ⟨y, b, H3, ry, hb, ⟨σ2, pins2, I⟩, q1, q2⟩ := hv
      cases b with
      | true => exact (q2 rfl s₁ rfl rfl I.bare).elim
      | false =>
        have I' : Inv Y pins2 σ2 H3 (s₁.setGen g gs') := inv_same I rfl rfl (allBare_setGen I.bare hbare)
        show wpAny _ A.in1 (holding [v] (truthy v) >>= _) _ _ _
        refine wpAny_bind (wpAny_holding (tru_val ry hb ?_))
        refine wpAny_bind (wpAny_letGo ?_)
        simp only [Bool.false_eq_true, if_false]
        exact wpAny_bind (wpAny_rule (wpAny_pure (hR false H3 _ ⟨_, _, I'⟩ (q1 rfl))))
    · obtain ⟨H3, ⟨σ2, pins2, I⟩, q⟩ := hr
      have I' : Inv Y pins2 σ2 H3 { s₁.setGen g .finished with heap := h' } :=
        I.call' (ch := []) rfl (Un.kept hk) (I.hok.kept hk) (allBare_setGen I.bare rfl) fun b hb => absurd hb (by simp)
      exact wpAny_bind (wpAny_rule (wpAny_pure (hR true H3 _ ⟨_, _, I'⟩ q)))
  | succ n ih =>
    intro s ha hl ⟨gs, hgs, hgoes⟩
    have hgl : g < s.gens.size := (Array.getElem?_eq_some_iff.mp hgs).1
    refine codeAny_builtin F.entry_all_loop ?_
    rw [Around.under_plainId F.plain_all_loop _]
    show wpAny _ A.in1 (pyNext (.ref a) >>= _) _ _ s
    refine wpAny_bind (wpAny_gsz (n := g + 1) hgl (next_genG (A := A.in1) hh hl hd (hgo _ ha) hgs hgoes (fun v s₁ gs' hbare hv => ?_) (fun s₁ hr h' hk => ?_) fun e s₁ he => he.elim))
    · intro hsz
      obtain ⟨y, b, H3, ry, hb, ⟨σ2, pins2, I⟩, q1, q2⟩ := hv
      have I' : Inv Y pins2 σ2 H3 (s₁.setGen g gs') := inv_same I rfl rfl (allBare_setGen I.bare hbare)
      show wpAny _ A.in1 (holding [v] (truthy v) >>= _) _ _ _
      refine wpAny_bind (wpAny_holding (tru_val ry hb ?_))
      refine wpAny_bind (wpAny_letGo ?_)
      cases b with
      | false =>
        simp only [Bool.false_eq_true, if_false]
        exact wpAny_bind (wpAny_rule (wpAny_pure (hR false H3 _ ⟨_, _, I'⟩ (q1 rfl))))
      | true =>
        simp only [if_true]
        have hsz1 : g < s₁.gens.size := by
          have q : (s₁.setGen g gs').gens.size = s₁.gens.size := setGen_size _ _ _
          have hsz' : g + 1 ≤ (s₁.setGen g gs').gens.size := hsz
          omega
        refine wpAny_pure ⟨plainId_quiet F.plain_all_loop _, ?_⟩
        refine ih (s₁.setGen g gs') ?_ I'.nolimit ⟨gs', setGen_at hsz1, ?_⟩
        · exact (I.pin (a, go) (List.mem_append_left _ hpn)).1
        · exact q2 rfl _ rfl rfl (allBare_setGen (s := s₁.setGen g gs') (allBare_setGen I.bare hbare) rfl)
    · intro hsz
      obtain ⟨H3, ⟨σ2, pins2, I⟩, q⟩ := hr
      have I' : Inv Y pins2 σ2 H3 { s₁.setGen g .finished with heap := h' } :=
        I.call' (ch := []) rfl (Un.kept hk) (I.hok.kept hk) (allBare_setGen I.bare rfl) fun b hb => absurd hb (by simp)
      exact wpAny_bind (wpAny_rule (wpAny_pure (hR true H3 _ ⟨_, _, I'⟩ q)))

theorem room_ge {k : Nat} {A : Around} {ce : Env} (r : Room (k + 1) A) : Room k (A.in1.in1.deeper ce) :=
  ⟨r.hd, by have := r.dp; show A.depth + 1 + 3 * k + 5 < _; omega, by have := r.un; show A.units + 1 + 1 + 3 + 16 * k + 200 < _; omega⟩

/-- the generator g at a, made in the state s5 -/
def GMd (X : Cx) (pins : List (Addr × Obj)) (σ : L2.St) (Q : VK) (u : Value) (s5 : Shared) : Prop :=
  ∃ (Y : Cx) (a : Addr) (g : Nat) (go : Obj) (n : Nat), u = .ref a ∧ Y.prog = X.prog ∧ Y.w = X.w ∧ (∀ h : Heap, h.get? a = some go → h.IsGen a g) ∧ (a, go) ∈ Y.pn ∧ s5.heap.get? a = some go ∧ s5.heap.NoLimit ∧
    (∃ gs, s5.gens[g]? = some gs ∧ gs.Goes (model X.prog X.w) X.A.in1.in1 (RG' Y Q) (YG Y Q) n (.send .none) (s5.setGen g .running)) ∧
    (∀ (H3 : Hp) (s' : Shared), (∃ σ2 pins2, Inv Y pins2 σ2 H3 s') → Inv X pins σ H3 s')

theorem ge_make {c P : Addr} {elt tg iter : Expr} {gpos : Pos} {scope : Scope} {wi : TI} {g : TG} {te : TE} {k : Nat} {own : List (Str × Nat)} {Q : VK} {Q' : Value → Shared → Prop}
    (hcm : X.calm = true) (hN : X.N.Nodup) (hr : Room (k + 1) X.A) (TB : TabB X.base X.mg c P) (hcode : X.env.code = .ref c) (hi : PI X tg iter wi) (ok : BlkOk X.N X.env.scope scope own) (G : GSc X.N scope)
    (hg : ∀ (s : Shared) (H : Hp) (C : Addr) (cl : List (Str × Addr)) (code : Value) (fp : List Addr) (pn : List (Addr × Obj)), Room k (X.A.in1.in1.deeper (genEnv scope cl C code builtinsNs X.env)) → PG (gx X X.A.in1.in1 s H (genEnv scope cl C code builtinsNs X.env) fp pn) tg g)
    (he : ∀ (s : Shared) (H : Hp) (C : Addr) (cl : List (Str × Addr)) (code : Value) (fp : List Addr) (pn : List (Addr × Obj)), Room k (X.A.in1.in1.deeper (genEnv scope cl C code builtinsNs X.env)) → PE (gx X X.A.in1.in1 s H (genEnv scope cl C code builtinsNs X.env) fp pn) elt te)
    (hs : ∀ v, genFold iter X.env v = pure v) (I : Inv X pins σ H s) (h : tAllG P wi g te (own.map (·.2)) σ H Q)
    (hQ : ∀ u s5, GMd X pins σ Q u s5 → Q' u s5) :
    wpAny (model X.prog X.w) X.A (eval (.GeneratorExp elt [⟨tg, iter, [], 0⟩] scope gpos) X.env) Q' X.xe s := by
  have hfree : ∀ y ∈ scope.names, y.2 = .free → ∃ c, X.env.cells.lookup y.1 = some c := fun y hy e => by
    rcases ok.free y hy e with z | z
    · exact I.ok.has _ (.inl z)
    · exact I.ok.has _ (.inr z)
  refine wpAny_GeneratorExp_make G.co (closure_ok hfree) G.cell G.dot ok.kind (by have := hr.dp; omega) ?_ hs
  refine thn (hi.run pins s σ H _ I h) fun xv s1 hx => thn hx fun itv s2 h2 => ?_
  obtain ⟨it, fp, tn, J, H2, e, I2, T, st2, f2, ⟨ps, hP, ht⟩, q⟩ := h2
  subst e
  refine ⟨I2.nolimit, ?_⟩
  have hPs : s2.heap.get? P = some { cls := .none, data := .fields ps } := I2.hok P _ hP
  have cd : PySem.W.CodeHd s2.heap c P := TB.code.keeps fun b u e => I2.bk b u e
  have cont : ∀ (code : Value) (h3 : Heap) (tk : Nat) (ps' : Array Value), Heap.ExtBut P s2.heap h3 → s2.heap.objs.size ≤ h3.objs.size → h3.get? P = some { cls := .none, data := .fields ps' } → (∃ more, ps' = ps ++ more) → TriplesOk ps'.toList →
      wpAny (model X.prog X.w) X.A (builtinsFor X.env.globals X.env.builtins) (fun bi s₄ =>
        ∀ h', h'.Ns s₄.heap.objs.size (fun y => if y = ".0" then some (.ref it) else none) → Heap.SameBut s₄.heap.objs.size (s₄.heap.push { cls := .type "frame", data := .dict #[] }) h' →
          Q' (.ref h'.objs.size) { s₄ with
            gens := s₄.gens.push (.fresh (.compStart (.GeneratorExp elt [⟨tg, iter, [], 0⟩] scope gpos) 0 (.ref it) .none (genEnv scope (cloFrom X.env.cells scope.names []) s₄.heap.objs.size code bi X.env))),
            toks := s₄.toks + 1 + 1 + 1,
            heap := h'.push { cls := .type "generator", data := .fields #[.int s₄.gens.size 0, .str "<genexpr>" (s₄.toks + 1), .str (X.env.qual ++ "<genexpr>") (s₄.toks + 1 + 1)] } }) X.xe { s2 with heap := h3, toks := tk } := by
    intro code h3 tk ps' hx3 hsz hP3 hmore ht3
    obtain ⟨bm, ob, e1, e2, e3, e4, e5, e6, e7, e8⟩ := TB.bm
    have keep3 : ∀ b u, b ≠ P → s2.heap.get? b = some u → h3.get? b = some u := fun b u hb e => hx3 b u hb e
    refine wpAny_builtinsFor (m := X.mg) (by rw [I2.ok.glob]; exact (I2.mod.glob.keeps I2.bk).extBut hx3 TB.gP) e1 e2 (keep3 _ _ e4 (I2.bk _ _ e5)) e6 e7 e8 ?_
    intro h' hn' hsb
    -- the state with the table grown
    obtain ⟨more, em⟩ := hmore
    have I3 : Inv X pins σ (upd H2 P (.tbl (ps ++ more))) { s2 with heap := h3, gens := s2.gens, drawn := s2.drawn, toks := tk } :=
      inv_tab (more := more) (h' := h3) (g' := s2.gens) (d' := s2.drawn) (t' := tk) I2 hP keep3 (by rw [← em]; exact hP3) I2.bare
    have nP : ∀ b ∈ fp, b ≠ P := fun b hb z => by
      have := (f2 b hb).1
      rw [z, hP] at this
      cases this
    have TG : Tabbed P H2 (upd H2 P (.tbl (ps ++ more))) := ⟨⟨ps ++ more, upd_same, by rw [← em]; exact ht3⟩, fun b hb => upd_ne hb⟩
    obtain ⟨W, ⟨m0, w0⟩, turn⟩ := q _ TG
    have sz : ∀ b ∈ fp, b < s2.heap.objs.size := fun b hb => by
      obtain ⟨o, e, _⟩ := T.obj _ _ st2 b hb
      exact Heap.lt_size e
    have f3 : ∀ b ∈ fp, FpOk X pins (upd H2 P (.tbl (ps ++ more))) b ∧ b < h3.objs.size := fun b hb =>
      ⟨⟨by rw [upd_ne (nP b hb)]; exact (f2 b hb).1, (f2 b hb).2⟩, Nat.lt_of_lt_of_le (sz b hb) hsz⟩
    have st3 : tn 0 h3 := T.keep _ _ _ st2 fun b hb o e => keep3 b o (nP b hb) e
    have szh : h'.objs.size = h3.objs.size + 1 := by
      have := hsb.1
      rw [this, Heap.size_push]
    have kh : ∀ b o, h3.get? b = some o → h'.get? b = some o := fun b o e => hsb.extBut b o (Nat.ne_of_lt (Heap.lt_size e)) (Heap.get?_push_of_some _ e)
    generalize hgo : ({ cls := .type "generator", data := .fields #[.int s2.gens.size 0, .str "<genexpr>" (tk + 1), .str (X.env.qual ++ "<genexpr>") (tk + 1 + 1)] } : Obj) = go
    have k5 : ∀ b o, h3.get? b = some o → (h'.push go).get? b = some o := fun b o e => Heap.get?_push_of_some _ (kh b o e)
    have hat : (h'.push go).get? h'.objs.size = some go := by
      rw [← hgo]
      exact Heap.get?_push_size _ rfl
    have hisg : ∀ h : Heap, h.get? h'.objs.size = some go → h.IsGen h'.objs.size s2.gens.size := fun h e => ⟨go, _, _, e, by rw [← hgo], by rw [← hgo], by rw [← hgo]⟩
    have hcell : ∀ v, go.data ≠ .cell v := fun v z => by
      rw [← hgo] at z
      cases z
    have I5 : ∀ (g5 : Array GenState) (t5 : Nat), AllBare g5 → Inv (gx X X.A.in1.in1 { s2 with heap := h3, gens := s2.gens, drawn := s2.drawn, toks := tk } (upd H2 P (.tbl (ps ++ more))) (genEnv scope (cloFrom X.env.cells scope.names []) h3.objs.size code builtinsNs X.env) fp [(h'.objs.size, go)]) [] (wipe σ (own.map (·.2))) (upd H2 P (.tbl (ps ++ more))) { s2 with heap := h'.push go, gens := g5, toks := t5 } := fun g5 t5 hb5 =>
      gx_start (A2 := X.A.in1.in1) (s := { s2 with heap := h3, gens := s2.gens, drawn := s2.drawn, toks := tk }) (h5 := h'.push go) (g5 := g5) (t5 := t5) hcm I3 ok G hN f3 hr.hd I3.ok.frames k5 (hn'.push _) hb5 fun p hp => by
        have : p = (h'.objs.size, go) := by simpa using hp
        subst this
        exact ⟨by show h3.objs.size < h'.objs.size; rw [szh]; exact Nat.lt_succ_self _, hat, hcell⟩
    have st5 : tn 0 (h'.push go) := T.keep _ _ _ st3 fun b _ o e => k5 b o e
    have nfp : ∀ b ∈ fp, (upd H2 P (.tbl (ps ++ more))) b = none := fun b hb => (f3 b hb).1.1
    refine hQ _ _ ⟨gx X X.A.in1.in1 { s2 with heap := h3, gens := s2.gens, drawn := s2.drawn, toks := tk } (upd H2 P (.tbl (ps ++ more))) (genEnv scope (cloFrom X.env.cells scope.names []) h3.objs.size code builtinsNs X.env) fp [(h'.objs.size, go)], h'.objs.size, s2.gens.size, go, m0 + 1, rfl, rfl, rfl, hisg, List.mem_singleton.mpr rfl, hat, ?_, ⟨_, Array.getElem?_push_size .., rfl, ?_⟩, fun H3 s' ⟨σ2, pins2, I6⟩ => ?_⟩
    · exact (I5 s2.gens tk I2.bare).nolimit
    · have Ib := I5 ((s2.gens.push (GenState.fresh (.compStart (.GeneratorExp elt [⟨tg, iter, [], 0⟩] scope gpos) 0 (.ref it) .none (genEnv scope (cloFrom X.env.cells scope.names []) h3.objs.size code builtinsNs X.env)))).setIfInBounds s2.gens.size .running) (tk + 1 + 1 + 1)
        (allBare_setGen (s := { s2 with gens := s2.gens.push _ }) (AllBare.push I2.bare rfl) rfl)
      refine ge_begin (tn := tn) (fun A Q E hq => T.self A 0 _ Q E st5 hq) ?_
      exact ge_loop (J := J) (W := W) (σ := σ) (own := own.map (·.2)) (g := g) (te := te) hcm G.co T (hg _ _ _ _ _ _ _ (room_ge hr)) (he _ _ _ _ _ _ _ (room_ge hr)) (fun p hp hb => by
          have : p = (h'.objs.size, go) := by simpa using hp
          subst this
          have := Nat.lt_of_lt_of_le (sz _ hb) hsz
          rw [szh] at this
          omega) turn (m0 + 1) 0 m0 _ _ _ (Nat.le_refl _) Ib st5 nfp w0
    · exact I3.call' (ch := fp) I6.os I6.base I6.hok I6.bare fun b hb => ⟨(f3 b hb).1.2.2.2.1, (f3 b hb).1.2.1, (f3 b hb).1.2.2.2.2.1, (f3 b hb).1.2.2.2.2.2⟩
  cases hf : codeAmong gpos ps.toList with
  | none =>
    refine wpAny_genexprCodeX hcode (cd.code hPs ht) (cd.tab hPs) hf fun c' h' tk hx hge hlt hco' _ htab' _ => ?_
    obtain ⟨o1, vs, f1, tf, fl, tg', inF, tx, tt, op, _, _, _, _, _, _, _, _, _, htr, _⟩ := hco'
    exact cont _ h' tk _ hx (Nat.le_trans hge (Nat.le_of_lt hlt)) htab'.2 ⟨_, rfl⟩ htr
  | some cv =>
    refine wpAny_genexprCode_hit hcode (cd.code hPs ht) hf ?_
    exact cont cv s2.heap s2.toks ps (Heap.ExtBut.refl _ _) (Nat.le_refl _) hPs ⟨#[], by simp⟩ ht

/-- THE RULE: all(elt for tg in iter) -/
theorem pe_allG {c P : Addr} {elt tg iter : Expr} {p pos gpos : Pos} {scope : Scope} {wi : TI} {g : TG} {te : TE} {k : Nat} {own : List (Str × Nat)}
    (hcm : X.calm = true) (hN : X.N.Nodup) (hr : Room (k + 1) X.A) (hgl : Gl X "all") (hm : X.mg "all" = none) (hb : bootBuiltins "all" = some (.builtin "all")) (TB : TabB X.base X.mg c P) (hcode : X.env.code = .ref c) (hi : PI X tg iter wi) (ok : BlkOk X.N X.env.scope scope own) (G : GSc X.N scope)
    (hg : ∀ (s : Shared) (H : Hp) (C : Addr) (cl : List (Str × Addr)) (code : Value) (fp : List Addr) (pn : List (Addr × Obj)), Room k (X.A.in1.in1.deeper (genEnv scope cl C code builtinsNs X.env)) → PG (gx X X.A.in1.in1 s H (genEnv scope cl C code builtinsNs X.env) fp pn) tg g)
    (he : ∀ (s : Shared) (H : Hp) (C : Addr) (cl : List (Str × Addr)) (code : Value) (fp : List Addr) (pn : List (Addr × Obj)), Room k (X.A.in1.in1.deeper (genEnv scope cl C code builtinsNs X.env)) → PE (gx X X.A.in1.in1 s H (genEnv scope cl C code builtinsNs X.env) fp pn) elt te)
    (hs : ∀ v, genFold iter X.env v = pure v := by intro _; rfl)
    (hst : starEach [.GeneratorExp elt [⟨tg, iter, [], 0⟩] scope gpos] X.env = (false, eval (.GeneratorExp elt [⟨tg, iter, [], 0⟩] scope gpos) X.env) :: starEach [] X.env := by rfl) :
    PE X (.Call (.Name "all" p) [.GeneratorExp elt [⟨tg, iter, [], 0⟩] scope gpos] [] pos) (tAllG P wi g te (own.map (·.2))) := by
  refine ⟨fun pins s σ H Q I h => ?_⟩
  refine wpAny_Call_Name_kw (ld_blt I hgl hm hb ?_)
  refine PyProof.Rows.callWith_builtin1 ?_ hst (by rfl)
  rw [hst]
  show wpAny _ _ (spliced ((false, eval (.GeneratorExp elt [⟨tg, iter, [], 0⟩] scope gpos) X.env) :: backTo pos (starEach [] X.env))) _ _ s
  refine Calls.spliced_cons (ge_make hcm hN hr TB hcode hi ok G hg he hs I h fun u s5 hG => Calls.spliced_nil ?_)
  obtain ⟨Y, a, gi, go, n, rfl, hpr, hw, hgo, hpn, ha, hl, hgs, back⟩ := hG
  refine call_function_tree F.kind_all F.plain_all F.entry_all (F.args_all1 _) ?_
  unfold Builtin.«all»
  refine wpAny_bind (m := oneArg "all" _) (wpAny_pure ?_)
  refine wpAny_bind (wpAny_pyIter_gen (hgo _ ha) ?_)
  refine wpAny_pure ⟨plainId_quiet F.plain_all_loop _, ?_⟩
  refine all_loop (Y := Y) (Q := Q) (n := n) hpr hw hr.hd (by have := hr.dp; omega) hgo hpn (fun b H3 s' hI q => ?_) _ ha hl hgs
  exact ⟨.bl b, H3, back H3 s' hI, rfl, q⟩
end
end DL

-- text DL1
set_option Elab.async false
set_option linter.all false
set_option maxRecDepth 100000
set_option maxHeartbeats 2000000
namespace DL
open PySem PySem.Spec PyProof.Rows L2 GxR

/-! ### data in the abstract heap -/
/-- what a slot holds: nothing that is known, a datum, a list that belongs to the slot alone -/
inductive Sl where
  | n
  | d (x : PyData)
  | o (xs : List PyData)
abbrev RS := List Sl
/-- the written part, the code tables, the addresses of the error classes -/
structure Ctx where
  K : PySem.W.Frag
  ts : List Addr
  ec : Str → Addr

/-- the law's script, as a datum of its own kind -/
def scr (ns : List Int) : PyData := .dict [(.none, .list (ns.map PyData.int))]
mutual
/-- a datum without dicts -/
def ndd : PyData → Bool
  | .list xs => nddAll xs
  | .tuple xs => nddAll xs
  | .dict _ => false
  | .none => true
  | .bool _ => true
  | .int _ => true
  | .str _ => true
def nddAll : List PyData → Bool
  | [] => true
  | x :: xs => ndd x && nddAll xs
end
/-- the script's list is read at a -/
def ScrAt (K : PySem.W.Frag) (A : List Addr) (H : Hp) (a : Addr) (xs : List V) : Prop :=
  (H a = some (.lst xs) ∧ a ∉ A) ∨ (∃ o, H a = some (.frz o (.lst xs))) ∨
    ∃ (o : Obj) (its : Array Value) (n : Nat), K.lookup a = some o ∧ o.cls = .type "list" ∧ o.dict = none ∧ o.data = .seq its n ∧ its.size ≤ sizeLine ∧ Vals xs its.toList
mutual
/-- v reads as the datum; no list at an address of A is met -/
inductive Rep (K : PySem.W.Frag) (A : List Addr) (H : Hp) : V → PyData → Prop
  | non : Rep K A H .non .none
  | bl (b : Bool) : Rep K A H (.bl b) (.bool b)
  | int (i : Int) : Rep K A H (.int i) (.int i)
  | str (x : Str) : Rep K A H (.str x) (.str x)
  | lst {a : Addr} {xs : List V} {ds : List PyData} : H a = some (.lst xs) → a ∉ A → RepAll K A H xs ds → Rep K A H (.ref a) (.list ds)
  | scr {a : Addr} {ns : List Int} : ScrAt K A H a (ns.map V.int) → Rep K A H (.ref a) (scr ns)
  | tup {a : Addr} {xs : List V} {ds : List PyData} : SqT K H a xs → RepAll K A H xs ds → Rep K A H (.ref a) (.tuple ds)
inductive RepAll (K : PySem.W.Frag) (A : List Addr) (H : Hp) : List V → List PyData → Prop
  | nil : RepAll K A H [] []
  | cons {v : V} {vs : List V} {d : PyData} {ds : List PyData} : Rep K A H v d → RepAll K A H vs ds → RepAll K A H (v :: vs) (d :: ds)
end

/-- the tracked things stand, but for the lists at O; code tables may have grown -/
structure Ext (O : List Addr) (H H' : Hp) : Prop where
  keep : ∀ a u, H a = some u → (∀ ps, u ≠ .tbl ps) → (a ∉ O ∨ ∀ xs, u ≠ .lst xs) → H' a = some u
  tab : ∀ P, TabG H P → TabG H' P
  dom : ∀ a, H' a = none → H a = none
theorem Ext.refl {O : List Addr} {H : Hp} : Ext O H H := ⟨fun _ _ e _ _ => e, fun _ t => t, fun _ h => h⟩
theorem Ext.of_same {O : List Addr} {H H' : Hp} (s : Same H H') : Ext O H H' := ⟨fun a u e _ _ => s a u e, fun P ⟨ps, e, t⟩ => ⟨ps, s _ _ e, t⟩, fun a h => s.free h⟩
theorem Ext.mono {O O' : List Addr} {H H' : Hp} (e : Ext O H H') (h : ∀ a ∈ O, a ∈ O') : Ext O' H H' :=
  ⟨fun a u e1 e2 e3 => e.keep a u e1 e2 (e3.elim (fun z => .inl fun m => z (h a m)) .inr), e.tab, e.dom⟩
/-- O' is O but for addresses that were free -/
def Grow (O : List Addr) (H : Hp) (O' : List Addr) : Prop := ∀ a ∈ O', a ∈ O ∨ H a = none
theorem Grow.refl {O : List Addr} {H : Hp} : Grow O H O := fun _ h => .inl h
theorem Ext.trans {O O' : List Addr} {H H1 H2 : Hp} (a : Ext O H H1) (b : Ext O' H1 H2) (g : Grow O H O') : Ext O H H2 :=
  ⟨fun c u e1 e2 e3 => by
    have e4 := a.keep c u e1 e2 e3
    refine b.keep c u e4 e2 ?_
    rcases e3 with z | z
    · refine .inl fun m => ?_
      rcases g c m with q | q
      · exact z q
      · rw [e1] at q; cases q
    · exact .inr z, fun P t => b.tab P (a.tab P t), fun c h => a.dom c (b.dom c h)⟩
theorem Ext.trans' {O : List Addr} {H H1 H2 : Hp} (a : Ext O H H1) (b : Ext O H1 H2) : Ext O H H2 := a.trans b Grow.refl
theorem ext_new {O : List Addr} {H : Hp} {p : Addr} {u : HO} (h : H p = none) : Ext O H (upd H p u) := .of_same fun b o e => by
  rw [upd_ne (ne_of_none e h)]; exact e
/-- a list of O is written -/
theorem ext_put {O : List Addr} {H : Hp} {p : Addr} {xs : List V} {u : HO} (h : H p = some (.lst xs)) (hp : p ∈ O) : Ext O H (upd H p u) := by
  refine ⟨fun a w e1 e2 e3 => ?_, fun P ⟨ps, e, t⟩ => ⟨ps, ?_, t⟩, fun a e => ?_⟩
  · by_cases hb : a = p
    · subst hb
      rw [h] at e1
      cases e1
      rcases e3 with z | z
      · exact (z hp).elim
      · exact (z xs rfl).elim
    · rw [upd_ne hb]; exact e1
  · rw [upd_ne (ne_of e h (by intro z; cases z))]; exact e
  · by_cases hb : a = p
    · subst hb; rw [upd_same] at e; cases e
    · rw [upd_ne hb] at e; exact e
/-- a table has grown -/
theorem ext_tab {O : List Addr} {P : Addr} {H H' : Hp} (t0 : TabG H P) (t : Tabbed P H H') : Ext O H H' := by
  obtain ⟨ps, e0, _⟩ := t0
  refine ⟨fun a u e1 e2 _ => ?_, fun Q q => ?_, fun a e => ?_⟩
  · rw [t.2 a fun z => by subst z; rw [e0] at e1; cases e1; exact e2 _ rfl]; exact e1
  · by_cases hb : Q = P
    · subst hb; exact t.1
    · obtain ⟨qs, e, z⟩ := q
      exact ⟨qs, by rw [t.2 Q hb]; exact e, z⟩
  · by_cases hb : a = P
    · subst hb
      obtain ⟨qs, e1, _⟩ := t.1
      rw [e] at e1; cases e1
    · rw [← t.2 a hb]; exact e

section
variable {K : PySem.W.Frag} {A A' O : List Addr} {H H' : Hp}
theorem Rd.ext {a : Addr} {u : HO} (r : Rd H a u) (e : Ext O H H') (hu : ∀ ps, u ≠ .tbl ps) (h : a ∉ O ∨ ∀ xs, u ≠ .lst xs) : Rd H' a u := by
  rcases r with r | ⟨o, r⟩
  · exact .inl (e.keep a u r hu h)
  · exact .inr ⟨o, e.keep a _ r (by intro ps z; cases z) (.inr (by intro xs z; cases z))⟩
theorem SqT.ext {a : Addr} {xs : List V} (r : SqT K H a xs) (e : Ext O H H') : SqT K H' a xs := by
  rcases r with r | r
  · exact .inl (Rd.ext r e (by intro ps z; cases z) (.inr (by intro xs z; cases z)))
  · exact .inr r
theorem ScrAt.ext {a : Addr} {xs : List V} (r : ScrAt K A H a xs) (ho : ∀ a ∈ O, a ∈ A ∨ H a = none) (e : Ext O H H') (g : ∀ a ∈ A', a ∈ A ∨ H a = none) : ScrAt K A' H' a xs := by
  rcases r with ⟨h, n⟩ | ⟨o, h⟩ | h
  · refine .inl ⟨e.keep a _ h (by intro ps z; cases z) (.inl fun m => ?_), fun m => ?_⟩
    · rcases ho a m with z | z
      · exact n z
      · rw [z] at h; cases h
    · rcases g a m with z | z
      · exact n z
      · rw [z] at h; cases h
  · exact .inr (.inl ⟨o, e.keep a _ h (by intro ps z; cases z) (.inr (by intro xs z; cases z))⟩)
  · exact .inr (.inr h)
theorem ScrAt.sql {a : Addr} {xs : List V} (r : ScrAt K A H a xs) : SqL K H a xs := by
  rcases r with ⟨h, n⟩ | ⟨o, h⟩ | h
  · exact .inl (.inl h)
  · exact .inl (.inr ⟨o, h⟩)
  · exact .inr h
mutual
theorem Rep.ext : ∀ {v : V} {d : PyData}, Rep K A H v d → (∀ a ∈ O, a ∈ A ∨ H a = none) → Ext O H H' → (∀ a ∈ A', a ∈ A ∨ H a = none) → Rep K A' H' v d
  | _, _, .non, _, _, _ => .non
  | _, _, .bl b, _, _, _ => .bl b
  | _, _, .int i, _, _, _ => .int i
  | _, _, .str x, _, _, _ => .str x
  | _, _, .lst r hA rs, ho, e, g => .lst (e.keep _ _ r (by intro ps z; cases z) (.inl fun m => by
      rcases ho _ m with q | q
      · exact hA q
      · rw [q] at r; cases r)) (fun m => by
      rcases g _ m with q | q
      · exact hA q
      · rw [q] at r; cases r) (RepAll.ext rs ho e g)
  | _, _, .scr r, ho, e, g => .scr (r.ext ho e g)
  | _, _, .tup r rs, ho, e, g => .tup (SqT.ext r e) (RepAll.ext rs ho e g)
theorem RepAll.ext : ∀ {vs : List V} {ds : List PyData}, RepAll K A H vs ds → (∀ a ∈ O, a ∈ A ∨ H a = none) → Ext O H H' → (∀ a ∈ A', a ∈ A ∨ H a = none) → RepAll K A' H' vs ds
  | _, _, .nil, _, _, _ => .nil
  | _, _, .cons r rs, ho, e, g => .cons (Rep.ext r ho e g) (RepAll.ext rs ho e g)
end
mutual
theorem Rep.dp : ∀ {v : V} {d : PyData}, Rep K A H v d → ndd d = true → Dp K H v d
  | _, _, .non, _ => .non
  | _, _, .bl b, _ => .bl b
  | _, _, .int i, _ => .int i
  | _, _, .str x, _ => .str x
  | _, _, .lst r _ rs, h => .lst (.inl (.inl r)) (RepAll.dp rs (by simpa [ndd] using h))
  | _, _, .scr r, h => by simp [scr, ndd] at h
  | _, _, .tup r rs, h => .tup r (RepAll.dp rs (by simpa [ndd] using h))
theorem RepAll.dp : ∀ {vs : List V} {ds : List PyData}, RepAll K A H vs ds → nddAll ds = true → DpAll K H vs ds
  | _, _, .nil, _ => .nil
  | _, _, .cons r rs, h => by
    simp only [nddAll, Bool.and_eq_true] at h
    exact .cons (Rep.dp r h.1) (RepAll.dp rs h.2)
end
theorem RepAll.length : ∀ {vs : List V} {ds : List PyData}, RepAll K A H vs ds → vs.length = ds.length
  | _, _, .nil => rfl
  | _, _, .cons _ rs => by rw [List.length_cons, List.length_cons, RepAll.length rs]
theorem RepAll.append : ∀ {vs ws : List V} {ds es : List PyData}, RepAll K A H vs ds → RepAll K A H ws es → RepAll K A H (vs ++ ws) (ds ++ es)
  | _, _, _, _, .nil, b => b
  | _, _, _, _, .cons r rs, b => .cons r (RepAll.append rs b)
theorem RepAll.get : ∀ {vs : List V} {ds : List PyData} {i : Nat} {d : PyData}, RepAll K A H vs ds → ds[i]? = some d → ∃ v, vs[i]? = some v ∧ Rep K A H v d
  | _, _, _, _, .nil, e => by simp at e
  | _, _, 0, _, .cons r _, e => by simp at e; subst e; exact ⟨_, rfl, r⟩
  | _, _, i + 1, _, .cons _ rs, e => by
    obtain ⟨v, h1, h2⟩ := RepAll.get (i := i) rs (by simpa using e)
    exact ⟨v, by simpa using h1, h2⟩
theorem RepAll.get' : ∀ {vs : List V} {ds : List PyData} {i : Nat} {v : V}, RepAll K A H vs ds → vs[i]? = some v → ∃ d, ds[i]? = some d ∧ Rep K A H v d
  | _, _, _, _, .nil, e => by simp at e
  | _, _, 0, _, .cons r _, e => by simp at e; subst e; exact ⟨_, rfl, r⟩
  | _, _, i + 1, _, .cons _ rs, e => by
    obtain ⟨v, h1, h2⟩ := RepAll.get' (i := i) rs (by simpa using e)
    exact ⟨v, by simpa using h1, h2⟩
theorem RepAll.take : ∀ (n : Nat) {vs : List V} {ds : List PyData}, RepAll K A H vs ds → RepAll K A H (vs.take n) (ds.take n)
  | 0, _, _, _ => .nil
  | _ + 1, _, _, .nil => .nil
  | n + 1, _, _, .cons r rs => .cons r (RepAll.take n rs)
theorem RepAll.drop : ∀ (n : Nat) {vs : List V} {ds : List PyData}, RepAll K A H vs ds → RepAll K A H (vs.drop n) (ds.drop n)
  | 0, _, _, h => h
  | _ + 1, _, _, .nil => .nil
  | n + 1, _, _, .cons _ rs => RepAll.drop n rs
theorem RepAll.reverse : ∀ {vs : List V} {ds : List PyData}, RepAll K A H vs ds → RepAll K A H vs.reverse ds.reverse
  | _, _, .nil => .nil
  | _, _, .cons r rs => by
    rw [List.reverse_cons, List.reverse_cons]
    exact (RepAll.reverse rs).append (.cons r .nil)
theorem RepAll.set : ∀ (i : Nat) {vs : List V} {ds : List PyData} {v : V} {d : PyData}, RepAll K A H vs ds → Rep K A H v d → RepAll K A H (vs.set i v) (ds.set i d)
  | _, _, _, _, _, .nil, _ => .nil
  | 0, _, _, _, _, .cons _ rs, q => .cons q rs
  | i + 1, _, _, _, _, .cons r rs, q => .cons r (RepAll.set i rs q)
theorem RepAll.dropLast : ∀ {vs : List V} {ds : List PyData}, RepAll K A H vs ds → RepAll K A H vs.dropLast ds.dropLast
  | _, _, .nil => .nil
  | _, _, .cons r .nil => .nil
  | _, _, .cons r (.cons r2 rs) => .cons r (RepAll.dropLast (.cons r2 rs))
theorem RepAll.eraseIdx : ∀ (i : Nat) {vs : List V} {ds : List PyData}, RepAll K A H vs ds → RepAll K A H (vs.eraseIdx i) (ds.eraseIdx i)
  | _, _, _, .nil => .nil
  | 0, _, _, .cons _ rs => rs
  | i + 1, _, _, .cons r rs => .cons r (RepAll.eraseIdx i rs)
theorem RepAll.ints : ∀ {vs : List V} {ns : List Int}, RepAll K A H vs (ns.map PyData.int) → vs = ns.map V.int
  | _, [], r => by
    have r' : RepAll K A H _ [] := r
    cases r'; rfl
  | _, n :: ns, r => by
    have r' : RepAll K A H _ (PyData.int n :: ns.map PyData.int) := r
    cases r' with
    | cons h t =>
      cases h
      rw [RepAll.ints t]; rfl
theorem RepAll.of_ints : ∀ (ns : List Int), RepAll K A H (ns.map V.int) (ns.map PyData.int)
  | [] => .nil
  | n :: ns => .cons (.int n) (RepAll.of_ints ns)
end

/-! ### a def's values, as data -/
abbrev Own := List (Nat × Addr)
abbrev adr (O : Own) : List Addr := O.map (·.2)
theorem Rep.fewer {K : PySem.W.Frag} {A A' : List Addr} {H : Hp} {v : V} {d : PyData} (r : Rep K A H v d) (h : ∀ a ∈ A', a ∈ A) : Rep K A' H v d := r.ext (O := []) (by simp) .refl fun a m => .inl (h a m)
theorem RepAll.fewer {K : PySem.W.Frag} {A A' : List Addr} {H : Hp} {v : List V} {d : List PyData} (r : RepAll K A H v d) (h : ∀ a ∈ A', a ∈ A) : RepAll K A' H v d := r.ext (O := []) (by simp) .refl fun a m => .inl (h a m)

/-- ρ is what the slots σ hold: O the lists that belong to slots, Fg those of the callers (and of running comprehensions) -/
structure R (G : Ctx) (Fg : List Addr) (O : Own) (ρ : RS) (σ : L2.St) (H : Hp) : Prop where
  len : σ.length = ρ.length
  val : ∀ (i : Nat) (x : PyData), ρ[i]? = some (Sl.d x) → ∃ v, σ[i]? = some (some v) ∧ Rep G.K (adr O ++ Fg) H v x
  own : ∀ (i : Nat) (xs : List PyData), ρ[i]? = some (Sl.o xs) → ∃ a vs, (i, a) ∈ O ∧ σ[i]? = some (some (V.ref a)) ∧ H a = some (.lst vs) ∧ RepAll G.K (adr O ++ Fg) H vs xs
  key : ∀ i a b, (i, a) ∈ O → (i, b) ∈ O → a = b
  inj : ∀ i j a, (i, a) ∈ O → (j, a) ∈ O → i = j
  fg : ∀ p ∈ O, p.2 ∉ Fg
  occ : ∀ i a, (i, a) ∈ O → ∃ xs, ρ[i]? = some (Sl.o xs)
  tabs : ∀ P ∈ G.ts, TabG H P
  all : ∀ a ∈ adr O ++ Fg, ∃ xs, H a = some (.lst xs)
section
variable {G : Ctx} {Fg : List Addr} {O : Own} {ρ : RS} {σ : L2.St} {H H' : Hp}
theorem R.in_adr {i : Nat} {a : Addr} (m : (i, a) ∈ O) : a ∈ adr O := List.mem_map.mpr ⟨_, m, rfl⟩
/-- the heap goes on; lists of the callers may be written -/
theorem R.ext {S : List Addr} (r : R G Fg O ρ σ H) (e : Ext S H H') (hs : ∀ a ∈ S, a ∈ Fg) (hl : ∀ a ∈ S, ∃ xs, H' a = some (.lst xs)) : R G Fg O ρ σ H' := by
  have sub : ∀ a ∈ S, a ∈ adr O ++ Fg := fun a m => List.mem_append_right _ (hs a m)
  have re : ∀ {v d}, Rep G.K (adr O ++ Fg) H v d → Rep G.K (adr O ++ Fg) H' v d := fun q => q.ext (fun a m => .inl (sub a m)) e fun _ m => .inl m
  have ra : ∀ {v d}, RepAll G.K (adr O ++ Fg) H v d → RepAll G.K (adr O ++ Fg) H' v d := fun q => q.ext (fun a m => .inl (sub a m)) e fun _ m => .inl m
  refine ⟨r.len, fun i x h => ?_, fun i xs h => ?_, r.key, r.inj, r.fg, r.occ, fun P hP => e.tab P (r.tabs P hP), fun a m => ?_⟩
  · obtain ⟨v, h1, h2⟩ := r.val i x h
    exact ⟨v, h1, re h2⟩
  · obtain ⟨a, vs, h1, h2, h3, h4⟩ := r.own i xs h
    exact ⟨a, vs, h1, h2, e.keep a _ h3 (by intro ps z; cases z) (.inl fun m => r.fg _ h1 (hs _ m)), ra h4⟩
  · by_cases hm : a ∈ S
    · exact hl a hm
    · obtain ⟨xs, h⟩ := r.all a m
      exact ⟨xs, e.keep a _ h (by intro ps z; cases z) (.inl hm)⟩
theorem R.ext0 (r : R G Fg O ρ σ H) (e : Ext [] H H') : R G Fg O ρ σ H' := r.ext e (by simp) (by simp)
/-- no slot of ρ is owned at i -/
def NoOwn (ρ : RS) (i : Nat) : Prop := ∀ xs, ρ[i]? ≠ some (Sl.o xs)
theorem get_set_d {ρ : RS} {i j : Nat} {s t : Sl} (h : (ρ.set i s)[j]? = some t) : (i = j ∧ t = s) ∨ (i ≠ j ∧ ρ[j]? = some t) := by
  by_cases hj : i = j
  · subst hj
    rw [List.getElem?_set_self'] at h
    cases q : ρ[i]? with
    | none => rw [q] at h; cases h
    | some z =>
      rw [q] at h
      exact .inl ⟨rfl, (Option.some.inj h).symm⟩
  · rw [List.getElem?_set_ne hj] at h
    exact .inr ⟨hj, h⟩
theorem R.at_lt (r : R G Fg O ρ σ H) {i : Nat} {s : Sl} {t : Sl} (h : (ρ.set i s)[i]? = some t) : i < σ.length := by
  rw [r.len]
  have := (List.getElem?_eq_some_iff.mp h).1
  simpa using this
theorem R.occ_set (r : R G Fg O ρ σ H) {i : Nat} {s : Sl} (no : NoOwn ρ i) : ∀ j a, (j, a) ∈ O → ∃ xs, (ρ.set i s)[j]? = some (Sl.o xs) := fun j a m => by
  obtain ⟨xs, e⟩ := r.occ j a m
  have hj : i ≠ j := fun z => by subst z; exact no xs e
  exact ⟨xs, by rw [List.getElem?_set_ne hj]; exact e⟩
/-- a slot takes a datum -/
theorem R.set {i : Nat} {v : V} {x : PyData} (r : R G Fg O ρ σ H) (no : NoOwn ρ i) (hv : Rep G.K (adr O ++ Fg) H v x) : R G Fg O (ρ.set i (Sl.d x)) (σ.set i (some v)) H := by
  refine ⟨by simp [r.len], fun j y h => ?_, fun j ys h => ?_, r.key, r.inj, r.fg, r.occ_set no, r.tabs, r.all⟩
  · rcases get_set_d h with ⟨rfl, e⟩ | ⟨hj, e⟩
    · cases e
      exact ⟨v, by rw [List.getElem?_set_self (r.at_lt h)], hv⟩
    · rw [List.getElem?_set_ne hj]
      exact r.val j y e
  · rcases get_set_d h with ⟨rfl, e⟩ | ⟨hj, e⟩
    · cases e
    · rw [List.getElem?_set_ne hj]
      exact r.own j ys e
/-- a slot is forgotten -/
theorem R.unset {i : Nat} {v : Option V} (r : R G Fg O ρ σ H) (no : NoOwn ρ i) : R G Fg O (ρ.set i Sl.n) (σ.set i v) H := by
  refine ⟨by simp [r.len], fun j y h => ?_, fun j ys h => ?_, r.key, r.inj, r.fg, r.occ_set no, r.tabs, r.all⟩
  · rcases get_set_d h with ⟨rfl, e⟩ | ⟨hj, e⟩
    · cases e
    · rw [List.getElem?_set_ne hj]
      exact r.val j y e
  · rcases get_set_d h with ⟨rfl, e⟩ | ⟨hj, e⟩
    · cases e
    · rw [List.getElem?_set_ne hj]
      exact r.own j ys e
/-- a new list of a running comprehension -/
theorem R.more {a : Addr} {vs : List V} (r : R G Fg O ρ σ H) (h : H a = none) : R G (a :: Fg) O ρ σ (upd H a (.lst vs)) := by
  have e : Ext [] H (upd H a (.lst vs)) := ext_new h
  have g : ∀ b ∈ adr O ++ a :: Fg, b ∈ adr O ++ Fg ∨ H b = none := fun b m => by
    rcases List.mem_append.mp m with z | z
    · exact .inl (List.mem_append_left _ z)
    · rcases List.mem_cons.mp z with z | z
      · subst z; exact .inr h
      · exact .inl (List.mem_append_right _ z)
  have na : ∀ b xs, H b = some (.lst xs) → upd H a (.lst vs) b = some (.lst xs) := fun b xs q => by rw [upd_ne (ne_of_none q h)]; exact q
  refine ⟨r.len, fun i x q => ?_, fun i xs q => ?_, r.key, r.inj, fun p hp m => ?_, r.occ, fun P hP => e.tab P (r.tabs P hP), fun b m => ?_⟩
  · obtain ⟨v, h1, h2⟩ := r.val i x q
    exact ⟨v, h1, h2.ext (O := []) (by simp) e g⟩
  · obtain ⟨b, ws, h1, h2, h3, h4⟩ := r.own i xs q
    exact ⟨b, ws, h1, h2, na _ _ h3, h4.ext (O := []) (by simp) e g⟩
  · rcases List.mem_cons.mp m with z | z
    · obtain ⟨xs, q⟩ := r.all p.2 (List.mem_append_left _ (List.mem_map.mpr ⟨p, hp, rfl⟩))
      rw [z, h] at q; cases q
    · exact r.fg p hp z
  · rcases g b m with z | z
    · obtain ⟨xs, q⟩ := r.all b z
      exact ⟨xs, na _ _ q⟩
    · by_cases hb : b = a
      · subst hb; exact ⟨vs, upd_same⟩
      · rcases List.mem_append.mp m with y | y
        · obtain ⟨xs, q⟩ := r.all b (List.mem_append_left _ y)
          exact ⟨xs, na _ _ q⟩
        · rcases List.mem_cons.mp y with y | y
          · exact (hb y).elim
          · obtain ⟨xs, q⟩ := r.all b (List.mem_append_right _ y)
            exact ⟨xs, na _ _ q⟩
theorem R.less {a : Addr} (r : R G (a :: Fg) O ρ σ H) : R G Fg O ρ σ H := by
  have g : ∀ b ∈ adr O ++ Fg, b ∈ adr O ++ a :: Fg := fun b m => by
    rcases List.mem_append.mp m with z | z
    · exact List.mem_append_left _ z
    · exact List.mem_append_right _ (List.mem_cons_of_mem _ z)
  refine ⟨r.len, fun i x q => ?_, fun i xs q => ?_, r.key, r.inj, fun p hp m => r.fg p hp (List.mem_cons_of_mem _ m), r.occ, r.tabs, fun b m => r.all b (g b m)⟩
  · obtain ⟨v, h1, h2⟩ := r.val i x q
    exact ⟨v, h1, h2.fewer g⟩
  · obtain ⟨b, ws, h1, h2, h3, h4⟩ := r.own i xs q
    exact ⟨b, ws, h1, h2, h3, h4.fewer g⟩
/-- a slot takes a list as its own that stood apart -/
theorem R.take {a : Addr} {i : Nat} {vs : List V} {xs : List PyData} (r : R G (a :: Fg) O ρ σ H) (hf : a ∉ Fg) (h : H a = some (.lst vs)) (hi : i < ρ.length) (no : NoOwn ρ i)
    (hx : RepAll G.K (adr O ++ a :: Fg) H vs xs) : R G Fg ((i, a) :: O) (ρ.set i (Sl.o xs)) (σ.set i (some (V.ref a))) H := by
  have g : ∀ b ∈ adr ((i, a) :: O) ++ Fg, b ∈ adr O ++ a :: Fg := fun b m => by
    rcases List.mem_cons.mp m with z | z
    · rw [z]; exact List.mem_append_right _ List.mem_cons_self
    · rcases List.mem_append.mp z with z | z
      · exact List.mem_append_left _ z
      · exact List.mem_append_right _ (List.mem_cons_of_mem _ z)
  have hn : ∀ b, (i, b) ∉ O := fun b m => by
    obtain ⟨ys, e⟩ := r.occ i b m
    exact no ys e
  have hO : a ∉ adr O := fun m => by
    obtain ⟨p, hp, e⟩ := List.mem_map.mp m
    exact r.fg p hp (by rw [e]; exact List.mem_cons_self)
  refine ⟨by simp [r.len], fun j y q => ?_, fun j ys q => ?_, fun j b c m1 m2 => ?_, fun j k b m1 m2 => ?_, fun p hp m => ?_, fun j b m => ?_, r.tabs, fun b m => r.all b (g b m)⟩
  · rcases get_set_d q with ⟨rfl, e⟩ | ⟨hj, e⟩
    · cases e
    · rw [List.getElem?_set_ne hj]
      obtain ⟨v, h1, h2⟩ := r.val j y e
      exact ⟨v, h1, h2.fewer g⟩
  · rcases get_set_d q with ⟨rfl, e⟩ | ⟨hj, e⟩
    · cases e
      exact ⟨a, vs, List.mem_cons_self, by rw [List.getElem?_set_self (r.at_lt q)], h, hx.fewer g⟩
    · rw [List.getElem?_set_ne hj]
      obtain ⟨b, ws, h1, h2, h3, h4⟩ := r.own j ys e
      exact ⟨b, ws, List.mem_cons_of_mem _ h1, h2, h3, h4.fewer g⟩
  · rcases List.mem_cons.mp m1 with e1 | m1
    · rcases List.mem_cons.mp m2 with e2 | m2
      · cases e1; cases e2; rfl
      · cases e1; exact (hn _ m2).elim
    · rcases List.mem_cons.mp m2 with e2 | m2
      · cases e2; exact (hn _ m1).elim
      · exact r.key j b c m1 m2
  · rcases List.mem_cons.mp m1 with e1 | m1
    · rcases List.mem_cons.mp m2 with e2 | m2
      · cases e1; cases e2; rfl
      · cases e1; exact (hO (R.in_adr m2)).elim
    · rcases List.mem_cons.mp m2 with e2 | m2
      · cases e2; exact (hO (R.in_adr m1)).elim
      · exact r.inj j k b m1 m2
  · rcases List.mem_cons.mp hp with e | hp
    · subst e; exact hf m
    · exact r.fg p hp (List.mem_cons_of_mem _ m)
  · rcases List.mem_cons.mp m with e | m
    · cases e
      exact ⟨xs, List.getElem?_set_self hi⟩
    · exact r.occ_set no j b m
/-- the list of a slot is written -/
theorem R.put {a : Addr} {i : Nat} {vs ws : List V} {xs : List PyData} (r : R G Fg O ρ σ H) (m : (i, a) ∈ O) (h : H a = some (.lst vs)) (hi : i < ρ.length) (hσ : σ[i]? = some (some (V.ref a)))
    (hx : RepAll G.K (adr O ++ Fg) H ws xs) : R G Fg O (ρ.set i (Sl.o xs)) σ (upd H a (.lst ws)) := by
  have e : Ext [a] H (upd H a (.lst ws)) := ext_put h (List.mem_singleton.mpr rfl)
  have sub : ∀ b ∈ [a], b ∈ adr O ++ Fg := fun b q => by
    rw [List.mem_singleton.mp q]
    exact List.mem_append_left _ (R.in_adr m)
  have ra : ∀ {v d}, RepAll G.K (adr O ++ Fg) H v d → RepAll G.K (adr O ++ Fg) (upd H a (.lst ws)) v d := fun q => q.ext (fun a m => .inl (sub a m)) e fun _ m => .inl m
  refine ⟨by simp [r.len], fun j y q => ?_, fun j ys q => ?_, r.key, r.inj, r.fg, fun j b q => ?_, fun P hP => e.tab P (r.tabs P hP), fun b q => ?_⟩
  · rcases get_set_d q with ⟨rfl, z⟩ | ⟨hj, z⟩
    · cases z
    · obtain ⟨v, h1, h2⟩ := r.val j y z
      exact ⟨v, h1, h2.ext (fun a m => .inl (sub a m)) e fun _ m => .inl m⟩
  · rcases get_set_d q with ⟨rfl, z⟩ | ⟨hj, z⟩
    · cases z
      exact ⟨a, ws, m, hσ, upd_same, ra hx⟩
    · obtain ⟨b, us, h1, h2, h3, h4⟩ := r.own j ys z
      refine ⟨b, us, h1, h2, ?_, ra h4⟩
      rw [upd_ne (show b ≠ a from fun z => hj (r.inj i j a m (by rw [← z]; exact h1)))]
      exact h3
  · by_cases hj : i = j
    · subst hj; exact ⟨xs, List.getElem?_set_self hi⟩
    · obtain ⟨ys, z⟩ := r.occ j b q
      exact ⟨ys, by rw [List.getElem?_set_ne hj]; exact z⟩
  · by_cases hb : b = a
    · subst hb; exact ⟨ws, upd_same⟩
    · obtain ⟨us, z⟩ := r.all b q
      exact ⟨us, by rw [upd_ne hb]; exact z⟩
end
/-- how a state goes on: the heap, the owned lists -/
structure Evo (O : Own) (H : Hp) (O' : Own) (H' : Hp) : Prop where
  ext : Ext (adr O) H H'
  sub : ∀ p ∈ O, p ∈ O'
  grow : ∀ p ∈ O', p ∈ O ∨ H p.2 = none
theorem Evo.refl {O : Own} {H : Hp} : Evo O H O H := ⟨.refl, fun _ m => m, fun _ m => .inl m⟩
theorem Evo.g {O O' : Own} {H H' : Hp} (e : Evo O H O' H') : Grow (adr O) H (adr O') := fun a m => by
  obtain ⟨p, hp, rfl⟩ := List.mem_map.mp m
  rcases e.grow p hp with q | q
  · exact .inl (List.mem_map.mpr ⟨p, q, rfl⟩)
  · exact .inr q
theorem Evo.trans {O O1 O2 : Own} {H H1 H2 : Hp} (a : Evo O H O1 H1) (b : Evo O1 H1 O2 H2) : Evo O H O2 H2 :=
  ⟨a.ext.trans b.ext a.g, fun p m => b.sub p (a.sub p m), fun p m => by
    rcases b.grow p m with q | q
    · exact a.grow p q
    · exact .inr (a.ext.dom _ q)⟩
theorem Ext.evo {O : Own} {H H' : Hp} (e : Ext (adr O) H H') : Evo O H O H' := ⟨e, fun _ m => m, fun _ m => .inl m⟩
end DL

-- text DL2
set_option Elab.async false
set_option linter.all false
set_option maxRecDepth 100000
set_option maxHeartbeats 2000000
namespace DL
open PySem PySem.Spec PyProof.Rows L2 GxR

/-! ### results -/
/-- an expression's: a value and the slots; an own error (its class, its fields); nothing is claimed -/
inductive Rs (α : Type) where
  | ok (a : α) (ρ : RS)
  | ex (c : Str) (fs : List (Str × PyData)) (ρ : RS)
  | no
def Rs.bind {α β : Type} (r : Rs α) (k : α → RS → Rs β) : Rs β := match r with
  | .ok a ρ => k a ρ
  | .ex c fs ρ => .ex c fs ρ
  | .no => .no
def Rs.of {α : Type} (o : Option α) (ρ : RS) : Rs α := match o with
  | some a => .ok a ρ
  | none => .no
/-- a statement's: what follows, a return (rto: of an own list), break, continue -/
inductive Out where
  | nx (ρ : RS)
  | rt (d : PyData) (ρ : RS)
  | rto (d : PyData) (ρ : RS)
  | bk (ρ : RS)
  | ct (ρ : RS)
  | ex (c : Str) (fs : List (Str × PyData)) (ρ : RS)
  | no
def Rs.out {α : Type} (r : Rs α) (k : α → RS → Out) : Out := match r with
  | .ok a ρ => k a ρ
  | .ex c fs ρ => .ex c fs ρ
  | .no => .no
def fv : PyData → V
  | .none => .non
  | .bool b => .bl b
  | .int i => .int i
  | .str x => .str x
  | _ => .non
/-- the error's own dict at dd -/
def ExAt (fs : List (Str × PyData)) (dd : Option Addr) (H : Hp) : Prop := match fs with
  | [] => dd = none
  | _ :: _ => ∃ a vs, dd = some a ∧ H a = some (.xd vs) ∧ ∀ p ∈ fs, vs.lookup p.1 = some (fv p.2)

/-- what is wanted behind: K of the value, the slots, the heap -/
def GP {β : Type} (G : Ctx) (W : WX) (Fg : List Addr) (O : Own) (σ : L2.St) (K : β → RS → Hp → Prop) (H : Hp) : Rs β → Prop
  | .ok b ρ' => ∀ H', Ext (adr O) H H' → R G Fg O ρ' σ H' → K b ρ' H'
  | .ex c fs ρ' => ∀ dd H', Ext (adr O) H H' → R G Fg O ρ' σ H' → ExAt fs dd H' → W (.ref (G.ec c)) dd σ H'
  | .no => False
section
variable {α β : Type} {G : Ctx} {W : WX} {Fg : List Addr} {O : Own} {σ : L2.St} {K K' : β → RS → Hp → Prop} {H H1 : Hp}
theorem GP.imp {r : Rs β} (h : GP G W Fg O σ K H r) (k : ∀ b ρ' H', Ext (adr O) H H' → R G Fg O ρ' σ H' → K b ρ' H' → K' b ρ' H') : GP G W Fg O σ K' H r := by
  cases r with
  | ok b ρ' => exact fun H' e r => k b ρ' H' e r (h H' e r)
  | ex c fs ρ' => exact h
  | no => exact h
theorem GP.shift {r : Rs β} (h : GP G W Fg O σ K H r) (e : Ext (adr O) H H1) : GP G W Fg O σ K H1 r := by
  cases r with
  | ok b ρ' => exact fun H' e' r => h H' (e.trans' e') r
  | ex c fs ρ' => exact fun dd H' e' r => h dd H' (e.trans' e') r
  | no => exact h
theorem GP.bind {r : Rs α} {k : α → RS → Rs β} (h : GP G W Fg O σ K H (r.bind k)) : GP G W Fg O σ (fun a ρ1 H1 => GP G W Fg O σ K H1 (k a ρ1)) H r := by
  cases r with
  | ok a ρ' => exact fun H' e r => GP.shift h e
  | ex c fs ρ' => exact h
  | no => exact h
theorem GP.of {o : Option β} {ρ : RS} (h : GP G W Fg O σ K H (Rs.of o ρ)) : ∃ b, o = some b ∧ ∀ H', Ext (adr O) H H' → R G Fg O ρ σ H' → K b ρ H' := by
  cases o with
  | none => exact h.elim
  | some b => exact ⟨b, rfl, h⟩
end
/-- .. behind a statement -/
def SPo (G : Ctx) (W : WX) (Fg : List Addr) (O : Own) (H : Hp) (D : Ends) : Out → Prop
  | .nx ρ' => ∀ O' σ' H', Evo O H O' H' → R G Fg O' ρ' σ' H' → D.nx σ' H'
  | .rt d ρ' => ∀ O' σ' v H', Evo O H O' H' → R G Fg O' ρ' σ' H' → Rep G.K (adr O' ++ Fg) H' v d → D.rt v H'
  | .rto d ρ' => ∀ O' σ' v H', Evo O H O' H' → R G Fg O' ρ' σ' H' → Rep G.K Fg H' v d → D.rt v H'
  | .bk ρ' => ∀ O' σ' H', Evo O H O' H' → R G Fg O' ρ' σ' H' → D.bk σ' H'
  | .ct ρ' => ∀ O' σ' H', Evo O H O' H' → R G Fg O' ρ' σ' H' → D.ct σ' H'
  | .ex c fs ρ' => ∀ O' σ' dd H', Evo O H O' H' → R G Fg O' ρ' σ' H' → ExAt fs dd H' → W (.ref (G.ec c)) dd σ' H'
  | .no => False
section
variable {α : Type} {G : Ctx} {W : WX} {Fg : List Addr} {O O1 : Own} {σ : L2.St} {H H1 : Hp} {D D' : Ends}
theorem SPo.shift {o : Out} (h : SPo G W Fg O H D o) (e : Evo O H O1 H1) : SPo G W Fg O1 H1 D o := by
  cases o with
  | nx ρ' => exact fun O' σ' H' e' r => h O' σ' H' (e.trans e') r
  | rt d ρ' => exact fun O' σ' v H' e' r => h O' σ' v H' (e.trans e') r
  | rto d ρ' => exact fun O' σ' v H' e' r => h O' σ' v H' (e.trans e') r
  | bk ρ' => exact fun O' σ' H' e' r => h O' σ' H' (e.trans e') r
  | ct ρ' => exact fun O' σ' H' e' r => h O' σ' H' (e.trans e') r
  | ex c fs ρ' => exact fun O' σ' dd H' e' r => h O' σ' dd H' (e.trans e') r
  | no => exact h
theorem SPo.out {r : Rs α} {k : α → RS → Out} (h : SPo G W Fg O H D (r.out k)) : GP G W Fg O σ (fun a ρ1 H1 => SPo G W Fg O H1 D (k a ρ1)) H r := by
  cases r with
  | ok a ρ' => exact fun H' e r => h.shift e.evo
  | ex c fs ρ' => exact fun dd H' e r x => h O σ dd H' e.evo r x
  | no => exact h
end

/-! ### the judgements: over a family of contexts -/
section
variable {ι : Type} (X : ι → Cx) (G : Ctx) (W : WX)
structure DE (e : Expr) (f : RS → Rs PyData) : Prop where
  ex : ∃ t : TE, (∀ i, PE (X i) e t) ∧ ∀ Fg O ρ σ H Q, R G Fg O ρ σ H → GP G W Fg O σ (fun d _ H' => ∀ v, Rep G.K (adr O ++ Fg) H' v d → Q v H') H (f ρ) → t σ H Q
structure DT (e : Expr) (f : RS → Rs Bool) : Prop where
  ex : ∃ t : TT, (∀ i, PT (X i) e t) ∧ ∀ Fg O ρ σ H Q, R G Fg O ρ σ H → GP G W Fg O σ (fun b _ H' => Q b H') H (f ρ) → t σ H Q
/-- a test as a part of and, or -/
structure DW (e : Expr) (f : RS → Rs Bool) : Prop where
  ex : ∃ t : TT, (∀ i, PW (X i) e t) ∧ ∀ Fg O ρ σ H Q, R G Fg O ρ σ H → GP G W Fg O σ (fun b _ H' => Q b H') H (f ρ) → t σ H Q
structure DA (es : List Expr) (f : RS → Rs (List PyData)) : Prop where
  ex : ∃ t : TA, (∀ i, PA (X i) es t) ∧ ∀ Fg O ρ σ H Q, R G Fg O ρ σ H → GP G W Fg O σ (fun ds _ H' => ∀ vs, RepAll G.K (adr O ++ Fg) H' vs ds → Q vs H') H (f ρ) → t σ H Q
structure DS (st : Stmt) (f : RS → Out) : Prop where
  ex : ∃ t : TS, (∀ i, PS (X i) st t) ∧ ∀ Fg O ρ σ H D, R G Fg O ρ σ H → SPo G W Fg O H D (f ρ) → t D σ H
structure DSs (st : List Stmt) (f : RS → Out) : Prop where
  ex : ∃ t : TS, (∀ i, PSs (X i) st t) ∧ ∀ Fg O ρ σ H D, R G Fg O ρ σ H → SPo G W Fg O H D (f ρ) → t D σ H
/-- a target; vs: the slots that it sets -/
structure DG (tg : Expr) (vs : List Nat) (g : PyData → RS → Option RS) : Prop where
  ex : ∃ t : TG, (∀ i, PG (X i) tg t) ∧ ∀ Fg O ρ σ H v d ρ' Q, R G Fg O ρ σ H → Rep G.K (adr O ++ Fg) H v d → g d ρ = some ρ' →
    (∀ σ', R G Fg O ρ' σ' H → (∀ ws : List Nat, (∀ j ∈ vs, j ∈ ws) → wipe σ' ws = wipe σ ws) → Q σ' H) → t v σ H Q
structure DGs (tgs : List Expr) (vs : List Nat) (g : List PyData → RS → Option RS) : Prop where
  ex : ∃ t : TGs, (∀ i, PGs (X i) tgs t) ∧ ∀ Fg O ρ σ H us ds ρ' Q, R G Fg O ρ σ H → RepAll G.K (adr O ++ Fg) H us ds → g ds ρ = some ρ' →
    (∀ σ', R G Fg O ρ' σ' H → (∀ ws : List Nat, (∀ j ∈ vs, j ∈ ws) → wipe σ' ws = wipe σ ws) → Q σ' H) → t us σ H Q
end
/-- the items ds are walked by J, from the heap H on; A: what the items must not meet -/
def WalkD (G : Ctx) (B : List Addr) (H : Hp) (J : It) (ds : List PyData) : Prop := ∀ (S A : List Addr) (H' : Hp), Ext S H H' → (∀ a ∈ S, a ∈ B ∨ H a = none) → (∀ a ∈ A, a ∈ B ∨ H a = none) → ∀ i : Nat,
  (∀ d, ds[i]? = some d → J.go i H' ∧ ∀ x H'', J.yld i H' x H'' → Ext [] H' H'' ∧ Rep G.K A H'' x d) ∧ (ds.length ≤ i → J.stop i H')
structure DI {ι : Type} (X : ι → Cx) (G : Ctx) (W : WX) (tg iter : Expr) (f : RS → Rs (List PyData)) : Prop where
  ex : ∃ wi : TI, (∀ i, PI (X i) tg iter wi) ∧ ∀ Fg O ρ σ H Q, R G Fg O ρ σ H → GP G W Fg O σ (fun ds _ H' => ∀ J, WalkD G (adr O ++ Fg) H' J ds → Q J H') H (f ρ) → wi σ H Q
/-- what every context of the family has -/
structure Fam {ι : Type} (X : ι → Cx) (G : Ctx) (W : WX) (k : Nat) : Prop where
  K : ∀ i, (X i).K = G.K
  calm : ∀ i, (X i).calm = true
  takes : ∀ i, Takes (X i) W
  nd : ∀ i, (X i).N.Nodup
  room : ∀ i, Room k (X i).A

section
variable {ι : Type} {X : ι → Cx} {G : Ctx} {W : WX}
/-! ### names, constants -/
def eVar (i : Nat) : RS → Rs PyData := fun ρ => match ρ[i]? with
  | some (.d x) => .ok x ρ
  | _ => .no
theorem de_var (j : Nat) {x : Str} {pos : Pos} (hN : ∀ i, (X i).N[j]? = some x) (hv : ∀ i, Vis (X i).env.scope x) (hd : (x == ("__debug__" : Str)) = false := by decide) (hcd : (x == ("__classdict__" : Str)) = false := by decide) : DE X G W (.Name x pos) (eVar j) := by
  refine ⟨_, fun i => pe_var (hN i) (hv i) hd hcd, fun Fg O ρ σ H Q r h => ?_⟩
  unfold eVar at h
  split at h
  · rename_i d e
    obtain ⟨v, h1, h2⟩ := r.val j d e
    exact ⟨v, h1, h H .refl r v h2⟩
  · exact h.elim
def eC (d : PyData) : RS → Rs PyData := fun ρ => .ok d ρ
theorem de_int {n : Int} {j : Nat} {pos : Pos} : DE X G W (.Constant (.int n) j pos) (eC (.int n)) := ⟨_, fun _ => pe_int, fun Fg O ρ σ H Q r h => h H .refl r _ (.int n)⟩
theorem de_bl {b : Bool} {j : Nat} {pos : Pos} : DE X G W (.Constant (.bool b) j pos) (eC (.bool b)) := ⟨_, fun _ => pe_bl, fun Fg O ρ σ H Q r h => h H .refl r _ (.bl b)⟩
theorem de_non {j : Nat} {pos : Pos} : DE X G W (.Constant .none j pos) (eC .none) := ⟨_, fun _ => pe_non, fun Fg O ρ σ H Q r h => h H .refl r _ .non⟩
theorem de_str {x : Str} {j : Nat} {pos : Pos} : DE X G W (.Constant (.str x) j pos) (eC (.str x)) := ⟨_, fun _ => pe_str, fun Fg O ρ σ H Q r h => h H .refl r _ (.str x)⟩
/-- a flat constant of the module -/
theorem de_glob {x : Str} {d : PyData} {v : V} {u : Value} {pos : Pos} (hg : ∀ i, Gl (X i) x) (hm : ∀ i, (X i).mg x = some u) (r : RelV v u) (hr : ∀ A H, Rep G.K A H v d) (hd : (x == ("__debug__" : Str)) = false := by decide) : DE X G W (.Name x pos) (eC d) :=
  ⟨_, fun i => pe_glob (hg i) (hm i) r hd, fun Fg O ρ σ H Q r h => h H .refl r _ (hr _ _)⟩

/-! ### operators by their values -/
/-- r asks no more than the data give -/
def OpD (G : Ctx) (r : R2) (g : PyData → PyData → Option PyData) : Prop := ∀ (A : List Addr) (H : Hp) (x y : V) (dx dy d : PyData) (Q : VK), (∀ a ∈ A, ∃ xs, H a = some (.lst xs)) → Rep G.K A H x dx → Rep G.K A H y dy → g dx dy = some d →
  (∀ v H', Same H H' → Rep G.K A H' v d → Q v H') → r x y H Q
def eBin (g : PyData → PyData → Option PyData) (fa fb : RS → Rs PyData) : RS → Rs PyData := fun ρ => (fa ρ).bind fun x ρ1 => (fb ρ1).bind fun y ρ2 => Rs.of (g x y) ρ2
variable {a b c : Expr} {fa fb fc : RS → Rs PyData} {pos : Pos} {g : PyData → PyData → Option PyData}
theorem bin_law {ta tb : TE} {r : R2} (la : ∀ Fg O ρ σ H Q, R G Fg O ρ σ H → GP G W Fg O σ (fun d _ H' => ∀ v, Rep G.K (adr O ++ Fg) H' v d → Q v H') H (fa ρ) → ta σ H Q)
    (lb : ∀ Fg O ρ σ H Q, R G Fg O ρ σ H → GP G W Fg O σ (fun d _ H' => ∀ v, Rep G.K (adr O ++ Fg) H' v d → Q v H') H (fb ρ) → tb σ H Q) (ho : OpD G r g)
    {Fg : List Addr} {O : Own} {ρ : RS} {σ : L2.St} {H : Hp} {Q : VK} (r0 : R G Fg O ρ σ H) (h : GP G W Fg O σ (fun d _ H' => ∀ v, Rep G.K (adr O ++ Fg) H' v d → Q v H') H (eBin g fa fb ρ)) : tOp r ta tb σ H Q := by
  refine la Fg O ρ σ H _ r0 ((GP.bind h).imp fun x ρ1 H1 e1 r1 k1 v rv => ?_)
  refine lb Fg O ρ1 σ H1 _ r1 ((GP.bind k1).imp fun y ρ2 H2 e2 r2 k2 w rw' => ?_)
  obtain ⟨d, e, k⟩ := k2.of
  refine ho _ H2 v w x y d Q r2.all (rv.ext (fun a m => .inl (List.mem_append_left _ m)) e2 fun _ m => .inl m) rw' e fun z H3 s rz => ?_
  exact k H3 (.of_same s) (r2.ext0 (.of_same s)) z rz
theorem de_bin {op : Operator} {r : R2} (ho : ∀ i, OpR (X i) (binaryOp op) r) (od : OpD G r g) (ha : DE X G W a fa) (hb : DE X G W b fb) : DE X G W (.BinOp a op b pos) (eBin g fa fb) := by
  obtain ⟨ta, pa, la⟩ := ha
  obtain ⟨tb, pb, lb⟩ := hb
  exact ⟨_, fun i => pe_op (ho i) (pa i) (pb i), fun Fg O ρ σ H Q r0 h => bin_law la lb od r0 h⟩
theorem de_cmp {op : CmpOp} {r : R2} (ho : ∀ i, OpR (X i) (compareOp op) r) (od : OpD G r g) (ha : DE X G W a fa) (hb : DE X G W b fb) (hm : behindInMarks op b = false) : DE X G W (.Compare a [op] [b] pos) (eBin g fa fb) := by
  obtain ⟨ta, pa, la⟩ := ha
  obtain ⟨tb, pb, lb⟩ := hb
  exact ⟨_, fun i => pe_cmpR (ho i) (pa i) (pb i) hm, fun Fg O ρ σ H Q r0 h => bin_law la lb od r0 h⟩
/-- a datum that is a bool -/
def asB : PyData → Option Bool
  | .bool b => some b
  | _ => none
theorem asB_some {d : PyData} {b : Bool} (h : asB d = some b) : d = .bool b := by
  cases d <;> simp [asB] at h
  subst h; rfl
theorem rep_bl {K : PySem.W.Frag} {A : List Addr} {H : Hp} {v : V} {b : Bool} (h : Rep K A H v (.bool b)) : v = .bl b := by cases h; rfl
/-- a value that is a bool, as a test -/
def tV (f : RS → Rs PyData) : RS → Rs Bool := fun ρ => (f ρ).bind fun d ρ1 => Rs.of (asB d) ρ1
theorem tv_law {t : TE} (la : ∀ Fg O ρ σ H Q, R G Fg O ρ σ H → GP G W Fg O σ (fun d _ H' => ∀ v, Rep G.K (adr O ++ Fg) H' v d → Q v H') H (fa ρ) → t σ H Q)
    {Fg : List Addr} {O : Own} {ρ : RS} {σ : L2.St} {H : Hp} {Q : Bool → Hp → Prop} (r0 : R G Fg O ρ σ H) (h : GP G W Fg O σ (fun b _ H' => Q b H') H (tV fa ρ)) : t σ H fun x H' => ∃ k, x = .bl k ∧ Q k H' := by
  refine la Fg O ρ σ H _ r0 ((GP.bind h).imp fun d ρ1 H1 e1 r1 k1 v rv => ?_)
  obtain ⟨b, e, k⟩ := k1.of
  rw [asB_some e] at rv
  exact ⟨b, rep_bl rv, k H1 .refl r1⟩
theorem dt_val (ha : DE X G W a fa) (he : ∀ i whole, isTrue a (X i).env whole = (do let v ← whole; standAt a.pos; holding [v] (truthy v)) := by intro _ _; rfl) : DT X G W a (tV fa) := by
  obtain ⟨ta, pa, la⟩ := ha
  exact ⟨_, fun i => pt_val (pa i) (he i), fun Fg O ρ σ H Q r0 h => tv_law la r0 h⟩
theorem dt_cmp {op : CmpOp} {r : R2} (ho : ∀ i, OpR (X i) (compareOp op) r) (od : OpD G r g) (ha : DE X G W a fa) (hb : DE X G W b fb) (hm : behindInMarks op b = false) : DT X G W (.Compare a [op] [b] pos) (tV (eBin g fa fb)) := by
  obtain ⟨ta, pa, la⟩ := ha
  obtain ⟨tb, pb, lb⟩ := hb
  exact ⟨_, fun i => pt_cmpR (ho i) (pa i) (pb i) hm, fun Fg O ρ σ H Q r0 h => tv_law (fun Fg O ρ σ H Q r0 h => bin_law la lb od r0 h) r0 h⟩
/-- two comparisons in a chain -/
def eChain (g g' : PyData → PyData → Option PyData) (fa fb fc : RS → Rs PyData) : RS → Rs PyData := fun ρ => (fa ρ).bind fun x ρ1 => (fb ρ1).bind fun y ρ2 => (Rs.of (g x y) ρ2).bind fun z ρ3 => match z with
  | .bool true => (fc ρ3).bind fun w ρ4 => Rs.of (g' y w) ρ4
  | .bool false => .ok (.bool false) ρ3
  | _ => .no
theorem chain_law {g' : PyData → PyData → Option PyData} {ta tb tc : TE} {r r' : R2} (la : ∀ Fg O ρ σ H Q, R G Fg O ρ σ H → GP G W Fg O σ (fun d _ H' => ∀ v, Rep G.K (adr O ++ Fg) H' v d → Q v H') H (fa ρ) → ta σ H Q)
    (lb : ∀ Fg O ρ σ H Q, R G Fg O ρ σ H → GP G W Fg O σ (fun d _ H' => ∀ v, Rep G.K (adr O ++ Fg) H' v d → Q v H') H (fb ρ) → tb σ H Q)
    (lc : ∀ Fg O ρ σ H Q, R G Fg O ρ σ H → GP G W Fg O σ (fun d _ H' => ∀ v, Rep G.K (adr O ++ Fg) H' v d → Q v H') H (fc ρ) → tc σ H Q) (ho : OpD G r g) (ho' : OpD G r' g')
    {Fg : List Addr} {O : Own} {ρ : RS} {σ : L2.St} {H : Hp} {Q : VK} (r0 : R G Fg O ρ σ H) (h : GP G W Fg O σ (fun d _ H' => ∀ v, Rep G.K (adr O ++ Fg) H' v d → Q v H') H (eChain g g' fa fb fc ρ)) : tChain r r' ta tb tc σ H Q := by
  have into : ∀ {H1 H2 : Hp}, Ext (adr O) H1 H2 → ∀ {v d}, Rep G.K (adr O ++ Fg) H1 v d → Rep G.K (adr O ++ Fg) H2 v d := fun {H1 H2} e {v d} rv => rv.ext (fun a m => .inl (List.mem_append_left _ m)) e fun _ m => .inl m
  refine la Fg O ρ σ H _ r0 ((GP.bind h).imp fun x ρ1 H1 e1 r1 k1 v rv => ?_)
  refine lb Fg O ρ1 σ H1 _ r1 ((GP.bind k1).imp fun y ρ2 H2 e2 r2 k2 w rw' => ?_)
  cases e : g x y with
  | none => rw [e] at k2; exact k2.elim
  | some z =>
    rw [e] at k2
    refine ho _ H2 v w x y z _ r2.all (into e2 rv) rw' e fun z' H3 s rz => ?_
    have r3 : R G Fg O ρ2 σ H3 := r2.ext0 (.of_same s)
    have rw3 := into (Ext.of_same s) rw'
    cases z with
    | bool q =>
      cases q with
      | false =>
        refine ⟨false, rep_bl rz, ?_⟩
        rw [if_neg Bool.false_ne_true]
        exact k2 H3 (.of_same s) r3 _ (.bl false)
      | true =>
        refine ⟨true, rep_bl rz, ?_⟩
        rw [if_pos rfl]
        have k3 : GP G W Fg O σ _ H2 ((fc ρ2).bind fun w ρ4 => Rs.of (g' y w) ρ4) := k2
        refine lc Fg O ρ2 σ H3 _ r3 ((GP.bind (k3.shift (.of_same s))).imp fun u ρ4 H4 e4 r4 k4 u' ru => ?_)
        obtain ⟨d, e, k⟩ := k4.of
        exact ho' _ H4 w u' y u d Q r4.all (into e4 rw3) ru e fun z H5 s5 rz => k H5 (.of_same s5) (r4.ext0 (.of_same s5)) z rz
    | _ => exact k2.elim
theorem de_chain {g' : PyData → PyData → Option PyData} {op op' : CmpOp} {r r' : R2} (ho : ∀ i, OpR (X i) (compareOp op) r) (ho' : ∀ i, OpR (X i) (compareOp op') r') (od : OpD G r g) (od' : OpD G r' g') (ha : DE X G W a fa) (hb : DE X G W b fb) (hc : DE X G W c fc)
    (hm : lastMarks [op, op'] [b, c] = false := by with_unfolding_all rfl) : DE X G W (.Compare a [op, op'] [b, c] pos) (eChain g g' fa fb fc) := by
  obtain ⟨ta, pa, la⟩ := ha
  obtain ⟨tb, pb, lb⟩ := hb
  obtain ⟨tc, pc, lc⟩ := hc
  exact ⟨_, fun i => pe_chain (ho i) (ho' i) (pa i) (pb i) (pc i) hm, fun Fg O ρ σ H Q r0 h => chain_law la lb lc od od' r0 h⟩
theorem dt_chain {g' : PyData → PyData → Option PyData} {op op' : CmpOp} {r r' : R2} (ho : ∀ i, OpR (X i) (compareOp op) r) (ho' : ∀ i, OpR (X i) (compareOp op') r') (od : OpD G r g) (od' : OpD G r' g') (ha : DE X G W a fa) (hb : DE X G W b fb) (hc : DE X G W c fc)
    (hm : lastMarks [op, op'] [b, c] = false := by with_unfolding_all rfl) : DT X G W (.Compare a [op, op'] [b, c] pos) (tV (eChain g g' fa fb fc)) := by
  obtain ⟨ta, pa, la⟩ := ha
  obtain ⟨tb, pb, lb⟩ := hb
  obtain ⟨tc, pc, lc⟩ := hc
  exact ⟨_, fun i => pt_chain (ho i) (ho' i) (pa i) (pb i) (pc i) hm, fun Fg O ρ σ H Q r0 h => tv_law (fun Fg O ρ σ H Q r0 h => chain_law la lb lc od od' r0 h) r0 h⟩

/-! ### and, or, not, if -/
variable {tfa tfb : RS → Rs Bool} {rest : List Expr}
def tNotD (f : RS → Rs Bool) : RS → Rs Bool := fun ρ => (f ρ).bind fun b ρ1 => .ok (!b) ρ1
theorem dt_not (ha : DT X G W a tfa) : DT X G W (.UnaryOp .Not a pos) (tNotD tfa) := by
  obtain ⟨t, p, l⟩ := ha
  exact ⟨_, fun i => pt_not (p i), fun Fg O ρ σ H Q r0 h => l Fg O ρ σ H _ r0 ((GP.bind h).imp fun b ρ1 H1 e1 r1 k => k H1 .refl r1)⟩
def tAndD (f g : RS → Rs Bool) : RS → Rs Bool := fun ρ => (f ρ).bind fun b ρ1 => if b then g ρ1 else .ok false ρ1
def tOrD (f g : RS → Rs Bool) : RS → Rs Bool := fun ρ => (f ρ).bind fun b ρ1 => if b then .ok true ρ1 else g ρ1
theorem dw_and1 (ha : DT X G W a tfa) : DW X G W (.BoolOp .And [a] pos) tfa := by
  obtain ⟨t, p, l⟩ := ha
  exact ⟨_, fun i => pw_and1 (p i), l⟩
theorem dw_or1 (ha : DT X G W a tfa) : DW X G W (.BoolOp .Or [a] pos) tfa := by
  obtain ⟨t, p, l⟩ := ha
  exact ⟨_, fun i => pw_or1 (p i), l⟩
theorem dw_and (ha : DT X G W a tfa) (hb : DW X G W (.BoolOp .And (b :: rest) pos) tfb) : DW X G W (.BoolOp .And (a :: b :: rest) pos) (tAndD tfa tfb) := by
  obtain ⟨t, p, l⟩ := ha
  obtain ⟨t2, p2, l2⟩ := hb
  refine ⟨_, fun i => pw_and (p i) (p2 i), fun Fg O ρ σ H Q r0 h => l Fg O ρ σ H _ r0 ((GP.bind h).imp fun b ρ1 H1 e1 r1 k => ?_)⟩
  cases b with
  | true => exact ite_tt (l2 Fg O ρ1 σ H1 Q r1 k)
  | false => exact ite_ff (k H1 .refl r1)
theorem dw_or (ha : DT X G W a tfa) (hb : DW X G W (.BoolOp .Or (b :: rest) pos) tfb) : DW X G W (.BoolOp .Or (a :: b :: rest) pos) (tOrD tfa tfb) := by
  obtain ⟨t, p, l⟩ := ha
  obtain ⟨t2, p2, l2⟩ := hb
  refine ⟨_, fun i => pw_or (p i) (p2 i), fun Fg O ρ σ H Q r0 h => l Fg O ρ σ H _ r0 ((GP.bind h).imp fun b ρ1 H1 e1 r1 k => ?_)⟩
  cases b with
  | true => exact ite_tt (k H1 .refl r1)
  | false => exact ite_ff (l2 Fg O ρ1 σ H1 Q r1 k)
theorem DW.dt (h : DW X G W a tfa) : DT X G W a tfa := by
  obtain ⟨t, p, l⟩ := h
  exact ⟨t, fun i => (p i).pt, l⟩
/-- as values: all but the last are bools -/
def eAndD (f g : RS → Rs PyData) : RS → Rs PyData := fun ρ => (f ρ).bind fun d ρ1 => match d with
  | .bool true => g ρ1
  | .bool false => .ok (.bool false) ρ1
  | _ => .no
def eOrD (f g : RS → Rs PyData) : RS → Rs PyData := fun ρ => (f ρ).bind fun d ρ1 => match d with
  | .bool true => .ok (.bool true) ρ1
  | .bool false => g ρ1
  | _ => .no
theorem de_one {op : BoolOp} (ha : DE X G W a fa) : DE X G W (.BoolOp op [a] pos) fa := by
  obtain ⟨t, p, l⟩ := ha
  exact ⟨_, fun i => pe_one (p i), l⟩
theorem de_and (ha : DE X G W a fa) (hb : DE X G W (.BoolOp .And (b :: rest) pos) fb) : DE X G W (.BoolOp .And (a :: b :: rest) pos) (eAndD fa fb) := by
  obtain ⟨t, p, l⟩ := ha
  obtain ⟨t2, p2, l2⟩ := hb
  refine ⟨_, fun i => pe_and (p i) (p2 i), fun Fg O ρ σ H Q r0 h => l Fg O ρ σ H _ r0 ((GP.bind h).imp fun d ρ1 H1 e1 r1 k v rv => ?_)⟩
  cases d with
  | bool b =>
    refine ⟨b, rep_bl rv, ?_⟩
    cases b with
    | true => exact ite_tt (l2 Fg O ρ1 σ H1 Q r1 k)
    | false => exact ite_ff (k H1 .refl r1 _ (.bl false))
  | _ => exact k.elim
theorem de_or (ha : DE X G W a fa) (hb : DE X G W (.BoolOp .Or (b :: rest) pos) fb) : DE X G W (.BoolOp .Or (a :: b :: rest) pos) (eOrD fa fb) := by
  obtain ⟨t, p, l⟩ := ha
  obtain ⟨t2, p2, l2⟩ := hb
  refine ⟨_, fun i => pe_or (p i) (p2 i), fun Fg O ρ σ H Q r0 h => l Fg O ρ σ H _ r0 ((GP.bind h).imp fun d ρ1 H1 e1 r1 k v rv => ?_)⟩
  cases d with
  | bool b =>
    refine ⟨b, rep_bl rv, ?_⟩
    cases b with
    | true => exact ite_tt (k H1 .refl r1 _ (.bl true))
    | false => exact ite_ff (l2 Fg O ρ1 σ H1 Q r1 k)
  | _ => exact k.elim
def eNotD (f : RS → Rs PyData) : RS → Rs PyData := fun ρ => (f ρ).bind fun d ρ1 => match d with
  | .bool b => .ok (.bool (!b)) ρ1
  | _ => .no
theorem de_not (ha : DE X G W a fa) : DE X G W (.UnaryOp .Not a pos) (eNotD fa) := by
  obtain ⟨t, p, l⟩ := ha
  refine ⟨_, fun i => pe_not (p i), fun Fg O ρ σ H Q r0 h => l Fg O ρ σ H _ r0 ((GP.bind h).imp fun d ρ1 H1 e1 r1 k v rv => ?_)⟩
  cases d with
  | bool b => exact ⟨b, rep_bl rv, k H1 .refl r1 _ (.bl _)⟩
  | _ => exact k.elim
def eIfD (c : RS → Rs Bool) (f g : RS → Rs PyData) : RS → Rs PyData := fun ρ => (c ρ).bind fun b ρ1 => if b then f ρ1 else g ρ1
theorem de_if (hc : DT X G W c tfa) (ha : DE X G W a fa) (hb : DE X G W b fb) : DE X G W (.IfExp c a b pos) (eIfD tfa fa fb) := by
  obtain ⟨t, p, l⟩ := hc
  obtain ⟨t1, p1, l1⟩ := ha
  obtain ⟨t2, p2, l2⟩ := hb
  refine ⟨_, fun i => pe_ifExp (p i) (p1 i) (p2 i), fun Fg O ρ σ H Q r0 h => l Fg O ρ σ H _ r0 ((GP.bind h).imp fun b ρ1 H1 e1 r1 k => ?_)⟩
  cases b with
  | true => exact ite_tt (l1 Fg O ρ1 σ H1 Q r1 k)
  | false => exact ite_ff (l2 Fg O ρ1 σ H1 Q r1 k)

/-! ### argument lists, displays, built-ins by their values -/
variable {e : Expr} {es : List Expr} {fe : RS → Rs PyData} {fs : RS → Rs (List PyData)}
def aNilD : RS → Rs (List PyData) := fun ρ => .ok [] ρ
def aConsD (f : RS → Rs PyData) (g : RS → Rs (List PyData)) : RS → Rs (List PyData) := fun ρ => (f ρ).bind fun d ρ1 => (g ρ1).bind fun ds ρ2 => .ok (d :: ds) ρ2
theorem da_nil : DA X G W [] aNilD := ⟨_, fun _ => pa_nil, fun Fg O ρ σ H Q r h => h H .refl r _ .nil⟩
theorem da_cons (ha : DE X G W e fe) (hr : DA X G W es fs) (hs : ∀ i, starEach (e :: es) (X i).env = (false, eval e (X i).env) :: starEach es (X i).env := by intro _; rfl) : DA X G W (e :: es) (aConsD fe fs) := by
  obtain ⟨t, p, l⟩ := ha
  obtain ⟨t2, p2, l2⟩ := hr
  refine ⟨_, fun i => pa_cons (p i) (p2 i) (hs i), fun Fg O ρ σ H Q r0 h => l Fg O ρ σ H _ r0 ((GP.bind h).imp fun d ρ1 H1 e1 r1 k v rv => ?_)⟩
  refine l2 Fg O ρ1 σ H1 _ r1 ((GP.bind k).imp fun ds ρ2 H2 e2 r2 k2 vs rvs => ?_)
  exact k2 H2 .refl r2 _ (.cons (rv.ext (fun a m => .inl (List.mem_append_left _ m)) e2 fun _ m => .inl m) rvs)
theorem fresh_not {A : List Addr} {H : Hp} {p : Addr} (ha : ∀ a ∈ A, ∃ xs, H a = some (.lst xs)) (h : H p = none) : p ∉ A := fun m => by
  obtain ⟨xs, e⟩ := ha p m
  rw [h] at e; cases e
theorem rep_new {K : PySem.W.Frag} {A : List Addr} {H : Hp} {p : Addr} {u : HO} {vs : List V} {ds : List PyData} (r : RepAll K A H vs ds) (h : H p = none) : RepAll K A (upd H p u) vs ds :=
  r.ext (O := []) (by simp) (ext_new h) fun _ m => .inl m
def eTupD (f : RS → Rs (List PyData)) : RS → Rs PyData := fun ρ => (f ρ).bind fun ds ρ1 => if ds.length ≤ sizeLine then .ok (.tuple ds) ρ1 else .no
def eLstD (f : RS → Rs (List PyData)) : RS → Rs PyData := fun ρ => (f ρ).bind fun ds ρ1 => if ds.length ≤ sizeLine then .ok (.list ds) ρ1 else .no
theorem de_tup {x1} (h : DA X G W es fs) : DE X G W (.Tuple es x1 pos) (eTupD fs) := by
  obtain ⟨t, p, l⟩ := h
  refine ⟨_, fun i => pe_tup (p i), fun Fg O ρ σ H Q r0 h => l Fg O ρ σ H _ r0 ((GP.bind h).imp fun ds ρ1 H1 e1 r1 k vs rv => ?_)⟩
  by_cases hl : ds.length ≤ sizeLine
  · rw [if_pos hl] at k
    exact ⟨by rw [rv.length]; exact hl, fun p hp => k _ (ext_new hp) (r1.ext0 (ext_new hp)) _ (.tup (.inl (.inl upd_same)) (rep_new rv hp))⟩
  · rw [if_neg hl] at k
    exact k.elim
theorem de_lst (h : DA X G W es fs) : DE X G W (.List es pos) (eLstD fs) := by
  obtain ⟨t, p, l⟩ := h
  refine ⟨_, fun i => pe_lst (p i), fun Fg O ρ σ H Q r0 h => l Fg O ρ σ H _ r0 ((GP.bind h).imp fun ds ρ1 H1 e1 r1 k vs rv => ?_)⟩
  by_cases hl : ds.length ≤ sizeLine
  · rw [if_pos hl] at k
    exact ⟨by rw [rv.length]; exact hl, fun p hp => k _ (ext_new hp) (r1.ext0 (ext_new hp)) _ (.lst upd_same (fresh_not r1.all hp) (rep_new rv hp))⟩
  · rw [if_neg hl] at k
    exact k.elim
/-- a call by its values -/
def CallD (G : Ctx) (r : List V → Hp → VK → Prop) (g : List PyData → Option PyData) : Prop := ∀ (A : List Addr) (H : Hp) (xs : List V) (ds : List PyData) (d : PyData) (Q : VK), (∀ a ∈ A, ∃ xs, H a = some (.lst xs)) → RepAll G.K A H xs ds → g ds = some d →
  (∀ v H', Same H H' → Rep G.K A H' v d → Q v H') → r xs H Q
def eCall (g : List PyData → Option PyData) (f : RS → Rs (List PyData)) : RS → Rs PyData := fun ρ => (f ρ).bind fun ds ρ1 => Rs.of (g ds) ρ1
variable {g1 : List PyData → Option PyData} {x : Str} {p : Pos}
theorem callB_law {t : TA} {r : List V → Hp → VK → Prop} (od : CallD G r g1) (l : ∀ Fg O ρ σ H Q, R G Fg O ρ σ H → GP G W Fg O σ (fun ds _ H' => ∀ vs, RepAll G.K (adr O ++ Fg) H' vs ds → Q vs H') H (fs ρ) → t σ H Q)
    {Fg : List Addr} {O : Own} {ρ : RS} {σ : L2.St} {H : Hp} {Q : VK} (r0 : R G Fg O ρ σ H) (h : GP G W Fg O σ (fun d _ H' => ∀ v, Rep G.K (adr O ++ Fg) H' v d → Q v H') H (eCall g1 fs ρ)) : tCB r t σ H Q := by
  refine l Fg O ρ σ H _ r0 ((GP.bind h).imp fun ds ρ1 H1 e1 r1 k1 vs rv => ?_)
  obtain ⟨d, e, k⟩ := k1.of
  exact od _ H1 vs ds d Q r1.all rv e fun z H3 s rz => k H3 (.of_same s) (r1.ext0 (.of_same s)) z rz
theorem de_callB {id : String} {r : List V → Hp → VK → Prop} (hc : ∀ i, CallR (X i) (.builtin id) r) (od : CallD G r g1) (hg : ∀ i, Gl (X i) x) (hm : ∀ i, (X i).mg x = none) (hv : bootBuiltins x = some (.builtin id)) (ha : DA X G W (e :: es) fs)
    (hn : x ≠ "__name__" := by decide) (hdb : (x == ("__debug__" : Str)) = false := by decide) (he : ∀ i, starEach (e :: es) (X i).env = (false, eval e (X i).env) :: starEach es (X i).env := by intro _; rfl) (hpl : ∀ i, (backTo pos (starEach es (X i).env)).any (·.1) = false := by intro _; rfl) :
    DE X G W (.Call (.Name x p) (e :: es) [] pos) (eCall g1 fs) := by
  obtain ⟨t, pa, l⟩ := ha
  exact ⟨_, fun i => pe_callB (hc i) (hg i) (hm i) hv (pa i) hn hdb (he i) (hpl i), fun Fg O ρ σ H Q r0 h => callB_law od l r0 h⟩
theorem de_callTy {T : String} {r : List V → Hp → VK → Prop} (hc : ∀ i, CallR (X i) (.type T) r) (od : CallD G r g1) (hg : ∀ i, Gl (X i) x) (hm : ∀ i, (X i).mg x = none) (hv : bootBuiltins x = some (.type T)) (ha : DA X G W (e :: es) fs)
    (hn : x ≠ "__name__" := by decide) (hdb : (x == ("__debug__" : Str)) = false := by decide) (he : ∀ i, starEach (e :: es) (X i).env = (false, eval e (X i).env) :: starEach es (X i).env := by intro _; rfl) (hpl : ∀ i, (backTo pos (starEach es (X i).env)).any (·.1) = false := by intro _; rfl) :
    DE X G W (.Call (.Name x p) (e :: es) [] pos) (eCall g1 fs) := by
  obtain ⟨t, pa, l⟩ := ha
  exact ⟨_, fun i => pe_callTy (hc i) (hg i) (hm i) hv (pa i) hn hdb (he i) (hpl i), fun Fg O ρ σ H Q r0 h => callB_law od l r0 h⟩
/-- a subscript -/
theorem de_ix {r : R2} (ho : ∀ i, IxR (X i) r) (od : OpD G r g) (ha : DE X G W a fa) (hb : DE X G W b fb) (hs : PlainIx b := by intro _ _; rfl) : DE X G W (.Subscript a b pos) (eBin g fa fb) := by
  obtain ⟨ta, pa, la⟩ := ha
  obtain ⟨tb, pb, lb⟩ := hb
  exact ⟨_, fun i => pe_ix (ho i) (pa i) (pb i) hs, fun Fg O ρ σ H Q r0 h => bin_law la lb od r0 h⟩
end
end DL

-- text DL3
set_option Elab.async false
set_option linter.all false
set_option maxRecDepth 100000
set_option maxHeartbeats 2000000
namespace DL
open PySem PySem.Spec PyProof.Rows L2 GxR

theorem wipe_set_in {σ : L2.St} {i : Nat} {x : Option V} : ∀ {ws : List Nat}, i ∈ ws → wipe (σ.set i x) ws = wipe σ ws
  | [], h => by simp at h
  | v :: ws, h => by
    show (wipe (σ.set i x) ws).set v none = (wipe σ ws).set v none
    by_cases hm : i ∈ ws
    · rw [wipe_set_in hm]
    · have hv : i = v := by
        rcases List.mem_cons.mp h with z | z
        · exact z
        · exact (hm z).elim
      subst hv
      rw [wipe_set_out hm, List.set_set]
where wipe_set_out {σ : L2.St} {i : Nat} {x : Option V} : ∀ {ws : List Nat}, i ∉ ws → wipe (σ.set i x) ws = (wipe σ ws).set i x
  | [], _ => rfl
  | v :: ws, h => by
    show (wipe (σ.set i x) ws).set v none = ((wipe σ ws).set v none).set i x
    rw [wipe_set_out (fun m => h (List.mem_cons_of_mem _ m)), List.set_comm]
    intro z
    subst z
    exact h List.mem_cons_self

/-- the slots vs forgotten -/
def rwipe (ρ : RS) : List Nat → RS
  | [] => ρ
  | v :: vs => (rwipe ρ vs).set v Sl.n
def noOwn (ρ : RS) (i : Nat) : Bool := match ρ[i]? with
  | some (.o _) => false
  | _ => true
theorem noOwn_ok {ρ : RS} {i : Nat} (h : noOwn ρ i = true) : NoOwn ρ i := fun xs e => by
  unfold noOwn at h
  rw [e] at h
  cases h
theorem rwipe_own {ρ : RS} {i : Nat} {xs : List PyData} : ∀ {vs : List Nat}, (rwipe ρ vs)[i]? = some (Sl.o xs) → ρ[i]? = some (Sl.o xs)
  | [], h => h
  | v :: vs, h => by
    rcases get_set_d h with ⟨_, e⟩ | ⟨_, e⟩
    · cases e
    · exact rwipe_own e
section
variable {G : Ctx} {W : WX} {Fg : List Addr} {O : Own} {ρ : RS} {σ : L2.St} {H : Hp}
theorem R.wipe (r : R G Fg O ρ σ H) : ∀ (vs : List Nat), (∀ i ∈ vs, NoOwn ρ i) → R G Fg O (rwipe ρ vs) (L2.wipe σ vs) H
  | [], _ => r
  | v :: vs, h => (R.wipe r vs fun i m => h i (List.mem_cons_of_mem _ m)).unset fun xs e => h v List.mem_cons_self xs (rwipe_own e)
/-- back from a block: its own slots are not known -/
theorem R.unwipe {vs : List Nat} {σ' : L2.St} (r : R G Fg O ρ σ' H) (e : L2.wipe σ' vs = L2.wipe σ vs) (hl : σ'.length = σ.length) (h : ∀ i ∈ vs, NoOwn ρ i) : R G Fg O (rwipe ρ vs) σ H := by
  have r2 := r.wipe vs h
  rw [e] at r2
  refine ⟨by rw [← r2.len, wipe_length], fun i x q => ?_, fun i xs q => ?_, r2.key, r2.inj, r2.fg, r2.occ, r2.tabs, r2.all⟩
  · obtain ⟨v, h1, h2⟩ := r2.val i x q
    exact ⟨v, (wipe_some h1).1, h2⟩
  · obtain ⟨a, ws, h0, h1, h2⟩ := r2.own i xs q
    exact ⟨a, ws, h0, (wipe_some h1).1, h2⟩
end

/-! ### targets -/
section
variable {ι : Type} {X : ι → Cx} {G : Ctx} {W : WX} {k : Nat}
def setD (i : Nat) (d : PyData) (ρ : RS) : Option RS := if noOwn ρ i then some (ρ.set i (Sl.d d)) else none
theorem dg_name {j : Nat} {x : Str} {pos : Pos} (F : Fam X G W k) (hi : ∀ i, (X i).N[j]? = some x) (hx : ∀ i, Loc (X i).env.scope x) (hf : ∀ i, (X i).fn x = true ∨ (X i).env.scope.names.lookup x = some .local) : DG X G (.Name x pos) [j] (setD j) := by
  refine ⟨_, fun i => pg_name (F.nd i) (hi i) (hx i) (hf i), fun Fg O ρ σ H v d ρ' Q r rv e h => ?_⟩
  unfold setD at e
  by_cases hn : noOwn ρ j = true
  · rw [if_pos hn] at e
    cases e
    exact h _ (r.set (noOwn_ok hn) rv) fun ws m => wipe_set_in (m j (List.mem_singleton.mpr rfl))
  · rw [if_neg hn] at e; cases e
def setNil (ds : List PyData) (ρ : RS) : Option RS := match ds with
  | [] => some ρ
  | _ => none
def setCons (g : PyData → RS → Option RS) (gs : List PyData → RS → Option RS) (ds : List PyData) (ρ : RS) : Option RS := match ds with
  | d :: ds => (g d ρ).bind (gs ds)
  | [] => none
theorem dgs_nil : DGs X G [] [] setNil := by
  refine ⟨_, fun _ => pgs_nil, fun Fg O ρ σ H us ds ρ' Q r ru e h => ?_⟩
  cases ru with
  | nil =>
    cases e
    exact ⟨rfl, h _ r fun ws _ => rfl⟩
  | cons _ _ => cases e
theorem dgs_cons {e : Expr} {es : List Expr} {vs ws : List Nat} {g : PyData → RS → Option RS} {gs : List PyData → RS → Option RS} (h1 : DG X G e vs g) (h2 : DGs X G es ws gs)
    (hs : ∀ i, (assignEach (e :: es) (X i).env).map (·.2) = assign e (X i).env :: (assignEach es (X i).env).map (·.2) := by intro _; rfl) : DGs X G (e :: es) (vs ++ ws) (setCons g gs) := by
  obtain ⟨t1, p1, l1⟩ := h1
  obtain ⟨t2, p2, l2⟩ := h2
  refine ⟨_, fun i => pgs_cons (p1 i) (p2 i) (hs i), fun Fg O ρ σ H us ds ρ' Q r ru e h => ?_⟩
  cases ru with
  | nil => cases e
  | cons rv ru =>
    obtain ⟨ρ1, e1, e2⟩ := Option.bind_eq_some_iff.mp e
    refine ⟨_, _, rfl, l1 Fg O ρ σ H _ _ ρ1 _ r rv e1 fun σ1 r1 w1 => l2 Fg O ρ1 σ1 H _ _ ρ' _ r1 ru e2 fun σ2 r2 w2 => h σ2 r2 fun us m => ?_⟩
    rw [w2 us fun j hj => m j (List.mem_append_right _ hj), w1 us fun j hj => m j (List.mem_append_left _ hj)]
def setTup (n : Nat) (gs : List PyData → RS → Option RS) (d : PyData) (ρ : RS) : Option RS := match d with
  | .tuple ds => if ds.length = n then gs ds ρ else none
  | _ => none
theorem dg_tup {es : List Expr} {kk : Nat} {pos : Pos} {vs : List Nat} {gs : List PyData → RS → Option RS} {n : Nat} (F : Fam X G W k) (h : DGs X G es vs gs)
    (hn : ∀ i, (assignEach es (X i).env).length = n := by intro _; rfl) (hst : ∀ i, (assignEach es (X i).env).findIdx? (·.1) = none := by intro _; rfl) : DG X G (.Tuple es kk pos) vs (setTup n gs) := by
  obtain ⟨t, p, l⟩ := h
  refine ⟨gTup G.K n t, fun i => ?_, fun Fg O ρ σ H v d ρ' Q r rv e h => ?_⟩
  · rw [← F.K i]
    exact pg_tup (F.calm i) (p i) (hn i) (hst i)
  · cases rv with
    | tup q rs =>
      unfold setTup at e
      simp only at e
      split at e
      · rename_i hl
        exact ⟨_, _, rfl, q, by rw [rs.length]; exact hl, l Fg O ρ σ H _ _ ρ' Q r rs e h⟩
      · cases e
    | _ => cases e

/-! ### statements -/
def sNil : RS → Out := fun ρ => .nx ρ
def sThen (f g : RS → Out) : RS → Out := fun ρ => match f ρ with
  | .nx ρ1 => g ρ1
  | o => o
variable {st : Stmt} {rest : List Stmt} {f g : RS → Out} {e : Expr} {fe : RS → Rs PyData} {pos : Pos}
theorem dss_nil : DSs X G W [] sNil := ⟨_, fun _ => pss_nil, fun Fg O ρ σ H D r h => h O σ H .refl r⟩
theorem then_law {t u : TS} (l1 : ∀ Fg O ρ σ H D, R G Fg O ρ σ H → SPo G W Fg O H D (f ρ) → t D σ H) (l2 : ∀ Fg O ρ σ H D, R G Fg O ρ σ H → SPo G W Fg O H D (g ρ) → u D σ H)
    {Fg : List Addr} {O : Own} {ρ : RS} {σ : L2.St} {H : Hp} {D : Ends} (r : R G Fg O ρ σ H) (h : SPo G W Fg O H D (sThen f g ρ)) : tSeq t u D σ H := by
  refine l1 Fg O ρ σ H _ r ?_
  unfold sThen at h
  cases q : f ρ with
  | nx ρ1 =>
    rw [q] at h
    exact fun O' σ' H' e' r' => l2 Fg O' ρ1 σ' H' D r' (h.shift e')
  | rt d ρ1 => rw [q] at h; exact h
  | rto d ρ1 => rw [q] at h; exact h
  | bk ρ1 => rw [q] at h; exact h
  | ct ρ1 => rw [q] at h; exact h
  | ex c fs ρ1 => rw [q] at h; exact h
  | no => rw [q] at h; exact h
theorem dss_cons (h1 : DS X G W st f) (h2 : DSs X G W rest g) : DSs X G W (st :: rest) (sThen f g) := by
  obtain ⟨t1, p1, l1⟩ := h1
  obtain ⟨t2, p2, l2⟩ := h2
  exact ⟨_, fun i => pss_cons (p1 i) (p2 i), fun Fg O ρ σ H D r h => then_law l1 l2 r h⟩
theorem dss_one (h1 : DS X G W st f) : DSs X G W [st] f := by
  obtain ⟨t1, p1, l1⟩ := h1
  exact ⟨_, fun i => pss_one (p1 i), l1⟩
def sNo : RS → Out := fun _ => .no
theorem ds_never : DS X G W st sNo := ⟨_, fun _ => ps_never, fun Fg O ρ σ H D r h => h⟩
theorem dss_never {sts : List Stmt} : DSs X G W sts sNo := ⟨_, fun _ => pss_never, fun Fg O ρ σ H D r h => h⟩
theorem ds_pass : DS X G W (.Pass pos) sNil := ⟨_, fun _ => ps_pass, fun Fg O ρ σ H D r h => h O σ H .refl r⟩
def sBk : RS → Out := fun ρ => .bk ρ
def sCt : RS → Out := fun ρ => .ct ρ
theorem ds_break : DS X G W (.Break pos) sBk := ⟨_, fun _ => ps_break, fun Fg O ρ σ H D r h => h O σ H .refl r⟩
theorem ds_continue : DS X G W (.Continue pos) sCt := ⟨_, fun _ => ps_continue, fun Fg O ρ σ H D r h => h O σ H .refl r⟩
def sRet (fe : RS → Rs PyData) : RS → Out := fun ρ => (fe ρ).out fun d ρ1 => .rt d ρ1
theorem ds_ret (he : DE X G W e fe) : DS X G W (.Return (some e) pos) (sRet fe) := by
  obtain ⟨t, p, l⟩ := he
  exact ⟨_, fun i => ps_ret (p i), fun Fg O ρ σ H D r h => l Fg O ρ σ H _ r ((SPo.out h).imp fun d ρ1 H1 e1 r1 k v rv => k O σ v H1 .refl r1 rv)⟩
def sRetN : RS → Out := fun ρ => .rt .none ρ
theorem ds_retN : DS X G W (.Return none pos) sRetN := ⟨_, fun _ => ps_retN, fun Fg O ρ σ H D r h => h O σ _ H .refl r .non⟩
/-- return of a list that the def has made its own -/
def sRetO (i : Nat) : RS → Out := fun ρ => match ρ[i]? with
  | some (.o xs) => .rto (.list xs) ρ
  | some (.d x) => .rt x ρ
  | _ => .no
theorem ds_retO (j : Nat) {x : Str} {p : Pos} (hN : ∀ i, (X i).N[j]? = some x) (hv : ∀ i, Vis (X i).env.scope x) (hd : (x == ("__debug__" : Str)) = false := by decide) (hcd : (x == ("__classdict__" : Str)) = false := by decide) : DS X G W (.Return (some (.Name x p)) pos) (sRetO j) := by
  refine ⟨_, fun i => ps_ret (pe_var (hN i) (hv i) hd hcd), fun Fg O ρ σ H D r h => ?_⟩
  unfold sRetO at h
  split at h
  · rename_i xs e
    obtain ⟨a, vs, h0, h1, h2, h3⟩ := r.own j xs e
    exact ⟨_, h1, h O σ _ H .refl r (.lst h2 (r.fg _ h0) (h3.fewer fun b m => List.mem_append_right _ m))⟩
  · rename_i d e
    obtain ⟨v, h1, h2⟩ := r.val j d e
    exact ⟨v, h1, h O σ v H .refl r h2⟩
  · exact h.elim
def sExpr (fe : RS → Rs PyData) : RS → Out := fun ρ => (fe ρ).out fun _ ρ1 => .nx ρ1
theorem ds_expr (he : DE X G W e fe) (hs : ∀ i, swapsWith e none pos.line (X i).env = pure false := by intro _; rfl) : DS X G W (.Expr e pos) (sExpr fe) := by
  obtain ⟨t, p, l⟩ := he
  refine ⟨_, fun i => ps_expr (p i) (hs i), fun Fg O ρ σ H D r h => l Fg O ρ σ H _ r ((SPo.out h).imp fun d ρ1 H1 e1 r1 k v rv => k O σ H1 .refl r1)⟩
def sOpt (o : Option RS) : Out := match o with
  | some ρ => .nx ρ
  | none => .no
def sAsg (fe : RS → Rs PyData) (g : PyData → RS → Option RS) : RS → Out := fun ρ => (fe ρ).out fun d ρ1 => sOpt (g d ρ1)
theorem ds_asg {tg : Expr} {vs : List Nat} {gt : PyData → RS → Option RS} (he : DE X G W e fe) (hg : DG X G tg vs gt) (hs : ∀ i, swapsWithSole [tg] e pos.line (X i).env = pure false := by intro _; rfl) (hw : ∀ i, swappedStores [tg] e (X i).env = pure none := by intro _; rfl)
    (h1 : ∀ i, (assignEach [tg] (X i).env).map (·.2) = [assign tg (X i).env] := by intro _; rfl) : DS X G W (.Assign [tg] e pos) (sAsg fe gt) := by
  obtain ⟨t, p, l⟩ := he
  obtain ⟨t2, p2, l2⟩ := hg
  refine ⟨_, fun i => ps_asg (p i) (p2 i) (hs i) (hw i) (h1 i), fun Fg O ρ σ H D r h => l Fg O ρ σ H _ r ((SPo.out h).imp fun d ρ1 H1 e1 r1 k v rv => ?_)⟩
  cases q : gt d ρ1 with
  | none => rw [q] at k; exact k.elim
  | some ρ2 =>
    rw [q] at k
    exact l2 Fg O ρ1 σ H1 v d ρ2 _ r1 rv q fun σ2 r2 _ => k O σ2 H1 .refl r2
theorem ds_set {j : Nat} {x : Str} {pos' : Pos} (F : Fam X G W k) (hi : ∀ i, (X i).N[j]? = some x) (hx : ∀ i, Loc (X i).env.scope x) (hf : ∀ i, (X i).fn x = true ∨ (X i).env.scope.names.lookup x = some .local) (he : DE X G W e fe)
    (hs : ∀ i, swapsWith e (some (.Name x pos')) pos.line (X i).env = pure false := by intro _; rfl) : DS X G W (.Assign [.Name x pos'] e pos) (sAsg fe (setD j)) := by
  obtain ⟨t, p, l⟩ := he
  refine ⟨_, fun i => ps_set (F.nd i) (hi i) (hx i) (p i) (hs i) (hf i), fun Fg O ρ σ H D r h => l Fg O ρ σ H _ r ((SPo.out h).imp fun d ρ1 H1 e1 r1 k v rv => ?_)⟩
  unfold setD at k
  by_cases hn : noOwn ρ1 j = true
  · rw [if_pos hn] at k
    exact k O _ H1 .refl (r1.set (noOwn_ok hn) rv)
  · rw [if_neg hn] at k; exact k.elim
/-- a, b = x, y -/
def sPar (i j : Nat) (fs : RS → Rs (List PyData)) : RS → Out := fun ρ => (fs ρ).out fun ds ρ1 => match ds with
  | [x, y] => sOpt ((setD i x ρ1).bind (setD j y))
  | _ => .no
theorem ds_par {j j2 : Nat} {x y : Str} {a b : Expr} {fs : RS → Rs (List PyData)} {px py pt : Pos} {kt k2 pt2} (F : Fam X G W k) (hi : ∀ i, (X i).N[j]? = some x) (hj : ∀ i, (X i).N[j2]? = some y) (hij : j ≠ j2)
    (hx : ∀ i, (X i).env.scope.names.lookup x = some .local) (hy : ∀ i, (X i).env.scope.names.lookup y = some .local) (ha : DA X G W [a, b] fs)
    (hw : ∀ i, swappedStores [.Tuple [.Name x px, .Name y py] kt pt] (.Tuple [a, b] k2 pt2) (X i).env = pure (some [x, y]) := by intro _; rfl) (hs : ∀ i, swapsWithSole [.Tuple [.Name x px, .Name y py] kt pt] (.Tuple [a, b] k2 pt2) pos.line (X i).env = pure false := by intro _; rfl) :
    DS X G W (.Assign [.Tuple [.Name x px, .Name y py] kt pt] (.Tuple [a, b] k2 pt2) pos) (sPar j j2 fs) := by
  obtain ⟨t, p, l⟩ := ha
  refine ⟨_, fun i => ps_par (F.calm i) (F.nd i) (hi i) (hj i) hij (hx i) (hy i) (p i) (hw i), fun Fg O ρ σ H D r h => l Fg O ρ σ H _ r ((SPo.out h).imp fun ds ρ1 H1 e1 r1 k vs rv => ?_)⟩
  match ds, vs, rv with
  | [], _, _ => exact k.elim
  | [_], _, _ => exact k.elim
  | _ :: _ :: _ :: _, _, _ => exact k.elim
  | [d1, d2], [v1, v2], .cons q1 (.cons q2 .nil) =>
    refine ⟨v1, v2, rfl, ?_⟩
    have k : SPo G W Fg O H1 D (sOpt ((setD j d1 ρ1).bind (setD j2 d2))) := k
    cases z : (setD j d1 ρ1).bind (setD j2 d2) with
    | none => rw [z] at k; exact k.elim
    | some ρ2 =>
      rw [z] at k
      obtain ⟨ρa, ea, eb⟩ := Option.bind_eq_some_iff.mp z
      unfold setD at ea eb
      split at ea
      · cases ea
        split at eb
        · cases eb
          rename_i n1 n2
          exact k O _ H1 .refl ((r1.set (noOwn_ok n1) q1).set (noOwn_ok n2) q2)
        · cases eb
      · cases ea
def sIf (c : RS → Rs Bool) (f g : RS → Out) : RS → Out := fun ρ => (c ρ).out fun b ρ1 => if b then f ρ1 else g ρ1
theorem ds_if {c : Expr} {a b : List Stmt} {fc : RS → Rs Bool} (hc : DT X G W c fc) (ha : DSs X G W a f) (hb : DSs X G W b g) : DS X G W (.If c a b pos) (sIf fc f g) := by
  obtain ⟨t, p, l⟩ := hc
  obtain ⟨t1, p1, l1⟩ := ha
  obtain ⟨t2, p2, l2⟩ := hb
  refine ⟨_, fun i => ps_if (p i) (p1 i) (p2 i), fun Fg O ρ σ H D r h => l Fg O ρ σ H _ r ((SPo.out h).imp fun b ρ1 H1 e1 r1 k => ?_)⟩
  cases b with
  | true => exact ite_tt (l1 Fg O ρ1 σ H1 D r1 k)
  | false => exact ite_ff (l2 Fg O ρ1 σ H1 D r1 k)
/-- name op= e -/
def sAug (j : Nat) (g : PyData → PyData → Option PyData) (fe : RS → Rs PyData) : RS → Out := fun ρ => (eVar j ρ).out fun x _ => (fe ρ).out fun y ρ1 => (Rs.of (g x y) ρ1).out fun d ρ2 => sOpt (setD j d ρ2)
theorem ds_aug {j : Nat} {x : Str} {op : Operator} {r : R2} {gg : PyData → PyData → Option PyData} {pos' : Pos} (F : Fam X G W k) (hi : ∀ i, (X i).N[j]? = some x) (hx : ∀ i, Loc (X i).env.scope x) (hf : ∀ i, (X i).fn x = true ∨ (X i).env.scope.names.lookup x = some .local)
    (ho : ∀ i, OpR (X i) (inplaceOp op) r) (od : OpD G r gg) (he : DE X G W e fe) : DS X G W (.AugAssign (.Name x pos') op e pos) (sAug j gg fe) := by
  obtain ⟨t, p, l⟩ := he
  refine ⟨tAug j t r, fun i => ps_aug (F.nd i) (hi i) (hx i) (p i) (fun pins s σ H x y v u Q I rx ry h => ho i pins s σ H x y v u Q I rx ry h) (hf i), fun Fg O ρ σ H D r0 h => ?_⟩
  unfold sAug eVar at h
  cases q : ρ[j]? with
  | none => rw [q] at h; exact h.elim
  | some s =>
    cases s with
    | n => rw [q] at h; exact h.elim
    | o _ => rw [q] at h; exact h.elim
    | d dx =>
      rw [q] at h
      obtain ⟨v, hv, rv⟩ := r0.val j dx q
      refine ⟨v, hv, l Fg O ρ σ H _ r0 ((SPo.out (r := fe ρ) h).imp fun dy ρ1 H1 e1 r1 k1 w rw' => ?_)⟩
      cases z : gg dx dy with
      | none => rw [z] at k1; exact k1.elim
      | some d =>
        rw [z] at k1
        have k2 : SPo G W Fg O H1 D (sOpt (setD j d ρ1)) := k1
        refine od _ H1 v w dx dy d _ r1.all (rv.ext (fun a m => .inl (List.mem_append_left _ m)) e1 fun _ m => .inl m) rw' z fun u H2 s2 ru => ?_
        have r2 : R G Fg O ρ1 σ H2 := r1.ext0 (.of_same s2)
        unfold setD at k2
        by_cases hn : noOwn ρ1 j = true
        · rw [if_pos hn] at k2
          exact k2 O _ H2 (Ext.of_same s2).evo (r2.set (noOwn_ok hn) ru)
        · rw [if_neg hn] at k2; exact k2.elim
end
end DL

-- text DL4
set_option Elab.async false
set_option linter.all false
set_option maxRecDepth 100000
set_option maxHeartbeats 2000000
namespace DL
open PySem PySem.Spec PyProof.Rows L2 GxR

section
variable {ι : Type} {X : ι → Cx} {G : Ctx} {W : WX} {k : Nat} {pos : Pos}
/-! ### loops -/
def brkTo (o : Out) (k : RS → Out) : Out := match o with
  | .nx ρ => k ρ
  | .ct ρ => k ρ
  | .bk ρ => .nx ρ
  | o => o
def whN (c : RS → Rs Bool) (b : RS → Out) : Nat → RS → Out
  | 0, _ => .no
  | n + 1, ρ => (c ρ).out fun q ρ1 => if q then brkTo (b ρ1) (whN c b n) else .nx ρ1
/-- behind a turn -/
theorem SPo.turn {Fg : List Addr} {O : Own} {H : Hp} {D : Ends} {o : Out} {kk : RS → Out} {N : L2.St → Hp → Prop} (h : SPo G W Fg O H D (brkTo o kk))
    (n : ∀ ρ' O' σ' H', Evo O H O' H' → R G Fg O' ρ' σ' H' → SPo G W Fg O' H' D (kk ρ') → N σ' H') : SPo G W Fg O H { D with nx := N, ct := N, bk := D.nx } o := by
  cases o with
  | nx ρ1 => exact fun O' σ' H' e r => n ρ1 O' σ' H' e r (SPo.shift (o := kk ρ1) h e)
  | ct ρ1 => exact fun O' σ' H' e r => n ρ1 O' σ' H' e r (SPo.shift (o := kk ρ1) h e)
  | bk ρ1 => exact h
  | rt d ρ1 => exact h
  | rto d ρ1 => exact h
  | ex c fs ρ1 => exact h
  | no => exact h
theorem ds_while (n : Nat) {c : Expr} {body : List Stmt} {fc : RS → Rs Bool} {fb : RS → Out} (hp : ∀ i, PassesOwn (model (X i).prog (X i).w) (X i).A (X i).env (X i).xe) (hc : DT X G W c fc) (hb : DSs X G W body fb) : DS X G W (.While c body [] pos) (whN fc fb n) := by
  obtain ⟨t, p, l⟩ := hc
  obtain ⟨t2, p2, l2⟩ := hb
  refine ⟨_, fun i => ps_while (hp i) (p i) (p2 i), fun Fg O ρ σ H D r h => ?_⟩
  refine ⟨fun m σ' H' => ∃ O' ρ', R G Fg O' ρ' σ' H' ∧ SPo G W Fg O' H' D (whN fc fb m ρ'), ⟨n, O, ρ, r, h⟩, fun m σ1 H1 hW => ?_⟩
  obtain ⟨O1, ρ1, r1, h1⟩ := hW
  cases m with
  | zero => exact h1.elim
  | succ m =>
    refine l Fg O1 ρ1 σ1 H1 _ r1 ((SPo.out (r := fc ρ1) h1).imp fun b ρ2 H2 e2 r2 k2 => ?_)
    cases b with
    | true =>
      refine ite_tt ⟨fun σ' H' => ∃ O' ρ', R G Fg O' ρ' σ' H' ∧ SPo G W Fg O' H' D (whN fc fb m ρ'), fun σ' H' w => ⟨m, Nat.lt_succ_self _, w⟩, ?_⟩
      exact l2 Fg O1 ρ2 σ1 H2 _ r2 (SPo.turn k2 fun ρ' O' σ' H' e r h => ⟨O', ρ', r, h⟩)
    | false => exact ite_ff (k2 O1 σ1 H2 .refl r2)
def forL (g : PyData → RS → Option RS) (b : RS → Out) : List PyData → RS → Out
  | [], ρ => .nx ρ
  | x :: xs, ρ => match g x ρ with
    | none => .no
    | some ρ1 => brkTo (b ρ1) (forL g b xs)
def sFor (fi : RS → Rs (List PyData)) (g : PyData → RS → Option RS) (b : RS → Out) : RS → Out := fun ρ => (fi ρ).out fun items ρ1 => forL g b items ρ1
theorem drop_get {α : Type} {l : List α} {i : Nat} (h : i < l.length) : l.drop i = l[i] :: l.drop (i + 1) := List.drop_eq_getElem_cons h
theorem ds_for {tg iter : Expr} {body : List Stmt} {fi : RS → Rs (List PyData)} {vs : List Nat} {g : PyData → RS → Option RS} {fb : RS → Out} (F : Fam X G W k) (hp : ∀ i, PassesOwn (model (X i).prog (X i).w) (X i).A (X i).env (X i).xe) (hi : DI X G W tg iter fi) (hg : DG X G tg vs g) (hb : DSs X G W body fb)
    (hs : ∀ i x, foldedSetIterable iter (X i).env x = pure x := by intro _ _; rfl) : DS X G W (.For tg iter body [] pos) (sFor fi g fb) := by
  obtain ⟨wi, pi, li⟩ := hi
  obtain ⟨gt, pg, lg⟩ := hg
  obtain ⟨t2, p2, l2⟩ := hb
  refine ⟨_, fun i => ps_for (hp i) (F.calm i) (pi i) (pg i) (p2 i) (hs i), fun Fg O ρ σ H D r h => ?_⟩
  refine li Fg O ρ σ H _ r ((SPo.out h).imp fun items ρ1 H1 e1 r1 k1 J wd => ?_)
  refine ⟨fun i m σ' H' => m = items.length - i ∧ i ≤ items.length ∧ ∃ O' ρ', Evo O H1 O' H' ∧ R G Fg O' ρ' σ' H' ∧ SPo G W Fg O' H' D (forL g fb (items.drop i) ρ'),
    ⟨items.length, by simp, Nat.zero_le _, O, ρ1, .refl, r1, by simpa using k1⟩, fun i m σ2 H2 hW => ?_⟩
  obtain ⟨hm, hi, O2, ρ2, ev, r2, k2⟩ := hW
  have sub : ∀ a ∈ adr O2 ++ Fg, a ∈ adr O ++ Fg ∨ H1 a = none := fun a m => by
    rcases List.mem_append.mp m with z | z
    · rcases ev.g a z with q | q
      · exact .inl (List.mem_append_left _ q)
      · exact .inr q
    · exact .inl (List.mem_append_right _ z)
  obtain ⟨w1, w2⟩ := wd (adr O) (adr O2 ++ Fg) H2 ev.ext (fun a m => .inl (List.mem_append_left _ m)) sub i
  by_cases hlt : i < items.length
  · obtain ⟨go, yl⟩ := w1 items[i] (List.getElem?_eq_getElem hlt)
    rw [drop_get hlt] at k2
    refine .inr ⟨go, fun σ' H' => (fun i m σ' H' => m = items.length - i ∧ i ≤ items.length ∧ ∃ O' ρ', Evo O H1 O' H' ∧ R G Fg O' ρ' σ' H' ∧ SPo G W Fg O' H' D (forL g fb (items.drop i) ρ')) (i + 1) (items.length - (i + 1)) σ' H',
      fun σ' H' w => ⟨_, by omega, w⟩, fun x H3 y3 => ?_⟩
    obtain ⟨e3, rx⟩ := yl x H3 y3
    have k2 : SPo G W Fg O2 H2 D (match g items[i] ρ2 with | none => .no | some ρ1 => brkTo (fb ρ1) (forL g fb (items.drop (i + 1)))) := k2
    cases q : g items[i] ρ2 with
    | none => rw [q] at k2; exact k2.elim
    | some ρ3 =>
      rw [q] at k2
      have e3' : Ext (adr O2) H2 H3 := e3.mono (by simp)
      refine lg Fg O2 ρ2 σ2 H3 x items[i] ρ3 _ (r2.ext0 e3) rx q fun σ3 r3 _ => ?_
      refine l2 Fg O2 ρ3 σ3 H3 _ r3 (SPo.turn (SPo.shift k2 e3'.evo) fun ρ' O' σ' H' e r h => ?_)
      exact ⟨rfl, hlt, O', ρ', (ev.trans e3'.evo).trans e, r, h⟩
  · have hl : items.length ≤ i := Nat.le_of_not_lt hlt
    rw [List.drop_of_length_le hl] at k2
    exact .inl ⟨w2 hl, k2 O2 σ2 H2 .refl r2⟩

/-! ### comprehensions -/
def noex {α : Type} (r : Rs α) : Rs α := match r with
  | .ok a ρ => .ok a ρ
  | _ => .no
def allFree (ρ : RS) (vs : List Nat) : Bool := vs.all fun i => noOwn ρ i
theorem allFree_ok {ρ : RS} {vs : List Nat} (h : allFree ρ vs = true) : ∀ i ∈ vs, NoOwn ρ i := fun i m => noOwn_ok (List.all_eq_true.mp h i m)
def lcL (g : PyData → RS → Option RS) (ft : RS → Rs Bool) (fe : RS → Rs PyData) (vs : List Nat) : List PyData → RS → Rs (List PyData)
  | [], ρ => .ok [] ρ
  | x :: xs, ρ => match g x ρ with
    | none => .no
    | some ρ1 => (noex (ft ρ1)).bind fun b ρ2 => if b then (noex (fe ρ2)).bind fun d ρ3 => if allFree ρ3 vs then (lcL g ft fe vs xs (rwipe ρ3 vs)).bind fun r ρ4 => .ok (d :: r) ρ4 else .no
        else if allFree ρ2 vs then lcL g ft fe vs xs (rwipe ρ2 vs) else .no
def eLc (fi : RS → Rs (List PyData)) (g : PyData → RS → Option RS) (ft : RS → Rs Bool) (fe : RS → Rs PyData) (vs : List Nat) : RS → Rs PyData := fun ρ => (fi ρ).bind fun items ρ1 =>
  if items.length ≤ sizeLine ∧ allFree ρ1 vs = true then (lcL g ft fe vs items (rwipe ρ1 vs)).bind fun ds ρ2 => if allFree ρ2 vs then .ok (.list ds) (rwipe ρ2 vs) else .no else .no
/-- nothing is let out -/
abbrev W0 : WX := fun _ _ _ _ => False
/-- the contexts of a comprehension's block -/
abbrev Bx (X : ι → Cx) (scope : Scope) : ι × Shared × Hp × Addr × List (Str × Addr) × List Addr → Cx := fun j => (X j.1).blk j.2.1 j.2.2.1 scope (compEnvC scope j.2.2.2.2.1 j.2.2.2.1 (X j.1).env) j.2.2.2.2.2
theorem famB {scope : Scope} (F : Fam X G W k) : Fam (Bx X scope) G W0 k := ⟨fun j => F.K j.1, fun j => F.calm j.1, fun _ _ _ x => by
  obtain ⟨_, _, _, _, _, _, _, _, _, _, _, _, _, _, _, _, z⟩ := x
  exact z.elim, fun j => F.nd j.1, fun j => F.room j.1⟩
structure DTs (X : ι → Cx) (G : Ctx) (W : WX) (es : List Expr) (f : RS → Rs Bool) : Prop where
  ex : ∃ t : TT, (∀ i, PTs (X i) es t) ∧ ∀ Fg O ρ σ H Q, R G Fg O ρ σ H → GP G W Fg O σ (fun b _ H' => Q b H') H (f ρ) → t σ H Q
def tYesD : RS → Rs Bool := fun ρ => .ok true ρ
theorem dts_nil : DTs X G W [] tYesD := ⟨_, fun _ => pts_nil, fun Fg O ρ σ H Q r h => h H .refl r⟩
theorem dts_one {c : Expr} {f : RS → Rs Bool} (h : DT X G W c f) : DTs X G W [c] f := by
  obtain ⟨t, p, l⟩ := h
  exact ⟨_, fun i => pts_one (p i), l⟩
theorem wipe_idem {σ : L2.St} : ∀ {vs ws : List Nat}, (∀ v ∈ vs, v ∈ ws) → wipe (wipe σ vs) ws = wipe σ ws
  | [], _, _ => rfl
  | v :: vs, ws, h => by
    show wipe ((wipe σ vs).set v none) ws = wipe σ ws
    rw [wipe_set_in (h v List.mem_cons_self)]
    exact wipe_idem fun u m => h u (List.mem_cons_of_mem _ m)
/-- what a comprehension wants behind its items -/
def LP (G : Ctx) (Fg : List Addr) (O : Own) (σw : L2.St) (D : Addr) (Q : VK) (acc : List PyData) (H : Hp) : Rs (List PyData) → Prop
  | .ok ds ρ' => ∀ H' us, Ext (D :: adr O) H H' → R G (D :: Fg) O ρ' σw H' → H' D = some (.lst us) → RepAll G.K (adr O ++ D :: Fg) H' us (acc ++ ds) → Q (.ref D) H'
  | _ => False
theorem LP.shift {Fg : List Addr} {O : Own} {σw : L2.St} {D : Addr} {Q : VK} {acc : List PyData} {H H1 : Hp} {r : Rs (List PyData)} (h : LP G Fg O σw D Q acc H r) (e : Ext (D :: adr O) H H1) : LP G Fg O σw D Q acc H1 r := by
  cases r with
  | ok ds ρ' => exact fun H' us e' r => h H' us (e.trans' e') r
  | ex c fs ρ' => exact h
  | no => exact h
theorem lp_cons {Fg : List Addr} {O : Own} {σw : L2.St} {D : Addr} {Q : VK} {acc : List PyData} {H : Hp} {d : PyData} {r : Rs (List PyData)} (h : LP G Fg O σw D Q acc H (r.bind fun q ρ4 => .ok (d :: q) ρ4)) : LP G Fg O σw D Q (acc ++ [d]) H r := by
  cases r with
  | ok ds ρ' => exact fun H' us e r q1 q2 => h H' us e r q1 (by simpa using q2)
  | ex c fs ρ' => exact h
  | no => exact h
theorem gp_noex {α : Type} {Fg : List Addr} {O : Own} {σ : L2.St} {H : Hp} {K : α → RS → Hp → Prop} {r : Rs α} (a : α) (ρ : RS) (h : r = .ok a ρ) (k : ∀ H', Ext (adr O) H H' → R G Fg O ρ σ H' → K a ρ H') : GP G W Fg O σ K H r := by
  subst h; exact k

/-- a turn of a comprehension: what is left of it and its end -/
theorem lc_turn {Fg : List Addr} {O : Own} {σ σ2 : L2.St} {D : Addr} {Q : VK} {acc : List PyData} {us : List V} {H2 : Hp} {x : PyData} {xs : List PyData} {ρ ρ1 : RS} {g : PyData → RS → Option RS} {ft : RS → Rs Bool} {fe : RS → Rs PyData} {vs : List Nat} {tt : TT} {te : TE}
    (lt : ∀ Fg O ρ σ H Q, R G Fg O ρ σ H → GP G W0 Fg O σ (fun b _ H' => Q b H') H (ft ρ) → tt σ H Q)
    (le : ∀ Fg O ρ σ H Q, R G Fg O ρ σ H → GP G W0 Fg O σ (fun d _ H' => ∀ v, Rep G.K (adr O ++ Fg) H' v d → Q v H') H (fe ρ) → te σ H Q)
    (hw : wipe σ2 vs = wipe σ vs) (r1 : R G (D :: Fg) O ρ1 σ2 H2) (hD : H2 D = some (.lst us)) (ra : RepAll G.K (adr O ++ D :: Fg) H2 us acc) (hl : acc.length < sizeLine) (nD : D ∉ adr O ++ Fg)
    (q : g x ρ = some ρ1) (h : LP G Fg O (wipe σ vs) D Q acc H2 (lcL g ft fe vs (x :: xs) ρ)) (Nx : Hp → Prop)
    (n : ∀ ρ' acc' us' H', Ext (D :: adr O) H2 H' → R G (D :: Fg) O ρ' (wipe σ vs) H' → H' D = some (.lst us') → RepAll G.K (adr O ++ D :: Fg) H' us' acc' → acc'.length ≤ acc.length + 1 → LP G Fg O (wipe σ vs) D Q acc' H' (lcL g ft fe vs xs ρ') → Nx H') :
    tt σ2 H2 fun b H3 => if b = true then te σ2 H3 fun y H4 => ∃ acc, H4 D = some (.lst acc) ∧ acc.length < sizeLine ∧ Nx (upd H4 D (.lst (acc ++ [y]))) else Nx H3 := by
  have h : LP G Fg O (wipe σ vs) D Q acc H2 ((noex (ft ρ1)).bind fun b ρ2 => if b then (noex (fe ρ2)).bind fun d ρ3 => if allFree ρ3 vs then (lcL g ft fe vs xs (rwipe ρ3 vs)).bind fun r ρ4 => .ok (d :: r) ρ4 else .no
        else if allFree ρ2 vs then lcL g ft fe vs xs (rwipe ρ2 vs) else .no) := by
    have h' := h
    unfold lcL at h'
    rw [q] at h'
    exact h'
  have sub : ∀ a ∈ adr O, a ∈ adr O ++ D :: Fg ∨ H2 a = none := fun a m => .inl (List.mem_append_left _ m)
  have keepD : ∀ {H : Hp}, Ext (adr O) H2 H → H D = some (.lst us) := fun {H} e => e.keep D _ hD (by intro ps z; cases z) (.inl fun m => nD (List.mem_append_left _ m))
  cases z : ft ρ1 with
  | ex c fs ρ' => rw [z] at h; exact h.elim
  | no => rw [z] at h; exact h.elim
  | ok b ρ2 =>
    rw [z] at h
    refine lt (D :: Fg) O ρ1 σ2 H2 _ r1 (gp_noex b ρ2 z fun H3 e3 r3 => ?_)
    have ra3 : RepAll G.K (adr O ++ D :: Fg) H3 us acc := ra.ext sub e3 fun _ m => .inl m
    have e3' : Ext (D :: adr O) H2 H3 := e3.mono fun a m => List.mem_cons_of_mem _ m
    cases b with
    | false =>
      refine ite_ff ?_
      have h : LP G Fg O (wipe σ vs) D Q acc H2 (if allFree ρ2 vs then lcL g ft fe vs xs (rwipe ρ2 vs) else .no) := h
      by_cases hf : allFree ρ2 vs = true
      · rw [if_pos hf] at h
        have r4 := r3.wipe vs (allFree_ok hf)
        rw [hw] at r4
        exact n _ acc us H3 e3' r4 (keepD e3) ra3 (Nat.le_succ _) (h.shift e3')
      · rw [if_neg hf] at h; exact h.elim
    | true =>
      refine ite_tt ?_
      have h : LP G Fg O (wipe σ vs) D Q acc H2 ((noex (fe ρ2)).bind fun d ρ3 => if allFree ρ3 vs then (lcL g ft fe vs xs (rwipe ρ3 vs)).bind fun r ρ4 => .ok (d :: r) ρ4 else .no) := h
      cases z2 : fe ρ2 with
      | ex c fs ρ' => rw [z2] at h; exact h.elim
      | no => rw [z2] at h; exact h.elim
      | ok d ρ3 =>
        rw [z2] at h
        have h : LP G Fg O (wipe σ vs) D Q acc H2 (if allFree ρ3 vs then (lcL g ft fe vs xs (rwipe ρ3 vs)).bind fun r ρ4 => .ok (d :: r) ρ4 else .no) := h
        by_cases hf : allFree ρ3 vs = true
        · rw [if_pos hf] at h
          refine le (D :: Fg) O ρ2 σ2 H3 _ r3 (gp_noex d ρ3 z2 fun H4 e4 r4 y ry => ?_)
          have ra4 : RepAll G.K (adr O ++ D :: Fg) H4 us acc := ra3.ext (fun a m => .inl (List.mem_append_left _ m)) e4 fun _ m => .inl m
          have hD4 : H4 D = some (.lst us) := keepD (e3.trans' e4)
          refine ⟨us, hD4, by rw [ra4.length]; exact hl, ?_⟩
          have ep : Ext [D] H4 (upd H4 D (.lst (us ++ [y]))) := ext_put hD4 (List.mem_singleton.mpr rfl)
          have sD : ∀ a ∈ [D], a ∈ adr O ++ D :: Fg ∨ H4 a = none := fun a m => .inl (by rw [List.mem_singleton.mp m]; exact List.mem_append_right _ List.mem_cons_self)
          have r5 : R G (D :: Fg) O ρ3 σ2 (upd H4 D (.lst (us ++ [y]))) := r4.ext ep (fun a m => by rw [List.mem_singleton.mp m]; exact List.mem_cons_self) fun a m => by rw [List.mem_singleton.mp m]; exact ⟨_, upd_same⟩
          have r6 := r5.wipe vs (allFree_ok hf)
          rw [hw] at r6
          have e6 : Ext (D :: adr O) H2 (upd H4 D (.lst (us ++ [y]))) := (e3'.trans' (e4.mono fun a m => List.mem_cons_of_mem _ m)).trans' (ep.mono fun a m => by rw [List.mem_singleton.mp m]; exact List.mem_cons_self)
          exact n _ (acc ++ [d]) (us ++ [y]) _ e6 r6 upd_same ((ra4.append (.cons ry .nil)).ext sD ep fun _ m => .inl m) (by simp) ((lp_cons h).shift e6)
        · rw [if_neg hf] at h; exact h.elim

theorem lc_law {X : ι → Cx} {G : Ctx} {W : WX} {wi : TI} {gt : TG} {tt : TT} {te : TE} {fi : RS → Rs (List PyData)} {gvs vs : List Nat} {g : PyData → RS → Option RS} {ft : RS → Rs Bool} {fe : RS → Rs PyData}
    (li : ∀ Fg O ρ σ H Q, R G Fg O ρ σ H → GP G W Fg O σ (fun ds _ H' => ∀ J, WalkD G (adr O ++ Fg) H' J ds → Q J H') H (fi ρ) → wi σ H Q)
    (lg : ∀ Fg O ρ σ H v d ρ' Q, R G Fg O ρ σ H → Rep G.K (adr O ++ Fg) H v d → g d ρ = some ρ' → (∀ σ', R G Fg O ρ' σ' H → (∀ ws : List Nat, (∀ j ∈ gvs, j ∈ ws) → wipe σ' ws = wipe σ ws) → Q σ' H) → gt v σ H Q)
    (lt : ∀ Fg O ρ σ H Q, R G Fg O ρ σ H → GP G W0 Fg O σ (fun b _ H' => Q b H') H (ft ρ) → tt σ H Q)
    (le : ∀ Fg O ρ σ H Q, R G Fg O ρ σ H → GP G W0 Fg O σ (fun d _ H' => ∀ v, Rep G.K (adr O ++ Fg) H' v d → Q v H') H (fe ρ) → te σ H Q)
    (hsub : ∀ j ∈ gvs, j ∈ vs) {Fg : List Addr} {O : Own} {ρ : RS} {σ : L2.St} {H : Hp} {Q : VK} (r : R G Fg O ρ σ H) (h : GP G W Fg O σ (fun d _ H' => ∀ v, Rep G.K (adr O ++ Fg) H' v d → Q v H') H (eLc fi g ft fe vs ρ)) : tLc wi gt tt te vs σ H Q := by
  refine li Fg O ρ σ H _ r ((GP.bind h).imp fun items ρ1 H1 e1 r1 k1 J wd => ?_)
  intro D hD
  by_cases hc : items.length ≤ sizeLine ∧ allFree ρ1 vs = true
  · rw [if_pos hc] at k1
    have nD : D ∉ adr O ++ Fg := fresh_not r1.all hD
    have e0 : Ext [] H1 (upd H1 D (.lst [])) := ext_new hD
    have r0 : R G (D :: Fg) O (rwipe ρ1 vs) (wipe σ vs) (upd H1 D (.lst [])) := (r1.more hD).wipe vs (allFree_ok hc.2)
    have gD : Grow (adr O) H1 (D :: adr O) := fun a m => by
      rcases List.mem_cons.mp m with z | z
      · subst z; exact .inr hD
      · exact .inl z
    -- the wish behind the items
    have lp0 : LP G Fg O (wipe σ vs) D Q [] (upd H1 D (.lst [])) (lcL g ft fe vs items (rwipe ρ1 vs)) := by
      cases z : lcL g ft fe vs items (rwipe ρ1 vs) with
      | ok ds ρ2 =>
        rw [z] at k1
        intro H' us e' r' hD' ra'
        have k1 : GP G W Fg O σ (fun d _ H' => ∀ v, Rep G.K (adr O ++ Fg) H' v d → Q v H') H1 (if allFree ρ2 vs then .ok (.list ds) (rwipe ρ2 vs) else .no) := k1
        by_cases hf : allFree ρ2 vs = true
        · rw [if_pos hf] at k1
          have eo : Ext (adr O) H1 H' := (e0.mono (O' := adr O) (by simp)).trans e' fun a m => by
            rcases gD a m with z | z
            · exact .inl z
            · exact .inr z
          refine k1 H' eo (r'.less.unwipe (vs := vs) (wipe_idem fun _ m => m) (wipe_length _ _) (allFree_ok hf)) _ (.lst hD' nD (ra'.fewer fun a m => ?_))
          rcases List.mem_append.mp m with z | z
          · exact List.mem_append_left _ z
          · exact List.mem_append_right _ (List.mem_cons_of_mem _ z)
        · rw [if_neg hf] at k1; exact k1.elim
      | ex c fs ρ2 =>
        -- no error leaves the items
        exfalso
        exact lcL_noex _ _ z
      | no => rw [z] at k1; exact k1.elim
    refine ⟨fun i m H2 => m = items.length - i ∧ i ≤ items.length ∧ ∃ ρ2 acc us, R G (D :: Fg) O ρ2 (wipe σ vs) H2 ∧ H2 D = some (.lst us) ∧ RepAll G.K (adr O ++ D :: Fg) H2 us acc ∧ acc.length ≤ i ∧ Ext (D :: adr O) (upd H1 D (.lst [])) H2 ∧ LP G Fg O (wipe σ vs) D Q acc H2 (lcL g ft fe vs (items.drop i) ρ2),
      ⟨items.length, by simp, Nat.zero_le _, _, [], [], r0, upd_same, .nil, Nat.le_refl _, .refl, by simpa using lp0⟩, fun i m H2 hW => ?_⟩
    obtain ⟨hm, hi, ρ2, acc, us, r2, hD2, ra2, hl2, e2, lp2⟩ := hW
    have e12 : Ext (D :: adr O) H1 H2 := (e0.mono (by simp)).trans' e2
    obtain ⟨w1, w2⟩ := wd (D :: adr O) (adr O ++ D :: Fg) H2 e12 (fun a m => by
        rcases List.mem_cons.mp m with z | z
        · subst z; exact .inr hD
        · exact .inl (List.mem_append_left _ z)) (fun a m => by
        rcases List.mem_append.mp m with z | z
        · exact .inl (List.mem_append_left _ z)
        · rcases List.mem_cons.mp z with z | z
          · subst z; exact .inr hD
          · exact .inl (List.mem_append_right _ z)) i
    by_cases hlt : i < items.length
    · obtain ⟨go, yl⟩ := w1 items[i] (List.getElem?_eq_getElem hlt)
      rw [drop_get hlt] at lp2
      refine .inr ⟨go, fun H' => (fun i m H2 => m = items.length - i ∧ i ≤ items.length ∧ ∃ ρ2 acc us, R G (D :: Fg) O ρ2 (wipe σ vs) H2 ∧ H2 D = some (.lst us) ∧ RepAll G.K (adr O ++ D :: Fg) H2 us acc ∧ acc.length ≤ i ∧ Ext (D :: adr O) (upd H1 D (.lst [])) H2 ∧ LP G Fg O (wipe σ vs) D Q acc H2 (lcL g ft fe vs (items.drop i) ρ2)) (i + 1) (items.length - (i + 1)) H',
        fun H' w => ⟨_, by omega, w⟩, fun x H3 y3 => ?_⟩
      obtain ⟨e3, rx⟩ := yl x H3 y3
      cases q : g items[i] ρ2 with
      | none =>
        exfalso
        unfold lcL at lp2
        rw [q] at lp2
        exact lp2
      | some ρ3 =>
        have e3' : Ext (D :: adr O) H2 H3 := e3.mono (by simp)
        have hD3 : H3 D = some (.lst us) := e3.keep D _ hD2 (by intro ps z; cases z) (.inl (by simp))
        refine lg (D :: Fg) O ρ2 (wipe σ vs) H3 x items[i] ρ3 _ (r2.ext0 e3) rx q fun σ3 r3 hw3 => ?_
        have hw : wipe σ3 vs = wipe σ vs := (hw3 vs hsub).trans (wipe_idem fun _ m => m)
        refine ⟨hw, lc_turn lt le hw r3 hD3 (ra2.ext (O := []) (by simp) e3 fun _ m => .inl m) (by omega) nD q (lp2.shift e3') _ fun ρ' acc' us' H' e' r' hD' ra' hl' lp' => ?_⟩
        exact ⟨rfl, hlt, ρ', acc', us', r', hD', ra', by omega, (e2.trans' e3').trans' e', lp'⟩
    · have hl : items.length ≤ i := Nat.le_of_not_lt hlt
      rw [List.drop_of_length_le hl] at lp2
      have lp2 : LP G Fg O (wipe σ vs) D Q acc H2 (.ok [] ρ2) := lp2
      exact .inl ⟨w2 hl, lp2 H2 us .refl r2 hD2 (by simpa using ra2)⟩
  · rw [if_neg hc] at k1; exact k1.elim
where
  lcL_noex {g : PyData → RS → Option RS} {ft : RS → Rs Bool} {fe : RS → Rs PyData} {vs : List Nat} {c : Str} {fs : List (Str × PyData)} {ρ' : RS} : ∀ (items : List PyData) (ρ : RS), lcL g ft fe vs items ρ = .ex c fs ρ' → False
  | [], ρ, h => by cases h
  | x :: xs, ρ, h => by
    unfold lcL at h
    cases q : g x ρ with
    | none => rw [q] at h; cases h
    | some ρ1 =>
      rw [q] at h
      cases z : ft ρ1 with
      | ex _ _ _ => simp only [z, noex, Rs.bind] at h; cases h
      | no => simp only [z, noex, Rs.bind] at h; cases h
      | ok b ρ2 =>
        cases b with
        | false =>
          simp only [z, noex, Rs.bind, Bool.false_eq_true, if_false] at h
          split at h
          · exact lcL_noex xs _ h
          · cases h
        | true =>
          cases z2 : fe ρ2 with
          | ex _ _ _ => simp only [z, z2, noex, Rs.bind, if_true] at h; cases h
          | no => simp only [z, z2, noex, Rs.bind, if_true] at h; cases h
          | ok d ρ3 =>
            simp only [z, z2, noex, Rs.bind, if_true] at h
            split at h
            · cases z3 : lcL g ft fe vs xs (rwipe ρ3 vs) with
              | ok r ρ4 => rw [z3] at h; cases h
              | no => rw [z3] at h; cases h
              | ex _ _ _ => exact lcL_noex xs _ z3
            · cases h
theorem de_lc {elt tg iter : Expr} {ifs : List Expr} {scope : Scope} {own : List (Str × Nat)} {fi : RS → Rs (List PyData)} {gvs : List Nat} {g : PyData → RS → Option RS} {ft : RS → Rs Bool} {fe : RS → Rs PyData}
    (F : Fam X G W k) (hi : DI X G W tg iter fi) (ok : ∀ i, BlkOk (X i).N (X i).env.scope scope own) (hg : DG (Bx X scope) G tg gvs g) (hsub : ∀ j ∈ gvs, j ∈ own.map (·.2)) (ht : DTs (Bx X scope) G W0 ifs ft) (he : DE (Bx X scope) G W0 elt fe)
    (hs : ∀ i x, foldedSetIterable iter (X i).env x = pure x := by intro _ _; rfl) : DE X G W (.ListComp elt [⟨tg, iter, ifs, 0⟩] scope pos) (eLc fi g ft fe (own.map (·.2))) := by
  obtain ⟨wi, pi, li⟩ := hi
  obtain ⟨gt, pg, lg⟩ := hg
  obtain ⟨tt, pt, lt⟩ := ht
  obtain ⟨te, pe, le⟩ := he
  exact ⟨_, fun i => pe_lc (F.calm i) (F.nd i) (pi i) (ok i) (fun s H C cl fp => pg (i, s, H, C, cl, fp)) (fun s H C cl fp => pt (i, s, H, C, cl, fp)) (fun s H C cl fp => pe (i, s, H, C, cl, fp)) (hs i), fun Fg O ρ σ H Q r h => lc_law (X := X) li lg lt le hsub r h⟩
/-- name = [.. for ..], the name a plain local -/
theorem ds_setLc {j : Nat} {y : Str} {py spos : Pos} {elt tg iter : Expr} {ifs : List Expr} {scope : Scope} {own : List (Str × Nat)} {fi : RS → Rs (List PyData)} {gvs : List Nat} {g : PyData → RS → Option RS} {ft : RS → Rs Bool} {fe : RS → Rs PyData}
    (F : Fam X G W k) (hy : ∀ i, (X i).N[j]? = some y) (hyl : ∀ i, (X i).env.scope.names.lookup y = some .local) (hsw : ∀ i, swapsWith (.ListComp elt [⟨tg, iter, ifs, 0⟩] scope pos) (some (.Name y py)) spos.line (X i).env = pure true)
    (hi : DI X G W tg iter fi) (ok : ∀ i, BlkOk (X i).N (X i).env.scope scope own) (hg : DG (Bx X scope) G tg gvs g) (hsub : ∀ j ∈ gvs, j ∈ own.map (·.2)) (ht : DTs (Bx X scope) G W0 ifs ft) (he : DE (Bx X scope) G W0 elt fe)
    (hs : ∀ i x, foldedSetIterable iter (X i).env x = pure x := by intro _ _; rfl) : DS X G W (.Assign [.Name y py] (.ListComp elt [⟨tg, iter, ifs, 0⟩] scope pos) spos) (sAsg (eLc fi g ft fe (own.map (·.2))) (setD j)) := by
  obtain ⟨wi, pi, li⟩ := hi
  obtain ⟨gt, pg, lg⟩ := hg
  obtain ⟨tt, pt, lt⟩ := ht
  obtain ⟨te, pe, le⟩ := he
  refine ⟨_, fun i => ps_setLc (F.calm i) (F.nd i) (hy i) (hyl i) (hsw i) (pi i) (ok i) (fun s H C cl fp => pg (i, s, H, C, cl, fp)) (fun s H C cl fp => pt (i, s, H, C, cl, fp)) (fun s H C cl fp => pe (i, s, H, C, cl, fp)) (hs i), fun Fg O ρ σ H D r h => ?_⟩
  refine lc_law (X := X) li lg lt le hsub r ((SPo.out h).imp fun d ρ1 H1 e1 r1 k v rv => ?_)
  unfold setD at k
  by_cases hn : noOwn ρ1 j = true
  · rw [if_pos hn] at k
    exact k O _ H1 .refl (r1.set (noOwn_ok hn) rv)
  · rw [if_neg hn] at k; exact k.elim

/-! ### two for -/
def lc2L (g : PyData → RS → Option RS) (ft : RS → Rs Bool) (fi1 : RS → Rs (List PyData)) (g1 : PyData → RS → Option RS) (ft1 : RS → Rs Bool) (fe : RS → Rs PyData) (vs vs1 : List Nat) : List PyData → RS → Rs (List PyData)
  | [], ρ => .ok [] ρ
  | x :: xs, ρ => match g x ρ with
    | none => .no
    | some ρ1 => (noex (ft ρ1)).bind fun b ρ2 => if b then (noex (fi1 ρ2)).bind fun items ρ3 => if items.length ≤ 1000 ∧ allFree ρ3 vs1 = true then (lcL g1 ft1 fe vs1 items (rwipe ρ3 vs1)).bind fun r ρ4 => if allFree ρ4 vs then (lc2L g ft fi1 g1 ft1 fe vs vs1 xs (rwipe ρ4 vs)).bind fun r2 ρ5 => .ok (r ++ r2) ρ5 else .no else .no
        else if allFree ρ2 vs then lc2L g ft fi1 g1 ft1 fe vs vs1 xs (rwipe ρ2 vs) else .no
end
end DL

-- text DL5
set_option Elab.async false
set_option linter.all false
set_option maxRecDepth 100000
set_option maxHeartbeats 2000000
namespace DL
open PySem PySem.Spec PyProof.Rows L2 GxR

section
variable {ι : Type} {X : ι → Cx} {G : Ctx} {W : WX} {k : Nat} {pos : Pos}
/-! ### what is walked -/
/-- the items of a list or a tuple -/
def seqOf : PyData → Option (List PyData)
  | .list xs => some xs
  | .tuple xs => some xs
  | _ => none
def iSeq (fe : RS → Rs PyData) : RS → Rs (List PyData) := fun ρ => (fe ρ).bind fun d ρ1 => Rs.of (seqOf d) ρ1
theorem walk_lst {B : List Addr} {H : Hp} {a : Addr} {us : List V} {ds : List PyData} (h : H a = some (.lst us)) (hB : a ∉ B) (r : RepAll G.K B H us ds) : WalkD G B H (Itl G.K a) ds := fun S A H' e hS hA i => by
  have h' : H' a = some (.lst us) := e.keep a _ h (by intro ps z; cases z) (.inl fun m => by
    rcases hS a m with z | z
    · exact hB z
    · rw [h] at z; cases z)
  have r' : RepAll G.K A H' us ds := r.ext hS e hA
  have q : SqL G.K H' a us := .inl (.inl h')
  refine ⟨fun d hd => ?_, fun hl => ⟨us, q, by rw [r.length]; exact hl⟩⟩
  obtain ⟨v, hv, rv⟩ := r'.get hd
  refine ⟨⟨us, v, q, hv⟩, fun x H'' y => ?_⟩
  obtain ⟨rfl, y⟩ := y
  have := y us q
  rw [hv] at this
  cases this
  exact ⟨.refl, rv⟩
theorem walk_tp {B : List Addr} {H : Hp} {a : Addr} {us : List V} {ds : List PyData} (h : SqT G.K H a us) (r : RepAll G.K B H us ds) : WalkD G B H (Itt G.K a) ds := fun S A H' e hS hA i => by
  have q : SqT G.K H' a us := SqT.ext h e
  have r' : RepAll G.K A H' us ds := r.ext hS e hA
  refine ⟨fun d hd => ?_, fun hl => ⟨us, q, by rw [r.length]; exact hl⟩⟩
  obtain ⟨v, hv, rv⟩ := r'.get hd
  refine ⟨⟨us, v, q, hv⟩, fun x H'' y => ?_⟩
  obtain ⟨rfl, y⟩ := y
  have := y us q
  rw [hv] at this
  cases this
  exact ⟨.refl, rv⟩
theorem walk_rng {B : List Addr} {H : Hp} {lo : Int} {n : Nat} : WalkD G B H (Itr lo n) ((List.range n).map fun i => PyData.int (lo + (i : Nat))) := fun S A H' e hS hA i => by
  refine ⟨fun d hd => ?_, fun hl => (by simpa using hl : n ≤ i)⟩
  rw [List.getElem?_map] at hd
  by_cases hi : i < n
  · rw [List.getElem?_range hi] at hd
    cases hd
    exact ⟨hi, fun x H'' y => by obtain ⟨rfl, rfl⟩ := y; exact ⟨.refl, .int _⟩⟩
  · rw [List.getElem?_eq_none (by simpa using Nat.le_of_not_lt hi)] at hd
    cases hd
/-- a list or a tuple, walked -/
def iSq (K : PySem.W.Frag) (tl : TE) : TI := fun σ H R => tl σ H fun x H1 => ∃ a, x = .ref a ∧ (((∃ xs, SqL K H1 a xs) ∧ R (Itl K a) H1) ∨ ((∃ xs, SqT K H1 a xs) ∧ R (Itt K a) H1))
theorem pi_sq {Y : Cx} {tg l : Expr} {tl : TE} (hl : PE Y l tl) : PI Y tg l (iSq Y.K tl) := by
  refine ⟨fun pins s σ H R I h => ?_⟩
  refine thn (hl.run pins s σ H _ I h) fun v s1 ⟨x, H1, I1, r1, a, e, q1⟩ => ?_
  subst e
  cases r1
  have fz : ∀ b ∈ [s1.heap.objs.size], FpOk Y pins H1 b := fun b hb => by
    have e : b = s1.heap.objs.size := by simpa using hb
    subst e
    exact I1.fpOk (Nat.le_refl _) (I1.hok.fresh (Nat.le_refl _))
  rcases q1 with ⟨⟨xs, hq⟩, q⟩ | ⟨⟨xs, hq⟩, q⟩
  · obtain ⟨its, rv, p, hz⟩ := I1.list hq
    exact wpAny_pyIter_list p.isList ⟨s1.heap.objs.size, [s1.heap.objs.size], _, _, H1, rfl, I1.kept (t' := s1.toks) fun b o e => Heap.get?_push_of_some _ e, turn_list a _, ⟨_, Heap.get?_push_size _ rfl, rfl, rfl⟩, fz, q⟩
  · obtain ⟨its, rv, p, hz⟩ := I1.tuple hq
    exact wpAny_pyIter_tuple (show s1.heap.IsTuple a its.toArray from p) ⟨s1.heap.objs.size, [s1.heap.objs.size], _, _, H1, rfl, I1.kept (t' := s1.toks) fun b o e => Heap.get?_push_of_some _ e, turn_tuple a _, ⟨_, Heap.get?_push_size _ rfl, rfl, rfl⟩, fz, q⟩
theorem di_seq {tg l : Expr} {fe : RS → Rs PyData} (F : Fam X G W k) (he : DE X G W l fe) : DI X G W tg l (iSeq fe) := by
  obtain ⟨t, p, la⟩ := he
  refine ⟨iSq G.K t, fun i => by rw [← F.K i]; exact pi_sq (p i), fun Fg O ρ σ H Q r h => ?_⟩
  refine la Fg O ρ σ H _ r ((GP.bind h).imp fun d ρ1 H1 e1 r1 k1 v rv => ?_)
  obtain ⟨ds, e, kk⟩ := k1.of
  cases rv with
  | lst q hA rs =>
    cases e
    exact ⟨_, rfl, .inl ⟨⟨_, .inl (.inl q)⟩, kk H1 .refl r1 _ (walk_lst q hA rs)⟩⟩
  | tup q rs =>
    cases e
    exact ⟨_, rfl, .inr ⟨⟨_, q⟩, kk H1 .refl r1 _ (walk_tp q rs)⟩⟩
  | _ => cases e
def rngD (lo hi : Int) : List PyData := (List.range (hi - lo).toNat).map fun i => PyData.int (lo + (i : Nat))
/-- a test that the kernel does not unroll on an unknown length -/
def in62 : Int → Bool
  | .ofNat n => Nat.ble n 4611686018427387903
  | .negSucc n => Nat.ble n 4611686018427387903
theorem in62_ok {i : Int} (h : in62 i = true) : -(2 ^ 62) ≤ i ∧ i < 2 ^ 62 := by
  cases i with
  | ofNat n =>
    have h := Nat.le_of_ble_eq_true h
    show -(2 ^ 62) ≤ (n : Int) ∧ (n : Int) < 2 ^ 62
    constructor <;> omega
  | negSucc n =>
    have h := Nat.le_of_ble_eq_true h
    rw [Int.negSucc_eq]
    constructor <;> omega
def rng1 : List PyData → Option (List PyData)
  | [.int j] => if in62 j then some (rngD 0 j) else none
  | _ => none
def rng2 : List PyData → Option (List PyData)
  | [.int i, .int j] => if in62 i && in62 j then some (rngD i j) else none
  | _ => none
def iRng (g : List PyData → Option (List PyData)) (fs : RS → Rs (List PyData)) : RS → Rs (List PyData) := fun ρ => (fs ρ).bind fun ds ρ1 => Rs.of (g ds) ρ1
theorem di_rng1 {tg a : Expr} {p : Pos} {fs : RS → Rs (List PyData)} (hg : ∀ i, Gl (X i) "range") (hm : ∀ i, (X i).mg "range" = none) (ha : DA X G W [a] fs) (hs : ∀ i, starEach [a] (X i).env = [(false, eval a (X i).env)] := by intro _; rfl) :
    DI X G W tg (.Call (.Name "range" p) [a] [] pos) (iRng rng1 fs) := by
  obtain ⟨t, pa, la⟩ := ha
  refine ⟨_, fun i => pi_range1 (hg i) (hm i) (pa i) (hs i), fun Fg O ρ σ H Q r h => ?_⟩
  refine la Fg O ρ σ H _ r ((GP.bind h).imp fun ds ρ1 H1 e1 r1 k1 vs rv => ?_)
  obtain ⟨items, e, kk⟩ := k1.of
  unfold rng1 at e
  split at e
  · split at e
    · rename_i j hj
      cases e
      cases rv with
      | cons q q2 =>
        cases q; cases q2
        obtain ⟨h1, h2⟩ := in62_ok hj
        refine ⟨j, rfl, h1, h2, ?_⟩
        have := kk H1 .refl r1 (Itr 0 j.toNat) (by
          have z := walk_rng (G := G) (B := adr O ++ Fg) (H := H1) (lo := 0) (n := j.toNat)
          unfold rngD
          rw [Int.sub_zero]
          exact z)
        exact this
    · cases e
  · cases e
theorem di_rng2 {tg a b : Expr} {p : Pos} {fs : RS → Rs (List PyData)} (hg : ∀ i, Gl (X i) "range") (hm : ∀ i, (X i).mg "range" = none) (ha : DA X G W [a, b] fs) (hs : ∀ i, starEach [a, b] (X i).env = [(false, eval a (X i).env), (false, eval b (X i).env)] := by intro _; rfl) (hs2 : ∀ i, starEach [b] (X i).env = [(false, eval b (X i).env)] := by intro _; rfl) :
    DI X G W tg (.Call (.Name "range" p) [a, b] [] pos) (iRng rng2 fs) := by
  obtain ⟨t, pa, la⟩ := ha
  refine ⟨_, fun i => pi_range2 (hg i) (hm i) (pa i) (hs i) (hs2 i), fun Fg O ρ σ H Q r h => ?_⟩
  refine la Fg O ρ σ H _ r ((GP.bind h).imp fun ds ρ1 H1 e1 r1 k1 vs rv => ?_)
  obtain ⟨items, e, kk⟩ := k1.of
  unfold rng2 at e
  split at e
  · split at e
    · rename_i i j hj
      cases e
      cases rv with
      | cons q q2 =>
        cases q2 with
        | cons q2 q3 =>
          cases q; cases q2; cases q3
          simp only [Bool.and_eq_true] at hj
          obtain ⟨h1, h2⟩ := in62_ok hj.1
          obtain ⟨h3, h4⟩ := in62_ok hj.2
          exact ⟨i, j, rfl, ⟨h1, h2, h3, h4⟩, kk H1 .refl r1 _ walk_rng⟩
    · cases e
  · cases e
/-- pairs of two lists, of two tuples -/
def pairD (a b : PyData) : PyData := .tuple [a, b]
def zipG : List PyData → Option (List PyData)
  | [.list xs, .list ys] => some (List.zipWith pairD xs ys)
  | [.tuple xs, .tuple ys] => some (List.zipWith pairD xs ys)
  | _ => none
theorem zip_get {xs ys : List PyData} {i : Nat} {d : PyData} (h : (List.zipWith pairD xs ys)[i]? = some d) : ∃ x y, xs[i]? = some x ∧ ys[i]? = some y ∧ d = pairD x y := by
  rw [List.getElem?_zipWith] at h
  cases h1 : xs[i]? with
  | none => rw [h1] at h; simp at h
  | some x =>
    cases h2 : ys[i]? with
    | none => rw [h1, h2] at h; simp at h
    | some y =>
      rw [h1, h2] at h
      simp only [Option.some.injEq] at h
      exact ⟨x, y, rfl, rfl, h.symm⟩
theorem rep_pair {A : List Addr} {H : Hp} {T : Addr} {x y : V} {dx dy : PyData} (hT : H T = none) (h1 : Rep G.K A H x dx) (h2 : Rep G.K A H y dy) : Rep G.K A (upd H T (.tup [x, y])) (.ref T) (pairD dx dy) :=
  .tup (.inl (.inl upd_same)) (rep_new (.cons h1 (.cons h2 .nil)) hT)
theorem di_zip {a b : Expr} {p tpos : Pos} {elts : List Expr} {kk : Nat} {fs : RS → Rs (List PyData)} (F : Fam X G W k) (hg : ∀ i, Gl (X i) "zip") (hm : ∀ i, (X i).mg "zip" = none) (ha : DA X G W [a, b] fs)
    (hs : ∀ i, starEach [a, b] (X i).env = (false, eval a (X i).env) :: starEach [b] (X i).env := by intro _; rfl) (hpl : ∀ i, (backTo pos (starEach [b] (X i).env)).any (·.1) = false := by intro _; rfl) :
    DI X G W (.Tuple elts kk tpos) (.Call (.Name "zip" p) [a, b] [] pos) (iRng zipG fs) := by
  obtain ⟨t, pa, la⟩ := ha
  refine ⟨RZ.iZipA G.K t, fun i => by rw [← F.K i]; exact RZ.pi_zipA (hg i) (hm i) (pa i) (hs i) (hpl i), fun Fg O ρ σ H Q r h => ?_⟩
  refine la Fg O ρ σ H _ r ((GP.bind h).imp fun ds ρ1 H1 e1 r1 k1 vs rv => ?_)
  obtain ⟨items, e, kk⟩ := k1.of
  unfold zipG at e
  split at e
  · cases e
    rename_i xs ys
    match vs, rv with
    | [_, _], .cons (.lst (xs := us) q1 hA1 rs1) (.cons (.lst (xs := ws) q2 hA2 rs2) .nil) =>
      refine ⟨_, _, us, ws, rfl, .inl ⟨.inl (.inl q1), .inl (.inl q2), kk H1 .refl r1 _ fun S A H' e hS hA i => ?_⟩⟩
      have k1' : ∀ {a : Addr} {us : List V}, H1 a = some (.lst us) → a ∉ adr O ++ Fg → H' a = some (.lst us) := fun {a us} h hB => e.keep a _ h (by intro ps z; cases z) (.inl fun m => by
        rcases hS a m with z | z
        · exact hB z
        · rw [h] at z; cases z)
      have g1 : SqL G.K H' _ us := .inl (.inl (k1' q1 hA1))
      have g2 : SqL G.K H' _ ws := .inl (.inl (k1' q2 hA2))
      refine ⟨fun d hd => ?_, fun hl => ?_⟩
      · obtain ⟨x, y, hx, hy, rfl⟩ := zip_get hd
        obtain ⟨v1, hv1, rv1⟩ := (rs1.ext hS e hA).get hx
        obtain ⟨v2, hv2, rv2⟩ := (rs2.ext hS e hA).get hy
        refine ⟨⟨us, ws, v1, v2, g1, g2, hv1, hv2⟩, fun z H'' yy => ?_⟩
        obtain ⟨T, x1, x2, rfl, nT, rfl, f1, f2⟩ := yy
        have z1 := f1 us g1
        have z2 := f2 ws g2
        rw [hv1] at z1; rw [hv2] at z2
        cases z1; cases z2
        exact ⟨ext_new nT, rep_pair nT rv1 rv2⟩
      · refine ⟨us, ws, g1, g2, ?_⟩
        rw [rs1.length, rs2.length]
        simp only [List.length_zipWith] at hl
        omega
  · cases e
    rename_i xs ys
    match vs, rv with
    | [_, _], .cons (.tup (xs := us) q1 rs1) (.cons (.tup (xs := ws) q2 rs2) .nil) =>
      refine ⟨_, _, us, ws, rfl, .inr ⟨q1, q2, kk H1 .refl r1 _ fun S A H' e hS hA i => ?_⟩⟩
      have g1 : SqT G.K H' _ us := SqT.ext q1 e
      have g2 : SqT G.K H' _ ws := SqT.ext q2 e
      refine ⟨fun d hd => ?_, fun hl => ?_⟩
      · obtain ⟨x, y, hx, hy, rfl⟩ := zip_get hd
        obtain ⟨v1, hv1, rv1⟩ := (rs1.ext hS e hA).get hx
        obtain ⟨v2, hv2, rv2⟩ := (rs2.ext hS e hA).get hy
        refine ⟨⟨us, ws, v1, v2, g1, g2, hv1, hv2⟩, fun z H'' yy => ?_⟩
        obtain ⟨T, x1, x2, rfl, nT, rfl, f1, f2⟩ := yy
        have z1 := f1 us g1
        have z2 := f2 ws g2
        rw [hv1] at z1; rw [hv2] at z2
        cases z1; cases z2
        exact ⟨ext_new nT, rep_pair nT rv1 rv2⟩
      · refine ⟨us, ws, g1, g2, ?_⟩
        rw [rs1.length, rs2.length]
        simp only [List.length_zipWith] at hl
        omega
  · cases e

/-! ### all(.. for .. in ..) -/
def truF : PyData → Option Bool
  | .bool b => some b
  | .int i => some (i != 0)
  | _ => none
theorem truF_ok {K : PySem.W.Frag} {A : List Addr} {H : Hp} {v : V} {d : PyData} {b : Bool} (r : Rep K A H v d) (h : truF d = some b) : TruF v b := by
  cases r <;> simp [truF, scr] at h
  · subst h; exact .inl rfl
  · subst h; exact .inr ⟨_, rfl, rfl⟩
def allL (g : PyData → RS → Option RS) (fe : RS → Rs PyData) (vs : List Nat) : List PyData → RS → Rs Bool
  | [], ρ => .ok true ρ
  | x :: xs, ρ => match g x ρ with
    | none => .no
    | some ρ1 => (noex (fe ρ1)).bind fun d ρ2 => if allFree ρ2 vs then (match truF d with
        | none => .no
        | some true => allL g fe vs xs (rwipe ρ2 vs)
        | some false => .ok false (rwipe ρ2 vs)) else .no
def eAll (fi : RS → Rs (List PyData)) (g : PyData → RS → Option RS) (fe : RS → Rs PyData) (vs : List Nat) : RS → Rs PyData := fun ρ => (fi ρ).bind fun items ρ1 =>
  if allFree ρ1 vs then (noex (allL g fe vs items (rwipe ρ1 vs))).bind fun b ρ2 => if allFree ρ2 vs then .ok (.bool b) (rwipe ρ2 vs) else .no else .no
/-- what all wants behind its items -/
def AP' (G : Ctx) (Fg : List Addr) (O : Own) (σw : L2.St) (Q : VK) (H : Hp) : Rs Bool → Prop
  | .ok b ρ' => ∀ H', Ext (adr O) H H' → R G Fg O ρ' σw H' → Q (.bl b) H'
  | _ => False
theorem AP'.shift {Fg : List Addr} {O : Own} {σw : L2.St} {Q : VK} {H H1 : Hp} {r : Rs Bool} (h : AP' G Fg O σw Q H r) (e : Ext (adr O) H H1) : AP' G Fg O σw Q H1 r := by
  cases r with
  | ok b ρ' => exact fun H' e' r => h H' (e.trans' e') r
  | ex c fs ρ' => exact h
  | no => exact h
/-- the contexts of a generator expression's frame -/
abbrev Gx (X : ι → Cx) (k : Nat) (scope : Scope) : (Σ i : ι, { c : Shared × Hp × Addr × List (Str × Addr) × Value × List Addr × List (Addr × Obj) // Room k ((X i).A.in1.in1.deeper (genEnv scope c.2.2.2.1 c.2.2.1 c.2.2.2.2.1 builtinsNs (X i).env)) }) → Cx :=
  fun j => gx (X j.1) (X j.1).A.in1.in1 j.2.1.1 j.2.1.2.1 (genEnv scope j.2.1.2.2.2.1 j.2.1.2.2.1 j.2.1.2.2.2.2.1 builtinsNs (X j.1).env) j.2.1.2.2.2.2.2.1 j.2.1.2.2.2.2.2.2
theorem famG {scope : Scope} (F : Fam X G W (k + 1)) : Fam (Gx X k scope) G W0 k := ⟨fun j => F.K j.1, fun j => F.calm j.1, fun _ _ _ x => by
  obtain ⟨_, _, _, _, _, _, _, _, _, _, _, _, _, _, _, _, z⟩ := x
  exact z.elim, fun j => F.nd j.1, fun j => j.2.2⟩
theorem de_all {c P : Addr} {elt tg iter : Expr} {p gpos : Pos} {scope : Scope} {own : List (Str × Nat)} {fi : RS → Rs (List PyData)} {gvs : List Nat} {g : PyData → RS → Option RS} {fe : RS → Rs PyData}
    (F : Fam X G W (k + 1)) (hP : P ∈ G.ts) (hgl : ∀ i, Gl (X i) "all") (hm : ∀ i, (X i).mg "all" = none) (TB : ∀ i, TabB (X i).base (X i).mg c P) (hcode : ∀ i, (X i).env.code = .ref c) (hi : DI X G W tg iter fi) (ok : ∀ i, BlkOk (X i).N (X i).env.scope scope own) (gs : ∀ i, GSc (X i).N scope)
    (hg : DG (Gx X k scope) G tg gvs g) (hsub : ∀ j ∈ gvs, j ∈ own.map (·.2)) (he : DE (Gx X k scope) G W0 elt fe)
    (hb : bootBuiltins "all" = some (.builtin "all") := by decide +kernel)
    (hs : ∀ i v, genFold iter (X i).env v = pure v := by intro _ _; rfl) (hst : ∀ i, starEach [.GeneratorExp elt [⟨tg, iter, [], 0⟩] scope gpos] (X i).env = (false, eval (.GeneratorExp elt [⟨tg, iter, [], 0⟩] scope gpos) (X i).env) :: starEach [] (X i).env := by intro _; rfl) :
    DE X G W (.Call (.Name "all" p) [.GeneratorExp elt [⟨tg, iter, [], 0⟩] scope gpos] [] pos) (eAll fi g fe (own.map (·.2))) := by
  obtain ⟨wi, pi, li⟩ := hi
  obtain ⟨gt, pg, lg⟩ := hg
  obtain ⟨te, pe, le⟩ := he
  refine ⟨_, fun i => pe_allG (k := k) (F.calm i) (F.nd i) (F.room i) (hgl i) (hm i) hb (TB i) (hcode i) (pi i) (ok i) (gs i) (fun s H C cl code fp pn hr => pg ⟨i, ⟨(s, H, C, cl, code, fp, pn), hr⟩⟩) (fun s H C cl code fp pn hr => pe ⟨i, ⟨(s, H, C, cl, code, fp, pn), hr⟩⟩) (hs i) (hst i), fun Fg O ρ σ H Q r h => ?_⟩
  generalize hvs : own.map (·.2) = vs at *
  refine li Fg O ρ σ H _ r ((GP.bind h).imp fun items ρ1 H1 e1 r1 k1 J wd => ?_)
  refine ⟨r1.tabs P hP, fun H2 tb => ?_⟩
  have et : Ext (adr O) H1 H2 := ext_tab (r1.tabs P hP) tb
  have et0 : Ext [] H1 H2 := ext_tab (r1.tabs P hP) tb
  have r2 : R G Fg O ρ1 σ H2 := r1.ext0 et0
  by_cases hf : allFree ρ1 vs = true
  · rw [if_pos hf] at k1
    have lp0 : AP' G Fg O (wipe σ vs) Q H2 (allL g fe vs items (rwipe ρ1 vs)) := by
      cases z : allL g fe vs items (rwipe ρ1 vs) with
      | ok b ρ2 =>
        rw [z] at k1
        intro H' e' r'
        have k1 : GP G W Fg O σ (fun d _ H' => ∀ v, Rep G.K (adr O ++ Fg) H' v d → Q v H') H1 (if allFree ρ2 vs then .ok (.bool b) (rwipe ρ2 vs) else .no) := k1
        by_cases hf2 : allFree ρ2 vs = true
        · rw [if_pos hf2] at k1
          exact k1 H' (et.trans' e') (r'.unwipe (vs := vs) (wipe_idem fun _ m => m) (wipe_length _ _) (allFree_ok hf2)) _ (.bl b)
        · rw [if_neg hf2] at k1; exact k1.elim
      | ex c fs ρ2 => rw [z] at k1; exact k1.elim
      | no => rw [z] at k1; exact k1.elim
    refine ⟨fun i m H3 => m = items.length - i ∧ i ≤ items.length ∧ ∃ ρ3, R G Fg O ρ3 (wipe σ vs) H3 ∧ Ext (adr O) H2 H3 ∧ AP' G Fg O (wipe σ vs) Q H3 (allL g fe vs (items.drop i) ρ3),
      ⟨items.length, by simp, Nat.zero_le _, _, r2.wipe vs (allFree_ok hf), .refl, by simpa using lp0⟩, fun i m H3 hW => ?_⟩
    obtain ⟨hm, hi, ρ3, r3, e3, lp3⟩ := hW
    obtain ⟨w1, w2⟩ := wd (adr O) (adr O ++ Fg) H3 (et.trans' e3) (fun a m => .inl (List.mem_append_left _ m)) (fun a m => .inl m) i
    by_cases hlt : i < items.length
    · obtain ⟨go, yl⟩ := w1 items[i] (List.getElem?_eq_getElem hlt)
      rw [drop_get hlt] at lp3
      refine .inr ⟨go, fun x H4 y4 => ?_⟩
      obtain ⟨e4, rx⟩ := yl x H4 y4
      have e4' : Ext (adr O) H3 H4 := e4.mono (by simp)
      unfold allL at lp3
      cases q : g items[i] ρ3 with
      | none => rw [q] at lp3; exact lp3.elim
      | some ρ4 =>
        rw [q] at lp3
        refine lg Fg O ρ3 (wipe σ vs) H4 x items[i] ρ4 _ (r3.ext0 e4) rx q fun σ4 r4 hw4 => ?_
        have hw : wipe σ4 vs = wipe σ vs := (hw4 vs hsub).trans (wipe_idem fun _ m => m)
        refine ⟨hw, ?_⟩
        cases z : fe ρ4 with
        | ex c fs ρ' => simp only [z, noex, Rs.bind] at lp3; exact lp3.elim
        | no => simp only [z, noex, Rs.bind] at lp3; exact lp3.elim
        | ok d ρ5 =>
          simp only [z, noex, Rs.bind] at lp3
          refine le Fg O ρ4 σ4 H4 _ r4 (gp_noex d ρ5 z fun H5 e5 r5 y ry => ?_)
          by_cases hf5 : allFree ρ5 vs = true
          · rw [if_pos hf5] at lp3
            have r6 := r5.wipe vs (allFree_ok hf5)
            rw [hw] at r6
            cases zt : truF d with
            | none => rw [zt] at lp3; exact lp3.elim
            | some b =>
              rw [zt] at lp3
              refine ⟨b, truF_ok ry zt, ?_⟩
              cases b with
              | true => exact ite_tt ⟨items.length - (i + 1), by omega, rfl, hlt, _, r6, (e3.trans' e4').trans' e5, AP'.shift lp3 (e4'.trans' e5)⟩
              | false => exact ite_ff (lp3 H5 (e4'.trans' e5) r6)
          · rw [if_neg hf5] at lp3; exact lp3.elim
    · have hl : items.length ≤ i := Nat.le_of_not_lt hlt
      rw [List.drop_of_length_le hl] at lp3
      have lp3 : AP' G Fg O (wipe σ vs) Q H3 (.ok true ρ3) := lp3
      exact .inl ⟨w2 hl, lp3 H3 .refl r3⟩
  · rw [if_neg hf] at k1; exact k1.elim
end
end DL

-- text DL6
set_option Elab.async false
set_option linter.all false
set_option maxRecDepth 100000
set_option maxHeartbeats 2000000
namespace DL
open PySem PySem.Spec PyProof.Rows L2 GxR

/-! ### defs -/
/-- what a def answers: a datum; an own error; nothing is claimed -/
inductive Fr where
  | ok (d : PyData)
  | ex (c : Str) (fs : List (Str × PyData))
  | no
def FPo (G : Ctx) (Fg : List Addr) (H : Hp) : Fr → VK → XK → Prop
  | .ok d, Q, _ => ∀ v H', Ext [] H H' → Rep G.K Fg H' v d → Q v H'
  | .ex c fs, _, E => ∀ dd H', Ext [] H H' → ExAt fs dd H' → E (.ref (G.ec c)) dd H'
  | .no, _, _ => False
/-- the promise of a def that writes to none of its arguments -/
def spD (G : Ctx) (n : Nat) (F : List PyData → Fr) : Sp := fun vs H Q E => vs.length = n ∧ ∃ Fg ds, RepAll G.K Fg H vs ds ∧ (∀ P ∈ G.ts, TabG H P) ∧ (∀ a ∈ Fg, ∃ xs, H a = some (.lst xs)) ∧ FPo G Fg H (F ds) Q E
/-- .. of one that writes to the list that is its first argument -/
inductive Fi where
  | ok (d : PyData) (xs : List PyData)
  | no
def spI (G : Ctx) (n : Nat) (F : List PyData → List PyData → Fi) : Sp := fun vs H Q _ => vs.length = n ∧ ∃ (Fg : List Addr) (a : Addr) (us : List V) (xs : List PyData) (ws : List V) (ds : List PyData), vs = .ref a :: ws ∧ a ∉ Fg ∧ H a = some (.lst us) ∧ RepAll G.K (a :: Fg) H us xs ∧ RepAll G.K (a :: Fg) H ws ds ∧
  (∀ P ∈ G.ts, TabG H P) ∧ (∀ b ∈ Fg, ∃ zs, H b = some (.lst zs)) ∧ ∃ d xs', F xs ds = .ok d xs' ∧ ∀ v H' us', Ext [a] H H' → H' a = some (.lst us') → RepAll G.K (a :: Fg) H' us' xs' → Rep G.K (a :: Fg) H' v d → Q v H'

section
variable {G : Ctx} {Fg : List Addr} {O : Own} {ρ : RS} {σ : L2.St} {H H' : Hp}
/-- the list of a slot has been written -/
theorem R.upd {a : Addr} {i : Nat} {ws : List V} {xs : List PyData} (r : R G Fg O ρ σ H) (m : (i, a) ∈ O) (hi : i < ρ.length) (hσ : σ[i]? = some (some (V.ref a))) (e : Ext [a] H H') (h' : H' a = some (.lst ws))
    (hx : RepAll G.K (adr O ++ Fg) H' ws xs) : R G Fg O (ρ.set i (Sl.o xs)) σ H' := by
  have sub : ∀ b ∈ [a], b ∈ adr O ++ Fg ∨ H b = none := fun b q => .inl (by
    rw [List.mem_singleton.mp q]
    exact List.mem_append_left _ (R.in_adr m))
  refine ⟨by simp [r.len], fun j y q => ?_, fun j ys q => ?_, r.key, r.inj, r.fg, fun j b q => ?_, fun P hP => e.tab P (r.tabs P hP), fun b q => ?_⟩
  · rcases get_set_d q with ⟨rfl, z⟩ | ⟨hj, z⟩
    · cases z
    · obtain ⟨v, h1, h2⟩ := r.val j y z
      exact ⟨v, h1, h2.ext sub e fun _ m => .inl m⟩
  · rcases get_set_d q with ⟨rfl, z⟩ | ⟨hj, z⟩
    · cases z
      exact ⟨a, ws, m, hσ, h', hx⟩
    · obtain ⟨b, us, h1, h2, h3, h4⟩ := r.own j ys z
      have hne : b ≠ a := fun z => hj (r.inj i j a m (by rw [← z]; exact h1))
      exact ⟨b, us, h1, h2, e.keep b _ h3 (by intro ps z; cases z) (.inl fun q => hne (List.mem_singleton.mp q)), h4.ext sub e fun _ m => .inl m⟩
  · by_cases hj : i = j
    · subst hj; exact ⟨xs, List.getElem?_set_self hi⟩
    · obtain ⟨ys, z⟩ := r.occ j b q
      exact ⟨ys, by rw [List.getElem?_set_ne hj]; exact z⟩
  · by_cases hb : b = a
    · subst hb; exact ⟨ws, h'⟩
    · obtain ⟨us, z⟩ := r.all b q
      exact ⟨us, e.keep b _ z (by intro ps z; cases z) (.inl fun q => hb (List.mem_singleton.mp q))⟩
theorem R.own_at (r : R G Fg O ρ σ H) {i : Nat} {xs : List PyData} (h : ρ[i]? = some (Sl.o xs)) : i < ρ.length := (List.getElem?_eq_some_iff.mp h).1
end

section
variable {ι : Type} {X : ι → Cx} {G : Ctx} {W : WX} {k : Nat} {pos : Pos}
def frRs (f : Fr) (ρ : RS) : Rs PyData := match f with
  | .ok d => .ok d ρ
  | .ex c fs => .ex c fs ρ
  | .no => .no
def eFn (n : Nat) (F : List PyData → Fr) (fs : RS → Rs (List PyData)) : RS → Rs PyData := fun ρ => (fs ρ).bind fun ds ρ1 => if ds.length = n then frRs (F ds) ρ1 else .no
theorem de_fn {x : Str} {p : Pos} {e : Expr} {es : List Expr} {fs : RS → Rs (List PyData)} {j : Nat} {f : Addr} {fd : FuncData} {ps : List Str} {n : Nat} {Fn : List PyData → Fr} (F : Fam X G W k)
    (hF : ∀ i, FnOk (X i).prog (X i).w (X i).K (X i).mg (X i).base (L2.CX (X i).prog (X i).w) j f fd ps (spD G n Fn)) (hj : j ≤ k) (hg : ∀ i, Gl (X i) x) (hm : ∀ i, (X i).mg x = some (.ref f)) (hk : PySem.W.keepIn G.K (.ref f) = true) (hb : Binds G.K fd ps [])
    (ha : DA X G W (e :: es) fs) (hdb : (x == ("__debug__" : Str)) = false := by decide) (he : ∀ i, starEach (e :: es) (X i).env = (false, eval e (X i).env) :: starEach es (X i).env := by intro _; rfl) (hpl : ∀ i, (backTo pos (starEach es (X i).env)).any (·.1) = false := by intro _; rfl) :
    DE X G W (.Call (.Name x p) (e :: es) [] pos) (eFn n Fn fs) := by
  obtain ⟨t, pa, la⟩ := ha
  refine ⟨_, fun i => pe_callS (hF i) ((F.room i).mono hj) (hg i) (hm i) (by rw [F.K i]; exact hk) (by rw [F.K i]; exact hb) (fun σ => passAt (F.takes i) σ) (pa i) hdb (he i) (hpl i), fun Fg O ρ σ H Q r h => ?_⟩
  refine la Fg O ρ σ H _ r ((GP.bind h).imp fun ds ρ1 H1 e1 r1 k1 vs rv => ?_)
  by_cases hl : ds.length = n
  · rw [if_pos hl] at k1
    refine ⟨by rw [rv.length]; exact hl, adr O ++ Fg, ds, rv, r1.tabs, r1.all, ?_⟩
    cases z : Fn ds with
    | ok d =>
      rw [z] at k1
      exact fun v H' e' rv' => k1 H' (e'.mono (by simp)) (r1.ext0 e') v rv'
    | ex c f =>
      rw [z] at k1
      exact fun dd H' e' x => k1 dd H' (e'.mono (by simp)) (r1.ext0 e') x
    | no => rw [z] at k1; exact k1.elim
  · rw [if_neg hl] at k1; exact k1.elim
/-- a call whose first argument is a list of the slot j, which the def writes to -/
def eFnI (j n : Nat) (F : List PyData → List PyData → Fi) (fs : RS → Rs (List PyData)) : RS → Rs PyData := fun ρ => match ρ[j]? with
  | some (.o _) => (fs ρ).bind fun ds ρ1 => match ρ1[j]? with
    | some (.o xs) => if ds.length + 1 = n then (match F xs ds with
      | .ok d xs' => .ok d (ρ1.set j (Sl.o xs'))
      | .no => .no) else .no
    | _ => .no
  | _ => .no
theorem de_fnI {x y : Str} {p p1 : Pos} {es : List Expr} {fs : RS → Rs (List PyData)} {j q : Nat} {f : Addr} {fd : FuncData} {ps : List Str} {n : Nat} {Fn : List PyData → List PyData → Fi} (F : Fam X G W k)
    (hF : ∀ i, FnOk (X i).prog (X i).w (X i).K (X i).mg (X i).base (L2.CX (X i).prog (X i).w) q f fd ps (spI G n Fn)) (hq : q ≤ k) (hN : ∀ i, (X i).N[j]? = some y) (hv : ∀ i, Vis (X i).env.scope y) (hg : ∀ i, Gl (X i) x) (hm : ∀ i, (X i).mg x = some (.ref f)) (hk : PySem.W.keepIn G.K (.ref f) = true) (hb : Binds G.K fd ps [])
    (ha : DA X G W es fs) (hd : (y == ("__debug__" : Str)) = false := by decide) (hcd : (y == ("__classdict__" : Str)) = false := by decide) (hdb : (x == ("__debug__" : Str)) = false := by decide)
    (he : ∀ i, starEach (.Name y p1 :: es) (X i).env = (false, eval (.Name y p1) (X i).env) :: starEach es (X i).env := by intro _; rfl) (hpl : ∀ i, (backTo pos (starEach es (X i).env)).any (·.1) = false := by intro _; rfl) :
    DE X G W (.Call (.Name x p) (.Name y p1 :: es) [] pos) (eFnI j n Fn fs) := by
  obtain ⟨t, pa, la⟩ := ha
  refine ⟨_, fun i => pe_callS (hF i) ((F.room i).mono hq) (hg i) (hm i) (by rw [F.K i]; exact hk) (by rw [F.K i]; exact hb) (fun σ => passAt (F.takes i) σ) (pa_cons (pe_var (hN i) (hv i) hd hcd) (pa i) (he i)) hdb (he i) (hpl i), fun Fg O ρ σ H Q r h => ?_⟩
  unfold eFnI at h
  split at h
  · rename_i xs0 e0
    obtain ⟨a, us0, h1, h2, h3, h4⟩ := r.own j xs0 e0
    refine ⟨_, h2, la Fg O ρ σ H _ r ((GP.bind h).imp fun ds ρ1 H1 e1 r1 k1 vs rv => ?_)⟩
    split at k1
    · rename_i xs e2
      by_cases hl : ds.length + 1 = n
      · rw [if_pos hl] at k1
        obtain ⟨a', us, g1, g2, g3, g4⟩ := r1.own j xs e2
        obtain rfl : a = a' := r1.key j a a' h1 g1
        cases z : Fn xs ds with
        | no => rw [z] at k1; exact k1.elim
        | ok d xs' =>
          rw [z] at k1
          have mem : ∀ b, b ∈ a :: ((adr O).filter (fun c => decide (c ≠ a)) ++ Fg) ↔ b ∈ adr O ++ Fg := fun b => by
            constructor
            · intro m
              rcases List.mem_cons.mp m with z | z
              · subst z; exact List.mem_append_left _ (R.in_adr g1)
              · rcases List.mem_append.mp z with z | z
                · exact List.mem_append_left _ (List.mem_filter.mp z).1
                · exact List.mem_append_right _ z
            · intro m
              by_cases hb : b = a
              · subst hb; exact List.mem_cons_self
              · rcases List.mem_append.mp m with z | z
                · exact List.mem_cons_of_mem _ (List.mem_append_left _ (List.mem_filter.mpr ⟨z, by simpa using hb⟩))
                · exact List.mem_cons_of_mem _ (List.mem_append_right _ z)
          refine ⟨by rw [List.length_cons, rv.length]; exact hl, (adr O).filter (fun c => decide (c ≠ a)) ++ Fg, a, us, xs, vs, ds, rfl, fun m => ?_, g3, g4.fewer fun b m => (mem b).mp m, rv.fewer fun b m => (mem b).mp m, r1.tabs, fun b m => ?_, d, xs', z, fun v H' us' e' ha' rx rd => ?_⟩
          · rcases List.mem_append.mp m with z | z
            · have := (List.mem_filter.mp z).2
              simp at this
            · exact r1.fg _ g1 z
          · exact r1.all b ((mem b).mp (List.mem_cons_of_mem _ m))
          · exact k1 H' (e'.mono fun b m => by rw [List.mem_singleton.mp m]; exact R.in_adr g1) (r1.upd g1 (r1.own_at e2) g2 e' ha' (rx.fewer fun b m => (mem b).mpr m)) v (rd.fewer fun b m => (mem b).mpr m)
      · rw [if_neg hl] at k1; exact k1.elim
    · exact k1.elim
  · exact h.elim
end

/-- an exception of the body is one of the def -/
abbrev WF (E : XK) : WX := fun cls d _ H => E cls d H
section
variable {P : Program} {w : World} {K : PySem.W.Frag} {mg : Str → Option Value} {base : Heap} {G : Ctx} {x qual : Str} {st : Stmt} {f : Addr} {fd : FuncData} {N ps : List Str} {k : Nat}
/-- the contexts of a def's body: one -/
abbrev Cf (P : Program) (w : World) (K : PySem.W.Frag) (mg : Str → Option Value) (base : Heap) (N : List Str) (qual : Str) (st : Stmt) (f : Addr) (fd : FuncData) (A : Around) (outer : List Env) (s : Shared) (H : Hp) (E : XK) : Unit → Cx :=
  fun _ => cxOf (L2.CX P w) P w K mg base N qual (defScope st) f fd.code A outer s H E
theorem fam_of {A : Around} {outer : List Env} {s : Shared} {H : Hp} {E : XK} (S : FnScope N ps (defScope st)) (hK : K = G.K) (hr : Room k (A.deeper (envOfC qual (defScope st) s.heap.objs.size f fd.code))) : Fam (Cf P w K mg base N qual st f fd A outer s H E) G (WF E) k :=
  ⟨fun _ => hK, fun _ => rfl, fun _ => takes_of rfl rfl rfl rfl, fun _ => S.nd, fun _ => hr⟩
theorem owns_of {A : Around} {outer : List Env} {s : Shared} {H : Hp} {E : XK} : ∀ i, PassesOwn (model (Cf P w K mg base N qual st f fd A outer s H E i).prog (Cf P w K mg base N qual st f fd A outer s H E i).w) (Cf P w K mg base N qual st f fd A outer s H E i).A (Cf P w K mg base N qual st f fd A outer s H E i).env (Cf P w K mg base N qual st f fd A outer s H E i).xe := fun i => passes_of (X := Cf P w K mg base N qual st f fd A outer s H E i) rfl
theorem fun_okC {sp : Sp} (F : Fun K x qual st f fd) (S : FnScope N ps (defScope st)) (len : ∀ vs H Q E, sp vs H Q E → vs.length = ps.length)
    (hbody : ∀ (A : Around) (outer : List Env) (s : Shared) (H : Hp) (vs : List V) (Q : VK) (E : XK), Room k (A.deeper (envOfC qual (defScope st) s.heap.objs.size f fd.code)) → sp vs H Q E →
      ∃ t, PSs (cxOf (L2.CX P w) P w K mg base N qual (defScope st) f fd.code A outer s H E) (defBody st) t ∧ t { nx := fun _ H' => Q .non H', rt := Q } (L2.start N vs) H) : FnOk P w K mg base (L2.CX P w) (k + 1) f fd ps sp := by
  obtain ⟨oc, od, kV, doc, pm, an, cdv, ct, osl, rfl, lk, hcd⟩ := F.ex
  exact fn_of lk hcd S len fun A outer s H vs Q E hr hsp => hbody A outer s H vs Q E hr hsp
def outFr (o : Out) : Fr := match o with
  | .rt d _ => .ok d
  | .rto d _ => .ok d
  | .nx _ => .ok .none
  | .ex c fs _ => .ex c fs
  | _ => .no
/-- the def's answer, by its body; n parameters, m names -/
def fnD (n m : Nat) (fb : RS → Out) (ds : List PyData) : Fr := outFr (fb (ds.map Sl.d ++ List.replicate (m - n) Sl.n))
theorem start_get {vs : List V} {N : List Str} {i : Nat} {v : V} (h : vs[i]? = some v) : (L2.start N vs)[i]? = some (some v) := by
  unfold L2.start
  have hi : i < vs.length := (List.getElem?_eq_some_iff.mp h).1
  rw [List.getElem?_append_left (by simpa using hi), List.getElem?_map, h]
  rfl
theorem fn_ok {fb : RS → Out} (F : Fun K x qual st f fd) (S : FnScope N ps (defScope st)) (hK : K = G.K) (hpl : ps.length ≤ N.length)
    (body : ∀ (A : Around) (outer : List Env) (s : Shared) (H : Hp) (E : XK), Room k (A.deeper (envOfC qual (defScope st) s.heap.objs.size f fd.code)) → DSs (Cf P w K mg base N qual st f fd A outer s H E) G (WF E) (defBody st) fb) :
    FnOk P w K mg base (L2.CX P w) (k + 1) f fd ps (spD G ps.length (fnD ps.length N.length fb)) := by
  refine fun_okC F S (fun vs H Q E h => h.1) fun A outer s H vs Q E hr hsp => ?_
  obtain ⟨hl, Fg, ds, rv, tabs, all, post⟩ := hsp
  obtain ⟨t, p, l⟩ := body A outer s H E hr
  refine ⟨t, p (), l Fg [] (ds.map Sl.d ++ List.replicate (N.length - ps.length) Sl.n) (L2.start N vs) H _ ?_ ?_⟩
  · have hlen := rv.length
    have noO : ∀ (i : Nat) (xs : List PyData), (ds.map Sl.d ++ List.replicate (N.length - ps.length) Sl.n)[i]? ≠ some (Sl.o xs) := fun i xs e => by
      rcases List.mem_append.mp (List.mem_of_getElem? e) with m | m
      · obtain ⟨d, _, z⟩ := List.mem_map.mp m
        cases z
      · have := (List.mem_replicate.mp m).2
        cases this
    refine ⟨?_, fun i d e => ?_, fun i xs e => (noO i xs e).elim, fun _ _ _ m => (by cases m), fun _ _ _ m => (by cases m), fun _ m => (by cases m), fun _ _ m => (by cases m), tabs, fun a m => all a m⟩
    · unfold L2.start
      simp only [List.length_append, List.length_map, List.length_replicate]
      omega
    · by_cases hi : i < ds.length
      · rw [List.getElem?_append_left (by simpa using hi), List.getElem?_map] at e
        cases q : ds[i]? with
        | none => rw [q] at e; cases e
        | some d' =>
          rw [q] at e
          cases e
          obtain ⟨v, h1, h2⟩ := rv.get q
          exact ⟨v, start_get h1, h2⟩
      · rw [List.getElem?_append_right (by simpa using Nat.le_of_not_lt hi)] at e
        have := (List.mem_replicate.mp (List.mem_of_getElem? e)).2
        cases this
  · unfold fnD at post
    cases z : fb (ds.map Sl.d ++ List.replicate (N.length - ps.length) Sl.n) with
    | nx ρ' => rw [z] at post; exact fun O' σ' H' e r => post .non H' e.ext .non
    | rt d ρ' => rw [z] at post; exact fun O' σ' v H' e r rd => post v H' e.ext (rd.fewer fun a m => List.mem_append_right _ m)
    | rto d ρ' => rw [z] at post; exact fun O' σ' v H' e r rd => post v H' e.ext rd
    | bk ρ' => rw [z] at post; exact post.elim
    | ct ρ' => rw [z] at post; exact post.elim
    | ex c fs ρ' => rw [z] at post; exact fun O' σ' dd H' e r x => post dd H' e.ext x
    | no => rw [z] at post; exact post.elim
def outFi (o : Out) : Fi := match o with
  | .rt d ρ => (match ρ[0]? with
    | some (Sl.o xs) => .ok d xs
    | _ => .no)
  | .nx ρ => (match ρ[0]? with
    | some (Sl.o xs) => .ok .none xs
    | _ => .no)
  | _ => .no
def fnI (n m : Nat) (fb : RS → Out) (xs : List PyData) (ds : List PyData) : Fi := outFi (fb (Sl.o xs :: ds.map Sl.d ++ List.replicate (m - n) Sl.n))
theorem fni_ok {fb : RS → Out} (F : Fun K x qual st f fd) (S : FnScope N ps (defScope st)) (hK : K = G.K) (hpl : ps.length ≤ N.length)
    (body : ∀ (A : Around) (outer : List Env) (s : Shared) (H : Hp) (E : XK), Room k (A.deeper (envOfC qual (defScope st) s.heap.objs.size f fd.code)) → DSs (Cf P w K mg base N qual st f fd A outer s H E) G (WF E) (defBody st) fb) :
    FnOk P w K mg base (L2.CX P w) (k + 1) f fd ps (spI G ps.length (fnI ps.length N.length fb)) := by
  refine fun_okC F S (fun vs H Q E h => h.1) fun A outer s H vs Q E hr hsp => ?_
  obtain ⟨hl, Fg, a, us, xs, ws, ds, rfl, ha, hH, rx, rv, tabs, all, d, xs', hF, post⟩ := hsp
  obtain ⟨t, p, l⟩ := body A outer s H E hr
  refine ⟨t, p (), l Fg [(0, a)] (Sl.o xs :: ds.map Sl.d ++ List.replicate (N.length - ps.length) Sl.n) (L2.start N (.ref a :: ws)) H _ ?_ ?_⟩
  · have hlen := rv.length
    refine ⟨?_, fun i d e => ?_, fun i zs e => ?_, fun i b c m1 m2 => ?_, fun i j b m1 m2 => ?_, fun q m => ?_, fun i b m => ?_, tabs, fun b m => ?_⟩
    · unfold L2.start
      simp only [List.length_append, List.length_map, List.length_replicate, List.length_cons] at hl ⊢
      omega
    · cases i with
      | zero => cases e
      | succ i =>
        have e : (ds.map Sl.d ++ List.replicate (N.length - ps.length) Sl.n)[i]? = some (Sl.d d) := e
        by_cases hi : i < ds.length
        · rw [List.getElem?_append_left (by simpa using hi), List.getElem?_map] at e
          cases q : ds[i]? with
          | none => rw [q] at e; cases e
          | some d' =>
            rw [q] at e
            cases e
            obtain ⟨v, h1, h2⟩ := rv.get q
            exact ⟨v, start_get (i := i + 1) h1, h2⟩
        · rw [List.getElem?_append_right (by simpa using Nat.le_of_not_lt hi)] at e
          have := (List.mem_replicate.mp (List.mem_of_getElem? e)).2
          cases this
    · cases i with
      | zero =>
        cases e
        exact ⟨a, us, List.mem_singleton.mpr rfl, start_get (i := 0) rfl, hH, rx⟩
      | succ i =>
        have e : (ds.map Sl.d ++ List.replicate (N.length - ps.length) Sl.n)[i]? = some (Sl.o zs) := e
        rcases List.mem_append.mp (List.mem_of_getElem? e) with m | m
        · obtain ⟨d, _, z⟩ := List.mem_map.mp m
          cases z
        · have := (List.mem_replicate.mp m).2
          cases this
    · cases List.mem_singleton.mp m1
      cases List.mem_singleton.mp m2
      rfl
    · cases List.mem_singleton.mp m1
      cases List.mem_singleton.mp m2
      rfl
    · cases List.mem_singleton.mp m
      exact ha
    · cases List.mem_singleton.mp m
      exact ⟨xs, rfl⟩
    · rcases List.mem_cons.mp m with z | z
      · subst z; exact ⟨us, hH⟩
      · exact all b z
  · unfold fnI at hF
    have fin : ∀ {O' : Own} {σ' : L2.St} {H' : Hp} {ρ' : RS} {v : V}, Evo [(0, a)] H O' H' → R G Fg O' ρ' σ' H' → ρ'[0]? = some (Sl.o xs') → Rep G.K (adr O' ++ Fg) H' v d → Q v H' := fun {O' σ' H' ρ' v} e r q rd => by
      obtain ⟨a', us', h1, h2, h3, h4⟩ := r.own 0 xs' q
      obtain rfl : a = a' := r.key 0 a a' (e.sub _ (List.mem_singleton.mpr rfl)) h1
      have sub : ∀ b ∈ a :: Fg, b ∈ adr O' ++ Fg := fun b m => by
        rcases List.mem_cons.mp m with z | z
        · subst z; exact List.mem_append_left _ (R.in_adr h1)
        · exact List.mem_append_right _ z
      exact post v H' us' e.ext h3 (h4.fewer sub) (rd.fewer sub)
    cases z : fb (Sl.o xs :: ds.map Sl.d ++ List.replicate (N.length - ps.length) Sl.n) with
    | nx ρ' =>
      rw [z] at hF
      intro O' σ' H' e r
      unfold outFi at hF
      simp only at hF
      split at hF
      · cases hF
        exact fin e r (by assumption) .non
      · cases hF
    | rt d' ρ' =>
      rw [z] at hF
      intro O' σ' v H' e r rd
      unfold outFi at hF
      simp only at hF
      split at hF
      · cases hF
        exact fin e r (by assumption) rd
      · cases hF
    | rto d ρ' => rw [z] at hF; cases hF
    | bk ρ' => rw [z] at hF; cases hF
    | ct ρ' => rw [z] at hF; cases hF
    | ex c fs ρ' => rw [z] at hF; cases hF
    | no => rw [z] at hF; cases hF
end
end DL

-- text DL7
set_option Elab.async false
set_option linter.all false
set_option maxRecDepth 100000
set_option maxHeartbeats 2000000
namespace DL
open PySem PySem.Spec PyProof.Rows L2 GxR

section
variable {G : Ctx} {A : List Addr} {H : Hp}
theorem rep_int {v : V} {i : Int} (h : Rep G.K A H v (.int i)) : v = .int i := by cases h; rfl
theorem rep_str {v : V} {x : Str} (h : Rep G.K A H v (.str x)) : v = .str x := by cases h; rfl
theorem rep_list {v : V} {ds : List PyData} (h : Rep G.K A H v (.list ds)) : ∃ a us, v = .ref a ∧ H a = some (.lst us) ∧ a ∉ A ∧ RepAll G.K A H us ds := by
  cases h with
  | lst q hA rs => exact ⟨_, _, rfl, q, hA, rs⟩
theorem rep_tup {v : V} {ds : List PyData} (h : Rep G.K A H v (.tuple ds)) : ∃ a us, v = .ref a ∧ SqT G.K H a us ∧ RepAll G.K A H us ds := by
  cases h with
  | tup q rs => exact ⟨_, _, rfl, q, rs⟩
theorem same_new {p : Addr} {u : HO} (h : H p = none) : Same H (upd H p u) := fun b o e => by rw [upd_ne (ne_of_none e h)]; exact e
/-- a new list, a new tuple -/
theorem new_lst {us : List V} {ds : List PyData} {Q : VK} (all : ∀ a ∈ A, ∃ xs, H a = some (.lst xs)) (r : RepAll G.K A H us ds) (q : ∀ v H', Same H H' → Rep G.K A H' v (.list ds) → Q v H') : ∀ p, H p = none → Q (.ref p) (upd H p (.lst us)) := fun p hp =>
  q _ _ (same_new hp) (.lst upd_same (fresh_not all hp) (rep_new r hp))
theorem new_tup {us : List V} {ds : List PyData} {Q : VK} (r : RepAll G.K A H us ds) (q : ∀ v H', Same H H' → Rep G.K A H' v (.tuple ds) → Q v H') : ∀ p, H p = none → Q (.ref p) (upd H p (.tup us)) := fun p hp =>
  q _ _ (same_new hp) (.tup (.inl (.inl upd_same)) (rep_new r hp))
end

/-! ### operators -/
section
variable {X : Cx} {G : Ctx}
def rAddG (K : PySem.W.Frag) : R2 := fun x y H Q => rI0 (fun i j => .int (i + j)) x y H Q ∨ (∃ i j, x = .str i ∧ y = .str j ∧ i.length + j.length ≤ sizeLine ∧ Q (.str (i ++ j)) H) ∨ rCat x y H Q ∨ rCatA K x y H Q
theorem or_addG (hK : X.K = G.K) : OpR X (binaryOp .Add) (rAddG G.K) := by
  rw [← hK]
  exact op_add.or (op_add_str.or (op_cat.or op_catA))
def gAdd : PyData → PyData → Option PyData
  | .int i, .int j => some (.int (i + j))
  | .str x, .str y => if x.length + y.length ≤ sizeLine then some (.str (x ++ y)) else none
  | .list xs, .list ys => if xs.length + ys.length ≤ sizeLine then some (.list (xs ++ ys)) else none
  | .tuple xs, .tuple ys => if xs.length + ys.length ≤ sizeLine then some (.tuple (xs ++ ys)) else none
  | _, _ => none
theorem od_add : OpD G (rAddG G.K) gAdd := by
  intro A H x y dx dy d Q all rx ry e q
  unfold gAdd at e
  split at e
  · cases e
    rw [rep_int rx, rep_int ry]
    exact .inl ⟨_, _, rfl, rfl, q _ _ (Same.refl _) (.int _)⟩
  · split at e
    · rename_i h
      cases e
      rw [rep_str rx, rep_str ry]
      exact .inr (.inl ⟨_, _, rfl, rfl, h, q _ _ (Same.refl _) (.str _)⟩)
    · cases e
  · split at e
    · rename_i xs ys h
      cases e
      obtain ⟨a, us, rfl, h1, n1, r1⟩ := rep_list rx
      obtain ⟨b, ws, rfl, h2, n2, r2⟩ := rep_list ry
      exact .inr (.inr (.inl ⟨a, b, us, ws, rfl, rfl, h1, h2, by rw [r1.length, r2.length]; exact h, new_lst all (r1.append r2) q⟩))
    · cases e
  · split at e
    · rename_i xs ys h
      cases e
      obtain ⟨a, us, rfl, h1, r1⟩ := rep_tup rx
      obtain ⟨b, ws, rfl, h2, r2⟩ := rep_tup ry
      refine .inr (.inr (.inr ⟨a, b, us, ws, rfl, rfl, h1, h2, by rw [r1.length, r2.length]; exact h, fun z => ?_, fun _ z => ?_, fun _ _ => new_tup (r1.append r2) q⟩))
      · subst z
        have : xs = [] := by cases r1; rfl
        subst this
        exact q _ _ (Same.refl _) (.tup h2 (by simpa using r2))
      · subst z
        have : ys = [] := by cases r2; rfl
        subst this
        exact q _ _ (Same.refl _) (.tup h1 (by simpa using r1))
    · cases e
  · cases e
def gInt (f : Int → Int → Option PyData) : PyData → PyData → Option PyData
  | .int i, .int j => f i j
  | _, _ => none
theorem gInt_some {f : Int → Int → Option PyData} {dx dy d : PyData} (h : gInt f dx dy = some d) : ∃ i j, dx = .int i ∧ dy = .int j ∧ f i j = some d := by
  unfold gInt at h
  split at h
  · exact ⟨_, _, rfl, rfl, h⟩
  · cases h
def gSub : PyData → PyData → Option PyData := gInt fun i j => some (.int (i - j))
theorem od_sub : OpD G (rI0 fun i j => .int (i - j)) gSub := by
  intro A H x y dx dy d Q all rx ry e q
  obtain ⟨i, j, rfl, rfl, e2⟩ := gInt_some e
  cases e2
  rw [rep_int rx, rep_int ry]
  exact ⟨_, _, rfl, rfl, q _ _ (Same.refl _) (.int _)⟩
def lim64 : Int → Bool
  | .ofNat n => Nat.ble n 18446744073709551615
  | .negSucc n => Nat.ble n 18446744073709551614
theorem lim64_ok {i : Int} (h : lim64 i = true) : -(2 ^ 64) < i ∧ i < 2 ^ 64 := by
  cases i with
  | ofNat n =>
    have h := Nat.le_of_ble_eq_true h
    show -(2 ^ 64) < (n : Int) ∧ (n : Int) < 2 ^ 64
    constructor <;> omega
  | negSucc n =>
    have h := Nat.le_of_ble_eq_true h
    rw [Int.negSucc_eq]
    constructor <;> omega
def repN (k : Nat) (xs : List PyData) : List PyData := (List.replicate k xs).flatten
theorem rep_repN {K : PySem.W.Frag} {A : List Addr} {H : Hp} {us : List V} {ds : List PyData} (r : RepAll K A H us ds) : ∀ n : Nat, RepAll K A H (List.replicate n us).flatten (repN n ds)
  | 0 => .nil
  | n + 1 => by
    unfold repN
    rw [List.replicate_succ, List.replicate_succ, List.flatten_cons, List.flatten_cons]
    exact r.append (rep_repN r n)
def rMulG (K : PySem.W.Frag) : R2 := fun x y H Q => rI CMul (fun i j => .int (i * j)) x y H Q ∨ rRep x y H Q ∨ rRepT K x y H Q
theorem or_mulG (hK : X.K = G.K) : OpR X (binaryOp .Mult) (rMulG G.K) := by
  rw [← hK]
  exact op_mul.or (op_rep.or op_repT)
def gMul : PyData → PyData → Option PyData
  | .int i, .int j => if lim64 i || lim64 j then some (.int (i * j)) else none
  | .list xs, .int k => if decide (-(2 ^ 63) ≤ k) && decide (k < 2 ^ 63) && decide (xs.length * k.toNat ≤ sizeLine) then some (.list (repN k.toNat xs)) else none
  | .tuple xs, .int k => if !xs.isEmpty && decide (2 ≤ k) && decide (k ≤ 1000) && decide (xs.length ≤ 1000) then some (.tuple (repN k.toNat xs)) else none
  | _, _ => none
theorem od_mul : OpD G (rMulG G.K) gMul := by
  intro A H x y dx dy d Q all rx ry e q
  unfold gMul at e
  split at e
  · split at e
    · rename_i i j h
      cases e
      rw [rep_int rx, rep_int ry]
      refine .inl ⟨_, _, rfl, rfl, ?_, q _ _ (Same.refl _) (.int _)⟩
      rcases Bool.or_eq_true_iff.mp h with z | z
      · exact .inl (lim64_ok z)
      · exact .inr (lim64_ok z)
    · cases e
  · split at e
    · rename_i xs k h
      cases e
      simp only [Bool.and_eq_true, decide_eq_true_eq] at h
      obtain ⟨a, us, rfl, h1, n1, r1⟩ := rep_list rx
      rw [rep_int ry]
      exact .inr (.inl ⟨a, k, us, rfl, rfl, h1, h.1.1, h.1.2, by rw [r1.length]; exact h.2, new_lst all (rep_repN r1 _) q⟩)
    · cases e
  · split at e
    · rename_i xs k h
      cases e
      simp only [Bool.and_eq_true, decide_eq_true_eq, Bool.not_eq_true', List.isEmpty_eq_false_iff] at h
      obtain ⟨a, us, rfl, h1, r1⟩ := rep_tup rx
      rw [rep_int ry]
      exact .inr (.inr ⟨a, k, us, rfl, rfl, h1, fun z => h.1.1.1 (by subst z; cases r1; rfl), h.1.1.2, h.1.2, by rw [r1.length]; exact h.2, new_tup (rep_repN r1 _) q⟩)
    · cases e
  · cases e
def gIMul : PyData → PyData → Option PyData := gInt fun i j => if lim64 i || lim64 j then some (.int (i * j)) else none
theorem od_imul : OpD G (rI CMul fun i j => .int (i * j)) gIMul := by
  intro A H x y dx dy d Q all rx ry e q
  obtain ⟨i, j, rfl, rfl, e2⟩ := gInt_some e
  split at e2
  · rename_i h
    cases e2
    rw [rep_int rx, rep_int ry]
    refine ⟨_, _, rfl, rfl, ?_, q _ _ (Same.refl _) (.int _)⟩
    rcases Bool.or_eq_true_iff.mp h with z | z
    · exact .inl (lim64_ok z)
    · exact .inr (lim64_ok z)
  · cases e2
def gMod : PyData → PyData → Option PyData := gInt fun i j => if 0 < j then some (.int (i % j)) else none
theorem od_mod : OpD G (rI (fun _ j => 0 < j) fun i j => .int (i % j)) gMod := by
  intro A H x y dx dy d Q all rx ry e q
  obtain ⟨i, j, rfl, rfl, e2⟩ := gInt_some e
  split at e2
  · rename_i h
    cases e2
    rw [rep_int rx, rep_int ry]
    exact ⟨_, _, rfl, rfl, h, q _ _ (Same.refl _) (.int _)⟩
  · cases e2
def lim30 : Int → Bool
  | .ofNat n => Nat.ble 1 n && Nat.ble n 1073741823
  | .negSucc _ => false
theorem lim30_ok {i : Int} (h : lim30 i = true) : 0 < i ∧ i < 1073741824 := by
  cases i with
  | ofNat n =>
    unfold lim30 at h
    rw [Bool.and_eq_true] at h
    have h1 := Nat.le_of_ble_eq_true h.1
    have h2 := Nat.le_of_ble_eq_true h.2
    show 0 < (n : Int) ∧ (n : Int) < 1073741824
    constructor <;> omega
  | negSucc n => cases h
def gDiv : PyData → PyData → Option PyData := gInt fun i j => if lim30 j then some (.int (i / j)) else none
theorem od_div : OpD G (rI CDiv fun i j => .int (i / j)) gDiv := by
  intro A H x y dx dy d Q all rx ry e q
  obtain ⟨i, j, rfl, rfl, e2⟩ := gInt_some e
  split at e2
  · rename_i h
    cases e2
    rw [rep_int rx, rep_int ry]
    exact ⟨_, _, rfl, rfl, lim30_ok h, q _ _ (Same.refl _) (.int _)⟩
  · cases e2
def gPowOk (i j : Int) : Bool := decide (0 ≤ j) && decide (j ≤ 1000000) && decide (i.natAbs < 2 ^ 64)
theorem gPowOk_ok {i j : Int} (h : gPowOk i j = true) : CPow i j := by
  unfold gPowOk at h
  simp only [Bool.and_eq_true, decide_eq_true_eq] at h
  exact ⟨h.1.1, h.1.2, h.2⟩
def gPow : PyData → PyData → Option PyData := gInt fun i j => if gPowOk i j then some (.int (i ^ j.toNat)) else none
theorem od_pow : OpD G (rI CPow fun i j => .int (i ^ j.toNat)) gPow := by
  intro A H x y dx dy d Q all rx ry e q
  obtain ⟨i, j, rfl, rfl, e2⟩ := gInt_some e
  split at e2
  · rename_i h
    cases e2
    rw [rep_int rx, rep_int ry]
    exact ⟨_, _, rfl, rfl, gPowOk_ok h, q _ _ (Same.refl _) (.int _)⟩
  · cases e2
def gShl : PyData → PyData → Option PyData := gInt fun i j => if gPowOk i j then some (.int (i * 2 ^ j.toNat)) else none
theorem od_shl : OpD G (rI CPow fun i j => .int (i * 2 ^ j.toNat)) gShl := by
  intro A H x y dx dy d Q all rx ry e q
  obtain ⟨i, j, rfl, rfl, e2⟩ := gInt_some e
  split at e2
  · rename_i h
    cases e2
    rw [rep_int rx, rep_int ry]
    exact ⟨_, _, rfl, rfl, gPowOk_ok h, q _ _ (Same.refl _) (.int _)⟩
  · cases e2
/-! comparisons -/
def gLe : PyData → PyData → Option PyData := gInt fun i j => some (.bool (decide (i ≤ j)))
def gGt : PyData → PyData → Option PyData := gInt fun i j => some (.bool (decide (j < i)))
def gGe : PyData → PyData → Option PyData := gInt fun i j => some (.bool (decide (j ≤ i)))
theorem od_le : OpD G (rI0 fun i j => .bl (decide (i ≤ j))) gLe := by
  intro A H x y dx dy d Q all rx ry e q
  obtain ⟨i, j, rfl, rfl, e2⟩ := gInt_some e
  cases e2
  rw [rep_int rx, rep_int ry]
  exact ⟨_, _, rfl, rfl, q _ _ (Same.refl _) (.bl _)⟩
theorem od_gt : OpD G (rI0 fun i j => .bl (decide (j < i))) gGt := by
  intro A H x y dx dy d Q all rx ry e q
  obtain ⟨i, j, rfl, rfl, e2⟩ := gInt_some e
  cases e2
  rw [rep_int rx, rep_int ry]
  exact ⟨_, _, rfl, rfl, q _ _ (Same.refl _) (.bl _)⟩
theorem od_ge : OpD G (rI0 fun i j => .bl (decide (j ≤ i))) gGe := by
  intro A H x y dx dy d Q all rx ry e q
  obtain ⟨i, j, rfl, rfl, e2⟩ := gInt_some e
  cases e2
  rw [rep_int rx, rep_int ry]
  exact ⟨_, _, rfl, rfl, q _ _ (Same.refl _) (.bl _)⟩
/-- the ints of a list of ints -/
def intsOf : List PyData → Option (List Int)
  | [] => some []
  | .int i :: xs => (intsOf xs).map (i :: ·)
  | _ => none
theorem intsOf_some : ∀ {ds : List PyData} {ns : List Int}, intsOf ds = some ns → ds = ns.map PyData.int
  | [], ns, h => by cases h; rfl
  | d :: ds, ns, h => by
    cases d with
    | int i =>
      simp only [intsOf] at h
      cases q : intsOf ds with
      | none => rw [q] at h; cases h
      | some ms =>
        rw [q] at h
        cases h
        rw [intsOf_some q]
        rfl
    | _ => simp [intsOf] at h
theorem intsOf_map : ∀ ns : List Int, intsOf (ns.map PyData.int) = some ns
  | [] => rfl
  | n :: ns => by
    show (intsOf (ns.map PyData.int)).map (n :: ·) = _
    rw [intsOf_map ns]
    rfl
def gLt : PyData → PyData → Option PyData
  | .int i, .int j => some (.bool (decide (i < j)))
  | .tuple xs, .tuple ys => (intsOf xs).bind fun ns => (intsOf ys).map fun ms => .bool (HT.lexLt ns ms)
  | _, _ => none
def rLtG (K : PySem.W.Frag) : R2 := fun x y H Q => rI0 (fun i j => .bl (decide (i < j))) x y H Q ∨ rLtT K x y H Q
theorem or_ltG (hK : X.K = G.K) (hu : X.A.units < cLine) : OpR X (compareOp .Lt) (rLtG G.K) := by
  rw [← hK]
  exact op_lt.or (op_ltT hu)
theorem od_lt : OpD G (rLtG G.K) gLt := by
  intro A H x y dx dy d Q all rx ry e q
  unfold gLt at e
  split at e
  · cases e
    rw [rep_int rx, rep_int ry]
    exact .inl ⟨_, _, rfl, rfl, q _ _ (Same.refl _) (.bl _)⟩
  · obtain ⟨ns, e1, e⟩ := Option.bind_eq_some_iff.mp e
    obtain ⟨ms, e2, e⟩ := Option.map_eq_some_iff.mp e
    cases e
    rw [intsOf_some e1] at rx
    rw [intsOf_some e2] at ry
    obtain ⟨a, us, rfl, h1, r1⟩ := rep_tup rx
    obtain ⟨b, ws, rfl, h2, r2⟩ := rep_tup ry
    rw [r1.ints] at h1
    rw [r2.ints] at h2
    exact .inr ⟨a, b, ns, ms, rfl, rfl, h1, h2, q _ _ (Same.refl _) (.bl _)⟩
  · cases e
/-- data that == reads -/
def okD (d : PyData) : Bool := ndd d && SeqAt.shaped d
theorem okD_ok {d : PyData} (h : okD d = true) : ndd d = true ∧ SeqAt.shaped d = true := by
  unfold okD at h
  simpa using h
def gEq (x y : PyData) : Option PyData := if okD x && okD y then some (.bool (PyData.eqv x y)) else none
def gNe (x y : PyData) : Option PyData := if okD x && okD y then some (.bool (!PyData.eqv x y)) else none
theorem or_eqG (hK : X.K = G.K) (hu : X.A.units + 64 < cLine) : OpR X (compareOp .Eq) (rEqD G.K) := by
  rw [← hK]
  exact op_eqD hu
theorem or_neG (hK : X.K = G.K) (hu : X.A.units + 64 < cLine) : OpR X (compareOp .NotEq) (rNeD G.K) := by
  rw [← hK]
  exact op_neD hu
theorem od_eq : OpD G (rEqD G.K) gEq := by
  intro A H x y dx dy d Q all rx ry e q
  unfold gEq at e
  split at e
  · rename_i h
    cases e
    simp only [Bool.and_eq_true] at h
    obtain ⟨h1, h2⟩ := okD_ok h.1
    obtain ⟨h3, h4⟩ := okD_ok h.2
    exact ⟨dx, dy, rx.dp h1, ry.dp h3, h2, h4, q _ _ (Same.refl _) (.bl _)⟩
  · cases e
theorem od_ne : OpD G (rNeD G.K) gNe := by
  intro A H x y dx dy d Q all rx ry e q
  unfold gNe at e
  split at e
  · rename_i h
    cases e
    simp only [Bool.and_eq_true] at h
    obtain ⟨h1, h2⟩ := okD_ok h.1
    obtain ⟨h3, h4⟩ := okD_ok h.2
    exact ⟨dx, dy, rx.dp h1, ry.dp h3, h2, h4, q _ _ (Same.refl _) (.bl _)⟩
  · cases e
/-- x in a list -/
def gIn (neg : Bool) (x y : PyData) : Option PyData := match y with
  | .list ds => if okD x && okD (.list ds) then some (.bool (if neg then !ds.any fun z => PyData.eqv z x else ds.any fun z => PyData.eqv z x)) else none
  | _ => none
theorem or_inG (hK : X.K = G.K) (hu : X.A.units + 65 < cLine) : OpR X (compareOp .In) (rInD G.K) := by
  rw [← hK]
  exact op_inD hu
theorem or_notinG (hK : X.K = G.K) (hu : X.A.units + 65 < cLine) : OpR X (compareOp .NotIn) (rNotInD G.K) := by
  rw [← hK]
  exact op_notInD hu
theorem od_in : OpD G (rInD G.K) (gIn false) := by
  intro A H x y dx dy d Q all rx ry e q
  unfold gIn at e
  split at e
  · split at e
    · rename_i ds h
      cases e
      simp only [Bool.and_eq_true] at h
      obtain ⟨h1, h2⟩ := okD_ok h.1
      obtain ⟨h3, h4⟩ := okD_ok h.2
      exact ⟨dx, ds, rx.dp h1, ry.dp h3, h2, h4, q _ _ (Same.refl _) (.bl _)⟩
    · cases e
  · cases e
theorem od_notin : OpD G (rNotInD G.K) (gIn true) := by
  intro A H x y dx dy d Q all rx ry e q
  unfold gIn at e
  split at e
  · split at e
    · rename_i ds h
      cases e
      simp only [Bool.and_eq_true] at h
      obtain ⟨h1, h2⟩ := okD_ok h.1
      obtain ⟨h3, h4⟩ := okD_ok h.2
      exact ⟨dx, ds, rx.dp h1, ry.dp h3, h2, h4, q _ _ (Same.refl _) (.bl _)⟩
    · cases e
  · cases e
/-- x in a list or tuple of flat things -/
def flatD : PyData → Bool
  | .none => true
  | .bool _ => true
  | .int _ => true
  | .str _ => true
  | _ => false
theorem flat_fv {v : V} {d : PyData} {A : List Addr} {H : Hp} (r : Rep G.K A H v d) (h : flatD d = true) : v = fv d ∧ L2.flatV v = true := by
  cases r <;> first | exact ⟨rfl, rfl⟩ | (simp [flatD, scr] at h)
theorem flat_all {A : List Addr} {H : Hp} : ∀ {vs : List V} {ds : List PyData}, RepAll G.K A H vs ds → ds.all flatD = true → vs = ds.map fv ∧ vs.all L2.flatV = true
  | _, _, .nil, _ => ⟨rfl, rfl⟩
  | _, _, .cons r rs, h => by
    simp only [List.all_cons, Bool.and_eq_true] at h
    obtain ⟨e1, e2⟩ := flat_fv r h.1
    obtain ⟨e3, e4⟩ := flat_all rs h.2
    subst e1
    exact ⟨by rw [e3]; rfl, by rw [List.all_cons, e2, e4]; rfl⟩
def gInF (neg : Bool) (x y : PyData) : Option PyData := match seqOf y with
  | some ds => if flatD x && ds.all flatD then some (.bool (if neg then !inV (fv x) (ds.map fv) else inV (fv x) (ds.map fv))) else none
  | none => none
theorem or_inF (hK : X.K = G.K) : OpR X (compareOp .In) (rIn G.K false) := by
  rw [← hK]
  exact op_in_seq
theorem or_notinF (hK : X.K = G.K) : OpR X (compareOp .NotIn) (rIn G.K true) := by
  rw [← hK]
  exact op_notIn_seq
theorem od_inF {neg : Bool} : OpD G (rIn G.K neg) (gInF neg) := by
  intro A H x y dx dy d Q all rx ry e q
  unfold gInF at e
  cases hs : seqOf dy with
  | none => rw [hs] at e; cases e
  | some ds =>
    rw [hs] at e
    simp only at e
    split at e
    · rename_i h
      cases e
      simp only [Bool.and_eq_true] at h
      obtain ⟨e1, e2⟩ := flat_fv rx h.1
      cases dy <;> simp only [seqOf] at hs <;> cases hs
      · obtain ⟨a, us, rfl, h1, n1, r1⟩ := rep_list ry
        obtain ⟨e3, e4⟩ := flat_all r1 h.2
        refine ⟨a, us, rfl, .inl (.inl (.inl h1)), e2, e4, ?_⟩
        rw [e1, e3]
        exact q _ _ (Same.refl _) (.bl _)
      · obtain ⟨a, us, rfl, h1, r1⟩ := rep_tup ry
        obtain ⟨e3, e4⟩ := flat_all r1 h.2
        refine ⟨a, us, rfl, .inr h1, e2, e4, ?_⟩
        rw [e1, e3]
        exact q _ _ (Same.refl _) (.bl _)
    · cases e
/-- is None, is True -/
def isNone : PyData → Bool
  | .none => true
  | _ => false
def gIsN (neg : Bool) (x y : PyData) : Option PyData := match y with
  | .none => some (.bool (if neg then !isNone x else isNone x))
  | _ => none
theorem isNone_rep {v : V} {d : PyData} {A : List Addr} {H : Hp} (r : Rep G.K A H v d) : decide (v = .non) = isNone d := by
  cases r <;> rfl
theorem od_isN : OpD G (fun x y H Q => y = .non ∧ Q (.bl (decide (x = .non))) H) (gIsN false) := by
  intro A H x y dx dy d Q all rx ry e q
  unfold gIsN at e
  split at e
  · cases e
    cases ry
    refine ⟨rfl, ?_⟩
    rw [isNone_rep rx]
    exact q _ _ (Same.refl _) (.bl _)
  · cases e
theorem od_notN : OpD G (fun x y H Q => y = .non ∧ Q (.bl (!decide (x = .non))) H) (gIsN true) := by
  intro A H x y dx dy d Q all rx ry e q
  unfold gIsN at e
  split at e
  · cases e
    cases ry
    refine ⟨rfl, ?_⟩
    rw [isNone_rep rx]
    exact q _ _ (Same.refl _) (.bl _)
  · cases e
def gIsB (neg : Bool) (x y : PyData) : Option PyData := match x, y with
  | .bool a, .bool b => some (.bool (if neg then !decide (a = b) else decide (a = b)))
  | _, _ => none
theorem od_isB : OpD G rIsB (gIsB false) := by
  intro A H x y dx dy d Q all rx ry e q
  unfold gIsB at e
  split at e
  · cases e
    exact ⟨_, _, rep_bl rx, rep_bl ry, q _ _ (Same.refl _) (.bl _)⟩
  · cases e
theorem od_notB : OpD G rNotB (gIsB true) := by
  intro A H x y dx dy d Q all rx ry e q
  unfold gIsB at e
  split at e
  · cases e
    exact ⟨_, _, rep_bl rx, rep_bl ry, q _ _ (Same.refl _) (.bl _)⟩
  · cases e
/-! subscripts -/
theorem rep_scr {K : PySem.W.Frag} {A : List Addr} {H : Hp} {v : V} {ds : List PyData} (h : Rep K A H v (.dict [(.none, .list ds)])) : ∃ (a : Addr) (ns : List Int), v = .ref a ∧ ds = ns.map PyData.int ∧ SqL K H a (ns.map V.int) := by
  generalize e : PyData.dict [(.none, .list ds)] = d at h
  cases h with
  | @scr a ns q =>
    have e : PyData.dict [(.none, .list ds)] = .dict [(.none, .list (ns.map PyData.int))] := e
    injection e with e
    injection e with e1 e2
    injection e1 with e3 e4
    injection e4 with e5
    exact ⟨a, ns, rfl, e5, q.sql⟩
  | _ => cases e
def gIx : PyData → PyData → Option PyData
  | .dict [(.none, .list ds)], .int i => atI ds i
  | .list ds, .int i => atI ds i
  | .tuple ds, .int i => atI ds i
  | _, _ => none
theorem or_ix (hK : X.K = G.K) : IxR X (rIx G.K) := by
  rw [← hK]
  exact ix_seq
theorem atI_rep {A : List Addr} {H : Hp} {us : List V} {ds : List PyData} {i : Int} {d : PyData} (r : RepAll G.K A H us ds) (h : atI ds i = some d) : ∃ v, atI us i = some v ∧ Rep G.K A H v d := by
  unfold atI at h ⊢
  rw [← r.length] at h
  obtain ⟨j, e, h⟩ := Option.bind_eq_some_iff.mp h
  obtain ⟨v, h1, h2⟩ := r.get h
  exact ⟨v, by rw [e]; exact h1, h2⟩
theorem od_ix : OpD G (rIx G.K) gIx := by
  intro A H x y dx dy d Q all rx ry e q
  unfold gIx at e
  split at e
  · obtain ⟨a, ns, rfl, rfl, h1⟩ := rep_scr rx
    obtain ⟨v, h2, h3⟩ := atI_rep (RepAll.of_ints (K := G.K) (A := A) (H := H) ns) e
    rw [rep_int ry]
    exact .inl ⟨a, _, _, v, rfl, rfl, h1, h2, q _ _ (Same.refl _) h3⟩
  · obtain ⟨a, us, rfl, h1, n1, r1⟩ := rep_list rx
    obtain ⟨v, h2, h3⟩ := atI_rep r1 e
    rw [rep_int ry]
    exact .inl ⟨a, us, _, v, rfl, rfl, .inl (.inl h1), h2, q _ _ (Same.refl _) h3⟩
  · obtain ⟨a, us, rfl, h1, r1⟩ := rep_tup rx
    obtain ⟨v, h2, h3⟩ := atI_rep r1 e
    rw [rep_int ry]
    exact .inr (.inl ⟨a, us, _, v, rfl, rfl, h1, h2, q _ _ (Same.refl _) h3⟩)
  · cases e

/-! ### built-ins -/
def gLen : List PyData → Option PyData
  | [.dict [(.none, .list xs)]] => some (.int xs.length)
  | [.list xs] => some (.int xs.length)
  | [.tuple xs] => some (.int xs.length)
  | [.str x] => if x.length ≤ sizeLine then some (.int x.length) else none
  | _ => none
theorem cr_lenG (hK : X.K = G.K) : CallR X (.builtin "len") (fun xs H Q => ∃ x n, xs = [x] ∧ LenV G.K x H n ∧ Q (.int n) H) := by
  rw [← hK]
  exact call_len
theorem cd_len : CallD G (fun xs H Q => ∃ x n, xs = [x] ∧ LenV G.K x H n ∧ Q (.int n) H) gLen := by
  intro A H xs ds d Q all r e q
  unfold gLen at e
  split at e
  · cases e
    match xs, r with
    | [_], .cons rx .nil =>
      obtain ⟨a, ns, rfl, rfl, h1⟩ := rep_scr rx
      exact ⟨_, _, rfl, .inl ⟨_, h1, rfl⟩, by rw [List.length_map, ← List.length_map (f := PyData.int)]; exact q _ _ (Same.refl _) (.int _)⟩
  · cases e
    match xs, r with
    | [_], .cons rx .nil =>
      obtain ⟨a, us, rfl, h1, n1, r1⟩ := rep_list rx
      exact ⟨_, _, rfl, .inl ⟨us, .inl (.inl h1), rfl⟩, by rw [r1.length]; exact q _ _ (Same.refl _) (.int _)⟩
  · cases e
    match xs, r with
    | [_], .cons rx .nil =>
      obtain ⟨a, us, rfl, h1, r1⟩ := rep_tup rx
      exact ⟨_, _, rfl, .inr ⟨us, h1, rfl⟩, by rw [r1.length]; exact q _ _ (Same.refl _) (.int _)⟩
  · split at e
    · rename_i x h
      cases e
      match xs, r with
      | [_], .cons rx .nil =>
        rw [rep_str rx]
        exact ⟨_, _, rfl, ⟨h, rfl⟩, q _ _ (Same.refl _) (.int _)⟩
    · cases e
  · cases e
def gTupOf : List PyData → Option PyData
  | [.list xs] => some (.tuple xs)
  | [.tuple xs] => some (.tuple xs)
  | _ => none
def rTupOf (K : PySem.W.Frag) : List V → Hp → VK → Prop := fun xs H Q => ∃ p ys, xs = [.ref p] ∧ ((SqL K H p ys ∧ ∀ l, H l = none → Q (.ref l) (upd H l (.tup ys))) ∨ (SqT K H p ys ∧ Q (.ref p) H))
theorem cr_tupOf (hK : X.K = G.K) : CallR X (.type "tuple") (rTupOf G.K) := by
  rw [← hK]
  exact call_tuple_of
theorem cd_tupOf : CallD G (rTupOf G.K) gTupOf := by
  intro A H xs ds d Q all r e q
  unfold gTupOf at e
  split at e
  · cases e
    match xs, r with
    | [_], .cons rx .nil =>
      obtain ⟨a, us, rfl, h1, n1, r1⟩ := rep_list rx
      exact ⟨_, us, rfl, .inl ⟨.inl (.inl h1), new_tup r1 q⟩⟩
  · cases e
    match xs, r with
    | [_], .cons rx .nil =>
      obtain ⟨a, us, rfl, h1, r1⟩ := rep_tup rx
      exact ⟨_, us, rfl, .inr ⟨h1, q _ _ (Same.refl _) (.tup h1 r1)⟩⟩
  · cases e
def gLstOf : List PyData → Option PyData
  | [.list xs] => some (.list xs)
  | [.tuple xs] => some (.list xs)
  | _ => none
def rLstOf (K : PySem.W.Frag) : List V → Hp → VK → Prop := fun xs H Q => ∃ p ys, xs = [.ref p] ∧ (SqL K H p ys ∨ SqT K H p ys) ∧ ∀ l, H l = none → Q (.ref l) (upd H l (.lst ys))
theorem cr_lstOf (hK : X.K = G.K) : CallR X (.type "list") (rLstOf G.K) := by
  rw [← hK]
  exact call_list_of
theorem cd_lstOf : CallD G (rLstOf G.K) gLstOf := by
  intro A H xs ds d Q all r e q
  unfold gLstOf at e
  split at e
  · cases e
    match xs, r with
    | [_], .cons rx .nil =>
      obtain ⟨a, us, rfl, h1, n1, r1⟩ := rep_list rx
      exact ⟨_, us, rfl, .inl (.inl (.inl h1)), new_lst all r1 q⟩
  · cases e
    match xs, r with
    | [_], .cons rx .nil =>
      obtain ⟨a, us, rfl, h1, r1⟩ := rep_tup rx
      exact ⟨_, us, rfl, .inr h1, new_lst all r1 q⟩
  · cases e
def gSum : List PyData → Option PyData
  | [.list xs] => (intsOf xs).map fun ns => .int ns.sum
  | _ => none
theorem cr_sumG (hK : X.K = G.K) (hc : X.calm = true) : CallR X (.builtin "sum") (rSum G.K) := by
  rw [← hK]
  exact cr_sum hc
theorem cd_sum : CallD G (rSum G.K) gSum := by
  intro A H xs ds d Q all r e q
  unfold gSum at e
  split at e
  · obtain ⟨ns, e1, e⟩ := Option.map_eq_some_iff.mp e
    cases e
    match xs, r with
    | [_], .cons rx .nil =>
      rw [intsOf_some e1] at rx
      obtain ⟨a, us, rfl, h1, n1, r1⟩ := rep_list rx
      rw [r1.ints] at h1
      exact ⟨a, ns, rfl, .inl (.inl h1), q _ _ (Same.refl _) (.int _)⟩
  · cases e
/-- the greatest of ints -/
def maxI : List Int → Int
  | [] => 0
  | [x] => x
  | x :: xs => if maxI xs ≤ x then x else maxI xs
theorem maxI_spec : ∀ ns : List Int, ns ≠ [] → maxI ns ∈ ns ∧ ∀ x ∈ ns, x ≤ maxI ns
  | [], h => (h rfl).elim
  | [x], _ => ⟨List.mem_singleton.mpr rfl, fun y m => by rw [List.mem_singleton.mp m]; exact Int.le_refl _⟩
  | x :: y :: ys, _ => by
    obtain ⟨h1, h2⟩ := maxI_spec (y :: ys) (by simp)
    show (if maxI (y :: ys) ≤ x then x else maxI (y :: ys)) ∈ _ ∧ ∀ z ∈ x :: y :: ys, z ≤ if maxI (y :: ys) ≤ x then x else maxI (y :: ys)
    split
    · rename_i h
      refine ⟨List.mem_cons_self, fun z m => ?_⟩
      rcases List.mem_cons.mp m with q | q
      · rw [q]; exact Int.le_refl _
      · exact Int.le_trans (h2 z q) h
    · rename_i h
      refine ⟨List.mem_cons_of_mem _ h1, fun z m => ?_⟩
      rcases List.mem_cons.mp m with q | q
      · rw [q]; omega
      · exact h2 z q
def gMax : List PyData → Option PyData
  | [.list xs] => (intsOf xs).bind fun ns => if ns.isEmpty then none else some (.int (maxI ns))
  | _ => none
theorem cr_maxG (hK : X.K = G.K) (hc : X.calm = true) : CallR X (.builtin "max") (rMax G.K) := by
  rw [← hK]
  exact cr_max hc
theorem cd_max : CallD G (rMax G.K) gMax := by
  intro A H xs ds d Q all r e q
  unfold gMax at e
  split at e
  · obtain ⟨ns, e1, e⟩ := Option.bind_eq_some_iff.mp e
    split at e
    · cases e
    · rename_i hne
      cases e
      have hne : ns ≠ [] := by simpa using hne
      match xs, r with
      | [_], .cons rx .nil =>
        rw [intsOf_some e1] at rx
        obtain ⟨a, us, rfl, h1, n1, r1⟩ := rep_list rx
        rw [r1.ints] at h1
        refine ⟨a, ns, rfl, .inl (.inl h1), List.length_pos_iff.mpr hne, fun m hm hle => ?_⟩
        obtain ⟨g1, g2⟩ := maxI_spec ns hne
        have : m = maxI ns := Int.le_antisymm (g2 m hm) (hle _ g1)
        subst this
        exact q _ _ (Same.refl _) (.int _)
  · cases e
/-- int(n), str(n) -/
def gIntOf : List PyData → Option PyData
  | [.int i] => some (.int i)
  | _ => none
theorem cd_int : CallD G (fun xs H Q => (∃ i, xs = [.int i] ∧ Q (.int i) H) ∨ ∃ k, xs = [.bl k] ∧ Q (.int (if k then 1 else 0)) H) gIntOf := by
  intro A H xs ds d Q all r e q
  unfold gIntOf at e
  split at e
  · cases e
    match xs, r with
    | [_], .cons rx .nil =>
      rw [rep_int rx]
      exact .inl ⟨_, rfl, q _ _ (Same.refl _) (.int _)⟩
  · cases e
def gStrOf : List PyData → Option PyData
  | [.int i] => if i.natAbs.log2 < 1920 then some (.str (Str.ofString (toString i))) else none
  | _ => none
end
end DL

-- text DL8
set_option Elab.async false
set_option linter.all false
set_option maxRecDepth 100000
set_option maxHeartbeats 2000000
namespace DL
open PySem PySem.Spec PyProof.Rows L2 GxR

/-! ### sorting by insertion -/
section
variable {α : Type}
def insB (le : α → α → Bool) (x : α) : List α → List α
  | [] => [x]
  | y :: ys => if le x y then x :: y :: ys else y :: insB le x ys
def isort (le : α → α → Bool) : List α → List α
  | [] => []
  | x :: xs => insB le x (isort le xs)
variable {le : α → α → Bool}
theorem ins_mem {x y : α} : ∀ {l : List α}, y ∈ insB le x l ↔ y = x ∨ y ∈ l
  | [] => by simp [insB]
  | z :: l => by
    unfold insB
    split
    · simp
    · rw [List.mem_cons, ins_mem (l := l), List.mem_cons]
      constructor
      · rintro (h | h | h)
        · exact .inr (.inl h)
        · exact .inl h
        · exact .inr (.inr h)
      · rintro (h | h | h)
        · exact .inr (.inl h)
        · exact .inl h
        · exact .inr (.inr h)
theorem isort_mem {y : α} : ∀ {l : List α}, y ∈ isort le l ↔ y ∈ l
  | [] => by simp [isort]
  | x :: l => by rw [isort, ins_mem, isort_mem (l := l), List.mem_cons]
theorem ins_perm (x : α) : ∀ l : List α, (insB le x l).Perm (x :: l)
  | [] => .refl _
  | z :: l => by
    unfold insB
    split
    · exact .refl _
    · exact ((ins_perm x l).cons z).trans (.swap x z l)
theorem isort_perm : ∀ l : List α, (isort le l).Perm l
  | [] => .refl _
  | x :: l => (ins_perm x (isort le l)).trans ((isort_perm l).cons x)
theorem isort_length (l : List α) : (isort le l).length = l.length := (isort_perm l).length_eq
theorem ins_pw (T : PySem.W.TotalLe le) (x : α) : ∀ {l : List α}, l.Pairwise (fun a b => le a b = true) → (insB le x l).Pairwise fun a b => le a b = true
  | [], _ => List.pairwise_singleton _ _
  | z :: l, h => by
    unfold insB
    split
    · rename_i hx
      refine List.pairwise_cons.mpr ⟨fun y m => ?_, h⟩
      rcases List.mem_cons.mp m with e | m
      · rw [e]; exact hx
      · exact T.trans _ _ _ hx ((List.pairwise_cons.mp h).1 y m)
    · rename_i hx
      obtain ⟨h1, h2⟩ := List.pairwise_cons.mp h
      refine List.pairwise_cons.mpr ⟨fun y m => ?_, ins_pw T x h2⟩
      rcases ins_mem.mp m with e | m
      · rw [e]
        exact (T.total x z).resolve_left hx
      · exact h1 y m
theorem isort_pw (T : PySem.W.TotalLe le) : ∀ l : List α, (isort le l).Pairwise fun a b => le a b = true
  | [] => .nil
  | x :: l => ins_pw T x (isort_pw T l)
theorem ins_filter (T : PySem.W.TotalLe le) (x c : α) : ∀ l : List α, (insB le x l).filter (PySem.W.sameRank le c) = (x :: l).filter (PySem.W.sameRank le c)
  | [] => rfl
  | z :: l => by
    unfold insB
    split
    · rfl
    · rename_i hx
      by_cases h1 : PySem.W.sameRank le c x = true
      · have h2 : ¬ PySem.W.sameRank le c z = true := fun h2 => by
          unfold PySem.W.sameRank at h1 h2
          simp only [Bool.and_eq_true] at h1 h2
          exact hx (T.trans _ _ _ h1.2 h2.1)
        rw [List.filter_cons_of_neg h2, ins_filter T x c l, List.filter_cons_of_pos h1, List.filter_cons_of_pos h1, List.filter_cons_of_neg h2]
      · rw [List.filter_cons_of_neg h1]
        by_cases h2 : PySem.W.sameRank le c z = true
        · rw [List.filter_cons_of_pos h2, List.filter_cons_of_pos h2, ins_filter T x c l, List.filter_cons_of_neg h1]
        · rw [List.filter_cons_of_neg h2, List.filter_cons_of_neg h2, ins_filter T x c l, List.filter_cons_of_neg h1]
theorem isort_filter (T : PySem.W.TotalLe le) (c : α) : ∀ l : List α, (isort le l).filter (PySem.W.sameRank le c) = l.filter (PySem.W.sameRank le c)
  | [] => rfl
  | x :: l => by
    rw [isort, ins_filter T, List.filter_cons, List.filter_cons, isort_filter T c l]
theorem isort_merge (T : PySem.W.TotalLe le) (l : List α) : isort le l = l.mergeSort le := PySem.W.sort_unique T (isort_pw T l) (isort_filter T · l)
end

/-! ### the order of data that are alike: by a key of ints -/
def lexB : List Int → List Int → Bool
  | [], [] => false
  | [], _ :: _ => true
  | _ :: _, [] => false
  | x :: xs, y :: ys => if x = y then lexB xs ys else decide (x < y)
theorem lexB_lt : ∀ xs ys : List Int, lexB xs ys = decide (xs < ys)
  | [], [] => by simp [lexB]
  | [], _ :: _ => by simp [lexB]
  | _ :: _, [] => by simp [lexB]
  | x :: xs, y :: ys => by
    unfold lexB
    by_cases h : x = y
    · rw [if_pos h, lexB_lt xs ys]
      simp [h, List.cons_lt_cons_iff]
    · rw [if_neg h]
      simp [h, List.cons_lt_cons_iff]
/-- 1: an int; 2: a tuple of ints; 3: an int and a tuple of ints -/
def isInts : List PyData → Bool
  | [] => true
  | .int _ :: xs => isInts xs
  | _ => false
def kindS : PyData → Nat
  | .int _ => 1
  | .tuple (.int _ :: xs) => if isInts xs then 2 else (match xs with
    | [.tuple ys] => if isInts ys then 3 else 0
    | _ => 0)
  | _ => 0
def ints0 : List PyData → List Int
  | [] => []
  | .int i :: xs => i :: ints0 xs
  | _ :: xs => ints0 xs
def keyS : PyData → List Int
  | .int i => [i]
  | .tuple (.int i :: xs) => i :: (match xs with
    | [.tuple ys] => ints0 ys
    | xs => ints0 xs)
  | _ => []
theorem isInts_map : ∀ {xs : List PyData}, isInts xs = true → xs = (ints0 xs).map PyData.int
  | [], _ => rfl
  | .int i :: xs, h => by
    have : isInts xs = true := h
    show PyData.int i :: xs = PyData.int i :: (ints0 xs).map PyData.int
    rw [← isInts_map this]
theorem ints0_map : ∀ ns : List Int, ints0 (ns.map PyData.int) = ns
  | [] => rfl
  | n :: ns => by
    show n :: ints0 (ns.map PyData.int) = n :: ns
    rw [ints0_map ns]
theorem kind1 {d : PyData} (h : kindS d = 1) : ∃ i, d = .int i := by
  unfold kindS at h
  split at h
  · exact ⟨_, rfl⟩
  · split at h
    · cases h
    · split at h
      · split at h <;> cases h
      · cases h
  · cases h
theorem keyS_tup {i : Int} : ∀ {xs : List PyData}, isInts xs = true → keyS (.tuple (.int i :: xs)) = i :: ints0 xs
  | [], _ => rfl
  | [.int _], _ => rfl
  | .int _ :: _ :: _, _ => rfl
theorem kind2 {d : PyData} (h : kindS d = 2) : ∃ i ns, d = .tuple (.int i :: ns.map PyData.int) ∧ keyS d = i :: ns := by
  unfold kindS at h
  split at h
  · cases h
  · rename_i i xs
    split at h
    · rename_i hx
      refine ⟨i, ints0 xs, by rw [← isInts_map hx], keyS_tup hx⟩
    · split at h
      · split at h <;> cases h
      · cases h
  · cases h
theorem kind3 {d : PyData} (h : kindS d = 3) : ∃ i ns, d = .tuple [.int i, .tuple (ns.map PyData.int)] ∧ keyS d = i :: ns := by
  unfold kindS at h
  split at h
  · cases h
  · rename_i i xs
    split at h
    · cases h
    · split at h
      · rename_i ys _
        split at h
        · rename_i hy
          refine ⟨i, ints0 ys, by rw [← isInts_map hy], rfl⟩
        · cases h
      · cases h
  · cases h
/-- data that sorted takes: all of one kind -/
def sortOk (ds : List PyData) : Bool := match ds with
  | [] => true
  | d :: ds => !(kindS d == 0) && ds.all fun e => kindS e == kindS d
def leK (a b : PyData) : Bool := !lexB (keyS b) (keyS a)
theorem leK_eq (a b : PyData) : leK a b = decide (keyS a ≤ keyS b) := by
  unfold leK
  rw [lexB_lt]
  by_cases h : keyS b < keyS a
  · have h' : ¬ keyS a ≤ keyS b := fun r => List.not_lt.mpr r h
    simp [h, h']
  · have h' : keyS a ≤ keyS b := List.not_lt.mp h
    simp [h, h']
theorem leK_total : PySem.W.TotalLe leK := ⟨fun a b c h1 h2 => by
  rw [leK_eq, decide_eq_true_eq] at *
  exact List.le_trans h1 h2, fun a b => by
  rw [leK_eq, leK_eq, decide_eq_true_eq, decide_eq_true_eq]
  exact List.le_total _ _⟩
theorem dataLe_id (a b : PyData) : PySem.W.dataLe false (fun d : PyData => d) a b = !PySem.W.dataLt b a := rfl
theorem toks_ints (xs ys : List Int) : PySem.W.rowLt (xs.map .int) (ys.map .int) = decide (xs < ys) := PySem.W.dataLt_ints xs ys

theorem dataLt_key {k : Nat} {a b : PyData} (ha : kindS a = k) (hb : kindS b = k) (hk : k ≠ 0) : PySem.W.dataLt a b = lexB (keyS a) (keyS b) := by
  have h3 : k = 1 ∨ k = 2 ∨ k = 3 := by
    have : kindS a ≤ 3 := by
      unfold kindS
      split
      · decide
      · split
        · decide
        · split
          · split <;> decide
          · decide
      · decide
    omega
  rcases h3 with rfl | rfl | rfl
  · obtain ⟨i, rfl⟩ := kind1 ha
    obtain ⟨j, rfl⟩ := kind1 hb
    rw [PySem.W.dataLt_int]
    show _ = if i = j then false else decide (i < j)
    by_cases h : i = j
    · rw [if_pos h]; simp [h]
    · rw [if_neg h]
  · obtain ⟨i, ns, rfl, e1⟩ := kind2 ha
    obtain ⟨j, ms, rfl, e2⟩ := kind2 hb
    rw [e1, e2, PySem.W.dataLt_tuple, lexB_lt]
    exact toks_ints (i :: ns) (j :: ms)
  · obtain ⟨i, ns, rfl, e1⟩ := kind3 ha
    obtain ⟨j, ms, rfl, e2⟩ := kind3 hb
    have al : PySem.W.alike (.tuple (ns.map PyData.int)) (.tuple (ms.map PyData.int)) = true := by
      show PySem.W.alikeAll _ _ = true
      exact PySem.W.alike_ints ns ms
    rw [e1, e2, PySem.W.dataLt_pair (by simp [PySem.W.alike]) al, PySem.W.dataLt_int, PySem.W.dataLt_tuple]
    have t := toks_ints ns ms
    unfold PySem.W.rowLt at t
    rw [t]
    show _ = if i = j then lexB ns ms else decide (i < j)
    rw [lexB_lt]
    by_cases h : i = j
    · have h' : PyData.eqv (.int i) (.int j) = true := by simp [PyData.eqv, h]
      rw [if_pos h', if_pos h]
      by_cases h2 : PyData.eqv (.tuple (ns.map PyData.int)) (.tuple (ms.map PyData.int)) = true
      · rw [if_pos h2]
        have : ns = ms := eqv_ints h2
        subst this
        simp [List.lt_irrefl]
      · rw [if_neg h2]
    · have h' : ¬ PyData.eqv (.int i) (.int j) = true := by simp [PyData.eqv, h]
      rw [if_neg h', if_neg h]
where
  eqv_ints {ns ms : List Int} (h : PyData.eqv (.tuple (ns.map PyData.int)) (.tuple (ms.map PyData.int)) = true) : ns = ms := by
    have h : PyData.eqvAll (ns.map PyData.int) (ms.map PyData.int) = true := by simpa [PyData.eqv] using h
    induction ns generalizing ms with
    | nil => cases ms with
      | nil => rfl
      | cons m ms => simp [PyData.eqvAll] at h
    | cons n ns ih => cases ms with
      | nil => simp [PyData.eqvAll] at h
      | cons m ms =>
        rw [List.map_cons, List.map_cons, PyData.eqvAll, Bool.and_eq_true] at h
        have e : n = m := by simpa [PyData.eqv] using h.1
        rw [e, ih (by simp [PyData.eqv, h.2]) h.2]
theorem sortOk_kind {ds : List PyData} (h : sortOk ds = true) : ∃ k, k ≠ 0 ∧ ∀ d ∈ ds, kindS d = k := by
  cases ds with
  | nil => exact ⟨1, by decide, fun d m => by cases m⟩
  | cons d ds =>
    unfold sortOk at h
    simp only [Bool.and_eq_true, Bool.not_eq_true', beq_eq_false_iff_ne, ne_eq, List.all_eq_true, beq_iff_eq] at h
    refine ⟨kindS d, h.1, fun e m => ?_⟩
    rcases List.mem_cons.mp m with z | z
    · rw [z]
    · exact h.2 e z
theorem sorted_isort {ds : List PyData} (h : sortOk ds = true) : ds.mergeSort (PySem.W.dataLe false fun d : PyData => d) = isort leK ds := by
  obtain ⟨k, hk, h⟩ := sortOk_kind h
  rw [isort_merge leK_total]
  refine PySem.W.sort_congr fun a ha b hb => ?_
  rw [dataLe_id, dataLt_key (h b hb) (h a ha) hk]
  rfl
theorem alike_kind {k : Nat} {a b : PyData} (ha : kindS a = k) (hb : kindS b = k) (hk : k ≠ 0) (h3 : k = 1 ∨ k = 2 ∨ k = 3) : PySem.W.alike a b = true := by
  rcases h3 with rfl | rfl | rfl
  · obtain ⟨i, rfl⟩ := kind1 ha
    obtain ⟨j, rfl⟩ := kind1 hb
    rfl
  · obtain ⟨i, ns, rfl, e1⟩ := kind2 ha
    obtain ⟨j, ms, rfl, e2⟩ := kind2 hb
    exact PySem.W.alike_ints (i :: ns) (j :: ms)
  · obtain ⟨i, ns, rfl, e1⟩ := kind3 ha
    obtain ⟨j, ms, rfl, e2⟩ := kind3 hb
    have := PySem.W.alike_ints ns ms
    simp [PySem.W.alike, PySem.W.alikeAll, this]
theorem kind_le (d : PyData) : kindS d ≤ 3 := by
  unfold kindS
  split
  · decide
  · split
    · decide
    · split
      · split <;> decide
      · decide
  · decide
theorem sortOk_all {ds : List PyData} (h : sortOk ds = true) : PySem.W.AllAlike ds ∧ PySem.W.Sortable ds ∧ ∀ d ∈ ds, ndd d = true ∧ d.depth ≤ 2 := by
  obtain ⟨k, hk, h⟩ := sortOk_kind h
  have nds : ∀ ns : List Int, nddAll (ns.map PyData.int) = true := fun ns => by
    induction ns with
    | nil => rfl
    | cons n ns ih => simp [nddAll, ndd, ih]
  have one : ∀ d ∈ ds, k = 1 ∨ k = 2 ∨ k = 3 := fun d m => by
    have := kind_le d
    rw [h d m] at this
    omega
  refine ⟨fun a ha b hb => alike_kind (h a ha) (h b hb) hk (one a ha), ?_, fun d m => ?_⟩
  · by_cases h1 : k = 1
    · subst h1
      exact .inr fun d m => by
        obtain ⟨i, rfl⟩ := kind1 (h d m)
        exact ⟨by simp, by simp⟩
    · exact .inl fun d m => by
        rcases one d m with rfl | rfl | rfl
        · exact (h1 rfl).elim
        · obtain ⟨i, ns, rfl, _⟩ := kind2 (h d m)
          exact ⟨_, _, rfl⟩
        · obtain ⟨i, ns, rfl, _⟩ := kind3 (h d m)
          exact ⟨_, _, rfl⟩
  · rcases one d m with rfl | rfl | rfl
    · obtain ⟨i, rfl⟩ := kind1 (h d m)
      exact ⟨rfl, by simp [PyData.depth]⟩
    · obtain ⟨i, ns, rfl, _⟩ := kind2 (h d m)
      refine ⟨by simp [ndd, nddAll, nds], ?_⟩
      simp [PyData.depth, PyData.depthAll, PySem.W.depth_ints]
    · obtain ⟨i, ns, rfl, _⟩ := kind3 (h d m)
      refine ⟨by simp [ndd, nddAll, nds], ?_⟩
      simp [PyData.depth, PyData.depthAll, PySem.W.depth_ints]
/-- sorted(a list of data) -/
def rSortD (K : PySem.W.Frag) : List V → Hp → VK → Prop := fun xs H Q => ∃ (a : Addr) (A : List Addr) (us : List V) (ds : List PyData), xs = [.ref a] ∧ SqL K H a us ∧ RepAll K A H us ds ∧ sortOk ds = true ∧
  ∀ l ws, H l = none → RepAll K A H ws (isort leK ds) → Q (.ref l) (upd H l (.lst ws))
theorem each_of {K : PySem.W.Frag} {A : List Addr} {H : Hp} : ∀ {us : List V} {vs : List Value} {ds : List PyData}, Vals us vs → RepAll K A H us ds → PySem.W.EachIs (fun u d => ∃ x, RelV x u ∧ Rep K A H x d) vs ds
  | _, _, _, .nil, .nil => .nil
  | _, _, _, .cons r rs, .cons q qs => .cons ⟨_, r, q⟩ (each_of rs qs)
theorem of_each {K : PySem.W.Frag} {A : List Addr} {H : Hp} : ∀ {vs : List Value} {ds : List PyData}, PySem.W.EachIs (fun u d => ∃ x, RelV x u ∧ Rep K A H x d) vs ds → ∃ us, Vals us vs ∧ RepAll K A H us ds
  | _, _, .nil => ⟨[], .nil, .nil⟩
  | _, _, .cons ⟨x, r, q⟩ rs => by
    obtain ⟨us, h1, h2⟩ := of_each rs
    exact ⟨x :: us, .cons r h1, .cons q h2⟩
theorem each_mem' {α β : Type} {R : α → β → Prop} {P : β → Prop} : ∀ {as : List α} {bs : List β}, PySem.W.EachIs R as bs → (∀ b ∈ bs, P b) → PySem.W.EachIs (fun a b => R a b ∧ P b) as bs
  | _, _, .nil, _ => .nil
  | _, _, .cons r rs, h => .cons ⟨r, h _ List.mem_cons_self⟩ (each_mem' rs fun b m => h b (List.mem_cons_of_mem _ m))
section
variable {X : Cx} {G : Ctx}
theorem cr_sortD (hu : X.A.units + 64 < cLine) : CallR X (.builtin "sorted") (rSortD X.K) := by
  intro pins s σ H xs us Q I r h
  obtain ⟨a, A, ws, ds, rfl, hs, ra, ok, q⟩ := h
  obtain ⟨its, rv, hl, hz⟩ := I.list hs
  rw [Vals.ref1 r]
  obtain ⟨h1, h2, h3⟩ := sortOk_all ok
  have e0 := each_of rv ra
  have er : PySem.W.EachIs (fun v (b : PyData) => ∃ as, Reads s.heap v ((fun d : PyData => d) b) as) its ds := (each_mem' e0 (P := fun d => ndd d = true) fun d m => (h3 d m).1).mono fun v d ⟨⟨x, hx, hr⟩, hd⟩ => Dp.reads I d x v (hr.dp hd) hx
  refine PySem.W.sorted_data (enc := fun d : PyData => d) hl.isList e0 er (by simpa using h1) (by simpa using h2) (by rw [← ra.length]; exact hz) (fun d m => ?_) fun out ho hE => ?_
  · have := (h3 d m).2
    show X.A.units + 2 + d.depth < cLine
    omega
  · rw [sorted_isort ok] at hE
    obtain ⟨zs, k1, k2⟩ := of_each hE
    obtain ⟨ep, he'⟩ := PyProof.Rows.sortedAll_at s.heap its out.toArray
    have hlen : zs.length ≤ sizeLine := by rw [k2.length, isort_length, ← ra.length]; exact hz
    exact ⟨.ref _, upd H (s.heap.objs.size + 1) (.lst zs), I.laid (t' := s.toks) (fun _ _ => PyProof.Rows.sortedAll_old) (Nat.le_succ _) ⟨hlen, out, ep, k1, he'⟩, rfl, q _ _ (I.hok.fresh (Nat.le_succ _)) k2⟩
def gSorted : List PyData → Option PyData
  | [.list ds] => if sortOk ds then some (.list (isort leK ds)) else none
  | _ => none
theorem cr_sortG (hK : X.K = G.K) (hu : X.A.units + 64 < cLine) : CallR X (.builtin "sorted") (rSortD G.K) := by
  rw [← hK]
  exact cr_sortD hu
theorem cd_sorted : CallD G (rSortD G.K) gSorted := by
  intro A H xs ds d Q all r e q
  unfold gSorted at e
  split at e
  · split at e
    · rename_i h
      cases e
      match xs, r with
      | [_], .cons rx .nil =>
        obtain ⟨a, us, rfl, h1, n1, r1⟩ := rep_list rx
        exact ⟨a, A, us, _, rfl, .inl (.inl h1), r1, h, fun l ws hl hr => q _ _ (same_new hl) (.lst upd_same (fresh_not all hl) (rep_new hr hl))⟩
    · cases e
  · cases e
end
end DL

-- text DL9
set_option Elab.async false
set_option linter.all false
set_option maxRecDepth 100000
set_option maxHeartbeats 2000000
namespace DL
open PySem PySem.Spec PyProof.Rows L2 GxR

section
variable {ι : Type} {X : ι → Cx} {G : Ctx} {W : WX} {k : Nat} {pos : Pos}
/-! ### two for, gone on -/
theorem lcL_len {g : PyData → RS → Option RS} {ft : RS → Rs Bool} {fe : RS → Rs PyData} {vs : List Nat} : ∀ {items ds : List PyData} {ρ ρ' : RS}, lcL g ft fe vs items ρ = .ok ds ρ' → ds.length ≤ items.length
  | [], ds, ρ, ρ', h => by cases h; exact Nat.le_refl _
  | x :: xs, ds, ρ, ρ', h => by
    unfold lcL at h
    cases q : g x ρ with
    | none => rw [q] at h; cases h
    | some ρ1 =>
      rw [q] at h
      cases z : ft ρ1 with
      | ex _ _ _ => simp only [z, noex, Rs.bind] at h; cases h
      | no => simp only [z, noex, Rs.bind] at h; cases h
      | ok b ρ2 =>
        cases b with
        | false =>
          simp only [z, noex, Rs.bind, Bool.false_eq_true, if_false] at h
          split at h
          · exact Nat.le_succ_of_le (lcL_len h)
          · cases h
        | true =>
          cases z2 : fe ρ2 with
          | ex _ _ _ => simp only [z, z2, noex, Rs.bind, if_true] at h; cases h
          | no => simp only [z, z2, noex, Rs.bind, if_true] at h; cases h
          | ok d ρ3 =>
            simp only [z, z2, noex, Rs.bind, if_true] at h
            split at h
            · cases z3 : lcL g ft fe vs xs (rwipe ρ3 vs) with
              | ok r ρ4 =>
                rw [z3] at h
                cases h
                exact Nat.succ_le_succ (lcL_len z3)
              | no => rw [z3] at h; cases h
              | ex _ _ _ => rw [z3] at h; cases h
            · cases h
theorem lp_app {Fg : List Addr} {O : Own} {σw : L2.St} {D : Addr} {Q : VK} {acc : List PyData} {H : Hp} {rr : List PyData} {r : Rs (List PyData)} (h : LP G Fg O σw D Q acc H (r.bind fun q ρ4 => .ok (rr ++ q) ρ4)) : LP G Fg O σw D Q (acc ++ rr) H r := by
  cases r with
  | ok ds ρ' => exact fun H' us e r q1 q2 => h H' us e r q1 (by simpa using q2)
  | ex c fs ρ' => exact h
  | no => exact h
def eLc2 (fi : RS → Rs (List PyData)) (g : PyData → RS → Option RS) (ft : RS → Rs Bool) (fi1 : RS → Rs (List PyData)) (g1 : PyData → RS → Option RS) (ft1 : RS → Rs Bool) (fe : RS → Rs PyData) (vs vs1 : List Nat) : RS → Rs PyData := fun ρ => (fi ρ).bind fun items ρ1 =>
  if items.length ≤ 1000 ∧ allFree ρ1 vs = true then (lc2L g ft fi1 g1 ft1 fe vs vs1 items (rwipe ρ1 vs)).bind fun ds ρ2 => if allFree ρ2 vs then .ok (.list ds) (rwipe ρ2 vs) else .no else .no
theorem lc2_turn {Fg : List Addr} {O : Own} {σ σ2 : L2.St} {D : Addr} {Q : VK} {acc : List PyData} {us : List V} {H2 : Hp} {x : PyData} {xs : List PyData} {ρ ρ1 : RS} {g g1 : PyData → RS → Option RS} {ft ft1 : RS → Rs Bool} {fi1 : RS → Rs (List PyData)} {fe : RS → Rs PyData} {vs vs1 gvs1 : List Nat} {tt tt1 : TT} {te : TE} {wi1 : TI} {gt1 : TG}
    (lt : ∀ Fg O ρ σ H Q, R G Fg O ρ σ H → GP G W0 Fg O σ (fun b _ H' => Q b H') H (ft ρ) → tt σ H Q)
    (li1 : ∀ Fg O ρ σ H Q, R G Fg O ρ σ H → GP G W0 Fg O σ (fun ds _ H' => ∀ J, WalkD G (adr O ++ Fg) H' J ds → Q J H') H (fi1 ρ) → wi1 σ H Q)
    (lg1 : ∀ Fg O ρ σ H v d ρ' Q, R G Fg O ρ σ H → Rep G.K (adr O ++ Fg) H v d → g1 d ρ = some ρ' → (∀ σ', R G Fg O ρ' σ' H → (∀ ws : List Nat, (∀ j ∈ gvs1, j ∈ ws) → wipe σ' ws = wipe σ ws) → Q σ' H) → gt1 v σ H Q)
    (lt1 : ∀ Fg O ρ σ H Q, R G Fg O ρ σ H → GP G W0 Fg O σ (fun b _ H' => Q b H') H (ft1 ρ) → tt1 σ H Q)
    (le : ∀ Fg O ρ σ H Q, R G Fg O ρ σ H → GP G W0 Fg O σ (fun d _ H' => ∀ v, Rep G.K (adr O ++ Fg) H' v d → Q v H') H (fe ρ) → te σ H Q)
    (hsub1 : ∀ j ∈ gvs1, j ∈ vs1) (hv : ∀ j ∈ vs1, j ∈ vs)
    (hw : wipe σ2 vs = wipe σ vs) (r1 : R G (D :: Fg) O ρ1 σ2 H2) (hD : H2 D = some (.lst us)) (ra : RepAll G.K (adr O ++ D :: Fg) H2 us acc) (hl : acc.length + 1000 ≤ sizeLine) (nD : D ∉ adr O ++ Fg)
    (q : g x ρ = some ρ1) (h : LP G Fg O (wipe σ vs) D Q acc H2 (lc2L g ft fi1 g1 ft1 fe vs vs1 (x :: xs) ρ)) (Nx : Hp → Prop)
    (n : ∀ ρ' acc' us' H', Ext (D :: adr O) H2 H' → R G (D :: Fg) O ρ' (wipe σ vs) H' → H' D = some (.lst us') → RepAll G.K (adr O ++ D :: Fg) H' us' acc' → acc'.length ≤ acc.length + 1000 → LP G Fg O (wipe σ vs) D Q acc' H' (lc2L g ft fi1 g1 ft1 fe vs vs1 xs ρ') → Nx H') :
    tt σ2 H2 fun b H3 => if b = true then wi1 σ2 H3 fun J1 H4 => ∃ W1 : Nat → Nat → Hp → Prop, (∃ m, W1 0 m H4) ∧ ∀ j k H, W1 j k H →
      (J1.stop j H ∧ Nx H) ∨ (J1.go j H ∧ ∃ Nx1 : Hp → Prop, (∀ H', Nx1 H' → ∃ k', k' < k ∧ W1 (j + 1) k' H') ∧ ∀ x H', J1.yld j H x H' → gt1 x (wipe σ2 vs1) H' fun σ3 H5 => wipe σ3 vs1 = wipe σ2 vs1 ∧ tt1 σ3 H5 fun b H6 =>
        if b = true then te σ3 H6 fun y H7 => ∃ acc, H7 D = some (.lst acc) ∧ acc.length < sizeLine ∧ Nx1 (upd H7 D (.lst (acc ++ [y]))) else Nx1 H6)
    else Nx H3 := by
  have h : LP G Fg O (wipe σ vs) D Q acc H2 ((noex (ft ρ1)).bind fun b ρ2 => if b then (noex (fi1 ρ2)).bind fun items ρ3 => if items.length ≤ 1000 ∧ allFree ρ3 vs1 = true then (lcL g1 ft1 fe vs1 items (rwipe ρ3 vs1)).bind fun r ρ4 => if allFree ρ4 vs then (lc2L g ft fi1 g1 ft1 fe vs vs1 xs (rwipe ρ4 vs)).bind fun r2 ρ5 => .ok (r ++ r2) ρ5 else .no else .no
        else if allFree ρ2 vs then lc2L g ft fi1 g1 ft1 fe vs vs1 xs (rwipe ρ2 vs) else .no) := by
    have h' := h
    unfold lc2L at h'
    rw [q] at h'
    exact h'
  have sub : ∀ {H : Hp}, ∀ a ∈ adr O, a ∈ adr O ++ D :: Fg ∨ H a = none := fun {H} a m => .inl (List.mem_append_left _ m)
  have keepD : ∀ {H : Hp}, Ext (adr O) H2 H → H D = some (.lst us) := fun {H} e => e.keep D _ hD (by intro ps z; cases z) (.inl fun m => nD (List.mem_append_left _ m))
  cases z : ft ρ1 with
  | ex c fs ρ' => rw [z] at h; exact h.elim
  | no => rw [z] at h; exact h.elim
  | ok b ρ2 =>
    rw [z] at h
    refine lt (D :: Fg) O ρ1 σ2 H2 _ r1 (gp_noex b ρ2 z fun H3 e3 r3 => ?_)
    have ra3 : RepAll G.K (adr O ++ D :: Fg) H3 us acc := ra.ext sub e3 fun _ m => .inl m
    have e3' : Ext (D :: adr O) H2 H3 := e3.mono fun a m => List.mem_cons_of_mem _ m
    cases b with
    | false =>
      refine ite_ff ?_
      have h : LP G Fg O (wipe σ vs) D Q acc H2 (if allFree ρ2 vs then lc2L g ft fi1 g1 ft1 fe vs vs1 xs (rwipe ρ2 vs) else .no) := h
      by_cases hf : allFree ρ2 vs = true
      · rw [if_pos hf] at h
        have r4 := r3.wipe vs (allFree_ok hf)
        rw [hw] at r4
        exact n _ acc us H3 e3' r4 (keepD e3) ra3 (by omega) (h.shift e3')
      · rw [if_neg hf] at h; exact h.elim
    | true =>
      refine ite_tt ?_
      have h : LP G Fg O (wipe σ vs) D Q acc H2 ((noex (fi1 ρ2)).bind fun items ρ3 => if items.length ≤ 1000 ∧ allFree ρ3 vs1 = true then (lcL g1 ft1 fe vs1 items (rwipe ρ3 vs1)).bind fun r ρ4 => if allFree ρ4 vs then (lc2L g ft fi1 g1 ft1 fe vs vs1 xs (rwipe ρ4 vs)).bind fun r2 ρ5 => .ok (r ++ r2) ρ5 else .no else .no) := h
      cases z2 : fi1 ρ2 with
      | ex c fs ρ' => rw [z2] at h; exact h.elim
      | no => rw [z2] at h; exact h.elim
      | ok items ρ3 =>
        rw [z2] at h
        have h : LP G Fg O (wipe σ vs) D Q acc H2 (if items.length ≤ 1000 ∧ allFree ρ3 vs1 = true then (lcL g1 ft1 fe vs1 items (rwipe ρ3 vs1)).bind fun r ρ4 => if allFree ρ4 vs then (lc2L g ft fi1 g1 ft1 fe vs vs1 xs (rwipe ρ4 vs)).bind fun r2 ρ5 => .ok (r ++ r2) ρ5 else .no else .no) := h
        by_cases hf : items.length ≤ 1000 ∧ allFree ρ3 vs1 = true
        · rw [if_pos hf] at h
          refine li1 (D :: Fg) O ρ2 σ2 H3 _ r3 (gp_noex items ρ3 z2 fun H4 e4 r4 J1 wd1 => ?_)
          have ra4 : RepAll G.K (adr O ++ D :: Fg) H4 us acc := ra3.ext sub e4 fun _ m => .inl m
          have hD4 : H4 D = some (.lst us) := keepD (e3.trans' e4)
          have e4' : Ext (D :: adr O) H2 H4 := e3'.trans' (e4.mono fun a m => List.mem_cons_of_mem _ m)
          cases z3 : lcL g1 ft1 fe vs1 items (rwipe ρ3 vs1) with
          | ex c fs ρ' => rw [z3] at h; exact h.elim
          | no => rw [z3] at h; exact h.elim
          | ok rr ρ4 =>
            rw [z3] at h
            have h : LP G Fg O (wipe σ vs) D Q acc H2 (if allFree ρ4 vs then (lc2L g ft fi1 g1 ft1 fe vs vs1 xs (rwipe ρ4 vs)).bind fun r2 ρ5 => .ok (rr ++ r2) ρ5 else .no) := h
            by_cases hf4 : allFree ρ4 vs = true
            · rw [if_pos hf4] at h
              have hrr := lcL_len z3
              have lp0 : LP G Fg O (wipe σ2 vs1) D (fun _ H' => Nx H') acc H4 (lcL g1 ft1 fe vs1 items (rwipe ρ3 vs1)) := by
                rw [z3]
                intro H' us' e' r' hD' ra'
                have r5 := r'.wipe vs (allFree_ok hf4)
                rw [wipe_idem hv, hw] at r5
                exact n _ (acc ++ rr) us' H' (e4'.trans' e') r5 hD' ra' (by rw [List.length_append]; omega) ((lp_app h).shift (e4'.trans' e'))
              refine ⟨fun j m H' => m = items.length - j ∧ j ≤ items.length ∧ ∃ ρ' acc' us', R G (D :: Fg) O ρ' (wipe σ2 vs1) H' ∧ H' D = some (.lst us') ∧ RepAll G.K (adr O ++ D :: Fg) H' us' acc' ∧ acc'.length ≤ acc.length + j ∧ Ext (D :: adr O) H4 H' ∧ LP G Fg O (wipe σ2 vs1) D (fun _ H' => Nx H') acc' H' (lcL g1 ft1 fe vs1 (items.drop j) ρ'),
                ⟨items.length, by simp, Nat.zero_le _, _, acc, us, r4.wipe vs1 (allFree_ok hf.2), hD4, ra4, Nat.le_refl _, .refl, by simpa using lp0⟩, fun j m H5 hW => ?_⟩
              obtain ⟨hm, hj, ρ5, acc5, us5, r5, hD5, ra5, hl5, e5, lp5⟩ := hW
              obtain ⟨w1, w2⟩ := wd1 (D :: adr O) (adr O ++ D :: Fg) H5 e5 (fun a m => by
                rcases List.mem_cons.mp m with y | y
                · subst y; exact .inl (List.mem_append_right _ List.mem_cons_self)
                · exact .inl (List.mem_append_left _ y)) (fun a m => .inl m) j
              by_cases hlt : j < items.length
              · obtain ⟨go, yl⟩ := w1 items[j] (List.getElem?_eq_getElem hlt)
                rw [drop_get hlt] at lp5
                refine .inr ⟨go, fun H' => (fun j m H' => m = items.length - j ∧ j ≤ items.length ∧ ∃ ρ' acc' us', R G (D :: Fg) O ρ' (wipe σ2 vs1) H' ∧ H' D = some (.lst us') ∧ RepAll G.K (adr O ++ D :: Fg) H' us' acc' ∧ acc'.length ≤ acc.length + j ∧ Ext (D :: adr O) H4 H' ∧ LP G Fg O (wipe σ2 vs1) D (fun _ H' => Nx H') acc' H' (lcL g1 ft1 fe vs1 (items.drop j) ρ')) (j + 1) (items.length - (j + 1)) H',
                  fun H' w => ⟨_, by omega, w⟩, fun y H6 y6 => ?_⟩
                obtain ⟨e6, rx⟩ := yl y H6 y6
                cases q5 : g1 items[j] ρ5 with
                | none =>
                  exfalso
                  unfold lcL at lp5
                  rw [q5] at lp5
                  exact lp5
                | some ρ6 =>
                  have e6' : Ext (D :: adr O) H5 H6 := e6.mono (by simp)
                  have hD6 : H6 D = some (.lst us5) := e6.keep D _ hD5 (by intro ps z; cases z) (.inl (by simp))
                  refine lg1 (D :: Fg) O ρ5 (wipe σ2 vs1) H6 y items[j] ρ6 _ (r5.ext0 e6) rx q5 fun σ6 r6 hw6 => ?_
                  have hw6' : wipe σ6 vs1 = wipe σ2 vs1 := (hw6 vs1 hsub1).trans (wipe_idem fun _ m => m)
                  refine ⟨hw6', lc_turn lt1 le hw6' r6 hD6 (ra5.ext (O := []) (by simp) e6 fun _ m => .inl m) (by omega) nD q5 (lp5.shift e6') _ fun ρ' acc' us' H' e' r' hD' ra' hl' lp' => ?_⟩
                  exact ⟨rfl, hlt, ρ', acc', us', r', hD', ra', by omega, (e5.trans' e6').trans' e', lp'⟩
              · have hl : items.length ≤ j := Nat.le_of_not_lt hlt
                rw [List.drop_of_length_le hl] at lp5
                have lp5 : LP G Fg O (wipe σ2 vs1) D (fun _ H' => Nx H') acc5 H5 (.ok [] ρ5) := lp5
                exact .inl ⟨w2 hl, lp5 H5 us5 .refl r5 hD5 (by simpa using ra5)⟩
            · rw [if_neg hf4] at h; exact h.elim
        · rw [if_neg hf] at h; exact h.elim
theorem lc2L_noex {g g1 : PyData → RS → Option RS} {ft ft1 : RS → Rs Bool} {fi1 : RS → Rs (List PyData)} {fe : RS → Rs PyData} {vs vs1 : List Nat} {c : Str} {fs : List (Str × PyData)} {ρ' : RS} : ∀ (items : List PyData) (ρ : RS), lc2L g ft fi1 g1 ft1 fe vs vs1 items ρ = .ex c fs ρ' → False
  | [], ρ, h => by cases h
  | x :: xs, ρ, h => by
    unfold lc2L at h
    cases q : g x ρ with
    | none => rw [q] at h; cases h
    | some ρ1 =>
      rw [q] at h
      cases z : ft ρ1 with
      | ex _ _ _ => simp only [z, noex, Rs.bind] at h; cases h
      | no => simp only [z, noex, Rs.bind] at h; cases h
      | ok b ρ2 =>
        cases b with
        | false =>
          simp only [z, noex, Rs.bind, Bool.false_eq_true, if_false] at h
          split at h
          · exact lc2L_noex xs _ h
          · cases h
        | true =>
          cases z2 : fi1 ρ2 with
          | ex _ _ _ => simp only [z, z2, noex, Rs.bind, if_true] at h; cases h
          | no => simp only [z, z2, noex, Rs.bind, if_true] at h; cases h
          | ok items ρ3 =>
            simp only [z, z2, noex, Rs.bind, if_true] at h
            split at h
            · cases z3 : lcL g1 ft1 fe vs1 items (rwipe ρ3 vs1) with
              | ok r ρ4 =>
                rw [z3] at h
                simp only at h
                split at h
                · cases z4 : lc2L g ft fi1 g1 ft1 fe vs vs1 xs (rwipe ρ4 vs) with
                  | ok _ _ => rw [z4] at h; cases h
                  | no => rw [z4] at h; cases h
                  | ex _ _ _ => exact lc2L_noex xs _ z4
                · cases h
              | no => rw [z3] at h; cases h
              | ex _ _ _ => exact lc_law.lcL_noex _ _ z3
            · cases h
theorem lc2_law {wi wi1 : TI} {gt gt1 : TG} {tt tt1 : TT} {te : TE} {fi fi1 : RS → Rs (List PyData)} {gvs gvs1 vs vs1 : List Nat} {g g1 : PyData → RS → Option RS} {ft ft1 : RS → Rs Bool} {fe : RS → Rs PyData}
    (li : ∀ Fg O ρ σ H Q, R G Fg O ρ σ H → GP G W Fg O σ (fun ds _ H' => ∀ J, WalkD G (adr O ++ Fg) H' J ds → Q J H') H (fi ρ) → wi σ H Q)
    (lg : ∀ Fg O ρ σ H v d ρ' Q, R G Fg O ρ σ H → Rep G.K (adr O ++ Fg) H v d → g d ρ = some ρ' → (∀ σ', R G Fg O ρ' σ' H → (∀ ws : List Nat, (∀ j ∈ gvs, j ∈ ws) → wipe σ' ws = wipe σ ws) → Q σ' H) → gt v σ H Q)
    (lt : ∀ Fg O ρ σ H Q, R G Fg O ρ σ H → GP G W0 Fg O σ (fun b _ H' => Q b H') H (ft ρ) → tt σ H Q)
    (li1 : ∀ Fg O ρ σ H Q, R G Fg O ρ σ H → GP G W0 Fg O σ (fun ds _ H' => ∀ J, WalkD G (adr O ++ Fg) H' J ds → Q J H') H (fi1 ρ) → wi1 σ H Q)
    (lg1 : ∀ Fg O ρ σ H v d ρ' Q, R G Fg O ρ σ H → Rep G.K (adr O ++ Fg) H v d → g1 d ρ = some ρ' → (∀ σ', R G Fg O ρ' σ' H → (∀ ws : List Nat, (∀ j ∈ gvs1, j ∈ ws) → wipe σ' ws = wipe σ ws) → Q σ' H) → gt1 v σ H Q)
    (lt1 : ∀ Fg O ρ σ H Q, R G Fg O ρ σ H → GP G W0 Fg O σ (fun b _ H' => Q b H') H (ft1 ρ) → tt1 σ H Q)
    (le : ∀ Fg O ρ σ H Q, R G Fg O ρ σ H → GP G W0 Fg O σ (fun d _ H' => ∀ v, Rep G.K (adr O ++ Fg) H' v d → Q v H') H (fe ρ) → te σ H Q)
    (hsub : ∀ j ∈ gvs, j ∈ vs) (hsub1 : ∀ j ∈ gvs1, j ∈ vs1) (hv : ∀ j ∈ vs1, j ∈ vs) {Fg : List Addr} {O : Own} {ρ : RS} {σ : L2.St} {H : Hp} {Q : VK} (r : R G Fg O ρ σ H) (h : GP G W Fg O σ (fun d _ H' => ∀ v, Rep G.K (adr O ++ Fg) H' v d → Q v H') H (eLc2 fi g ft fi1 g1 ft1 fe vs vs1 ρ)) : tLc2 wi gt tt wi1 gt1 tt1 te vs vs1 σ H Q := by
  refine li Fg O ρ σ H _ r ((GP.bind h).imp fun items ρ1 H1 e1 r1 k1 J wd => ?_)
  intro D hD
  by_cases hc : items.length ≤ 1000 ∧ allFree ρ1 vs = true
  · rw [if_pos hc] at k1
    have nD : D ∉ adr O ++ Fg := fresh_not r1.all hD
    have e0 : Ext [] H1 (upd H1 D (.lst [])) := ext_new hD
    have r0 : R G (D :: Fg) O (rwipe ρ1 vs) (wipe σ vs) (upd H1 D (.lst [])) := (r1.more hD).wipe vs (allFree_ok hc.2)
    have gD : Grow (adr O) H1 (D :: adr O) := fun a m => by
      rcases List.mem_cons.mp m with z | z
      · subst z; exact .inr hD
      · exact .inl z
    have lp0 : LP G Fg O (wipe σ vs) D Q [] (upd H1 D (.lst [])) (lc2L g ft fi1 g1 ft1 fe vs vs1 items (rwipe ρ1 vs)) := by
      cases z : lc2L g ft fi1 g1 ft1 fe vs vs1 items (rwipe ρ1 vs) with
      | ok ds ρ2 =>
        rw [z] at k1
        intro H' us e' r' hD' ra'
        have k1 : GP G W Fg O σ (fun d _ H' => ∀ v, Rep G.K (adr O ++ Fg) H' v d → Q v H') H1 (if allFree ρ2 vs then .ok (.list ds) (rwipe ρ2 vs) else .no) := k1
        by_cases hf : allFree ρ2 vs = true
        · rw [if_pos hf] at k1
          have eo : Ext (adr O) H1 H' := (e0.mono (O' := adr O) (by simp)).trans e' fun a m => by
            rcases gD a m with z | z
            · exact .inl z
            · exact .inr z
          refine k1 H' eo (r'.less.unwipe (vs := vs) (wipe_idem fun _ m => m) (wipe_length _ _) (allFree_ok hf)) _ (.lst hD' nD (ra'.fewer fun a m => ?_))
          rcases List.mem_append.mp m with z | z
          · exact List.mem_append_left _ z
          · exact List.mem_append_right _ (List.mem_cons_of_mem _ z)
        · rw [if_neg hf] at k1; exact k1.elim
      | ex c fs ρ2 => exact (lc2L_noex _ _ z).elim
      | no => rw [z] at k1; exact k1.elim
    refine ⟨fun i m H2 => m = items.length - i ∧ i ≤ items.length ∧ ∃ ρ2 acc us, R G (D :: Fg) O ρ2 (wipe σ vs) H2 ∧ H2 D = some (.lst us) ∧ RepAll G.K (adr O ++ D :: Fg) H2 us acc ∧ acc.length ≤ i * 1000 ∧ Ext (D :: adr O) (upd H1 D (.lst [])) H2 ∧ LP G Fg O (wipe σ vs) D Q acc H2 (lc2L g ft fi1 g1 ft1 fe vs vs1 (items.drop i) ρ2),
      ⟨items.length, by simp, Nat.zero_le _, _, [], [], r0, upd_same, .nil, Nat.zero_le _, .refl, by simpa using lp0⟩, fun i m H2 hW => ?_⟩
    obtain ⟨hm, hi, ρ2, acc, us, r2, hD2, ra2, hl2, e2, lp2⟩ := hW
    have e12 : Ext (D :: adr O) H1 H2 := (e0.mono (by simp)).trans' e2
    obtain ⟨w1, w2⟩ := wd (D :: adr O) (adr O ++ D :: Fg) H2 e12 (fun a m => by
        rcases List.mem_cons.mp m with z | z
        · subst z; exact .inr hD
        · exact .inl (List.mem_append_left _ z)) (fun a m => by
        rcases List.mem_append.mp m with z | z
        · exact .inl (List.mem_append_left _ z)
        · rcases List.mem_cons.mp z with z | z
          · subst z; exact .inr hD
          · exact .inl (List.mem_append_right _ z)) i
    by_cases hlt : i < items.length
    · obtain ⟨go, yl⟩ := w1 items[i] (List.getElem?_eq_getElem hlt)
      rw [drop_get hlt] at lp2
      refine .inr ⟨go, fun H' => (fun i m H2 => m = items.length - i ∧ i ≤ items.length ∧ ∃ ρ2 acc us, R G (D :: Fg) O ρ2 (wipe σ vs) H2 ∧ H2 D = some (.lst us) ∧ RepAll G.K (adr O ++ D :: Fg) H2 us acc ∧ acc.length ≤ i * 1000 ∧ Ext (D :: adr O) (upd H1 D (.lst [])) H2 ∧ LP G Fg O (wipe σ vs) D Q acc H2 (lc2L g ft fi1 g1 ft1 fe vs vs1 (items.drop i) ρ2)) (i + 1) (items.length - (i + 1)) H',
        fun H' w => ⟨_, by omega, w⟩, fun x H3 y3 => ?_⟩
      obtain ⟨e3, rx⟩ := yl x H3 y3
      cases q : g items[i] ρ2 with
      | none =>
        exfalso
        unfold lc2L at lp2
        rw [q] at lp2
        exact lp2
      | some ρ3 =>
        have e3' : Ext (D :: adr O) H2 H3 := e3.mono (by simp)
        have hD3 : H3 D = some (.lst us) := e3.keep D _ hD2 (by intro ps z; cases z) (.inl (by simp))
        refine lg (D :: Fg) O ρ2 (wipe σ vs) H3 x items[i] ρ3 _ (r2.ext0 e3) rx q fun σ3 r3 hw3 => ?_
        have hw : wipe σ3 vs = wipe σ vs := (hw3 vs hsub).trans (wipe_idem fun _ m => m)
        have hz : (sizeLine : Nat) = 16777216 := PySem.sizeLine_eq
        refine ⟨hw, lc2_turn lt li1 lg1 lt1 le hsub1 hv hw r3 hD3 (ra2.ext (O := []) (by simp) e3 fun _ m => .inl m) (by rw [hz]; omega) nD q (lp2.shift e3') _ fun ρ' acc' us' H' e' r' hD' ra' hl' lp' => ?_⟩
        exact ⟨rfl, hlt, ρ', acc', us', r', hD', ra', by omega, (e2.trans' e3').trans' e', lp'⟩
    · have hl : items.length ≤ i := Nat.le_of_not_lt hlt
      rw [List.drop_of_length_le hl] at lp2
      have lp2 : LP G Fg O (wipe σ vs) D Q acc H2 (.ok [] ρ2) := lp2
      exact .inl ⟨w2 hl, lp2 H2 us .refl r2 hD2 (by simpa using ra2)⟩
  · rw [if_neg hc] at k1; exact k1.elim
theorem de_lc2 {elt tg iter tg1 iter1 : Expr} {ifs ifs1 : List Expr} {scope : Scope} {own : List (Str × Nat)} {fi fi1 : RS → Rs (List PyData)} {gvs gvs1 vs1 : List Nat} {g g1 : PyData → RS → Option RS} {ft ft1 : RS → Rs Bool} {fe : RS → Rs PyData}
    (F : Fam X G W k) (hi : DI X G W tg iter fi) (ok : ∀ i, BlkOk (X i).N (X i).env.scope scope own) (hg : DG (Bx X scope) G tg gvs g) (hsub : ∀ j ∈ gvs, j ∈ own.map (·.2)) (ht : DTs (Bx X scope) G W0 ifs ft)
    (hi1 : DI (Bx X scope) G W0 tg1 iter1 fi1) (hg1 : DG (Bx X scope) G tg1 gvs1 g1) (hsub1 : ∀ j ∈ gvs1, j ∈ vs1) (hv : ∀ j ∈ vs1, j ∈ own.map (·.2)) (ht1 : DTs (Bx X scope) G W0 ifs1 ft1) (he : DE (Bx X scope) G W0 elt fe)
    (hs : ∀ i x, foldedSetIterable iter (X i).env x = pure x := by intro _ _; rfl) (hs1 : ∀ env x, foldedSetIterable iter1 env x = pure x := by intro _ _; rfl) :
    DE X G W (.ListComp elt [⟨tg, iter, ifs, 0⟩, ⟨tg1, iter1, ifs1, 0⟩] scope pos) (eLc2 fi g ft fi1 g1 ft1 fe (own.map (·.2)) vs1) := by
  obtain ⟨wi, pi, li⟩ := hi
  obtain ⟨gt, pg, lg⟩ := hg
  obtain ⟨tt, pt, lt⟩ := ht
  obtain ⟨wi1, pi1, li1⟩ := hi1
  obtain ⟨gt1, pg1, lg1⟩ := hg1
  obtain ⟨tt1, pt1, lt1⟩ := ht1
  obtain ⟨te, pe, le⟩ := he
  exact ⟨_, fun i => pe_lc2 (F.calm i) (F.nd i) (pi i) (ok i) hv (fun s H C cl fp => pg (i, s, H, C, cl, fp)) (fun s H C cl fp => pt (i, s, H, C, cl, fp)) (fun s H C cl fp => pi1 (i, s, H, C, cl, fp)) (fun s H C cl fp => pg1 (i, s, H, C, cl, fp)) (fun s H C cl fp => pt1 (i, s, H, C, cl, fp)) (fun s H C cl fp => pe (i, s, H, C, cl, fp)) (hs i) hs1,
    fun Fg O ρ σ H Q r h => lc2_law li lg lt li1 lg1 lt1 le hsub hsub1 hv r h⟩
end
end DL

-- text DL10
set_option Elab.async false
set_option linter.all false
set_option maxRecDepth 100000
set_option maxHeartbeats 2000000
namespace DL
open PySem PySem.Spec PyProof.Rows L2 GxR

section
variable {ι : Type} {X : ι → Cx} {G : Ctx} {W : WX} {k : Nat} {pos : Pos}
/-! ### classes of data -/
def tyD : PyData → String
  | .none => "NoneType"
  | .bool _ => "bool"
  | .int _ => "int"
  | .str _ => "str"
  | .list _ => "list"
  | .tuple _ => "tuple"
  | .dict _ => "list"
theorem tyX_of {A : List Addr} {H : Hp} {v : V} {d : PyData} (r : Rep G.K A H v d) : TyX G.K H v (.type (tyD d)) := by
  cases r with
  | non => exact .base .non
  | bl b => exact .base (.bl b)
  | int i => exact .base (.int i)
  | str x => exact .base (.str x)
  | lst h _ _ => exact .base (.lst h)
  | scr h =>
    rcases h with ⟨h, _⟩ | ⟨o, h⟩ | ⟨o, its, n, h1, h2, _⟩
    · exact .base (.lst h)
    · exact .base (.frz h)
    · exact .kList h1 h2
  | tup h _ =>
    rcases h with h | ⟨o, its, n, h1, h2, _⟩
    · rcases h with h | ⟨o, h⟩
      · exact .base (.tup h)
      · exact .fTuple h
    · exact .kTuple h1 h2
def isIntD : PyData → Bool
  | .int _ => true
  | .bool _ => true
  | _ => false
def isBoolD : PyData → Bool
  | .bool _ => true
  | _ => false
def isStrD : PyData → Bool
  | .str _ => true
  | _ => false
def isTupD : PyData → Bool
  | .tuple _ => true
  | _ => false
def isLstD : PyData → Bool
  | .list _ => true
  | .dict _ => true
  | _ => false
theorem kb_int : ∀ d : PyData, kitB (tyD d) "int" = some (isIntD d)
  | .none => (by decide +kernel : kitB "NoneType" "int" = some false)
  | .bool _ => (by decide +kernel : kitB "bool" "int" = some true)
  | .int _ => (by decide +kernel : kitB "int" "int" = some true)
  | .str _ => (by decide +kernel : kitB "str" "int" = some false)
  | .list _ => (by decide +kernel : kitB "list" "int" = some false)
  | .tuple _ => (by decide +kernel : kitB "tuple" "int" = some false)
  | .dict _ => (by decide +kernel : kitB "list" "int" = some false)
theorem kb_bool : ∀ d : PyData, kitB (tyD d) "bool" = some (isBoolD d)
  | .none => (by decide +kernel : kitB "NoneType" "bool" = some false)
  | .bool _ => (by decide +kernel : kitB "bool" "bool" = some true)
  | .int _ => (by decide +kernel : kitB "int" "bool" = some false)
  | .str _ => (by decide +kernel : kitB "str" "bool" = some false)
  | .list _ => (by decide +kernel : kitB "list" "bool" = some false)
  | .tuple _ => (by decide +kernel : kitB "tuple" "bool" = some false)
  | .dict _ => (by decide +kernel : kitB "list" "bool" = some false)
theorem kb_str : ∀ d : PyData, kitB (tyD d) "str" = some (isStrD d)
  | .none => (by decide +kernel : kitB "NoneType" "str" = some false)
  | .bool _ => (by decide +kernel : kitB "bool" "str" = some false)
  | .int _ => (by decide +kernel : kitB "int" "str" = some false)
  | .str _ => (by decide +kernel : kitB "str" "str" = some true)
  | .list _ => (by decide +kernel : kitB "list" "str" = some false)
  | .tuple _ => (by decide +kernel : kitB "tuple" "str" = some false)
  | .dict _ => (by decide +kernel : kitB "list" "str" = some false)
theorem kb_tup : ∀ d : PyData, kitB (tyD d) "tuple" = some (isTupD d)
  | .none => (by decide +kernel : kitB "NoneType" "tuple" = some false)
  | .bool _ => (by decide +kernel : kitB "bool" "tuple" = some false)
  | .int _ => (by decide +kernel : kitB "int" "tuple" = some false)
  | .str _ => (by decide +kernel : kitB "str" "tuple" = some false)
  | .list _ => (by decide +kernel : kitB "list" "tuple" = some false)
  | .tuple _ => (by decide +kernel : kitB "tuple" "tuple" = some true)
  | .dict _ => (by decide +kernel : kitB "list" "tuple" = some false)
theorem kb_lst : ∀ d : PyData, kitB (tyD d) "list" = some (isLstD d)
  | .none => (by decide +kernel : kitB "NoneType" "list" = some false)
  | .bool _ => (by decide +kernel : kitB "bool" "list" = some false)
  | .int _ => (by decide +kernel : kitB "int" "list" = some false)
  | .str _ => (by decide +kernel : kitB "str" "list" = some false)
  | .list _ => (by decide +kernel : kitB "list" "list" = some true)
  | .tuple _ => (by decide +kernel : kitB "tuple" "list" = some false)
  | .dict _ => (by decide +kernel : kitB "list" "list" = some true)
def eIsi (g : PyData → Bool) (fe : RS → Rs PyData) : RS → Rs PyData := fun ρ => (fe ρ).bind fun d ρ1 => .ok (.bool (g d)) ρ1
theorem de_isi {T : String} {t : Str} {g : PyData → Bool} {e : Expr} {fe : RS → Rs PyData} {p p2 : Pos} (F : Fam X G W k) (kb : ∀ d, kitB (tyD d) T = some (g d)) (hg : ∀ i, Gl (X i) "isinstance") (hm : ∀ i, (X i).mg "isinstance" = none) (hg2 : ∀ i, Gl (X i) t) (hm2 : ∀ i, (X i).mg t = none) (hv2 : bootBuiltins t = some (.type T)) (he : DE X G W e fe)
    (hv : bootBuiltins "isinstance" = some (.builtin "isinstance") := by decide +kernel) (hn : t ≠ "__name__" := by decide) (hdb : (t == ("__debug__" : Str)) = false := by decide)
    (hs1 : ∀ i, starEach [.Name t p2] (X i).env = (false, eval (.Name t p2) (X i).env) :: starEach [] (X i).env := by intro _; rfl)
    (hs : ∀ i, starEach (e :: [.Name t p2]) (X i).env = (false, eval e (X i).env) :: starEach [.Name t p2] (X i).env := by intro _; rfl) (hpl : ∀ i, (backTo pos (starEach [.Name t p2] (X i).env)).any (·.1) = false := by intro _; rfl) :
    DE X G W (.Call (.Name "isinstance" p) [e, .Name t p2] [] pos) (eIsi g fe) := by
  obtain ⟨te, pe, le⟩ := he
  refine ⟨tCB (rIsi G.K) (tCons te (tCons (tC (.ty T)) tNil)), fun i => ?_, fun Fg O ρ σ H Q r h => ?_⟩
  · rw [← F.K i]
    exact pe_callB call_isi (hg i) (hm i) hv (pa_cons (pe i) (pa_cons (pe_bltn (hg2 i) (hm2 i) hv2 (v := .ty T) rfl hn hdb) pa_nil (hs1 i)) (hs i)) (by decide) (by decide) (hs i) (hpl i)
  · refine le Fg O ρ σ H _ r ((GP.bind h).imp fun d ρ1 H1 e1 r1 k1 v rv => ?_)
    exact ⟨v, .ty T, _, _, g d, rfl, .ty T, tyX_of rv, kit_ty (kb d), k1 H1 .refl r1 _ (.bl _)⟩
/-- isinstance(e, (tuple, list)) -/
theorem de_isi2 {T1 T2 : String} {t1 t2 : Str} {g1 g2 : PyData → Bool} {e : Expr} {fe : RS → Rs PyData} {p p1 p2 tp : Pos} {kt} (F : Fam X G W k) (kb1 : ∀ d, kitB (tyD d) T1 = some (g1 d)) (kb2 : ∀ d, kitB (tyD d) T2 = some (g2 d)) (hg : ∀ i, Gl (X i) "isinstance") (hm : ∀ i, (X i).mg "isinstance" = none)
    (hg1 : ∀ i, Gl (X i) t1) (hm1 : ∀ i, (X i).mg t1 = none) (hv1 : bootBuiltins t1 = some (.type T1)) (hg2 : ∀ i, Gl (X i) t2) (hm2 : ∀ i, (X i).mg t2 = none) (hv2 : bootBuiltins t2 = some (.type T2)) (he : DE X G W e fe)
    (hv : bootBuiltins "isinstance" = some (.builtin "isinstance") := by decide +kernel) (hn1 : t1 ≠ "__name__" := by decide) (hdb1 : (t1 == ("__debug__" : Str)) = false := by decide) (hn2 : t2 ≠ "__name__" := by decide) (hdb2 : (t2 == ("__debug__" : Str)) = false := by decide)
    (hs1 : ∀ i, starEach [.Name t2 p2] (X i).env = (false, eval (.Name t2 p2) (X i).env) :: starEach [] (X i).env := by intro _; rfl)
    (hs2 : ∀ i, starEach [.Name t1 p1, .Name t2 p2] (X i).env = (false, eval (.Name t1 p1) (X i).env) :: starEach [.Name t2 p2] (X i).env := by intro _; rfl)
    (hs3 : ∀ i, starEach [.Tuple [.Name t1 p1, .Name t2 p2] kt tp] (X i).env = (false, eval (.Tuple [.Name t1 p1, .Name t2 p2] kt tp) (X i).env) :: starEach [] (X i).env := by intro _; rfl)
    (hs : ∀ i, starEach (e :: [.Tuple [.Name t1 p1, .Name t2 p2] kt tp]) (X i).env = (false, eval e (X i).env) :: starEach [.Tuple [.Name t1 p1, .Name t2 p2] kt tp] (X i).env := by intro _; rfl) (hpl : ∀ i, (backTo pos (starEach [.Tuple [.Name t1 p1, .Name t2 p2] kt tp] (X i).env)).any (·.1) = false := by intro _; rfl) :
    DE X G W (.Call (.Name "isinstance" p) [e, .Tuple [.Name t1 p1, .Name t2 p2] kt tp] [] pos) (eIsi (fun d => g1 d || g2 d) fe) := by
  obtain ⟨te, pe, le⟩ := he
  refine ⟨tCB (rIsiT G.K) (tCons te (tCons (tTup (tCons (tC (.ty T1)) (tCons (tC (.ty T2)) tNil))) tNil)), fun i => ?_, fun Fg O ρ σ H Q r h => ?_⟩
  · rw [← F.K i]
    exact pe_callB call_isiT (hg i) (hm i) hv (pa_cons (pe i) (pa_cons (pe_tup (pa_cons (pe_bltn (hg1 i) (hm1 i) hv1 (v := .ty T1) rfl hn1 hdb1) (pa_cons (pe_bltn (hg2 i) (hm2 i) hv2 (v := .ty T2) rfl hn2 hdb2) pa_nil (hs1 i)) (hs2 i))) pa_nil (hs3 i)) (hs i)) (by decide) (by decide) (hs i) (hpl i)
  · refine le Fg O ρ σ H _ r ((GP.bind h).imp fun d ρ1 H1 e1 r1 k1 v rv => ?_)
    refine ⟨by show 2 ≤ sizeLine; decide, fun q hq => ?_⟩
    have e2 : ∀ {O : List Addr}, Ext O H1 (upd H1 q (.tup [.ty T1, .ty T2])) := ext_new hq
    refine ⟨v, q, _, _, _, g1 d || g2 d, rfl, upd_same, .cons (.ty T1) (.cons (.ty T2) .nil), tyX_of (rv.ext (O := []) (by simp) e2 fun _ m => .inl m), ?_, k1 _ e2 (r1.ext0 e2) _ (.bl _)⟩
    exact kitAny_cons (kit_ty (kb1 d)) (fun z => by
      rw [z]
      exact kitAny_cons (kit_ty (kb2 d)) (fun z2 => by rw [z2]; exact kitAny_nil) (fun z2 => by rw [z2]; rfl)) (fun z => by rw [z]; rfl)

/-! ### truth -/
def truD : PyData → Option Bool
  | .none => some false
  | .bool b => some b
  | .int i => some (i != 0)
  | .str x => if x.length ≤ sizeLine then some ((x.length : Int) != 0) else none
  | .list xs => some (!xs.isEmpty)
  | .tuple xs => some (!xs.isEmpty)
  | .dict _ => none
theorem empty_of {A : List Addr} {H : Hp} {us : List V} {ds : List PyData} (r : RepAll G.K A H us ds) : us.isEmpty = ds.isEmpty := by cases r <;> rfl
theorem truV_of {A : List Addr} {H : Hp} {v : V} {d : PyData} {b : Bool} (r : Rep G.K A H v d) (e : truD d = some b) : TruV G.K v H b := by
  cases r with
  | non => cases e; rfl
  | bl b => cases e; rfl
  | int i => cases e; rfl
  | str x =>
    unfold truD at e
    simp only at e
    split at e
    · cases e
      exact ⟨by assumption, rfl⟩
    · cases e
  | lst h _ rs => cases e; exact .inl ⟨_, .inl (.inl h), by rw [empty_of rs]⟩
  | scr h => cases e
  | tup h rs => cases e; exact .inr (.inl ⟨_, h, by rw [empty_of rs]⟩)
def tT (f : RS → Rs PyData) : RS → Rs Bool := fun ρ => (f ρ).bind fun d ρ1 => Rs.of (truD d) ρ1
theorem dt_truth {a : Expr} {fa : RS → Rs PyData} (F : Fam X G W k) (ha : DE X G W a fa) (he : ∀ i whole, isTrue a (X i).env whole = (do let v ← whole; standAt a.pos; holding [v] (truthy v)) := by intro _ _; rfl) : DT X G W a (tT fa) := by
  obtain ⟨ta, pa, la⟩ := ha
  refine ⟨fun σ H Q => ta σ H fun x H' => ∃ k, TruV G.K x H' k ∧ Q k H', fun i => by rw [← F.K i]; exact pt_truth (pa i) (he i), fun Fg O ρ σ H Q r h => ?_⟩
  refine la Fg O ρ σ H _ r ((GP.bind h).imp fun d ρ1 H1 e1 r1 k1 v rv => ?_)
  obtain ⟨b, e, kk⟩ := k1.of
  exact ⟨b, truV_of rv e, kk H1 .refl r1⟩
/-- an own list, as a test -/
def tOwn (j : Nat) : RS → Rs Bool := fun ρ => match ρ[j]? with
  | some (.o xs) => .ok (!xs.isEmpty) ρ
  | some (.d x) => Rs.of (truD x) ρ
  | _ => .no
theorem dt_own (j : Nat) {x : Str} {p : Pos} (F : Fam X G W k) (hN : ∀ i, (X i).N[j]? = some x) (hv : ∀ i, Vis (X i).env.scope x) (hd : (x == ("__debug__" : Str)) = false := by decide) (hcd : (x == ("__classdict__" : Str)) = false := by decide)
    (he : ∀ i whole, isTrue (.Name x p) (X i).env whole = (do let v ← whole; standAt p; holding [v] (truthy v)) := by intro _ _; rfl) : DT X G W (.Name x p) (tOwn j) := by
  refine ⟨fun σ H Q => tVar j σ H fun x H' => ∃ k, TruV G.K x H' k ∧ Q k H', fun i => by rw [← F.K i]; exact pt_truth (pe_var (hN i) (hv i) hd hcd) (he i), fun Fg O ρ σ H Q r h => ?_⟩
  unfold tOwn at h
  split at h
  · rename_i xs e
    obtain ⟨a, vs, h0, h1, h2, h3⟩ := r.own j xs e
    exact ⟨_, h1, _, .inl ⟨vs, .inl (.inl h2), by rw [empty_of h3]⟩, h H .refl r⟩
  · rename_i d e
    obtain ⟨v, h1, h2⟩ := r.val j d e
    obtain ⟨b, e, kk⟩ := GP.of h
    exact ⟨v, h1, b, truV_of h2 e, kk H .refl r⟩
  · exact h.elim
/-- -e -/
def eNegD (f : RS → Rs PyData) : RS → Rs PyData := fun ρ => (f ρ).bind fun d ρ1 => match d with
  | .int i => .ok (.int (-i)) ρ1
  | _ => .no
theorem de_neg {a : Expr} {fa : RS → Rs PyData} (ha : DE X G W a fa) : DE X G W (.UnaryOp .USub a pos) (eNegD fa) := by
  obtain ⟨ta, pa, la⟩ := ha
  refine ⟨_, fun i => pe_un un_neg (pa i), fun Fg O ρ σ H Q r h => ?_⟩
  refine la Fg O ρ σ H _ r ((GP.bind h).imp fun d ρ1 H1 e1 r1 k1 v rv => ?_)
  cases d with
  | int i =>
    rw [rep_int rv]
    exact ⟨i, rfl, k1 H1 .refl r1 _ (.int _)⟩
  | _ => exact k1.elim

/-! ### slices -/
structure DP (X : ι → Cx) (G : Ctx) (W : WX) (e : Option Expr) (f : RS → Rs (Option Int)) : Prop where
  ex : ∃ t : TO, (∀ i, PO (X i) e t) ∧ ∀ Fg O ρ σ H Q, R G Fg O ρ σ H → GP G W Fg O σ (fun o _ H' => Q o H') H (f ρ) → t σ H Q
def pNone : RS → Rs (Option Int) := fun ρ => .ok none ρ
def pSome (f : RS → Rs PyData) : RS → Rs (Option Int) := fun ρ => (f ρ).bind fun d ρ1 => match d with
  | .int i => .ok (some i) ρ1
  | _ => .no
theorem dp_none : DP X G W none pNone := ⟨_, fun _ => po_none, fun Fg O ρ σ H Q r h => h H .refl r⟩
theorem dp_some {e : Expr} {f : RS → Rs PyData} (he : DE X G W e f) : DP X G W (some e) (pSome f) := by
  obtain ⟨ta, pa, la⟩ := he
  refine ⟨_, fun i => po_some (pa i), fun Fg O ρ σ H Q r h => ?_⟩
  refine la Fg O ρ σ H _ r ((GP.bind h).imp fun d ρ1 H1 e1 r1 k1 v rv => ?_)
  cases d with
  | int i =>
    rw [rep_int rv]
    exact ⟨i, rfl, k1 H1 .refl r1⟩
  | _ => exact k1.elim
def cutD {α : Type} (xs : List α) (lo hi : Option Int) : List α := (xs.drop (HT.sIx xs.length 0 lo)).take (HT.sIx xs.length xs.length hi - HT.sIx xs.length 0 lo)
def gSl : PyData → Option Int → Option Int → Option PyData
  | .list xs, lo, hi => some (.list (cutD xs lo hi))
  | .tuple xs, lo, hi => some (.tuple (cutD xs lo hi))
  | _, _, _ => none
theorem cut_rep {A : List Addr} {H : Hp} {us : List V} {ds : List PyData} (r : RepAll G.K A H us ds) (lo hi : Option Int) : RepAll G.K A H (cutV us lo hi) (cutD ds lo hi) := by
  unfold cutV cutD
  rw [r.length]
  exact (r.drop _).take _
theorem cut_all {α : Type} {xs : List α} {lo hi : Option Int} (h : HT.sIx xs.length 0 lo = 0 ∧ HT.sIx xs.length xs.length hi = xs.length) : cutD xs lo hi = xs := by
  unfold cutD
  rw [h.1, h.2]
  simp
def eSl (fe : RS → Rs PyData) (fl fh : RS → Rs (Option Int)) : RS → Rs PyData := fun ρ => (fe ρ).bind fun d ρ1 => (fl ρ1).bind fun lo ρ2 => (fh ρ2).bind fun hi ρ3 => Rs.of (gSl d lo hi) ρ3
theorem de_slice {e : Expr} {lo hi : Option Expr} {p2 : Pos} {fe : RS → Rs PyData} {fl fh : RS → Rs (Option Int)} (F : Fam X G W k) (he : DE X G W e fe) (hl : DP X G W lo fl) (hh : DP X G W hi fh) : DE X G W (.Subscript e (.Slice lo hi none p2) pos) (eSl fe fl fh) := by
  obtain ⟨te, pe, le⟩ := he
  obtain ⟨tl, pl, ll⟩ := hl
  obtain ⟨th, ph, lh⟩ := hh
  refine ⟨tSl (fun x lo hi H Q => rSlL G.K x lo hi H Q ∨ rSlA G.K x lo hi H Q) te tl th, fun i => ?_, fun Fg O ρ σ H Q r h => ?_⟩
  · rw [← F.K i]
    exact pe_slice (sl_list.or sl_tupA) (pe i) (pl i) (ph i)
  · refine le Fg O ρ σ H _ r ((GP.bind h).imp fun d ρ1 H1 e1 r1 k1 v rv => ?_)
    refine ll Fg O ρ1 σ H1 _ r1 ((GP.bind k1).imp fun o1 ρ2 H2 e2 r2 k2 => ?_)
    refine lh Fg O ρ2 σ H2 _ r2 ((GP.bind k2).imp fun o2 ρ3 H3 e3 r3 k3 => ?_)
    obtain ⟨d', e, kk⟩ := k3.of
    have rv3 := rv.ext (fun a m => .inl (List.mem_append_left Fg m)) (e2.trans' e3) fun _ m => .inl m
    have q : ∀ v H', Same H3 H' → Rep G.K (adr O ++ Fg) H' v d' → Q v H' := fun v H' s rv => kk H' (.of_same s) (r3.ext0 (.of_same s)) v rv
    unfold gSl at e
    split at e
    · cases e
      obtain ⟨a, us, rfl, h1, n1, rr⟩ := rep_list rv3
      exact .inl ⟨a, us, rfl, .inl (.inl h1), new_lst r3.all (cut_rep rr _ _) q⟩
    · cases e
      obtain ⟨a, us, rfl, h1, rr⟩ := rep_tup rv3
      refine .inr ⟨a, us, rfl, h1, fun z => ?_, fun _ => new_tup (cut_rep rr _ _) q⟩
      rw [rr.length] at z
      rw [cut_all z] at q
      exact q _ _ (Same.refl _) (.tup h1 rr)
    · cases e

/-! ### own lists -/
/-- x = [..], the list is the slot's own -/
def sOwnL (j : Nat) (fs : RS → Rs (List PyData)) : RS → Out := fun ρ => (fs ρ).out fun ds ρ1 => if ds.length ≤ sizeLine ∧ noOwn ρ1 j = true ∧ j < ρ1.length then .nx (ρ1.set j (.o ds)) else .no
theorem ds_ownL {j : Nat} {x : Str} {es : List Expr} {pos' p : Pos} {fs : RS → Rs (List PyData)} (F : Fam X G W k) (hi : ∀ i, (X i).N[j]? = some x) (hx : ∀ i, Loc (X i).env.scope x) (hf : ∀ i, (X i).fn x = true ∨ (X i).env.scope.names.lookup x = some .local) (he : DA X G W es fs)
    (hs : ∀ i, swapsWith (.List es p) (some (.Name x pos')) pos.line (X i).env = pure false := by intro _; rfl) : DS X G W (.Assign [.Name x pos'] (.List es p) pos) (sOwnL j fs) := by
  obtain ⟨t, pa, l⟩ := he
  refine ⟨_, fun i => ps_set (F.nd i) (hi i) (hx i) (pe_lst (pa i)) (hs i) (hf i), fun Fg O ρ σ H D r h => l Fg O ρ σ H _ r ((SPo.out h).imp fun ds ρ1 H1 e1 r1 k vs rv => ?_)⟩
  by_cases hc : ds.length ≤ sizeLine ∧ noOwn ρ1 j = true ∧ j < ρ1.length
  · rw [if_pos hc] at k
    refine ⟨by rw [rv.length]; exact hc.1, fun q hq => ?_⟩
    have nF : q ∉ adr O ++ Fg := fresh_not r1.all hq
    have r2 := (r1.more (vs := vs) hq).take (fun m => nF (List.mem_append_right _ m)) upd_same hc.2.2 (noOwn_ok hc.2.1) (rv.ext (O := []) (by simp) (ext_new hq) fun b m => by
      rcases List.mem_append.mp m with z | z
      · exact .inl (List.mem_append_left _ z)
      · rcases List.mem_cons.mp z with z | z
        · rw [z]; exact .inr hq
        · exact .inl (List.mem_append_right _ z))
    refine k ((j, q) :: O) _ _ ⟨(ext_new hq), fun p m => List.mem_cons_of_mem _ m, fun p m => ?_⟩ r2
    rcases List.mem_cons.mp m with z | z
    · rw [z]; exact .inr hq
    · exact .inl z
  · rw [if_neg hc] at k; exact k.elim
/-- x[i], len(x), x in an own list -/
def ownAt (ρ : RS) (j : Nat) : Option (List PyData) := match ρ[j]? with
  | some (.o xs) => some xs
  | _ => none
theorem ownAt_ok {ρ : RS} {j : Nat} {xs : List PyData} (h : ownAt ρ j = some xs) : ρ[j]? = some (.o xs) := by
  unfold ownAt at h
  split at h
  · rename_i q
    cases h
    exact q
  · cases h
def eIxO (j : Nat) (fb : RS → Rs PyData) : RS → Rs PyData := fun ρ => match ownAt ρ j with
  | none => .no
  | some _ => (fb ρ).bind fun i ρ1 => match ownAt ρ1 j with
    | none => .no
    | some xs => match i with
      | .int n => Rs.of (atI xs n) ρ1
      | _ => .no
theorem de_ixO (j : Nat) {x : Str} {p : Pos} {b : Expr} {fb : RS → Rs PyData} (F : Fam X G W k) (hN : ∀ i, (X i).N[j]? = some x) (hv : ∀ i, Vis (X i).env.scope x) (hb : DE X G W b fb) (hd : (x == ("__debug__" : Str)) = false := by decide) (hcd : (x == ("__classdict__" : Str)) = false := by decide)
    (hs : PlainIx b := by intro _ _; rfl) : DE X G W (.Subscript (.Name x p) b pos) (eIxO j fb) := by
  obtain ⟨tb, pb, lb⟩ := hb
  refine ⟨tOp (rIx G.K) (tVar j) tb, fun i => ?_, fun Fg O ρ σ H Q r h => ?_⟩
  · rw [← F.K i]
    exact pe_ix ix_seq (pe_var (hN i) (hv i) hd hcd) (pb i) hs
  · unfold eIxO at h
    cases e0 : ownAt ρ j with
    | none => rw [e0] at h; exact h.elim
    | some xs0 =>
      rw [e0] at h
      obtain ⟨a, vs0, m0, h1, _, _⟩ := r.own j xs0 (ownAt_ok e0)
      refine ⟨_, h1, lb Fg O ρ σ H _ r ((GP.bind h).imp fun i ρ1 H1 e1 r1 k1 v rv => ?_)⟩
      cases e2 : ownAt ρ1 j with
      | none => rw [e2] at k1; exact k1.elim
      | some xs =>
        rw [e2] at k1
        obtain ⟨a', vs, m1, _, h3, h4⟩ := r1.own j xs (ownAt_ok e2)
        obtain rfl : a = a' := r1.key j a a' m0 m1
        cases i with
        | int n =>
          obtain ⟨d, e, kk⟩ := GP.of k1
          obtain ⟨w, g1, g2⟩ := atI_rep h4 e
          rw [rep_int rv]
          exact .inl ⟨a, vs, n, w, rfl, rfl, .inl (.inl h3), g1, kk H1 .refl r1 _ g2⟩
        | _ => exact k1.elim
def eLenO (j : Nat) : RS → Rs PyData := fun ρ => match ownAt ρ j with
  | none => .no
  | some xs => .ok (.int xs.length) ρ
theorem de_lenO (j : Nat) {x : Str} {p p2 : Pos} (F : Fam X G W k) (hN : ∀ i, (X i).N[j]? = some x) (hv : ∀ i, Vis (X i).env.scope x) (hg : ∀ i, Gl (X i) "len") (hm : ∀ i, (X i).mg "len" = none) (hd : (x == ("__debug__" : Str)) = false := by decide) (hcd : (x == ("__classdict__" : Str)) = false := by decide)
    (he : ∀ i, starEach [.Name x p2] (X i).env = (false, eval (.Name x p2) (X i).env) :: starEach [] (X i).env := by intro _; rfl) : DE X G W (.Call (.Name "len" p) [.Name x p2] [] pos) (eLenO j) := by
  refine ⟨tCB (fun xs H Q => ∃ x n, xs = [x] ∧ LenV G.K x H n ∧ Q (.int n) H) (tCons (tVar j) tNil), fun i => ?_, fun Fg O ρ σ H Q r h => ?_⟩
  · rw [← F.K i]
    exact pe_callB call_len (hg i) (hm i) PySem.boot_len (pa_cons (pe_var (hN i) (hv i) hd hcd) pa_nil (he i)) (by decide) (by decide) (he i) rfl
  · unfold eLenO at h
    cases e0 : ownAt ρ j with
    | none => rw [e0] at h; exact h.elim
    | some xs =>
      rw [e0] at h
      obtain ⟨a, vs, m0, h1, h2, h3⟩ := r.own j xs (ownAt_ok e0)
      refine ⟨_, h1, _, _, rfl, .inl ⟨vs, .inl (.inl h2), rfl⟩, ?_⟩
      rw [h3.length]
      exact h H .refl r _ (.int _)
/-- x[i] = e -/
def sPutO (j : Nat) (fi fe : RS → Rs PyData) : RS → Out := fun ρ => (fe ρ).out fun d ρ1 => match ownAt ρ1 j with
  | none => .no
  | some _ => (fi ρ1).out fun i ρ2 => match ownAt ρ2 j, i with
    | some xs, .int n => (match ixN xs.length n with
      | some m => .nx (ρ2.set j (.o (xs.set m d)))
      | none => .no)
    | _, _ => .no
theorem ds_putO (j : Nat) {x : Str} {p p1 : Pos} {b e : Expr} {fb fe : RS → Rs PyData} (F : Fam X G W k) (hN : ∀ i, (X i).N[j]? = some x) (hv : ∀ i, Vis (X i).env.scope x) (hb : DE X G W b fb) (he : DE X G W e fe) (hd : (x == ("__debug__" : Str)) = false := by decide) (hcd : (x == ("__classdict__" : Str)) = false := by decide)
    (ha : ∀ i v, assign (.Subscript (.Name x p) b p1) (X i).env v = (do
      let ov ← holding [v] (eval (.Name x p) (X i).env)
      let iv ← holding [v, ov] (eval b (X i).env)
      standAt p1
      holding [v, ov, iv] (setItem ov iv v)
      release [v, ov, iv] []) := by intro _ _; rfl)
    (hs : ∀ i, swapsWithSole [.Subscript (.Name x p) b p1] e pos.line (X i).env = pure false := by intro _; rfl) (hw : ∀ i, swappedStores [.Subscript (.Name x p) b p1] e (X i).env = pure none := by intro _; rfl)
    (h1 : ∀ i, (assignEach [.Subscript (.Name x p) b p1] (X i).env).map (·.2) = [assign (.Subscript (.Name x p) b p1) (X i).env] := by intro _; rfl) : DS X G W (.Assign [.Subscript (.Name x p) b p1] e pos) (sPutO j fb fe) := by
  obtain ⟨tb, pb, lb⟩ := hb
  obtain ⟨te, pe, le⟩ := he
  refine ⟨_, fun i => ps_asg (pe i) (pg_sub (pe_var (hN i) (hv i) hd hcd) (pb i) set_list (ha i)) (hs i) (hw i) (h1 i), fun Fg O ρ σ H D r h => ?_⟩
  refine le Fg O ρ σ H _ r ((SPo.out h).imp fun d ρ1 H1 e1 r1 k1 v rv => ?_)
  cases e0 : ownAt ρ1 j with
  | none => rw [e0] at k1; exact k1.elim
  | some xs0 =>
    rw [e0] at k1
    obtain ⟨a, vs0, m0, h1, _, _⟩ := r1.own j xs0 (ownAt_ok e0)
    refine ⟨_, h1, lb Fg O ρ1 σ H1 _ r1 ((SPo.out k1).imp fun i ρ2 H2 e2 r2 k2 w rw' => ?_)⟩
    cases e3 : ownAt ρ2 j with
    | none => rw [e3] at k2; exact k2.elim
    | some xs =>
      obtain ⟨a', vs, m1, hσ, h3, h4⟩ := r2.own j xs (ownAt_ok e3)
      obtain rfl : a = a' := r2.key j a a' m0 m1
      cases i with
      | int n =>
        rw [e3] at k2
        have k2 : SPo G W Fg O H2 D (match ixN xs.length n with | some m => .nx (ρ2.set j (.o (xs.set m d))) | none => .no) := k2
        cases e4 : ixN xs.length n with
        | none => rw [e4] at k2; exact k2.elim
        | some m =>
          rw [e4] at k2
          rw [rep_int rw']
          have rd := rv.ext (fun a m => .inl (List.mem_append_left Fg m)) e2 fun _ m => .inl m
          have hj : j < ρ2.length := r2.own_at (ownAt_ok e3)
          refine ⟨a, vs, n, m, rfl, rfl, h3, by rw [h4.length]; exact e4, ?_⟩
          exact k2 O σ _ (Ext.evo (ext_put h3 (R.in_adr m1))) (r2.put m1 h3 hj hσ (h4.set m rd))
      | _ => rw [e3] at k2; exact k2.elim
end
end DL

-- text DL11
set_option Elab.async false
set_option linter.all false
set_option maxRecDepth 100000
set_option maxHeartbeats 2000000
namespace DL
open PySem PySem.Spec PyProof.Rows L2 GxR

section
variable {ι : Type} {X : ι → Cx} {G : Ctx} {W : WX} {k : Nat} {pos : Pos}
theorem Fam.hu (F : Fam X G W k) (i : ι) : (X i).A.units + 65 < cLine := by
  have := (F.room i).un
  omega
theorem Fam.hu4 (F : Fam X G W k) (i : ι) : (X i).A.units + 64 < cLine := by
  have := (F.room i).un
  omega
theorem Fam.hu0 (F : Fam X G W k) (i : ι) : (X i).A.units < cLine := by
  have := (F.room i).un
  omega
/-- x in a list or a tuple of flat things, else in a list of data -/
def gInG (neg : Bool) (x y : PyData) : Option PyData := match gInF neg x y with
  | some d => some d
  | none => gIn neg x y
theorem or_inG' (F : Fam X G W k) (i : ι) : OpR (X i) (compareOp .In) (fun x y H Q => rIn G.K false x y H Q ∨ rInD G.K x y H Q) := (or_inF (F.K i)).or (or_inG (F.K i) (F.hu i))
theorem or_notinG' (F : Fam X G W k) (i : ι) : OpR (X i) (compareOp .NotIn) (fun x y H Q => rIn G.K true x y H Q ∨ rNotInD G.K x y H Q) := (or_notinF (F.K i)).or (or_notinG (F.K i) (F.hu i))
theorem od_inG' : OpD G (fun x y H Q => rIn G.K false x y H Q ∨ rInD G.K x y H Q) (gInG false) := by
  intro A H x y dx dy d Q all rx ry e q
  unfold gInG at e
  split at e
  · rename_i z
    cases e
    exact .inl (od_inF A H x y dx dy d Q all rx ry z q)
  · exact .inr (od_in A H x y dx dy d Q all rx ry e q)
theorem od_notinG' : OpD G (fun x y H Q => rIn G.K true x y H Q ∨ rNotInD G.K x y H Q) (gInG true) := by
  intro A H x y dx dy d Q all rx ry e q
  unfold gInG at e
  split at e
  · rename_i z
    cases e
    exact .inl (od_inF A H x y dx dy d Q all rx ry z q)
  · exact .inr (od_notin A H x y dx dy d Q all rx ry e q)
end
/-- a def stands at its name, and what it answers -/
structure HasF (P : Program) (w : World) (K : PySem.W.Frag) (mg : Str → Option Value) (base : Heap) (x : Str) (j : Nat) (sp : Sp) : Prop where
  ex : ∃ f fd ps, mg x = some (.ref f) ∧ PySem.W.keepIn K (.ref f) = true ∧ Binds K fd ps [] ∧ FnOk P w K mg base (L2.CX P w) j f fd ps sp
/-- a def of the top -/
structure TopF (K : PySem.W.Frag) (mg : Str → Option Value) (x : Str) (st : Stmt) : Prop where
  ex : ∃ f fd, Fun K x x st f fd ∧ mg x = some (.ref f)
/-- .. that holds generator expressions -/
structure TopG (K : PySem.W.Frag) (mg : Str → Option Value) (base : Heap) (ts : List Addr) (x : Str) (st : Stmt) : Prop where
  ex : ∃ f fd c P, Fun K x x st f fd ∧ mg x = some (.ref f) ∧ fd.code = .ref c ∧ P ∈ ts ∧ TabB base mg c P
section
variable {ι : Type} {X : ι → Cx} {G : Ctx} {W : WX} {k : Nat} {pos : Pos}
theorem fn_none {P : Program} {w : World} {K : PySem.W.Frag} {mg : Str → Option Value} {base : Heap} {x qual : Str} {st : Stmt} {f : Addr} {fd : FuncData} {N ps : List Str} {k : Nat} (F : Fun K x qual st f fd) (S : FnScope N ps (defScope st)) : FnOk P w K mg base (L2.CX P w) (k + 1) f fd ps (spD G ps.length fun _ => .no) :=
  fun_okC F S (fun vs H Q E h => h.1) fun A outer s H vs Q E hr hsp => by
    obtain ⟨_, _, _, _, _, _, h⟩ := hsp
    exact h.elim
end
end DL

-- text NS
set_option Elab.async false
set_option linter.all false
set_option maxRecDepth 100000
set_option maxHeartbeats 2000000
/-! sets of nested tuples of whole numbers: the search, the adding, the laying anew, the whole of set(list) -/
namespace NS
open PySem PySem.Spec PyProof.Rows L2

mutual
def nums : NestedKey → Bool
  | .num _ => true
  | .tup ks => numsAll ks
  | .none => false
  | .text _ => false
def numsAll : List NestedKey → Bool
  | [] => true
  | k :: ks => nums k && numsAll ks
end
/-- the tuple at b reads as the key q -/
structure At (h : Heap) (q : NestedKey) (b : Addr) : Prop where
  rd : NestedIs h q (.ref b)
  dp : q.depth ≤ 8
  nm : nums q = true
abbrev hk (w : World) (q : NestedKey) : Int := q.hash w
theorem At.obj {h : Heap} {q : NestedKey} {b : Addr} (x : At h q b) : ∃ o items n ks, q = .tup ks ∧ h.get? b = some o ∧ o.cls = .type "tuple" ∧ o.data = .seq items n ∧ NestedAll h ks items.toList := by
  obtain ⟨r, _, _⟩ := x
  cases r with
  | tup h1 h2 h3 h4 => exact ⟨_, _, _, _, rfl, h1, h2, h3, h4⟩
theorem At.goes {h h' : Heap} {q : NestedKey} {b : Addr} (x : At h q b) (kp : ∀ c o vs n, h.get? c = some o → o.data = .seq vs n → h'.get? c = some o) : At h' q b := ⟨NestedIs.at kp q _ x.rd, x.dp, x.nm⟩
theorem At.kept {h h' : Heap} {q : NestedKey} {b : Addr} (x : At h q b) (kp : ∀ c o, h.get? c = some o → h'.get? c = some o) : At h' q b := x.goes fun c o _ _ e _ => kp c o e
/-- the object at S is no tuple: it may change -/
theorem At.beside {h h' : Heap} {q : NestedKey} {b S : Addr} {o : Obj} {es : Array (Int × Value)} {ep : Nat} {t : SetTable} (x : At h q b) (ho : h.get? S = some o) (hd : o.data = .set es ep t) (sb : Heap.SameBut S h h') : At h' q b :=
  x.goes fun c o' vs n e e2 => (sb.2 c fun z => by
    subst z
    rw [ho] at e
    cases e
    rw [hd] at e2
    cases e2).trans e

section
variable {P : Program} {w : World} {A : Around} {E : Value → Shared → Prop} {s : Shared}
/-! ### what is asked of such keys -/
theorem class_flat {n : Nat} {q : NestedKey} {v : Value} {h : Heap} (hv : NestedIs h q v) (hq : nums q = true) : (∃ b, v = .ref b) ∨ (ofAClassStatement n v = pure false ∧ hashByValue n v = pure true) := by
  cases hv with
  | none => cases hq
  | bool _ => exact .inr ⟨by cases n <;> rfl, by cases n <;> rfl⟩
  | int i t => exact .inr ⟨by cases n <;> rfl, by cases n <;> rfl⟩
  | text x t => cases hq
  | tup _ _ _ _ => exact .inl ⟨_, rfl⟩
/-- every value of the list is such a key, of this depth at most -/
def Each (h : Heap) (n : Nat) (vs : List Value) : Prop := ∀ v ∈ vs, ∃ q, NestedIs h q v ∧ q.depth ≤ n ∧ nums q = true
theorem each_all {h : Heap} {n : Nat} : ∀ {ks : List NestedKey} {vs : List Value}, NestedAll h ks vs → NestedKey.depthAll ks ≤ n → numsAll ks = true → Each h n vs
  | _, _, .nil, _, _ => fun v m => by cases m
  | k :: ks, _, .cons x xs, hd, hn => fun v m => by
    simp only [NestedKey.depthAll] at hd
    simp only [numsAll, Bool.and_eq_true] at hn
    rcases List.mem_cons.mp m with e | m
    · subst e
      exact ⟨k, x, by omega, hn.1⟩
    · exact each_all xs (by omega) hn.2 v m
theorem class_no : ∀ (n : Nat) (s : Shared) (v : Value) (q : NestedKey) (Q : Bool → Shared → Prop), NestedIs s.heap q v → q.depth ≤ n → nums q = true → Q false s → wpAny (model P w) A (ofAClassStatement n v) Q E s
  | n, s, v, q, Q, hv, hd, hq, hQ => by
    rcases class_flat (n := n) hv hq with ⟨b, rfl⟩ | ⟨e, _⟩
    · cases hv with
      | @tup _ o vs m ks ho hc hdt hall =>
        match n, hd with
        | 0, hd => simp [NestedKey.depth] at hd
        | n + 1, hd =>
          simp only [NestedKey.depth] at hd
          have hT : s.TypeIs (.ref b) "tuple" := ⟨o, ho, hc⟩
          unfold ofAClassStatement
          refine wpAny_bind (wpAny_typeOf hT ?_)
          dsimp only
          have e : (("tuple" : String) == "tuple") = true := by decide
          simp only [e, if_true, Bool.not_true, Bool.false_eq_true, if_false]
          try refine wpAny_bind (wpAny_pure ?_)
          try simp only [Bool.not_true, Bool.false_eq_true, if_false]
          show wpAny _ _ (seqItems? (.ref b) >>= _) _ _ s
          refine wpAny_bind (wpAny_seqItems ho hdt ?_)
          dsimp only
          refine wpAny_bind ?_
          show wpAny _ _ (forIn vs _ _) _ _ s
          rw [← Array.forIn_toList]
          refine wpAny_forIn_list _ (fun left r s' => r.1 = none ∧ s' = s ∧ Each s.heap n left) _ ?_ ?_ _ _ ⟨rfl, rfl, each_all hall (by omega) (by simpa [nums] using hq)⟩
          · rintro u left r s' ⟨hr, rfl, he⟩
            obtain ⟨q', h1, h2, h3⟩ := he u List.mem_cons_self
            refine wpAny_bind (class_no n _ u q' _ h1 h2 h3 ?_)
            simp only [Bool.false_eq_true, if_false]
            exact wpAny_pure ⟨rfl, rfl, fun z hz => he z (List.mem_cons_of_mem _ hz)⟩
          · rintro ⟨r1, r2⟩ s' ⟨hr, rfl, _⟩
            simp only at hr
            subst hr
            exact wpAny_pure hQ
    · rw [e]
      exact wpAny_pure hQ
theorem byValue_yes : ∀ (n : Nat) (s : Shared) (v : Value) (q : NestedKey) (Q : Bool → Shared → Prop), NestedIs s.heap q v → q.depth ≤ n → nums q = true → Q true s → wpAny (model P w) A (hashByValue n v) Q E s
  | n, s, v, q, Q, hv, hd, hq, hQ => by
    rcases class_flat (n := n) hv hq with ⟨b, rfl⟩ | ⟨_, e⟩
    · cases hv with
      | @tup _ o vs m ks ho hc hdt hall =>
        match n, hd with
        | 0, hd => simp [NestedKey.depth] at hd
        | n + 1, hd =>
          simp only [NestedKey.depth] at hd
          have hT : s.TypeIs (.ref b) "tuple" := ⟨o, ho, hc⟩
          unfold hashByValue
          refine wpAny_bind (wpAny_specialOf hT F.slot_tuple_hash.lookup ?_)
          show wpAny _ _ (seqItems? (.ref b) >>= _) _ _ s
          refine wpAny_bind (wpAny_seqItems ho hdt ?_)
          refine wpAny_bind ?_
          show wpAny _ _ (forIn vs _ _) _ _ s
          rw [← Array.forIn_toList]
          refine wpAny_forIn_list _ (fun left r s' => r.1 = none ∧ s' = s ∧ Each s.heap n left) _ ?_ ?_ _ _ ⟨rfl, rfl, each_all hall (by omega) (by simpa [nums] using hq)⟩
          · rintro u left r s' ⟨hr, rfl, he⟩
            obtain ⟨q', h1, h2, h3⟩ := he u List.mem_cons_self
            refine wpAny_bind (byValue_yes n _ u q' _ h1 h2 h3 ?_)
            simp only [Bool.not_true, Bool.false_eq_true, if_false]
            exact wpAny_pure ⟨rfl, rfl, fun z hz => he z (List.mem_cons_of_mem _ hz)⟩
          · rintro ⟨r1, r2⟩ s' ⟨hr, rfl, _⟩
            simp only at hr
            subst hr
            exact wpAny_pure hQ
    · rw [e]
      exact wpAny_pure hQ
theorem quiet_at {q : NestedKey} {b : Addr} {Q : Bool → Shared → Prop} (x : At s.heap q b) (hQ : Q true s) : wpAny (model P w) A (eqIsQuiet 8 (.ref b)) Q E s := quiet_key q _ 8 s x.rd x.dp A E Q hQ
theorem eq_at {q r : NestedKey} {b c : Addr} {Q : Bool → Shared → Prop} (hu : A.units + 8 < cLine) (x : At s.heap q b) (y : At s.heap r c) (hQ : Q (decide (q = r)) s) : wpAny (model P w) A (eqBool (.ref b) (.ref c)) Q E s :=
  (nestedKind P w).eqBool hu ⟨x.rd, x.dp⟩ ⟨y.rd, y.dp⟩ hQ
theorem hash_at {q : NestedKey} {b : Addr} {Q : Int → Shared → Prop} (hu : A.units + 8 < cLine) (x : At s.heap q b) (hQ : Q (hk w q) { s with toks := s.toks + q.draws }) : wpAny (model P w) A (pyHash (.ref b)) Q E s :=
  (nestedKind P w).pyHash hu ⟨x.rd, x.dp⟩ hQ
/-- a search among such keys shows nothing -/
theorem unseen {q : NestedKey} {b : Addr} {Q : Bool → Shared → Prop} (x : At s.heap q b) {ys : List Value} (hy : ∀ y ∈ ys, ∃ r c, y = Value.ref c ∧ At s.heap r c) (hQ : Q false s) : wpAny (model P w) A (searchCouldBeSeen (.ref b) ys) Q E s := by
  unfold searchCouldBeSeen
  refine wpAny_bind ?_
  refine wpAny_forIn_list _ (fun left r s' => r.1 = none ∧ s' = s ∧ ∀ y ∈ left, ∃ r c, y = Value.ref c ∧ At s.heap r c) _ ?_ ?_ _ _ ⟨rfl, rfl, hy⟩
  · rintro v left r s' ⟨hr, rfl, he⟩
    obtain ⟨r', c, rfl, hc⟩ := he v List.mem_cons_self
    have left' : ∀ y ∈ left, ∃ r c, y = Value.ref c ∧ At s'.heap r c := fun u hu' => he u (List.mem_cons_of_mem _ hu')
    dsimp only
    by_cases hv : (b == c || (carriedByValue (.ref b) && carriedByValue (.ref c))) = true
    · exact wp_if_pos hv (wpAny_pure ⟨rfl, rfl, left'⟩)
    · refine wp_if_neg hv ?_
      refine wpAny_bind (quiet_at x ?_)
      simp only [Bool.not_true, Bool.false_eq_true, if_false]
      refine wpAny_bind (quiet_at hc ?_)
      simp only [Bool.not_true, Bool.false_eq_true, if_false]
      refine wpAny_bind (class_no 8 _ _ q _ x.rd x.dp x.nm ?_)
      simp only [Bool.false_eq_true, if_false]
      refine wpAny_bind (class_no 8 _ _ r' _ hc.rd hc.dp hc.nm ?_)
      simp only [Bool.false_eq_true, if_false]
      exact wpAny_pure ⟨rfl, rfl, left'⟩
  · rintro ⟨r1, r2⟩ s' ⟨hr, rfl, _⟩
    simp only at hr
    subst hr
    exact wpAny_pure hQ

/-! ### the set -/
abbrev Bag := List (Addr × NestedKey)
def rows (w : World) (B : Bag) : List (Int × Value) := B.map fun p => (hk w p.2, Value.ref p.1)
def hashes (w : World) (B : Bag) : List Int := B.map fun p => hk w p.2
theorem rows_len {w : World} {B : Bag} {es : Array (Int × Value)} (h : es.toList = rows w B) : es.size = B.length := by
  rw [← Array.length_toList, h]
  simp [rows]
theorem rows_at {w : World} {B : Bag} {es : Array (Int × Value)} (h : es.toList = rows w B) {i : Nat} {p : Addr × NestedKey} (hp : B[i]? = some p) : es[i]? = some (hk w p.2, Value.ref p.1) := by
  rw [← Array.getElem?_toList, h]
  unfold rows
  rw [List.getElem?_map, hp]
  rfl
/-- the set object at S: its rows, its table -/
structure Holds (w : World) (h : Heap) (S : Addr) (B : Bag) (es : Array (Int × Value)) (ep : Nat) (t : SetTable) : Prop where
  obj : ∃ o, h.get? S = some o ∧ o.ExactSet ∧ o.data = .set es ep t
  row : es.toList = rows w B
  tab : TabOk t (hashes w B)
  ndp : (B.map (·.2)).Nodup
  mem : ∀ p ∈ B, At h p.2 p.1
  pln : t.plain = true
  led : w.params.followText "set-order" = true ∨ t.led = true
  rm : B.length * 5 < t.mask * 3
  few : B.length < 64
variable {S : Addr} {B : Bag} {es : Array (Int × Value)} {ep : Nat} {t : SetTable}
theorem Holds.size (R : Holds w s.heap S B es ep t) : es.size = B.length := rows_len R.row
theorem tab_len {w : World} {B : Bag} {t : SetTable} (T : TabOk t (hashes w B)) : t.place.size = B.length := by
  have := T.sz
  unfold hashes at this
  rw [List.length_map] at this
  exact this
theorem Holds.fits (R : Holds w s.heap S B es ep t) : t.fits es.size = true := by
  have h1 := tab_len R.tab
  have h2 := R.size
  have h3 := R.rm
  unfold SetTable.fits SetTable.fill
  rw [R.tab.dm, Bool.and_eq_true, beq_iff_eq, decide_eq_true_eq]
  show t.place.size = es.size ∧ t.place.size + 0 ≤ t.mask
  omega
theorem Holds.gw (R : Holds w s.heap S B es ep t) : ¬ t.gaveWay = true := by
  unfold SetTable.gaveWay
  rw [mask_odd R.tab.mok]
  decide

/-! the search -/
abbrev wy (w : World) (t : SetTable) (q : NestedKey) (n : Nat) : Nat := way t.mask (hk w q) n
abbrev prb (w : World) (t : SetTable) (q : NestedKey) (n : Nat) : SetTable.Probe := nth t.mask (runAt t.mask (SetTable.bits (hk w q) % (t.mask + 1)) (SetTable.bits (hk w q))) n
theorem prb_clean (w : World) (t : SetTable) (q : NestedKey) (n : Nat) : (prb w t q n).dummy = none := by
  have go : ∀ (m : Nat) (p : SetTable.Probe), p.dummy = none → (nth t.mask p m).dummy = none := fun m => by
    induction m with
    | zero => exact fun p h => h
    | succ m ih =>
      intro p h
      refine ih (adv t.mask p) ?_
      unfold adv
      split <;> exact h
  exact go n _ rfl
theorem prb_add (w : World) (t : SetTable) (q : NestedKey) (n m : Nat) : nth t.mask (prb w t q n) m = prb w t q (n + m) := (nth_add t.mask n _ m).symm
theorem prb_j (w : World) (t : SetTable) (q : NestedKey) (n m : Nat) : (nth t.mask (prb w t q n) m).j = wy w t q (n + m) := congrArg SetTable.Probe.j (prb_add w t q n m)
theorem find_from (R : Holds w s.heap S B es ep t) {x : Addr} {q : NestedKey} (hx : At s.heap q x) (hu : A.units + 8 < cLine) {M : Nat} (hM : M < 10 * SetTable.turns t.mask)
    (hE : wy w t q M ∉ t.place.toList) (hF : ∀ c, c < M → wy w t q c ∈ t.place.toList) {Q : SetFound → Shared → Prop}
    (hin : q ∈ B.map (·.2) → Q (.there none) s) (hout : q ∉ B.map (·.2) → Q (.free (wy w t q M) false) s) :
    ∀ (f c : Nat) (stand : Option SetTable.Probe), stand.getD (t.probeStart (hk w q)) = prb w t q c → c ≤ M → M - c < f →
      (∀ (i : Nat) p, B[i]? = some p → p.2 = q → ∃ c', c ≤ c' ∧ c' < M ∧ t.place.toList[i]? = some (wy w t q c')) → wpAny (model P w) A (setSearchFrom S (.ref x) (hk w q) true f stand) Q E s
  | 0, c, stand, _, _, hf, _ => absurd hf (Nat.not_lt_zero _)
  | f + 1, c, stand, hst, hc, hf, hre => by
    obtain ⟨ob, hob, hex, hdt⟩ := R.obj
    rw [setSearchFrom_succ]
    refine wpAny_bind (wpAny_setState_of hob hdt R.fits ?_)
    dsimp only
    refine wp_if_neg R.gw ?_
    try refine wpAny_bind (wpAny_pure ?_)
    have word := go_spec t R.tab.ris R.tab.dm (fun i => (es[i]?.map (·.1)).getD 0) (hk w q) (10 * SetTable.turns t.mask) (M - c) (prb w t q c) (prb_clean w t q c) (by omega)
      (fun d hd => by rw [prb_j]; exact hF (c + d) (by omega)) (by rw [prb_j, show c + (M - c) = M by omega]; exact hE)
    have hashOf : ∀ (i : Nat) p, B[i]? = some p → (fun i => (es[i]?.map (·.1)).getD 0) i = hk w p.2 := fun i p hp => by
      show (es[i]?.map (·.1)).getD 0 = _
      rw [rows_at R.row hp]
      rfl
    rcases word with ⟨d, i, hd, hi, hh, hno, hpr⟩ | ⟨hno, hpr⟩
    · have found : t.probe (fun i => (es[i]?.map (·.1)).getD 0) (hk w q) (stand.getD (t.probeStart (hk w q))) = some (.candidate (wy w t q (c + d)) i (prb w t q (c + (d + 1)))) := by
        rw [hst, ← prb_j, ← prb_add]
        exact hpr
      rw [found]
      dsimp only
      rw [prb_j] at hi
      have hil : i < B.length := by
        have h1 : i < t.place.toList.length := (List.getElem?_eq_some_iff.mp hi).1
        rw [Array.length_toList, tab_len R.tab] at h1
        exact h1
      obtain ⟨p, hp⟩ : ∃ p, B[i]? = some p := ⟨_, List.getElem?_eq_getElem hil⟩
      have hmem : p ∈ B := List.mem_of_getElem? hp
      have hpt := R.mem p hmem
      have behind : wpAny (model P w) A (searchRest S (.ref x) (hk w q) true f es t (wy w t q (c + d)) i (prb w t q (c + (d + 1)))) Q E s := by
        unfold searchRest
        rw [rows_at R.row hp]
        dsimp only
        refine wpAny_bind (wpAny_holding (eq_at hu hpt hx ?_))
        refine wpAny_bind (wpAny_setState_of hob hdt R.fits ?_)
        dsimp only
        by_cases same : p.2 = q
        · refine wp_if_pos (by simp [same]) ?_
          exact wpAny_pure (hin (List.mem_map.mpr ⟨p, hmem, same⟩))
        · refine wp_if_neg (by simp [same]) ?_
          try refine wpAny_bind (wpAny_pure ?_)
          rw [sameMem]
          dsimp only
          have sits : t.slot (wy w t q (c + d)) = .live i := slot_live R.tab.ris hi
          simp only [if_true, sits, rows_at R.row hp]
          refine wpAny_bind (wpAny_isSame_ref_self (wpAny_bind (wpAny_pure ?_)))
          simp only [if_true]
          refine wp_if_neg (by simp [same]) ?_
          refine find_from R hx hu hM hE hF hin hout f (c + (d + 1)) _ rfl (by omega) (by omega) fun i0 p0 g1 g2 => ?_
          obtain ⟨c', a1, a2, a3⟩ := hre i0 p0 g1 g2
          refine ⟨c', ?_, a2, a3⟩
          by_cases z1 : c' < c + d
          · refine (hno (c' - c) i0 (by omega) (by rw [prb_j, show c + (c' - c) = c' by omega]; exact a3) ?_).elim
            exact (hashOf i0 p0 g1).trans (congrArg (hk w) g2)
          · by_cases z2 : c' = c + d
            · subst z2
              have s0 := slot_live R.tab.ris a3
              rw [sits] at s0
              injection s0 with s0
              subst s0
              rw [hp] at g1
              cases g1
              exact (same g2).elim
            · omega
      by_cases hl : t.led = true
      · refine wp_if_neg (by simp [hl]) ?_
        try refine wpAny_bind (wpAny_pure ?_)
        exact behind
      · refine wp_if_pos (by simp [hl]) ?_
        refine wpAny_bind (unseen hx (fun y hy => ?_) ?_)
        · obtain ⟨e, he, ee⟩ := List.mem_map.mp hy
          have in1 : e ∈ es ∧ e.1 = hk w q := by simpa using he
          have in2 : e ∈ es.toList := by simpa using in1.1
          rw [R.row] at in2
          obtain ⟨p2, hp2, e2⟩ := List.mem_map.mp in2
          exact ⟨p2.2, p2.1, by rw [← ee, ← e2], R.mem p2 hp2⟩
        · refine wp_if_neg (by decide) ?_
          try refine wpAny_bind (wpAny_pure ?_)
          exact behind
    · have void : t.probe (fun i => (es[i]?.map (·.1)).getD 0) (hk w q) (stand.getD (t.probeStart (hk w q))) = some (.empty (wy w t q M) none) := by
        have e2 : wy w t q M = (nth t.mask (prb w t q c) (M - c)).j := by rw [prb_j, show c + (M - c) = M by omega]
        rw [hst, e2]
        exact hpr
      rw [void]
      dsimp only
      refine wpAny_pure (hout fun hm => ?_)
      obtain ⟨p0, g0, g2⟩ := List.mem_map.mp hm
      obtain ⟨i0, hi0, e0⟩ := List.getElem_of_mem g0
      have g1 : B[i0]? = some p0 := by rw [List.getElem?_eq_getElem hi0, e0]
      obtain ⟨c', a1, a2, a3⟩ := hre i0 p0 g1 g2
      refine hno (c' - c) i0 (by omega) (by rw [prb_j, show c + (c' - c) = c' by omega]; exact a3) ?_
      exact (hashOf i0 p0 g1).trans (congrArg (hk w) g2)
theorem find_at (R : Holds w s.heap S B es ep t) {x : Addr} {q : NestedKey} (hx : At s.heap q x) (hu : A.units + 8 < cLine) {Q : SetFound → Shared → Prop} (hin : q ∈ B.map (·.2) → Q (.there none) s)
    (hout : ∀ M, q ∉ B.map (·.2) → wy w t q M ∉ t.place.toList → (∀ c, c < M → wy w t q c ∈ t.place.toList) → Q (.free (wy w t q M) false) s) : wpAny (model P w) A (setSearch S (.ref x) (hk w q) true) Q E s := by
  have hrm := R.rm
  obtain ⟨M, hM, hE, hF⟩ := R.tab.first (by unfold hashes; rw [List.length_map]; omega) (hk w q)
  have few : M < 100000 := by
    have : 10 * SetTable.turns t.mask ≤ 1420 := by
      unfold SetTable.turns
      rcases R.tab.mok with e | e | e <;> omega
    omega
  unfold setSearch
  refine find_from R hx hu hM hE hF hin (fun hn => hout M hn hE hF) 100000 0 none rfl (Nat.zero_le _) (by omega) fun i p hp hq => ?_
  have hi : (hashes w B)[i]? = some (hk w q) := by
    unfold hashes
    rw [List.getElem?_map, hp, ← hq]
    rfl
  have hil : i < t.place.toList.length := by
    rw [Array.length_toList, tab_len R.tab]
    exact (List.getElem?_eq_some_iff.mp hp).1
  have hj := List.getElem?_eq_getElem hil
  obtain ⟨c, hc, e⟩ := R.tab.before hE hi hj
  exact ⟨c, Nat.zero_le _, hc, hj.trans (congrArg some e.symm)⟩

/-! laying anew, adding -/
theorem rows_ins (w : World) (B : Bag) (p : Nat) (x : Addr) (q : NestedKey) : rows w (B.take p ++ (x, q) :: B.drop p) = (rows w B).take p ++ (hk w q, Value.ref x) :: (rows w B).drop p := by
  simp [rows, List.map_take, List.map_drop]
theorem reorder (B : Bag) (es : Array (Int × Value)) (order : Array Nat) (hr : es.toList = rows w B) (hp : order.toList.Perm (List.range B.length)) :
    ∃ B2 : Bag, (order.filterMap (es[·]?)).toList = rows w B2 ∧ B2.Perm B ∧ hashes w B2 = order.toList.map fun i => (es.map (·.1)).getD i 0 := by
  have ent : ∀ i (h : i < B.length), es[i]? = some (hk w (B[i]).2, Value.ref (B[i]).1) := fun i h => rows_at hr (List.getElem?_eq_getElem h)
  have each : ∀ l : List Nat, (∀ i ∈ l, i < B.length) → l.filterMap (fun i => es[i]?) = rows w (l.filterMap fun i => B[i]?) ∧ hashes w (l.filterMap fun i => B[i]?) = l.map fun i => (es.map (·.1)).getD i 0 := fun l => by
    induction l with
    | nil => exact fun _ => ⟨rfl, rfl⟩
    | cons i l ih =>
      intro hl
      have hi := hl i List.mem_cons_self
      obtain ⟨e1, e2⟩ := ih fun j hj => hl j (List.mem_cons_of_mem _ hj)
      rw [List.filterMap_cons_some (ent i hi), List.filterMap_cons_some (List.getElem?_eq_getElem hi), e1]
      refine ⟨rfl, ?_⟩
      unfold hashes at e2 ⊢
      rw [List.map_cons, List.map_cons, e2]
      have e5 : (es.map (·.1))[i]? = some (hk w (B[i]).2) := by rw [Array.getElem?_map, ent i hi]; rfl
      simp [Array.getD_eq_getD_getElem?, e5]
  obtain ⟨e1, e2⟩ := each order.toList fun i hi => List.mem_range.mp (hp.mem_iff.mp hi)
  refine ⟨order.toList.filterMap fun i => B[i]?, by simpa using e1, ?_, e2⟩
  have whole : (List.range B.length).filterMap (fun i => B[i]?) = B := by
    have upto : ∀ n, n ≤ B.length → (List.range n).filterMap (fun i => B[i]?) = B.take n := fun n => by
      induction n with
      | zero => exact fun _ => rfl
      | succ n ih =>
        intro hn
        rw [List.range_succ, List.filterMap_append, ih (Nat.le_of_lt hn), List.take_succ, List.getElem?_eq_getElem hn, List.filterMap_cons_some (List.getElem?_eq_getElem hn)]
        rfl
    rw [upto _ (Nat.le_refl _), List.take_length]
  have h1 := hp.filterMap fun i => B[i]?
  rw [whole] at h1
  exact h1
theorem relaid_at {ob : Obj} (hob : s.heap.get? S = some ob) (hex : ob.ExactSet) (hdt : ob.data = .set es ep t) (hrow : es.toList = rows w B) (hsz : t.place.size = es.size) (hdm : t.dummies = #[]) (hfl : es.size ≤ t.mask)
    (nd : (B.map (·.2)).Nodup) (mem : ∀ p ∈ B, At s.heap p.2 p.1) (pl : t.plain = true) (ld : w.params.followText "set-order" = true ∨ t.led = true) (few : B.length < 64) {wanted M : Nat}
    (hw : SetTable.sizeAbove wanted - 1 = M) (hM : MaskOk M) (hw2 : SetTable.sizeAbove wanted ≤ 128) (hn : B.length * 5 < M * 3) {Q : Unit → Shared → Prop}
    (hQ : ∀ h' B' es' ep' t', Heap.SameBut S s.heap h' → Holds w h' S B' es' ep' t' → B'.Perm B → Q () { s with heap := h' }) : wpAny (model P w) A (setRelay S wanted) Q E s := by
  have hlen := rows_len hrow
  have hfits : t.fits es.size = true := by
    unfold SetTable.fits SetTable.fill
    rw [hdm, Bool.and_eq_true, beq_iff_eq, decide_eq_true_eq]
    show t.place.size = es.size ∧ t.place.size + 0 ≤ t.mask
    omega
  obtain ⟨t', order, e, hp, T, em, el, epl, ed⟩ := relaid_ok t (hs := es.map (·.1)) (wanted := wanted) hw hM (by rw [Array.size_map, hlen]; omega)
  rw [Array.size_map, hlen] at hp
  obtain ⟨B2, r1, r2, r3⟩ := reorder B es order hrow hp
  rw [← r3] at T
  have hs2 : (order.filterMap (es[·]?)).size = es.size := by rw [rows_len r1, r2.length_eq, hlen]
  rw [setRelay_eq]
  refine wpAny_bind (wpAny_setState_of hob hdt hfits ?_)
  dsimp only
  refine wp_if_neg (by rw [sizeLine_eq]; omega) ?_
  try refine wpAny_bind (wpAny_pure ?_)
  rw [e]
  dsimp only
  refine wpAny_bind ?_
  refine wp_if_neg (by rw [hs2]; simp) ?_
  try refine wpAny_bind (wpAny_pure ?_)
  refine wpAny_pure ?_
  dsimp only
  refine wpAny_storeSet_of hob hdt ?_ (by rw [hs2, hlen, sizeLine_eq]; omega)
  have sb : Heap.SameBut S s.heap (s.heap.update S (Obj.putSet (order.filterMap (es[·]?)) t')) := Heap.SameBut.update ..
  refine hQ _ B2 (order.filterMap (es[·]?)) (ep + 1) t' sb ?_ r2
  exact ⟨⟨_, store_at hob hdt, ⟨hex.1, hex.2.1, hex.2.2⟩, rfl⟩, r1, T, (r2.map (·.2)).nodup_iff.mpr nd, fun p hpm => (mem p (r2.mem_iff.mp hpm)).beside hob hdt sb, by rw [epl]; exact pl, by rw [el]; exact ld, by rw [r2.length_eq, em]; exact hn, by rw [r2.length_eq]; exact few⟩
theorem added_at (R : Holds w s.heap S B es ep t) {x : Addr} {q : NestedKey} (hx : At s.heap q x) (hu : A.units + 8 < cLine) (hfew : B.length + 1 < 64) {Q : Bool → Shared → Prop}
    (hQ : ∀ b h' B' es' ep' t', Heap.SameBut S s.heap h' → Holds w h' S B' es' ep' t' → (q ∈ B.map (·.2) → B' = B) → (q ∉ B.map (·.2) → B'.Perm ((x, q) :: B)) → Q b { s with heap := h' }) :
    wpAny (model P w) A (setAddHashed S (.ref x) (hk w q)) Q E s := by
  obtain ⟨ob, hob, hex, hdt⟩ := R.obj
  have hlen := R.size
  have hrm := R.rm
  unfold setAddHashed
  refine wpAny_holding ?_
  rw [show (100000 : Nat) = 99999 + 1 from rfl, setAddHashedIn_succ]
  refine wpAny_bind (wpAny_setState_of hob hdt R.fits ?_)
  dsimp only
  refine wp_if_neg (by simp [byScan, Value.scannable]) ?_
  try refine wpAny_bind (wpAny_pure ?_)
  refine wpAny_bind (find_at R hx hu (fun hm => ?_) fun M hm hE hF => ?_)
  · dsimp only
    exact wpAny_pure (hQ false s.heap B es ep t (Heap.SameBut.refl S s.heap) R (fun _ => rfl) fun z => absurd hm z)
  · dsimp only
    refine wpAny_bind (wpAny_setState_of hob hdt R.fits ?_)
    dsimp only
    obtain ⟨q1, q2, q3, q4, q5, q6, q7, q8, q9⟩ := R.tab.put hE hF
    have hp1 : (t.put (wy w t q M)).1.plain = true := by rw [q6]; exact R.pln
    generalize hpt : t.put (wy w t q M) = pt at q1 q3 q4 q5 q6 q7 q8 q9 hp1 ⊢
    obtain ⟨t1, p⟩ := pt
    dsimp only at q1 q3 q4 q5 q6 q7 q8 q9 hp1 ⊢
    subst q1
    first
      | (refine wpAny_bind ?_; refine wp_if_pos hp1 ?_; refine byValue_yes 8 _ _ q _ hx.rd hx.dp hx.nm ?_)
      | refine wp_if_pos hp1 (wpAny_bind (byValue_yes 8 _ _ q _ hx.rd hx.dp hx.nm ?_))
    simp only [if_true]
    have hin : (SetTable.insertAt es (SetTable.below t.place (wy w t q M)) (hk w q, Value.ref x)).toList = rows w (B.take (SetTable.below t.place (wy w t q M)) ++ (x, q) :: B.drop (SetTable.below t.place (wy w t q M))) := by
      rw [SetTable.toList_insertAt, rows_ins, R.row]
    generalize hpp : SetTable.below t.place (wy w t q M) = p at q2 q3 hin ⊢
    have pm := put_perm B p (x, q)
    have hlen1 : (B.take p ++ (x, q) :: B.drop p).length = B.length + 1 := pm.length_eq
    have hhs : hashes w (B.take p ++ (x, q) :: B.drop p) = (hashes w B).take p ++ hk w q :: (hashes w B).drop p := by
      simp [hashes, List.map_take, List.map_drop]
    rw [← hhs] at q3
    have nd1 : ((B.take p ++ (x, q) :: B.drop p).map (·.2)).Nodup := by
      refine (pm.map (·.2)).nodup_iff.mpr ?_
      rw [List.map_cons]
      exact List.nodup_cons.mpr ⟨hm, R.ndp⟩
    have hes : (SetTable.insertAt es p (hk w q, Value.ref x)).size = B.length + 1 := by rw [rows_len hin, hlen1]
    generalize SetTable.insertAt es p (hk w q, Value.ref x) = es1 at hin hes ⊢
    generalize B.take p ++ (x, q) :: B.drop p = B1 at pm hlen1 q3 nd1 hin
    refine wpAny_bind (wpAny_storeSet_of hob hdt ?_ (by rw [hes, sizeLine_eq]; omega))
    have sb : Heap.SameBut S s.heap (s.heap.update S (Obj.putSet es1 t1)) := Heap.SameBut.update ..
    have hob1 := store_at (es' := es1) (t' := t1) hob hdt
    generalize s.heap.update S (Obj.putSet es1 t1) = h1 at sb hob1 ⊢
    have mem1 : ∀ p ∈ B1, At h1 p.2 p.1 := fun p hp => by
      rcases List.mem_cons.mp (pm.mem_iff.mp hp) with e | hp
      · rw [e]; exact hx.beside hob hdt sb
      · exact (R.mem p hp).beside hob hdt sb
    have ld1 : w.params.followText "set-order" = true ∨ t1.led = true := by rw [q5]; exact R.led
    have hl9 : (hashes w B).length = B.length := by simp [hashes]
    by_cases hf : t1.tooFull = true
    · first
        | (refine wpAny_bind ?_; refine wp_if_pos (by simp [hf]) ?_)
        | (refine wp_if_pos (by simp [hf]) ?_; refine wpAny_bind ?_)
      have hfull : (B.length + 1) * 5 ≥ t1.mask * 3 := by
        have h := hf
        unfold SetTable.tooFull at h
        rw [decide_eq_true_eq, q9, hl9] at h
        exact h
      rw [hlen]
      have hsz1 : t1.place.size = es1.size := by rw [tab_len q3, hes, hlen1]
      have two : (t.mask = 7 ∧ B.length = 4) ∨ (t.mask = 31 ∧ B.length = 18) := by
        rcases R.tab.mok with e | e | e
        · left; rw [q4, e] at hfull; rw [e] at hrm; exact ⟨e, by omega⟩
        · right; rw [q4, e] at hfull; rw [e] at hrm; exact ⟨e, by omega⟩
        · exfalso; have := R.few; rw [q4, e] at hfull; omega
      have anew : ∀ M, SetTable.sizeAbove (SetTable.grown (B.length + 1)) - 1 = M → MaskOk M → SetTable.sizeAbove (SetTable.grown (B.length + 1)) ≤ 128 → (B.length + 1) * 5 < M * 3 →
          wpAny (model P w) A (setRelay S (SetTable.grown (B.length + 1))) (fun _ s' => wpAny (model P w) A (pure true) Q E s') E { s with heap := h1 } := fun M h1' h2' h3' h4' => by
        refine relaid_at (s := { s with heap := h1 }) hob1 ⟨hex.1, hex.2.1, hex.2.2⟩ rfl hin hsz1 q3.dm (by rw [hes, q4]; rcases two with ⟨e, e2⟩ | ⟨e, e2⟩ <;> omega) nd1 mem1 hp1 ld1 (by rw [hlen1]; exact hfew) h1' h2' h3' (by rw [hlen1]; exact h4') ?_
        intro h2 B2 es2 ep2 t2 sb2 R2 pm2
        exact wpAny_pure (hQ true h2 B2 es2 ep2 t2 (sb.trans sb2) R2 (fun z => absurd z hm) fun _ => pm2.trans pm)
      rcases two with ⟨_, e2⟩ | ⟨_, e2⟩
      · exact anew 31 (by rw [e2, size_20]) (.inr (.inl rfl)) (by rw [e2, size_20]; decide) (by omega)
      · exact anew 127 (by rw [e2, size_76]) (.inr (.inr rfl)) (by rw [e2, size_76]; decide) (by omega)
    · first
        | refine wp_if_neg (by simp [hf]) ?_
        | (refine wpAny_bind ?_; refine wp_if_neg (by simp [hf]) ?_; refine wpAny_pure ?_)
      refine wpAny_pure (hQ true h1 B1 es1 (ep + 1) t1 sb ⟨⟨_, hob1, ⟨hex.1, hex.2.1, hex.2.2⟩, rfl⟩, hin, q3, nd1, mem1, hp1, ld1, ?_, by rw [hlen1]; exact hfew⟩ (fun z => absurd z hm) fun _ => pm)
      have h := hf
      unfold SetTable.tooFull at h
      rw [decide_eq_true_eq, q9, hl9] at h
      rw [hlen1]
      omega
end
end NS

-- text NS2
set_option Elab.async false
set_option linter.all false
set_option maxRecDepth 100000
set_option maxHeartbeats 3200000
/-! set(xs): the whole call -/
namespace NS
open PySem PySem.Spec PyProof.Rows L2
/-- what the set has of the first n -/
structure Has (ks : Bag) (n : Nat) (B : Bag) : Prop where
  sub : ∀ p ∈ B, p ∈ ks.take n
  all : ∀ p ∈ ks.take n, p.2 ∈ B.map (·.2)
  len : B.length ≤ n
theorem has_nil (ks : Bag) : Has ks 0 [] := ⟨fun p h => (by cases h), fun p h => (by simp at h), Nat.le_refl _⟩
theorem has_old {ks B : Bag} {n : Nat} {x : Addr × NestedKey} (g : Has ks n B) (h : ks[n]? = some x) (hm : x.2 ∈ B.map (·.2)) : Has ks (n + 1) B := by
  have tn : ks.take (n + 1) = ks.take n ++ [x] := by rw [List.take_succ, h]; rfl
  refine ⟨fun p hp => by rw [tn]; exact List.mem_append_left _ (g.sub p hp), fun p hp => ?_, Nat.le_succ_of_le g.len⟩
  rw [tn] at hp
  rcases List.mem_append.mp hp with z | z
  · exact g.all p z
  · rw [List.mem_singleton.mp z]; exact hm
theorem has_new {ks B B' : Bag} {n : Nat} {x : Addr × NestedKey} (g : Has ks n B) (h : ks[n]? = some x) (pm : B'.Perm (x :: B)) : Has ks (n + 1) B' := by
  have tn : ks.take (n + 1) = ks.take n ++ [x] := by rw [List.take_succ, h]; rfl
  refine ⟨fun p hp => ?_, fun p hp => ?_, by rw [pm.length_eq]; exact Nat.succ_le_succ g.len⟩
  · rw [tn]
    rcases List.mem_cons.mp (pm.mem_iff.mp hp) with e | z
    · rw [e]; exact List.mem_append_right _ (List.mem_singleton.mpr rfl)
    · exact List.mem_append_left _ (g.sub p z)
  · rw [(pm.map (·.2)).mem_iff, List.map_cons]
    rw [tn] at hp
    rcases List.mem_append.mp hp with z | z
    · exact List.mem_cons_of_mem _ (g.all p z)
    · rw [List.mem_singleton.mp z]; exact List.mem_cons_self

section
variable {P : Program} {w : World} {A : Around} {E : Value → Shared → Prop} {s : Shared}
theorem Holds.kept {h h' : Heap} {S : Addr} {B : Bag} {es : Array (Int × Value)} {ep : Nat} {t : SetTable} (R : Holds w h S B es ep t) (hS : ∀ o, h.get? S = some o → h'.get? S = some o) (hm : ∀ p ∈ B, At h' p.2 p.1) : Holds w h' S B es ep t := by
  obtain ⟨o, ho, r⟩ := R.obj
  exact ⟨⟨o, hS o ho, r⟩, R.row, R.tab, R.ndp, hm, R.pln, R.led, R.rm, R.few⟩
abbrev newSet (w : World) : Obj := { cls := .type "set", dict := none, data := .set #[] 0 (.fresh 0 0 (!w.params.followText "set-order")) }
theorem holds_new {h : Heap} {S : Addr} (ho : h.get? S = some (newSet w)) : Holds w h S [] #[] 0 (.fresh 0 0 (!w.params.followText "set-order")) := by
  refine ⟨⟨_, ho, ⟨rfl, rfl, rfl⟩, rfl⟩, rfl, ⟨List.Pairwise.nil, rfl, rfl, .inl rfl, fun x hx => (by cases hx), fun i h j hi => (by simp [hashes] at hi)⟩, List.nodup_nil, fun p hp => (by cases hp), rfl, ?_, ?_, ?_⟩
  · show _ ∨ (!w.params.followText "set-order") = true
    cases w.params.followText "set-order"
    · exact .inr rfl
    · exact .inl rfl
  · show 0 * 5 < 7 * 3
    decide
  · show 0 < 64
    decide
/-- the loop that takes the items in -/
theorem takes_in {I : Addr} {fp wr : List Addr} {G : Array GenState → Array GenState → Prop} {n : Nat} {Pv : Nat → Value → Prop} {St : Nat → Shared → Prop} {R : Result → Shared → Prop}
    (W : WalksS P w A.in1 I fp wr G n Pv St) (S : Addr) (hSf : S ∉ fp) (ks : Bag) (hn : n = ks.length) (hfew : ks.length < 64) (hval : ∀ i v, Pv i v → ∃ p, ks[i]? = some p ∧ v = .ref p.1)
    (h0 : Heap) (hks : ∀ p ∈ ks, At h0 p.2 p.1) (hS0 : h0.get? S = none) (hw0 : ∀ b ∈ wr, h0.get? b = none) (hu : A.in1.units + 8 < cLine) :
    ∀ (m i : Nat) (s : Shared), n - i = m → i ≤ n → St i s → (∀ b o, h0.get? b = some o → s.heap.get? b = some o) → (∃ B es ep t, Holds w s.heap S B es ep t ∧ Has ks i B) →
      (∀ s' B es ep t, Moved (S :: wr) G s s' → Holds w s'.heap S B es ep t → Has ks n B → (∀ b o, h0.get? b = some o → s'.heap.get? b = some o) → R (.ok (.ret .none)) s') →
      codeAny (model P w) A (.builtin "set.update.loop" ⟨[.ref S, .ref I], []⟩) R s := by
  have hSw : S ∉ wr := fun h => hSf (W.sub _ h)
  have hsub : ∀ b ∈ wr, b ∈ S :: wr := fun b hb => List.mem_cons_of_mem _ hb
  have stay : ∀ {s s' : Shared}, Moved wr G s s' → (∀ b o, h0.get? b = some o → s.heap.get? b = some o) → ∀ b o, h0.get? b = some o → s'.heap.get? b = some o := fun hm hkp b o e =>
    hm.heap b o (fun hb => by rw [hw0 b hb] at e; cases e) (hkp b o e)
  intro m
  induction m with
  | zero =>
    intro i s hm' hi hst hkp ⟨B, es, ep, t, hB, g⟩ hR
    have hin : i = n := by omega
    subst hin
    refine codeAny_builtin F.entry_set_update_loop ?_
    rw [Around.under_plainId F.plain_set_update_loop _]
    show wpAny _ A.in1 (pyNext (.ref I) >>= _) _ _ s
    refine wpAny_bind (W.done s _ _ hst fun s' hm => ?_)
    show wpAny _ A.in1 (ret Value.none) _ _ s'
    have hkp' := stay hm hkp
    exact wpAny_pure (hR s' B es ep t (hm.mono hsub) (hB.kept (fun o e => hm.heap S o hSw e) fun p hp => (hks p (List.mem_of_mem_take (g.sub p hp))).kept hkp') g hkp')
  | succ m ih =>
    intro i s hm' hi hst hkp ⟨B, es, ep, t, hB, g⟩ hR
    have hlt : i < n := by omega
    refine codeAny_builtin F.entry_set_update_loop ?_
    rw [Around.under_plainId F.plain_set_update_loop _]
    show wpAny _ A.in1 (pyNext (.ref I) >>= _) _ _ s
    refine wpAny_bind (W.item i s _ _ hlt hst fun v s' hP hst' hm => ?_)
    obtain ⟨p, hp, rfl⟩ := hval i v hP
    have hkp' := stay hm hkp
    have hB' : Holds w s'.heap S B es ep t := hB.kept (fun o e => hm.heap S o hSw e) fun r hr => (hks r (List.mem_of_mem_take (g.sub r hr))).kept hkp'
    have hx : At s'.heap p.2 p.1 := (hks p (List.mem_of_getElem? hp)).kept hkp'
    show wpAny _ A.in1 (holding [Value.ref p.1] (setAdd S (.ref p.1)) >>= _) _ _ s'
    refine wpAny_bind (wpAny_holding ?_)
    unfold setAdd
    refine wpAny_holding ?_
    refine wpAny_bind (hash_at hu hx ?_)
    refine added_at (s := { s' with toks := s'.toks + p.2.draws }) hB' hx hu (by have := g.len; omega) fun b h' B' es' ep' t' hsb hB2 c1 c2 => ?_
    have g' : Has ks (i + 1) B' := by
      rcases Classical.em (p.2 ∈ B.map (·.2)) with c | c
      · rw [c1 c]; exact has_old g hp c
      · exact has_new g hp (c2 c)
    have hkp2 : ∀ b o, h0.get? b = some o → h'.get? b = some o := fun b o e => (hsb.2 b (fun z => by rw [z, hS0] at e; cases e)).trans (hkp' b o e)
    refine wpAny_pure ⟨plainId_quiet F.plain_set_update_loop _, ih (i + 1) _ (by omega) hlt (W.frame _ s' _ _ hst' (Nat.le_add_right _ _) fun b hb o e => ?_) hkp2 ⟨B', es', ep', t', hB2, g'⟩ fun s'' B2 es2 ep2 t2 hm'' hB'' g'' hkp'' => ?_⟩
    · rw [hsb.2 b (fun h : b = S => hSf (by rw [← h]; exact hb))]; exact e
    · refine hR s'' B2 es2 ep2 t2 (Moved.trans W.gtrans ((hm.mono hsub).then_heap (Nat.le_add_right _ _) fun b o hb e => ?_) hm'') hB'' g'' hkp''
      rw [hsb.2 b (fun h : b = S => hb (by rw [h]; exact List.mem_cons_self))]; exact e
theorem set_call {l : Addr} {items : Array Value} (ks : Bag) {Q : Value → Shared → Prop} (hh : A.handled = none) (hl : s.heap.IsList l items) (hit : items.toList = ks.map fun p => Value.ref p.1)
    (hks : ∀ p ∈ ks, At s.heap p.2 p.1) (hfew : ks.length < 64) (hu : A.units + 12 < cLine)
    (h : ∀ (h' : Heap) (tk : Nat) B es ep t, Holds w h' s.heap.objs.size B es ep t → Has ks ks.length B → (∀ b o, s.heap.get? b = some o → h'.get? b = some o) → Q (.ref s.heap.objs.size) { s with heap := h', toks := tk }) :
    wpAny (model P w) A (call (.type "set") [.ref l]) Q E s := by
  have hisz : items.size = ks.length := by
    rw [← Array.length_toList, hit]
    simp
  obtain ⟨c, tl, hmro⟩ := F.called_set.mro
  have hmade := F.called_set.made
  have hsub := F.called_set.sub
  refine wpAny_call (codeAny_of_tree ?_)
  show wpAny _ _ (callAny (.type "set") _) _ _ _
  refine wpAny_pure ⟨Code.quiet_builtin _ (by decide +kernel), codeAny_builtin F.entry_type_call ?_⟩
  rw [Around.under_plain (weight_type_call_type "set" [.ref l] []) rfl]
  have h1 := F.called_set.notType
  have h2 := F.called_set.canCreate
  have hct := F.typeCall_set_1 (.ref l)
  repeat (any_goals (first | assumption | wp_step))
  refine codeAny_mono (code_set_led1 (.ref l) (E := E) (Q₁ := fun obj s₁ => obj = .ref s.heap.objs.size ∧ s₁ = { s with heap := s.heap.push (newSet w) }) ⟨rfl, rfl⟩) fun r s₁ hr => ?_
  cases r with
  | error e => exact hr
  | ok fl =>
    cases fl with
    | ret obj =>
      obtain ⟨rfl, rfl⟩ := hr
      have hS : (s.heap.push (newSet w)).get? s.heap.objs.size = some (newSet w) := Heap.get?_push_size _ rfl
      have hT : Shared.TypeIs { s with heap := s.heap.push (newSet w) } (.ref s.heap.objs.size) "set" := ⟨_, hS, rfl⟩
      have hli := F.called_set.init.lookup
      have hbi := F.called_set.init.bind (.ref s.heap.objs.size)
      repeat (any_goals (first | assumption | wp_step))
      refine codeAny_mono (codeAny_call_builtin (R := wants (fun r s₂ => r = .none ∧ ∃ h' tk B es ep t, s₂ = { s with heap := h', toks := tk } ∧ Holds w h' s.heap.objs.size B es ep t ∧ Has ks ks.length B ∧
          (∀ b o, s.heap.get? b = some o → h'.get? b = some o)) E) F.called_set.init.plain F.entry_set_init (check_set_init_1 hT ?_)) fun r₂ s₂ hr₂ => ?_
      · obtain ⟨ol, hol, hcl, nl, hdl⟩ := hl
        obtain ⟨ocls, odict, odata, oslots⟩ := ol
        simp only at hcl hdl
        subst hcl; subst hdl
        have hol' : (s.heap.push (newSet w)).get? l = some { cls := .type "list", dict := odict, data := .seq items nl, slots := oslots } := Heap.get?_push_of_some _ hol
        have hsls := F.sub_list_set
        have hslf := F.sub_list_frozenset
        have hne : (Value.type "list" == Value.type "dict") = false := by decide
        have hl1 : (s.heap.push (newSet w)).IsList l items := ⟨_, hol', rfl, nl, rfl⟩
        unfold Builtin.«set.__init__» noKeywords Builtin.Frozenset.updateFrom
        generalize hPI : pyIter = PI
        wp_walk
        subst hPI
        refine wpAny_pyIter_list hl1 ?_
        refine wpAny_bind (wpAny_runValue ?_)
        have hlS : l < s.heap.objs.size := Heap.lt_size hol
        have hh3 : A.in1.in1.in1.handled = none := by simp [hh]
        have hneI : l ≠ (s.heap.push (newSet w)).objs.size := by
          rw [Heap.size_push]; exact Nat.ne_of_lt (Nat.lt_succ_of_lt hlS)
        have hSf : s.heap.objs.size ∉ [(s.heap.push (newSet w)).objs.size, l] := by
          rw [Heap.size_push]; simp only [List.mem_cons, List.mem_singleton, List.not_mem_nil, or_false, not_or]
          exact ⟨Nat.ne_of_lt (Nat.lt_succ_self _), Nat.ne_of_gt hlS⟩
        have hval : ∀ (i : Nat) (v : Value), items[i]? = some v → ∃ p, ks[i]? = some p ∧ v = .ref p.1 := fun i v hv => by
          have q : items.toList[i]? = some v := by rw [Array.getElem?_toList]; exact hv
          rw [hit, List.getElem?_map] at q
          cases hq : ks[i]? with
          | none => rw [hq] at q; cases q
          | some p =>
            rw [hq] at q
            exact ⟨p, rfl, (Option.some.inj q).symm⟩
        have none_of : ∀ b, s.heap.objs.size ≤ b → s.heap.get? b = none := fun b hb => by
          cases q : s.heap.get? b with
          | none => rfl
          | some o => exact absurd (Nat.lt_of_lt_of_le (Heap.lt_size q) hb) (Nat.lt_irrefl _)
        refine takes_in ((Walks.list hh3 _ l hneI items).toS) s.heap.objs.size
          hSf ks hisz hfew hval s.heap hks (none_of _ (Nat.le_refl _)) (fun b hb => none_of b (by
            rw [List.mem_singleton.mp hb, Heap.size_push]
            exact Nat.le_succ _)) (by have : A.in1.in1.in1.units ≤ A.units + 4 := (by show _ ≤ _; simp [Around.in1]); omega) (items.size - 0) 0 _ (by omega) (Nat.zero_le _)
          ⟨⟨_, Heap.get?_push_size _ rfl, rfl, rfl⟩, (hl1.push _)⟩ (fun b o e => Heap.get?_push_of_some _ (Heap.get?_push_of_some _ e)) ?hS0 ?hR
        case hS0 => exact ⟨[], #[], 0, _, holds_new (Heap.get?_push_of_some _ hS), has_nil ks⟩
        case hR =>
          intro s' B es ep t hm hB' g' hkp
          obtain ⟨h', g2, d', tk', os'⟩ := s'
          have eg : g2 = s.gens := hm.gens
          have ed : d' = s.drawn := hm.drawn
          have eo : os' = s.os := hm.os
          subst eg; subst ed; subst eo
          show wpAny _ _ _ _ _ _
          refine wpAny_pure ?_
          show wpAny _ _ (ret Value.none) _ _ _
          rw [hisz] at g'
          exact wpAny_pure ⟨rfl, h', tk', B, es, ep, t, rfl, hB', g', hkp⟩
      · cases r₂ with
        | error e => exact hr₂
        | ok fl₂ =>
          cases fl₂ with
          | ret r =>
            obtain ⟨rfl, h', tk, B, es, ep, t, rfl, hB', g', hk'⟩ := hr₂
            repeat (any_goals (first | assumption | wp_step))
            exact h _ _ _ _ _ _ hB' g' hk'
          | _ => exact hr₂.elim
    | _ => exact hr.elim
end
end NS

-- text NS3
set_option Elab.async false
set_option linter.all false
set_option maxRecDepth 100000
set_option maxHeartbeats 3200000
/-! sorted(set(xs)) by data -/
namespace DL
open PySem PySem.Spec PyProof.Rows L2 NS

/-! ### lists in order -/
section
variable {α : Type} {le : α → α → Bool}
theorem sorted_eq : ∀ {l m : List α}, (∀ a ∈ l, ∀ b ∈ l, le a b = true → le b a = true → a = b) → l.Pairwise (fun a b => le a b = true) → m.Pairwise (fun a b => le a b = true) → l.Perm m → l = m
  | [], m, _, _, _, p => (List.nil_perm.mp p).symm ▸ rfl
  | a :: l, [], _, _, _, p => (List.not_perm_cons_nil p).elim
  | a :: l, b :: m, anti, h1, h2, p => by
    obtain ⟨h3, h4⟩ := List.pairwise_cons.mp h1
    obtain ⟨h5, h6⟩ := List.pairwise_cons.mp h2
    have e : a = b := by
      rcases List.mem_cons.mp (p.mem_iff.mp List.mem_cons_self) with e | ma
      · exact e
      · rcases List.mem_cons.mp (p.mem_iff.mpr (List.mem_cons_self (a := b) (l := m))) with e | mb
        · exact e.symm
        · exact anti a List.mem_cons_self b (List.mem_cons_of_mem _ mb) (h3 b mb) (h5 a ma)
    subst e
    rw [sorted_eq (fun x hx y hy => anti x (List.mem_cons_of_mem _ hx) y (List.mem_cons_of_mem _ hy)) h4 h6 p.cons_inv]
theorem perm_pull {β : Type} {f : α → β} : ∀ {l m : List β}, l.Perm m → ∀ B : List α, m = B.map f → ∃ B1 : List α, B1.Perm B ∧ l = B1.map f := by
  intro l m p
  induction p with
  | nil => intro B e; exact ⟨B, .refl _, e⟩
  | cons x _ ih =>
    intro B e
    cases B with
    | nil => cases e
    | cons b B =>
      rw [List.map_cons] at e
      cases e
      obtain ⟨B1, h1, h2⟩ := ih B rfl
      exact ⟨b :: B1, h1.cons b, by rw [List.map_cons, h2]⟩
  | swap x y l =>
    intro B e
    cases B with
    | nil => cases e
    | cons b B =>
      cases B with
      | nil => cases e
      | cons c B =>
        rw [List.map_cons, List.map_cons] at e
        cases e
        exact ⟨c :: b :: B, .swap b c B, rfl⟩
  | trans _ _ ih1 ih2 =>
    intro B e
    obtain ⟨B1, h1, h2⟩ := ih2 B e
    obtain ⟨B2, h3, h4⟩ := ih1 B1 h2
    exact ⟨B2, h3.trans h1, h4⟩
end
/-- neighbours that are alike, once -/
def uniq : List PyData → List PyData
  | [] => []
  | [x] => [x]
  | x :: y :: r => if keyS x = keyS y then uniq (y :: r) else x :: uniq (y :: r)
theorem uniq_sub : ∀ {l : List PyData} {d : PyData}, d ∈ uniq l → d ∈ l
  | [], _, h => h
  | [_], _, h => h
  | x :: y :: r, d, h => by
    unfold uniq at h
    split at h
    · exact List.mem_cons_of_mem _ (uniq_sub h)
    · rcases List.mem_cons.mp h with e | h
      · rw [e]; exact List.mem_cons_self
      · exact List.mem_cons_of_mem _ (uniq_sub h)
theorem uniq_mem : ∀ {l : List PyData}, (∀ a ∈ l, ∀ b ∈ l, keyS a = keyS b → a = b) → ∀ {d : PyData}, d ∈ l → d ∈ uniq l
  | [], _, _, h => h
  | [_], _, _, h => h
  | x :: y :: r, inj, d, h => by
    have ih : ∀ {d : PyData}, d ∈ y :: r → d ∈ uniq (y :: r) := fun {d} m => uniq_mem (fun a ha b hb => inj a (List.mem_cons_of_mem _ ha) b (List.mem_cons_of_mem _ hb)) m
    unfold uniq
    split
    · rename_i e
      rcases List.mem_cons.mp h with z | z
      · rw [z, inj x List.mem_cons_self y (List.mem_cons_of_mem _ List.mem_cons_self) e]
        exact ih List.mem_cons_self
      · exact ih z
    · rcases List.mem_cons.mp h with z | z
      · rw [z]; exact List.mem_cons_self
      · exact List.mem_cons_of_mem _ (ih z)
theorem leK_iff {a b : PyData} : leK a b = true ↔ keyS a ≤ keyS b := by rw [leK_eq, decide_eq_true_eq]
theorem uniq_lt : ∀ {l : List PyData}, l.Pairwise (fun a b => leK a b = true) → (uniq l).Pairwise fun a b => keyS a < keyS b
  | [], _ => .nil
  | [_], _ => List.pairwise_singleton _ _
  | x :: y :: r, h => by
    obtain ⟨h1, h2⟩ := List.pairwise_cons.mp h
    unfold uniq
    split
    · exact uniq_lt h2
    · rename_i ne
      refine List.pairwise_cons.mpr ⟨fun d m => ?_, uniq_lt h2⟩
      have hxy : keyS x ≤ keyS y := leK_iff.mp (h1 y List.mem_cons_self)
      have lt : keyS x < keyS y := by
        rcases List.le_iff_lt_or_eq.mp hxy with z | z
        · exact z
        · exact (ne z).elim
      rcases List.mem_cons.mp (uniq_sub m) with e | m
      · rw [e]; exact lt
      · exact List.not_le.mp fun z => List.not_le.mpr lt (List.le_trans (leK_iff.mp ((List.pairwise_cons.mp h2).1 d m)) z)
theorem keyS_inj {k : Nat} {a b : PyData} (ha : kindS a = k) (hb : kindS b = k) (hk : k ≠ 0) (e : keyS a = keyS b) : a = b := by
  have h3 : k = 1 ∨ k = 2 ∨ k = 3 := by
    have := kind_le a
    omega
  rcases h3 with rfl | rfl | rfl
  · obtain ⟨i, rfl⟩ := kind1 ha
    obtain ⟨j, rfl⟩ := kind1 hb
    cases e
    rfl
  · obtain ⟨i, ns, rfl, e1⟩ := kind2 ha
    obtain ⟨j, ms, rfl, e2⟩ := kind2 hb
    rw [e1, e2] at e
    cases e
    rfl
  · obtain ⟨i, ns, rfl, e1⟩ := kind3 ha
    obtain ⟨j, ms, rfl, e2⟩ := kind3 hb
    rw [e1, e2] at e
    cases e
    rfl
/-- the list of a set's items in order -/
def sset (ds : List PyData) : List PyData := uniq (isort leK ds)
theorem sset_eq {ds es : List PyData} (ok : sortOk ds = true) (nd : es.Nodup) (h : ∀ d, d ∈ es ↔ d ∈ ds) : isort leK es = sset ds := by
  obtain ⟨k, hk, kd⟩ := sortOk_kind ok
  have inj : ∀ a ∈ isort leK ds, ∀ b ∈ isort leK ds, keyS a = keyS b → a = b := fun a ha b hb e => keyS_inj (kd a (isort_mem.mp ha)) (kd b (isort_mem.mp hb)) hk e
  have lt := uniq_lt (isort_pw leK_total ds)
  have nd2 : (sset ds).Nodup := lt.imp fun {a b} h e => by
    rw [e] at h
    exact List.lt_irrefl _ h
  refine sorted_eq (le := leK) (fun a ha b hb h1 h2 => ?_) (isort_pw leK_total es) (lt.imp fun {a b} h => leK_iff.mpr (List.le_of_lt h)) ((isort_perm es).trans ((List.perm_ext_iff_of_nodup nd nd2).mpr fun d => ?_))
  · have m1 := (h a).mp (isort_mem.mp ha)
    have m2 := (h b).mp (isort_mem.mp hb)
    exact keyS_inj (kd a m1) (kd b m2) hk (List.le_antisymm (leK_iff.mp h1) (leK_iff.mp h2))
  · rw [h d]
    exact ⟨fun m => uniq_mem inj (isort_mem.mpr m), fun m => isort_mem.mp (uniq_sub m)⟩

/-! ### the keys of data -/
mutual
def keyN : PyData → NestedKey
  | .int i => .num i
  | .tuple xs => .tup (keysN xs)
  | .none => .none
  | .bool _ => .none
  | .str _ => .none
  | .list _ => .none
  | .dict _ => .none
def keysN : List PyData → List NestedKey
  | [] => []
  | x :: xs => keyN x :: keysN xs
end
mutual
def numD : PyData → Bool
  | .int _ => true
  | .tuple xs => numsD xs
  | .none => false
  | .bool _ => false
  | .str _ => false
  | .list _ => false
  | .dict _ => false
def numsD : List PyData → Bool
  | [] => true
  | x :: xs => numD x && numsD xs
end
mutual
theorem nums_key : ∀ d : PyData, numD d = true → nums (keyN d) = true
  | .int _, _ => rfl
  | .tuple xs, h => by
    show numsAll (keysN xs) = true
    exact nums_keys xs (by simpa [numD] using h)
  | .none, h => by simp [numD] at h
  | .bool _, h => by simp [numD] at h
  | .str _, h => by simp [numD] at h
  | .list _, h => by simp [numD] at h
  | .dict _, h => by simp [numD] at h
theorem nums_keys : ∀ xs : List PyData, numsD xs = true → numsAll (keysN xs) = true
  | [], _ => rfl
  | x :: xs, h => by
    simp only [numsD, Bool.and_eq_true] at h
    simp only [keysN, numsAll, Bool.and_eq_true]
    exact ⟨nums_key x h.1, nums_keys xs h.2⟩
end
mutual
theorem keyN_inj : ∀ a b : PyData, numD a = true → numD b = true → keyN a = keyN b → a = b
  | .int i, .int j, _, _, e => by simp only [keyN, NestedKey.num.injEq] at e; rw [e]
  | .tuple xs, .tuple ys, h1, h2, e => by
    simp only [keyN, NestedKey.tup.injEq] at e
    rw [keysN_inj xs ys (by simpa [numD] using h1) (by simpa [numD] using h2) e]
  | .int _, .tuple _, _, _, e => by simp [keyN] at e
  | .tuple _, .int _, _, _, e => by simp [keyN] at e
  | .none, _, h, _, _ => by simp [numD] at h
  | .bool _, _, h, _, _ => by simp [numD] at h
  | .str _, _, h, _, _ => by simp [numD] at h
  | .list _, _, h, _, _ => by simp [numD] at h
  | .dict _, _, h, _, _ => by simp [numD] at h
  | .int _, .none, _, h, _ => by simp [numD] at h
  | .int _, .bool _, _, h, _ => by simp [numD] at h
  | .int _, .str _, _, h, _ => by simp [numD] at h
  | .int _, .list _, _, h, _ => by simp [numD] at h
  | .int _, .dict _, _, h, _ => by simp [numD] at h
  | .tuple _, .none, _, h, _ => by simp [numD] at h
  | .tuple _, .bool _, _, h, _ => by simp [numD] at h
  | .tuple _, .str _, _, h, _ => by simp [numD] at h
  | .tuple _, .list _, _, h, _ => by simp [numD] at h
  | .tuple _, .dict _, _, h, _ => by simp [numD] at h
theorem keysN_inj : ∀ xs ys : List PyData, numsD xs = true → numsD ys = true → keysN xs = keysN ys → xs = ys
  | [], [], _, _, _ => rfl
  | [], _ :: _, _, _, e => by simp [keysN] at e
  | _ :: _, [], _, _, e => by simp [keysN] at e
  | x :: xs, y :: ys, h1, h2, e => by
    simp only [keysN, List.cons.injEq] at e
    simp only [numsD, Bool.and_eq_true] at h1 h2
    rw [keyN_inj x y h1.1 h2.1 e.1, keysN_inj xs ys h1.2 h2.2 e.2]
end
/-- tuples that a set takes here -/
def tupKind (d : PyData) : Bool := kindS d == 2 || kindS d == 3
theorem numsD_ints : ∀ ns : List Int, numsD (ns.map PyData.int) = true
  | [] => rfl
  | n :: ns => by
    simp only [List.map_cons, numsD, numD, Bool.true_and]
    exact numsD_ints ns
theorem depth_ints : ∀ ns : List Int, NestedKey.depthAll (keysN (ns.map PyData.int)) = 0
  | [] => rfl
  | n :: ns => by
    simp only [List.map_cons, keysN, keyN, NestedKey.depthAll, NestedKey.depth, depth_ints ns]
    rfl
theorem tupKind_ok {d : PyData} (h : tupKind d = true) : numD d = true ∧ (keyN d).depth ≤ 8 ∧ ∃ xs, d = .tuple xs := by
  unfold tupKind at h
  simp only [Bool.or_eq_true, beq_iff_eq] at h
  rcases h with h | h
  · obtain ⟨i, ns, rfl, _⟩ := kind2 h
    refine ⟨by simp only [numD, numsD, Bool.true_and]; exact numsD_ints ns, ?_, _, rfl⟩
    simp only [keyN, keysN, NestedKey.depth, NestedKey.depthAll, depth_ints]
    decide
  · obtain ⟨i, ns, rfl, _⟩ := kind3 h
    refine ⟨by simp only [numD, numsD, Bool.true_and, Bool.and_true]; exact numsD_ints ns, ?_, _, rfl⟩
    simp only [keyN, keysN, NestedKey.depth, NestedKey.depthAll, depth_ints]
    decide
section
variable {X : Cx} {pins : List (Addr × Obj)} {σ : L2.St} {H : Hp} {s : Shared}
mutual
theorem rep_nis (I : Inv X pins σ H s) {A : List Addr} : ∀ (d : PyData) (v : V) (u : Value), Rep X.K A H v d → RelV v u → numD d = true → NestedIs s.heap (keyN d) u
  | .int i, v, u, r, q, _ => by
    cases r
    obtain ⟨t, rfl⟩ := q
    exact .int i t
  | .tuple xs, v, u, r, q, h => by
    cases r with
    | tup hs ra =>
      cases q
      obtain ⟨its, rv, ⟨o, ho, hc, n, hd⟩, _⟩ := I.tuple hs
      have := rep_nall I xs _ its ra rv (by simpa [numD] using h)
      exact .tup ho hc hd (by simpa using this)
  | .none, _, _, _, _, h => by simp [numD] at h
  | .bool _, _, _, _, _, h => by simp [numD] at h
  | .str _, _, _, _, _, h => by simp [numD] at h
  | .list _, _, _, _, _, h => by simp [numD] at h
  | .dict _, _, _, _, _, h => by simp [numD] at h
theorem rep_nall (I : Inv X pins σ H s) {A : List Addr} : ∀ (ds : List PyData) (vs : List V) (us : List Value), RepAll X.K A H vs ds → Vals vs us → numsD ds = true → NestedAll s.heap (keysN ds) us
  | [], _, _, r, q, _ => by
    cases r
    cases q
    exact .nil
  | d :: ds, _, _, r, q, h => by
    cases r with
    | cons r1 r2 =>
      cases q with
      | cons q1 q2 =>
        simp only [numsD, Bool.and_eq_true] at h
        exact .cons (rep_nis I d _ _ r1 q1 h.1) (rep_nall I ds _ _ r2 q2 h.2)
end
mutual
theorem rep_reads (I : Inv X pins σ H s) {A : List Addr} : ∀ (d : PyData) (v : V) (u : Value), Rep X.K A H v d → RelV v u → numD d = true → Reads s.heap u d []
  | .int i, v, u, r, q, _ => by
    cases r
    obtain ⟨t, rfl⟩ := q
    exact .int _ _
  | .tuple xs, v, u, r, q, h => by
    cases r with
    | tup hs ra =>
      cases q
      obtain ⟨its, rv, ⟨o, ho, hc, n, hd⟩, _⟩ := I.tuple hs
      have := rep_readsAll I xs _ its ra rv (by simpa [numD] using h)
      exact .tuple ho hc hd (by simpa using this)
  | .none, _, _, _, _, h => by simp [numD] at h
  | .bool _, _, _, _, _, h => by simp [numD] at h
  | .str _, _, _, _, _, h => by simp [numD] at h
  | .list _, _, _, _, _, h => by simp [numD] at h
  | .dict _, _, _, _, _, h => by simp [numD] at h
theorem rep_readsAll (I : Inv X pins σ H s) {A : List Addr} : ∀ (ds : List PyData) (vs : List V) (us : List Value), RepAll X.K A H vs ds → Vals vs us → numsD ds = true → ReadsAll s.heap us ds []
  | [], _, _, r, q, _ => by
    cases r
    cases q
    exact .nil
  | d :: ds, _, _, r, q, h => by
    cases r with
    | cons r1 r2 =>
      cases q with
      | cons q1 q2 =>
        simp only [numsD, Bool.and_eq_true] at h
        exact ReadsAll.cons (as := []) (bs := []) (rep_reads I d _ _ r1 q1 h.1) (rep_readsAll I ds _ _ r2 q2 h.2)
end
end

/-! ### set(xs), sorted(set) -/
def SetN0 (w : World) (h : Heap) (S : Addr) (B : Bag) : Prop := ∃ (es : Array (Int × Value)) (ep : Nat) (t : SetTable), (∃ o, h.get? S = some o ∧ o.ExactSet ∧ o.data = .set es ep t) ∧ es.toList = rows w B ∧ TabOk t (NS.hashes w B) ∧ (B.map (·.2)).Nodup ∧
  t.plain = true ∧ (w.params.followText "set-order" = true ∨ t.led = true) ∧ B.length * 5 < t.mask * 3 ∧ B.length < 64
def SetNO (w : World) (S : Addr) (B : Bag) : HO := .ext fun h => SetN0 w h S B
theorem Holds.n0 {w : World} {h : Heap} {S : Addr} {B : Bag} {es : Array (Int × Value)} {ep : Nat} {t : SetTable} (R : Holds w h S B es ep t) : SetN0 w h S B := ⟨es, ep, t, R.obj, R.row, R.tab, R.ndp, R.pln, R.led, R.rm, R.few⟩
theorem SetN0.holds {w : World} {h : Heap} {S : Addr} {B : Bag} (R : SetN0 w h S B) (hm : ∀ p ∈ B, At h p.2 p.1) : ∃ es ep t, Holds w h S B es ep t := by
  obtain ⟨es, ep, t, h1, h2, h3, h4, h5, h6, h7, h8⟩ := R
  exact ⟨es, ep, t, h1, h2, h3, h4, hm, h5, h6, h7, h8⟩
theorem setNO_ok {P : Program} {w : World} {H : Hp} {h : Heap} {S : Addr} {B : Bag} (R : SetN0 w h S B) : ObjOk P w H h S (SetNO w S B) := by
  have ⟨es, ep, t, ⟨o, ho, r⟩, q⟩ := R
  refine ⟨R, ⟨o, ho⟩, fun h1 h2 p k => ?_⟩
  have ⟨es', ep', t', ⟨o', ho', r'⟩, q'⟩ : SetN0 w h1 S B := p
  exact ⟨es', ep', t', ⟨o', k o' ho', r'⟩, q'⟩
abbrev bagOf (B : List (Addr × PyData)) : Bag := B.map fun p => (p.1, keyN p.2)
def rSetN (K : PySem.W.Frag) (w : World) : List V → Hp → VK → Prop := fun xs H Q => ∃ (l : Addr) (A : List Addr) (us : List V) (ds : List PyData), xs = [.ref l] ∧ SqL K H l us ∧ RepAll K A H us ds ∧ ds.all tupKind = true ∧ ds.length < 64 ∧
  ∀ S (B : List (Addr × PyData)), H S = none → (∀ p ∈ B, p.2 ∈ ds ∧ Rep K A H (.ref p.1) p.2) → (∀ d ∈ ds, d ∈ B.map (·.2)) → (B.map (·.2)).Nodup → Q (.ref S) (upd H S (SetNO w S (bagOf B)))
theorem refs_of {K : PySem.W.Frag} {A : List Addr} {H : Hp} : ∀ {us : List V} {ds : List PyData}, RepAll K A H us ds → ds.all tupKind = true → ∃ ks : List (Addr × PyData), us = ks.map (fun p => V.ref p.1) ∧ ds = ks.map (·.2) ∧ ∀ p ∈ ks, Rep K A H (.ref p.1) p.2
  | _, _, .nil, _ => ⟨[], rfl, rfl, fun p m => by cases m⟩
  | _, _, .cons (v := v) (d := d) r rs, h => by
    simp only [List.all_cons, Bool.and_eq_true] at h
    obtain ⟨ks, h1, h2, h3⟩ := refs_of rs h.2
    obtain ⟨_, _, xs, rfl⟩ := tupKind_ok h.1
    cases r with
    | @tup a _ _ hs ra =>
      refine ⟨(a, .tuple xs) :: ks, by rw [h1]; rfl, by rw [h2]; rfl, fun p m => ?_⟩
      rcases List.mem_cons.mp m with e | m
      · rw [e]; exact .tup hs ra
      · exact h3 p m
theorem vals_refs {ks : List (Addr × PyData)} : ∀ {us : List Value}, Vals (ks.map fun p => V.ref p.1) us → us = (bagOf ks).map fun p => Value.ref p.1 := by
  induction ks with
  | nil => intro us r; cases r; rfl
  | cons p ks ih =>
    intro us r
    rw [List.map_cons] at r
    cases r with
    | cons q qs =>
      cases q
      rw [ih qs]
      rfl
theorem bag_pull {ks : List (Addr × PyData)} : ∀ {B0 : Bag}, (∀ p ∈ B0, p ∈ bagOf ks) → ∃ B : List (Addr × PyData), B0 = bagOf B ∧ ∀ p ∈ B, p ∈ ks
  | [], _ => ⟨[], rfl, fun p m => by cases m⟩
  | q :: B0, h => by
    obtain ⟨B, e, hs⟩ := bag_pull (B0 := B0) fun p m => h p (List.mem_cons_of_mem _ m)
    obtain ⟨p, hp, e2⟩ := List.mem_map.mp (h q List.mem_cons_self)
    refine ⟨p :: B, by rw [e, ← e2]; rfl, fun r m => ?_⟩
    rcases List.mem_cons.mp m with z | z
    · rw [z]; exact hp
    · exact hs r z
section
variable {X : Cx} {G : DL.Ctx}
theorem at_of {pins : List (Addr × Obj)} {σ : L2.St} {H : Hp} {s : Shared} (I : Inv X pins σ H s) {A : List Addr} {a : Addr} {d : PyData} (r : Rep X.K A H (.ref a) d) (h : tupKind d = true) : At s.heap (keyN d) a := by
  obtain ⟨h1, h2, _⟩ := tupKind_ok h
  exact ⟨rep_nis I d _ _ r rfl h1, h2, nums_key d h1⟩
theorem cr_setN (hc : X.calm = true) (hu : X.A.units + 65 < cLine) : CallR X (.type "set") (rSetN X.K X.w) := by
  intro pins s σ H xs us Q I r h
  obtain ⟨l, A, ws, ds, rfl, hl, ra, ht, hf, q⟩ := h
  rw [Vals.ref1 r]
  obtain ⟨its, rv, pl, hz⟩ := I.list hl
  obtain ⟨ks, rfl, rfl, hr⟩ := refs_of ra ht
  have hn : H s.heap.objs.size = none := I.hok.fresh (Nat.le_refl _)
  have tk : ∀ p ∈ ks, tupKind p.2 = true := fun p hp => List.all_eq_true.mp ht _ (List.mem_map.mpr ⟨p, hp, rfl⟩)
  refine set_call (P := X.prog) (w := X.w) (bagOf ks) (I.ok.hd hc) pl.isList (by simpa using vals_refs rv) (fun p hp => ?_) (by simpa using hf) (by omega) fun h' tk' B0 es ep t R g kk => ?_
  · obtain ⟨p0, hp0, rfl⟩ := List.mem_map.mp hp
    exact at_of I (hr p0 hp0) (tk p0 hp0)
  · obtain ⟨B, rfl, hs⟩ := bag_pull (ks := ks) fun p hp => List.mem_of_mem_take (g.sub p hp)
    refine ⟨.ref s.heap.objs.size, upd H s.heap.objs.size (SetNO X.w s.heap.objs.size (bagOf B)), I.laid (t' := tk') kk (Nat.le_refl _) (setNO_ok (Holds.n0 R)), rfl, q _ B hn (fun p hp => ⟨List.mem_map.mpr ⟨p, hs p hp, rfl⟩, hr p (hs p hp)⟩) (fun d hd => ?_) ?_⟩
    · obtain ⟨p, hp, rfl⟩ := List.mem_map.mp hd
      have m := g.all (p.1, keyN p.2) (by rw [List.take_length]; exact List.mem_map.mpr ⟨p, hp, rfl⟩)
      obtain ⟨q1, hq1, e1⟩ := List.mem_map.mp m
      obtain ⟨q2, hq2, rfl⟩ := List.mem_map.mp hq1
      have := keyN_inj q2.2 p.2 (tupKind_ok (tk q2 (hs q2 hq2))).1 (tupKind_ok (tk p hp)).1 e1
      rw [← this]
      exact List.mem_map.mpr ⟨q2, hq2, rfl⟩
    · have nd := R.ndp
      have e : (bagOf B).map (·.2) = (B.map (·.2)).map keyN := by simp
      rw [e] at nd
      exact List.Pairwise.of_map keyN (fun a b hne z => hne (by rw [z])) nd
def rSortN (K : PySem.W.Frag) (w : World) : List V → Hp → VK → Prop := fun xs H Q => ∃ (S : Addr) (A : List Addr) (B : List (Addr × PyData)), xs = [.ref S] ∧ H S = some (SetNO w S (bagOf B)) ∧ (∀ p ∈ B, Rep K A H (.ref p.1) p.2) ∧ (B.map (·.2)).all tupKind = true ∧ sortOk (B.map (·.2)) = true ∧
  ∀ l ws, H l = none → RepAll K A H ws (isort leK (B.map (·.2))) → Q (.ref l) (upd H l (.lst ws))
theorem of_bag {K : PySem.W.Frag} {A : List Addr} {H : Hp} : ∀ {B : List (Addr × PyData)}, (∀ p ∈ B, Rep K A H (.ref p.1) p.2) → PySem.W.EachIs (fun u d => ∃ x, RelV x u ∧ Rep K A H x d) (B.map fun p => Value.ref p.1) (B.map (·.2))
  | [], _ => .nil
  | p :: B, h => .cons ⟨.ref p.1, rfl, h p List.mem_cons_self⟩ (of_bag fun q m => h q (List.mem_cons_of_mem _ m))
theorem cr_sortN (hc : X.calm = true) (hu : X.A.units + 65 < cLine) : CallR X (.builtin "sorted") (rSortN X.K X.w) := by
  intro pins s σ H vs us Q I r h
  obtain ⟨S, A, B, rfl, hS, hr, ht, ok, q⟩ := h
  rw [Vals.ref1 r]
  have tk : ∀ p ∈ B, tupKind p.2 = true := fun p hp => List.all_eq_true.mp ht _ (List.mem_map.mpr ⟨p, hp, rfl⟩)
  have R0 : SetN0 X.w s.heap S (bagOf B) := (I.hok S _ hS).1
  obtain ⟨es, ep, t, R⟩ := SetN0.holds R0 fun p hp => by
    obtain ⟨p0, hp0, rfl⟩ := List.mem_map.mp hp
    exact at_of I (hr p0 hp0) (tk p0 hp0)
  obtain ⟨o, ho, hex, hd⟩ := R.obj
  have hsz := R.size
  have hfew := R.few
  have hlen : (bagOf B).length = B.length := by simp
  refine Calls.call_function_entry kind_sorted plain_sorted entry_sorted (args_sorted1 _) ?_
  unfold Builtin.«sorted»
  refine wpAny_bind (m := checkCount "sorted" 1 1 _) (wpAny_pure ?_)
  refine wpAny_bind (collect_set (A := X.A.in1) (I.ok.hd hc) ⟨o, ho, hex.1, hd⟩ R.fits (by unfold scanBound; omega) R.tab.ris R.led fun s1 us1 k1 hz g1 o1 pm => ?_)
  have hes : es.toList.map (·.2) = B.map fun p => Value.ref p.1 := by
    rw [R.row]
    simp [rows]
  rw [hes] at pm
  obtain ⟨B1, p1, rfl⟩ := perm_pull pm B rfl
  have m1 : ∀ p ∈ B1, p ∈ B := fun p hp => p1.mem_iff.mp hp
  have hB1 : B1.length = B.length := p1.length_eq
  refine wpAny_bind (wpAny_newList ?_ (by simp; rw [sizeLine_eq]; omega))
  have hoL : (s1.heap.push (seqObj "list" (B1.map fun p => Value.ref p.1).toArray 0)).get? s1.heap.objs.size = some (seqObj "list" (B1.map fun p => Value.ref p.1).toArray 0) := Heap.get?_push_size _ rfl
  have ok1 : sortOk (B1.map (·.2)) = true := by
    obtain ⟨k, hk, kd⟩ := sortOk_kind ok
    have kd1 : ∀ d ∈ B1.map (·.2), kindS d = k := fun d hd => kd d ((p1.map (·.2)).mem_iff.mp hd)
    cases e : B1.map (·.2) with
    | nil => rfl
    | cons d ds =>
      rw [e] at kd1
      unfold sortOk
      simp only [Bool.and_eq_true, Bool.not_eq_true', beq_eq_false_iff_ne, ne_eq, List.all_eq_true, beq_iff_eq]
      exact ⟨by rw [kd1 d List.mem_cons_self]; exact hk, fun x hx => by rw [kd1 x (List.mem_cons_of_mem _ hx), kd1 d List.mem_cons_self]⟩
  obtain ⟨g2, g3, g4⟩ := sortOk_all ok1
  have e0 := of_bag (K := X.K) (A := A) (H := H) (B := B1) fun p hp => hr p (m1 p hp)
  have er : PySem.W.EachIs (fun v (b : PyData) => ∃ as, Reads (s1.heap.push (seqObj "list" (B1.map fun p => Value.ref p.1).toArray 0)) v ((fun d : PyData => d) b) as ∧ s1.heap.objs.size ∉ as) (B1.map fun p => Value.ref p.1) (B1.map (·.2)) :=
    (each_mem' e0 (P := fun d => numD d = true) fun d hd => by
      obtain ⟨p, hp, rfl⟩ := List.mem_map.mp hd
      exact (tupKind_ok (tk p (m1 p hp))).1).mono fun v d ⟨⟨x, hx, hrx⟩, hn⟩ => ⟨[], PyProof.Rows.Reads.keeps (fun b u e => Heap.get?_push_of_some _ (k1 b u e)) (rep_reads I d x v hrx hx hn), by simp⟩
  refine wpAny_bind (wpAny_holding (PySem.W.list_sort_data (s := { s1 with heap := s1.heap.push (seqObj "list" (B1.map fun p => Value.ref p.1).toArray 0) }) (enc := fun d : PyData => d) hoL e0 er (by rw [List.map_id']; exact g2) (by rw [List.map_id']; exact g3) (by simp; rw [sizeLine_eq]; omega) (fun d m => ?_) fun out ho' hE => ?_))
  · have := (g4 d m).2
    show X.A.in1.units + 1 + d.depth < cLine
    have h9 : X.A.in1.units ≤ X.A.units + 4 := by simp [Around.in1]
    omega
  · rw [sorted_isort ok1] at hE
    have same : isort leK (B1.map (·.2)) = isort leK (B.map (·.2)) := by
      obtain ⟨k, hk, kd⟩ := sortOk_kind ok
      exact sorted_eq (le := leK) (fun a ha b hb h1 h2 => keyS_inj (kd a ((p1.map (·.2)).mem_iff.mp (isort_mem.mp ha))) (kd b ((p1.map (·.2)).mem_iff.mp (isort_mem.mp hb))) hk (List.le_antisymm (leK_iff.mp h1) (leK_iff.mp h2))) (isort_pw leK_total _) (isort_pw leK_total _) ((isort_perm _).trans ((p1.map (·.2)).trans (isort_perm _).symm))
    rw [same] at hE
    obtain ⟨zs, z1, z2⟩ := of_each hE
    obtain ⟨c, hc'⟩ := PyProof.Rows.sortedHeap_at (vs := B1.map fun p => Value.ref p.1) (out := out.toArray) hoL
    have hn : H s1.heap.objs.size = none := I.hok.fresh hz
    have hzl : zs.length ≤ sizeLine := by rw [z2.length, isort_length, List.length_map, sizeLine_eq]; omega
    have kall : ∀ b u, s.heap.get? b = some u → (sortedHeap (s1.heap.push (seqObj "list" (B1.map fun p => Value.ref p.1).toArray 0)) s1.heap.objs.size (B1.map fun p => Value.ref p.1) out.toArray).get? b = some u := fun b u e => by
      have q1 := k1 b u e
      have hlt := Heap.lt_size q1
      rw [sortedHeap_old (Nat.ne_of_lt hlt) (by rw [size_push']; exact Nat.lt_succ_of_lt hlt)]
      exact Heap.get?_push_of_some _ q1
    have J := I.call (ch := []) (t' := s1.toks) (d' := s1.drawn) (g' := s1.gens) (Un.laid kall hz hn) (I.hok.laid kall hz (o := .lst zs) ⟨hzl, out, c, z1, hc'⟩) (by rw [g1]; exact I.bare) (fun _ z => nomatch z)
    refine wpAny_pure ⟨_, rfl, .ref s1.heap.objs.size, upd H s1.heap.objs.size (.lst zs), ?_, rfl, q _ _ hn z2⟩
    obtain ⟨a1, a2, a3, a4, a5⟩ := s1
    cases o1
    exact J
end
/-- sorted(set(xs)) -/
def gSortSet : List PyData → Option PyData
  | [.list ds] => if ds.all tupKind && sortOk ds && decide (ds.length < 64) then some (.list (sset ds)) else none
  | _ => none
section
variable {ι : Type} {X : ι → Cx} {G : DL.Ctx} {W : WX} {k : Nat} {pos : Pos}
theorem de_sortSet {w : World} {e : Expr} {fs : RS → Rs (List PyData)} {p p2 pos2 : Pos} (F : Fam X G W k) (hw : ∀ i, (X i).w = w) (hg : ∀ i, Gl (X i) "sorted") (hm : ∀ i, (X i).mg "sorted" = none) (hg2 : ∀ i, Gl (X i) "set") (hm2 : ∀ i, (X i).mg "set" = none) (ha : DA X G W [e] fs)
    (hv : bootBuiltins "sorted" = some (.builtin "sorted") := by decide +kernel) (hv2 : bootBuiltins "set" = some (.type "set") := by decide +kernel)
    (he : ∀ i, starEach [e] (X i).env = (false, eval e (X i).env) :: starEach [] (X i).env := by intro _; rfl)
    (he2 : ∀ i, starEach [.Call (.Name "set" p2) [e] [] pos2] (X i).env = (false, eval (.Call (.Name "set" p2) [e] [] pos2) (X i).env) :: starEach [] (X i).env := by intro _; rfl) :
    DE X G W (.Call (.Name "sorted" p) [.Call (.Name "set" p2) [e] [] pos2] [] pos) (eCall gSortSet fs) := by
  obtain ⟨t, pa, l⟩ := ha
  refine ⟨tCB (rSortN G.K w) (tCons (tCB (rSetN G.K w) t) tNil), fun i => ?_, fun Fg O ρ σ H Q r h => ?_⟩
  · rw [← F.K i, ← hw i]
    exact pe_callB (cr_sortN (F.calm i) (F.hu i)) (hg i) (hm i) hv (pa_cons (pe_callTy (cr_setN (F.calm i) (F.hu i)) (hg2 i) (hm2 i) hv2 (pa i) (by decide) (by decide) (he i) rfl) pa_nil (he2 i)) (by decide) (by decide) (he2 i) rfl
  · refine l Fg O ρ σ H _ r ((GP.bind h).imp fun ds ρ1 H1 e1 r1 k1 vs rv => ?_)
    obtain ⟨d, e, kk⟩ := k1.of
    unfold gSortSet at e
    split at e
    · split at e
      · rename_i xs hc
        cases e
        simp only [Bool.and_eq_true, decide_eq_true_eq] at hc
        match vs, rv with
        | [_], .cons rx .nil =>
          obtain ⟨a, us, rfl, h1, n1, ra⟩ := rep_list rx
          refine ⟨a, adr O ++ Fg, us, xs, rfl, .inl (.inl h1), ra, hc.1.1, hc.2, fun S B hS hB hall nd => ?_⟩
          have eq : ∀ d, d ∈ B.map (·.2) ↔ d ∈ xs := fun d => ⟨fun m => by
            obtain ⟨p, hp, rfl⟩ := List.mem_map.mp m
            exact (hB p hp).1, hall d⟩
          have eS : ∀ {O : List Addr}, Ext O H1 (upd H1 S (SetNO w S (bagOf B))) := ext_new hS
          have okB : sortOk (B.map (·.2)) = true := by
            obtain ⟨k, hk, kd⟩ := sortOk_kind hc.1.2
            cases e : B.map (·.2) with
            | nil => rfl
            | cons d ds =>
              have kd1 : ∀ x ∈ d :: ds, kindS x = k := fun x hx => kd x ((eq x).mp (by rw [e]; exact hx))
              unfold sortOk
              simp only [Bool.and_eq_true, Bool.not_eq_true', beq_eq_false_iff_ne, ne_eq, List.all_eq_true, beq_iff_eq]
              exact ⟨by rw [kd1 d List.mem_cons_self]; exact hk, fun x hx => by rw [kd1 x (List.mem_cons_of_mem _ hx), kd1 d List.mem_cons_self]⟩
          refine ⟨S, adr O ++ Fg, B, rfl, upd_same, fun p hp => (hB p hp).2.ext (O := []) (by simp) eS fun _ m => .inl m, ?_, okB, fun l2 ws hl2 hr => ?_⟩
          · exact List.all_eq_true.mpr fun d m => List.all_eq_true.mp hc.1.1 d ((eq d).mp m)
          · rw [sset_eq hc.1.2 nd eq] at hr
            have e2 : ∀ {O : List Addr}, Ext O H1 (upd (upd H1 S (SetNO w S (bagOf B))) l2 (.lst ws)) := fun {O} => eS.trans' (ext_new hl2)
            have r2 := r1.ext0 eS
            exact kk _ e2 (r2.ext0 (ext_new hl2)) _ (.lst upd_same (fresh_not r2.all hl2) (rep_new hr hl2))
      · cases e
    · cases e
end
end DL

-- text DL12
set_option Elab.async false
set_option linter.all false
set_option maxRecDepth 100000
set_option maxHeartbeats 2000000
namespace DL
open PySem PySem.Spec PyProof.Rows L2 GxR
/-- the end of a law row: of each def of the top the table of its code is known to be empty -/
theorem walk_all {l : PySem.W.OpenLaw} {n k : Nat} {q : Program} {loose : List Str} {XP : (Str → Option Value) → Heap → Prop} {YP : World → Heap → Prop} {d : DefRec} {K : Params → PySem.W.Frag} {CX : World → CXT} {x : Str} (names : List Str)
    (hn : l.most = some n) (hn2 : n ≤ sizeLine) (hdf : d.params.defaults = []) (hr : Room k callerA) (hrec : (names.all fun nm => (recsOf q).any fun e => e.name == nm) = true) (hY : ∀ (w : World) (h : Heap), YP w h → (K w.params).In h)
    (F : ∀ (w : World) (mg : Str → Option Value) (fa : Addr) (h : Heap), YP w h → (K w.params).In h → h.Ns mainGlobals mg → mg d.name = some (.ref fa) → (∀ nm ∈ names, ∀ f, mg nm = some (.ref f) → LamX.OwnTab (K w.params) f h) → LamX.LawAtS l w (K w.params) (CX w) k n x mg fa h)
    (hCX : ∀ (w : World) (H : Hp) (s : Shared) (e : Value) (s' : Shared), CX w [] H s (fun _ _ _ => False) e s' → False) :
    PySem.W.WalkO q loose XP YP l.row.toRowW d [] (fun f vs => PySem.call f vs) := by
  refine Att.attach_callB hn hdf fun w s₀ s₁ mg mb fa o pm cd doc a vs ns G Y ho hd hcd hmg hobj hints hlen hbits hg => ?_
  have KX := hY w _ Y
  have tabs : ∀ nm ∈ names, ∀ f, mg nm = some (.ref f) → LamX.OwnTab (K w.params) f s₁.heap := fun nm hnm f hf c P o1 fd1 e dd vs1 sl k1 k2 k3 k4 k5 => by
    obtain ⟨dL, hm, h0⟩ := List.any_eq_true.mp (List.all_eq_true.mp hrec nm hnm)
    have en : dL.name = nm := beq_iff_eq.mp h0
    obtain ⟨a', o', fd', c', P', h1, h2, h3, h4, h5, h6⟩ := G.T.tab dL hm
    rw [en, hf] at h1
    cases h1
    have g1 := KX _ _ k1
    rw [g1] at h2
    cases h2
    rw [k2] at h3
    cases h3
    rw [k3] at h4
    cases h4
    obtain ⟨⟨oc, vc, e1, _, e3, e4⟩, hP⟩ := h6
    have g2 := KX _ _ k4
    rw [g2] at e1
    cases e1
    cases e3
    rw [k5] at e4
    cases e4
    exact hP
  obtain ⟨fd, cs, sp, hT, nT, C, hb, hsp, hF⟩ := F w mg fa _ Y KX G.T.g hmg tabs
  exact LamX.law_callTs KX G.T.g G.T.b G.T.builtins G.T.nolimit hg hT nT C G.T.bmain hobj hints (Nat.le_trans hlen hn2) hr hF hb (fun H hH hS => hsp H a ns hlen hbits hH hS) fun H e s' => hCX w H s₁ e s'
/-- a table of a def that holds generator expressions: what the written part tells of it -/
structure TabK (K : PySem.W.Frag) (fa c P : Addr) : Prop where
  ex : ∃ (e : Value) (dd : Option Addr) (vs : Array Value) (sl : Array (Option Value)), K.lookup c = some ⟨e, dd, .fields vs, sl⟩ ∧ vs[11]? = some (.ref P)
  no : K.lookup P = none
  hd : PySem.W.codeHdIn K c P = true
theorem law_at {l : PySem.W.OpenLaw} {w : World} {K : PySem.W.Frag} {k n : Nat} {x : Str} {mg : Str → Option Value} {fa : Addr} {h : Heap} {fd : FuncData} {G : DL.Ctx} {F : List PyData → Fr} (cs : List (Addr × Addr)) (KX : K.In h) (hts : G.ts = cs.map (·.2)) (hK : G.K = K)
    (hT : ∀ p ∈ cs, h.get? p.2 = some { cls := .none, data := .fields #[] }) (nT : ∀ p ∈ cs, K.lookup p.2 = none) (hC : ∀ p ∈ cs, PySem.W.codeHdIn K p.1 p.2 = true) (hb : ∀ (s : Shared) (u : Value), BindsTo s fd ⟨[u], []⟩ [(x, u)])
    (hF : ∀ base : Heap, K.In base → base.Ns mainGlobals mg → (∀ p ∈ cs, GxR.TabB base mg p.1 p.2) → FnOk l.prog w K mg base (L2.CX l.prog w) k fa fd [x] (spD G 1 F))
    (main : ∀ ns : List Int, ns.length ≤ n → (∀ z ∈ ns, Builtin.Int.intBits z ≤ 1048576) → F [scr ns] = .ok (.bool true)) : LamX.LawAtS l w K (L2.CX l.prog w) k n x mg fa h := by
  refine ⟨fd, cs, spD G 1 F, hT, nT, fun p hp => PySem.W.codeHd_of_K KX (hC p hp), hb, fun H a ns hl hz hH hS => ?_, fun base h1 h2 h3 => hF base h1 h2 fun p hp => ⟨(h3 p hp).code, (h3 p hp).bm, (h3 p hp).gP⟩⟩
  refine ⟨rfl, [], [scr ns], .cons (.scr ?_) .nil, fun P hP => ?_, fun a m => (by cases m), ?_⟩
  · rw [hK]
    rcases hS with (h | ⟨o, h⟩) | h
    · exact .inl ⟨h, by simp⟩
    · exact .inr (.inl ⟨o, h⟩)
    · exact .inr (.inr h)
  · rw [hts] at hP
    obtain ⟨p, hp, rfl⟩ := List.mem_map.mp hP
    exact ⟨#[], hH p hp, by simp [TriplesOk]⟩
  · rw [main ns hl hz]
    exact fun v H' _ r => rep_bl r
theorem topF_of {K : PySem.W.Frag} {h : Heap} {mg : Str → Option Value} {x : Str} {st : Stmt} {f : Addr} {oc kV doc pm cdv ct : Value} {od an : Option Addr} {sl : Array (Option Value)} (KX : K.In h) (N : h.Ns mainGlobals mg)
    (a : PySem.W.nsIn K mainGlobals x = some (some (.ref f))) (l : K.lookup f = some ⟨oc, od, .func (PySem.W.fnOf x x (defArgs st) (defBody st) (defScope st) .none kV doc pm an cdv ct), sl⟩) (c : PySem.W.codeIn K cdv x = true) (k : PySem.W.keepIn K (.ref f) = true) : TopF K mg x st :=
  ⟨f, _, fun_mk l c k, PySem.W.mg_of KX N a⟩
theorem topG_of {K : PySem.W.Frag} {h : Heap} {base : Heap} {mg : Str → Option Value} {x : Str} {st : Stmt} {f c P : Addr} {ts : List Addr} {oc kV doc pm ct : Value} {od an : Option Addr} {sl : Array (Option Value)} (KX : K.In h) (N : h.Ns mainGlobals mg)
    (a : PySem.W.nsIn K mainGlobals x = some (some (.ref f))) (l : K.lookup f = some ⟨oc, od, .func (PySem.W.fnOf x x (defArgs st) (defBody st) (defScope st) .none kV doc pm an (.ref c) ct), sl⟩) (cc : PySem.W.codeIn K (.ref c) x = true) (k : PySem.W.keepIn K (.ref f) = true)
    (hP : P ∈ ts) (TB : GxR.TabB base mg c P) : TopG K mg base ts x st :=
  ⟨f, _, c, P, fun_mk l cc k, PySem.W.mg_of KX N a, rfl, hP, TB⟩
theorem ownTab_of {K : PySem.W.Frag} {h : Heap} {x : Str} {st : Stmt} {f c P : Addr} {oc kV doc pm ct e : Value} {od an dd : Option Addr} {sl sl2 : Array (Option Value)} {vs : Array Value} (T : LamX.OwnTab K f h)
    (l : K.lookup f = some ⟨oc, od, .func (PySem.W.fnOf x x (defArgs st) (defBody st) (defScope st) .none kV doc pm an (.ref c) ct), sl⟩) (l2 : K.lookup c = some ⟨e, dd, .fields vs, sl2⟩) (p : vs[11]? = some (.ref P)) : h.get? P = some { cls := .none, data := .fields #[] } :=
  T c P _ _ e dd vs sl2 l rfl rfl l2 p
theorem cx_none {P : Program} {w : World} {H : Hp} {s : Shared} {e : Value} {s' : Shared} (x : L2.CX P w [] H s (fun _ _ _ => False) e s') : False := by
  obtain ⟨_, _, _, _, _, _, _, _, _, _, _, _, z⟩ := x
  exact z
end DL

-- text ML
set_option Elab.async false
set_option linter.all false
set_option maxRecDepth 100000
set_option maxHeartbeats 2000000
/-! plain laws about the data functions -/
namespace DL
open PySem PySem.Spec

section
variable {g : PyData → RS → Option RS} {ft : RS → Rs Bool} {fe : RS → Rs PyData} {vs : List Nat} {I : RS → Prop}
/-- one turn of a comprehension: the test b, and the item made -/
def LcStep (g : PyData → RS → Option RS) (ft : RS → Rs Bool) (fe : RS → Rs PyData) (vs : List Nat) (I : RS → Prop) (x : PyData) (b : Bool) (y : PyData) (ρ : RS) : Prop :=
  ∃ ρ1 ρ2, g x ρ = some ρ1 ∧ ft ρ1 = .ok b ρ2 ∧ (b = false → allFree ρ2 vs = true ∧ I (rwipe ρ2 vs)) ∧ (b = true → ∃ ρ3, fe ρ2 = .ok y ρ3 ∧ allFree ρ3 vs = true ∧ I (rwipe ρ3 vs))
theorem lcL_cons_t {x : PyData} {xs : List PyData} {ρ : RS} {y : PyData} (h : LcStep g ft fe vs I x true y ρ) : ∃ ρ', I ρ' ∧ lcL g ft fe vs (x :: xs) ρ = (lcL g ft fe vs xs ρ').bind fun r ρ4 => .ok (y :: r) ρ4 := by
  obtain ⟨ρ1, ρ2, h1, h2, _, h3⟩ := h
  obtain ⟨ρ3, h4, h5, h6⟩ := h3 rfl
  refine ⟨rwipe ρ3 vs, h6, ?_⟩
  rw [lcL, h1]
  simp only [h2, noex, Rs.bind, if_true, h4, h5]
theorem lcL_cons_f {x : PyData} {xs : List PyData} {ρ : RS} {y : PyData} (h : LcStep g ft fe vs I x false y ρ) : ∃ ρ', I ρ' ∧ lcL g ft fe vs (x :: xs) ρ = lcL g ft fe vs xs ρ' := by
  obtain ⟨ρ1, ρ2, h1, h2, h3, _⟩ := h
  obtain ⟨h5, h6⟩ := h3 rfl
  refine ⟨rwipe ρ2 vs, h6, ?_⟩
  rw [lcL, h1]
  simp only [h2, noex, Rs.bind, Bool.false_eq_true, if_false, h5, if_true]
/-- a comprehension whose tests and items are known -/
theorem lcL_det (p : PyData → Bool) (f : PyData → PyData) : ∀ (items : List PyData), (∀ x ∈ items, ∀ ρ, I ρ → LcStep g ft fe vs I x (p x) (f x) ρ) → ∀ ρ, I ρ → ∃ ρ', I ρ' ∧ lcL g ft fe vs items ρ = .ok ((items.filter p).map f) ρ'
  | [], _, ρ, h => ⟨ρ, h, rfl⟩
  | x :: xs, st, ρ, h => by
    have ih := lcL_det p f xs fun y m => st y (List.mem_cons_of_mem _ m)
    have s := st x List.mem_cons_self ρ h
    cases e : p x with
    | true =>
      rw [e] at s
      obtain ⟨ρ1, h1, e1⟩ := lcL_cons_t (xs := xs) s
      obtain ⟨ρ2, h2, e2⟩ := ih ρ1 h1
      exact ⟨ρ2, h2, by rw [e1, e2, List.filter_cons_of_pos e]; rfl⟩
    | false =>
      rw [e] at s
      obtain ⟨ρ1, h1, e1⟩ := lcL_cons_f (xs := xs) s
      obtain ⟨ρ2, h2, e2⟩ := ih ρ1 h1
      exact ⟨ρ2, h2, by rw [e1, e2, List.filter_cons_of_neg (by rw [e]; decide)]⟩
/-- .. whose tests are not known -/
theorem lcL_sub (f : PyData → PyData) : ∀ (items : List PyData), (∀ x ∈ items, ∀ ρ, I ρ → ∃ b, LcStep g ft fe vs I x b (f x) ρ) → ∀ ρ, I ρ → ∃ (ys : List PyData) (ρ' : RS), ys.Sublist items ∧ I ρ' ∧ lcL g ft fe vs items ρ = .ok (ys.map f) ρ'
  | [], _, ρ, h => ⟨[], ρ, .slnil, h, rfl⟩
  | x :: xs, st, ρ, h => by
    have ih := lcL_sub f xs fun y m => st y (List.mem_cons_of_mem _ m)
    obtain ⟨b, s⟩ := st x List.mem_cons_self ρ h
    cases b with
    | true =>
      obtain ⟨ρ1, h1, e1⟩ := lcL_cons_t (xs := xs) s
      obtain ⟨ys, ρ2, h0, h2, e2⟩ := ih ρ1 h1
      exact ⟨x :: ys, ρ2, h0.cons₂ x, h2, by rw [e1, e2]; rfl⟩
    | false =>
      obtain ⟨ρ1, h1, e1⟩ := lcL_cons_f (xs := xs) s
      obtain ⟨ys, ρ2, h0, h2, e2⟩ := ih ρ1 h1
      exact ⟨ys, ρ2, h0.cons x, h2, by rw [e1, e2]⟩
/-- the whole comprehension -/
theorem eLc_of {fi : RS → Rs (List PyData)} {ρ ρ1 ρ2 : RS} {items ds : List PyData} (h1 : fi ρ = .ok items ρ1) (hl : items.length ≤ sizeLine) (h2 : allFree ρ1 vs = true) (h3 : lcL g ft fe vs items (rwipe ρ1 vs) = .ok ds ρ2) (h4 : allFree ρ2 vs = true) :
    eLc fi g ft fe vs ρ = .ok (.list ds) (rwipe ρ2 vs) := by
  unfold eLc
  rw [h1]
  simp only [Rs.bind, hl, h2, and_self, if_true, h3, h4]
theorem allL_det (p : PyData → Bool) : ∀ (items : List PyData), (∀ x ∈ items, ∀ ρ, I ρ → ∃ ρ1 d ρ2, g x ρ = some ρ1 ∧ fe ρ1 = .ok d ρ2 ∧ truF d = some (p x) ∧ allFree ρ2 vs = true ∧ I (rwipe ρ2 vs)) → ∀ ρ, I ρ → ∃ ρ', I ρ' ∧ allL g fe vs items ρ = .ok (items.all p) ρ'
  | [], _, ρ, h => ⟨ρ, h, rfl⟩
  | x :: xs, st, ρ, h => by
    obtain ⟨ρ1, d, ρ2, h1, h2, h3, h4, h5⟩ := st x List.mem_cons_self ρ h
    cases e : p x with
    | true =>
      obtain ⟨ρ', h6, h7⟩ := allL_det p xs (fun y m => st y (List.mem_cons_of_mem _ m)) (rwipe ρ2 vs) h5
      refine ⟨ρ', h6, ?_⟩
      rw [allL, h1]
      simp only [h2, noex, Rs.bind, h4, if_true, h3, e, h7, List.all_cons, Bool.true_and]
    | false =>
      refine ⟨rwipe ρ2 vs, h5, ?_⟩
      rw [allL, h1]
      simp only [h2, noex, Rs.bind, h4, if_true, h3, e, List.all_cons, Bool.false_and]
theorem eAll_of {fi : RS → Rs (List PyData)} {ρ ρ1 ρ2 : RS} {items : List PyData} {b : Bool} (h1 : fi ρ = .ok items ρ1) (h2 : allFree ρ1 vs = true) (h3 : allL g fe vs items (rwipe ρ1 vs) = .ok b ρ2) (h4 : allFree ρ2 vs = true) :
    eAll fi g fe vs ρ = .ok (.bool b) (rwipe ρ2 vs) := by
  unfold eAll
  rw [h1]
  simp only [Rs.bind, h2, if_true, h3, noex, h4]
/-- a loop with an invariant of the turn -/
theorem forL_inv {b : RS → Out} (J : Nat → RS → Prop) : ∀ (items : List PyData) (n : Nat), (∀ i x, items[i]? = some x → ∀ ρ, J (n + i) ρ → ∃ ρ1 ρ2, g x ρ = some ρ1 ∧ (b ρ1 = .nx ρ2 ∨ b ρ1 = .ct ρ2) ∧ J (n + i + 1) ρ2) → ∀ ρ, J n ρ → ∃ ρ', J (n + items.length) ρ' ∧ forL g b items ρ = .nx ρ'
  | [], n, _, ρ, h => ⟨ρ, h, rfl⟩
  | x :: xs, n, st, ρ, h => by
    obtain ⟨ρ1, ρ2, h1, h2, h3⟩ := st 0 x rfl ρ h
    obtain ⟨ρ', h4, h5⟩ := forL_inv J xs (n + 1) (fun i y e ρ hj => by
      have := st (i + 1) y (by simpa using e) ρ (by rw [show n + (i + 1) = n + 1 + i by omega]; exact hj)
      rwa [show n + (i + 1) + 1 = n + 1 + i + 1 by omega] at this) ρ2 h3
    refine ⟨ρ', by rw [List.length_cons, show n + (xs.length + 1) = n + 1 + xs.length by omega]; exact h4, ?_⟩
    rw [forL, h1]
    rcases h2 with h2 | h2 <;> simp only [h2, brkTo, h5]
end
/-! ### webs -/
def pis (ns : List Int) : List PyData := ns.map PyData.int
def webD (h : Int) (ss : List Int) : PyData := .tuple [.int h, .tuple (pis ss)]
/-- the row of draws -/
def Row (xs : List PyData) : Prop := ∃ (ns : List Int) (a b c : Int), xs = [scr ns, .int a, .int b, .int c] ∧ 0 ≤ a ∧ 0 ≤ b
/-- a web: steps strictly ascending, from 1 to below the number of halls -/
structure IsWeb (h : Int) (ss : List Int) : Prop where
  lo : 2 ≤ h
  hi : h ≤ 13
  asc : ss.Pairwise (· < ·)
  rng : ∀ s ∈ ss, 1 ≤ s ∧ s ≤ h - 1
theorem ints_all_flat : ∀ ns : List Int, (pis ns).all flatD = true
  | [] => rfl
  | n :: ns => by
    show (flatD (.int n) && (pis ns).all flatD) = true
    rw [ints_all_flat ns]
    rfl
theorem range_ints (lo hi : Int) : rngD lo hi = pis ((List.range (hi - lo).toNat).map fun i => lo + (i : Nat)) := by
  unfold rngD pis
  rw [List.map_map]
  rfl
def rngI (lo hi : Int) : List Int := (List.range (hi - lo).toNat).map fun i => lo + (i : Nat)
theorem rngI_mem {lo hi x : Int} : x ∈ rngI lo hi ↔ lo ≤ x ∧ x < hi := by
  unfold rngI
  simp only [List.mem_map, List.mem_range]
  constructor
  · rintro ⟨i, h, rfl⟩
    omega
  · rintro ⟨h1, h2⟩
    exact ⟨(x - lo).toNat, by omega, by omega⟩
theorem rngI_asc (lo hi : Int) : (rngI lo hi).Pairwise (· < ·) := by
  unfold rngI
  refine List.pairwise_map.mpr (List.pairwise_lt_range.imp fun {a b} h => ?_)
  omega
theorem rngI_len (lo hi : Int) : (rngI lo hi).length = (hi - lo).toNat := by simp [rngI]
theorem rngD_I (lo hi : Int) : rngD lo hi = pis (rngI lo hi) := range_ints lo hi
theorem sub_ints {ys : List PyData} {ns : List Int} (h : ys.Sublist (pis ns)) : ∃ ms, ys = pis ms ∧ ms.Sublist ns := by
  unfold pis at h
  obtain ⟨ms, h1, rfl⟩ := List.sublist_map_iff.mp h
  exact ⟨ms, rfl, h1⟩
theorem web_of_sub {h : Int} {ms : List Int} (h1 : 2 ≤ h) (h2 : h ≤ 13) (hs : ms.Sublist (rngI 1 h)) : IsWeb h ms :=
  ⟨h1, h2, (rngI_asc 1 h).sublist hs, fun s m => by
    have := rngI_mem.mp (hs.subset m)
    omega⟩
theorem intsOf_ints (ns : List Int) : intsOf (pis ns) = some ns := intsOf_map ns
theorem isInts_ints : ∀ ns : List Int, isInts (pis ns) = true
  | [] => rfl
  | n :: ns => isInts_ints ns
theorem ints0_ints (ns : List Int) : ints0 (pis ns) = ns := ints0_map ns
theorem sortOk_ints (ns : List Int) : sortOk (pis ns) = true := by
  cases ns with
  | nil => rfl
  | cons n ns =>
    show (!(kindS (.int n) == 0) && (pis ns).all fun e => kindS e == kindS (.int n)) = true
    simp [kindS, pis]
/-- sorting pis -/
def sortI (ns : List Int) : List Int := isort (fun a b => decide (a ≤ b)) ns
theorem insB_ints (x : Int) : ∀ ns : List Int, insB leK (.int x) (pis ns) = pis (insB (fun a b => decide (a ≤ b)) x ns)
  | [] => rfl
  | n :: ns => by
    have e : leK (.int x) (.int n) = decide (x ≤ n) := by
      show (!lexB [n] [x]) = _
      unfold lexB
      by_cases h : n = x
      · simp [h, lexB]
      · rw [if_neg h]
        by_cases h2 : n < x
        · have : ¬ x ≤ n := by omega
          simp [h2, this]
        · have : x ≤ n := by omega
          simp [h2, this]
    show (if leK (.int x) (.int n) = true then PyData.int x :: .int n :: pis ns else .int n :: insB leK (.int x) (pis ns)) = _
    rw [e, insB_ints x ns]
    show _ = pis (if decide (x ≤ n) = true then x :: n :: ns else n :: insB (fun a b => decide (a ≤ b)) x ns)
    by_cases h : decide (x ≤ n) = true
    · rw [if_pos h, if_pos h]
      rfl
    · rw [if_neg h, if_neg h]
      rfl
theorem isort_ints : ∀ ns : List Int, isort leK (pis ns) = pis (sortI ns)
  | [] => rfl
  | n :: ns => by
    show insB leK (.int n) (isort leK (pis ns)) = pis (insB _ n (sortI ns))
    rw [isort_ints ns, insB_ints]
theorem leI_total : PySem.W.TotalLe fun a b : Int => decide (a ≤ b) := ⟨fun a b c h1 h2 => by simp at *; omega, fun a b => by simp; omega⟩
theorem sortI_perm (ns : List Int) : (sortI ns).Perm ns := isort_perm ns
theorem sortI_pw (ns : List Int) : (sortI ns).Pairwise (· ≤ ·) := (isort_pw leI_total ns).imp fun {a b} h => by simpa using h
theorem sortI_eq {ns ms : List Int} (h : ms.Pairwise (· ≤ ·)) (p : ms.Perm ns) : sortI ns = ms :=
  sorted_eq (le := fun a b : Int => decide (a ≤ b)) (fun a _ b _ h1 h2 => by simp at h1 h2; omega) ((sortI_pw ns).imp fun {a b} h => by simpa using h) (h.imp fun {a b} h => by simpa using h) ((sortI_perm ns).trans p.symm)
theorem le_of_asc {ns : List Int} (h : ns.Pairwise (· < ·)) : ns.Pairwise (· ≤ ·) := h.imp fun {a b} h => Int.le_of_lt h
theorem asc_of {ns : List Int} (h : ns.Pairwise (· ≤ ·)) (nd : ns.Nodup) : ns.Pairwise (· < ·) := by
  have := List.Pairwise.and h nd
  exact this.imp fun {a b} h => by omega
theorem nodup_asc {ns : List Int} (h : ns.Pairwise (· < ·)) : ns.Nodup := h.imp fun {a b} h e => by omega
/-- two ascending lists of the same members -/
theorem asc_ext {ns ms : List Int} (h1 : ns.Pairwise (· < ·)) (h2 : ms.Pairwise (· < ·)) (h : ∀ x, x ∈ ns ↔ x ∈ ms) : ns = ms :=
  sorted_eq (le := fun a b : Int => decide (a ≤ b)) (fun a _ b _ h1 h2 => by simp at h1 h2; omega) ((le_of_asc h1).imp fun {a b} h => by simpa using h) ((le_of_asc h2).imp fun {a b} h => by simpa using h) ((List.perm_ext_iff_of_nodup (nodup_asc h1) (nodup_asc h2)).mpr h)
end DL

-- text GK01
set_option Elab.async false
set_option linter.all false
set_option maxRecDepth 100000
set_option maxHeartbeats 4000000
namespace LW
open PySem PySem.Spec PyProof.Rows L2 GxR DL
def topS (i : Nat) : Stmt := PySem.Challenge.pw_stepwebs_k01_whole_webs.main.body.getD i (.Pass ⟨0, 0, 0, 0⟩)

structure Top (P : Program) (w : World) (mg : Str → Option Value) (base : Heap) (G : DL.Ctx) : Prop where
  t_is_number : TopF G.K mg "is_number" (topS 7)
  t_wrong_web : TopG G.K mg base G.ts "wrong_web" (topS 8)
  t_is_web : TopF G.K mg "is_web" (topS 9)
  t_need_web : TopF G.K mg "need_web" (topS 10)
  t_need_two : TopF G.K mg "need_two" (topS 11)
  t_divisor : TopF G.K mg "divisor" (topS 12)
  t_factors_of : TopF G.K mg "factors_of" (topS 13)
  t_factors : TopF G.K mg "factors" (topS 14)
  t_multiplied : TopF G.K mg "multiplied" (topS 15)
  t_times : TopF G.K mg "times" (topS 16)
  t_multiples_of : TopF G.K mg "multiples_of" (topS 17)
  t_multiples : TopF G.K mg "multiples" (topS 18)
  t_least_multiple : TopF G.K mg "least_multiple" (topS 19)
  t_are_multiples : TopF G.K mg "are_multiples" (topS 20)
  t_turned : TopF G.K mg "turned" (topS 21)
  t_is_two_way : TopF G.K mg "is_two_way" (topS 22)
  t_ways_of : TopF G.K mg "ways_of" (topS 23)
  t_ways : TopF G.K mg "ways" (topS 24)
  t_wrong_net : TopG G.K mg base G.ts "wrong_net" (topS 26)
  t_is_net : TopF G.K mg "is_net" (topS 27)
  t_net_of : TopF G.K mg "net_of" (topS 28)
  t__law_taken : TopF G.K mg "_law_taken" (topS 30)
  t__law_pick : TopF G.K mg "_law_pick" (topS 31)
  t__law_alike : TopF G.K mg "_law_alike" (topS 32)
  t__law_divisor : TopF G.K mg "_law_divisor" (topS 33)
  t__law_factors : TopF G.K mg "_law_factors" (topS 34)
  t__law_times : TopF G.K mg "_law_times" (topS 35)
  t__law_web : TopF G.K mg "_law_web" (topS 36)
  t__law_ways : TopF G.K mg "_law_ways" (topS 37)
  t_law : TopF G.K mg "law" (topS 38)
  b_all : mg "all" = none
  b_bool : mg "bool" = none
  b_int : mg "int" = none
  b_isinstance : mg "isinstance" = none
  b_len : mg "len" = none
  b_list : mg "list" = none
  b_max : mg "max" = none
  b_range : mg "range" = none
  b_set : mg "set" = none
  b_sorted : mg "sorted" = none
  b_str : mg "str" = none
  b_tuple : mg "tuple" = none
  b_zip : mg "zip" = none
  c_MOST_HALLS : ∃ u, mg "MOST_HALLS" = some u ∧ RelV (.int 13) u
section
variable {P : Program} {w : World} {mg : Str → Option Value} {base : Heap} {G : DL.Ctx}
def fb_is_number : RS → Out := (sRet (eAndD (eIsi isIntD (eVar 0)) (eAndD (eNotD (eIsi isBoolD (eVar 0))) (eChain gLe gLe (eVar 1) (eVar 0) (eVar 2)))))
def F_is_number : List PyData → Fr := fnD 3 3 fb_is_number
abbrev st_is_number : Stmt := topS 7
theorem sc_is_number : FnScope ["value", "low", "high"] ["value", "low", "high"] (defScope st_is_number) := ⟨rfl, rfl, rfl, by decide +kernel, rfl, by decide +kernel, by decide +kernel⟩
theorem ok_is_number (T : Top P w mg base G) : HasF P w G.K mg base "is_number" 1 (spD G 3 F_is_number) := by
  obtain ⟨f, fd, F, hm⟩ := (T.t_is_number).ex
  exact ⟨f, fd, ["value", "low", "high"], hm, F.kp, (F.binds (ps := ["value", "low", "high"]) fun _ _ _ _ _ _ us hl => match us, hl with | [_, _, _], _ => rfl), fn_ok (k := 0) F sc_is_number rfl (by decide) fun A outer s H E hr => by
    have F0 : Fam (Cf P w G.K mg base ["value", "low", "high"] "is_number" st_is_number f fd A outer s H E) G (WF E) 0 := fam_of sc_is_number rfl hr
    exact (dss_one (ds_ret (de_and (de_isi F0 kb_int (fun _ => rfl) (fun _ => T.b_isinstance) (fun _ => rfl) (fun _ => T.b_int) (by decide +kernel) (de_var 0 (fun _ => rfl) (fun _ => .inl rfl))) (de_and (de_not (de_isi F0 kb_bool (fun _ => rfl) (fun _ => T.b_isinstance) (fun _ => rfl) (fun _ => T.b_bool) (by decide +kernel) (de_var 0 (fun _ => rfl) (fun _ => .inl rfl)))) (de_one (de_chain (fun _ => op_le) (fun _ => op_le) od_le od_le (de_var 1 (fun _ => rfl) (fun _ => .inl rfl)) (de_var 0 (fun _ => rfl) (fun _ => .inl rfl)) (de_var 2 (fun _ => rfl) (fun _ => .inl rfl))))))))⟩
def fb_wrong_web : RS → Out := (sThen (sIf (tOrD (tNotD (tT (eIsi isTupD (eVar 0)))) (tV (eBin gNe (eCall gLen (aConsD (eVar 0) aNilD)) (eC (.int 2))))) (sRet (eC (.str "whole"))) sNil)
  (sThen (sAsg (eVar 0) (setTup 2 (setCons (setD 1) (setCons (setD 2) setNil))))
  (sThen (sIf (tNotD (tT (eFn 3 F_is_number (aConsD (eVar 1) (aConsD (eC (.int 2)) (aConsD (eC (.int 13)) aNilD)))))) (sRet (eC (.str "halls"))) sNil)
  (sThen (sIf (tOrD (tNotD (tT (eIsi isTupD (eVar 2)))) (tNotD (tT (eAll (iSeq (eVar 2)) (setD 5) (eFn 3 F_is_number (aConsD (eVar 5) (aConsD (eC (.int 1)) (aConsD (eBin gSub (eVar 1) (eC (.int 1))) aNilD)))) [5])))) (sRet (eC (.str "steps"))) sNil)
  (sRet (eIfD (tT (eAll (iRng zipG (aConsD (eVar 2) (aConsD (eSl (eVar 2) (pSome (eC (.int 1))) pNone) aNilD))) (setTup 2 (setCons (setD 3) (setCons (setD 4) setNil))) (eBin gLt (eVar 3) (eVar 4)) [3, 4])) (eC .none) (eC (.str "steps"))))))))
def F_wrong_web : List PyData → Fr := fnD 1 6 fb_wrong_web
abbrev st_wrong_web : Stmt := topS 8
theorem sc_wrong_web : FnScope ["value", "halls", "steps", "one", "other", "step"] ["value"] (defScope st_wrong_web) := ⟨rfl, rfl, rfl, by decide +kernel, rfl, by decide +kernel, by decide +kernel⟩
theorem ok_wrong_web (T : Top P w mg base G) : HasF P w G.K mg base "wrong_web" 3 (spD G 1 F_wrong_web) := by
  obtain ⟨f, fd, c, Pt, F, hm, hcode, hP, TB⟩ := (T.t_wrong_web).ex
  obtain ⟨f_is_number, fd_is_number, ps_is_number, m_is_number, k_is_number, b_is_number, o_is_number⟩ := (ok_is_number T).ex
  obtain ⟨u_MOST_HALLS, mc_MOST_HALLS, rc_MOST_HALLS⟩ := T.c_MOST_HALLS
  exact ⟨f, fd, ["value"], hm, F.kp, (F.binds (ps := ["value"]) fun _ _ _ _ _ _ us hl => match us, hl with | [_], _ => rfl), fn_ok (k := 2) F sc_wrong_web rfl (by decide) fun A outer s H E hr => by
    have F0 : Fam (Cf P w G.K mg base ["value", "halls", "steps", "one", "other", "step"] "wrong_web" st_wrong_web f fd A outer s H E) G (WF E) 2 := fam_of sc_wrong_web rfl hr
    exact (dss_cons (ds_if (DW.dt (dw_or (dt_not (dt_truth F0 (de_isi F0 kb_tup (fun _ => rfl) (fun _ => T.b_isinstance) (fun _ => rfl) (fun _ => T.b_tuple) (by decide +kernel) (de_var 0 (fun _ => rfl) (fun _ => .inl rfl))))) (dw_or1 (dt_cmp (fun i => or_neG (F0.K i) (F0.hu4 i)) od_ne (de_callB (fun i => cr_lenG (F0.K i)) cd_len (fun _ => rfl) (fun _ => T.b_len) (by decide +kernel) (da_cons (de_var 0 (fun _ => rfl) (fun _ => .inl rfl)) da_nil)) de_int (by first | exact nomark _ | with_unfolding_all rfl))))) (dss_one (ds_ret de_str)) dss_nil)
  (dss_cons (ds_asg (de_var 0 (fun _ => rfl) (fun _ => .inl rfl)) (dg_tup F0 (dgs_cons (dg_name F0 (fun _ => rfl) (fun _ => .inr rfl) (fun _ => by first | exact .inl rfl | exact .inr rfl)) (dgs_cons (dg_name F0 (fun _ => rfl) (fun _ => .inl rfl) (fun _ => by first | exact .inl rfl | exact .inr rfl)) dgs_nil))))
  (dss_cons (ds_if (dt_not (dt_truth F0 (de_fn F0 (fun _ => o_is_number) (by decide) (fun _ => rfl) (fun _ => m_is_number) k_is_number b_is_number (da_cons (de_var 1 (fun _ => rfl) (fun _ => .inr (.inl (by kernel_rfl)))) (da_cons de_int (da_cons (de_glob (v := .int 13) (d := .int 13) (fun _ => rfl) (fun _ => mc_MOST_HALLS) rc_MOST_HALLS (fun _ _ => .int _)) da_nil)))))) (dss_one (ds_ret de_str)) dss_nil)
  (dss_cons (ds_if (DW.dt (dw_or (dt_not (dt_truth F0 (de_isi F0 kb_tup (fun _ => rfl) (fun _ => T.b_isinstance) (fun _ => rfl) (fun _ => T.b_tuple) (by decide +kernel) (de_var 2 (fun _ => rfl) (fun _ => .inl rfl))))) (dw_or1 (dt_not (dt_truth F0 (de_all (own := [("step", 5)]) F0 hP (fun _ => rfl) (fun _ => T.b_all) (fun _ => TB) (fun _ => hcode) (di_seq F0 (de_var 2 (fun _ => rfl) (fun _ => .inl rfl))) (fun _ => blkOk_by (by kernel_rfl)) (fun _ => gsc_by (by kernel_rfl)) (dg_name (famG F0) (fun _ => rfl) (fun _ => .inl rfl) (fun _ => by first | exact .inl rfl | exact .inr rfl)) (by decide) (de_fn (famG F0) (fun _ => o_is_number) (by decide) (fun _ => rfl) (fun _ => m_is_number) k_is_number b_is_number (da_cons (de_var 5 (fun _ => rfl) (fun _ => .inl rfl)) (da_cons de_int (da_cons (de_bin (fun _ => op_sub) od_sub (de_var 1 (fun _ => rfl) (fun _ => .inr (.inr (by kernel_rfl)))) de_int) da_nil)))))))))) (dss_one (ds_ret de_str)) dss_nil)
  (dss_one (ds_ret (de_if (dt_truth F0 (de_all (own := [("one", 3), ("other", 4)]) F0 hP (fun _ => rfl) (fun _ => T.b_all) (fun _ => TB) (fun _ => hcode) (di_zip F0 (fun _ => rfl) (fun _ => T.b_zip) (da_cons (de_var 2 (fun _ => rfl) (fun _ => .inl rfl)) (da_cons (de_slice F0 (de_var 2 (fun _ => rfl) (fun _ => .inl rfl)) (dp_some de_int) dp_none) da_nil))) (fun _ => blkOk_by (by kernel_rfl)) (fun _ => gsc_by (by kernel_rfl)) (dg_tup (famG F0) (dgs_cons (dg_name (famG F0) (fun _ => rfl) (fun _ => .inl rfl) (fun _ => by first | exact .inl rfl | exact .inr rfl)) (dgs_cons (dg_name (famG F0) (fun _ => rfl) (fun _ => .inl rfl) (fun _ => by first | exact .inl rfl | exact .inr rfl)) dgs_nil))) (by decide) (de_cmp (fun i => or_ltG ((famG F0).K i) ((famG F0).hu0 i)) od_lt (de_var 3 (fun _ => rfl) (fun _ => .inl rfl)) (de_var 4 (fun _ => rfl) (fun _ => .inl rfl)) (by first | exact nomark _ | with_unfolding_all rfl)))) de_non de_str)))))))⟩
def fb_is_web : RS → Out := (sRet (eBin (gIsN false) (eFn 1 F_wrong_web (aConsD (eVar 0) aNilD)) (eC .none)))
def F_is_web : List PyData → Fr := fnD 1 1 fb_is_web
abbrev st_is_web : Stmt := topS 9
theorem sc_is_web : FnScope ["value"] ["value"] (defScope st_is_web) := ⟨rfl, rfl, rfl, by decide +kernel, rfl, by decide +kernel, by decide +kernel⟩
theorem ok_is_web (T : Top P w mg base G) : HasF P w G.K mg base "is_web" 4 (spD G 1 F_is_web) := by
  obtain ⟨f, fd, F, hm⟩ := (T.t_is_web).ex
  obtain ⟨f_wrong_web, fd_wrong_web, ps_wrong_web, m_wrong_web, k_wrong_web, b_wrong_web, o_wrong_web⟩ := (ok_wrong_web T).ex
  exact ⟨f, fd, ["value"], hm, F.kp, (F.binds (ps := ["value"]) fun _ _ _ _ _ _ us hl => match us, hl with | [_], _ => rfl), fn_ok (k := 3) F sc_is_web rfl (by decide) fun A outer s H E hr => by
    have F0 : Fam (Cf P w G.K mg base ["value"] "is_web" st_is_web f fd A outer s H E) G (WF E) 3 := fam_of sc_is_web rfl hr
    exact (dss_one (ds_ret (de_cmp (fun _ => op_isN) od_isN (de_fn F0 (fun _ => o_wrong_web) (by decide) (fun _ => rfl) (fun _ => m_wrong_web) k_wrong_web b_wrong_web (da_cons (de_var 0 (fun _ => rfl) (fun _ => .inl rfl)) da_nil)) de_non (by first | exact nomark _ | with_unfolding_all rfl))))⟩
def fb_need_web : RS → Out := (sThen (sAsg (eFn 1 F_wrong_web (aConsD (eVar 0) aNilD)) (setD 1))
  (sIf (tV (eBin (gIsN true) (eVar 1) (eC .none))) sNo sNil))
def F_need_web : List PyData → Fr := fnD 1 2 fb_need_web
abbrev st_need_web : Stmt := topS 10
theorem sc_need_web : FnScope ["value", "word"] ["value"] (defScope st_need_web) := ⟨rfl, rfl, rfl, by decide +kernel, rfl, by decide +kernel, by decide +kernel⟩
theorem ok_need_web (T : Top P w mg base G) : HasF P w G.K mg base "need_web" 4 (spD G 1 F_need_web) := by
  obtain ⟨f, fd, F, hm⟩ := (T.t_need_web).ex
  obtain ⟨f_wrong_web, fd_wrong_web, ps_wrong_web, m_wrong_web, k_wrong_web, b_wrong_web, o_wrong_web⟩ := (ok_wrong_web T).ex
  exact ⟨f, fd, ["value"], hm, F.kp, (F.binds (ps := ["value"]) fun _ _ _ _ _ _ us hl => match us, hl with | [_], _ => rfl), fn_ok (k := 3) F sc_need_web rfl (by decide) fun A outer s H E hr => by
    have F0 : Fam (Cf P w G.K mg base ["value", "word"] "need_web" st_need_web f fd A outer s H E) G (WF E) 3 := fam_of sc_need_web rfl hr
    exact (dss_cons (ds_set F0 (fun _ => rfl) (fun _ => .inl rfl) (fun _ => by first | exact .inl rfl | exact .inr rfl) (de_fn F0 (fun _ => o_wrong_web) (by decide) (fun _ => rfl) (fun _ => m_wrong_web) k_wrong_web b_wrong_web (da_cons (de_var 0 (fun _ => rfl) (fun _ => .inl rfl)) da_nil)))
  (dss_one (ds_if (dt_cmp (fun _ => op_notN) od_notN (de_var 1 (fun _ => rfl) (fun _ => .inl rfl)) de_non (by first | exact nomark _ | with_unfolding_all rfl)) (dss_one ds_never) dss_nil)))⟩
def fb_need_two : RS → Out := (sThen (sExpr (eFn 1 F_need_web (aConsD (eVar 0) aNilD)))
  (sThen (sExpr (eFn 1 F_need_web (aConsD (eVar 1) aNilD)))
  (sIf (tV (eBin gNe (eBin gIx (eVar 0) (eC (.int 0))) (eBin gIx (eVar 1) (eC (.int 0))))) sNo sNil)))
def F_need_two : List PyData → Fr := fnD 2 2 fb_need_two
abbrev st_need_two : Stmt := topS 11
theorem sc_need_two : FnScope ["one", "other"] ["one", "other"] (defScope st_need_two) := ⟨rfl, rfl, rfl, by decide +kernel, rfl, by decide +kernel, by decide +kernel⟩
theorem ok_need_two (T : Top P w mg base G) : HasF P w G.K mg base "need_two" 5 (spD G 2 F_need_two) := by
  obtain ⟨f, fd, F, hm⟩ := (T.t_need_two).ex
  obtain ⟨f_need_web, fd_need_web, ps_need_web, m_need_web, k_need_web, b_need_web, o_need_web⟩ := (ok_need_web T).ex
  exact ⟨f, fd, ["one", "other"], hm, F.kp, (F.binds (ps := ["one", "other"]) fun _ _ _ _ _ _ us hl => match us, hl with | [_, _], _ => rfl), fn_ok (k := 4) F sc_need_two rfl (by decide) fun A outer s H E hr => by
    have F0 : Fam (Cf P w G.K mg base ["one", "other"] "need_two" st_need_two f fd A outer s H E) G (WF E) 4 := fam_of sc_need_two rfl hr
    exact (dss_cons (ds_expr (de_fn F0 (fun _ => o_need_web) (by decide) (fun _ => rfl) (fun _ => m_need_web) k_need_web b_need_web (da_cons (de_var 0 (fun _ => rfl) (fun _ => .inl rfl)) da_nil)))
  (dss_cons (ds_expr (de_fn F0 (fun _ => o_need_web) (by decide) (fun _ => rfl) (fun _ => m_need_web) k_need_web b_need_web (da_cons (de_var 1 (fun _ => rfl) (fun _ => .inl rfl)) da_nil)))
  (dss_one (ds_if (dt_cmp (fun i => or_neG (F0.K i) (F0.hu4 i)) od_ne (de_ix (fun i => or_ix (F0.K i)) od_ix (de_var 0 (fun _ => rfl) (fun _ => .inl rfl)) de_int) (de_ix (fun i => or_ix (F0.K i)) od_ix (de_var 1 (fun _ => rfl) (fun _ => .inl rfl)) de_int) (by first | exact nomark _ | with_unfolding_all rfl)) (dss_one ds_never) dss_nil))))⟩
def fb_divisor : RS → Out := (sThen (whN (tT (eVar 1)) (sPar 0 1 (aConsD (eVar 1) (aConsD (eBin gMod (eVar 0) (eVar 1)) aNilD))) 40)
  (sRet (eVar 0)))
def F_divisor : List PyData → Fr := fnD 2 2 fb_divisor
abbrev st_divisor : Stmt := topS 12
theorem sc_divisor : FnScope ["one", "other"] ["one", "other"] (defScope st_divisor) := ⟨rfl, rfl, rfl, by decide +kernel, rfl, by decide +kernel, by decide +kernel⟩
theorem ok_divisor (T : Top P w mg base G) : HasF P w G.K mg base "divisor" 1 (spD G 2 F_divisor) := by
  obtain ⟨f, fd, F, hm⟩ := (T.t_divisor).ex
  exact ⟨f, fd, ["one", "other"], hm, F.kp, (F.binds (ps := ["one", "other"]) fun _ _ _ _ _ _ us hl => match us, hl with | [_, _], _ => rfl), fn_ok (k := 0) F sc_divisor rfl (by decide) fun A outer s H E hr => by
    have F0 : Fam (Cf P w G.K mg base ["one", "other"] "divisor" st_divisor f fd A outer s H E) G (WF E) 0 := fam_of sc_divisor rfl hr
    exact (dss_cons (ds_while 40 owns_of (dt_truth F0 (de_var 1 (fun _ => rfl) (fun _ => .inl rfl))) (dss_one (ds_par F0 (fun _ => rfl) (fun _ => rfl) (by decide) (fun _ => rfl) (fun _ => rfl) (da_cons (de_var 1 (fun _ => rfl) (fun _ => .inl rfl)) (da_cons (de_bin (fun _ => op_mod) od_mod (de_var 0 (fun _ => rfl) (fun _ => .inl rfl)) (de_var 1 (fun _ => rfl) (fun _ => .inl rfl))) da_nil)))))
  (dss_one (ds_ret (de_var 0 (fun _ => rfl) (fun _ => .inl rfl)))))⟩
def fb_factors_of : RS → Out := (sRet (eLc (iRng rng2 (aConsD (eC (.int 1)) (aConsD (eVar 0) aNilD))) (setD 1) (tV (eBin gEq (eFn 2 F_divisor (aConsD (eVar 1) (aConsD (eVar 0) aNilD))) (eC (.int 1)))) (eVar 1) [1]))
def F_factors_of : List PyData → Fr := fnD 1 2 fb_factors_of
abbrev st_factors_of : Stmt := topS 13
theorem sc_factors_of : FnScope ["halls", "one"] ["halls"] (defScope st_factors_of) := ⟨rfl, rfl, rfl, by decide +kernel, rfl, by decide +kernel, by decide +kernel⟩
theorem ok_factors_of (T : Top P w mg base G) : HasF P w G.K mg base "factors_of" 2 (spD G 1 F_factors_of) := by
  obtain ⟨f, fd, F, hm⟩ := (T.t_factors_of).ex
  obtain ⟨f_divisor, fd_divisor, ps_divisor, m_divisor, k_divisor, b_divisor, o_divisor⟩ := (ok_divisor T).ex
  exact ⟨f, fd, ["halls"], hm, F.kp, (F.binds (ps := ["halls"]) fun _ _ _ _ _ _ us hl => match us, hl with | [_], _ => rfl), fn_ok (k := 1) F sc_factors_of rfl (by decide) fun A outer s H E hr => by
    have F0 : Fam (Cf P w G.K mg base ["halls", "one"] "factors_of" st_factors_of f fd A outer s H E) G (WF E) 1 := fam_of sc_factors_of rfl hr
    exact (dss_one (ds_ret (de_lc (own := [("one", 1)]) F0 (di_rng2 (fun _ => rfl) (fun _ => T.b_range) (da_cons de_int (da_cons (de_var 0 (fun _ => rfl) (fun _ => .inr (.inl (by kernel_rfl)))) da_nil))) (fun _ => blkOk_by (by kernel_rfl)) (dg_name (famB F0) (fun _ => rfl) (fun _ => .inl rfl) (fun _ => by first | exact .inl rfl | exact .inr rfl)) (by decide) (dts_one (dt_cmp (fun i => or_eqG ((famB F0).K i) ((famB F0).hu4 i)) od_eq (de_fn (famB F0) (fun _ => o_divisor) (by decide) (fun _ => rfl) (fun _ => m_divisor) k_divisor b_divisor (da_cons (de_var 1 (fun _ => rfl) (fun _ => .inl rfl)) (da_cons (de_var 0 (fun _ => rfl) (fun _ => .inr (.inl (by kernel_rfl)))) da_nil))) de_int (by first | exact nomark _ | with_unfolding_all rfl))) (de_var 1 (fun _ => rfl) (fun _ => .inl rfl)))))⟩
def fb_factors : RS → Out := (sThen (sIf (tNotD (tT (eFn 3 F_is_number (aConsD (eVar 0) (aConsD (eC (.int 2)) (aConsD (eC (.int 13)) aNilD)))))) sNo sNil)
  (sRet (eCall gTupOf (aConsD (eFn 1 F_factors_of (aConsD (eVar 0) aNilD)) aNilD))))
def F_factors : List PyData → Fr := fnD 1 1 fb_factors
abbrev st_factors : Stmt := topS 14
theorem sc_factors : FnScope ["halls"] ["halls"] (defScope st_factors) := ⟨rfl, rfl, rfl, by decide +kernel, rfl, by decide +kernel, by decide +kernel⟩
theorem ok_factors (T : Top P w mg base G) : HasF P w G.K mg base "factors" 3 (spD G 1 F_factors) := by
  obtain ⟨f, fd, F, hm⟩ := (T.t_factors).ex
  obtain ⟨f_is_number, fd_is_number, ps_is_number, m_is_number, k_is_number, b_is_number, o_is_number⟩ := (ok_is_number T).ex
  obtain ⟨f_factors_of, fd_factors_of, ps_factors_of, m_factors_of, k_factors_of, b_factors_of, o_factors_of⟩ := (ok_factors_of T).ex
  obtain ⟨u_MOST_HALLS, mc_MOST_HALLS, rc_MOST_HALLS⟩ := T.c_MOST_HALLS
  exact ⟨f, fd, ["halls"], hm, F.kp, (F.binds (ps := ["halls"]) fun _ _ _ _ _ _ us hl => match us, hl with | [_], _ => rfl), fn_ok (k := 2) F sc_factors rfl (by decide) fun A outer s H E hr => by
    have F0 : Fam (Cf P w G.K mg base ["halls"] "factors" st_factors f fd A outer s H E) G (WF E) 2 := fam_of sc_factors rfl hr
    exact (dss_cons (ds_if (dt_not (dt_truth F0 (de_fn F0 (fun _ => o_is_number) (by decide) (fun _ => rfl) (fun _ => m_is_number) k_is_number b_is_number (da_cons (de_var 0 (fun _ => rfl) (fun _ => .inl rfl)) (da_cons de_int (da_cons (de_glob (v := .int 13) (d := .int 13) (fun _ => rfl) (fun _ => mc_MOST_HALLS) rc_MOST_HALLS (fun _ _ => .int _)) da_nil)))))) (dss_one ds_never) dss_nil)
  (dss_one (ds_ret (de_callTy (fun i => cr_tupOf (F0.K i)) cd_tupOf (fun _ => rfl) (fun _ => T.b_tuple) (by decide +kernel) (da_cons (de_fn F0 (fun _ => o_factors_of) (by decide) (fun _ => rfl) (fun _ => m_factors_of) k_factors_of b_factors_of (da_cons (de_var 0 (fun _ => rfl) (fun _ => .inl rfl)) da_nil)) da_nil)))))⟩
def fb_multiplied : RS → Out := (sRet (eTupD (aConsD (eBin gIx (eVar 0) (eC (.int 0))) (aConsD (eCall gTupOf (aConsD (eCall gSorted (aConsD (eLc (iSeq (eBin gIx (eVar 0) (eC (.int 1)))) (setD 2) tYesD (eBin gMod (eBin gMul (eVar 2) (eVar 1)) (eBin gIx (eVar 0) (eC (.int 0)))) [2]) aNilD)) aNilD)) aNilD))))
def F_multiplied : List PyData → Fr := fnD 2 3 fb_multiplied
abbrev st_multiplied : Stmt := topS 15
theorem sc_multiplied : FnScope ["web", "factor", "step"] ["web", "factor"] (defScope st_multiplied) := ⟨rfl, rfl, rfl, by decide +kernel, rfl, by decide +kernel, by decide +kernel⟩
theorem ok_multiplied (T : Top P w mg base G) : HasF P w G.K mg base "multiplied" 1 (spD G 2 F_multiplied) := by
  obtain ⟨f, fd, F, hm⟩ := (T.t_multiplied).ex
  exact ⟨f, fd, ["web", "factor"], hm, F.kp, (F.binds (ps := ["web", "factor"]) fun _ _ _ _ _ _ us hl => match us, hl with | [_, _], _ => rfl), fn_ok (k := 0) F sc_multiplied rfl (by decide) fun A outer s H E hr => by
    have F0 : Fam (Cf P w G.K mg base ["web", "factor", "step"] "multiplied" st_multiplied f fd A outer s H E) G (WF E) 0 := fam_of sc_multiplied rfl hr
    exact (dss_one (ds_ret (de_tup (da_cons (de_ix (fun i => or_ix (F0.K i)) od_ix (de_var 0 (fun _ => rfl) (fun _ => .inr (.inl (by kernel_rfl)))) de_int) (da_cons (de_callTy (fun i => cr_tupOf (F0.K i)) cd_tupOf (fun _ => rfl) (fun _ => T.b_tuple) (by decide +kernel) (da_cons (de_callB (fun i => cr_sortG (F0.K i) (F0.hu4 i)) cd_sorted (fun _ => rfl) (fun _ => T.b_sorted) (by decide +kernel) (da_cons (de_lc (own := [("step", 2)]) F0 (di_seq F0 (de_ix (fun i => or_ix (F0.K i)) od_ix (de_var 0 (fun _ => rfl) (fun _ => .inr (.inl (by kernel_rfl)))) de_int)) (fun _ => blkOk_by (by kernel_rfl)) (dg_name (famB F0) (fun _ => rfl) (fun _ => .inl rfl) (fun _ => by first | exact .inl rfl | exact .inr rfl)) (by decide) dts_nil (de_bin (fun _ => op_mod) od_mod (de_bin (fun i => or_mulG ((famB F0).K i)) od_mul (de_var 2 (fun _ => rfl) (fun _ => .inl rfl)) (de_var 1 (fun _ => rfl) (fun _ => .inr (.inl (by kernel_rfl))))) (de_ix (fun i => or_ix ((famB F0).K i)) od_ix (de_var 0 (fun _ => rfl) (fun _ => .inr (.inl (by kernel_rfl)))) de_int))) da_nil)) da_nil)) da_nil)))))⟩
def fb_times : RS → Out := (sThen (sExpr (eFn 1 F_need_web (aConsD (eVar 0) aNilD)))
  (sThen (sIf (tOrD (tNotD (tT (eFn 3 F_is_number (aConsD (eVar 1) (aConsD (eC (.int 1)) (aConsD (eBin gSub (eBin gIx (eVar 0) (eC (.int 0))) (eC (.int 1))) aNilD)))))) (tV (eBin gGt (eFn 2 F_divisor (aConsD (eVar 1) (aConsD (eBin gIx (eVar 0) (eC (.int 0))) aNilD))) (eC (.int 1))))) sNo sNil)
  (sRet (eFn 2 F_multiplied (aConsD (eVar 0) (aConsD (eVar 1) aNilD))))))
def F_times : List PyData → Fr := fnD 2 2 fb_times
abbrev st_times : Stmt := topS 16
theorem sc_times : FnScope ["web", "factor"] ["web", "factor"] (defScope st_times) := ⟨rfl, rfl, rfl, by decide +kernel, rfl, by decide +kernel, by decide +kernel⟩
theorem ok_times (T : Top P w mg base G) : HasF P w G.K mg base "times" 5 (spD G 2 F_times) := by
  obtain ⟨f, fd, F, hm⟩ := (T.t_times).ex
  obtain ⟨f_need_web, fd_need_web, ps_need_web, m_need_web, k_need_web, b_need_web, o_need_web⟩ := (ok_need_web T).ex
  obtain ⟨f_divisor, fd_divisor, ps_divisor, m_divisor, k_divisor, b_divisor, o_divisor⟩ := (ok_divisor T).ex
  obtain ⟨f_is_number, fd_is_number, ps_is_number, m_is_number, k_is_number, b_is_number, o_is_number⟩ := (ok_is_number T).ex
  obtain ⟨f_multiplied, fd_multiplied, ps_multiplied, m_multiplied, k_multiplied, b_multiplied, o_multiplied⟩ := (ok_multiplied T).ex
  exact ⟨f, fd, ["web", "factor"], hm, F.kp, (F.binds (ps := ["web", "factor"]) fun _ _ _ _ _ _ us hl => match us, hl with | [_, _], _ => rfl), fn_ok (k := 4) F sc_times rfl (by decide) fun A outer s H E hr => by
    have F0 : Fam (Cf P w G.K mg base ["web", "factor"] "times" st_times f fd A outer s H E) G (WF E) 4 := fam_of sc_times rfl hr
    exact (dss_cons (ds_expr (de_fn F0 (fun _ => o_need_web) (by decide) (fun _ => rfl) (fun _ => m_need_web) k_need_web b_need_web (da_cons (de_var 0 (fun _ => rfl) (fun _ => .inl rfl)) da_nil)))
  (dss_cons (ds_if (DW.dt (dw_or (dt_not (dt_truth F0 (de_fn F0 (fun _ => o_is_number) (by decide) (fun _ => rfl) (fun _ => m_is_number) k_is_number b_is_number (da_cons (de_var 1 (fun _ => rfl) (fun _ => .inl rfl)) (da_cons de_int (da_cons (de_bin (fun _ => op_sub) od_sub (de_ix (fun i => or_ix (F0.K i)) od_ix (de_var 0 (fun _ => rfl) (fun _ => .inl rfl)) de_int) de_int) da_nil)))))) (dw_or1 (dt_cmp (fun _ => op_gt) od_gt (de_fn F0 (fun _ => o_divisor) (by decide) (fun _ => rfl) (fun _ => m_divisor) k_divisor b_divisor (da_cons (de_var 1 (fun _ => rfl) (fun _ => .inl rfl)) (da_cons (de_ix (fun i => or_ix (F0.K i)) od_ix (de_var 0 (fun _ => rfl) (fun _ => .inl rfl)) de_int) da_nil))) de_int (by first | exact nomark _ | with_unfolding_all rfl))))) (dss_one ds_never) dss_nil)
  (dss_one (ds_ret (de_fn F0 (fun _ => o_multiplied) (by decide) (fun _ => rfl) (fun _ => m_multiplied) k_multiplied b_multiplied (da_cons (de_var 0 (fun _ => rfl) (fun _ => .inl rfl)) (da_cons (de_var 1 (fun _ => rfl) (fun _ => .inl rfl)) da_nil)))))))⟩
def fb_multiples_of : RS → Out := (sRet (eCall gSortSet (aConsD (eLc (iSeq (eFn 1 F_factors_of (aConsD (eBin gIx (eVar 0) (eC (.int 0))) aNilD))) (setD 1) tYesD (eFn 2 F_multiplied (aConsD (eVar 0) (aConsD (eVar 1) aNilD))) [1]) aNilD)))
def F_multiples_of : List PyData → Fr := fnD 1 2 fb_multiples_of
abbrev st_multiples_of : Stmt := topS 17
theorem sc_multiples_of : FnScope ["web", "factor"] ["web"] (defScope st_multiples_of) := ⟨rfl, rfl, rfl, by decide +kernel, rfl, by decide +kernel, by decide +kernel⟩
theorem ok_multiples_of (T : Top P w mg base G) : HasF P w G.K mg base "multiples_of" 3 (spD G 1 F_multiples_of) := by
  obtain ⟨f, fd, F, hm⟩ := (T.t_multiples_of).ex
  obtain ⟨f_factors_of, fd_factors_of, ps_factors_of, m_factors_of, k_factors_of, b_factors_of, o_factors_of⟩ := (ok_factors_of T).ex
  obtain ⟨f_multiplied, fd_multiplied, ps_multiplied, m_multiplied, k_multiplied, b_multiplied, o_multiplied⟩ := (ok_multiplied T).ex
  exact ⟨f, fd, ["web"], hm, F.kp, (F.binds (ps := ["web"]) fun _ _ _ _ _ _ us hl => match us, hl with | [_], _ => rfl), fn_ok (k := 2) F sc_multiples_of rfl (by decide) fun A outer s H E hr => by
    have F0 : Fam (Cf P w G.K mg base ["web", "factor"] "multiples_of" st_multiples_of f fd A outer s H E) G (WF E) 2 := fam_of sc_multiples_of rfl hr
    exact (dss_one (ds_ret (de_sortSet F0 (fun _ => rfl) (fun _ => rfl) (fun _ => T.b_sorted) (fun _ => rfl) (fun _ => T.b_set) (da_cons (de_lc (own := [("factor", 1)]) F0 (di_seq F0 (de_fn F0 (fun _ => o_factors_of) (by decide) (fun _ => rfl) (fun _ => m_factors_of) k_factors_of b_factors_of (da_cons (de_ix (fun i => or_ix (F0.K i)) od_ix (de_var 0 (fun _ => rfl) (fun _ => .inr (.inl (by kernel_rfl)))) de_int) da_nil))) (fun _ => blkOk_by (by kernel_rfl)) (dg_name (famB F0) (fun _ => rfl) (fun _ => .inl rfl) (fun _ => by first | exact .inl rfl | exact .inr rfl)) (by decide) dts_nil (de_fn (famB F0) (fun _ => o_multiplied) (by decide) (fun _ => rfl) (fun _ => m_multiplied) k_multiplied b_multiplied (da_cons (de_var 0 (fun _ => rfl) (fun _ => .inr (.inl (by kernel_rfl)))) (da_cons (de_var 1 (fun _ => rfl) (fun _ => .inl rfl)) da_nil)))) da_nil))))⟩
def fb_multiples : RS → Out := (sThen (sExpr (eFn 1 F_need_web (aConsD (eVar 0) aNilD)))
  (sRet (eCall gTupOf (aConsD (eFn 1 F_multiples_of (aConsD (eVar 0) aNilD)) aNilD))))
def F_multiples : List PyData → Fr := fnD 1 1 fb_multiples
abbrev st_multiples : Stmt := topS 18
theorem sc_multiples : FnScope ["web"] ["web"] (defScope st_multiples) := ⟨rfl, rfl, rfl, by decide +kernel, rfl, by decide +kernel, by decide +kernel⟩
theorem ok_multiples (T : Top P w mg base G) : HasF P w G.K mg base "multiples" 5 (spD G 1 F_multiples) := by
  obtain ⟨f, fd, F, hm⟩ := (T.t_multiples).ex
  obtain ⟨f_need_web, fd_need_web, ps_need_web, m_need_web, k_need_web, b_need_web, o_need_web⟩ := (ok_need_web T).ex
  obtain ⟨f_multiples_of, fd_multiples_of, ps_multiples_of, m_multiples_of, k_multiples_of, b_multiples_of, o_multiples_of⟩ := (ok_multiples_of T).ex
  exact ⟨f, fd, ["web"], hm, F.kp, (F.binds (ps := ["web"]) fun _ _ _ _ _ _ us hl => match us, hl with | [_], _ => rfl), fn_ok (k := 4) F sc_multiples rfl (by decide) fun A outer s H E hr => by
    have F0 : Fam (Cf P w G.K mg base ["web"] "multiples" st_multiples f fd A outer s H E) G (WF E) 4 := fam_of sc_multiples rfl hr
    exact (dss_cons (ds_expr (de_fn F0 (fun _ => o_need_web) (by decide) (fun _ => rfl) (fun _ => m_need_web) k_need_web b_need_web (da_cons (de_var 0 (fun _ => rfl) (fun _ => .inl rfl)) da_nil)))
  (dss_one (ds_ret (de_callTy (fun i => cr_tupOf (F0.K i)) cd_tupOf (fun _ => rfl) (fun _ => T.b_tuple) (by decide +kernel) (da_cons (de_fn F0 (fun _ => o_multiples_of) (by decide) (fun _ => rfl) (fun _ => m_multiples_of) k_multiples_of b_multiples_of (da_cons (de_var 0 (fun _ => rfl) (fun _ => .inl rfl)) da_nil)) da_nil)))))⟩
def fb_least_multiple : RS → Out := (sThen (sExpr (eFn 1 F_need_web (aConsD (eVar 0) aNilD)))
  (sRet (eBin gIx (eFn 1 F_multiples_of (aConsD (eVar 0) aNilD)) (eC (.int 0)))))
def F_least_multiple : List PyData → Fr := fnD 1 1 fb_least_multiple
abbrev st_least_multiple : Stmt := topS 19
theorem sc_least_multiple : FnScope ["web"] ["web"] (defScope st_least_multiple) := ⟨rfl, rfl, rfl, by decide +kernel, rfl, by decide +kernel, by decide +kernel⟩
theorem ok_least_multiple (T : Top P w mg base G) : HasF P w G.K mg base "least_multiple" 5 (spD G 1 F_least_multiple) := by
  obtain ⟨f, fd, F, hm⟩ := (T.t_least_multiple).ex
  obtain ⟨f_need_web, fd_need_web, ps_need_web, m_need_web, k_need_web, b_need_web, o_need_web⟩ := (ok_need_web T).ex
  obtain ⟨f_multiples_of, fd_multiples_of, ps_multiples_of, m_multiples_of, k_multiples_of, b_multiples_of, o_multiples_of⟩ := (ok_multiples_of T).ex
  exact ⟨f, fd, ["web"], hm, F.kp, (F.binds (ps := ["web"]) fun _ _ _ _ _ _ us hl => match us, hl with | [_], _ => rfl), fn_ok (k := 4) F sc_least_multiple rfl (by decide) fun A outer s H E hr => by
    have F0 : Fam (Cf P w G.K mg base ["web"] "least_multiple" st_least_multiple f fd A outer s H E) G (WF E) 4 := fam_of sc_least_multiple rfl hr
    exact (dss_cons (ds_expr (de_fn F0 (fun _ => o_need_web) (by decide) (fun _ => rfl) (fun _ => m_need_web) k_need_web b_need_web (da_cons (de_var 0 (fun _ => rfl) (fun _ => .inl rfl)) da_nil)))
  (dss_one (ds_ret (de_ix (fun i => or_ix (F0.K i)) od_ix (de_fn F0 (fun _ => o_multiples_of) (by decide) (fun _ => rfl) (fun _ => m_multiples_of) k_multiples_of b_multiples_of (da_cons (de_var 0 (fun _ => rfl) (fun _ => .inl rfl)) da_nil)) de_int))))⟩
def fb_are_multiples : RS → Out := (sThen (sExpr (eFn 2 F_need_two (aConsD (eVar 0) (aConsD (eVar 1) aNilD))))
  (sRet (eBin (gInG false) (eVar 1) (eFn 1 F_multiples_of (aConsD (eVar 0) aNilD)))))
def F_are_multiples : List PyData → Fr := fnD 2 2 fb_are_multiples
abbrev st_are_multiples : Stmt := topS 20
theorem sc_are_multiples : FnScope ["one", "other"] ["one", "other"] (defScope st_are_multiples) := ⟨rfl, rfl, rfl, by decide +kernel, rfl, by decide +kernel, by decide +kernel⟩
theorem ok_are_multiples (T : Top P w mg base G) : HasF P w G.K mg base "are_multiples" 6 (spD G 2 F_are_multiples) := by
  obtain ⟨f, fd, F, hm⟩ := (T.t_are_multiples).ex
  obtain ⟨f_need_two, fd_need_two, ps_need_two, m_need_two, k_need_two, b_need_two, o_need_two⟩ := (ok_need_two T).ex
  obtain ⟨f_multiples_of, fd_multiples_of, ps_multiples_of, m_multiples_of, k_multiples_of, b_multiples_of, o_multiples_of⟩ := (ok_multiples_of T).ex
  exact ⟨f, fd, ["one", "other"], hm, F.kp, (F.binds (ps := ["one", "other"]) fun _ _ _ _ _ _ us hl => match us, hl with | [_, _], _ => rfl), fn_ok (k := 5) F sc_are_multiples rfl (by decide) fun A outer s H E hr => by
    have F0 : Fam (Cf P w G.K mg base ["one", "other"] "are_multiples" st_are_multiples f fd A outer s H E) G (WF E) 5 := fam_of sc_are_multiples rfl hr
    exact (dss_cons (ds_expr (de_fn F0 (fun _ => o_need_two) (by decide) (fun _ => rfl) (fun _ => m_need_two) k_need_two b_need_two (da_cons (de_var 0 (fun _ => rfl) (fun _ => .inl rfl)) (da_cons (de_var 1 (fun _ => rfl) (fun _ => .inl rfl)) da_nil))))
  (dss_one (ds_ret (de_cmp (or_inG' F0) od_inG' (de_var 1 (fun _ => rfl) (fun _ => .inl rfl)) (de_fn F0 (fun _ => o_multiples_of) (by decide) (fun _ => rfl) (fun _ => m_multiples_of) k_multiples_of b_multiples_of (da_cons (de_var 0 (fun _ => rfl) (fun _ => .inl rfl)) da_nil)) (by first | exact nomark _ | with_unfolding_all rfl)))))⟩
def fb_turned : RS → Out := (sThen (sExpr (eFn 1 F_need_web (aConsD (eVar 0) aNilD)))
  (sRet (eFn 2 F_multiplied (aConsD (eVar 0) (aConsD (eBin gSub (eBin gIx (eVar 0) (eC (.int 0))) (eC (.int 1))) aNilD)))))
def F_turned : List PyData → Fr := fnD 1 1 fb_turned
abbrev st_turned : Stmt := topS 21
theorem sc_turned : FnScope ["web"] ["web"] (defScope st_turned) := ⟨rfl, rfl, rfl, by decide +kernel, rfl, by decide +kernel, by decide +kernel⟩
theorem ok_turned (T : Top P w mg base G) : HasF P w G.K mg base "turned" 5 (spD G 1 F_turned) := by
  obtain ⟨f, fd, F, hm⟩ := (T.t_turned).ex
  obtain ⟨f_need_web, fd_need_web, ps_need_web, m_need_web, k_need_web, b_need_web, o_need_web⟩ := (ok_need_web T).ex
  obtain ⟨f_multiplied, fd_multiplied, ps_multiplied, m_multiplied, k_multiplied, b_multiplied, o_multiplied⟩ := (ok_multiplied T).ex
  exact ⟨f, fd, ["web"], hm, F.kp, (F.binds (ps := ["web"]) fun _ _ _ _ _ _ us hl => match us, hl with | [_], _ => rfl), fn_ok (k := 4) F sc_turned rfl (by decide) fun A outer s H E hr => by
    have F0 : Fam (Cf P w G.K mg base ["web"] "turned" st_turned f fd A outer s H E) G (WF E) 4 := fam_of sc_turned rfl hr
    exact (dss_cons (ds_expr (de_fn F0 (fun _ => o_need_web) (by decide) (fun _ => rfl) (fun _ => m_need_web) k_need_web b_need_web (da_cons (de_var 0 (fun _ => rfl) (fun _ => .inl rfl)) da_nil)))
  (dss_one (ds_ret (de_fn F0 (fun _ => o_multiplied) (by decide) (fun _ => rfl) (fun _ => m_multiplied) k_multiplied b_multiplied (da_cons (de_var 0 (fun _ => rfl) (fun _ => .inl rfl)) (da_cons (de_bin (fun _ => op_sub) od_sub (de_ix (fun i => or_ix (F0.K i)) od_ix (de_var 0 (fun _ => rfl) (fun _ => .inl rfl)) de_int) de_int) da_nil))))))⟩
def fb_is_two_way : RS → Out := (sRet (eBin gEq (eFn 1 F_turned (aConsD (eVar 0) aNilD)) (eVar 0)))
def F_is_two_way : List PyData → Fr := fnD 1 1 fb_is_two_way
abbrev st_is_two_way : Stmt := topS 22
theorem sc_is_two_way : FnScope ["web"] ["web"] (defScope st_is_two_way) := ⟨rfl, rfl, rfl, by decide +kernel, rfl, by decide +kernel, by decide +kernel⟩
theorem ok_is_two_way (T : Top P w mg base G) : HasF P w G.K mg base "is_two_way" 6 (spD G 1 F_is_two_way) := by
  obtain ⟨f, fd, F, hm⟩ := (T.t_is_two_way).ex
  obtain ⟨f_turned, fd_turned, ps_turned, m_turned, k_turned, b_turned, o_turned⟩ := (ok_turned T).ex
  exact ⟨f, fd, ["web"], hm, F.kp, (F.binds (ps := ["web"]) fun _ _ _ _ _ _ us hl => match us, hl with | [_], _ => rfl), fn_ok (k := 5) F sc_is_two_way rfl (by decide) fun A outer s H E hr => by
    have F0 : Fam (Cf P w G.K mg base ["web"] "is_two_way" st_is_two_way f fd A outer s H E) G (WF E) 5 := fam_of sc_is_two_way rfl hr
    exact (dss_one (ds_ret (de_cmp (fun i => or_eqG (F0.K i) (F0.hu4 i)) od_eq (de_fn F0 (fun _ => o_turned) (by decide) (fun _ => rfl) (fun _ => m_turned) k_turned b_turned (da_cons (de_var 0 (fun _ => rfl) (fun _ => .inl rfl)) da_nil)) (de_var 0 (fun _ => rfl) (fun _ => .inl rfl)) (by first | exact nomark _ | with_unfolding_all rfl))))⟩
def fb_ways_of : RS → Out := (sThen (sAsg (eVar 0) (setTup 2 (setCons (setD 1) (setCons (setD 2) setNil))))
  (sRet (eCall gSorted (aConsD (eLc2 (iRng rng1 (aConsD (eVar 1) aNilD)) (setD 3) tYesD (iSeq (eVar 2)) (setD 4) tYesD (eTupD (aConsD (eVar 3) (aConsD (eBin gMod (eBin gAdd (eVar 3) (eVar 4)) (eVar 1)) aNilD))) [3, 4] [4]) aNilD))))
def F_ways_of : List PyData → Fr := fnD 1 5 fb_ways_of
abbrev st_ways_of : Stmt := topS 23
theorem sc_ways_of : FnScope ["web", "halls", "steps", "hall", "step"] ["web"] (defScope st_ways_of) := ⟨rfl, rfl, rfl, by decide +kernel, rfl, by decide +kernel, by decide +kernel⟩
theorem ok_ways_of (T : Top P w mg base G) : HasF P w G.K mg base "ways_of" 1 (spD G 1 F_ways_of) := by
  obtain ⟨f, fd, F, hm⟩ := (T.t_ways_of).ex
  exact ⟨f, fd, ["web"], hm, F.kp, (F.binds (ps := ["web"]) fun _ _ _ _ _ _ us hl => match us, hl with | [_], _ => rfl), fn_ok (k := 0) F sc_ways_of rfl (by decide) fun A outer s H E hr => by
    have F0 : Fam (Cf P w G.K mg base ["web", "halls", "steps", "hall", "step"] "ways_of" st_ways_of f fd A outer s H E) G (WF E) 0 := fam_of sc_ways_of rfl hr
    exact (dss_cons (ds_asg (de_var 0 (fun _ => rfl) (fun _ => .inl rfl)) (dg_tup F0 (dgs_cons (dg_name F0 (fun _ => rfl) (fun _ => .inr rfl) (fun _ => by first | exact .inl rfl | exact .inr rfl)) (dgs_cons (dg_name F0 (fun _ => rfl) (fun _ => .inr rfl) (fun _ => by first | exact .inl rfl | exact .inr rfl)) dgs_nil))))
  (dss_one (ds_ret (de_callB (fun i => cr_sortG (F0.K i) (F0.hu4 i)) cd_sorted (fun _ => rfl) (fun _ => T.b_sorted) (by decide +kernel) (da_cons (de_lc2 (own := [("hall", 3), ("step", 4)]) (vs1 := [4]) F0 (di_rng1 (fun _ => rfl) (fun _ => T.b_range) (da_cons (de_var 1 (fun _ => rfl) (fun _ => .inr (.inl (by kernel_rfl)))) da_nil)) (fun _ => blkOk_by (by kernel_rfl)) (dg_name (famB F0) (fun _ => rfl) (fun _ => .inl rfl) (fun _ => by first | exact .inl rfl | exact .inr rfl)) (by decide) dts_nil (di_seq (famB F0) (de_var 2 (fun _ => rfl) (fun _ => .inr (.inl (by kernel_rfl))))) (dg_name (famB F0) (fun _ => rfl) (fun _ => .inl rfl) (fun _ => by first | exact .inl rfl | exact .inr rfl)) (by decide) (by decide) dts_nil (de_tup (da_cons (de_var 3 (fun _ => rfl) (fun _ => .inl rfl)) (da_cons (de_bin (fun _ => op_mod) od_mod (de_bin (fun i => or_addG ((famB F0).K i)) od_add (de_var 3 (fun _ => rfl) (fun _ => .inl rfl)) (de_var 4 (fun _ => rfl) (fun _ => .inl rfl))) (de_var 1 (fun _ => rfl) (fun _ => .inr (.inl (by kernel_rfl))))) da_nil)))) da_nil)))))⟩
def fb_ways : RS → Out := (sThen (sExpr (eFn 1 F_need_web (aConsD (eVar 0) aNilD)))
  (sRet (eCall gTupOf (aConsD (eFn 1 F_ways_of (aConsD (eVar 0) aNilD)) aNilD))))
def F_ways : List PyData → Fr := fnD 1 1 fb_ways
abbrev st_ways : Stmt := topS 24
theorem sc_ways : FnScope ["web"] ["web"] (defScope st_ways) := ⟨rfl, rfl, rfl, by decide +kernel, rfl, by decide +kernel, by decide +kernel⟩
theorem ok_ways (T : Top P w mg base G) : HasF P w G.K mg base "ways" 5 (spD G 1 F_ways) := by
  obtain ⟨f, fd, F, hm⟩ := (T.t_ways).ex
  obtain ⟨f_need_web, fd_need_web, ps_need_web, m_need_web, k_need_web, b_need_web, o_need_web⟩ := (ok_need_web T).ex
  obtain ⟨f_ways_of, fd_ways_of, ps_ways_of, m_ways_of, k_ways_of, b_ways_of, o_ways_of⟩ := (ok_ways_of T).ex
  exact ⟨f, fd, ["web"], hm, F.kp, (F.binds (ps := ["web"]) fun _ _ _ _ _ _ us hl => match us, hl with | [_], _ => rfl), fn_ok (k := 4) F sc_ways rfl (by decide) fun A outer s H E hr => by
    have F0 : Fam (Cf P w G.K mg base ["web"] "ways" st_ways f fd A outer s H E) G (WF E) 4 := fam_of sc_ways rfl hr
    exact (dss_cons (ds_expr (de_fn F0 (fun _ => o_need_web) (by decide) (fun _ => rfl) (fun _ => m_need_web) k_need_web b_need_web (da_cons (de_var 0 (fun _ => rfl) (fun _ => .inl rfl)) da_nil)))
  (dss_one (ds_ret (de_callTy (fun i => cr_tupOf (F0.K i)) cd_tupOf (fun _ => rfl) (fun _ => T.b_tuple) (by decide +kernel) (da_cons (de_fn F0 (fun _ => o_ways_of) (by decide) (fun _ => rfl) (fun _ => m_ways_of) k_ways_of b_ways_of (da_cons (de_var 0 (fun _ => rfl) (fun _ => .inl rfl)) da_nil)) da_nil)))))⟩
def fb_wrong_net : RS → Out := (sThen (sIf (tOrD (tNotD (tT (eIsi isTupD (eVar 0)))) (tV (eBin gNe (eCall gLen (aConsD (eVar 0) aNilD)) (eC (.int 2))))) (sRet (eC (.str "whole"))) sNil)
  (sThen (sAsg (eVar 0) (setTup 2 (setCons (setD 1) (setCons (setD 2) setNil))))
  (sThen (sIf (tNotD (tT (eFn 3 F_is_number (aConsD (eVar 1) (aConsD (eC (.int 1)) (aConsD (eC (.int 13)) aNilD)))))) (sRet (eC (.str "halls"))) sNil)
  (sThen (sIf (tNotD (tT (eIsi isTupD (eVar 2)))) (sRet (eC (.str "ways"))) sNil)
  (sThen (sFor (iSeq (eVar 2)) (setD 3) (sThen (sIf (tOrD (tNotD (tT (eIsi isTupD (eVar 3)))) (tOrD (tV (eBin gNe (eCall gLen (aConsD (eVar 3) aNilD)) (eC (.int 2)))) (tNotD (tT (eAll (iSeq (eVar 3)) (setD 6) (eFn 3 F_is_number (aConsD (eVar 6) (aConsD (eC (.int 0)) (aConsD (eBin gSub (eVar 1) (eC (.int 1))) aNilD)))) [6]))))) (sRet (eC (.str "ways"))) sNil)
  (sIf (tV (eBin gEq (eBin gIx (eVar 3) (eC (.int 0))) (eBin gIx (eVar 3) (eC (.int 1))))) (sRet (eC (.str "ways"))) sNil)))
  (sRet (eIfD (tT (eAll (iRng zipG (aConsD (eVar 2) (aConsD (eSl (eVar 2) (pSome (eC (.int 1))) pNone) aNilD))) (setTup 2 (setCons (setD 4) (setCons (setD 5) setNil))) (eBin gLt (eVar 4) (eVar 5)) [4, 5])) (eC .none) (eC (.str "ways")))))))))
def F_wrong_net : List PyData → Fr := fnD 1 7 fb_wrong_net
abbrev st_wrong_net : Stmt := topS 26
theorem sc_wrong_net : FnScope ["value", "halls", "told", "way", "one", "other", "hall"] ["value"] (defScope st_wrong_net) := ⟨rfl, rfl, rfl, by decide +kernel, rfl, by decide +kernel, by decide +kernel⟩
theorem ok_wrong_net (T : Top P w mg base G) : HasF P w G.K mg base "wrong_net" 3 (spD G 1 F_wrong_net) := by
  obtain ⟨f, fd, c, Pt, F, hm, hcode, hP, TB⟩ := (T.t_wrong_net).ex
  obtain ⟨f_is_number, fd_is_number, ps_is_number, m_is_number, k_is_number, b_is_number, o_is_number⟩ := (ok_is_number T).ex
  obtain ⟨u_MOST_HALLS, mc_MOST_HALLS, rc_MOST_HALLS⟩ := T.c_MOST_HALLS
  exact ⟨f, fd, ["value"], hm, F.kp, (F.binds (ps := ["value"]) fun _ _ _ _ _ _ us hl => match us, hl with | [_], _ => rfl), fn_ok (k := 2) F sc_wrong_net rfl (by decide) fun A outer s H E hr => by
    have F0 : Fam (Cf P w G.K mg base ["value", "halls", "told", "way", "one", "other", "hall"] "wrong_net" st_wrong_net f fd A outer s H E) G (WF E) 2 := fam_of sc_wrong_net rfl hr
    exact (dss_cons (ds_if (DW.dt (dw_or (dt_not (dt_truth F0 (de_isi F0 kb_tup (fun _ => rfl) (fun _ => T.b_isinstance) (fun _ => rfl) (fun _ => T.b_tuple) (by decide +kernel) (de_var 0 (fun _ => rfl) (fun _ => .inl rfl))))) (dw_or1 (dt_cmp (fun i => or_neG (F0.K i) (F0.hu4 i)) od_ne (de_callB (fun i => cr_lenG (F0.K i)) cd_len (fun _ => rfl) (fun _ => T.b_len) (by decide +kernel) (da_cons (de_var 0 (fun _ => rfl) (fun _ => .inl rfl)) da_nil)) de_int (by first | exact nomark _ | with_unfolding_all rfl))))) (dss_one (ds_ret de_str)) dss_nil)
  (dss_cons (ds_asg (de_var 0 (fun _ => rfl) (fun _ => .inl rfl)) (dg_tup F0 (dgs_cons (dg_name F0 (fun _ => rfl) (fun _ => .inr rfl) (fun _ => by first | exact .inl rfl | exact .inr rfl)) (dgs_cons (dg_name F0 (fun _ => rfl) (fun _ => .inl rfl) (fun _ => by first | exact .inl rfl | exact .inr rfl)) dgs_nil))))
  (dss_cons (ds_if (dt_not (dt_truth F0 (de_fn F0 (fun _ => o_is_number) (by decide) (fun _ => rfl) (fun _ => m_is_number) k_is_number b_is_number (da_cons (de_var 1 (fun _ => rfl) (fun _ => .inr (.inl (by kernel_rfl)))) (da_cons de_int (da_cons (de_glob (v := .int 13) (d := .int 13) (fun _ => rfl) (fun _ => mc_MOST_HALLS) rc_MOST_HALLS (fun _ _ => .int _)) da_nil)))))) (dss_one (ds_ret de_str)) dss_nil)
  (dss_cons (ds_if (dt_not (dt_truth F0 (de_isi F0 kb_tup (fun _ => rfl) (fun _ => T.b_isinstance) (fun _ => rfl) (fun _ => T.b_tuple) (by decide +kernel) (de_var 2 (fun _ => rfl) (fun _ => .inl rfl))))) (dss_one (ds_ret de_str)) dss_nil)
  (dss_cons (ds_for F0 owns_of (di_seq F0 (de_var 2 (fun _ => rfl) (fun _ => .inl rfl))) (dg_name F0 (fun _ => rfl) (fun _ => .inl rfl) (fun _ => by first | exact .inl rfl | exact .inr rfl)) (dss_cons (ds_if (DW.dt (dw_or (dt_not (dt_truth F0 (de_isi F0 kb_tup (fun _ => rfl) (fun _ => T.b_isinstance) (fun _ => rfl) (fun _ => T.b_tuple) (by decide +kernel) (de_var 3 (fun _ => rfl) (fun _ => .inl rfl))))) (dw_or (dt_cmp (fun i => or_neG (F0.K i) (F0.hu4 i)) od_ne (de_callB (fun i => cr_lenG (F0.K i)) cd_len (fun _ => rfl) (fun _ => T.b_len) (by decide +kernel) (da_cons (de_var 3 (fun _ => rfl) (fun _ => .inl rfl)) da_nil)) de_int (by first | exact nomark _ | with_unfolding_all rfl)) (dw_or1 (dt_not (dt_truth F0 (de_all (own := [("hall", 6)]) F0 hP (fun _ => rfl) (fun _ => T.b_all) (fun _ => TB) (fun _ => hcode) (di_seq F0 (de_var 3 (fun _ => rfl) (fun _ => .inl rfl))) (fun _ => blkOk_by (by kernel_rfl)) (fun _ => gsc_by (by kernel_rfl)) (dg_name (famG F0) (fun _ => rfl) (fun _ => .inl rfl) (fun _ => by first | exact .inl rfl | exact .inr rfl)) (by decide) (de_fn (famG F0) (fun _ => o_is_number) (by decide) (fun _ => rfl) (fun _ => m_is_number) k_is_number b_is_number (da_cons (de_var 6 (fun _ => rfl) (fun _ => .inl rfl)) (da_cons de_int (da_cons (de_bin (fun _ => op_sub) od_sub (de_var 1 (fun _ => rfl) (fun _ => .inr (.inr (by kernel_rfl)))) de_int) da_nil))))))))))) (dss_one (ds_ret de_str)) dss_nil)
  (dss_one (ds_if (dt_cmp (fun i => or_eqG (F0.K i) (F0.hu4 i)) od_eq (de_ix (fun i => or_ix (F0.K i)) od_ix (de_var 3 (fun _ => rfl) (fun _ => .inl rfl)) de_int) (de_ix (fun i => or_ix (F0.K i)) od_ix (de_var 3 (fun _ => rfl) (fun _ => .inl rfl)) de_int) (by first | exact nomark _ | with_unfolding_all rfl)) (dss_one (ds_ret de_str)) dss_nil))))
  (dss_one (ds_ret (de_if (dt_truth F0 (de_all (own := [("one", 4), ("other", 5)]) F0 hP (fun _ => rfl) (fun _ => T.b_all) (fun _ => TB) (fun _ => hcode) (di_zip F0 (fun _ => rfl) (fun _ => T.b_zip) (da_cons (de_var 2 (fun _ => rfl) (fun _ => .inl rfl)) (da_cons (de_slice F0 (de_var 2 (fun _ => rfl) (fun _ => .inl rfl)) (dp_some de_int) dp_none) da_nil))) (fun _ => blkOk_by (by kernel_rfl)) (fun _ => gsc_by (by kernel_rfl)) (dg_tup (famG F0) (dgs_cons (dg_name (famG F0) (fun _ => rfl) (fun _ => .inl rfl) (fun _ => by first | exact .inl rfl | exact .inr rfl)) (dgs_cons (dg_name (famG F0) (fun _ => rfl) (fun _ => .inl rfl) (fun _ => by first | exact .inl rfl | exact .inr rfl)) dgs_nil))) (by decide) (de_cmp (fun i => or_ltG ((famG F0).K i) ((famG F0).hu0 i)) od_lt (de_var 4 (fun _ => rfl) (fun _ => .inl rfl)) (de_var 5 (fun _ => rfl) (fun _ => .inl rfl)) (by first | exact nomark _ | with_unfolding_all rfl)))) de_non de_str))))))))⟩
def fb_is_net : RS → Out := (sRet (eBin (gIsN false) (eFn 1 F_wrong_net (aConsD (eVar 0) aNilD)) (eC .none)))
def F_is_net : List PyData → Fr := fnD 1 1 fb_is_net
abbrev st_is_net : Stmt := topS 27
theorem sc_is_net : FnScope ["value"] ["value"] (defScope st_is_net) := ⟨rfl, rfl, rfl, by decide +kernel, rfl, by decide +kernel, by decide +kernel⟩
theorem ok_is_net (T : Top P w mg base G) : HasF P w G.K mg base "is_net" 4 (spD G 1 F_is_net) := by
  obtain ⟨f, fd, F, hm⟩ := (T.t_is_net).ex
  obtain ⟨f_wrong_net, fd_wrong_net, ps_wrong_net, m_wrong_net, k_wrong_net, b_wrong_net, o_wrong_net⟩ := (ok_wrong_net T).ex
  exact ⟨f, fd, ["value"], hm, F.kp, (F.binds (ps := ["value"]) fun _ _ _ _ _ _ us hl => match us, hl with | [_], _ => rfl), fn_ok (k := 3) F sc_is_net rfl (by decide) fun A outer s H E hr => by
    have F0 : Fam (Cf P w G.K mg base ["value"] "is_net" st_is_net f fd A outer s H E) G (WF E) 3 := fam_of sc_is_net rfl hr
    exact (dss_one (ds_ret (de_cmp (fun _ => op_isN) od_isN (de_fn F0 (fun _ => o_wrong_net) (by decide) (fun _ => rfl) (fun _ => m_wrong_net) k_wrong_net b_wrong_net (da_cons (de_var 0 (fun _ => rfl) (fun _ => .inl rfl)) da_nil)) de_non (by first | exact nomark _ | with_unfolding_all rfl))))⟩
def fb_net_of : RS → Out := (sThen (sExpr (eFn 1 F_need_web (aConsD (eVar 0) aNilD)))
  (sRet (eTupD (aConsD (eBin gIx (eVar 0) (eC (.int 0))) (aConsD (eCall gTupOf (aConsD (eFn 1 F_ways_of (aConsD (eVar 0) aNilD)) aNilD)) aNilD)))))
def F_net_of : List PyData → Fr := fnD 1 1 fb_net_of
abbrev st_net_of : Stmt := topS 28
theorem sc_net_of : FnScope ["web"] ["web"] (defScope st_net_of) := ⟨rfl, rfl, rfl, by decide +kernel, rfl, by decide +kernel, by decide +kernel⟩
theorem ok_net_of (T : Top P w mg base G) : HasF P w G.K mg base "net_of" 5 (spD G 1 F_net_of) := by
  obtain ⟨f, fd, F, hm⟩ := (T.t_net_of).ex
  obtain ⟨f_need_web, fd_need_web, ps_need_web, m_need_web, k_need_web, b_need_web, o_need_web⟩ := (ok_need_web T).ex
  obtain ⟨f_ways_of, fd_ways_of, ps_ways_of, m_ways_of, k_ways_of, b_ways_of, o_ways_of⟩ := (ok_ways_of T).ex
  exact ⟨f, fd, ["web"], hm, F.kp, (F.binds (ps := ["web"]) fun _ _ _ _ _ _ us hl => match us, hl with | [_], _ => rfl), fn_ok (k := 4) F sc_net_of rfl (by decide) fun A outer s H E hr => by
    have F0 : Fam (Cf P w G.K mg base ["web"] "net_of" st_net_of f fd A outer s H E) G (WF E) 4 := fam_of sc_net_of rfl hr
    exact (dss_cons (ds_expr (de_fn F0 (fun _ => o_need_web) (by decide) (fun _ => rfl) (fun _ => m_need_web) k_need_web b_need_web (da_cons (de_var 0 (fun _ => rfl) (fun _ => .inl rfl)) da_nil)))
  (dss_one (ds_ret (de_tup (da_cons (de_ix (fun i => or_ix (F0.K i)) od_ix (de_var 0 (fun _ => rfl) (fun _ => .inl rfl)) de_int) (da_cons (de_callTy (fun i => cr_tupOf (F0.K i)) cd_tupOf (fun _ => rfl) (fun _ => T.b_tuple) (by decide +kernel) (da_cons (de_fn F0 (fun _ => o_ways_of) (by decide) (fun _ => rfl) (fun _ => m_ways_of) k_ways_of b_ways_of (da_cons (de_var 0 (fun _ => rfl) (fun _ => .inl rfl)) da_nil)) da_nil)) da_nil))))))⟩
def fb__law_taken : RS → Out := (sThen (sIf (tV (eBin gGt (eIxO 0 (eC (.int 3))) (eC (.int 0)))) (sThen (sAsg (eBin gMod (eCall gIntOf (aConsD (eIxO 0 (eC (.int 3))) aNilD)) (eVar 1)) (setD 2))
  (sThen (sPutO 0 (eC (.int 3)) (eBin gDiv (eIxO 0 (eC (.int 3))) (eVar 1)))
  (sRet (eVar 2)))) sNil)
  (sThen (sPutO 0 (eC (.int 1)) (eBin gAdd (eIxO 0 (eC (.int 1))) (eC (.int 1))))
  (sThen (sIf (tV (eBin gGt (eIxO 0 (eC (.int 1))) (eCall gLen (aConsD (eIxO 0 (eC (.int 0))) aNilD)))) (sThen (sPutO 0 (eC (.int 2)) (eBin gMod (eCall gIntOf (aConsD (eBin gAdd (eBin gMul (eIxO 0 (eC (.int 2))) (eC (.int 48271))) (eC (.int 11))) aNilD)) (eC (.int 2147483647))))
  (sRet (eBin gMod (eCall gIntOf (aConsD (eBin gDiv (eIxO 0 (eC (.int 2))) (eC (.int 7))) aNilD)) (eVar 1)))) sNil)
  (sThen (sAsg (eBin gIx (eIxO 0 (eC (.int 0))) (eBin gSub (eIxO 0 (eC (.int 1))) (eC (.int 1)))) (setD 3))
  (sThen (sPutO 0 (eC (.int 2)) (eBin gMod (eCall gIntOf (aConsD (eBin gAdd (eBin gAdd (eBin gMul (eIxO 0 (eC (.int 2))) (eC (.int 48271))) (eVar 3)) (eC (.int 11))) aNilD)) (eC (.int 2147483647))))
  (sThen (sIf (tV (eBin gGe (eVar 3) (eBin gPow (eC (.int 10)) (eC (.int 18))))) (sPutO 0 (eC (.int 3)) (eBin gDiv (eVar 3) (eVar 1))) sNil)
  (sRet (eBin gMod (eCall gIntOf (aConsD (eVar 3) aNilD)) (eVar 1)))))))))
def F__law_taken : List PyData → List PyData → Fi := fnI 2 4 fb__law_taken
abbrev st__law_taken : Stmt := topS 30
theorem sc__law_taken : FnScope ["_law_row", "_law_many", "_law_found", "_law_cell"] ["_law_row", "_law_many"] (defScope st__law_taken) := ⟨rfl, rfl, rfl, by decide +kernel, rfl, by decide +kernel, by decide +kernel⟩
theorem ok__law_taken (T : Top P w mg base G) : HasF P w G.K mg base "_law_taken" 1 (spI G 2 F__law_taken) := by
  obtain ⟨f, fd, F, hm⟩ := (T.t__law_taken).ex
  exact ⟨f, fd, ["_law_row", "_law_many"], hm, F.kp, (F.binds (ps := ["_law_row", "_law_many"]) fun _ _ _ _ _ _ us hl => match us, hl with | [_, _], _ => rfl), fni_ok (k := 0) F sc__law_taken rfl (by decide) fun A outer s H E hr => by
    have F0 : Fam (Cf P w G.K mg base ["_law_row", "_law_many", "_law_found", "_law_cell"] "_law_taken" st__law_taken f fd A outer s H E) G (WF E) 0 := fam_of sc__law_taken rfl hr
    exact (dss_cons (ds_if (dt_cmp (fun _ => op_gt) od_gt (de_ixO 0 F0 (fun _ => rfl) (fun _ => .inl rfl) de_int) de_int (by first | exact nomark _ | with_unfolding_all rfl)) (dss_cons (ds_set F0 (fun _ => rfl) (fun _ => .inl rfl) (fun _ => by first | exact .inl rfl | exact .inr rfl) (de_bin (fun _ => op_mod) od_mod (de_callTy (fun _ => call_int1) cd_int (fun _ => rfl) (fun _ => T.b_int) (by decide +kernel) (da_cons (de_ixO 0 F0 (fun _ => rfl) (fun _ => .inl rfl) de_int) da_nil)) (de_var 1 (fun _ => rfl) (fun _ => .inl rfl))))
  (dss_cons (ds_putO 0 F0 (fun _ => rfl) (fun _ => .inl rfl) de_int (de_bin (fun _ => op_fdiv) od_div (de_ixO 0 F0 (fun _ => rfl) (fun _ => .inl rfl) de_int) (de_var 1 (fun _ => rfl) (fun _ => .inl rfl))))
  (dss_one (ds_ret (de_var 2 (fun _ => rfl) (fun _ => .inl rfl)))))) dss_nil)
  (dss_cons (ds_putO 0 F0 (fun _ => rfl) (fun _ => .inl rfl) de_int (de_bin (fun i => or_addG (F0.K i)) od_add (de_ixO 0 F0 (fun _ => rfl) (fun _ => .inl rfl) de_int) de_int))
  (dss_cons (ds_if (dt_cmp (fun _ => op_gt) od_gt (de_ixO 0 F0 (fun _ => rfl) (fun _ => .inl rfl) de_int) (de_callB (fun i => cr_lenG (F0.K i)) cd_len (fun _ => rfl) (fun _ => T.b_len) (by decide +kernel) (da_cons (de_ixO 0 F0 (fun _ => rfl) (fun _ => .inl rfl) de_int) da_nil)) (by first | exact nomark _ | with_unfolding_all rfl)) (dss_cons (ds_putO 0 F0 (fun _ => rfl) (fun _ => .inl rfl) de_int (de_bin (fun _ => op_mod) od_mod (de_callTy (fun _ => call_int1) cd_int (fun _ => rfl) (fun _ => T.b_int) (by decide +kernel) (da_cons (de_bin (fun i => or_addG (F0.K i)) od_add (de_bin (fun i => or_mulG (F0.K i)) od_mul (de_ixO 0 F0 (fun _ => rfl) (fun _ => .inl rfl) de_int) de_int) de_int) da_nil)) de_int))
  (dss_one (ds_ret (de_bin (fun _ => op_mod) od_mod (de_callTy (fun _ => call_int1) cd_int (fun _ => rfl) (fun _ => T.b_int) (by decide +kernel) (da_cons (de_bin (fun _ => op_fdiv) od_div (de_ixO 0 F0 (fun _ => rfl) (fun _ => .inl rfl) de_int) de_int) da_nil)) (de_var 1 (fun _ => rfl) (fun _ => .inl rfl)))))) dss_nil)
  (dss_cons (ds_set F0 (fun _ => rfl) (fun _ => .inl rfl) (fun _ => by first | exact .inl rfl | exact .inr rfl) (de_ix (fun i => or_ix (F0.K i)) od_ix (de_ixO 0 F0 (fun _ => rfl) (fun _ => .inl rfl) de_int) (de_bin (fun _ => op_sub) od_sub (de_ixO 0 F0 (fun _ => rfl) (fun _ => .inl rfl) de_int) de_int)))
  (dss_cons (ds_putO 0 F0 (fun _ => rfl) (fun _ => .inl rfl) de_int (de_bin (fun _ => op_mod) od_mod (de_callTy (fun _ => call_int1) cd_int (fun _ => rfl) (fun _ => T.b_int) (by decide +kernel) (da_cons (de_bin (fun i => or_addG (F0.K i)) od_add (de_bin (fun i => or_addG (F0.K i)) od_add (de_bin (fun i => or_mulG (F0.K i)) od_mul (de_ixO 0 F0 (fun _ => rfl) (fun _ => .inl rfl) de_int) de_int) (de_var 3 (fun _ => rfl) (fun _ => .inl rfl))) de_int) da_nil)) de_int))
  (dss_cons (ds_if (dt_cmp (fun _ => op_ge) od_ge (de_var 3 (fun _ => rfl) (fun _ => .inl rfl)) (de_bin (fun _ => op_pow) od_pow de_int de_int) (by first | exact nomark _ | with_unfolding_all rfl)) (dss_one (ds_putO 0 F0 (fun _ => rfl) (fun _ => .inl rfl) de_int (de_bin (fun _ => op_fdiv) od_div (de_var 3 (fun _ => rfl) (fun _ => .inl rfl)) (de_var 1 (fun _ => rfl) (fun _ => .inl rfl))))) dss_nil)
  (dss_one (ds_ret (de_bin (fun _ => op_mod) od_mod (de_callTy (fun _ => call_int1) cd_int (fun _ => rfl) (fun _ => T.b_int) (by decide +kernel) (da_cons (de_var 3 (fun _ => rfl) (fun _ => .inl rfl)) da_nil)) (de_var 1 (fun _ => rfl) (fun _ => .inl rfl)))))))))))⟩
def fb__law_pick : RS → Out := (sRet (eBin gIx (eVar 1) (eFnI 0 2 F__law_taken (aConsD (eCall gLen (aConsD (eVar 1) aNilD)) aNilD))))
def F__law_pick : List PyData → List PyData → Fi := fnI 2 2 fb__law_pick
abbrev st__law_pick : Stmt := topS 31
theorem sc__law_pick : FnScope ["_law_row", "_law_things"] ["_law_row", "_law_things"] (defScope st__law_pick) := ⟨rfl, rfl, rfl, by decide +kernel, rfl, by decide +kernel, by decide +kernel⟩
theorem ok__law_pick (T : Top P w mg base G) : HasF P w G.K mg base "_law_pick" 2 (spI G 2 F__law_pick) := by
  obtain ⟨f, fd, F, hm⟩ := (T.t__law_pick).ex
  obtain ⟨f__law_taken, fd__law_taken, ps__law_taken, m__law_taken, k__law_taken, b__law_taken, o__law_taken⟩ := (ok__law_taken T).ex
  exact ⟨f, fd, ["_law_row", "_law_things"], hm, F.kp, (F.binds (ps := ["_law_row", "_law_things"]) fun _ _ _ _ _ _ us hl => match us, hl with | [_, _], _ => rfl), fni_ok (k := 1) F sc__law_pick rfl (by decide) fun A outer s H E hr => by
    have F0 : Fam (Cf P w G.K mg base ["_law_row", "_law_things"] "_law_pick" st__law_pick f fd A outer s H E) G (WF E) 1 := fam_of sc__law_pick rfl hr
    exact (dss_one (ds_ret (de_ix (fun i => or_ix (F0.K i)) od_ix (de_var 1 (fun _ => rfl) (fun _ => .inl rfl)) (de_fnI F0 (fun _ => o__law_taken) (by decide) (fun _ => rfl) (fun _ => .inl rfl) (fun _ => rfl) (fun _ => m__law_taken) k__law_taken b__law_taken (da_cons (de_callB (fun i => cr_lenG (F0.K i)) cd_len (fun _ => rfl) (fun _ => T.b_len) (by decide +kernel) (da_cons (de_var 1 (fun _ => rfl) (fun _ => .inl rfl)) da_nil)) da_nil)))))⟩
def fb__law_alike (F__law_alike : List PyData → Fr) : RS → Out := (sThen (sIf (tT (eIsi (fun d => isTupD d || isLstD d) (eVar 1))) (sThen (sIf (tOrD (tNotD (tT (eIsi (fun d => isTupD d || isLstD d) (eVar 0)))) (tV (eBin gNe (eIsi isLstD (eVar 0)) (eIsi isLstD (eVar 1))))) (sRet (eC (.bool false))) sNil)
  (sThen (sIf (tV (eBin gNe (eCall gLen (aConsD (eVar 0) aNilD)) (eCall gLen (aConsD (eVar 1) aNilD)))) (sRet (eC (.bool false))) sNil)
  (sRet (eBin gEq (eLc (iRng rng1 (aConsD (eCall gLen (aConsD (eVar 1) aNilD)) aNilD)) (setD 2) (tNotD (tT (eFn 2 F__law_alike (aConsD (eBin gIx (eVar 0) (eVar 2)) (aConsD (eBin gIx (eVar 1) (eVar 2)) aNilD))))) (eVar 2) [2]) (eLstD aNilD))))) sNil)
  (sThen (sIf (tOrD (tV (eBin (gIsN false) (eVar 1) (eC .none))) (tT (eIsi isStrD (eVar 1)))) (sRet (eAndD (eBin gEq (eVar 0) (eVar 1)) (eBin gEq (eIsi isStrD (eVar 0)) (eIsi isStrD (eVar 1))))) sNil)
  (sRet (eAndD (eIsi isIntD (eVar 0)) (eAndD (eBin gEq (eIsi isBoolD (eVar 0)) (eIsi isBoolD (eVar 1))) (eBin gEq (eVar 0) (eVar 1)))))))
def F__law_alike : Nat → List PyData → Fr
  | 0 => fun _ => .no
  | n + 1 => fnD 2 3 (fb__law_alike (F__law_alike n))
abbrev st__law_alike : Stmt := topS 32
theorem sc__law_alike : FnScope ["_law_found", "_law_due", "_law_k"] ["_law_found", "_law_due"] (defScope st__law_alike) := ⟨rfl, rfl, rfl, by decide +kernel, rfl, by decide +kernel, by decide +kernel⟩
theorem okr__law_alike (T : Top P w mg base G) : ∀ n : Nat, HasF P w G.K mg base "_law_alike" (1 + n) (spD G 2 (F__law_alike n)) := by
  obtain ⟨f, fd, F, hm⟩ := (T.t__law_alike).ex
  have b__law_alike : Binds G.K fd ["_law_found", "_law_due"] [] := (F.binds (ps := ["_law_found", "_law_due"]) fun _ _ _ _ _ _ us hl => match us, hl with | [_, _], _ => rfl)
  intro n
  induction n with
  | zero => exact ⟨f, fd, ["_law_found", "_law_due"], hm, F.kp, b__law_alike, fn_none F sc__law_alike⟩
  | succ n ih =>
    obtain ⟨f__law_alike, fd__law_alike, ps__law_alike, m__law_alike, k__law_alike, b2__law_alike, o__law_alike⟩ := ih
    exact ⟨f, fd, ["_law_found", "_law_due"], hm, F.kp, b__law_alike, fn_ok (k := 1 + n) F sc__law_alike rfl (by decide) fun A outer s H E hr => by
      have F0 : Fam (Cf P w G.K mg base ["_law_found", "_law_due", "_law_k"] "_law_alike" st__law_alike f fd A outer s H E) G (WF E) (1 + n) := fam_of sc__law_alike rfl hr
      exact (dss_cons (ds_if (dt_truth F0 (de_isi2 F0 kb_tup kb_lst (fun _ => rfl) (fun _ => T.b_isinstance) (fun _ => rfl) (fun _ => T.b_tuple) (by decide +kernel) (fun _ => rfl) (fun _ => T.b_list) (by decide +kernel) (de_var 1 (fun _ => rfl) (fun _ => .inr (.inl (by kernel_rfl)))))) (dss_cons (ds_if (DW.dt (dw_or (dt_not (dt_truth F0 (de_isi2 F0 kb_tup kb_lst (fun _ => rfl) (fun _ => T.b_isinstance) (fun _ => rfl) (fun _ => T.b_tuple) (by decide +kernel) (fun _ => rfl) (fun _ => T.b_list) (by decide +kernel) (de_var 0 (fun _ => rfl) (fun _ => .inr (.inl (by kernel_rfl))))))) (dw_or1 (dt_cmp (fun i => or_neG (F0.K i) (F0.hu4 i)) od_ne (de_isi F0 kb_lst (fun _ => rfl) (fun _ => T.b_isinstance) (fun _ => rfl) (fun _ => T.b_list) (by decide +kernel) (de_var 0 (fun _ => rfl) (fun _ => .inr (.inl (by kernel_rfl))))) (de_isi F0 kb_lst (fun _ => rfl) (fun _ => T.b_isinstance) (fun _ => rfl) (fun _ => T.b_list) (by decide +kernel) (de_var 1 (fun _ => rfl) (fun _ => .inr (.inl (by kernel_rfl))))) (by first | exact nomark _ | with_unfolding_all rfl))))) (dss_one (ds_ret de_bl)) dss_nil)
  (dss_cons (ds_if (dt_cmp (fun i => or_neG (F0.K i) (F0.hu4 i)) od_ne (de_callB (fun i => cr_lenG (F0.K i)) cd_len (fun _ => rfl) (fun _ => T.b_len) (by decide +kernel) (da_cons (de_var 0 (fun _ => rfl) (fun _ => .inr (.inl (by kernel_rfl)))) da_nil)) (de_callB (fun i => cr_lenG (F0.K i)) cd_len (fun _ => rfl) (fun _ => T.b_len) (by decide +kernel) (da_cons (de_var 1 (fun _ => rfl) (fun _ => .inr (.inl (by kernel_rfl)))) da_nil)) (by first | exact nomark _ | with_unfolding_all rfl)) (dss_one (ds_ret de_bl)) dss_nil)
  (dss_one (ds_ret (de_cmp (fun i => or_eqG (F0.K i) (F0.hu4 i)) od_eq (de_lc (own := [("_law_k", 2)]) F0 (di_rng1 (fun _ => rfl) (fun _ => T.b_range) (da_cons (de_callB (fun i => cr_lenG (F0.K i)) cd_len (fun _ => rfl) (fun _ => T.b_len) (by decide +kernel) (da_cons (de_var 1 (fun _ => rfl) (fun _ => .inr (.inl (by kernel_rfl)))) da_nil)) da_nil)) (fun _ => blkOk_by (by kernel_rfl)) (dg_name (famB F0) (fun _ => rfl) (fun _ => .inl rfl) (fun _ => by first | exact .inl rfl | exact .inr rfl)) (by decide) (dts_one (dt_not (dt_truth (famB F0) (de_fn (famB F0) (fun _ => o__law_alike) (by omega) (fun _ => rfl) (fun _ => m__law_alike) k__law_alike b2__law_alike (da_cons (de_ix (fun i => or_ix ((famB F0).K i)) od_ix (de_var 0 (fun _ => rfl) (fun _ => .inr (.inl (by kernel_rfl)))) (de_var 2 (fun _ => rfl) (fun _ => .inl rfl))) (da_cons (de_ix (fun i => or_ix ((famB F0).K i)) od_ix (de_var 1 (fun _ => rfl) (fun _ => .inr (.inl (by kernel_rfl)))) (de_var 2 (fun _ => rfl) (fun _ => .inl rfl))) da_nil)))))) (de_var 2 (fun _ => rfl) (fun _ => .inl rfl))) (de_lst da_nil) (by first | exact nomark _ | with_unfolding_all rfl)))))) dss_nil)
  (dss_cons (ds_if (DW.dt (dw_or (dt_cmp (fun _ => op_isN) od_isN (de_var 1 (fun _ => rfl) (fun _ => .inr (.inl (by kernel_rfl)))) de_non (by first | exact nomark _ | with_unfolding_all rfl)) (dw_or1 (dt_truth F0 (de_isi F0 kb_str (fun _ => rfl) (fun _ => T.b_isinstance) (fun _ => rfl) (fun _ => T.b_str) (by decide +kernel) (de_var 1 (fun _ => rfl) (fun _ => .inr (.inl (by kernel_rfl))))))))) (dss_one (ds_ret (de_and (de_cmp (fun i => or_eqG (F0.K i) (F0.hu4 i)) od_eq (de_var 0 (fun _ => rfl) (fun _ => .inr (.inl (by kernel_rfl)))) (de_var 1 (fun _ => rfl) (fun _ => .inr (.inl (by kernel_rfl)))) (by first | exact nomark _ | with_unfolding_all rfl)) (de_one (de_cmp (fun i => or_eqG (F0.K i) (F0.hu4 i)) od_eq (de_isi F0 kb_str (fun _ => rfl) (fun _ => T.b_isinstance) (fun _ => rfl) (fun _ => T.b_str) (by decide +kernel) (de_var 0 (fun _ => rfl) (fun _ => .inr (.inl (by kernel_rfl))))) (de_isi F0 kb_str (fun _ => rfl) (fun _ => T.b_isinstance) (fun _ => rfl) (fun _ => T.b_str) (by decide +kernel) (de_var 1 (fun _ => rfl) (fun _ => .inr (.inl (by kernel_rfl))))) (by first | exact nomark _ | with_unfolding_all rfl)))))) dss_nil)
  (dss_one (ds_ret (de_and (de_isi F0 kb_int (fun _ => rfl) (fun _ => T.b_isinstance) (fun _ => rfl) (fun _ => T.b_int) (by decide +kernel) (de_var 0 (fun _ => rfl) (fun _ => .inr (.inl (by kernel_rfl))))) (de_and (de_cmp (fun i => or_eqG (F0.K i) (F0.hu4 i)) od_eq (de_isi F0 kb_bool (fun _ => rfl) (fun _ => T.b_isinstance) (fun _ => rfl) (fun _ => T.b_bool) (by decide +kernel) (de_var 0 (fun _ => rfl) (fun _ => .inr (.inl (by kernel_rfl))))) (de_isi F0 kb_bool (fun _ => rfl) (fun _ => T.b_isinstance) (fun _ => rfl) (fun _ => T.b_bool) (by decide +kernel) (de_var 1 (fun _ => rfl) (fun _ => .inr (.inl (by kernel_rfl))))) (by first | exact nomark _ | with_unfolding_all rfl)) (de_one (de_cmp (fun i => or_eqG (F0.K i) (F0.hu4 i)) od_eq (de_var 0 (fun _ => rfl) (fun _ => .inr (.inl (by kernel_rfl)))) (de_var 1 (fun _ => rfl) (fun _ => .inr (.inl (by kernel_rfl)))) (by first | exact nomark _ | with_unfolding_all rfl)))))))))⟩
theorem ok__law_alike (T : Top P w mg base G) : HasF P w G.K mg base "_law_alike" 7 (spD G 2 (F__law_alike 6)) := okr__law_alike T 6
def fb__law_divisor : RS → Out := (sRet (eCall gMax (aConsD (eLc (iRng rng2 (aConsD (eC (.int 1)) (aConsD (eBin gAdd (eVar 0) (eC (.int 1))) aNilD))) (setD 2) (tAndD (tV (eBin gEq (eBin gMod (eVar 0) (eVar 2)) (eC (.int 0)))) (tV (eBin gEq (eBin gMod (eVar 1) (eVar 2)) (eC (.int 0))))) (eVar 2) [2]) aNilD)))
def F__law_divisor : List PyData → Fr := fnD 2 3 fb__law_divisor
abbrev st__law_divisor : Stmt := topS 33
theorem sc__law_divisor : FnScope ["_law_one", "_law_other", "_law_number"] ["_law_one", "_law_other"] (defScope st__law_divisor) := ⟨rfl, rfl, rfl, by decide +kernel, rfl, by decide +kernel, by decide +kernel⟩
theorem ok__law_divisor (T : Top P w mg base G) : HasF P w G.K mg base "_law_divisor" 1 (spD G 2 F__law_divisor) := by
  obtain ⟨f, fd, F, hm⟩ := (T.t__law_divisor).ex
  exact ⟨f, fd, ["_law_one", "_law_other"], hm, F.kp, (F.binds (ps := ["_law_one", "_law_other"]) fun _ _ _ _ _ _ us hl => match us, hl with | [_, _], _ => rfl), fn_ok (k := 0) F sc__law_divisor rfl (by decide) fun A outer s H E hr => by
    have F0 : Fam (Cf P w G.K mg base ["_law_one", "_law_other", "_law_number"] "_law_divisor" st__law_divisor f fd A outer s H E) G (WF E) 0 := fam_of sc__law_divisor rfl hr
    exact (dss_one (ds_ret (de_callB (fun i => cr_maxG (F0.K i) (F0.calm i)) cd_max (fun _ => rfl) (fun _ => T.b_max) (by decide +kernel) (da_cons (de_lc (own := [("_law_number", 2)]) F0 (di_rng2 (fun _ => rfl) (fun _ => T.b_range) (da_cons de_int (da_cons (de_bin (fun i => or_addG (F0.K i)) od_add (de_var 0 (fun _ => rfl) (fun _ => .inr (.inl (by kernel_rfl)))) de_int) da_nil))) (fun _ => blkOk_by (by kernel_rfl)) (dg_name (famB F0) (fun _ => rfl) (fun _ => .inl rfl) (fun _ => by first | exact .inl rfl | exact .inr rfl)) (by decide) (dts_one (DW.dt (dw_and (dt_cmp (fun i => or_eqG ((famB F0).K i) ((famB F0).hu4 i)) od_eq (de_bin (fun _ => op_mod) od_mod (de_var 0 (fun _ => rfl) (fun _ => .inr (.inl (by kernel_rfl)))) (de_var 2 (fun _ => rfl) (fun _ => .inl rfl))) de_int (by first | exact nomark _ | with_unfolding_all rfl)) (dw_and1 (dt_cmp (fun i => or_eqG ((famB F0).K i) ((famB F0).hu4 i)) od_eq (de_bin (fun _ => op_mod) od_mod (de_var 1 (fun _ => rfl) (fun _ => .inr (.inl (by kernel_rfl)))) (de_var 2 (fun _ => rfl) (fun _ => .inl rfl))) de_int (by first | exact nomark _ | with_unfolding_all rfl)))))) (de_var 2 (fun _ => rfl) (fun _ => .inl rfl))) da_nil))))⟩
def fb__law_factors : RS → Out := (sRet (eLc (iRng rng2 (aConsD (eC (.int 1)) (aConsD (eVar 0) aNilD))) (setD 1) (tV (eBin gEq (eFn 2 F__law_divisor (aConsD (eVar 1) (aConsD (eVar 0) aNilD))) (eC (.int 1)))) (eVar 1) [1]))
def F__law_factors : List PyData → Fr := fnD 1 2 fb__law_factors
abbrev st__law_factors : Stmt := topS 34
theorem sc__law_factors : FnScope ["_law_halls", "_law_one"] ["_law_halls"] (defScope st__law_factors) := ⟨rfl, rfl, rfl, by decide +kernel, rfl, by decide +kernel, by decide +kernel⟩
theorem ok__law_factors (T : Top P w mg base G) : HasF P w G.K mg base "_law_factors" 2 (spD G 1 F__law_factors) := by
  obtain ⟨f, fd, F, hm⟩ := (T.t__law_factors).ex
  obtain ⟨f__law_divisor, fd__law_divisor, ps__law_divisor, m__law_divisor, k__law_divisor, b__law_divisor, o__law_divisor⟩ := (ok__law_divisor T).ex
  exact ⟨f, fd, ["_law_halls"], hm, F.kp, (F.binds (ps := ["_law_halls"]) fun _ _ _ _ _ _ us hl => match us, hl with | [_], _ => rfl), fn_ok (k := 1) F sc__law_factors rfl (by decide) fun A outer s H E hr => by
    have F0 : Fam (Cf P w G.K mg base ["_law_halls", "_law_one"] "_law_factors" st__law_factors f fd A outer s H E) G (WF E) 1 := fam_of sc__law_factors rfl hr
    exact (dss_one (ds_ret (de_lc (own := [("_law_one", 1)]) F0 (di_rng2 (fun _ => rfl) (fun _ => T.b_range) (da_cons de_int (da_cons (de_var 0 (fun _ => rfl) (fun _ => .inr (.inl (by kernel_rfl)))) da_nil))) (fun _ => blkOk_by (by kernel_rfl)) (dg_name (famB F0) (fun _ => rfl) (fun _ => .inl rfl) (fun _ => by first | exact .inl rfl | exact .inr rfl)) (by decide) (dts_one (dt_cmp (fun i => or_eqG ((famB F0).K i) ((famB F0).hu4 i)) od_eq (de_fn (famB F0) (fun _ => o__law_divisor) (by decide) (fun _ => rfl) (fun _ => m__law_divisor) k__law_divisor b__law_divisor (da_cons (de_var 1 (fun _ => rfl) (fun _ => .inl rfl)) (da_cons (de_var 0 (fun _ => rfl) (fun _ => .inr (.inl (by kernel_rfl)))) da_nil))) de_int (by first | exact nomark _ | with_unfolding_all rfl))) (de_var 1 (fun _ => rfl) (fun _ => .inl rfl)))))⟩
def fb__law_times : RS → Out := (sRet (eTupD (aConsD (eBin gIx (eVar 0) (eC (.int 0))) (aConsD (eCall gTupOf (aConsD (eCall gSorted (aConsD (eLc (iSeq (eBin gIx (eVar 0) (eC (.int 1)))) (setD 2) tYesD (eBin gMod (eBin gMul (eVar 2) (eVar 1)) (eBin gIx (eVar 0) (eC (.int 0)))) [2]) aNilD)) aNilD)) aNilD))))
def F__law_times : List PyData → Fr := fnD 2 3 fb__law_times
abbrev st__law_times : Stmt := topS 35
theorem sc__law_times : FnScope ["_law_web_here", "_law_factor", "_law_step"] ["_law_web_here", "_law_factor"] (defScope st__law_times) := ⟨rfl, rfl, rfl, by decide +kernel, rfl, by decide +kernel, by decide +kernel⟩
theorem ok__law_times (T : Top P w mg base G) : HasF P w G.K mg base "_law_times" 1 (spD G 2 F__law_times) := by
  obtain ⟨f, fd, F, hm⟩ := (T.t__law_times).ex
  exact ⟨f, fd, ["_law_web_here", "_law_factor"], hm, F.kp, (F.binds (ps := ["_law_web_here", "_law_factor"]) fun _ _ _ _ _ _ us hl => match us, hl with | [_, _], _ => rfl), fn_ok (k := 0) F sc__law_times rfl (by decide) fun A outer s H E hr => by
    have F0 : Fam (Cf P w G.K mg base ["_law_web_here", "_law_factor", "_law_step"] "_law_times" st__law_times f fd A outer s H E) G (WF E) 0 := fam_of sc__law_times rfl hr
    exact (dss_one (ds_ret (de_tup (da_cons (de_ix (fun i => or_ix (F0.K i)) od_ix (de_var 0 (fun _ => rfl) (fun _ => .inr (.inl (by kernel_rfl)))) de_int) (da_cons (de_callTy (fun i => cr_tupOf (F0.K i)) cd_tupOf (fun _ => rfl) (fun _ => T.b_tuple) (by decide +kernel) (da_cons (de_callB (fun i => cr_sortG (F0.K i) (F0.hu4 i)) cd_sorted (fun _ => rfl) (fun _ => T.b_sorted) (by decide +kernel) (da_cons (de_lc (own := [("_law_step", 2)]) F0 (di_seq F0 (de_ix (fun i => or_ix (F0.K i)) od_ix (de_var 0 (fun _ => rfl) (fun _ => .inr (.inl (by kernel_rfl)))) de_int)) (fun _ => blkOk_by (by kernel_rfl)) (dg_name (famB F0) (fun _ => rfl) (fun _ => .inl rfl) (fun _ => by first | exact .inl rfl | exact .inr rfl)) (by decide) dts_nil (de_bin (fun _ => op_mod) od_mod (de_bin (fun i => or_mulG ((famB F0).K i)) od_mul (de_var 2 (fun _ => rfl) (fun _ => .inl rfl)) (de_var 1 (fun _ => rfl) (fun _ => .inr (.inl (by kernel_rfl))))) (de_ix (fun i => or_ix ((famB F0).K i)) od_ix (de_var 0 (fun _ => rfl) (fun _ => .inr (.inl (by kernel_rfl)))) de_int))) da_nil)) da_nil)) da_nil)))))⟩
def fb__law_web : RS → Out := (sThen (sAsg (eBin gAdd (eC (.int 2)) (eFnI 0 2 F__law_taken (aConsD (eBin gSub (eVar 1) (eC (.int 1))) aNilD))) (setD 2))
  (sThen (sAsg (eLc (iRng rng2 (aConsD (eC (.int 1)) (aConsD (eVar 2) aNilD))) (setD 4) (tV (eBin gEq (eFnI 0 2 F__law_taken (aConsD (eC (.int 2)) aNilD)) (eC (.int 0)))) (eVar 4) [4]) (setD 3))
  (sThen (sIf (tV (eBin gEq (eFnI 0 2 F__law_taken (aConsD (eC (.int 3)) aNilD)) (eC (.int 0)))) (sAsg (eLc (iRng rng2 (aConsD (eC (.int 1)) (aConsD (eVar 2) aNilD))) (setD 4) (tOrD (tV (eBin (gInG false) (eVar 4) (eVar 3))) (tV (eBin (gInG false) (eBin gSub (eVar 2) (eVar 4)) (eVar 3)))) (eVar 4) [4]) (setD 3)) sNil)
  (sRet (eTupD (aConsD (eVar 2) (aConsD (eCall gTupOf (aConsD (eVar 3) aNilD)) aNilD)))))))
def F__law_web : List PyData → List PyData → Fi := fnI 2 5 fb__law_web
abbrev st__law_web : Stmt := topS 36
theorem sc__law_web : FnScope ["_law_row", "_law_most", "_law_halls", "_law_steps", "_law_step"] ["_law_row", "_law_most"] (defScope st__law_web) := ⟨rfl, rfl, rfl, by decide +kernel, rfl, by decide +kernel, by decide +kernel⟩
theorem ok__law_web (T : Top P w mg base G) : HasF P w G.K mg base "_law_web" 2 (spI G 2 F__law_web) := by
  obtain ⟨f, fd, F, hm⟩ := (T.t__law_web).ex
  obtain ⟨f__law_taken, fd__law_taken, ps__law_taken, m__law_taken, k__law_taken, b__law_taken, o__law_taken⟩ := (ok__law_taken T).ex
  exact ⟨f, fd, ["_law_row", "_law_most"], hm, F.kp, (F.binds (ps := ["_law_row", "_law_most"]) fun _ _ _ _ _ _ us hl => match us, hl with | [_, _], _ => rfl), fni_ok (k := 1) F sc__law_web rfl (by decide) fun A outer s H E hr => by
    have F0 : Fam (Cf P w G.K mg base ["_law_row", "_law_most", "_law_halls", "_law_steps", "_law_step"] "_law_web" st__law_web f fd A outer s H E) G (WF E) 1 := fam_of sc__law_web rfl hr
    exact (dss_cons (ds_set F0 (fun _ => rfl) (fun _ => .inr rfl) (fun _ => by first | exact .inl rfl | exact .inr rfl) (de_bin (fun i => or_addG (F0.K i)) od_add de_int (de_fnI F0 (fun _ => o__law_taken) (by decide) (fun _ => rfl) (fun _ => .inr (.inl (by kernel_rfl))) (fun _ => rfl) (fun _ => m__law_taken) k__law_taken b__law_taken (da_cons (de_bin (fun _ => op_sub) od_sub (de_var 1 (fun _ => rfl) (fun _ => .inl rfl)) de_int) da_nil))))
  (dss_cons (ds_set F0 (fun _ => rfl) (fun _ => .inr rfl) (fun _ => by first | exact .inl rfl | exact .inr rfl) (de_lc (own := [("_law_step", 4)]) F0 (di_rng2 (fun _ => rfl) (fun _ => T.b_range) (da_cons de_int (da_cons (de_var 2 (fun _ => rfl) (fun _ => .inr (.inl (by kernel_rfl)))) da_nil))) (fun _ => blkOk_by (by kernel_rfl)) (dg_name (famB F0) (fun _ => rfl) (fun _ => .inl rfl) (fun _ => by first | exact .inl rfl | exact .inr rfl)) (by decide) (dts_one (dt_cmp (fun i => or_eqG ((famB F0).K i) ((famB F0).hu4 i)) od_eq (de_fnI (famB F0) (fun _ => o__law_taken) (by decide) (fun _ => rfl) (fun _ => .inr (.inl (by kernel_rfl))) (fun _ => rfl) (fun _ => m__law_taken) k__law_taken b__law_taken (da_cons de_int da_nil)) de_int (by first | exact nomark _ | with_unfolding_all rfl))) (de_var 4 (fun _ => rfl) (fun _ => .inl rfl))))
  (dss_cons (ds_if (dt_cmp (fun i => or_eqG (F0.K i) (F0.hu4 i)) od_eq (de_fnI F0 (fun _ => o__law_taken) (by decide) (fun _ => rfl) (fun _ => .inr (.inl (by kernel_rfl))) (fun _ => rfl) (fun _ => m__law_taken) k__law_taken b__law_taken (da_cons de_int da_nil)) de_int (by first | exact nomark _ | with_unfolding_all rfl)) (dss_one (ds_set F0 (fun _ => rfl) (fun _ => .inr rfl) (fun _ => by first | exact .inl rfl | exact .inr rfl) (de_lc (own := [("_law_step", 4)]) F0 (di_rng2 (fun _ => rfl) (fun _ => T.b_range) (da_cons de_int (da_cons (de_var 2 (fun _ => rfl) (fun _ => .inr (.inl (by kernel_rfl)))) da_nil))) (fun _ => blkOk_by (by kernel_rfl)) (dg_name (famB F0) (fun _ => rfl) (fun _ => .inl rfl) (fun _ => by first | exact .inl rfl | exact .inr rfl)) (by decide) (dts_one (DW.dt (dw_or (dt_cmp (or_inG' (famB F0)) od_inG' (de_var 4 (fun _ => rfl) (fun _ => .inl rfl)) (de_var 3 (fun _ => rfl) (fun _ => .inr (.inl (by kernel_rfl)))) (by first | exact nomark _ | with_unfolding_all rfl)) (dw_or1 (dt_cmp (or_inG' (famB F0)) od_inG' (de_bin (fun _ => op_sub) od_sub (de_var 2 (fun _ => rfl) (fun _ => .inr (.inl (by kernel_rfl)))) (de_var 4 (fun _ => rfl) (fun _ => .inl rfl))) (de_var 3 (fun _ => rfl) (fun _ => .inr (.inl (by kernel_rfl)))) (by first | exact nomark _ | with_unfolding_all rfl)))))) (de_var 4 (fun _ => rfl) (fun _ => .inl rfl))))) dss_nil)
  (dss_one (ds_ret (de_tup (da_cons (de_var 2 (fun _ => rfl) (fun _ => .inr (.inl (by kernel_rfl)))) (da_cons (de_callTy (fun i => cr_tupOf (F0.K i)) cd_tupOf (fun _ => rfl) (fun _ => T.b_tuple) (by decide +kernel) (da_cons (de_var 3 (fun _ => rfl) (fun _ => .inr (.inl (by kernel_rfl)))) da_nil)) da_nil))))))))⟩
def fb__law_ways : RS → Out := (sThen (sAsg (eLstD aNilD) (setD 1))
  (sThen (sFor (iRng rng1 (aConsD (eBin gIx (eVar 0) (eC (.int 0))) aNilD)) (setD 2) (sAsg (eBin gAdd (eVar 1) (eLc (iSeq (eBin gIx (eVar 0) (eC (.int 1)))) (setD 3) tYesD (eTupD (aConsD (eVar 2) (aConsD (eBin gMod (eBin gAdd (eVar 2) (eVar 3)) (eBin gIx (eVar 0) (eC (.int 0)))) aNilD))) [3])) (setD 1)))
  (sRet (eCall gSorted (aConsD (eVar 1) aNilD)))))
def F__law_ways : List PyData → Fr := fnD 1 4 fb__law_ways
abbrev st__law_ways : Stmt := topS 37
theorem sc__law_ways : FnScope ["_law_web_here", "_law_found", "_law_hall", "_law_step"] ["_law_web_here"] (defScope st__law_ways) := ⟨rfl, rfl, rfl, by decide +kernel, rfl, by decide +kernel, by decide +kernel⟩
theorem ok__law_ways (T : Top P w mg base G) : HasF P w G.K mg base "_law_ways" 1 (spD G 1 F__law_ways) := by
  obtain ⟨f, fd, F, hm⟩ := (T.t__law_ways).ex
  exact ⟨f, fd, ["_law_web_here"], hm, F.kp, (F.binds (ps := ["_law_web_here"]) fun _ _ _ _ _ _ us hl => match us, hl with | [_], _ => rfl), fn_ok (k := 0) F sc__law_ways rfl (by decide) fun A outer s H E hr => by
    have F0 : Fam (Cf P w G.K mg base ["_law_web_here", "_law_found", "_law_hall", "_law_step"] "_law_ways" st__law_ways f fd A outer s H E) G (WF E) 0 := fam_of sc__law_ways rfl hr
    exact (dss_cons (ds_set F0 (fun _ => rfl) (fun _ => .inl rfl) (fun _ => by first | exact .inl rfl | exact .inr rfl) (de_lst da_nil))
  (dss_cons (ds_for F0 owns_of (di_rng1 (fun _ => rfl) (fun _ => T.b_range) (da_cons (de_ix (fun i => or_ix (F0.K i)) od_ix (de_var 0 (fun _ => rfl) (fun _ => .inr (.inl (by kernel_rfl)))) de_int) da_nil)) (dg_name F0 (fun _ => rfl) (fun _ => .inr rfl) (fun _ => by first | exact .inl rfl | exact .inr rfl)) (dss_one (ds_set F0 (fun _ => rfl) (fun _ => .inl rfl) (fun _ => by first | exact .inl rfl | exact .inr rfl) (de_bin (fun i => or_addG (F0.K i)) od_add (de_var 1 (fun _ => rfl) (fun _ => .inl rfl)) (de_lc (own := [("_law_step", 3)]) F0 (di_seq F0 (de_ix (fun i => or_ix (F0.K i)) od_ix (de_var 0 (fun _ => rfl) (fun _ => .inr (.inl (by kernel_rfl)))) de_int)) (fun _ => blkOk_by (by kernel_rfl)) (dg_name (famB F0) (fun _ => rfl) (fun _ => .inl rfl) (fun _ => by first | exact .inl rfl | exact .inr rfl)) (by decide) dts_nil (de_tup (da_cons (de_var 2 (fun _ => rfl) (fun _ => .inr (.inl (by kernel_rfl)))) (da_cons (de_bin (fun _ => op_mod) od_mod (de_bin (fun i => or_addG ((famB F0).K i)) od_add (de_var 2 (fun _ => rfl) (fun _ => .inr (.inl (by kernel_rfl)))) (de_var 3 (fun _ => rfl) (fun _ => .inl rfl))) (de_ix (fun i => or_ix ((famB F0).K i)) od_ix (de_var 0 (fun _ => rfl) (fun _ => .inr (.inl (by kernel_rfl)))) de_int)) da_nil))))))))
  (dss_one (ds_ret (de_callB (fun i => cr_sortG (F0.K i) (F0.hu4 i)) cd_sorted (fun _ => rfl) (fun _ => T.b_sorted) (by decide +kernel) (da_cons (de_var 1 (fun _ => rfl) (fun _ => .inl rfl)) da_nil))))))⟩
def fb_law : RS → Out := (sThen (sOwnL 1 (aConsD (eVar 0) (aConsD (eC (.int 0)) (aConsD (eC (.int 5801)) (aConsD (eC (.int 0)) aNilD)))))
  (sThen (sAsg (eFnI 1 2 F__law_web (aConsD (eC (.int 13)) aNilD)) (setD 2))
  (sThen (sAsg (eVar 2) (setTup 2 (setCons (setD 3) (setCons (setD 4) setNil))))
  (sThen (sAsg (eFn 1 F__law_factors (aConsD (eVar 3) aNilD)) (setD 5))
  (sThen (sIf (tOrD (tV (eBin (gIsB true) (eFn 1 F_is_web (aConsD (eVar 2) aNilD)) (eC (.bool true)))) (tNotD (tT (eFn 2 (F__law_alike 6) (aConsD (eFn 1 F_factors (aConsD (eVar 3) aNilD)) (aConsD (eCall gTupOf (aConsD (eVar 5) aNilD)) aNilD)))))) (sRet (eC (.bool false))) sNil)
  (sThen (sAsg (eCall gSortSet (aConsD (eLc (iSeq (eVar 5)) (setD 7) tYesD (eFn 2 F__law_times (aConsD (eVar 2) (aConsD (eVar 7) aNilD))) [7]) aNilD)) (setD 6))
  (sThen (sIf (tNotD (tT (eFn 2 (F__law_alike 6) (aConsD (eLstD (aConsD (eFn 1 F_multiples (aConsD (eVar 2) aNilD)) (aConsD (eFn 1 F_least_multiple (aConsD (eVar 2) aNilD)) aNilD))) (aConsD (eLstD (aConsD (eCall gTupOf (aConsD (eVar 6) aNilD)) (aConsD (eBin gIx (eVar 6) (eC (.int 0))) aNilD))) aNilD))))) (sRet (eC (.bool false))) sNil)
  (sThen (sAsg (eFnI 1 2 F__law_pick (aConsD (eVar 5) aNilD)) (setD 7))
  (sThen (sIf (tNotD (tT (eFn 2 (F__law_alike 6) (aConsD (eFn 2 F_times (aConsD (eVar 2) (aConsD (eVar 7) aNilD))) (aConsD (eFn 2 F__law_times (aConsD (eVar 2) (aConsD (eVar 7) aNilD))) aNilD))))) (sRet (eC (.bool false))) sNil)
  (sThen (sAsg (eCall gTupOf (aConsD (eLc (iRng rng2 (aConsD (eC (.int 1)) (aConsD (eVar 3) aNilD))) (setD 12) (tV (eBin gEq (eFnI 1 2 F__law_taken (aConsD (eC (.int 2)) aNilD)) (eC (.int 0)))) (eVar 12) [12]) aNilD)) (setD 8))
  (sThen (sAsg (eTupD (aConsD (eVar 3) (aConsD (eFnI 1 2 F__law_pick (aConsD (eLstD (aConsD (eBin gIx (eBin gIx (eVar 6) (eNegD (eC (.int 1)))) (eC (.int 1))) (aConsD (eVar 4) (aConsD (eVar 8) aNilD)))) aNilD)) aNilD))) (setD 9))
  (sThen (sIf (tNotD (tT (eFn 2 (F__law_alike 6) (aConsD (eFn 2 F_are_multiples (aConsD (eVar 2) (aConsD (eVar 9) aNilD))) (aConsD (eBin (gInG false) (eVar 9) (eVar 6)) aNilD))))) (sRet (eC (.bool false))) sNil)
  (sThen (sIf (tV (eBin gNe (eFn 2 F_are_multiples (aConsD (eVar 9) (aConsD (eVar 2) aNilD))) (eFn 2 F_are_multiples (aConsD (eVar 2) (aConsD (eVar 9) aNilD))))) (sRet (eC (.bool false))) sNil)
  (sThen (sAsg (eTupD (aConsD (eVar 3) (aConsD (eCall gTupOf (aConsD (eLc (iRng rng2 (aConsD (eC (.int 1)) (aConsD (eVar 3) aNilD))) (setD 12) (tV (eBin (gInG false) (eBin gSub (eVar 3) (eVar 12)) (eVar 4))) (eVar 12) [12]) aNilD)) aNilD))) (setD 10))
  (sThen (sIf (tNotD (tT (eFn 2 (F__law_alike 6) (aConsD (eLstD (aConsD (eFn 1 F_turned (aConsD (eVar 2) aNilD)) (aConsD (eFn 1 F_is_two_way (aConsD (eVar 2) aNilD)) aNilD))) (aConsD (eLstD (aConsD (eVar 10) (aConsD (eBin gEq (eVar 10) (eVar 2)) aNilD))) aNilD))))) (sRet (eC (.bool false))) sNil)
  (sThen (sAsg (eCall gTupOf (aConsD (eFn 1 F__law_ways (aConsD (eVar 2) aNilD)) aNilD)) (setD 11))
  (sRet (eFn 2 (F__law_alike 6) (aConsD (eLstD (aConsD (eFn 1 F_ways (aConsD (eVar 2) aNilD)) (aConsD (eFn 1 F_net_of (aConsD (eVar 2) aNilD)) (aConsD (eFn 1 F_is_net (aConsD (eFn 1 F_net_of (aConsD (eVar 2) aNilD)) aNilD)) aNilD)))) (aConsD (eLstD (aConsD (eVar 11) (aConsD (eTupD (aConsD (eVar 3) (aConsD (eVar 11) aNilD))) (aConsD (eC (.bool true)) aNilD)))) aNilD))))))))))))))))))))
def F_law : List PyData → Fr := fnD 1 13 fb_law
abbrev st_law : Stmt := topS 38
theorem sc_law : FnScope ["_law_script", "_law_row", "_law_web_here", "_law_halls", "_law_steps", "_law_some", "_law_due", "_law_factor", "_law_drawn", "_law_other", "_law_back", "_law_lines", "_law_step"] ["_law_script"] (defScope st_law) := ⟨rfl, rfl, rfl, by decide +kernel, rfl, by decide +kernel, by decide +kernel⟩
theorem okf_law (T : Top P w mg base G) {f : Addr} {fd : FuncData} (F : Fun G.K "law" "law" st_law f fd) : FnOk P w G.K mg base (L2.CX P w) 8 f fd ["_law_script"] (spD G 1 F_law) := by
  obtain ⟨f__law_web, fd__law_web, ps__law_web, m__law_web, k__law_web, b__law_web, o__law_web⟩ := (ok__law_web T).ex
  obtain ⟨f__law_factors, fd__law_factors, ps__law_factors, m__law_factors, k__law_factors, b__law_factors, o__law_factors⟩ := (ok__law_factors T).ex
  obtain ⟨f__law_alike, fd__law_alike, ps__law_alike, m__law_alike, k__law_alike, b__law_alike, o__law_alike⟩ := (ok__law_alike T).ex
  obtain ⟨f_factors, fd_factors, ps_factors, m_factors, k_factors, b_factors, o_factors⟩ := (ok_factors T).ex
  obtain ⟨f_is_web, fd_is_web, ps_is_web, m_is_web, k_is_web, b_is_web, o_is_web⟩ := (ok_is_web T).ex
  obtain ⟨f__law_times, fd__law_times, ps__law_times, m__law_times, k__law_times, b__law_times, o__law_times⟩ := (ok__law_times T).ex
  obtain ⟨f_least_multiple, fd_least_multiple, ps_least_multiple, m_least_multiple, k_least_multiple, b_least_multiple, o_least_multiple⟩ := (ok_least_multiple T).ex
  obtain ⟨f_multiples, fd_multiples, ps_multiples, m_multiples, k_multiples, b_multiples, o_multiples⟩ := (ok_multiples T).ex
  obtain ⟨f__law_pick, fd__law_pick, ps__law_pick, m__law_pick, k__law_pick, b__law_pick, o__law_pick⟩ := (ok__law_pick T).ex
  obtain ⟨f_times, fd_times, ps_times, m_times, k_times, b_times, o_times⟩ := (ok_times T).ex
  obtain ⟨f__law_taken, fd__law_taken, ps__law_taken, m__law_taken, k__law_taken, b__law_taken, o__law_taken⟩ := (ok__law_taken T).ex
  obtain ⟨f_are_multiples, fd_are_multiples, ps_are_multiples, m_are_multiples, k_are_multiples, b_are_multiples, o_are_multiples⟩ := (ok_are_multiples T).ex
  obtain ⟨f_is_two_way, fd_is_two_way, ps_is_two_way, m_is_two_way, k_is_two_way, b_is_two_way, o_is_two_way⟩ := (ok_is_two_way T).ex
  obtain ⟨f_turned, fd_turned, ps_turned, m_turned, k_turned, b_turned, o_turned⟩ := (ok_turned T).ex
  obtain ⟨f__law_ways, fd__law_ways, ps__law_ways, m__law_ways, k__law_ways, b__law_ways, o__law_ways⟩ := (ok__law_ways T).ex
  obtain ⟨f_is_net, fd_is_net, ps_is_net, m_is_net, k_is_net, b_is_net, o_is_net⟩ := (ok_is_net T).ex
  obtain ⟨f_net_of, fd_net_of, ps_net_of, m_net_of, k_net_of, b_net_of, o_net_of⟩ := (ok_net_of T).ex
  obtain ⟨f_ways, fd_ways, ps_ways, m_ways, k_ways, b_ways, o_ways⟩ := (ok_ways T).ex
  exact fn_ok (k := 7) F sc_law rfl (by decide) fun A outer s H E hr => by
    have F0 : Fam (Cf P w G.K mg base ["_law_script", "_law_row", "_law_web_here", "_law_halls", "_law_steps", "_law_some", "_law_due", "_law_factor", "_law_drawn", "_law_other", "_law_back", "_law_lines", "_law_step"] "law" st_law f fd A outer s H E) G (WF E) 7 := fam_of sc_law rfl hr
    exact (dss_cons (ds_ownL F0 (fun _ => rfl) (fun _ => .inr rfl) (fun _ => by first | exact .inl rfl | exact .inr rfl) (da_cons (de_var 0 (fun _ => rfl) (fun _ => .inl rfl)) (da_cons de_int (da_cons de_int (da_cons de_int da_nil)))))
  (dss_cons (ds_set F0 (fun _ => rfl) (fun _ => .inr rfl) (fun _ => by first | exact .inl rfl | exact .inr rfl) (de_fnI F0 (fun _ => o__law_web) (by decide) (fun _ => rfl) (fun _ => .inr (.inl (by kernel_rfl))) (fun _ => rfl) (fun _ => m__law_web) k__law_web b__law_web (da_cons de_int da_nil)))
  (dss_cons (ds_asg (de_var 2 (fun _ => rfl) (fun _ => .inr (.inl (by kernel_rfl)))) (dg_tup F0 (dgs_cons (dg_name F0 (fun _ => rfl) (fun _ => .inr rfl) (fun _ => by first | exact .inl rfl | exact .inr rfl)) (dgs_cons (dg_name F0 (fun _ => rfl) (fun _ => .inr rfl) (fun _ => by first | exact .inl rfl | exact .inr rfl)) dgs_nil))))
  (dss_cons (ds_set F0 (fun _ => rfl) (fun _ => .inl rfl) (fun _ => by first | exact .inl rfl | exact .inr rfl) (de_fn F0 (fun _ => o__law_factors) (by decide) (fun _ => rfl) (fun _ => m__law_factors) k__law_factors b__law_factors (da_cons (de_var 3 (fun _ => rfl) (fun _ => .inr (.inl (by kernel_rfl)))) da_nil)))
  (dss_cons (ds_if (DW.dt (dw_or (dt_cmp (fun _ => op_notBl) od_notB (de_fn F0 (fun _ => o_is_web) (by decide) (fun _ => rfl) (fun _ => m_is_web) k_is_web b_is_web (da_cons (de_var 2 (fun _ => rfl) (fun _ => .inr (.inl (by kernel_rfl)))) da_nil)) de_bl (by first | exact nomark _ | with_unfolding_all rfl)) (dw_or1 (dt_not (dt_truth F0 (de_fn F0 (fun _ => o__law_alike) (by decide) (fun _ => rfl) (fun _ => m__law_alike) k__law_alike b__law_alike (da_cons (de_fn F0 (fun _ => o_factors) (by decide) (fun _ => rfl) (fun _ => m_factors) k_factors b_factors (da_cons (de_var 3 (fun _ => rfl) (fun _ => .inr (.inl (by kernel_rfl)))) da_nil)) (da_cons (de_callTy (fun i => cr_tupOf (F0.K i)) cd_tupOf (fun _ => rfl) (fun _ => T.b_tuple) (by decide +kernel) (da_cons (de_var 5 (fun _ => rfl) (fun _ => .inl rfl)) da_nil)) da_nil)))))))) (dss_one (ds_ret de_bl)) dss_nil)
  (dss_cons (ds_set F0 (fun _ => rfl) (fun _ => .inl rfl) (fun _ => by first | exact .inl rfl | exact .inr rfl) (de_sortSet F0 (fun _ => rfl) (fun _ => rfl) (fun _ => T.b_sorted) (fun _ => rfl) (fun _ => T.b_set) (da_cons (de_lc (own := [("_law_factor", 7)]) F0 (di_seq F0 (de_var 5 (fun _ => rfl) (fun _ => .inl rfl))) (fun _ => blkOk_by (by kernel_rfl)) (dg_name (famB F0) (fun _ => rfl) (fun _ => .inl rfl) (fun _ => by first | exact .inl rfl | exact .inr rfl)) (by decide) dts_nil (de_fn (famB F0) (fun _ => o__law_times) (by decide) (fun _ => rfl) (fun _ => m__law_times) k__law_times b__law_times (da_cons (de_var 2 (fun _ => rfl) (fun _ => .inr (.inl (by kernel_rfl)))) (da_cons (de_var 7 (fun _ => rfl) (fun _ => .inl rfl)) da_nil)))) da_nil)))
  (dss_cons (ds_if (dt_not (dt_truth F0 (de_fn F0 (fun _ => o__law_alike) (by decide) (fun _ => rfl) (fun _ => m__law_alike) k__law_alike b__law_alike (da_cons (de_lst (da_cons (de_fn F0 (fun _ => o_multiples) (by decide) (fun _ => rfl) (fun _ => m_multiples) k_multiples b_multiples (da_cons (de_var 2 (fun _ => rfl) (fun _ => .inr (.inl (by kernel_rfl)))) da_nil)) (da_cons (de_fn F0 (fun _ => o_least_multiple) (by decide) (fun _ => rfl) (fun _ => m_least_multiple) k_least_multiple b_least_multiple (da_cons (de_var 2 (fun _ => rfl) (fun _ => .inr (.inl (by kernel_rfl)))) da_nil)) da_nil))) (da_cons (de_lst (da_cons (de_callTy (fun i => cr_tupOf (F0.K i)) cd_tupOf (fun _ => rfl) (fun _ => T.b_tuple) (by decide +kernel) (da_cons (de_var 6 (fun _ => rfl) (fun _ => .inl rfl)) da_nil)) (da_cons (de_ix (fun i => or_ix (F0.K i)) od_ix (de_var 6 (fun _ => rfl) (fun _ => .inl rfl)) de_int) da_nil))) da_nil))))) (dss_one (ds_ret de_bl)) dss_nil)
  (dss_cons (ds_set F0 (fun _ => rfl) (fun _ => .inl rfl) (fun _ => by first | exact .inl rfl | exact .inr rfl) (de_fnI F0 (fun _ => o__law_pick) (by decide) (fun _ => rfl) (fun _ => .inr (.inl (by kernel_rfl))) (fun _ => rfl) (fun _ => m__law_pick) k__law_pick b__law_pick (da_cons (de_var 5 (fun _ => rfl) (fun _ => .inl rfl)) da_nil)))
  (dss_cons (ds_if (dt_not (dt_truth F0 (de_fn F0 (fun _ => o__law_alike) (by decide) (fun _ => rfl) (fun _ => m__law_alike) k__law_alike b__law_alike (da_cons (de_fn F0 (fun _ => o_times) (by decide) (fun _ => rfl) (fun _ => m_times) k_times b_times (da_cons (de_var 2 (fun _ => rfl) (fun _ => .inr (.inl (by kernel_rfl)))) (da_cons (de_var 7 (fun _ => rfl) (fun _ => .inl rfl)) da_nil))) (da_cons (de_fn F0 (fun _ => o__law_times) (by decide) (fun _ => rfl) (fun _ => m__law_times) k__law_times b__law_times (da_cons (de_var 2 (fun _ => rfl) (fun _ => .inr (.inl (by kernel_rfl)))) (da_cons (de_var 7 (fun _ => rfl) (fun _ => .inl rfl)) da_nil))) da_nil))))) (dss_one (ds_ret de_bl)) dss_nil)
  (dss_cons (ds_set F0 (fun _ => rfl) (fun _ => .inl rfl) (fun _ => by first | exact .inl rfl | exact .inr rfl) (de_callTy (fun i => cr_tupOf (F0.K i)) cd_tupOf (fun _ => rfl) (fun _ => T.b_tuple) (by decide +kernel) (da_cons (de_lc (own := [("_law_step", 12)]) F0 (di_rng2 (fun _ => rfl) (fun _ => T.b_range) (da_cons de_int (da_cons (de_var 3 (fun _ => rfl) (fun _ => .inr (.inl (by kernel_rfl)))) da_nil))) (fun _ => blkOk_by (by kernel_rfl)) (dg_name (famB F0) (fun _ => rfl) (fun _ => .inl rfl) (fun _ => by first | exact .inl rfl | exact .inr rfl)) (by decide) (dts_one (dt_cmp (fun i => or_eqG ((famB F0).K i) ((famB F0).hu4 i)) od_eq (de_fnI (famB F0) (fun _ => o__law_taken) (by decide) (fun _ => rfl) (fun _ => .inr (.inl (by kernel_rfl))) (fun _ => rfl) (fun _ => m__law_taken) k__law_taken b__law_taken (da_cons de_int da_nil)) de_int (by first | exact nomark _ | with_unfolding_all rfl))) (de_var 12 (fun _ => rfl) (fun _ => .inl rfl))) da_nil)))
  (dss_cons (ds_set F0 (fun _ => rfl) (fun _ => .inl rfl) (fun _ => by first | exact .inl rfl | exact .inr rfl) (de_tup (da_cons (de_var 3 (fun _ => rfl) (fun _ => .inr (.inl (by kernel_rfl)))) (da_cons (de_fnI F0 (fun _ => o__law_pick) (by decide) (fun _ => rfl) (fun _ => .inr (.inl (by kernel_rfl))) (fun _ => rfl) (fun _ => m__law_pick) k__law_pick b__law_pick (da_cons (de_lst (da_cons (de_ix (fun i => or_ix (F0.K i)) od_ix (de_ix (fun i => or_ix (F0.K i)) od_ix (de_var 6 (fun _ => rfl) (fun _ => .inl rfl)) (de_neg de_int)) de_int) (da_cons (de_var 4 (fun _ => rfl) (fun _ => .inr (.inl (by kernel_rfl)))) (da_cons (de_var 8 (fun _ => rfl) (fun _ => .inl rfl)) da_nil)))) da_nil)) da_nil))))
  (dss_cons (ds_if (dt_not (dt_truth F0 (de_fn F0 (fun _ => o__law_alike) (by decide) (fun _ => rfl) (fun _ => m__law_alike) k__law_alike b__law_alike (da_cons (de_fn F0 (fun _ => o_are_multiples) (by decide) (fun _ => rfl) (fun _ => m_are_multiples) k_are_multiples b_are_multiples (da_cons (de_var 2 (fun _ => rfl) (fun _ => .inr (.inl (by kernel_rfl)))) (da_cons (de_var 9 (fun _ => rfl) (fun _ => .inl rfl)) da_nil))) (da_cons (de_cmp (or_inG' F0) od_inG' (de_var 9 (fun _ => rfl) (fun _ => .inl rfl)) (de_var 6 (fun _ => rfl) (fun _ => .inl rfl)) (by first | exact nomark _ | with_unfolding_all rfl)) da_nil))))) (dss_one (ds_ret de_bl)) dss_nil)
  (dss_cons (ds_if (dt_cmp (fun i => or_neG (F0.K i) (F0.hu4 i)) od_ne (de_fn F0 (fun _ => o_are_multiples) (by decide) (fun _ => rfl) (fun _ => m_are_multiples) k_are_multiples b_are_multiples (da_cons (de_var 9 (fun _ => rfl) (fun _ => .inl rfl)) (da_cons (de_var 2 (fun _ => rfl) (fun _ => .inr (.inl (by kernel_rfl)))) da_nil))) (de_fn F0 (fun _ => o_are_multiples) (by decide) (fun _ => rfl) (fun _ => m_are_multiples) k_are_multiples b_are_multiples (da_cons (de_var 2 (fun _ => rfl) (fun _ => .inr (.inl (by kernel_rfl)))) (da_cons (de_var 9 (fun _ => rfl) (fun _ => .inl rfl)) da_nil))) (by first | exact nomark _ | with_unfolding_all rfl)) (dss_one (ds_ret de_bl)) dss_nil)
  (dss_cons (ds_set F0 (fun _ => rfl) (fun _ => .inl rfl) (fun _ => by first | exact .inl rfl | exact .inr rfl) (de_tup (da_cons (de_var 3 (fun _ => rfl) (fun _ => .inr (.inl (by kernel_rfl)))) (da_cons (de_callTy (fun i => cr_tupOf (F0.K i)) cd_tupOf (fun _ => rfl) (fun _ => T.b_tuple) (by decide +kernel) (da_cons (de_lc (own := [("_law_step", 12)]) F0 (di_rng2 (fun _ => rfl) (fun _ => T.b_range) (da_cons de_int (da_cons (de_var 3 (fun _ => rfl) (fun _ => .inr (.inl (by kernel_rfl)))) da_nil))) (fun _ => blkOk_by (by kernel_rfl)) (dg_name (famB F0) (fun _ => rfl) (fun _ => .inl rfl) (fun _ => by first | exact .inl rfl | exact .inr rfl)) (by decide) (dts_one (dt_cmp (or_inG' (famB F0)) od_inG' (de_bin (fun _ => op_sub) od_sub (de_var 3 (fun _ => rfl) (fun _ => .inr (.inl (by kernel_rfl)))) (de_var 12 (fun _ => rfl) (fun _ => .inl rfl))) (de_var 4 (fun _ => rfl) (fun _ => .inr (.inl (by kernel_rfl)))) (by first | exact nomark _ | with_unfolding_all rfl))) (de_var 12 (fun _ => rfl) (fun _ => .inl rfl))) da_nil)) da_nil))))
  (dss_cons (ds_if (dt_not (dt_truth F0 (de_fn F0 (fun _ => o__law_alike) (by decide) (fun _ => rfl) (fun _ => m__law_alike) k__law_alike b__law_alike (da_cons (de_lst (da_cons (de_fn F0 (fun _ => o_turned) (by decide) (fun _ => rfl) (fun _ => m_turned) k_turned b_turned (da_cons (de_var 2 (fun _ => rfl) (fun _ => .inr (.inl (by kernel_rfl)))) da_nil)) (da_cons (de_fn F0 (fun _ => o_is_two_way) (by decide) (fun _ => rfl) (fun _ => m_is_two_way) k_is_two_way b_is_two_way (da_cons (de_var 2 (fun _ => rfl) (fun _ => .inr (.inl (by kernel_rfl)))) da_nil)) da_nil))) (da_cons (de_lst (da_cons (de_var 10 (fun _ => rfl) (fun _ => .inl rfl)) (da_cons (de_cmp (fun i => or_eqG (F0.K i) (F0.hu4 i)) od_eq (de_var 10 (fun _ => rfl) (fun _ => .inl rfl)) (de_var 2 (fun _ => rfl) (fun _ => .inr (.inl (by kernel_rfl)))) (by first | exact nomark _ | with_unfolding_all rfl)) da_nil))) da_nil))))) (dss_one (ds_ret de_bl)) dss_nil)
  (dss_cons (ds_set F0 (fun _ => rfl) (fun _ => .inl rfl) (fun _ => by first | exact .inl rfl | exact .inr rfl) (de_callTy (fun i => cr_tupOf (F0.K i)) cd_tupOf (fun _ => rfl) (fun _ => T.b_tuple) (by decide +kernel) (da_cons (de_fn F0 (fun _ => o__law_ways) (by decide) (fun _ => rfl) (fun _ => m__law_ways) k__law_ways b__law_ways (da_cons (de_var 2 (fun _ => rfl) (fun _ => .inr (.inl (by kernel_rfl)))) da_nil)) da_nil)))
  (dss_one (ds_ret (de_fn F0 (fun _ => o__law_alike) (by decide) (fun _ => rfl) (fun _ => m__law_alike) k__law_alike b__law_alike (da_cons (de_lst (da_cons (de_fn F0 (fun _ => o_ways) (by decide) (fun _ => rfl) (fun _ => m_ways) k_ways b_ways (da_cons (de_var 2 (fun _ => rfl) (fun _ => .inr (.inl (by kernel_rfl)))) da_nil)) (da_cons (de_fn F0 (fun _ => o_net_of) (by decide) (fun _ => rfl) (fun _ => m_net_of) k_net_of b_net_of (da_cons (de_var 2 (fun _ => rfl) (fun _ => .inr (.inl (by kernel_rfl)))) da_nil)) (da_cons (de_fn F0 (fun _ => o_is_net) (by decide) (fun _ => rfl) (fun _ => m_is_net) k_is_net b_is_net (da_cons (de_fn F0 (fun _ => o_net_of) (by decide) (fun _ => rfl) (fun _ => m_net_of) k_net_of b_net_of (da_cons (de_var 2 (fun _ => rfl) (fun _ => .inr (.inl (by kernel_rfl)))) da_nil)) da_nil)) da_nil)))) (da_cons (de_lst (da_cons (de_var 11 (fun _ => rfl) (fun _ => .inl rfl)) (da_cons (de_tup (da_cons (de_var 3 (fun _ => rfl) (fun _ => .inr (.inl (by kernel_rfl)))) (da_cons (de_var 11 (fun _ => rfl) (fun _ => .inl rfl)) da_nil))) (da_cons de_bl da_nil)))) da_nil)))))))))))))))))))))
end
end LW

-- text MK01
set_option Elab.async false
set_option linter.all false
set_option maxRecDepth 100000
set_option maxHeartbeats 4000000
namespace LW
open PySem PySem.Spec L2 DL
theorem sz0 : (0 ≤ sizeLine) = True := eq_true (by decide)
theorem sz1 : (1 ≤ sizeLine) = True := eq_true (by decide)
theorem sz2 : (2 ≤ sizeLine) = True := eq_true (by decide)
theorem sz3 : (3 ≤ sizeLine) = True := eq_true (by decide)
theorem sz4 : (4 ≤ sizeLine) = True := eq_true (by decide)
theorem sz5 : (5 ≤ sizeLine) = True := eq_true (by decide)
theorem sz6 : (6 ≤ sizeLine) = True := eq_true (by decide)
theorem sz7 : (7 ≤ sizeLine) = True := eq_true (by decide)
theorem sz8 : (8 ≤ sizeLine) = True := eq_true (by decide)
theorem gIx_web0 (h : Int) (ss : List Int) : gIx (webD h ss) (.int 0) = some (.int h) := rfl
theorem gIx_web1 (h : Int) (ss : List Int) : gIx (webD h ss) (.int 1) = some (.tuple (pis ss)) := rfl
theorem gIx_tup (xs : List PyData) (i : Int) : gIx (.tuple xs) (.int i) = atI xs i := rfl
theorem gIx_list (xs : List PyData) (i : Int) : gIx (.list xs) (.int i) = atI xs i := rfl
theorem gIx_scr (xs : List PyData) (i : Int) : gIx (.dict [(.none, .list xs)]) (.int i) = atI xs i := rfl
theorem gSub_int (i j : Int) : DL.gSub (.int i) (.int j) = some (.int (i - j)) := rfl
theorem gMod_int (i j : Int) : gMod (.int i) (.int j) = if 0 < j then some (.int (i % j)) else none := rfl
theorem lim30_in {j : Int} (h1 : 1 ≤ j) (h2 : j < 1073741824) : lim30 j = true := by
  cases j with
  | ofNat n =>
    have h1 : (1 : Int) ≤ n := h1
    have h2 : (n : Int) < 1073741824 := h2
    show (Nat.ble 1 n && Nat.ble n 1073741823) = true
    rw [Nat.ble_eq_true_of_le (n := 1) (m := n) (by omega), Nat.ble_eq_true_of_le (n := n) (m := 1073741823) (by omega)]
    rfl
  | negSucc n => omega
theorem gDiv_int (i j : Int) : gDiv (.int i) (.int j) = if lim30 j = true then some (.int (i / j)) else none := rfl
theorem gLe_int (i j : Int) : gLe (.int i) (.int j) = some (.bool (decide (i ≤ j))) := rfl
theorem gGt_int (i j : Int) : gGt (.int i) (.int j) = some (.bool (decide (j < i))) := rfl
theorem gGe_int (i j : Int) : gGe (.int i) (.int j) = some (.bool (decide (j ≤ i))) := rfl
theorem is_number_int (i a b : Int) : F_is_number [.int i, .int a, .int b] = .ok (.bool (decide (a ≤ i) && decide (i ≤ b))) := by
  by_cases h : a ≤ i <;> simp [F_is_number, fb_is_number, fnD, fnI, outFr, outFi, sThen, sIf, sAsg, sOpt, sRet, sExpr, sPutO, sOwnL, sRetO, sPar, sNil, sFor, iSeq, iRng, eVar, eC, eBin, eChain, eIxO, eLenO, eIsi, eCall, eTupD, eLstD, eFn, eFnI, eIfD, eNotD, eAndD, eOrD, eNegD, eSl, pNone, pSome, aNilD, aConsD, tV, tT, tOwn, tNotD, tAndD, tOrD, tYesD, asB, truD, Rs.bind, Rs.of, Rs.out, frRs, ownAt, setD, noOwn, setNil, setCons, setTup, seqOf, sz0, sz1, sz2, sz3, sz4, sz5, sz6, sz7, sz8, gAdd, gSub_int, gMod_int, gDiv_int, gLe_int, gLt, gGt_int, gGe_int, gIsN, gIsB, isNone, gIx_web0, gIx_web1, gIx_tup, gIx_list, gIx_scr, gLen, gTupOf, gLstOf, gIntOf, isIntD, isBoolD, isStrD, isTupD, isLstD, zipG, h]
theorem taken_ok {xs : List PyData} (h : Row xs) {m : Int} (h1 : 1 ≤ m) (h2 : m < 1073741824) : ∃ r xs', F__law_taken xs [.int m] = .ok (.int r) xs' ∧ 0 ≤ r ∧ r < m ∧ Row xs' := by
  obtain ⟨ns, a, b, c, rfl, ha, hb⟩ := h
  have m0 : (0 : Int) < m := by omega
  have lim : lim64 48271 = true := by decide
  have l30 := lim30_in h1 h2
  have l7 : lim30 7 = true := by decide
  by_cases hc : 0 < c
  · refine ⟨c % m, [scr ns, .int a, .int b, .int (c / m)], ?_, Int.emod_nonneg _ (by omega), Int.emod_lt_of_pos _ m0, ns, a, b, c / m, rfl, ha, hb⟩
    simp [F__law_taken, fb__law_taken, fnD, fnI, outFr, outFi, sThen, sIf, sAsg, sOpt, sRet, sExpr, sPutO, sOwnL, sRetO, sPar, sNil, sFor, iSeq, iRng, eVar, eC, eBin, eChain, eIxO, eLenO, eIsi, eCall, eTupD, eLstD, eFn, eFnI, eIfD, eNotD, eAndD, eOrD, eNegD, eSl, pNone, pSome, aNilD, aConsD, tV, tT, tOwn, tNotD, tAndD, tOrD, tYesD, asB, truD, Rs.bind, Rs.of, Rs.out, frRs, ownAt, setD, noOwn, setNil, setCons, setTup, seqOf, sz0, sz1, sz2, sz3, sz4, sz5, sz6, sz7, sz8, gAdd, gSub_int, gMod_int, gDiv_int, gLe_int, gLt, gGt_int, gGe_int, gIsN, gIsB, isNone, gIx_web0, gIx_web1, gIx_tup, gIx_list, gIx_scr, gLen, gTupOf, gLstOf, gIntOf, isIntD, isBoolD, isStrD, isTupD, isLstD, zipG, atI, ixN, hc, m0, h2, l30]
  · by_cases hl : (ns.length : Int) < a + 1
    · refine ⟨(b * 48271 + 11) % 2147483647 / 7 % m, [scr ns, .int (a + 1), .int ((b * 48271 + 11) % 2147483647), .int c], ?_, Int.emod_nonneg _ (by omega), Int.emod_lt_of_pos _ m0, ns, a + 1, _, c, rfl, by omega, Int.emod_nonneg _ (by decide)⟩
      simp [F__law_taken, fb__law_taken, fnD, fnI, outFr, outFi, sThen, sIf, sAsg, sOpt, sRet, sExpr, sPutO, sOwnL, sRetO, sPar, sNil, sFor, iSeq, iRng, eVar, eC, eBin, eChain, eIxO, eLenO, eIsi, eCall, eTupD, eLstD, eFn, eFnI, eIfD, eNotD, eAndD, eOrD, eNegD, eSl, pNone, pSome, aNilD, aConsD, tV, tT, tOwn, tNotD, tAndD, tOrD, tYesD, asB, truD, Rs.bind, Rs.of, Rs.out, frRs, ownAt, setD, noOwn, setNil, setCons, setTup, seqOf, sz0, sz1, sz2, sz3, sz4, sz5, sz6, sz7, sz8, gAdd, gSub_int, gMod_int, gDiv_int, gLe_int, gLt, gGt_int, gGe_int, gIsN, gIsB, isNone, gIx_web0, gIx_web1, gIx_tup, gIx_list, gIx_scr, gLen, gTupOf, gLstOf, gIntOf, isIntD, isBoolD, isStrD, isTupD, isLstD, zipG, atI, ixN, hc, m0, h2, l30, l7, scr, hl, gMul, lim]
    · obtain ⟨n, rfl⟩ := Int.eq_ofNat_of_zero_le ha
      have hn : n < ns.length := by omega
      have hn' : (n : Int) < ns.length := by omega
      have h3 : ns[n]? = some ns[n] := List.getElem?_eq_getElem hn
      have e1 : ((n : Int) + 1 - 1) = n := by omega
      have pw : gPow (.int 10) (.int 18) = some (.int 1000000000000000000) := by rfl
      by_cases hg : (1000000000000000000 : Int) ≤ ns[n]
      · refine ⟨ns[n] % m, [scr ns, .int (n + 1), .int ((b * 48271 + ns[n] + 11) % 2147483647), .int (ns[n] / m)], ?_, Int.emod_nonneg _ (by omega), Int.emod_lt_of_pos _ m0, ns, _, _, _, rfl, by omega, Int.emod_nonneg _ (by decide)⟩
        simp [F__law_taken, fb__law_taken, fnD, fnI, outFr, outFi, sThen, sIf, sAsg, sOpt, sRet, sExpr, sPutO, sOwnL, sRetO, sPar, sNil, sFor, iSeq, iRng, eVar, eC, eBin, eChain, eIxO, eLenO, eIsi, eCall, eTupD, eLstD, eFn, eFnI, eIfD, eNotD, eAndD, eOrD, eNegD, eSl, pNone, pSome, aNilD, aConsD, tV, tT, tOwn, tNotD, tAndD, tOrD, tYesD, asB, truD, Rs.bind, Rs.of, Rs.out, frRs, ownAt, setD, noOwn, setNil, setCons, setTup, seqOf, sz0, sz1, sz2, sz3, sz4, sz5, sz6, sz7, sz8, gAdd, gSub_int, gMod_int, gDiv_int, gLe_int, gLt, gGt_int, gGe_int, gIsN, gIsB, isNone, gIx_web0, gIx_web1, gIx_tup, gIx_list, gIx_scr, gLen, gTupOf, gLstOf, gIntOf, isIntD, isBoolD, isStrD, isTupD, isLstD, zipG, atI, ixN, hc, m0, h2, l30, l7, scr, hl, gMul, lim, pw, hg, hn', hn, h3]
      · refine ⟨ns[n] % m, [scr ns, .int (n + 1), .int ((b * 48271 + ns[n] + 11) % 2147483647), .int c], ?_, Int.emod_nonneg _ (by omega), Int.emod_lt_of_pos _ m0, ns, _, _, _, rfl, by omega, Int.emod_nonneg _ (by decide)⟩
        simp [F__law_taken, fb__law_taken, fnD, fnI, outFr, outFi, sThen, sIf, sAsg, sOpt, sRet, sExpr, sPutO, sOwnL, sRetO, sPar, sNil, sFor, iSeq, iRng, eVar, eC, eBin, eChain, eIxO, eLenO, eIsi, eCall, eTupD, eLstD, eFn, eFnI, eIfD, eNotD, eAndD, eOrD, eNegD, eSl, pNone, pSome, aNilD, aConsD, tV, tT, tOwn, tNotD, tAndD, tOrD, tYesD, asB, truD, Rs.bind, Rs.of, Rs.out, frRs, ownAt, setD, noOwn, setNil, setCons, setTup, seqOf, sz0, sz1, sz2, sz3, sz4, sz5, sz6, sz7, sz8, gAdd, gSub_int, gMod_int, gDiv_int, gLe_int, gLt, gGt_int, gGe_int, gIsN, gIsB, isNone, gIx_web0, gIx_web1, gIx_tup, gIx_list, gIx_scr, gLen, gTupOf, gLstOf, gIntOf, isIntD, isBoolD, isStrD, isTupD, isLstD, zipG, atI, ixN, hc, m0, h2, l30, l7, scr, hl, gMul, lim, pw, hg, hn', hn, h3]
end LW

-- text MK01b
set_option Elab.async false
set_option linter.all false
set_option maxRecDepth 100000
set_option maxHeartbeats 4000000
namespace LW
open PySem PySem.Spec L2 DL
theorem gEq_int (i j : Int) : gEq (.int i) (.int j) = some (.bool (i == j)) := by simp [gEq, okD, ndd, SeqAt.shaped, PyData.eqv, PyData.canLay0, PyData.depth]
theorem gNe_int (i j : Int) : gNe (.int i) (.int j) = some (.bool (!(i == j))) := by simp [gNe, okD, ndd, SeqAt.shaped, PyData.eqv, PyData.canLay0, PyData.depth]
theorem gEq_bool (i j : Bool) : gEq (.bool i) (.bool j) = some (.bool (i == j)) := by simp [gEq, okD, ndd, SeqAt.shaped, PyData.eqv, PyData.canLay0, PyData.depth]
theorem gNe_bool (i j : Bool) : gNe (.bool i) (.bool j) = some (.bool (!(i == j))) := by simp [gNe, okD, ndd, SeqAt.shaped, PyData.eqv, PyData.canLay0, PyData.depth]
theorem inV_pis (x : Int) : ∀ ms : List Int, inV (fv (.int x)) ((pis ms).map fv) = decide (x ∈ ms)
  | [] => rfl
  | m :: ms => by
    show (eqV (.int m) (.int x) || inV (fv (.int x)) ((pis ms).map fv)) = _
    rw [inV_pis x ms]
    have e : eqV (.int m) (.int x) = decide (x = m) := by
      show (m == x) = _
      by_cases h : x = m <;> simp [h]
      exact fun z => h z.symm
    rw [e]
    simp
theorem in_list (x : Int) (ms : List Int) : gInG false (.int x) (.list (pis ms)) = some (.bool (decide (x ∈ ms))) := by
  unfold gInG gInF
  simp only [seqOf, ints_all_flat, flatD, Bool.and_self, if_true, inV_pis, Bool.false_eq_true, if_false]
theorem in_tup (x : Int) (ms : List Int) : gInG false (.int x) (.tuple (pis ms)) = some (.bool (decide (x ∈ ms))) := by
  unfold gInG gInF
  simp only [seqOf, ints_all_flat, flatD, Bool.and_self, if_true, inV_pis, Bool.false_eq_true, if_false]
theorem in62_small {n : Int} (h : 0 ≤ n) (h2 : n ≤ 100000000) : in62 n = true := by
  cases n with
  | ofNat n =>
    have h2 : (n : Int) ≤ 100000000 := h2
    exact Nat.ble_eq_true_of_le (by omega)
  | negSucc n => omega
theorem rng1_ok {n : Int} (h : 0 ≤ n) (h2 : n ≤ 100000000) : rng1 [.int n] = some (pis (rngI 0 n)) := by
  simp [rng1, in62_small h h2, rngD_I]
theorem rng2_ok {m n : Int} (h : 0 ≤ m) (h2 : m ≤ 100000000) (h3 : 0 ≤ n) (h4 : n ≤ 100000000) : rng2 [.int m, .int n] = some (pis (rngI m n)) := by
  simp [rng2, in62_small h h2, in62_small h3 h4, rngD_I]
theorem pis_len (ns : List Int) : (pis ns).length = ns.length := List.length_map _
theorem size_small {n : Nat} (h : n ≤ 1000000) : n ≤ sizeLine := by
  rw [PySem.sizeLine_eq]
  omega
/-- a draw of one of some things -/
theorem pick_ok {xs : List PyData} (h : Row xs) {ts : List PyData} (h1 : ts ≠ []) (h2 : ts.length < 1000000) : ∃ x xs', F__law_pick xs [.list ts] = .ok x xs' ∧ x ∈ ts ∧ Row xs' := by
  have hl : 1 ≤ (ts.length : Int) := by
    have := List.length_pos_iff.mpr h1
    omega
  obtain ⟨r, xs', e, g1, g2, g3⟩ := taken_ok h hl (by omega)
  obtain ⟨n, rfl⟩ := Int.eq_ofNat_of_zero_le g1
  have hn : n < ts.length := by omega
  refine ⟨ts[n], xs', ?_, List.getElem_mem hn, g3⟩
  simp [F__law_pick, fb__law_pick, fnD, fnI, outFr, outFi, sThen, sIf, sAsg, sOpt, sRet, sExpr, sPutO, sOwnL, sRetO, sPar, sNil, sFor, iSeq, iRng, eVar, eC, eBin, eChain, eIxO, eLenO, eIsi, eCall, eTupD, eLstD, eFn, eFnI, eIfD, eNotD, eAndD, eOrD, eNegD, eSl, pNone, pSome, aNilD, aConsD, tV, tT, tOwn, tNotD, tAndD, tOrD, tYesD, asB, truD, Rs.bind, Rs.of, Rs.out, frRs, ownAt, setD, noOwn, setNil, setCons, setTup, seqOf, sz0, sz1, sz2, sz3, sz4, sz5, sz6, sz7, sz8, gAdd, gSub_int, gMod_int, gDiv_int, gLe_int, gLt, gGt_int, gGe_int, gIsN, gIsB, isNone, gIx_web0, gIx_web1, gIx_tup, gIx_list, gIx_scr, gLen, gTupOf, gLstOf, gIntOf, isIntD, isBoolD, isStrD, isTupD, isLstD, zipG, e, atI, ixN, hn, g2]
/-- the web drawn -/
theorem web_draw {xs : List PyData} (h : Row xs) : ∃ hh ss xs', F__law_web xs [.int 13] = .ok (webD hh ss) xs' ∧ IsWeb hh ss ∧ Row xs' := by
  obtain ⟨r, x1, e1, g1, g2, g3⟩ := taken_ok h (m := 12) (by decide) (by decide)
  have hr : (2 + r) ≤ 13 := by omega
  generalize hh : 2 + r = hal at hr
  have h2 : 2 ≤ hal := by omega
  -- the steps
  have st : ∀ x ∈ pis (rngI 1 hal), ∀ ρ : RS, (∃ xs, Row xs ∧ ρ = [.o xs, .d (.int 13), .d (.int hal), .n, .n]) → ∃ b, LcStep (setD 4) (tV (eBin gEq (eFnI 0 2 F__law_taken (aConsD (eC (.int 2)) aNilD)) (eC (.int 0)))) (eVar 4) [4] (fun ρ => ∃ xs, Row xs ∧ ρ = [.o xs, .d (.int 13), .d (.int hal), .n, .n]) x b x ρ := by
    rintro x _ ρ ⟨xs, hx, rfl⟩
    obtain ⟨q, x2, e2, q1, q2, q3⟩ := taken_ok hx (m := 2) (by decide) (by decide)
    refine ⟨q == 0, [.o xs, .d (.int 13), .d (.int hal), .n, .d x], [.o x2, .d (.int 13), .d (.int hal), .n, .d x], rfl, ?_, fun _ => ⟨rfl, x2, q3, rfl⟩, fun _ => ⟨_, rfl, rfl, x2, q3, rfl⟩⟩
    simp [fnD, fnI, outFr, outFi, sThen, sIf, sAsg, sOpt, sRet, sExpr, sPutO, sOwnL, sRetO, sPar, sNil, sFor, iSeq, iRng, eVar, eC, eBin, eChain, eIxO, eLenO, eIsi, eCall, eTupD, eLstD, eFn, eFnI, eIfD, eNotD, eAndD, eOrD, eNegD, eSl, pNone, pSome, aNilD, aConsD, tV, tT, tOwn, tNotD, tAndD, tOrD, tYesD, asB, truD, Rs.bind, Rs.of, Rs.out, frRs, ownAt, setD, noOwn, setNil, setCons, setTup, seqOf, sz0, sz1, sz2, sz3, sz4, sz5, sz6, sz7, sz8, gAdd, gSub_int, gMod_int, gDiv_int, gLe_int, gLt, gGt_int, gGe_int, gIsN, gIsB, isNone, gIx_web0, gIx_web1, gIx_tup, gIx_list, gIx_scr, gLen, gTupOf, gLstOf, gIntOf, isIntD, isBoolD, isStrD, isTupD, isLstD, zipG, e2, gEq_int]
  obtain ⟨ys, ρ', s1, ⟨x2, hx2, rfl⟩, s2⟩ := lcL_sub (fun x => x) _ st [.o x1, .d (.int 13), .d (.int hal), .n, .n] ⟨x1, g3, rfl⟩
  obtain ⟨ms, rfl, s3⟩ := sub_ints s1
  rw [List.map_id'] at s2
  have lc1 := eLc_of (fi := iRng rng2 (aConsD (eC (.int 1)) (aConsD (eVar 2) aNilD))) (ρ := [.o x1, .d (.int 13), .d (.int hal), .n, .n]) (ρ1 := [.o x1, .d (.int 13), .d (.int hal), .n, .n]) (items := pis (rngI 1 hal)) (by
    simp [fnD, fnI, outFr, outFi, sThen, sIf, sAsg, sOpt, sRet, sExpr, sPutO, sOwnL, sRetO, sPar, sNil, sFor, iSeq, iRng, eVar, eC, eBin, eChain, eIxO, eLenO, eIsi, eCall, eTupD, eLstD, eFn, eFnI, eIfD, eNotD, eAndD, eOrD, eNegD, eSl, pNone, pSome, aNilD, aConsD, tV, tT, tOwn, tNotD, tAndD, tOrD, tYesD, asB, truD, Rs.bind, Rs.of, Rs.out, frRs, ownAt, setD, noOwn, setNil, setCons, setTup, seqOf, sz0, sz1, sz2, sz3, sz4, sz5, sz6, sz7, sz8, gAdd, gSub_int, gMod_int, gDiv_int, gLe_int, gLt, gGt_int, gGe_int, gIsN, gIsB, isNone, gIx_web0, gIx_web1, gIx_tup, gIx_list, gIx_scr, gLen, gTupOf, gLstOf, gIntOf, isIntD, isBoolD, isStrD, isTupD, isLstD, zipG, rng2_ok (m := 1) (n := hal) (by omega) (by omega) (by omega) (by omega)]) (by rw [pis_len, rngI_len]; exact size_small (by omega)) rfl s2 rfl
  obtain ⟨q, x3, e3, q1, q2, q3⟩ := taken_ok hx2 (m := 3) (by decide) (by decide)
  by_cases hq : q = 0
  · subst hq
    -- two-way
    have st2 : ∀ x ∈ pis (rngI 1 hal), ∀ ρ : RS, ρ = [.o x3, .d (.int 13), .d (.int hal), .d (.list (pis ms)), .n] → ∃ b, LcStep (setD 4) (tOrD (tV (eBin (gInG false) (eVar 4) (eVar 3))) (tV (eBin (gInG false) (eBin gSub (eVar 2) (eVar 4)) (eVar 3)))) (eVar 4) [4] (fun ρ => ρ = [.o x3, .d (.int 13), .d (.int hal), .d (.list (pis ms)), .n]) x b x ρ := by
      rintro x hx ρ rfl
      obtain ⟨i, _, rfl⟩ := List.mem_map.mp hx
      refine ⟨decide (i ∈ ms) || decide (hal - i ∈ ms), [.o x3, .d (.int 13), .d (.int hal), .d (.list (pis ms)), .d (.int i)], [.o x3, .d (.int 13), .d (.int hal), .d (.list (pis ms)), .d (.int i)], rfl, ?_, fun _ => ⟨rfl, rfl⟩, fun _ => ⟨_, rfl, rfl, rfl⟩⟩
      by_cases hm : i ∈ ms <;> simp [fnD, fnI, outFr, outFi, sThen, sIf, sAsg, sOpt, sRet, sExpr, sPutO, sOwnL, sRetO, sPar, sNil, sFor, iSeq, iRng, eVar, eC, eBin, eChain, eIxO, eLenO, eIsi, eCall, eTupD, eLstD, eFn, eFnI, eIfD, eNotD, eAndD, eOrD, eNegD, eSl, pNone, pSome, aNilD, aConsD, tV, tT, tOwn, tNotD, tAndD, tOrD, tYesD, asB, truD, Rs.bind, Rs.of, Rs.out, frRs, ownAt, setD, noOwn, setNil, setCons, setTup, seqOf, sz0, sz1, sz2, sz3, sz4, sz5, sz6, sz7, sz8, gAdd, gSub_int, gMod_int, gDiv_int, gLe_int, gLt, gGt_int, gGe_int, gIsN, gIsB, isNone, gIx_web0, gIx_web1, gIx_tup, gIx_list, gIx_scr, gLen, gTupOf, gLstOf, gIntOf, isIntD, isBoolD, isStrD, isTupD, isLstD, zipG, in_list, hm]
    obtain ⟨zs, ρ2, t1, rfl, t2⟩ := lcL_sub (fun x => x) _ st2 _ rfl
    obtain ⟨ks, rfl, t3⟩ := sub_ints t1
    rw [List.map_id'] at t2
    have lc2 := eLc_of (fi := iRng rng2 (aConsD (eC (.int 1)) (aConsD (eVar 2) aNilD))) (ρ := [.o x3, .d (.int 13), .d (.int hal), .d (.list (pis ms)), .n]) (ρ1 := [.o x3, .d (.int 13), .d (.int hal), .d (.list (pis ms)), .n]) (items := pis (rngI 1 hal)) (by
      simp [fnD, fnI, outFr, outFi, sThen, sIf, sAsg, sOpt, sRet, sExpr, sPutO, sOwnL, sRetO, sPar, sNil, sFor, iSeq, iRng, eVar, eC, eBin, eChain, eIxO, eLenO, eIsi, eCall, eTupD, eLstD, eFn, eFnI, eIfD, eNotD, eAndD, eOrD, eNegD, eSl, pNone, pSome, aNilD, aConsD, tV, tT, tOwn, tNotD, tAndD, tOrD, tYesD, asB, truD, Rs.bind, Rs.of, Rs.out, frRs, ownAt, setD, noOwn, setNil, setCons, setTup, seqOf, sz0, sz1, sz2, sz3, sz4, sz5, sz6, sz7, sz8, gAdd, gSub_int, gMod_int, gDiv_int, gLe_int, gLt, gGt_int, gGe_int, gIsN, gIsB, isNone, gIx_web0, gIx_web1, gIx_tup, gIx_list, gIx_scr, gLen, gTupOf, gLstOf, gIntOf, isIntD, isBoolD, isStrD, isTupD, isLstD, zipG, rng2_ok (m := 1) (n := hal) (by omega) (by omega) (by omega) (by omega)]) (by rw [pis_len, rngI_len]; exact size_small (by omega)) rfl t2 rfl
    refine ⟨hal, ks, x3, ?_, web_of_sub h2 hr t3, q3⟩
    simp only [rwipe, List.set] at lc1 lc2
    simp [F__law_web, fb__law_web, fnD, fnI, outFr, outFi, sThen, sIf, sAsg, sOpt, sRet, sExpr, sPutO, sOwnL, sRetO, sPar, sNil, sFor, iSeq, iRng, eVar, eC, eBin, eChain, eIxO, eLenO, eIsi, eCall, eTupD, eLstD, eFn, eFnI, eIfD, eNotD, eAndD, eOrD, eNegD, eSl, pNone, pSome, aNilD, aConsD, tV, tT, tOwn, tNotD, tAndD, tOrD, tYesD, asB, truD, Rs.bind, Rs.of, Rs.out, frRs, ownAt, setD, noOwn, setNil, setCons, setTup, seqOf, sz0, sz1, sz2, sz3, sz4, sz5, sz6, sz7, sz8, gAdd, gSub_int, gMod_int, gDiv_int, gLe_int, gLt, gGt_int, gGe_int, gIsN, gIsB, isNone, gIx_web0, gIx_web1, gIx_tup, gIx_list, gIx_scr, gLen, gTupOf, gLstOf, gIntOf, isIntD, isBoolD, isStrD, isTupD, isLstD, zipG, e1, e3, hh, lc1, lc2, gEq_int, webD]
  · refine ⟨hal, ms, x3, ?_, web_of_sub h2 hr s3, q3⟩
    simp only [rwipe, List.set] at lc1
    simp [F__law_web, fb__law_web, fnD, fnI, outFr, outFi, sThen, sIf, sAsg, sOpt, sRet, sExpr, sPutO, sOwnL, sRetO, sPar, sNil, sFor, iSeq, iRng, eVar, eC, eBin, eChain, eIxO, eLenO, eIsi, eCall, eTupD, eLstD, eFn, eFnI, eIfD, eNotD, eAndD, eOrD, eNegD, eSl, pNone, pSome, aNilD, aConsD, tV, tT, tOwn, tNotD, tAndD, tOrD, tYesD, asB, truD, Rs.bind, Rs.of, Rs.out, frRs, ownAt, setD, noOwn, setNil, setCons, setTup, seqOf, sz0, sz1, sz2, sz3, sz4, sz5, sz6, sz7, sz8, gAdd, gSub_int, gMod_int, gDiv_int, gLe_int, gLt, gGt_int, gGe_int, gIsN, gIsB, isNone, gIx_web0, gIx_web1, gIx_tup, gIx_list, gIx_scr, gLen, gTupOf, gLstOf, gIntOf, isIntD, isBoolD, isStrD, isTupD, isLstD, zipG, e1, e3, hh, lc1, gEq_int, webD, hq]
end LW

-- text MK01c
set_option Elab.async false
set_option linter.all false
set_option maxRecDepth 100000
set_option maxHeartbeats 4000000
namespace LW
open PySem PySem.Spec L2 DL
theorem all_t {α : Type} : ∀ l : List α, (l.all fun _ => true) = true
  | [] => rfl
  | x :: l => by rw [List.all_cons, all_t l]; rfl
theorem cut1 {α : Type} (l : List α) : cutD l (some 1) none = l.drop 1 := by
  unfold cutD
  rw [show HT.sIx l.length 0 (some 1) = min 1 l.length from HT.sIx_nat l.length 0 1, HT.sIx_none]
  cases l with
  | nil => rfl
  | cons x r =>
    rw [show min 1 (x :: r).length = 1 by rw [List.length_cons]; omega]
    simp
theorem zip_pw {R : PyData → PyData → Prop} : ∀ {l : List PyData}, l.Pairwise R → ∀ d ∈ List.zipWith pairD l (l.drop 1), ∃ a b, d = pairD a b ∧ R a b
  | [], _, d, m => by simp at m
  | [x], _, d, m => by simp at m
  | x :: y :: r, h, d, m => by
    obtain ⟨h1, h2⟩ := List.pairwise_cons.mp h
    have m : d ∈ pairD x y :: List.zipWith pairD (y :: r) ((y :: r).drop 1) := by simpa using m
    rcases List.mem_cons.mp m with e | m
    · exact ⟨x, y, e, h1 y List.mem_cons_self⟩
    · exact zip_pw h2 d m
theorem pis_pw {ns : List Int} (h : ns.Pairwise (· < ·)) : (pis ns).Pairwise fun a b => ∃ i j, a = PyData.int i ∧ b = PyData.int j ∧ i < j := List.pairwise_map.mpr (h.imp fun {a b} h => ⟨a, b, rfl, rfl, h⟩)
theorem gLt_int (i j : Int) : gLt (.int i) (.int j) = some (.bool (decide (i < j))) := rfl
theorem asc_len : ∀ (ns : List Int) (a b : Int), a ≤ b → ns.Pairwise (· < ·) → (∀ s ∈ ns, a ≤ s ∧ s < b) → (ns.length : Int) ≤ b - a
  | [], a, b, hab, _, _ => by simp; omega
  | x :: r, a, b, hab, h, hr => by
    obtain ⟨h1, h2⟩ := List.pairwise_cons.mp h
    have hx := hr x List.mem_cons_self
    have := asc_len r (x + 1) b (by omega) h2 fun s m => ⟨by have := h1 s m; omega, (hr s (List.mem_cons_of_mem _ m)).2⟩
    rw [List.length_cons]
    omega
theorem web_len {h : Int} {ss : List Int} (W : IsWeb h ss) : ss.length ≤ 12 := by
  have h1 := W.lo
  have h2 := W.hi
  have := asc_len ss 1 h (by omega) W.asc fun s m => by have := W.rng s m; omega
  omega
theorem wrong_web_ok {h : Int} {ss : List Int} (W : IsWeb h ss) : F_wrong_web [webD h ss] = .ok .none := by
  have h1 := W.lo
  have h2 := W.hi
  obtain ⟨ρ1, rfl, e1⟩ := allL_det (g := setD 5) (fe := eFn 3 F_is_number (aConsD (eVar 5) (aConsD (eC (.int 1)) (aConsD (eBin DL.gSub (eVar 1) (eC (.int 1))) aNilD)))) (vs := [5]) (I := fun ρ => ρ = [.d (webD h ss), .d (.int h), .d (.tuple (pis ss)), .n, .n, .n]) (fun _ => true) (pis ss) (fun x hx ρ e => by
    subst e
    obtain ⟨i, hi, rfl⟩ := List.mem_map.mp hx
    have := W.rng i hi
    refine ⟨[.d (webD h ss), .d (.int h), .d (.tuple (pis ss)), .n, .n, .d (.int i)], .bool true, [.d (webD h ss), .d (.int h), .d (.tuple (pis ss)), .n, .n, .d (.int i)], rfl, ?_, rfl, rfl, rfl⟩
    simp [fnD, fnI, outFr, outFi, sThen, sIf, sAsg, sOpt, sRet, sExpr, sPutO, sOwnL, sRetO, sPar, sNil, sFor, iSeq, iRng, eVar, eC, eBin, eChain, eIxO, eLenO, eIsi, eCall, eTupD, eLstD, eFn, eFnI, eIfD, eNotD, eAndD, eOrD, eNegD, eSl, pNone, pSome, aNilD, aConsD, tV, tT, tOwn, tNotD, tAndD, tOrD, tYesD, asB, truD, Rs.bind, Rs.of, Rs.out, frRs, ownAt, setD, noOwn, setNil, setCons, setTup, seqOf, sz0, sz1, sz2, sz3, sz4, sz5, sz6, sz7, sz8, gAdd, gSub_int, gMod_int, gDiv_int, gLe_int, gLt, gGt_int, gGe_int, gIsN, gIsB, isNone, gIx_web0, gIx_web1, gIx_tup, gIx_list, gIx_scr, gLen, gTupOf, gLstOf, gIntOf, isIntD, isBoolD, isStrD, isTupD, isLstD, zipG, is_number_int, this]) _ rfl
  have a1 := eAll_of (fi := iSeq (eVar 2)) (ρ := [.d (webD h ss), .d (.int h), .d (.tuple (pis ss)), .n, .n, .n]) (ρ1 := [.d (webD h ss), .d (.int h), .d (.tuple (pis ss)), .n, .n, .n]) (items := pis ss) rfl rfl e1 rfl
  obtain ⟨ρ2, rfl, e2⟩ := allL_det (g := setTup 2 (setCons (setD 3) (setCons (setD 4) setNil))) (fe := eBin gLt (eVar 3) (eVar 4)) (vs := [3, 4]) (I := fun ρ => ρ = [.d (webD h ss), .d (.int h), .d (.tuple (pis ss)), .n, .n, .n]) (fun _ => true) (List.zipWith pairD (pis ss) ((pis ss).drop 1)) (fun x hx ρ e => by
    subst e
    obtain ⟨_, _, rfl, i, j, rfl, rfl, hij⟩ := zip_pw (pis_pw W.asc) x hx
    refine ⟨[.d (webD h ss), .d (.int h), .d (.tuple (pis ss)), .d (.int i), .d (.int j), .n], .bool true, [.d (webD h ss), .d (.int h), .d (.tuple (pis ss)), .d (.int i), .d (.int j), .n], rfl, ?_, rfl, rfl, rfl⟩
    simp [fnD, fnI, outFr, outFi, sThen, sIf, sAsg, sOpt, sRet, sExpr, sPutO, sOwnL, sRetO, sPar, sNil, sFor, iSeq, iRng, eVar, eC, eBin, eChain, eIxO, eLenO, eIsi, eCall, eTupD, eLstD, eFn, eFnI, eIfD, eNotD, eAndD, eOrD, eNegD, eSl, pNone, pSome, aNilD, aConsD, tV, tT, tOwn, tNotD, tAndD, tOrD, tYesD, asB, truD, Rs.bind, Rs.of, Rs.out, frRs, ownAt, setD, noOwn, setNil, setCons, setTup, seqOf, sz0, sz1, sz2, sz3, sz4, sz5, sz6, sz7, sz8, gAdd, gSub_int, gMod_int, gDiv_int, gLe_int, gLt, gGt_int, gGe_int, gIsN, gIsB, isNone, gIx_web0, gIx_web1, gIx_tup, gIx_list, gIx_scr, gLen, gTupOf, gLstOf, gIntOf, isIntD, isBoolD, isStrD, isTupD, isLstD, zipG, gLt_int, hij]) _ rfl
  have a2 := eAll_of (fi := iRng zipG (aConsD (eVar 2) (aConsD (eSl (eVar 2) (pSome (eC (.int 1))) pNone) aNilD))) (ρ := [.d (webD h ss), .d (.int h), .d (.tuple (pis ss)), .n, .n, .n]) (ρ1 := [.d (webD h ss), .d (.int h), .d (.tuple (pis ss)), .n, .n, .n]) (items := List.zipWith pairD (pis ss) ((pis ss).drop 1)) (by
    simp [fnD, fnI, outFr, outFi, sThen, sIf, sAsg, sOpt, sRet, sExpr, sPutO, sOwnL, sRetO, sPar, sNil, sFor, iSeq, iRng, eVar, eC, eBin, eChain, eIxO, eLenO, eIsi, eCall, eTupD, eLstD, eFn, eFnI, eIfD, eNotD, eAndD, eOrD, eNegD, eSl, pNone, pSome, aNilD, aConsD, tV, tT, tOwn, tNotD, tAndD, tOrD, tYesD, asB, truD, Rs.bind, Rs.of, Rs.out, frRs, ownAt, setD, noOwn, setNil, setCons, setTup, seqOf, sz0, sz1, sz2, sz3, sz4, sz5, sz6, sz7, sz8, gAdd, gSub_int, gMod_int, gDiv_int, gLe_int, gLt, gGt_int, gGe_int, gIsN, gIsB, isNone, gIx_web0, gIx_web1, gIx_tup, gIx_list, gIx_scr, gLen, gTupOf, gLstOf, gIntOf, isIntD, isBoolD, isStrD, isTupD, isLstD, zipG, gSl, cut1]) rfl e2 rfl
  simp only [rwipe, List.set, all_t] at a1 a2
  simp [F_wrong_web, fb_wrong_web, fnD, fnI, outFr, outFi, sThen, sIf, sAsg, sOpt, sRet, sExpr, sPutO, sOwnL, sRetO, sPar, sNil, sFor, iSeq, iRng, eVar, eC, eBin, eChain, eIxO, eLenO, eIsi, eCall, eTupD, eLstD, eFn, eFnI, eIfD, eNotD, eAndD, eOrD, eNegD, eSl, pNone, pSome, aNilD, aConsD, tV, tT, tOwn, tNotD, tAndD, tOrD, tYesD, asB, truD, Rs.bind, Rs.of, Rs.out, frRs, ownAt, setD, noOwn, setNil, setCons, setTup, seqOf, sz0, sz1, sz2, sz3, sz4, sz5, sz6, sz7, sz8, gAdd, gSub_int, gMod_int, gDiv_int, gLe_int, gLt, gGt_int, gGe_int, gIsN, gIsB, isNone, gIx_web0, gIx_web1, gIx_tup, gIx_list, gIx_scr, gLen, gTupOf, gLstOf, gIntOf, isIntD, isBoolD, isStrD, isTupD, isLstD, zipG, webD, gNe_int, is_number_int, h1, h2] at a1 a2 ⊢
  simp [fnD, fnI, outFr, outFi, sThen, sIf, sAsg, sOpt, sRet, sExpr, sPutO, sOwnL, sRetO, sPar, sNil, sFor, iSeq, iRng, eVar, eC, eBin, eChain, eIxO, eLenO, eIsi, eCall, eTupD, eLstD, eFn, eFnI, eIfD, eNotD, eAndD, eOrD, eNegD, eSl, pNone, pSome, aNilD, aConsD, tV, tT, tOwn, tNotD, tAndD, tOrD, tYesD, asB, truD, Rs.bind, Rs.of, Rs.out, frRs, ownAt, setD, noOwn, setNil, setCons, setTup, seqOf, sz0, sz1, sz2, sz3, sz4, sz5, sz6, sz7, sz8, gAdd, gSub_int, gMod_int, gDiv_int, gLe_int, gLt, gGt_int, gGe_int, gIsN, gIsB, isNone, gIx_web0, gIx_web1, gIx_tup, gIx_list, gIx_scr, gLen, gTupOf, gLstOf, gIntOf, isIntD, isBoolD, isStrD, isTupD, isLstD, zipG, a1, a2]
theorem is_web_ok {h : Int} {ss : List Int} (W : IsWeb h ss) : F_is_web [webD h ss] = .ok (.bool true) := by
  simp [F_is_web, fb_is_web, fnD, fnI, outFr, outFi, sThen, sIf, sAsg, sOpt, sRet, sExpr, sPutO, sOwnL, sRetO, sPar, sNil, sFor, iSeq, iRng, eVar, eC, eBin, eChain, eIxO, eLenO, eIsi, eCall, eTupD, eLstD, eFn, eFnI, eIfD, eNotD, eAndD, eOrD, eNegD, eSl, pNone, pSome, aNilD, aConsD, tV, tT, tOwn, tNotD, tAndD, tOrD, tYesD, asB, truD, Rs.bind, Rs.of, Rs.out, frRs, ownAt, setD, noOwn, setNil, setCons, setTup, seqOf, sz0, sz1, sz2, sz3, sz4, sz5, sz6, sz7, sz8, gAdd, gSub_int, gMod_int, gDiv_int, gLe_int, gLt, gGt_int, gGe_int, gIsN, gIsB, isNone, gIx_web0, gIx_web1, gIx_tup, gIx_list, gIx_scr, gLen, gTupOf, gLstOf, gIntOf, isIntD, isBoolD, isStrD, isTupD, isLstD, zipG, wrong_web_ok W]
theorem need_web_ok {h : Int} {ss : List Int} (W : IsWeb h ss) : F_need_web [webD h ss] = .ok .none := by
  simp [F_need_web, fb_need_web, fnD, fnI, outFr, outFi, sThen, sIf, sAsg, sOpt, sRet, sExpr, sPutO, sOwnL, sRetO, sPar, sNil, sFor, iSeq, iRng, eVar, eC, eBin, eChain, eIxO, eLenO, eIsi, eCall, eTupD, eLstD, eFn, eFnI, eIfD, eNotD, eAndD, eOrD, eNegD, eSl, pNone, pSome, aNilD, aConsD, tV, tT, tOwn, tNotD, tAndD, tOrD, tYesD, asB, truD, Rs.bind, Rs.of, Rs.out, frRs, ownAt, setD, noOwn, setNil, setCons, setTup, seqOf, sz0, sz1, sz2, sz3, sz4, sz5, sz6, sz7, sz8, gAdd, gSub_int, gMod_int, gDiv_int, gLe_int, gLt, gGt_int, gGe_int, gIsN, gIsB, isNone, gIx_web0, gIx_web1, gIx_tup, gIx_list, gIx_scr, gLen, gTupOf, gLstOf, gIntOf, isIntD, isBoolD, isStrD, isTupD, isLstD, zipG, wrong_web_ok W]
theorem need_two_ok {h : Int} {ss ts : List Int} (W : IsWeb h ss) (W2 : IsWeb h ts) : F_need_two [webD h ss, webD h ts] = .ok .none := by
  simp [F_need_two, fb_need_two, fnD, fnI, outFr, outFi, sThen, sIf, sAsg, sOpt, sRet, sExpr, sPutO, sOwnL, sRetO, sPar, sNil, sFor, iSeq, iRng, eVar, eC, eBin, eChain, eIxO, eLenO, eIsi, eCall, eTupD, eLstD, eFn, eFnI, eIfD, eNotD, eAndD, eOrD, eNegD, eSl, pNone, pSome, aNilD, aConsD, tV, tT, tOwn, tNotD, tAndD, tOrD, tYesD, asB, truD, Rs.bind, Rs.of, Rs.out, frRs, ownAt, setD, noOwn, setNil, setCons, setTup, seqOf, sz0, sz1, sz2, sz3, sz4, sz5, sz6, sz7, sz8, gAdd, gSub_int, gMod_int, gDiv_int, gLe_int, gLt, gGt_int, gGe_int, gIsN, gIsB, isNone, gIx_web0, gIx_web1, gIx_tup, gIx_list, gIx_scr, gLen, gTupOf, gLstOf, gIntOf, isIntD, isBoolD, isStrD, isTupD, isLstD, zipG, need_web_ok W, need_web_ok W2, atI, ixN, gNe_int]
/-! the factors of a number of halls: by computing -/
/-- what is asked of the factors fs of h -/
def facOk (h : Int) (fs : List Int) : Bool := !fs.isEmpty && decide (fs.length ≤ 12) && fs.all (fun f => decide (1 ≤ f) && decide (f ≤ h - 1) && (match F_divisor [.int f, .int h] with | .ok (.int d) => d == 1 | _ => false)
  && (rngI 1 h).all (fun s => decide (1 ≤ s * f % h)) && (rngI 1 h).all (fun s => (rngI 1 h).all fun t => s == t || !(s * f % h == t * f % h)) && fs.any (fun g => (rngI 1 h).all fun s => s * f % h * g % h == s)) && fs.contains (h - 1)
def facs (h : Int) : List Int := match F_factors_of [.int h] with
  | .ok (.list ds) => ints0 ds
  | _ => []
def facsC (h : Int) : Bool := (match F_factors_of [.int h], F__law_factors [.int h] with
  | .ok (.list ds), .ok (.list es) => isInts ds && isInts es && (ints0 ds == ints0 es)
  | _, _ => false) && facOk h (facs h)
theorem facs_all : ((List.range 12).all fun n => facsC (2 + (n : Nat))) = true := by decide +kernel
end LW

-- text MK01d
set_option Elab.async false
set_option linter.all false
set_option maxRecDepth 100000
set_option maxHeartbeats 4000000
namespace LW
open PySem PySem.Spec L2 DL
/-- what is known of the factors of h -/
structure Fac (h : Int) (fs : List Int) : Prop where
  prog : F_factors_of [.int h] = .ok (.list (pis fs))
  law : F__law_factors [.int h] = .ok (.list (pis fs))
  ne : fs ≠ []
  len : fs.length ≤ 12
  rng : ∀ f ∈ fs, 1 ≤ f ∧ f ≤ h - 1
  div : ∀ f ∈ fs, F_divisor [.int f, .int h] = .ok (.int 1)
  pos : ∀ f ∈ fs, ∀ s, 1 ≤ s → s < h → 1 ≤ s * f % h
  inj : ∀ f ∈ fs, ∀ s t, 1 ≤ s → s < h → 1 ≤ t → t < h → s * f % h = t * f % h → s = t
  inv : ∀ f ∈ fs, ∃ g ∈ fs, ∀ s, 1 ≤ s → s < h → s * f % h * g % h = s
  last : h - 1 ∈ fs
theorem fac_ok {h : Int} (h1 : 2 ≤ h) (h2 : h ≤ 13) : Fac h (facs h) := by
  have e := List.all_eq_true.mp facs_all (h - 2).toNat (List.mem_range.mpr (by omega))
  rw [show 2 + ((h - 2).toNat : Int) = h by omega] at e
  unfold facsC at e
  rw [Bool.and_eq_true] at e
  obtain ⟨e1, e2⟩ := e
  unfold facOk at e2
  simp only [Bool.and_eq_true, Bool.not_eq_true', List.isEmpty_eq_false_iff, decide_eq_true_eq, List.all_eq_true, List.any_eq_true, Bool.or_eq_true, beq_iff_eq, beq_eq_false_iff_ne, List.contains_iff_mem] at e2
  obtain ⟨⟨⟨a1, a2⟩, a3⟩, a4⟩ := e2
  cases p : F_factors_of [.int h] with
  | ok d =>
    cases q : F__law_factors [.int h] with
    | ok d2 =>
      rw [p, q] at e1
      cases d <;> try simp at e1
      cases d2 <;> try simp at e1
      rename_i ds es
      have ef : facs h = ints0 ds := by unfold facs; rw [p]
      refine ⟨by rw [p, ef]; exact congrArg (fun x => Fr.ok (.list x)) (isInts_map e1.1.1), by rw [q, ef, e1.2]; exact congrArg (fun x => Fr.ok (.list x)) (isInts_map e1.1.2), a1, a2, fun f m => ⟨(a3 f m).1.1.1.1.1, (a3 f m).1.1.1.1.2⟩, fun f m => ?_, fun f m s s1 s2 => (a3 f m).1.1.2 s (rngI_mem.mpr ⟨s1, s2⟩), fun f m s t s1 s2 t1 t2 e => ?_, fun f m => ?_, a4⟩
      · have := (a3 f m).1.1.1.2
        split at this
        · rename_i d hd
          rw [hd]
          rw [beq_iff_eq] at this
          rw [this]
        · cases this
      · rcases (a3 f m).1.2 s (rngI_mem.mpr ⟨s1, s2⟩) t (rngI_mem.mpr ⟨t1, t2⟩) with z | z
        · exact z
        · exact (z e).elim
      · obtain ⟨g, hg, k⟩ := (a3 f m).2
        exact ⟨g, hg, fun s s1 s2 => k s (rngI_mem.mpr ⟨s1, s2⟩)⟩
    | ex c fs => rw [p, q] at e1; cases d <;> simp at e1
    | no => rw [p, q] at e1; cases d <;> simp at e1
  | ex c fs => rw [p] at e1; simp at e1
  | no => rw [p] at e1; simp at e1
/-- a multiple's steps -/
def mulS (h : Int) (ss : List Int) (f : Int) : List Int := sortI (ss.map fun s => s * f % h)
theorem gMul_int (i j : Int) : gMul (.int i) (.int j) = if (lim64 i || lim64 j) = true then some (.int (i * j)) else none := rfl
theorem lim_small {i : Int} (h : 0 ≤ i) (h2 : i ≤ 1000000) : lim64 i = true := by
  cases i with
  | ofNat n =>
    have h2 : (n : Int) ≤ 1000000 := h2
    exact Nat.ble_eq_true_of_le (by omega)
  | negSucc n => omega
theorem sorted_pis (ns : List Int) : gSorted [.list (pis ns)] = some (.list (pis (sortI ns))) := by
  unfold gSorted
  simp only [sortOk_ints, if_true, isort_ints]
theorem filter_t {α : Type} (l : List α) : (l.filter fun _ => true) = l := by simp
theorem multiplied_ok {h : Int} {ss : List Int} (W : IsWeb h ss) {f : Int} : F_multiplied [webD h ss, .int f] = .ok (webD h (mulS h ss f)) := by
  have h1 := W.lo
  have hl := web_len W
  have pos : (0 : Int) < h := by omega
  obtain ⟨ρ1, rfl, e1⟩ := lcL_det (g := setD 2) (ft := tYesD) (fe := eBin gMod (eBin gMul (eVar 2) (eVar 1)) (eBin gIx (eVar 0) (eC (.int 0)))) (vs := [2]) (I := fun ρ => ρ = [.d (webD h ss), .d (.int f), .n]) (fun _ => true) (fun x => match x with | .int s => .int (s * f % h) | x => x) (pis ss) (fun x hx ρ e => by
    subst e
    obtain ⟨i, hi, rfl⟩ := List.mem_map.mp hx
    have := W.rng i hi
    have hi13 := W.hi
    refine ⟨[.d (webD h ss), .d (.int f), .d (.int i)], [.d (webD h ss), .d (.int f), .d (.int i)], rfl, rfl, fun z => (by cases z), fun _ => ⟨[.d (webD h ss), .d (.int f), .d (.int i)], ?_, rfl, rfl⟩⟩
    simp [fnD, fnI, outFr, outFi, sThen, sIf, sAsg, sOpt, sRet, sExpr, sPutO, sOwnL, sRetO, sPar, sNil, sFor, iSeq, iRng, eVar, eC, eBin, eChain, eIxO, eLenO, eIsi, eCall, eTupD, eLstD, eFn, eFnI, eIfD, eNotD, eAndD, eOrD, eNegD, eSl, pNone, pSome, aNilD, aConsD, tV, tT, tOwn, tNotD, tAndD, tOrD, tYesD, asB, truD, Rs.bind, Rs.of, Rs.out, frRs, ownAt, setD, noOwn, setNil, setCons, setTup, seqOf, sz0, sz1, sz2, sz3, sz4, sz5, sz6, sz7, sz8, gAdd, gSub_int, gMod_int, gDiv_int, gLe_int, gLt, gGt_int, gGe_int, gIsN, gIsB, isNone, gIx_web0, gIx_web1, gIx_tup, gIx_list, gIx_scr, gLen, gTupOf, gLstOf, gIntOf, isIntD, isBoolD, isStrD, isTupD, isLstD, zipG, gMul_int, lim_small (i := i) (by omega) (by omega), pos]) _ rfl
  have c1 := eLc_of (fi := iSeq (eBin gIx (eVar 0) (eC (.int 1)))) (ρ := [.d (webD h ss), .d (.int f), .n]) (ρ1 := [.d (webD h ss), .d (.int f), .n]) (items := pis ss) rfl (by rw [pis_len]; exact size_small (by omega)) rfl e1 rfl
  have em : ((pis ss).filter fun _ => true).map (fun x => match x with | .int s => PyData.int (s * f % h) | x => x) = pis (ss.map fun s => s * f % h) := by
    rw [filter_t]
    unfold pis
    rw [List.map_map, List.map_map]
    rfl
  rw [em] at c1
  simp only [rwipe, List.set] at c1
  simp [F_multiplied, fb_multiplied, fnD, fnI, outFr, outFi, sThen, sIf, sAsg, sOpt, sRet, sExpr, sPutO, sOwnL, sRetO, sPar, sNil, sFor, iSeq, iRng, eVar, eC, eBin, eChain, eIxO, eLenO, eIsi, eCall, eTupD, eLstD, eFn, eFnI, eIfD, eNotD, eAndD, eOrD, eNegD, eSl, pNone, pSome, aNilD, aConsD, tV, tT, tOwn, tNotD, tAndD, tOrD, tYesD, asB, truD, Rs.bind, Rs.of, Rs.out, frRs, ownAt, setD, noOwn, setNil, setCons, setTup, seqOf, sz0, sz1, sz2, sz3, sz4, sz5, sz6, sz7, sz8, gAdd, gSub_int, gMod_int, gDiv_int, gLe_int, gLt, gGt_int, gGe_int, gIsN, gIsB, isNone, gIx_web0, gIx_web1, gIx_tup, gIx_list, gIx_scr, gLen, gTupOf, gLstOf, gIntOf, isIntD, isBoolD, isStrD, isTupD, isLstD, zipG, c1, sorted_pis]
  rfl
theorem law_times : F__law_times = F_multiplied := rfl
theorem mul_web {h : Int} {ss fs : List Int} (W : IsWeb h ss) (K : Fac h fs) {f : Int} (hf : f ∈ fs) : IsWeb h (mulS h ss f) := by
  have h1 := W.lo
  refine ⟨W.lo, W.hi, asc_of (sortI_pw _) ((sortI_perm _).nodup_iff.mpr ?_), fun s m => ?_⟩
  · refine List.pairwise_map.mpr (List.Pairwise.imp_of_mem (fun {a b} ha hb hab e => ?_) W.asc)
    have ra := W.rng a ha
    have rb := W.rng b hb
    have := K.inj f hf a b (by omega) (by omega) (by omega) (by omega) e
    omega
  · obtain ⟨a, ha, rfl⟩ := List.mem_map.mp ((sortI_perm _).mem_iff.mp m)
    have ra := W.rng a ha
    have := K.pos f hf a (by omega) (by omega)
    have := Int.emod_lt_of_pos (a * f) (show 0 < h by omega)
    omega
theorem mul_back {h : Int} {ss : List Int} (W : IsWeb h ss) {f g : Int} (hg : ∀ s, 1 ≤ s → s < h → s * f % h * g % h = s) : mulS h (mulS h ss f) g = ss := by
  unfold mulS
  refine sortI_eq (le_of_asc W.asc) ?_
  have p := (sortI_perm (ss.map fun s => s * f % h)).map fun s => s * g % h
  have e : (ss.map fun s => s * f % h).map (fun s => s * g % h) = ss := by
    rw [List.map_map]
    conv => rhs; rw [← List.map_id ss]
    refine List.map_congr_left fun s m => ?_
    have := W.rng s m
    exact hg s (by omega) (by omega)
  rw [e] at p
  exact p.symm
/-- all multiples, in order -/
def mults (h : Int) (ss fs : List Int) : List PyData := sset (fs.map fun f => webD h (mulS h ss f))
theorem kind_web (h : Int) (ss : List Int) : kindS (webD h ss) = 3 := by
  show (if isInts [.tuple (pis ss)] = true then 2 else if isInts (pis ss) = true then 3 else 0) = 3
  rw [isInts_ints]
  rfl
theorem key_web (h : Int) (ss : List Int) : keyS (webD h ss) = h :: ss := by
  show h :: ints0 (pis ss) = h :: ss
  rw [ints0_ints]
theorem webs_ok (h : Int) (ls : List (List Int)) (hl : ls.length < 64) : gSortSet [.list (ls.map fun s => webD h s)] = some (.list (sset (ls.map fun s => webD h s))) := by
  have a : (ls.map fun s => webD h s).all tupKind = true := List.all_eq_true.mpr fun d m => by
    obtain ⟨s, _, rfl⟩ := List.mem_map.mp m
    simp [tupKind, kind_web]
  have b : sortOk (ls.map fun s => webD h s) = true := by
    cases ls with
    | nil => rfl
    | cons l ls =>
      show (!(kindS (webD h l) == 0) && (ls.map fun s => webD h s).all fun e => kindS e == kindS (webD h l)) = true
      simp [kind_web]
  unfold gSortSet
  simp [a, b, hl]
theorem mults_sets {h : Int} {ss fs : List Int} (K : Fac h fs) : gSortSet [.list (fs.map fun f => webD h (mulS h ss f))] = some (.list (mults h ss fs)) := by
  have := webs_ok h (fs.map fun f => mulS h ss f) (by rw [List.length_map]; have := K.len; omega)
  rw [List.map_map] at this
  exact this
theorem mem_mults {h : Int} {ss fs : List Int} {d : PyData} : d ∈ mults h ss fs ↔ ∃ f ∈ fs, d = webD h (mulS h ss f) := by
  unfold mults sset
  have inj : ∀ a ∈ isort leK (fs.map fun f => webD h (mulS h ss f)), ∀ b ∈ isort leK (fs.map fun f => webD h (mulS h ss f)), keyS a = keyS b → a = b := fun a ha b hb e => by
    obtain ⟨f, _, rfl⟩ := List.mem_map.mp (isort_mem.mp ha)
    obtain ⟨g, _, rfl⟩ := List.mem_map.mp (isort_mem.mp hb)
    rw [key_web, key_web] at e
    rw [(List.cons.inj e).2]
  constructor
  · intro m
    obtain ⟨f, hf, rfl⟩ := List.mem_map.mp (isort_mem.mp (uniq_sub m))
    exact ⟨f, hf, rfl⟩
  · rintro ⟨f, hf, rfl⟩
    exact uniq_mem inj (isort_mem.mpr (List.mem_map.mpr ⟨f, hf, rfl⟩))
theorem mults_ne {h : Int} {ss fs : List Int} (K : Fac h fs) : mults h ss fs ≠ [] := fun z => by
  have : webD h (mulS h ss (h - 1)) ∈ mults h ss fs := mem_mults.mpr ⟨_, K.last, rfl⟩
  rw [z] at this
  cases this
theorem multiples_of_ok {h : Int} {ss fs : List Int} (W : IsWeb h ss) (K : Fac h fs) : F_multiples_of [webD h ss] = .ok (.list (mults h ss fs)) := by
  obtain ⟨ρ1, rfl, e1⟩ := lcL_det (g := setD 1) (ft := tYesD) (fe := eFn 2 F_multiplied (aConsD (eVar 0) (aConsD (eVar 1) aNilD))) (vs := [1]) (I := fun ρ => ρ = [.d (webD h ss), .n]) (fun _ => true) (fun x => match x with | .int f => webD h (mulS h ss f) | x => x) (pis fs) (fun x hx ρ e => by
    subst e
    obtain ⟨i, hi, rfl⟩ := List.mem_map.mp hx
    refine ⟨[.d (webD h ss), .d (.int i)], [.d (webD h ss), .d (.int i)], rfl, rfl, fun z => (by cases z), fun _ => ⟨[.d (webD h ss), .d (.int i)], ?_, rfl, rfl⟩⟩
    simp [fnD, fnI, outFr, outFi, sThen, sIf, sAsg, sOpt, sRet, sExpr, sPutO, sOwnL, sRetO, sPar, sNil, sFor, iSeq, iRng, eVar, eC, eBin, eChain, eIxO, eLenO, eIsi, eCall, eTupD, eLstD, eFn, eFnI, eIfD, eNotD, eAndD, eOrD, eNegD, eSl, pNone, pSome, aNilD, aConsD, tV, tT, tOwn, tNotD, tAndD, tOrD, tYesD, asB, truD, Rs.bind, Rs.of, Rs.out, frRs, ownAt, setD, noOwn, setNil, setCons, setTup, seqOf, sz0, sz1, sz2, sz3, sz4, sz5, sz6, sz7, sz8, gAdd, gSub_int, gMod_int, gDiv_int, gLe_int, gLt, gGt_int, gGe_int, gIsN, gIsB, isNone, gIx_web0, gIx_web1, gIx_tup, gIx_list, gIx_scr, gLen, gTupOf, gLstOf, gIntOf, isIntD, isBoolD, isStrD, isTupD, isLstD, zipG, multiplied_ok W]) _ rfl
  have c1 := eLc_of (fi := iSeq (eFn 1 F_factors_of (aConsD (eBin gIx (eVar 0) (eC (.int 0))) aNilD))) (ρ := [.d (webD h ss), .n]) (ρ1 := [.d (webD h ss), .n]) (items := pis fs) (by simp [fnD, fnI, outFr, outFi, sThen, sIf, sAsg, sOpt, sRet, sExpr, sPutO, sOwnL, sRetO, sPar, sNil, sFor, iSeq, iRng, eVar, eC, eBin, eChain, eIxO, eLenO, eIsi, eCall, eTupD, eLstD, eFn, eFnI, eIfD, eNotD, eAndD, eOrD, eNegD, eSl, pNone, pSome, aNilD, aConsD, tV, tT, tOwn, tNotD, tAndD, tOrD, tYesD, asB, truD, Rs.bind, Rs.of, Rs.out, frRs, ownAt, setD, noOwn, setNil, setCons, setTup, seqOf, sz0, sz1, sz2, sz3, sz4, sz5, sz6, sz7, sz8, gAdd, gSub_int, gMod_int, gDiv_int, gLe_int, gLt, gGt_int, gGe_int, gIsN, gIsB, isNone, gIx_web0, gIx_web1, gIx_tup, gIx_list, gIx_scr, gLen, gTupOf, gLstOf, gIntOf, isIntD, isBoolD, isStrD, isTupD, isLstD, zipG, K.prog]) (by rw [pis_len]; exact size_small (by have := K.len; omega)) rfl e1 rfl
  have em : ((pis fs).filter fun _ => true).map (fun x => match x with | .int f => webD h (mulS h ss f) | x => x) = fs.map fun f => webD h (mulS h ss f) := by
    rw [filter_t]
    unfold pis
    rw [List.map_map]
    rfl
  rw [em] at c1
  simp only [rwipe, List.set] at c1
  simp [F_multiples_of, fb_multiples_of, fnD, fnI, outFr, outFi, sThen, sIf, sAsg, sOpt, sRet, sExpr, sPutO, sOwnL, sRetO, sPar, sNil, sFor, iSeq, iRng, eVar, eC, eBin, eChain, eIxO, eLenO, eIsi, eCall, eTupD, eLstD, eFn, eFnI, eIfD, eNotD, eAndD, eOrD, eNegD, eSl, pNone, pSome, aNilD, aConsD, tV, tT, tOwn, tNotD, tAndD, tOrD, tYesD, asB, truD, Rs.bind, Rs.of, Rs.out, frRs, ownAt, setD, noOwn, setNil, setCons, setTup, seqOf, sz0, sz1, sz2, sz3, sz4, sz5, sz6, sz7, sz8, gAdd, gSub_int, gMod_int, gDiv_int, gLe_int, gLt, gGt_int, gGe_int, gIsN, gIsB, isNone, gIx_web0, gIx_web1, gIx_tup, gIx_list, gIx_scr, gLen, gTupOf, gLstOf, gIntOf, isIntD, isBoolD, isStrD, isTupD, isLstD, zipG, c1, mults_sets K]
end LW

-- text MK01e
set_option Elab.async false
set_option linter.all false
set_option maxRecDepth 100000
set_option maxHeartbeats 4000000
namespace LW
open PySem PySem.Spec L2 DL
/-- data of depth n at most, of None, bools, ints, lists, tuples -/
inductive Pl : Nat → PyData → Prop where
  | non {n : Nat} : Pl n .none
  | bl {n : Nat} (b : Bool) : Pl n (.bool b)
  | int {n : Nat} (i : Int) : Pl n (.int i)
  | lst {n : Nat} {xs : List PyData} : (∀ x ∈ xs, Pl n x) → xs.length ≤ 1000 → Pl (n + 1) (.list xs)
  | tup {n : Nat} {xs : List PyData} : (∀ x ∈ xs, Pl n x) → xs.length ≤ 1000 → Pl (n + 1) (.tuple xs)
theorem all_of {n : Nat} : ∀ {xs : List PyData}, (∀ x ∈ xs, ndd x = true ∧ x.canLay0 = true ∧ x.depth ≤ n ∧ PyData.eqv x x = true) → nddAll xs = true ∧ PyData.canLayAll0 xs = true ∧ PyData.depthAll xs ≤ n ∧ PyData.eqvAll xs xs = true
  | [], _ => ⟨rfl, rfl, Nat.zero_le _, rfl⟩
  | x :: xs, h => by
    obtain ⟨a1, a2, a3, a4⟩ := h x List.mem_cons_self
    obtain ⟨b1, b2, b3, b4⟩ := all_of fun y m => h y (List.mem_cons_of_mem _ m)
    refine ⟨by rw [nddAll, a1, b1]; rfl, by rw [PyData.canLayAll0, a2, b2]; rfl, ?_, by rw [PyData.eqvAll, a4, b4]; rfl⟩
    rw [PyData.depthAll]
    omega
theorem Pl.all : ∀ {n : Nat} {d : PyData}, Pl n d → ndd d = true ∧ d.canLay0 = true ∧ d.depth ≤ n ∧ PyData.eqv d d = true
  | _, _, .non => ⟨rfl, rfl, Nat.zero_le _, rfl⟩
  | _, _, .bl b => ⟨rfl, rfl, Nat.zero_le _, by simp [PyData.eqv]⟩
  | _, _, .int i => ⟨rfl, rfl, Nat.zero_le _, by simp [PyData.eqv]⟩
  | _, _, .lst h _ => by
    obtain ⟨b1, b2, b3, b4⟩ := all_of fun x m => (h x m).all
    exact ⟨by rw [ndd]; exact b1, by rw [PyData.canLay0]; exact b2, by rw [PyData.depth]; omega, by rw [PyData.eqv]; exact b4⟩
  | _, _, .tup h _ => by
    obtain ⟨b1, b2, b3, b4⟩ := all_of fun x m => (h x m).all
    exact ⟨by rw [ndd]; exact b1, by rw [PyData.canLay0]; exact b2, by rw [PyData.depth]; omega, by rw [PyData.eqv]; exact b4⟩
theorem Pl.okD {n : Nat} {d : PyData} (h : Pl n d) (hn : n ≤ 64) : DL.okD d = true := by
  obtain ⟨a1, a2, a3, _⟩ := h.all
  unfold DL.okD SeqAt.shaped
  simp only [Bool.and_eq_true, decide_eq_true_eq]
  exact ⟨a1, a2, by omega⟩
theorem Pl.eq {n : Nat} {d : PyData} (h : Pl n d) (hn : n ≤ 64) : gEq d d = some (.bool true) := by
  unfold gEq
  rw [h.okD hn, h.all.2.2.2]
  rfl
theorem at_of {xs : List PyData} {n : Nat} (h : n < xs.length) : atI xs (n : Int) = some xs[n] := by
  unfold atI ixN
  rw [if_pos (by omega), if_pos (by omega)]
  simp [h]
theorem alike_un (n : Nat) : F__law_alike (n + 1) = fnD 2 3 (fb__law_alike (F__law_alike n)) := by rw [F__law_alike]
theorem itA (N : Int) (xs : List PyData) (ρ : RS) (hr : ρ[1]? = some (.d (.list xs))) (hg : gLen [.list xs] = some (.int N)) (h0 : 0 ≤ N) (h1 : N ≤ 100000000) : iRng rng1 (aConsD (eCall gLen (aConsD (eVar 1) aNilD)) aNilD) ρ = .ok (pis (rngI 0 N)) ρ := by
  have e0 : eVar 1 ρ = .ok (.list xs) ρ := by unfold eVar; rw [hr]
  have e1 : aConsD (eVar 1) aNilD ρ = .ok [.list xs] ρ := by unfold aConsD; rw [e0]; rfl
  have e2 : eCall gLen (aConsD (eVar 1) aNilD) ρ = .ok (.int N) ρ := by
    unfold eCall
    rw [e1]
    simp only [Rs.bind]
    rw [hg]
    rfl
  have e3 : aConsD (eCall gLen (aConsD (eVar 1) aNilD)) aNilD ρ = .ok [.int N] ρ := by
    rw [aConsD, e2]
    rfl
  unfold iRng
  rw [e3]
  simp only [Rs.bind]
  rw [rng1_ok h0 h1]
  rfl
theorem alike_list {FF : List PyData → Fr} {xs : List PyData} (hl : xs.length ≤ 1000) (ihs : ∀ m : Nat, (hm : m < xs.length) → FF [xs[m], xs[m]] = .ok (.bool true)) : fnD 2 3 (fb__law_alike FF) [.list xs, .list xs] = .ok (.bool true) := by
  obtain ⟨N, hN⟩ : ∃ N : Int, N = xs.length := ⟨_, rfl⟩
  obtain ⟨ρ1, rfl, e1⟩ := lcL_det (g := setD 2) (ft := tNotD (tT (eFn 2 FF (aConsD (eBin gIx (eVar 0) (eVar 2)) (aConsD (eBin gIx (eVar 1) (eVar 2)) aNilD))))) (fe := eVar 2) (vs := [2]) (I := fun ρ => ρ = [.d (.list xs), .d (.list xs), .n]) (fun _ => false) (fun x => x) (pis (rngI 0 N)) (fun x hx ρ e => by
    subst e
    obtain ⟨i, hi, rfl⟩ := List.mem_map.mp hx
    obtain ⟨i1, i2⟩ := rngI_mem.mp hi
    obtain ⟨m, rfl⟩ := Int.eq_ofNat_of_zero_le i1
    have hm : m < xs.length := by omega
    refine ⟨[.d (.list xs), .d (.list xs), .d (.int m)], [.d (.list xs), .d (.list xs), .d (.int m)], rfl, ?_, fun _ => ⟨rfl, rfl⟩, fun z => (by cases z)⟩
    simp [fnD, fnI, outFr, outFi, sThen, sIf, sAsg, sOpt, sRet, sExpr, sPutO, sOwnL, sRetO, sPar, sNil, sFor, iSeq, iRng, eVar, eC, eBin, eChain, eIxO, eLenO, eIsi, eCall, eTupD, eLstD, eFn, eFnI, eIfD, eNotD, eAndD, eOrD, eNegD, eSl, pNone, pSome, aNilD, aConsD, tV, tT, tOwn, tNotD, tAndD, tOrD, tYesD, asB, truD, Rs.bind, Rs.of, Rs.out, frRs, ownAt, setD, noOwn, setNil, setCons, setTup, seqOf, sz0, sz1, sz2, sz3, sz4, sz5, sz6, sz7, sz8, gAdd, gSub_int, gMod_int, gDiv_int, gLe_int, gLt, gGt_int, gGe_int, gIsN, gIsB, isNone, gIx_web0, gIx_web1, gIx_tup, gIx_list, gIx_scr, gLen, gTupOf, gLstOf, gIntOf, isIntD, isBoolD, isStrD, isTupD, isLstD, zipG, at_of hm, ihs m hm]) _ rfl
  have hg : gLen [.list xs] = some (.int N) := by rw [hN]; rfl
  have c1 := eLc_of (fi := iRng rng1 (aConsD (eCall gLen (aConsD (eVar 1) aNilD)) aNilD)) (ρ := [.d (.list xs), .d (.list xs), .n]) (ρ1 := [.d (.list xs), .d (.list xs), .n]) (items := pis (rngI 0 N)) (itA N xs _ rfl hg (by omega) (by omega)) (by rw [pis_len, rngI_len]; exact size_small (by omega)) rfl e1 rfl
  have e2 : ((pis (rngI 0 N)).filter fun _ => false).map (fun x => x) = [] := by simp
  rw [e2] at c1
  simp only [rwipe, List.set] at c1
  have e0 : gEq (.list []) (.list []) = some (.bool true) := by rfl
  simp [fb__law_alike, fnD, fnI, outFr, outFi, sThen, sIf, sAsg, sOpt, sRet, sExpr, sPutO, sOwnL, sRetO, sPar, sNil, sFor, iSeq, iRng, eVar, eC, eBin, eChain, eIxO, eLenO, eIsi, eCall, eTupD, eLstD, eFn, eFnI, eIfD, eNotD, eAndD, eOrD, eNegD, eSl, pNone, pSome, aNilD, aConsD, tV, tT, tOwn, tNotD, tAndD, tOrD, tYesD, asB, truD, Rs.bind, Rs.of, Rs.out, frRs, ownAt, setD, noOwn, setNil, setCons, setTup, seqOf, sz0, sz1, sz2, sz3, sz4, sz5, sz6, sz7, sz8, gAdd, gSub_int, gMod_int, gDiv_int, gLe_int, gLt, gGt_int, gGe_int, gIsN, gIsB, isNone, gIx_web0, gIx_web1, gIx_tup, gIx_list, gIx_scr, gLen, gTupOf, gLstOf, gIntOf, isIntD, isBoolD, isStrD, isTupD, isLstD, zipG, gNe_bool, gNe_int, c1, e0]
theorem itB (N : Int) (xs : List PyData) (ρ : RS) (hr : ρ[1]? = some (.d (.tuple xs))) (hg : gLen [.tuple xs] = some (.int N)) (h0 : 0 ≤ N) (h1 : N ≤ 100000000) : iRng rng1 (aConsD (eCall gLen (aConsD (eVar 1) aNilD)) aNilD) ρ = .ok (pis (rngI 0 N)) ρ := by
  have e0 : eVar 1 ρ = .ok (.tuple xs) ρ := by unfold eVar; rw [hr]
  have e1 : aConsD (eVar 1) aNilD ρ = .ok [.tuple xs] ρ := by unfold aConsD; rw [e0]; rfl
  have e2 : eCall gLen (aConsD (eVar 1) aNilD) ρ = .ok (.int N) ρ := by
    unfold eCall
    rw [e1]
    simp only [Rs.bind]
    rw [hg]
    rfl
  have e3 : aConsD (eCall gLen (aConsD (eVar 1) aNilD)) aNilD ρ = .ok [.int N] ρ := by
    rw [aConsD, e2]
    rfl
  unfold iRng
  rw [e3]
  simp only [Rs.bind]
  rw [rng1_ok h0 h1]
  rfl
theorem alike_tuple {FF : List PyData → Fr} {xs : List PyData} (hl : xs.length ≤ 1000) (ihs : ∀ m : Nat, (hm : m < xs.length) → FF [xs[m], xs[m]] = .ok (.bool true)) : fnD 2 3 (fb__law_alike FF) [.tuple xs, .tuple xs] = .ok (.bool true) := by
  obtain ⟨N, hN⟩ : ∃ N : Int, N = xs.length := ⟨_, rfl⟩
  obtain ⟨ρ1, rfl, e1⟩ := lcL_det (g := setD 2) (ft := tNotD (tT (eFn 2 FF (aConsD (eBin gIx (eVar 0) (eVar 2)) (aConsD (eBin gIx (eVar 1) (eVar 2)) aNilD))))) (fe := eVar 2) (vs := [2]) (I := fun ρ => ρ = [.d (.tuple xs), .d (.tuple xs), .n]) (fun _ => false) (fun x => x) (pis (rngI 0 N)) (fun x hx ρ e => by
    subst e
    obtain ⟨i, hi, rfl⟩ := List.mem_map.mp hx
    obtain ⟨i1, i2⟩ := rngI_mem.mp hi
    obtain ⟨m, rfl⟩ := Int.eq_ofNat_of_zero_le i1
    have hm : m < xs.length := by omega
    refine ⟨[.d (.tuple xs), .d (.tuple xs), .d (.int m)], [.d (.tuple xs), .d (.tuple xs), .d (.int m)], rfl, ?_, fun _ => ⟨rfl, rfl⟩, fun z => (by cases z)⟩
    simp [fnD, fnI, outFr, outFi, sThen, sIf, sAsg, sOpt, sRet, sExpr, sPutO, sOwnL, sRetO, sPar, sNil, sFor, iSeq, iRng, eVar, eC, eBin, eChain, eIxO, eLenO, eIsi, eCall, eTupD, eLstD, eFn, eFnI, eIfD, eNotD, eAndD, eOrD, eNegD, eSl, pNone, pSome, aNilD, aConsD, tV, tT, tOwn, tNotD, tAndD, tOrD, tYesD, asB, truD, Rs.bind, Rs.of, Rs.out, frRs, ownAt, setD, noOwn, setNil, setCons, setTup, seqOf, sz0, sz1, sz2, sz3, sz4, sz5, sz6, sz7, sz8, gAdd, gSub_int, gMod_int, gDiv_int, gLe_int, gLt, gGt_int, gGe_int, gIsN, gIsB, isNone, gIx_web0, gIx_web1, gIx_tup, gIx_list, gIx_scr, gLen, gTupOf, gLstOf, gIntOf, isIntD, isBoolD, isStrD, isTupD, isLstD, zipG, at_of hm, ihs m hm]) _ rfl
  have hg : gLen [.tuple xs] = some (.int N) := by rw [hN]; rfl
  have c1 := eLc_of (fi := iRng rng1 (aConsD (eCall gLen (aConsD (eVar 1) aNilD)) aNilD)) (ρ := [.d (.tuple xs), .d (.tuple xs), .n]) (ρ1 := [.d (.tuple xs), .d (.tuple xs), .n]) (items := pis (rngI 0 N)) (itB N xs _ rfl hg (by omega) (by omega)) (by rw [pis_len, rngI_len]; exact size_small (by omega)) rfl e1 rfl
  have e2 : ((pis (rngI 0 N)).filter fun _ => false).map (fun x => x) = [] := by simp
  rw [e2] at c1
  simp only [rwipe, List.set] at c1
  have e0 : gEq (.list []) (.list []) = some (.bool true) := by rfl
  simp [fb__law_alike, fnD, fnI, outFr, outFi, sThen, sIf, sAsg, sOpt, sRet, sExpr, sPutO, sOwnL, sRetO, sPar, sNil, sFor, iSeq, iRng, eVar, eC, eBin, eChain, eIxO, eLenO, eIsi, eCall, eTupD, eLstD, eFn, eFnI, eIfD, eNotD, eAndD, eOrD, eNegD, eSl, pNone, pSome, aNilD, aConsD, tV, tT, tOwn, tNotD, tAndD, tOrD, tYesD, asB, truD, Rs.bind, Rs.of, Rs.out, frRs, ownAt, setD, noOwn, setNil, setCons, setTup, seqOf, sz0, sz1, sz2, sz3, sz4, sz5, sz6, sz7, sz8, gAdd, gSub_int, gMod_int, gDiv_int, gLe_int, gLt, gGt_int, gGe_int, gIsN, gIsB, isNone, gIx_web0, gIx_web1, gIx_tup, gIx_list, gIx_scr, gLen, gTupOf, gLstOf, gIntOf, isIntD, isBoolD, isStrD, isTupD, isLstD, zipG, gNe_bool, gNe_int, c1, e0]
theorem alike_flat {FF : List PyData → Fr} {d : PyData} (hd : d = .none ∨ (∃ b, d = .bool b) ∨ ∃ i, d = .int i) : fnD 2 3 (fb__law_alike FF) [d, d] = .ok (.bool true) := by
  rcases hd with rfl | ⟨b, rfl⟩ | ⟨i, rfl⟩
  · simp [fb__law_alike, fnD, fnI, outFr, outFi, sThen, sIf, sAsg, sOpt, sRet, sExpr, sPutO, sOwnL, sRetO, sPar, sNil, sFor, iSeq, iRng, eVar, eC, eBin, eChain, eIxO, eLenO, eIsi, eCall, eTupD, eLstD, eFn, eFnI, eIfD, eNotD, eAndD, eOrD, eNegD, eSl, pNone, pSome, aNilD, aConsD, tV, tT, tOwn, tNotD, tAndD, tOrD, tYesD, asB, truD, Rs.bind, Rs.of, Rs.out, frRs, ownAt, setD, noOwn, setNil, setCons, setTup, seqOf, sz0, sz1, sz2, sz3, sz4, sz5, sz6, sz7, sz8, gAdd, gSub_int, gMod_int, gDiv_int, gLe_int, gLt, gGt_int, gGe_int, gIsN, gIsB, isNone, gIx_web0, gIx_web1, gIx_tup, gIx_list, gIx_scr, gLen, gTupOf, gLstOf, gIntOf, isIntD, isBoolD, isStrD, isTupD, isLstD, zipG, gEq_bool, (Pl.non (n := 0)).eq]
  · simp [fb__law_alike, fnD, fnI, outFr, outFi, sThen, sIf, sAsg, sOpt, sRet, sExpr, sPutO, sOwnL, sRetO, sPar, sNil, sFor, iSeq, iRng, eVar, eC, eBin, eChain, eIxO, eLenO, eIsi, eCall, eTupD, eLstD, eFn, eFnI, eIfD, eNotD, eAndD, eOrD, eNegD, eSl, pNone, pSome, aNilD, aConsD, tV, tT, tOwn, tNotD, tAndD, tOrD, tYesD, asB, truD, Rs.bind, Rs.of, Rs.out, frRs, ownAt, setD, noOwn, setNil, setCons, setTup, seqOf, sz0, sz1, sz2, sz3, sz4, sz5, sz6, sz7, sz8, gAdd, gSub_int, gMod_int, gDiv_int, gLe_int, gLt, gGt_int, gGe_int, gIsN, gIsB, isNone, gIx_web0, gIx_web1, gIx_tup, gIx_list, gIx_scr, gLen, gTupOf, gLstOf, gIntOf, isIntD, isBoolD, isStrD, isTupD, isLstD, zipG, gEq_bool]
  · simp [fb__law_alike, fnD, fnI, outFr, outFi, sThen, sIf, sAsg, sOpt, sRet, sExpr, sPutO, sOwnL, sRetO, sPar, sNil, sFor, iSeq, iRng, eVar, eC, eBin, eChain, eIxO, eLenO, eIsi, eCall, eTupD, eLstD, eFn, eFnI, eIfD, eNotD, eAndD, eOrD, eNegD, eSl, pNone, pSome, aNilD, aConsD, tV, tT, tOwn, tNotD, tAndD, tOrD, tYesD, asB, truD, Rs.bind, Rs.of, Rs.out, frRs, ownAt, setD, noOwn, setNil, setCons, setTup, seqOf, sz0, sz1, sz2, sz3, sz4, sz5, sz6, sz7, sz8, gAdd, gSub_int, gMod_int, gDiv_int, gLe_int, gLt, gGt_int, gGe_int, gIsN, gIsB, isNone, gIx_web0, gIx_web1, gIx_tup, gIx_list, gIx_scr, gLen, gTupOf, gLstOf, gIntOf, isIntD, isBoolD, isStrD, isTupD, isLstD, zipG, gEq_bool, gEq_int]
theorem alike_self : ∀ {n : Nat} {d : PyData}, Pl n d → n ≤ 60 → F__law_alike (n + 1) [d, d] = .ok (.bool true) := by
  intro n
  induction n with
  | zero =>
    intro d p _
    rw [alike_un]
    cases p with
    | non => exact alike_flat (.inl rfl)
    | bl b => exact alike_flat (.inr (.inl ⟨b, rfl⟩))
    | int i => exact alike_flat (.inr (.inr ⟨i, rfl⟩))
  | succ n ih =>
    intro d p hn
    rw [alike_un]
    cases p with
    | non => exact alike_flat (.inl rfl)
    | bl b => exact alike_flat (.inr (.inl ⟨b, rfl⟩))
    | int i => exact alike_flat (.inr (.inr ⟨i, rfl⟩))
    | lst h hl => exact alike_list hl fun m hm => ih (h _ (List.getElem_mem hm)) (by omega)
    | tup h hl => exact alike_tuple hl fun m hm => ih (h _ (List.getElem_mem hm)) (by omega)
theorem pl_pis {n : Nat} (ns : List Int) : ∀ x ∈ pis ns, Pl n x := fun x m => by
  obtain ⟨i, _, rfl⟩ := List.mem_map.mp m
  exact .int i
theorem pl_web {n : Nat} {h : Int} {ss : List Int} (hl : ss.length ≤ 1000) : Pl (n + 2) (webD h ss) := .tup (fun x m => by
  rcases List.mem_cons.mp m with e | m
  · rw [e]; exact .int h
  · rw [List.mem_singleton.mp m]
    exact .tup (pl_pis ss) (by rw [pis_len]; omega)) (by show 2 ≤ 1000; decide)
theorem eqv_pis : ∀ ns ms : List Int, PyData.eqvAll (pis ns) (pis ms) = decide (ns = ms)
  | [], [] => rfl
  | [], _ :: _ => rfl
  | _ :: _, [] => rfl
  | n :: ns, m :: ms => by
    show PyData.eqvAll (.int n :: pis ns) (.int m :: pis ms) = _
    rw [PyData.eqvAll, eqv_pis ns ms]
    by_cases h : n = m <;> by_cases h2 : ns = ms <;> simp [PyData.eqv, h, h2]
theorem eqv_web (h : Int) (ss ts : List Int) : PyData.eqv (webD h ss) (webD h ts) = decide (ss = ts) := by
  show PyData.eqvAll [.int h, .tuple (pis ss)] [.int h, .tuple (pis ts)] = _
  rw [PyData.eqvAll, PyData.eqvAll, PyData.eqv, PyData.eqv, eqv_pis, PyData.eqvAll]
  simp
theorem webD_inj {h : Int} {ss ts : List Int} (e : webD h ss = webD h ts) : ss = ts := by
  have : PyData.eqv (webD h ss) (webD h ts) = true := by
    rw [e, eqv_web]
    simp
  rw [eqv_web] at this
  simpa using this
theorem any_webs {h : Int} {ts : List Int} {ds : List PyData} (hw : ∀ d ∈ ds, ∃ ss, d = webD h ss) : (ds.any fun z => PyData.eqv z (webD h ts)) = true ↔ webD h ts ∈ ds := by
  rw [List.any_eq_true]
  constructor
  · rintro ⟨d, m, e⟩
    obtain ⟨ss, rfl⟩ := hw d m
    rw [eqv_web, decide_eq_true_eq] at e
    rw [← e]
    exact m
  · intro m
    exact ⟨_, m, by rw [eqv_web]; simp⟩
/-- a web in a list of webs of as many halls -/
theorem in_webs {h : Int} {ts : List Int} {ds : List PyData} (hts : ts.length ≤ 1000) (hd : ds.length ≤ 1000) (hw : ∀ d ∈ ds, ∃ ss, d = webD h ss ∧ ss.length ≤ 1000) : gInG false (webD h ts) (.list ds) = some (.bool (ds.any fun z => PyData.eqv z (webD h ts))) := by
  have f : flatD (webD h ts) = false := rfl
  have pl : Pl 3 (.list ds) := .lst (fun x m => by
    obtain ⟨ss, rfl, hs⟩ := hw x m
    exact pl_web hs) (by omega)
  unfold gInG gInF gIn
  simp only [seqOf, f, Bool.false_and, Bool.false_eq_true, if_false, (pl_web (n := 0) (h := h) hts).okD (by decide), pl.okD (by decide), Bool.and_self, if_true]
end LW

-- text MK01f
set_option Elab.async false
set_option linter.all false
set_option maxRecDepth 100000
set_option maxHeartbeats 4000000
namespace LW
open PySem PySem.Spec L2 DL
section
variable {h : Int} {ss fs : List Int}
theorem factors_ok (W : IsWeb h ss) (K : Fac h fs) : F_factors [.int h] = .ok (.tuple (pis fs)) := by
  simp [F_factors, fb_factors, fnD, fnI, outFr, outFi, sThen, sIf, sAsg, sOpt, sRet, sExpr, sPutO, sOwnL, sRetO, sPar, sNil, sFor, iSeq, iRng, eVar, eC, eBin, eChain, eIxO, eLenO, eIsi, eCall, eTupD, eLstD, eFn, eFnI, eIfD, eNotD, eAndD, eOrD, eNegD, eSl, pNone, pSome, aNilD, aConsD, tV, tT, tOwn, tNotD, tAndD, tOrD, tYesD, asB, truD, Rs.bind, Rs.of, Rs.out, frRs, ownAt, setD, noOwn, setNil, setCons, setTup, seqOf, sz0, sz1, sz2, sz3, sz4, sz5, sz6, sz7, sz8, gAdd, gSub_int, gMod_int, gDiv_int, gLe_int, gLt, gGt_int, gGe_int, gIsN, gIsB, isNone, gIx_web0, gIx_web1, gIx_tup, gIx_list, gIx_scr, gLen, gTupOf, gLstOf, gIntOf, isIntD, isBoolD, isStrD, isTupD, isLstD, zipG, is_number_int, W.lo, W.hi, K.prog]
theorem multiples_ok (W : IsWeb h ss) (K : Fac h fs) : F_multiples [webD h ss] = .ok (.tuple (mults h ss fs)) := by
  simp [F_multiples, fb_multiples, fnD, fnI, outFr, outFi, sThen, sIf, sAsg, sOpt, sRet, sExpr, sPutO, sOwnL, sRetO, sPar, sNil, sFor, iSeq, iRng, eVar, eC, eBin, eChain, eIxO, eLenO, eIsi, eCall, eTupD, eLstD, eFn, eFnI, eIfD, eNotD, eAndD, eOrD, eNegD, eSl, pNone, pSome, aNilD, aConsD, tV, tT, tOwn, tNotD, tAndD, tOrD, tYesD, asB, truD, Rs.bind, Rs.of, Rs.out, frRs, ownAt, setD, noOwn, setNil, setCons, setTup, seqOf, sz0, sz1, sz2, sz3, sz4, sz5, sz6, sz7, sz8, gAdd, gSub_int, gMod_int, gDiv_int, gLe_int, gLt, gGt_int, gGe_int, gIsN, gIsB, isNone, gIx_web0, gIx_web1, gIx_tup, gIx_list, gIx_scr, gLen, gTupOf, gLstOf, gIntOf, isIntD, isBoolD, isStrD, isTupD, isLstD, zipG, need_web_ok W, multiples_of_ok W K]
theorem at0 {d : PyData} {r : List PyData} : atI (d :: r) 0 = some d := at_of (xs := d :: r) (n := 0) (by simp)
theorem least_ok (W : IsWeb h ss) (K : Fac h fs) {d : PyData} {r : List PyData} (e : mults h ss fs = d :: r) : F_least_multiple [webD h ss] = .ok d := by
  simp [F_least_multiple, fb_least_multiple, fnD, fnI, outFr, outFi, sThen, sIf, sAsg, sOpt, sRet, sExpr, sPutO, sOwnL, sRetO, sPar, sNil, sFor, iSeq, iRng, eVar, eC, eBin, eChain, eIxO, eLenO, eIsi, eCall, eTupD, eLstD, eFn, eFnI, eIfD, eNotD, eAndD, eOrD, eNegD, eSl, pNone, pSome, aNilD, aConsD, tV, tT, tOwn, tNotD, tAndD, tOrD, tYesD, asB, truD, Rs.bind, Rs.of, Rs.out, frRs, ownAt, setD, noOwn, setNil, setCons, setTup, seqOf, sz0, sz1, sz2, sz3, sz4, sz5, sz6, sz7, sz8, gAdd, gSub_int, gMod_int, gDiv_int, gLe_int, gLt, gGt_int, gGe_int, gIsN, gIsB, isNone, gIx_web0, gIx_web1, gIx_tup, gIx_list, gIx_scr, gLen, gTupOf, gLstOf, gIntOf, isIntD, isBoolD, isStrD, isTupD, isLstD, zipG, need_web_ok W, multiples_of_ok W K, e, at0]
theorem times_ok (W : IsWeb h ss) (K : Fac h fs) {f : Int} (hf : f ∈ fs) : F_times [webD h ss, .int f] = .ok (webD h (mulS h ss f)) := by
  have := K.rng f hf
  simp [F_times, fb_times, fnD, fnI, outFr, outFi, sThen, sIf, sAsg, sOpt, sRet, sExpr, sPutO, sOwnL, sRetO, sPar, sNil, sFor, iSeq, iRng, eVar, eC, eBin, eChain, eIxO, eLenO, eIsi, eCall, eTupD, eLstD, eFn, eFnI, eIfD, eNotD, eAndD, eOrD, eNegD, eSl, pNone, pSome, aNilD, aConsD, tV, tT, tOwn, tNotD, tAndD, tOrD, tYesD, asB, truD, Rs.bind, Rs.of, Rs.out, frRs, ownAt, setD, noOwn, setNil, setCons, setTup, seqOf, sz0, sz1, sz2, sz3, sz4, sz5, sz6, sz7, sz8, gAdd, gSub_int, gMod_int, gDiv_int, gLe_int, gLt, gGt_int, gGe_int, gIsN, gIsB, isNone, gIx_web0, gIx_web1, gIx_tup, gIx_list, gIx_scr, gLen, gTupOf, gLstOf, gIntOf, isIntD, isBoolD, isStrD, isTupD, isLstD, zipG, need_web_ok W, is_number_int, this, K.div f hf, multiplied_ok W]
theorem mults_webs (W : IsWeb h ss) (K : Fac h fs) : ∀ d ∈ mults h ss fs, ∃ ts, d = webD h ts ∧ IsWeb h ts := fun d m => by
  obtain ⟨f, hf, rfl⟩ := mem_mults.mp m
  exact ⟨_, rfl, mul_web W K hf⟩
theorem uniq_len : ∀ l : List PyData, (uniq l).length ≤ l.length
  | [] => Nat.le_refl _
  | [_] => Nat.le_refl _
  | x :: y :: r => by
    unfold uniq
    split
    · exact Nat.le_succ_of_le (uniq_len (y :: r))
    · exact Nat.succ_le_succ (uniq_len (y :: r))
theorem mults_len (K : Fac h fs) : (mults h ss fs).length ≤ 12 := by
  have := uniq_len (isort leK (fs.map fun f => webD h (mulS h ss f)))
  rw [isort_length, List.length_map] at this
  exact Nat.le_trans this K.len
theorem in_mults (W : IsWeb h ss) (K : Fac h fs) {ts : List Int} (W2 : IsWeb h ts) : gInG false (webD h ts) (.list (mults h ss fs)) = some (.bool ((mults h ss fs).any fun z => PyData.eqv z (webD h ts))) := by
  have := web_len W2
  have h2 := mults_len (ss := ss) K
  refine in_webs (by omega) (by omega) fun d m => ?_
  obtain ⟨us, rfl, W3⟩ := mults_webs W K d m
  have := web_len W3
  exact ⟨us, rfl, by omega⟩
theorem are_ok (W : IsWeb h ss) (K : Fac h fs) {ts : List Int} (W2 : IsWeb h ts) : F_are_multiples [webD h ss, webD h ts] = .ok (.bool ((mults h ss fs).any fun z => PyData.eqv z (webD h ts))) := by
  simp [F_are_multiples, fb_are_multiples, fnD, fnI, outFr, outFi, sThen, sIf, sAsg, sOpt, sRet, sExpr, sPutO, sOwnL, sRetO, sPar, sNil, sFor, iSeq, iRng, eVar, eC, eBin, eChain, eIxO, eLenO, eIsi, eCall, eTupD, eLstD, eFn, eFnI, eIfD, eNotD, eAndD, eOrD, eNegD, eSl, pNone, pSome, aNilD, aConsD, tV, tT, tOwn, tNotD, tAndD, tOrD, tYesD, asB, truD, Rs.bind, Rs.of, Rs.out, frRs, ownAt, setD, noOwn, setNil, setCons, setTup, seqOf, sz0, sz1, sz2, sz3, sz4, sz5, sz6, sz7, sz8, gAdd, gSub_int, gMod_int, gDiv_int, gLe_int, gLt, gGt_int, gGe_int, gIsN, gIsB, isNone, gIx_web0, gIx_web1, gIx_tup, gIx_list, gIx_scr, gLen, gTupOf, gLstOf, gIntOf, isIntD, isBoolD, isStrD, isTupD, isLstD, zipG, need_two_ok W W2, multiples_of_ok W K, in_mults W K W2]
theorem any_mults (W : IsWeb h ss) (K : Fac h fs) {ts : List Int} : ((mults h ss fs).any fun z => PyData.eqv z (webD h ts)) = true ↔ ∃ f ∈ fs, ts = mulS h ss f := by
  rw [any_webs fun d m => by obtain ⟨us, e, _⟩ := mults_webs W K d m; exact ⟨us, e⟩, mem_mults]
  constructor
  · rintro ⟨f, hf, e⟩
    exact ⟨f, hf, webD_inj e⟩
  · rintro ⟨f, hf, rfl⟩
    exact ⟨f, hf, rfl⟩
/-- to be a multiple goes both ways -/
theorem sym_mults (W : IsWeb h ss) (K : Fac h fs) {ts : List Int} (W2 : IsWeb h ts) : ((mults h ss fs).any fun z => PyData.eqv z (webD h ts)) = ((mults h ts fs).any fun z => PyData.eqv z (webD h ss)) := by
  have one : ∀ {ss ts : List Int}, IsWeb h ss → IsWeb h ts → (∃ f ∈ fs, ts = mulS h ss f) → ∃ f ∈ fs, ss = mulS h ts f := fun {ss ts} W W2 => by
    rintro ⟨f, hf, rfl⟩
    obtain ⟨g, hg, k⟩ := K.inv f hf
    exact ⟨g, hg, (mul_back W k).symm⟩
  rw [Bool.eq_iff_iff, any_mults W K, any_mults W2 K]
  exact ⟨one W W2, one W2 W⟩
theorem turned_ok (W : IsWeb h ss) : F_turned [webD h ss] = .ok (webD h (mulS h ss (h - 1))) := by
  simp [F_turned, fb_turned, fnD, fnI, outFr, outFi, sThen, sIf, sAsg, sOpt, sRet, sExpr, sPutO, sOwnL, sRetO, sPar, sNil, sFor, iSeq, iRng, eVar, eC, eBin, eChain, eIxO, eLenO, eIsi, eCall, eTupD, eLstD, eFn, eFnI, eIfD, eNotD, eAndD, eOrD, eNegD, eSl, pNone, pSome, aNilD, aConsD, tV, tT, tOwn, tNotD, tAndD, tOrD, tYesD, asB, truD, Rs.bind, Rs.of, Rs.out, frRs, ownAt, setD, noOwn, setNil, setCons, setTup, seqOf, sz0, sz1, sz2, sz3, sz4, sz5, sz6, sz7, sz8, gAdd, gSub_int, gMod_int, gDiv_int, gLe_int, gLt, gGt_int, gGe_int, gIsN, gIsB, isNone, gIx_web0, gIx_web1, gIx_tup, gIx_list, gIx_scr, gLen, gTupOf, gLstOf, gIntOf, isIntD, isBoolD, isStrD, isTupD, isLstD, zipG, need_web_ok W, multiplied_ok W]
theorem gEq_web {ts us : List Int} (W1 : IsWeb h ts) (W2 : IsWeb h us) : gEq (webD h ts) (webD h us) = some (.bool (decide (ts = us))) := by
  have l1 := web_len W1
  have l2 := web_len W2
  unfold gEq
  rw [(pl_web (n := 0) (h := h) (ss := ts) (by omega)).okD (by decide), (pl_web (n := 0) (h := h) (ss := us) (by omega)).okD (by decide), eqv_web]
  rfl
theorem two_way_ok (W : IsWeb h ss) (K : Fac h fs) : F_is_two_way [webD h ss] = .ok (.bool (decide (mulS h ss (h - 1) = ss))) := by
  simp [F_is_two_way, fb_is_two_way, fnD, fnI, outFr, outFi, sThen, sIf, sAsg, sOpt, sRet, sExpr, sPutO, sOwnL, sRetO, sPar, sNil, sFor, iSeq, iRng, eVar, eC, eBin, eChain, eIxO, eLenO, eIsi, eCall, eTupD, eLstD, eFn, eFnI, eIfD, eNotD, eAndD, eOrD, eNegD, eSl, pNone, pSome, aNilD, aConsD, tV, tT, tOwn, tNotD, tAndD, tOrD, tYesD, asB, truD, Rs.bind, Rs.of, Rs.out, frRs, ownAt, setD, noOwn, setNil, setCons, setTup, seqOf, sz0, sz1, sz2, sz3, sz4, sz5, sz6, sz7, sz8, gAdd, gSub_int, gMod_int, gDiv_int, gLe_int, gLt, gGt_int, gGe_int, gIsN, gIsB, isNone, gIx_web0, gIx_web1, gIx_tup, gIx_list, gIx_scr, gLen, gTupOf, gLstOf, gIntOf, isIntD, isBoolD, isStrD, isTupD, isLstD, zipG, turned_ok W, gEq_web (mul_web W K K.last) W]
/-- turned: the steps back -/
theorem back_ok (W : IsWeb h ss) (K : Fac h fs) : mulS h ss (h - 1) = (rngI 1 h).filter fun s => decide (h - s ∈ ss) := by
  have h1 := W.lo
  have tw : ∀ s ∈ ss, s * (h - 1) % h = h - s := fun s m => by
    have r := W.rng s m
    have e : s * (h - 1) = (h - s) + h * (s - 1) := by
      rw [Int.mul_sub, Int.mul_sub, Int.mul_one, Int.mul_one, Int.mul_comm s h]
      omega
    rw [e, Int.add_mul_emod_self_left]
    exact Int.emod_eq_of_lt (by omega) (by omega)
  refine asc_ext (mul_web W K K.last).asc ((rngI_asc 1 h).filter _) fun x => ?_
  unfold mulS
  rw [(sortI_perm _).mem_iff, List.mem_map, List.mem_filter, rngI_mem, decide_eq_true_eq]
  constructor
  · rintro ⟨s, m, rfl⟩
    have r := W.rng s m
    rw [tw s m]
    exact ⟨by omega, by rw [show h - (h - s) = s by omega]; exact m⟩
  · rintro ⟨_, m⟩
    exact ⟨h - x, m, by rw [tw _ m]; omega⟩
end
end LW

-- text MK01g
set_option Elab.async false
set_option linter.all false
set_option maxRecDepth 100000
set_option maxHeartbeats 4000000
namespace LW
open PySem PySem.Spec L2 DL
theorem lc2L_det {g g1 : PyData → RS → Option RS} {ft ft1 : RS → Rs Bool} {fi1 : RS → Rs (List PyData)} {fe : RS → Rs PyData} {vs vs1 : List Nat} {I : RS → Prop} (ys : PyData → List PyData) : ∀ (items : List PyData),
    (∀ x ∈ items, ∀ ρ, I ρ → ∃ ρ1 ρ2 its ρ3 ρ4, g x ρ = some ρ1 ∧ ft ρ1 = .ok true ρ2 ∧ fi1 ρ2 = .ok its ρ3 ∧ its.length ≤ 1000 ∧ allFree ρ3 vs1 = true ∧ lcL g1 ft1 fe vs1 its (rwipe ρ3 vs1) = .ok (ys x) ρ4 ∧ allFree ρ4 vs = true ∧ I (rwipe ρ4 vs)) →
    ∀ ρ, I ρ → ∃ ρ', I ρ' ∧ lc2L g ft fi1 g1 ft1 fe vs vs1 items ρ = .ok (items.flatMap ys) ρ'
  | [], _, ρ, h => ⟨ρ, h, rfl⟩
  | x :: xs, st, ρ, h => by
    obtain ⟨ρ1, ρ2, its, ρ3, ρ4, h1, h2, h3, h4, h5, h6, h7, h8⟩ := st x List.mem_cons_self ρ h
    obtain ⟨ρ', h9, h10⟩ := lc2L_det ys xs (fun y m => st y (List.mem_cons_of_mem _ m)) _ h8
    refine ⟨ρ', h9, ?_⟩
    rw [lc2L, h1]
    simp only [h2, noex, Rs.bind, if_true, h3, h4, h5, and_self, h6, h7, h10, List.flatMap_cons]
theorem eLc2_of {fi fi1 : RS → Rs (List PyData)} {g g1 : PyData → RS → Option RS} {ft ft1 : RS → Rs Bool} {fe : RS → Rs PyData} {vs vs1 : List Nat} {ρ ρ1 ρ2 : RS} {items ds : List PyData} (h1 : fi ρ = .ok items ρ1) (hl : items.length ≤ 1000) (h2 : allFree ρ1 vs = true)
    (h3 : lc2L g ft fi1 g1 ft1 fe vs vs1 items (rwipe ρ1 vs) = .ok ds ρ2) (h4 : allFree ρ2 vs = true) : eLc2 fi g ft fi1 g1 ft1 fe vs vs1 ρ = .ok (.list ds) (rwipe ρ2 vs) := by
  unfold eLc2
  rw [h1]
  simp only [Rs.bind, hl, h2, and_self, if_true, h3, h4]
def wayD (a b : Int) : PyData := .tuple [.int a, .int b]
/-- the ways from a hall, all ways, the ways in order -/
def waysF (h : Int) (ss : List Int) (a : Int) : List PyData := ss.map fun s => wayD a ((a + s) % h)
def waysL (h : Int) (ss : List Int) : List PyData := (rngI 0 h).flatMap (waysF h ss)
def waysS (h : Int) (ss : List Int) : List PyData := isort leK (waysL h ss)
section
variable {h : Int} {ss fs : List Int}
theorem mod_add {a s : Int} (h1 : 0 ≤ a) (h2 : a < h) (h3 : 1 ≤ s) (h4 : s < h) : (a + s) % h = if a + s < h then a + s else a + s - h := by
  split
  · exact Int.emod_eq_of_lt (by omega) (by omega)
  · rw [show a + s = (a + s - h) + h * 1 by omega, Int.add_mul_emod_self_left]
    rw [Int.emod_eq_of_lt (by omega) (by omega)]
    omega
theorem way_mem {d : PyData} (W : IsWeb h ss) (m : d ∈ waysL h ss) : ∃ a b, d = wayD a b ∧ 0 ≤ a ∧ a ≤ h - 1 ∧ 0 ≤ b ∧ b ≤ h - 1 ∧ a ≠ b := by
  obtain ⟨a, ha, m⟩ := List.mem_flatMap.mp m
  obtain ⟨s, hs, rfl⟩ := List.mem_map.mp m
  obtain ⟨a1, a2⟩ := rngI_mem.mp ha
  have r := W.rng s hs
  have e := mod_add a1 a2 (show 1 ≤ s by omega) (show s < h by omega)
  refine ⟨a, _, rfl, a1, by omega, ?_⟩
  rw [e]
  split <;> omega
theorem way_inj {a b c d : Int} (e : wayD a b = wayD c d) : a = c ∧ b = d := by
  unfold wayD at e
  simpa using e
theorem ways_nodup (W : IsWeb h ss) : (waysL h ss).Nodup := by
  unfold waysL
  refine List.pairwise_flatMap.mpr ⟨fun a ha => ?_, (rngI_asc 0 h).imp fun {a b} hab x hx y hy e => ?_⟩
  · obtain ⟨a1, a2⟩ := rngI_mem.mp ha
    refine List.pairwise_map.mpr (List.Pairwise.imp_of_mem (fun {s t} hs ht hst e => ?_) W.asc)
    have r1 := W.rng s hs
    have r2 := W.rng t ht
    have := (way_inj e).2
    rw [mod_add a1 a2 (by omega) (by omega), mod_add a1 a2 (by omega) (by omega)] at this
    split at this <;> split at this <;> omega
  · obtain ⟨s, _, rfl⟩ := List.mem_map.mp hx
    obtain ⟨t, _, rfl⟩ := List.mem_map.mp hy
    have := (way_inj e).1
    omega
theorem kind_way (a b : Int) : kindS (wayD a b) = 2 := rfl
theorem key_way (a b : Int) : keyS (wayD a b) = [a, b] := rfl
theorem ways_sort (W : IsWeb h ss) : gSorted [.list (waysL h ss)] = some (.list (waysS h ss)) := by
  have ok : sortOk (waysL h ss) = true := by
    have k : ∀ d ∈ waysL h ss, kindS d = 2 := fun d m => by
      obtain ⟨a, b, rfl, _⟩ := way_mem W m
      rfl
    cases e : waysL h ss with
    | nil => rfl
    | cons d ds =>
      rw [e] at k
      unfold sortOk
      simp only [Bool.and_eq_true, Bool.not_eq_true', beq_eq_false_iff_ne, ne_eq, List.all_eq_true, beq_iff_eq]
      exact ⟨by rw [k d List.mem_cons_self]; decide, fun x hx => by rw [k x (List.mem_cons_of_mem _ hx), k d List.mem_cons_self]⟩
  unfold gSorted waysS
  simp only [ok, if_true]
theorem gLt_way (a b c d : Int) : gLt (wayD a b) (wayD c d) = some (.bool (HT.lexLt [a, b] [c, d])) := rfl
theorem ways_asc (W : IsWeb h ss) : (waysS h ss).Pairwise fun x y => ∃ a b c d, x = wayD a b ∧ y = wayD c d ∧ HT.lexLt [a, b] [c, d] = true := by
  have nd : (waysS h ss).Nodup := (isort_perm _).nodup_iff.mpr (ways_nodup W)
  refine List.Pairwise.imp_of_mem (fun {x y} hx hy hxy => ?_) (List.Pairwise.and (isort_pw leK_total (waysL h ss)) nd)
  obtain ⟨a, b, rfl, _⟩ := way_mem W (isort_mem.mp hx)
  obtain ⟨c, d, rfl, _⟩ := way_mem W (isort_mem.mp hy)
  refine ⟨a, b, c, d, rfl, rfl, ?_⟩
  obtain ⟨l, n⟩ := hxy
  have n : ¬ (a = c ∧ b = d) := fun z => n (by rw [z.1, z.2])
  unfold leK at l
  rw [key_way, key_way] at l
  simp only [lexB] at l
  simp only [HT.lexLt]
  by_cases e1 : a = c
  · by_cases e2 : b = d
    · exact (n ⟨e1, e2⟩).elim
    · simp only [e1, if_true, e2, if_false, decide_eq_true_eq] at l ⊢
      rw [if_neg (fun z => e2 z.symm)] at l
      simp at l
      omega
  · rw [if_neg (fun z => e1 z.symm)] at l
    rw [if_neg e1]
    simp at l ⊢
    omega
theorem ways_len (W : IsWeb h ss) : (waysL h ss).length ≤ 156 := by
  have hl := web_len W
  have : ∀ l : List Int, (l.flatMap (waysF h ss)).length = l.length * ss.length := fun l => by
    induction l with
    | nil => simp
    | cons x l ih =>
      rw [List.flatMap_cons, List.length_append, ih]
      simp [waysF, Nat.add_mul, Nat.add_comm]
  unfold waysL
  rw [this, rngI_len]
  have h2 := W.hi
  have h3 := W.lo
  have : (h - 0).toNat ≤ 13 := by omega
  calc _ ≤ 13 * 12 := Nat.mul_le_mul this hl
    _ ≤ 156 := by decide
end
end LW

-- text MK01h
set_option Elab.async false
set_option linter.all false
set_option maxRecDepth 100000
set_option maxHeartbeats 4000000
namespace LW
open PySem PySem.Spec L2 DL
section
variable {h : Int} {ss fs : List Int}
theorem ways_of_ok (W : IsWeb h ss) : F_ways_of [webD h ss] = .ok (.list (waysS h ss)) := by
  have h1 := W.lo
  have h2 := W.hi
  have hl := web_len W
  have pos : (0 : Int) < h := by omega
  obtain ⟨ρ1, rfl, e1⟩ := lc2L_det (g := setD 3) (ft := tYesD) (fi1 := iSeq (eVar 2)) (g1 := setD 4) (ft1 := tYesD) (fe := eTupD (aConsD (eVar 3) (aConsD (eBin gMod (eBin gAdd (eVar 3) (eVar 4)) (eVar 1)) aNilD))) (vs := [3, 4]) (vs1 := [4]) (I := fun ρ => ρ = [.d (webD h ss), .d (.int h), .d (.tuple (pis ss)), .n, .n])
    (fun x => match x with | .int a => waysF h ss a | _ => []) (pis (rngI 0 h)) (fun x hx ρ e => by
    subst e
    obtain ⟨a, ha, rfl⟩ := List.mem_map.mp hx
    obtain ⟨ρ4, rfl, e4⟩ := lcL_det (g := setD 4) (ft := tYesD) (fe := eTupD (aConsD (eVar 3) (aConsD (eBin gMod (eBin gAdd (eVar 3) (eVar 4)) (eVar 1)) aNilD))) (vs := [4]) (I := fun ρ => ρ = [.d (webD h ss), .d (.int h), .d (.tuple (pis ss)), .d (.int a), .n]) (fun _ => true) (fun x => match x with | .int s => wayD a ((a + s) % h) | x => x) (pis ss) (fun y hy ρ e => by
      subst e
      obtain ⟨s, hs, rfl⟩ := List.mem_map.mp hy
      refine ⟨[.d (webD h ss), .d (.int h), .d (.tuple (pis ss)), .d (.int a), .d (.int s)], [.d (webD h ss), .d (.int h), .d (.tuple (pis ss)), .d (.int a), .d (.int s)], rfl, rfl, fun z => (by cases z), fun _ => ⟨[.d (webD h ss), .d (.int h), .d (.tuple (pis ss)), .d (.int a), .d (.int s)], ?_, rfl, rfl⟩⟩
      simp [fnD, fnI, outFr, outFi, sThen, sIf, sAsg, sOpt, sRet, sExpr, sPutO, sOwnL, sRetO, sPar, sNil, sFor, iSeq, iRng, eVar, eC, eBin, eChain, eIxO, eLenO, eIsi, eCall, eTupD, eLstD, eFn, eFnI, eIfD, eNotD, eAndD, eOrD, eNegD, eSl, pNone, pSome, aNilD, aConsD, tV, tT, tOwn, tNotD, tAndD, tOrD, tYesD, asB, truD, Rs.bind, Rs.of, Rs.out, frRs, ownAt, setD, noOwn, setNil, setCons, setTup, seqOf, sz0, sz1, sz2, sz3, sz4, sz5, sz6, sz7, sz8, gAdd, gSub_int, gMod_int, gDiv_int, gLe_int, gLt, gGt_int, gGe_int, gIsN, gIsB, isNone, gIx_web0, gIx_web1, gIx_tup, gIx_list, gIx_scr, gLen, gTupOf, gLstOf, gIntOf, isIntD, isBoolD, isStrD, isTupD, isLstD, zipG, pos, wayD]) _ rfl
    have em : ((pis ss).filter fun _ => true).map (fun x => match x with | .int s => wayD a ((a + s) % h) | x => x) = waysF h ss a := by
      rw [filter_t]
      unfold pis waysF
      rw [List.map_map]
      rfl
    rw [em] at e4
    exact ⟨[.d (webD h ss), .d (.int h), .d (.tuple (pis ss)), .d (.int a), .n], [.d (webD h ss), .d (.int h), .d (.tuple (pis ss)), .d (.int a), .n], pis ss, [.d (webD h ss), .d (.int h), .d (.tuple (pis ss)), .d (.int a), .n], [.d (webD h ss), .d (.int h), .d (.tuple (pis ss)), .d (.int a), .n], rfl, rfl, rfl, by rw [pis_len]; omega, rfl, e4, rfl, rfl⟩) _ rfl
  have em : (pis (rngI 0 h)).flatMap (fun x => match x with | .int a => waysF h ss a | _ => []) = waysL h ss := by
    unfold pis waysL
    rw [List.flatMap_map]
  rw [em] at e1
  have c1 := eLc2_of (fi := iRng rng1 (aConsD (eVar 1) aNilD)) (ρ := [.d (webD h ss), .d (.int h), .d (.tuple (pis ss)), .n, .n]) (ρ1 := [.d (webD h ss), .d (.int h), .d (.tuple (pis ss)), .n, .n]) (items := pis (rngI 0 h)) (by
    simp [fnD, fnI, outFr, outFi, sThen, sIf, sAsg, sOpt, sRet, sExpr, sPutO, sOwnL, sRetO, sPar, sNil, sFor, iSeq, iRng, eVar, eC, eBin, eChain, eIxO, eLenO, eIsi, eCall, eTupD, eLstD, eFn, eFnI, eIfD, eNotD, eAndD, eOrD, eNegD, eSl, pNone, pSome, aNilD, aConsD, tV, tT, tOwn, tNotD, tAndD, tOrD, tYesD, asB, truD, Rs.bind, Rs.of, Rs.out, frRs, ownAt, setD, noOwn, setNil, setCons, setTup, seqOf, sz0, sz1, sz2, sz3, sz4, sz5, sz6, sz7, sz8, gAdd, gSub_int, gMod_int, gDiv_int, gLe_int, gLt, gGt_int, gGe_int, gIsN, gIsB, isNone, gIx_web0, gIx_web1, gIx_tup, gIx_list, gIx_scr, gLen, gTupOf, gLstOf, gIntOf, isIntD, isBoolD, isStrD, isTupD, isLstD, zipG, rng1_ok (n := h) (by omega) (by omega)]) (by rw [pis_len, rngI_len]; omega) rfl e1 rfl
  simp only [rwipe, List.set] at c1
  have un : setTup 2 (setCons (setD 1) (setCons (setD 2) setNil)) (webD h ss) [.d (webD h ss), .n, .n, .n, .n] = some [.d (webD h ss), .d (.int h), .d (.tuple (pis ss)), .n, .n] := rfl
  simp [F_ways_of, fb_ways_of, fnD, sThen, sAsg, sOpt, sRet, eVar, Rs.out, Rs.bind, Rs.of, eCall, aConsD, aNilD, outFr, un, c1, ways_sort W]
theorem law_ways_ok (W : IsWeb h ss) : F__law_ways [webD h ss] = .ok (.list (waysS h ss)) := by
  have h1 := W.lo
  have h2 := W.hi
  have hl := web_len W
  have pos : (0 : Int) < h := by omega
  obtain ⟨ρ', ⟨s2, rfl, _⟩, e1⟩ := forL_inv (g := setD 2) (b := sAsg (eBin gAdd (eVar 1) (eLc (iSeq (eBin gIx (eVar 0) (eC (.int 1)))) (setD 3) tYesD (eTupD (aConsD (eVar 2) (aConsD (eBin gMod (eBin gAdd (eVar 2) (eVar 3)) (eBin gIx (eVar 0) (eC (.int 0)))) aNilD))) [3])) (setD 1))
    (fun n ρ => ∃ s2, ρ = [.d (webD h ss), .d (.list (((rngI 0 h).take n).flatMap (waysF h ss))), s2, .n] ∧ (s2 = .n ∨ ∃ d, s2 = .d d)) (pis (rngI 0 h)) 0 (fun i x hx ρ hJ => by
    obtain ⟨s2, rfl, hs2⟩ := hJ
    unfold pis at hx
    rw [List.getElem?_map] at hx
    obtain ⟨a, ha, rfl⟩ := Option.map_eq_some_iff.mp hx
    rw [Nat.zero_add]
    have tk : (rngI 0 h).take (i + 1) = (rngI 0 h).take i ++ [a] := by rw [List.take_succ, ha]; rfl
    generalize hL : ((rngI 0 h).take i).flatMap (waysF h ss) = L
    have lenL : L.length ≤ 156 := by
      have e : (rngI 0 h).take i ++ (rngI 0 h).drop i = rngI 0 h := List.take_append_drop _ _
      have q := ways_len W
      unfold waysL at q
      rw [← e, List.flatMap_append, List.length_append, hL] at q
      omega
    obtain ⟨ρ4, rfl, e4⟩ := lcL_det (g := setD 3) (ft := tYesD) (fe := eTupD (aConsD (eVar 2) (aConsD (eBin gMod (eBin gAdd (eVar 2) (eVar 3)) (eBin gIx (eVar 0) (eC (.int 0)))) aNilD))) (vs := [3]) (I := fun ρ => ρ = [.d (webD h ss), .d (.list L), .d (.int a), .n]) (fun _ => true) (fun x => match x with | .int s => wayD a ((a + s) % h) | x => x) (pis ss) (fun y hy ρ e => by
      subst e
      obtain ⟨s, hs, rfl⟩ := List.mem_map.mp hy
      refine ⟨[.d (webD h ss), .d (.list L), .d (.int a), .d (.int s)], [.d (webD h ss), .d (.list L), .d (.int a), .d (.int s)], rfl, rfl, fun z => (by cases z), fun _ => ⟨[.d (webD h ss), .d (.list L), .d (.int a), .d (.int s)], ?_, rfl, rfl⟩⟩
      simp [fnD, fnI, outFr, outFi, sThen, sIf, sAsg, sOpt, sRet, sExpr, sPutO, sOwnL, sRetO, sPar, sNil, sFor, iSeq, iRng, eVar, eC, eBin, eChain, eIxO, eLenO, eIsi, eCall, eTupD, eLstD, eFn, eFnI, eIfD, eNotD, eAndD, eOrD, eNegD, eSl, pNone, pSome, aNilD, aConsD, tV, tT, tOwn, tNotD, tAndD, tOrD, tYesD, asB, truD, Rs.bind, Rs.of, Rs.out, frRs, ownAt, setD, noOwn, setNil, setCons, setTup, seqOf, sz0, sz1, sz2, sz3, sz4, sz5, sz6, sz7, sz8, gAdd, gSub_int, gMod_int, gDiv_int, gLe_int, gLt, gGt_int, gGe_int, gIsN, gIsB, isNone, gIx_web0, gIx_web1, gIx_tup, gIx_list, gIx_scr, gLen, gTupOf, gLstOf, gIntOf, isIntD, isBoolD, isStrD, isTupD, isLstD, zipG, pos, wayD]) _ rfl
    have em : ((pis ss).filter fun _ => true).map (fun x => match x with | .int s => wayD a ((a + s) % h) | x => x) = waysF h ss a := by
      rw [filter_t]
      unfold pis waysF
      rw [List.map_map]
      rfl
    rw [em] at e4
    have c1 := eLc_of (fi := iSeq (eBin gIx (eVar 0) (eC (.int 1)))) (ρ := [.d (webD h ss), .d (.list L), .d (.int a), .n]) (ρ1 := [.d (webD h ss), .d (.list L), .d (.int a), .n]) (items := pis ss) rfl (by rw [pis_len]; exact size_small (by omega)) rfl e4 rfl
    simp only [rwipe, List.set] at c1
    have lw : (waysF h ss a).length ≤ 12 := by unfold waysF; rw [List.length_map]; exact hl
    have sz : L.length + (waysF h ss a).length ≤ sizeLine := size_small (by omega)
    refine ⟨[.d (webD h ss), .d (.list L), .d (.int a), .n], [.d (webD h ss), .d (.list (L ++ waysF h ss a)), .d (.int a), .n], ?_, .inl ?_, .d (.int a), ?_, .inr ⟨_, rfl⟩⟩
    · rcases hs2 with rfl | ⟨d, rfl⟩ <;> rfl
    · have g2 : gAdd (.list L) (.list (waysF h ss a)) = some (.list (L ++ waysF h ss a)) := by
        show (if L.length + (waysF h ss a).length ≤ sizeLine then _ else _) = _
        rw [if_pos sz]
      simp [sAsg, sOpt, setD, noOwn, eBin, eVar, Rs.bind, Rs.out, Rs.of, c1, g2]
    · rw [tk, List.flatMap_append, hL]
      simp) [.d (webD h ss), .d (.list []), .n, .n] ⟨.n, rfl, .inl rfl⟩
  have tk : (rngI 0 h).take (0 + (pis (rngI 0 h)).length) = rngI 0 h := by rw [Nat.zero_add, pis_len, List.take_length]
  rw [tk] at e1
  have it : iRng rng1 (aConsD (eBin gIx (eVar 0) (eC (.int 0))) aNilD) [.d (webD h ss), .d (.list []), .n, .n] = .ok (pis (rngI 0 h)) [.d (webD h ss), .d (.list []), .n, .n] := by
    simp [fnD, fnI, outFr, outFi, sThen, sIf, sAsg, sOpt, sRet, sExpr, sPutO, sOwnL, sRetO, sPar, sNil, sFor, iSeq, iRng, eVar, eC, eBin, eChain, eIxO, eLenO, eIsi, eCall, eTupD, eLstD, eFn, eFnI, eIfD, eNotD, eAndD, eOrD, eNegD, eSl, pNone, pSome, aNilD, aConsD, tV, tT, tOwn, tNotD, tAndD, tOrD, tYesD, asB, truD, Rs.bind, Rs.of, Rs.out, frRs, ownAt, setD, noOwn, setNil, setCons, setTup, seqOf, sz0, sz1, sz2, sz3, sz4, sz5, sz6, sz7, sz8, gAdd, gSub_int, gMod_int, gDiv_int, gLe_int, gLt, gGt_int, gGe_int, gIsN, gIsB, isNone, gIx_web0, gIx_web1, gIx_tup, gIx_list, gIx_scr, gLen, gTupOf, gLstOf, gIntOf, isIntD, isBoolD, isStrD, isTupD, isLstD, zipG, rng1_ok (n := h) (by omega) (by omega)]
  have ws := ways_sort W
  unfold waysL at ws
  simp [F__law_ways, fb__law_ways, fnD, sThen, sAsg, sOpt, setD, noOwn, sRet, sFor, eVar, eLstD, Rs.out, Rs.bind, Rs.of, eCall, aConsD, aNilD, outFr, sz0, it, e1, ws]
end
end LW

-- text MK01i
set_option Elab.async false
set_option linter.all false
set_option maxRecDepth 100000
set_option maxHeartbeats 4000000
namespace LW
open PySem PySem.Spec L2 DL
def netD (h : Int) (S : List PyData) : PyData := .tuple [.int h, .tuple S]
section
variable {h : Int} {ss fs : List Int}
theorem ways_ok (W : IsWeb h ss) : F_ways [webD h ss] = .ok (.tuple (waysS h ss)) := by
  simp [F_ways, fb_ways, fnD, fnI, outFr, outFi, sThen, sIf, sAsg, sOpt, sRet, sExpr, sPutO, sOwnL, sRetO, sPar, sNil, sFor, iSeq, iRng, eVar, eC, eBin, eChain, eIxO, eLenO, eIsi, eCall, eTupD, eLstD, eFn, eFnI, eIfD, eNotD, eAndD, eOrD, eNegD, eSl, pNone, pSome, aNilD, aConsD, tV, tT, tOwn, tNotD, tAndD, tOrD, tYesD, asB, truD, Rs.bind, Rs.of, Rs.out, frRs, ownAt, setD, noOwn, setNil, setCons, setTup, seqOf, sz0, sz1, sz2, sz3, sz4, sz5, sz6, sz7, sz8, gAdd, gSub_int, gMod_int, gDiv_int, gLe_int, gLt, gGt_int, gGe_int, gIsN, gIsB, isNone, gIx_web0, gIx_web1, gIx_tup, gIx_list, gIx_scr, gLen, gTupOf, gLstOf, gIntOf, isIntD, isBoolD, isStrD, isTupD, isLstD, zipG, need_web_ok W, ways_of_ok W]
theorem net_of_ok (W : IsWeb h ss) : F_net_of [webD h ss] = .ok (netD h (waysS h ss)) := by
  simp [F_net_of, fb_net_of, fnD, fnI, outFr, outFi, sThen, sIf, sAsg, sOpt, sRet, sExpr, sPutO, sOwnL, sRetO, sPar, sNil, sFor, iSeq, iRng, eVar, eC, eBin, eChain, eIxO, eLenO, eIsi, eCall, eTupD, eLstD, eFn, eFnI, eIfD, eNotD, eAndD, eOrD, eNegD, eSl, pNone, pSome, aNilD, aConsD, tV, tT, tOwn, tNotD, tAndD, tOrD, tYesD, asB, truD, Rs.bind, Rs.of, Rs.out, frRs, ownAt, setD, noOwn, setNil, setCons, setTup, seqOf, sz0, sz1, sz2, sz3, sz4, sz5, sz6, sz7, sz8, gAdd, gSub_int, gMod_int, gDiv_int, gLe_int, gLt, gGt_int, gGe_int, gIsN, gIsB, isNone, gIx_web0, gIx_web1, gIx_tup, gIx_list, gIx_scr, gLen, gTupOf, gLstOf, gIntOf, isIntD, isBoolD, isStrD, isTupD, isLstD, zipG, need_web_ok W, ways_of_ok W, netD]
theorem wrong_net_ok (W : IsWeb h ss) : F_wrong_net [netD h (waysS h ss)] = .ok .none := by
  have h1 := W.lo
  have h2 := W.hi
  have asc := ways_asc W
  have mem : ∀ d ∈ waysS h ss, ∃ a b, d = wayD a b ∧ 0 ≤ a ∧ a ≤ h - 1 ∧ 0 ≤ b ∧ b ≤ h - 1 ∧ a ≠ b := fun d m => way_mem W (isort_mem.mp m)
  generalize waysS h ss = S at asc mem ⊢
  -- the loop
  obtain ⟨ρ', ⟨s3, rfl, hs3⟩, e1⟩ := forL_inv (g := setD 3) (b := sThen (sIf (tOrD (tNotD (tT (eIsi isTupD (eVar 3)))) (tOrD (tV (eBin gNe (eCall gLen (aConsD (eVar 3) aNilD)) (eC (.int 2)))) (tNotD (tT (eAll (iSeq (eVar 3)) (setD 6) (eFn 3 F_is_number (aConsD (eVar 6) (aConsD (eC (.int 0)) (aConsD (eBin DL.gSub (eVar 1) (eC (.int 1))) aNilD)))) [6]))))) (sRet (eC (.str "ways"))) sNil)
      (sIf (tV (eBin gEq (eBin gIx (eVar 3) (eC (.int 0))) (eBin gIx (eVar 3) (eC (.int 1))))) (sRet (eC (.str "ways"))) sNil))
    (fun n ρ => ∃ s3, ρ = [.d (netD h S), .d (.int h), .d (.tuple S), s3, .n, .n, .n] ∧ (s3 = .n ∨ ∃ d, s3 = .d d)) S 0 (fun i x hx ρ hJ => by
    obtain ⟨s3, rfl, hs3⟩ := hJ
    obtain ⟨a, b, rfl, a1, a2, b1, b2, ne⟩ := mem x (List.mem_of_getElem? hx)
    refine ⟨[.d (netD h S), .d (.int h), .d (.tuple S), .d (wayD a b), .n, .n, .n], [.d (netD h S), .d (.int h), .d (.tuple S), .d (wayD a b), .n, .n, .n], ?_, .inl ?_, .d (wayD a b), rfl, .inr ⟨_, rfl⟩⟩
    · rcases hs3 with rfl | ⟨d, rfl⟩ <;> rfl
    · obtain ⟨ρ4, rfl, e4⟩ := allL_det (g := setD 6) (fe := eFn 3 F_is_number (aConsD (eVar 6) (aConsD (eC (.int 0)) (aConsD (eBin DL.gSub (eVar 1) (eC (.int 1))) aNilD)))) (vs := [6]) (I := fun ρ => ρ = [.d (netD h S), .d (.int h), .d (.tuple S), .d (wayD a b), .n, .n, .n]) (fun _ => true) [.int a, .int b] (fun y hy ρ e => by
        subst e
        have : ∃ c, y = .int c ∧ 0 ≤ c ∧ c ≤ h - 1 := by
          rcases List.mem_cons.mp hy with e | hy
          · exact ⟨a, e, a1, a2⟩
          · exact ⟨b, List.mem_singleton.mp hy, b1, b2⟩
        obtain ⟨c, rfl, c1, c2⟩ := this
        refine ⟨[.d (netD h S), .d (.int h), .d (.tuple S), .d (wayD a b), .n, .n, .d (.int c)], .bool true, [.d (netD h S), .d (.int h), .d (.tuple S), .d (wayD a b), .n, .n, .d (.int c)], rfl, ?_, rfl, rfl, rfl⟩
        simp [fnD, fnI, outFr, outFi, sThen, sIf, sAsg, sOpt, sRet, sExpr, sPutO, sOwnL, sRetO, sPar, sNil, sFor, iSeq, iRng, eVar, eC, eBin, eChain, eIxO, eLenO, eIsi, eCall, eTupD, eLstD, eFn, eFnI, eIfD, eNotD, eAndD, eOrD, eNegD, eSl, pNone, pSome, aNilD, aConsD, tV, tT, tOwn, tNotD, tAndD, tOrD, tYesD, asB, truD, Rs.bind, Rs.of, Rs.out, frRs, ownAt, setD, noOwn, setNil, setCons, setTup, seqOf, sz0, sz1, sz2, sz3, sz4, sz5, sz6, sz7, sz8, gAdd, gSub_int, gMod_int, gDiv_int, gLe_int, gLt, gGt_int, gGe_int, gIsN, gIsB, isNone, gIx_web0, gIx_web1, gIx_tup, gIx_list, gIx_scr, gLen, gTupOf, gLstOf, gIntOf, isIntD, isBoolD, isStrD, isTupD, isLstD, zipG, is_number_int, c1, c2]) _ rfl
      have c1 := eAll_of (fi := iSeq (eVar 3)) (ρ := [.d (netD h S), .d (.int h), .d (.tuple S), .d (wayD a b), .n, .n, .n]) (ρ1 := [.d (netD h S), .d (.int h), .d (.tuple S), .d (wayD a b), .n, .n, .n]) (items := [.int a, .int b]) rfl rfl e4 rfl
      rw [all_t] at c1
      simp only [rwipe, List.set] at c1
      have l2 : gLen [wayD a b] = some (.int 2) := rfl
      have i0 : gIx (wayD a b) (.int 0) = some (.int a) := rfl
      have i1 : gIx (wayD a b) (.int 1) = some (.int b) := rfl
      have tp : isTupD (wayD a b) = true := rfl
      simp [sThen, sIf, sNil, tOrD, tNotD, tT, tV, truD, asB, eIsi, eVar, eBin, eCall, eC, aConsD, aNilD, Rs.bind, Rs.out, Rs.of, gNe_int, gEq_int, c1, l2, i0, i1, tp, ne]) [.d (netD h S), .d (.int h), .d (.tuple S), .n, .n, .n, .n] ⟨.n, rfl, .inl rfl⟩
  -- ascending
  have pw : S.Pairwise fun x y => gLt x y = some (.bool true) := asc.imp fun {x y} q => by
    obtain ⟨a, b, c, d, rfl, rfl, e⟩ := q
    rw [gLt_way, e]
  obtain ⟨ρ2, rfl, e2⟩ := allL_det (g := setTup 2 (setCons (setD 4) (setCons (setD 5) setNil))) (fe := eBin gLt (eVar 4) (eVar 5)) (vs := [4, 5]) (I := fun ρ => ρ = [.d (netD h S), .d (.int h), .d (.tuple S), s3, .n, .n, .n]) (fun _ => true) (List.zipWith pairD S (S.drop 1)) (fun x hx ρ e => by
    subst e
    obtain ⟨x, y, rfl, q⟩ := zip_pw pw x hx
    refine ⟨[.d (netD h S), .d (.int h), .d (.tuple S), s3, .d x, .d y, .n], .bool true, [.d (netD h S), .d (.int h), .d (.tuple S), s3, .d x, .d y, .n], rfl, ?_, rfl, rfl, rfl⟩
    simp [eBin, eVar, Rs.bind, Rs.of, q]) _ rfl
  have a2 := eAll_of (fi := iRng zipG (aConsD (eVar 2) (aConsD (eSl (eVar 2) (pSome (eC (.int 1))) pNone) aNilD))) (ρ := [.d (netD h S), .d (.int h), .d (.tuple S), s3, .n, .n, .n]) (ρ1 := [.d (netD h S), .d (.int h), .d (.tuple S), s3, .n, .n, .n]) (items := List.zipWith pairD S (S.drop 1)) (by
    simp [fnD, fnI, outFr, outFi, sThen, sIf, sAsg, sOpt, sRet, sExpr, sPutO, sOwnL, sRetO, sPar, sNil, sFor, iSeq, iRng, eVar, eC, eBin, eChain, eIxO, eLenO, eIsi, eCall, eTupD, eLstD, eFn, eFnI, eIfD, eNotD, eAndD, eOrD, eNegD, eSl, pNone, pSome, aNilD, aConsD, tV, tT, tOwn, tNotD, tAndD, tOrD, tYesD, asB, truD, Rs.bind, Rs.of, Rs.out, frRs, ownAt, setD, noOwn, setNil, setCons, setTup, seqOf, sz0, sz1, sz2, sz3, sz4, sz5, sz6, sz7, sz8, gAdd, gSub_int, gMod_int, gDiv_int, gLe_int, gLt, gGt_int, gGe_int, gIsN, gIsB, isNone, gIx_web0, gIx_web1, gIx_tup, gIx_list, gIx_scr, gLen, gTupOf, gLstOf, gIntOf, isIntD, isBoolD, isStrD, isTupD, isLstD, zipG, gSl, cut1]) rfl e2 rfl
  rw [all_t] at a2
  simp only [rwipe, List.set] at a2
  have un : setTup 2 (setCons (setD 1) (setCons (setD 2) setNil)) (netD h S) [.d (netD h S), .n, .n, .n, .n, .n, .n] = some [.d (netD h S), .d (.int h), .d (.tuple S), .n, .n, .n, .n] := rfl
  have l2 : gLen [netD h S] = some (.int 2) := rfl
  have tp : isTupD (netD h S) = true := rfl
  have tp2 : isTupD (.tuple S) = true := rfl
  have h3 : 1 ≤ h := by omega
  simp [F_wrong_net, fb_wrong_net, fnD, outFr, sThen, sIf, sAsg, sOpt, sNil, sRet, sFor, iSeq, seqOf, tOrD, tNotD, tT, tV, truD, asB, eIsi, eVar, eBin, eCall, eFn, frRs, eC, eIfD, aConsD, aNilD, Rs.bind, Rs.out, Rs.of, gNe_int, gEq_int, un, l2, tp, tp2, is_number_int, h1, h2, h3, e1, a2]
theorem is_net_ok (W : IsWeb h ss) : F_is_net [netD h (waysS h ss)] = .ok (.bool true) := by
  simp [F_is_net, fb_is_net, fnD, fnI, outFr, outFi, sThen, sIf, sAsg, sOpt, sRet, sExpr, sPutO, sOwnL, sRetO, sPar, sNil, sFor, iSeq, iRng, eVar, eC, eBin, eChain, eIxO, eLenO, eIsi, eCall, eTupD, eLstD, eFn, eFnI, eIfD, eNotD, eAndD, eOrD, eNegD, eSl, pNone, pSome, aNilD, aConsD, tV, tT, tOwn, tNotD, tAndD, tOrD, tYesD, asB, truD, Rs.bind, Rs.of, Rs.out, frRs, ownAt, setD, noOwn, setNil, setCons, setTup, seqOf, sz0, sz1, sz2, sz3, sz4, sz5, sz6, sz7, sz8, gAdd, gSub_int, gMod_int, gDiv_int, gLe_int, gLt, gGt_int, gGe_int, gIsN, gIsB, isNone, gIx_web0, gIx_web1, gIx_tup, gIx_list, gIx_scr, gLen, gTupOf, gLstOf, gIntOf, isIntD, isBoolD, isStrD, isTupD, isLstD, zipG, wrong_net_ok W]
end
end LW

-- text MK01j
set_option Elab.async false
set_option linter.all false
set_option maxRecDepth 100000
set_option maxHeartbeats 8000000
namespace LW
open PySem PySem.Spec L2 DL
theorem ite_t {α : Type} {c : Bool} {x y : α} (h : c = true) : (if c = true then x else y) = x := if_pos h
theorem main_law : ∀ ns : List Int, ns.length ≤ 63 → (∀ z ∈ ns, Builtin.Int.intBits z ≤ 1048576) → F_law [scr ns] = .ok (.bool true) := by
  intro ns _ _
  obtain ⟨h, ss, x1, w1, W, R1⟩ := web_draw (xs := [scr ns, .int 0, .int 5801, .int 0]) ⟨ns, 0, 5801, 0, rfl, by decide, by decide⟩
  have h1 := W.lo
  have h2 := W.hi
  have hl := web_len W
  have K := fac_ok h1 h2
  generalize facs h = fs at K
  have fl := K.len
  -- the multiples
  have D0 := mults_ne (ss := ss) K
  have Dw := mults_webs W K
  have Dl := mults_len (ss := ss) K
  have Ds := mults_sets (ss := ss) K
  have Dm := multiples_ok W K
  have Dleast := fun {d r} => least_ok W K (d := d) (r := r)
  have Din := fun {ts} (W2 : IsWeb h ts) => in_mults W K W2
  have Dare := fun {ts} (W2 : IsWeb h ts) => are_ok W K W2
  have Dsym := fun {ts} (W2 : IsWeb h ts) => sym_mults W K W2
  obtain ⟨tl, al⟩ : ∃ tl, atI (mults h ss fs) (-1) = some (webD h tl) ∧ IsWeb h tl := by
    have e : (mults h ss fs).dropLast ++ [(mults h ss fs).getLast D0] = mults h ss fs := List.dropLast_concat_getLast D0
    obtain ⟨ts, e2, W2⟩ := Dw _ (List.getLast_mem D0)
    refine ⟨ts, ?_, W2⟩
    rw [← e2]
    have q := atI_last (mults h ss fs).dropLast ((mults h ss fs).getLast D0)
    rw [e] at q
    exact q
  obtain ⟨al, Wl⟩ := al
  obtain ⟨d, r, eD⟩ : ∃ d r, mults h ss fs = d :: r := by
    cases e : mults h ss fs with
    | nil => exact (D0 e).elim
    | cons d r => exact ⟨d, r, rfl⟩
  have Dle := Dleast eD
  have a0 : atI (mults h ss fs) 0 = some d := by rw [eD]; exact at0
  have dw : ∃ ts, d = webD h ts ∧ IsWeb h ts := Dw d (by rw [eD]; exact List.mem_cons_self)
  have plD : ∀ x ∈ mults h ss fs, Pl 2 x := fun x m => by
    obtain ⟨ts, rfl, W2⟩ := Dw x m
    have := web_len W2
    exact pl_web (n := 0) (by omega)
  generalize mults h ss fs = D at *
  -- the law's own list of multiples
  have du : eLc (iSeq (eVar 5)) (setD 7) tYesD (eFn 2 F__law_times (aConsD (eVar 2) (aConsD (eVar 7) aNilD))) [7] [.d (scr ns), .o x1, .d (webD h ss), .d (.int h), .d (.tuple (pis ss)), .d (.list (pis fs)), .n, .n, .n, .n, .n, .n, .n]
      = .ok (.list (fs.map fun f => webD h (mulS h ss f))) [.d (scr ns), .o x1, .d (webD h ss), .d (.int h), .d (.tuple (pis ss)), .d (.list (pis fs)), .n, .n, .n, .n, .n, .n, .n] := by
    obtain ⟨ρ1, rfl, e1⟩ := lcL_det (g := setD 7) (ft := tYesD) (fe := eFn 2 F__law_times (aConsD (eVar 2) (aConsD (eVar 7) aNilD))) (vs := [7]) (I := fun ρ => ρ = [.d (scr ns), .o x1, .d (webD h ss), .d (.int h), .d (.tuple (pis ss)), .d (.list (pis fs)), .n, .n, .n, .n, .n, .n, .n]) (fun _ => true) (fun x => match x with | .int f => webD h (mulS h ss f) | x => x) (pis fs) (fun x hx ρ e => by
      subst e
      obtain ⟨i, hi, rfl⟩ := List.mem_map.mp hx
      refine ⟨[.d (scr ns), .o x1, .d (webD h ss), .d (.int h), .d (.tuple (pis ss)), .d (.list (pis fs)), .n, .d (.int i), .n, .n, .n, .n, .n], [.d (scr ns), .o x1, .d (webD h ss), .d (.int h), .d (.tuple (pis ss)), .d (.list (pis fs)), .n, .d (.int i), .n, .n, .n, .n, .n], rfl, rfl, fun z => (by cases z), fun _ => ⟨[.d (scr ns), .o x1, .d (webD h ss), .d (.int h), .d (.tuple (pis ss)), .d (.list (pis fs)), .n, .d (.int i), .n, .n, .n, .n, .n], ?_, rfl, rfl⟩⟩
      simp [fnD, fnI, outFr, outFi, sThen, sIf, sAsg, sOpt, sRet, sExpr, sPutO, sOwnL, sRetO, sPar, sNil, sFor, iSeq, iRng, eVar, eC, eBin, eChain, eIxO, eLenO, eIsi, eCall, eTupD, eLstD, eFn, eFnI, eIfD, eNotD, eAndD, eOrD, eNegD, eSl, pNone, pSome, aNilD, aConsD, tV, tT, tOwn, tNotD, tAndD, tOrD, tYesD, asB, truD, Rs.bind, Rs.of, Rs.out, frRs, ownAt, setD, noOwn, setNil, setCons, setTup, seqOf, sz0, sz1, sz2, sz3, sz4, sz5, sz6, sz7, sz8, gAdd, gSub_int, gMod_int, gDiv_int, gLe_int, gLt, gGt_int, gGe_int, gIsN, gIsB, isNone, gIx_web0, gIx_web1, gIx_tup, gIx_list, gIx_scr, gLen, gTupOf, gLstOf, gIntOf, isIntD, isBoolD, isStrD, isTupD, isLstD, zipG, law_times, multiplied_ok W]) _ rfl
    have em : ((pis fs).filter fun _ => true).map (fun x => match x with | .int f => webD h (mulS h ss f) | x => x) = fs.map fun f => webD h (mulS h ss f) := by
      rw [filter_t]
      unfold pis
      rw [List.map_map]
      rfl
    rw [em] at e1
    exact eLc_of (fi := iSeq (eVar 5)) (items := pis fs) (ρ1 := [.d (scr ns), .o x1, .d (webD h ss), .d (.int h), .d (.tuple (pis ss)), .d (.list (pis fs)), .n, .n, .n, .n, .n, .n, .n]) rfl (by rw [pis_len]; exact size_small (by omega)) rfl e1 rfl
  -- a factor
  obtain ⟨x, x2, p1, px, R2⟩ := pick_ok R1 (ts := pis fs) (by intro z; exact K.ne (by simpa [pis] using z)) (by rw [pis_len]; omega)
  obtain ⟨f, hf, rfl⟩ := List.mem_map.mp px
  have ti := times_ok W K hf
  have wf := mul_web W K hf
  -- steps drawn
  obtain ⟨ys, ρ', s1, ⟨x3, R3, rfl⟩, s2⟩ := lcL_sub (g := setD 12) (ft := tV (eBin gEq (eFnI 1 2 F__law_taken (aConsD (eC (.int 2)) aNilD)) (eC (.int 0)))) (fe := eVar 12) (vs := [12]) (I := fun ρ => ∃ xs, Row xs ∧ ρ = [.d (scr ns), .o xs, .d (webD h ss), .d (.int h), .d (.tuple (pis ss)), .d (.list (pis fs)), .d (.list D), .d (.int f), .n, .n, .n, .n, .n]) (fun x => x) (pis (rngI 1 h)) (fun x _ ρ hI => by
    obtain ⟨xs, hx, rfl⟩ := hI
    obtain ⟨q, y2, e2, q1, q2, q3⟩ := taken_ok hx (m := 2) (by decide) (by decide)
    refine ⟨q == 0, [.d (scr ns), .o xs, .d (webD h ss), .d (.int h), .d (.tuple (pis ss)), .d (.list (pis fs)), .d (.list D), .d (.int f), .n, .n, .n, .n, .d x], [.d (scr ns), .o y2, .d (webD h ss), .d (.int h), .d (.tuple (pis ss)), .d (.list (pis fs)), .d (.list D), .d (.int f), .n, .n, .n, .n, .d x], rfl, ?_, fun _ => ⟨rfl, y2, q3, rfl⟩, fun _ => ⟨_, rfl, rfl, y2, q3, rfl⟩⟩
    simp [fnD, fnI, outFr, outFi, sThen, sIf, sAsg, sOpt, sRet, sExpr, sPutO, sOwnL, sRetO, sPar, sNil, sFor, iSeq, iRng, eVar, eC, eBin, eChain, eIxO, eLenO, eIsi, eCall, eTupD, eLstD, eFn, eFnI, eIfD, eNotD, eAndD, eOrD, eNegD, eSl, pNone, pSome, aNilD, aConsD, tV, tT, tOwn, tNotD, tAndD, tOrD, tYesD, asB, truD, Rs.bind, Rs.of, Rs.out, frRs, ownAt, setD, noOwn, setNil, setCons, setTup, seqOf, sz0, sz1, sz2, sz3, sz4, sz5, sz6, sz7, sz8, gAdd, gSub_int, gMod_int, gDiv_int, gLe_int, gLt, gGt_int, gGe_int, gIsN, gIsB, isNone, gIx_web0, gIx_web1, gIx_tup, gIx_list, gIx_scr, gLen, gTupOf, gLstOf, gIntOf, isIntD, isBoolD, isStrD, isTupD, isLstD, zipG, e2, gEq_int]) [.d (scr ns), .o x2, .d (webD h ss), .d (.int h), .d (.tuple (pis ss)), .d (.list (pis fs)), .d (.list D), .d (.int f), .n, .n, .n, .n, .n] ⟨x2, R2, rfl⟩
  obtain ⟨ms, rfl, s3⟩ := sub_ints s1
  rw [List.map_id'] at s2
  have Wd := web_of_sub h1 h2 s3
  have dr := eLc_of (fi := iRng rng2 (aConsD (eC (.int 1)) (aConsD (eVar 3) aNilD))) (ρ := [.d (scr ns), .o x2, .d (webD h ss), .d (.int h), .d (.tuple (pis ss)), .d (.list (pis fs)), .d (.list D), .d (.int f), .n, .n, .n, .n, .n]) (ρ1 := [.d (scr ns), .o x2, .d (webD h ss), .d (.int h), .d (.tuple (pis ss)), .d (.list (pis fs)), .d (.list D), .d (.int f), .n, .n, .n, .n, .n]) (items := pis (rngI 1 h)) (by
    simp [fnD, fnI, outFr, outFi, sThen, sIf, sAsg, sOpt, sRet, sExpr, sPutO, sOwnL, sRetO, sPar, sNil, sFor, iSeq, iRng, eVar, eC, eBin, eChain, eIxO, eLenO, eIsi, eCall, eTupD, eLstD, eFn, eFnI, eIfD, eNotD, eAndD, eOrD, eNegD, eSl, pNone, pSome, aNilD, aConsD, tV, tT, tOwn, tNotD, tAndD, tOrD, tYesD, asB, truD, Rs.bind, Rs.of, Rs.out, frRs, ownAt, setD, noOwn, setNil, setCons, setTup, seqOf, sz0, sz1, sz2, sz3, sz4, sz5, sz6, sz7, sz8, gAdd, gSub_int, gMod_int, gDiv_int, gLe_int, gLt, gGt_int, gGe_int, gIsN, gIsB, isNone, gIx_web0, gIx_web1, gIx_tup, gIx_list, gIx_scr, gLen, gTupOf, gLstOf, gIntOf, isIntD, isBoolD, isStrD, isTupD, isLstD, zipG, rng2_ok (m := 1) (n := h) (by omega) (by omega) (by omega) (by omega)]) (by rw [pis_len, rngI_len]; exact size_small (by omega)) rfl s2 rfl
  simp only [rwipe, List.set] at dr
  -- another web
  obtain ⟨y, x4, p2, py, R4⟩ := pick_ok R3 (ts := [.tuple (pis tl), .tuple (pis ss), .tuple (pis ms)]) (by simp) (by simp)
  obtain ⟨ts, rfl, Wt⟩ : ∃ ts, y = .tuple (pis ts) ∧ IsWeb h ts := by
    simp only [List.mem_cons, List.not_mem_nil, or_false] at py
    rcases py with rfl | rfl | rfl
    · exact ⟨_, rfl, Wl⟩
    · exact ⟨_, rfl, W⟩
    · exact ⟨_, rfl, Wd⟩
  have ar1 := Dare Wt
  have ar2 := are_ok Wt K W
  rw [← Dsym Wt] at ar2
  have din := Din Wt
  generalize (D.any fun z => PyData.eqv z (webD h ts)) = bb at ar1 ar2 din
  -- the way back
  have bk : eLc (iRng rng2 (aConsD (eC (.int 1)) (aConsD (eVar 3) aNilD))) (setD 12) (tV (eBin (gInG false) (eBin DL.gSub (eVar 3) (eVar 12)) (eVar 4))) (eVar 12) [12] [.d (scr ns), .o x4, .d (webD h ss), .d (.int h), .d (.tuple (pis ss)), .d (.list (pis fs)), .d (.list D), .d (.int f), .d (.tuple (pis ms)), .d (webD h ts), .n, .n, .n]
      = .ok (.list (pis (mulS h ss (h - 1)))) [.d (scr ns), .o x4, .d (webD h ss), .d (.int h), .d (.tuple (pis ss)), .d (.list (pis fs)), .d (.list D), .d (.int f), .d (.tuple (pis ms)), .d (webD h ts), .n, .n, .n] := by
    obtain ⟨ρ1, rfl, e1⟩ := lcL_det (g := setD 12) (ft := tV (eBin (gInG false) (eBin DL.gSub (eVar 3) (eVar 12)) (eVar 4))) (fe := eVar 12) (vs := [12]) (I := fun ρ => ρ = [.d (scr ns), .o x4, .d (webD h ss), .d (.int h), .d (.tuple (pis ss)), .d (.list (pis fs)), .d (.list D), .d (.int f), .d (.tuple (pis ms)), .d (webD h ts), .n, .n, .n]) (fun x => match x with | .int s => decide (h - s ∈ ss) | _ => false) (fun x => x) (pis (rngI 1 h)) (fun x hx ρ e => by
      subst e
      obtain ⟨s, hs, rfl⟩ := List.mem_map.mp hx
      refine ⟨[.d (scr ns), .o x4, .d (webD h ss), .d (.int h), .d (.tuple (pis ss)), .d (.list (pis fs)), .d (.list D), .d (.int f), .d (.tuple (pis ms)), .d (webD h ts), .n, .n, .d (.int s)], [.d (scr ns), .o x4, .d (webD h ss), .d (.int h), .d (.tuple (pis ss)), .d (.list (pis fs)), .d (.list D), .d (.int f), .d (.tuple (pis ms)), .d (webD h ts), .n, .n, .d (.int s)], rfl, ?_, fun _ => ⟨rfl, rfl⟩, fun _ => ⟨_, rfl, rfl, rfl⟩⟩
      simp [fnD, fnI, outFr, outFi, sThen, sIf, sAsg, sOpt, sRet, sExpr, sPutO, sOwnL, sRetO, sPar, sNil, sFor, iSeq, iRng, eVar, eC, eBin, eChain, eIxO, eLenO, eIsi, eCall, eTupD, eLstD, eFn, eFnI, eIfD, eNotD, eAndD, eOrD, eNegD, eSl, pNone, pSome, aNilD, aConsD, tV, tT, tOwn, tNotD, tAndD, tOrD, tYesD, asB, truD, Rs.bind, Rs.of, Rs.out, frRs, ownAt, setD, noOwn, setNil, setCons, setTup, seqOf, sz0, sz1, sz2, sz3, sz4, sz5, sz6, sz7, sz8, gAdd, gSub_int, gMod_int, gDiv_int, gLe_int, gLt, gGt_int, gGe_int, gIsN, gIsB, isNone, gIx_web0, gIx_web1, gIx_tup, gIx_list, gIx_scr, gLen, gTupOf, gLstOf, gIntOf, isIntD, isBoolD, isStrD, isTupD, isLstD, zipG, in_tup]) _ rfl
    have em : ((pis (rngI 1 h)).filter (fun x => match x with | .int s => decide (h - s ∈ ss) | _ => false)).map (fun x => x) = pis (mulS h ss (h - 1)) := by
      rw [List.map_id', back_ok W K]
      unfold pis
      rw [List.filter_map]
      rfl
    rw [em] at e1
    exact eLc_of (fi := iRng rng2 (aConsD (eC (.int 1)) (aConsD (eVar 3) aNilD))) (ρ1 := [.d (scr ns), .o x4, .d (webD h ss), .d (.int h), .d (.tuple (pis ss)), .d (.list (pis fs)), .d (.list D), .d (.int f), .d (.tuple (pis ms)), .d (webD h ts), .n, .n, .n]) (items := pis (rngI 1 h)) (by
      simp [fnD, fnI, outFr, outFi, sThen, sIf, sAsg, sOpt, sRet, sExpr, sPutO, sOwnL, sRetO, sPar, sNil, sFor, iSeq, iRng, eVar, eC, eBin, eChain, eIxO, eLenO, eIsi, eCall, eTupD, eLstD, eFn, eFnI, eIfD, eNotD, eAndD, eOrD, eNegD, eSl, pNone, pSome, aNilD, aConsD, tV, tT, tOwn, tNotD, tAndD, tOrD, tYesD, asB, truD, Rs.bind, Rs.of, Rs.out, frRs, ownAt, setD, noOwn, setNil, setCons, setTup, seqOf, sz0, sz1, sz2, sz3, sz4, sz5, sz6, sz7, sz8, gAdd, gSub_int, gMod_int, gDiv_int, gLe_int, gLt, gGt_int, gGe_int, gIsN, gIsB, isNone, gIx_web0, gIx_web1, gIx_tup, gIx_list, gIx_scr, gLen, gTupOf, gLstOf, gIntOf, isIntD, isBoolD, isStrD, isTupD, isLstD, zipG, rng2_ok (m := 1) (n := h) (by omega) (by omega) (by omega) (by omega)]) (by rw [pis_len, rngI_len]; exact size_small (by omega)) rfl e1 rfl
  have Wb := mul_web W K K.last
  have lb := web_len Wb
  -- what is alike
  have k1 : F__law_alike 6 [.tuple (pis fs), .tuple (pis fs)] = .ok (.bool true) := alike_self (n := 5) (d := .tuple (pis fs)) (.tup (pl_pis fs) (by rw [pis_len]; omega)) (by decide)
  have k2 : F__law_alike 6 [.list [.tuple D, d], .list [.tuple D, d]] = .ok (.bool true) := alike_self (n := 5) (d := .list [.tuple D, d]) (.lst (fun x m => by
    rcases List.mem_cons.mp m with e | m
    · rw [e]; exact .tup (n := 3) (fun y hy => by obtain ⟨us, rfl, W2⟩ := Dw y hy; have := web_len W2; exact pl_web (n := 1) (by omega)) (by omega)
    · rw [List.mem_singleton.mp m]; obtain ⟨us, rfl, W2⟩ := dw; have := web_len W2; exact pl_web (n := 2) (by omega)) (by simp)) (by decide)
  have k3 : F__law_alike 6 [webD h (mulS h ss f), webD h (mulS h ss f)] = .ok (.bool true) := alike_self (n := 5) (d := webD h (mulS h ss f)) (pl_web (n := 3) (by have := web_len wf; omega)) (by decide)
  have k4 : F__law_alike 6 [.bool bb, .bool bb] = .ok (.bool true) := alike_self (n := 5) (d := .bool bb) (.bl _) (by decide)
  have k5 : F__law_alike 6 [.list [webD h (mulS h ss (h - 1)), .bool (decide (mulS h ss (h - 1) = ss))], .list [webD h (mulS h ss (h - 1)), .bool (decide (mulS h ss (h - 1) = ss))]] = .ok (.bool true) := alike_self (n := 5) (d := .list [webD h (mulS h ss (h - 1)), .bool (decide (mulS h ss (h - 1) = ss))]) (.lst (fun x m => by
    rcases List.mem_cons.mp m with e | m
    · rw [e]; exact pl_web (n := 2) (by omega)
    · rw [List.mem_singleton.mp m]; exact .bl _) (by simp)) (by decide)
  have wl := ways_len W
  have wsl : (waysS h ss).length ≤ 156 := by unfold waysS; rw [isort_length]; exact wl
  have wpl : ∀ (n : Nat), ∀ x ∈ waysS h ss, Pl (n + 1) x := fun n x m => by
    obtain ⟨a, b, rfl, _⟩ := way_mem W (isort_mem.mp m)
    refine .tup (fun y hy => ?_) (by simp)
    rcases List.mem_cons.mp hy with e | hy
    · rw [e]; exact .int _
    · rw [List.mem_singleton.mp hy]; exact .int _
  have k6 : F__law_alike 6 [.list [.tuple (waysS h ss), netD h (waysS h ss), .bool true], .list [.tuple (waysS h ss), netD h (waysS h ss), .bool true]] = .ok (.bool true) := alike_self (n := 5) (d := .list [.tuple (waysS h ss), netD h (waysS h ss), .bool true]) (.lst (fun x m => by
    rcases List.mem_cons.mp m with e | m
    · rw [e]; exact .tup (wpl 2) (by omega)
    · rcases List.mem_cons.mp m with e | m
      · rw [e]
        refine .tup (fun y hy => ?_) (by simp)
        rcases List.mem_cons.mp hy with e | hy
        · rw [e]; exact .int _
        · rw [List.mem_singleton.mp hy]; exact .tup (wpl 1) (by omega)
      · rw [List.mem_singleton.mp m]; exact .bl _) (by simp)) (by decide)
  have un : setTup 2 (setCons (setD 3) (setCons (setD 4) setNil)) (webD h ss) [.d (scr ns), .o x1, .d (webD h ss), .n, .n, .n, .n, .n, .n, .n, .n, .n, .n] = some [.d (scr ns), .o x1, .d (webD h ss), .d (.int h), .d (.tuple (pis ss)), .n, .n, .n, .n, .n, .n, .n, .n] := rfl
  have wfold : ∀ us : List Int, PyData.tuple [.int h, .tuple (pis us)] = webD h us := fun _ => rfl
  have nfold : PyData.tuple [.int h, .tuple (waysS h ss)] = netD h (waysS h ss) := rfl
  rw [law_times] at du
  simp [F_law, fb_law, fnD, fnI, outFr, outFi, sThen, sIf, sAsg, sOpt, sRet, sExpr, sPutO, sOwnL, sRetO, sPar, sNil, sFor, iSeq, iRng, eVar, eC, eBin, eChain, eIxO, eLenO, eIsi, eCall, eTupD, eLstD, eFn, eFnI, eIfD, eNotD, eAndD, eOrD, eNegD, eSl, pNone, pSome, aNilD, aConsD, tV, tT, tOwn, tNotD, tAndD, tOrD, tYesD, asB, truD, Rs.bind, Rs.of, Rs.out, frRs, ownAt, setD, noOwn, seqOf, sz0, sz1, sz2, sz3, sz4, sz5, sz6, sz7, sz8, gAdd, gSub_int, gMod_int, gDiv_int, gLe_int, gLt, gGt_int, gGe_int, gIsN, gIsB, isNone, gIx_web0, gIx_web1, gIx_tup, gIx_list, gIx_scr, gLen, gTupOf, gLstOf, gIntOf, isIntD, isBoolD, isStrD, isTupD, isLstD, zipG, w1, un, K.law, is_web_ok W, factors_ok W K, k1, du, Ds, Dm, Dle, a0, k2, p1, ti, law_times, multiplied_ok W, k3, dr, al, p2, wfold, ar1, din, k4, ar2, gNe_bool, bk, turned_ok W, two_way_ok W K, gEq_web Wb W, k5, law_ways_ok W, ways_ok W, net_of_ok W, is_net_ok W, nfold, k6]
end LW

-- text EK01
set_option Elab.async false
set_option linter.all false
set_option maxRecDepth 100000
set_option maxHeartbeats 4000000
namespace LW
open PySem PySem.Spec PyProof.Rows L2 GxR DL
def gnames : List Str := ["wrong_web", "wrong_net"]
theorem all_mk {w : World} {K : PySem.W.Frag} {h : Heap} {mg : Str → Option Value} {fa : Addr} (KX : K.In h) (N : h.Ns mainGlobals mg) (hfa : mg "law" = some (.ref fa)) (tabs : ∀ nm ∈ gnames, ∀ f, mg nm = some (.ref f) → LamX.OwnTab K f h)
    {f_is_number : Addr} {oc_is_number kV_is_number dc_is_number pm_is_number ct_is_number : Value} {od_is_number an_is_number : Option Addr} {sl_is_number : Array (Option Value)} {cd_is_number : Value}
    (a_is_number : PySem.W.nsIn K mainGlobals "is_number" = some (some (.ref f_is_number)))
    (l_is_number : K.lookup f_is_number = some ⟨oc_is_number, od_is_number, .func (PySem.W.fnOf "is_number" "is_number" (defArgs st_is_number) (defBody st_is_number) (defScope st_is_number) .none kV_is_number dc_is_number pm_is_number an_is_number cd_is_number ct_is_number), sl_is_number⟩)
    (cc_is_number : PySem.W.codeIn K cd_is_number "is_number" = true)
    (k_is_number : PySem.W.keepIn K (.ref f_is_number) = true)
    {f_wrong_web : Addr} {oc_wrong_web kV_wrong_web dc_wrong_web pm_wrong_web ct_wrong_web : Value} {od_wrong_web an_wrong_web : Option Addr} {sl_wrong_web : Array (Option Value)} {c_wrong_web P_wrong_web : Addr} {e_wrong_web : Value} {dd_wrong_web : Option Addr} {vs_wrong_web : Array Value} {sm_wrong_web : Array (Option Value)}
    (a_wrong_web : PySem.W.nsIn K mainGlobals "wrong_web" = some (some (.ref f_wrong_web)))
    (l_wrong_web : K.lookup f_wrong_web = some ⟨oc_wrong_web, od_wrong_web, .func (PySem.W.fnOf "wrong_web" "wrong_web" (defArgs st_wrong_web) (defBody st_wrong_web) (defScope st_wrong_web) .none kV_wrong_web dc_wrong_web pm_wrong_web an_wrong_web (.ref c_wrong_web) ct_wrong_web), sl_wrong_web⟩)
    (cc_wrong_web : PySem.W.codeIn K (.ref c_wrong_web) "wrong_web" = true)
    (k_wrong_web : PySem.W.keepIn K (.ref f_wrong_web) = true)
    (lc_wrong_web : K.lookup c_wrong_web = some ⟨e_wrong_web, dd_wrong_web, .fields vs_wrong_web, sm_wrong_web⟩)
    (p_wrong_web : vs_wrong_web[11]? = some (.ref P_wrong_web))
    (n_wrong_web : K.lookup P_wrong_web = none)
    (hd_wrong_web : PySem.W.codeHdIn K c_wrong_web P_wrong_web = true)
    {f_is_web : Addr} {oc_is_web kV_is_web dc_is_web pm_is_web ct_is_web : Value} {od_is_web an_is_web : Option Addr} {sl_is_web : Array (Option Value)} {cd_is_web : Value}
    (a_is_web : PySem.W.nsIn K mainGlobals "is_web" = some (some (.ref f_is_web)))
    (l_is_web : K.lookup f_is_web = some ⟨oc_is_web, od_is_web, .func (PySem.W.fnOf "is_web" "is_web" (defArgs st_is_web) (defBody st_is_web) (defScope st_is_web) .none kV_is_web dc_is_web pm_is_web an_is_web cd_is_web ct_is_web), sl_is_web⟩)
    (cc_is_web : PySem.W.codeIn K cd_is_web "is_web" = true)
    (k_is_web : PySem.W.keepIn K (.ref f_is_web) = true)
    {f_need_web : Addr} {oc_need_web kV_need_web dc_need_web pm_need_web ct_need_web : Value} {od_need_web an_need_web : Option Addr} {sl_need_web : Array (Option Value)} {cd_need_web : Value}
    (a_need_web : PySem.W.nsIn K mainGlobals "need_web" = some (some (.ref f_need_web)))
    (l_need_web : K.lookup f_need_web = some ⟨oc_need_web, od_need_web, .func (PySem.W.fnOf "need_web" "need_web" (defArgs st_need_web) (defBody st_need_web) (defScope st_need_web) .none kV_need_web dc_need_web pm_need_web an_need_web cd_need_web ct_need_web), sl_need_web⟩)
    (cc_need_web : PySem.W.codeIn K cd_need_web "need_web" = true)
    (k_need_web : PySem.W.keepIn K (.ref f_need_web) = true)
    {f_need_two : Addr} {oc_need_two kV_need_two dc_need_two pm_need_two ct_need_two : Value} {od_need_two an_need_two : Option Addr} {sl_need_two : Array (Option Value)} {cd_need_two : Value}
    (a_need_two : PySem.W.nsIn K mainGlobals "need_two" = some (some (.ref f_need_two)))
    (l_need_two : K.lookup f_need_two = some ⟨oc_need_two, od_need_two, .func (PySem.W.fnOf "need_two" "need_two" (defArgs st_need_two) (defBody st_need_two) (defScope st_need_two) .none kV_need_two dc_need_two pm_need_two an_need_two cd_need_two ct_need_two), sl_need_two⟩)
    (cc_need_two : PySem.W.codeIn K cd_need_two "need_two" = true)
    (k_need_two : PySem.W.keepIn K (.ref f_need_two) = true)
    {f_divisor : Addr} {oc_divisor kV_divisor dc_divisor pm_divisor ct_divisor : Value} {od_divisor an_divisor : Option Addr} {sl_divisor : Array (Option Value)} {cd_divisor : Value}
    (a_divisor : PySem.W.nsIn K mainGlobals "divisor" = some (some (.ref f_divisor)))
    (l_divisor : K.lookup f_divisor = some ⟨oc_divisor, od_divisor, .func (PySem.W.fnOf "divisor" "divisor" (defArgs st_divisor) (defBody st_divisor) (defScope st_divisor) .none kV_divisor dc_divisor pm_divisor an_divisor cd_divisor ct_divisor), sl_divisor⟩)
    (cc_divisor : PySem.W.codeIn K cd_divisor "divisor" = true)
    (k_divisor : PySem.W.keepIn K (.ref f_divisor) = true)
    {f_factors_of : Addr} {oc_factors_of kV_factors_of dc_factors_of pm_factors_of ct_factors_of : Value} {od_factors_of an_factors_of : Option Addr} {sl_factors_of : Array (Option Value)} {cd_factors_of : Value}
    (a_factors_of : PySem.W.nsIn K mainGlobals "factors_of" = some (some (.ref f_factors_of)))
    (l_factors_of : K.lookup f_factors_of = some ⟨oc_factors_of, od_factors_of, .func (PySem.W.fnOf "factors_of" "factors_of" (defArgs st_factors_of) (defBody st_factors_of) (defScope st_factors_of) .none kV_factors_of dc_factors_of pm_factors_of an_factors_of cd_factors_of ct_factors_of), sl_factors_of⟩)
    (cc_factors_of : PySem.W.codeIn K cd_factors_of "factors_of" = true)
    (k_factors_of : PySem.W.keepIn K (.ref f_factors_of) = true)
    {f_factors : Addr} {oc_factors kV_factors dc_factors pm_factors ct_factors : Value} {od_factors an_factors : Option Addr} {sl_factors : Array (Option Value)} {cd_factors : Value}
    (a_factors : PySem.W.nsIn K mainGlobals "factors" = some (some (.ref f_factors)))
    (l_factors : K.lookup f_factors = some ⟨oc_factors, od_factors, .func (PySem.W.fnOf "factors" "factors" (defArgs st_factors) (defBody st_factors) (defScope st_factors) .none kV_factors dc_factors pm_factors an_factors cd_factors ct_factors), sl_factors⟩)
    (cc_factors : PySem.W.codeIn K cd_factors "factors" = true)
    (k_factors : PySem.W.keepIn K (.ref f_factors) = true)
    {f_multiplied : Addr} {oc_multiplied kV_multiplied dc_multiplied pm_multiplied ct_multiplied : Value} {od_multiplied an_multiplied : Option Addr} {sl_multiplied : Array (Option Value)} {cd_multiplied : Value}
    (a_multiplied : PySem.W.nsIn K mainGlobals "multiplied" = some (some (.ref f_multiplied)))
    (l_multiplied : K.lookup f_multiplied = some ⟨oc_multiplied, od_multiplied, .func (PySem.W.fnOf "multiplied" "multiplied" (defArgs st_multiplied) (defBody st_multiplied) (defScope st_multiplied) .none kV_multiplied dc_multiplied pm_multiplied an_multiplied cd_multiplied ct_multiplied), sl_multiplied⟩)
    (cc_multiplied : PySem.W.codeIn K cd_multiplied "multiplied" = true)
    (k_multiplied : PySem.W.keepIn K (.ref f_multiplied) = true)
    {f_times : Addr} {oc_times kV_times dc_times pm_times ct_times : Value} {od_times an_times : Option Addr} {sl_times : Array (Option Value)} {cd_times : Value}
    (a_times : PySem.W.nsIn K mainGlobals "times" = some (some (.ref f_times)))
    (l_times : K.lookup f_times = some ⟨oc_times, od_times, .func (PySem.W.fnOf "times" "times" (defArgs st_times) (defBody st_times) (defScope st_times) .none kV_times dc_times pm_times an_times cd_times ct_times), sl_times⟩)
    (cc_times : PySem.W.codeIn K cd_times "times" = true)
    (k_times : PySem.W.keepIn K (.ref f_times) = true)
    {f_multiples_of : Addr} {oc_multiples_of kV_multiples_of dc_multiples_of pm_multiples_of ct_multiples_of : Value} {od_multiples_of an_multiples_of : Option Addr} {sl_multiples_of : Array (Option Value)} {cd_multiples_of : Value}
    (a_multiples_of : PySem.W.nsIn K mainGlobals "multiples_of" = some (some (.ref f_multiples_of)))
    (l_multiples_of : K.lookup f_multiples_of = some ⟨oc_multiples_of, od_multiples_of, .func (PySem.W.fnOf "multiples_of" "multiples_of" (defArgs st_multiples_of) (defBody st_multiples_of) (defScope st_multiples_of) .none kV_multiples_of dc_multiples_of pm_multiples_of an_multiples_of cd_multiples_of ct_multiples_of), sl_multiples_of⟩)
    (cc_multiples_of : PySem.W.codeIn K cd_multiples_of "multiples_of" = true)
    (k_multiples_of : PySem.W.keepIn K (.ref f_multiples_of) = true)
    {f_multiples : Addr} {oc_multiples kV_multiples dc_multiples pm_multiples ct_multiples : Value} {od_multiples an_multiples : Option Addr} {sl_multiples : Array (Option Value)} {cd_multiples : Value}
    (a_multiples : PySem.W.nsIn K mainGlobals "multiples" = some (some (.ref f_multiples)))
    (l_multiples : K.lookup f_multiples = some ⟨oc_multiples, od_multiples, .func (PySem.W.fnOf "multiples" "multiples" (defArgs st_multiples) (defBody st_multiples) (defScope st_multiples) .none kV_multiples dc_multiples pm_multiples an_multiples cd_multiples ct_multiples), sl_multiples⟩)
    (cc_multiples : PySem.W.codeIn K cd_multiples "multiples" = true)
    (k_multiples : PySem.W.keepIn K (.ref f_multiples) = true)
    {f_least_multiple : Addr} {oc_least_multiple kV_least_multiple dc_least_multiple pm_least_multiple ct_least_multiple : Value} {od_least_multiple an_least_multiple : Option Addr} {sl_least_multiple : Array (Option Value)} {cd_least_multiple : Value}
    (a_least_multiple : PySem.W.nsIn K mainGlobals "least_multiple" = some (some (.ref f_least_multiple)))
    (l_least_multiple : K.lookup f_least_multiple = some ⟨oc_least_multiple, od_least_multiple, .func (PySem.W.fnOf "least_multiple" "least_multiple" (defArgs st_least_multiple) (defBody st_least_multiple) (defScope st_least_multiple) .none kV_least_multiple dc_least_multiple pm_least_multiple an_least_multiple cd_least_multiple ct_least_multiple), sl_least_multiple⟩)
    (cc_least_multiple : PySem.W.codeIn K cd_least_multiple "least_multiple" = true)
    (k_least_multiple : PySem.W.keepIn K (.ref f_least_multiple) = true)
    {f_are_multiples : Addr} {oc_are_multiples kV_are_multiples dc_are_multiples pm_are_multiples ct_are_multiples : Value} {od_are_multiples an_are_multiples : Option Addr} {sl_are_multiples : Array (Option Value)} {cd_are_multiples : Value}
    (a_are_multiples : PySem.W.nsIn K mainGlobals "are_multiples" = some (some (.ref f_are_multiples)))
    (l_are_multiples : K.lookup f_are_multiples = some ⟨oc_are_multiples, od_are_multiples, .func (PySem.W.fnOf "are_multiples" "are_multiples" (defArgs st_are_multiples) (defBody st_are_multiples) (defScope st_are_multiples) .none kV_are_multiples dc_are_multiples pm_are_multiples an_are_multiples cd_are_multiples ct_are_multiples), sl_are_multiples⟩)
    (cc_are_multiples : PySem.W.codeIn K cd_are_multiples "are_multiples" = true)
    (k_are_multiples : PySem.W.keepIn K (.ref f_are_multiples) = true)
    {f_turned : Addr} {oc_turned kV_turned dc_turned pm_turned ct_turned : Value} {od_turned an_turned : Option Addr} {sl_turned : Array (Option Value)} {cd_turned : Value}
    (a_turned : PySem.W.nsIn K mainGlobals "turned" = some (some (.ref f_turned)))
    (l_turned : K.lookup f_turned = some ⟨oc_turned, od_turned, .func (PySem.W.fnOf "turned" "turned" (defArgs st_turned) (defBody st_turned) (defScope st_turned) .none kV_turned dc_turned pm_turned an_turned cd_turned ct_turned), sl_turned⟩)
    (cc_turned : PySem.W.codeIn K cd_turned "turned" = true)
    (k_turned : PySem.W.keepIn K (.ref f_turned) = true)
    {f_is_two_way : Addr} {oc_is_two_way kV_is_two_way dc_is_two_way pm_is_two_way ct_is_two_way : Value} {od_is_two_way an_is_two_way : Option Addr} {sl_is_two_way : Array (Option Value)} {cd_is_two_way : Value}
    (a_is_two_way : PySem.W.nsIn K mainGlobals "is_two_way" = some (some (.ref f_is_two_way)))
    (l_is_two_way : K.lookup f_is_two_way = some ⟨oc_is_two_way, od_is_two_way, .func (PySem.W.fnOf "is_two_way" "is_two_way" (defArgs st_is_two_way) (defBody st_is_two_way) (defScope st_is_two_way) .none kV_is_two_way dc_is_two_way pm_is_two_way an_is_two_way cd_is_two_way ct_is_two_way), sl_is_two_way⟩)
    (cc_is_two_way : PySem.W.codeIn K cd_is_two_way "is_two_way" = true)
    (k_is_two_way : PySem.W.keepIn K (.ref f_is_two_way) = true)
    {f_ways_of : Addr} {oc_ways_of kV_ways_of dc_ways_of pm_ways_of ct_ways_of : Value} {od_ways_of an_ways_of : Option Addr} {sl_ways_of : Array (Option Value)} {cd_ways_of : Value}
    (a_ways_of : PySem.W.nsIn K mainGlobals "ways_of" = some (some (.ref f_ways_of)))
    (l_ways_of : K.lookup f_ways_of = some ⟨oc_ways_of, od_ways_of, .func (PySem.W.fnOf "ways_of" "ways_of" (defArgs st_ways_of) (defBody st_ways_of) (defScope st_ways_of) .none kV_ways_of dc_ways_of pm_ways_of an_ways_of cd_ways_of ct_ways_of), sl_ways_of⟩)
    (cc_ways_of : PySem.W.codeIn K cd_ways_of "ways_of" = true)
    (k_ways_of : PySem.W.keepIn K (.ref f_ways_of) = true)
    {f_ways : Addr} {oc_ways kV_ways dc_ways pm_ways ct_ways : Value} {od_ways an_ways : Option Addr} {sl_ways : Array (Option Value)} {cd_ways : Value}
    (a_ways : PySem.W.nsIn K mainGlobals "ways" = some (some (.ref f_ways)))
    (l_ways : K.lookup f_ways = some ⟨oc_ways, od_ways, .func (PySem.W.fnOf "ways" "ways" (defArgs st_ways) (defBody st_ways) (defScope st_ways) .none kV_ways dc_ways pm_ways an_ways cd_ways ct_ways), sl_ways⟩)
    (cc_ways : PySem.W.codeIn K cd_ways "ways" = true)
    (k_ways : PySem.W.keepIn K (.ref f_ways) = true)
    {f_wrong_net : Addr} {oc_wrong_net kV_wrong_net dc_wrong_net pm_wrong_net ct_wrong_net : Value} {od_wrong_net an_wrong_net : Option Addr} {sl_wrong_net : Array (Option Value)} {c_wrong_net P_wrong_net : Addr} {e_wrong_net : Value} {dd_wrong_net : Option Addr} {vs_wrong_net : Array Value} {sm_wrong_net : Array (Option Value)}
    (a_wrong_net : PySem.W.nsIn K mainGlobals "wrong_net" = some (some (.ref f_wrong_net)))
    (l_wrong_net : K.lookup f_wrong_net = some ⟨oc_wrong_net, od_wrong_net, .func (PySem.W.fnOf "wrong_net" "wrong_net" (defArgs st_wrong_net) (defBody st_wrong_net) (defScope st_wrong_net) .none kV_wrong_net dc_wrong_net pm_wrong_net an_wrong_net (.ref c_wrong_net) ct_wrong_net), sl_wrong_net⟩)
    (cc_wrong_net : PySem.W.codeIn K (.ref c_wrong_net) "wrong_net" = true)
    (k_wrong_net : PySem.W.keepIn K (.ref f_wrong_net) = true)
    (lc_wrong_net : K.lookup c_wrong_net = some ⟨e_wrong_net, dd_wrong_net, .fields vs_wrong_net, sm_wrong_net⟩)
    (p_wrong_net : vs_wrong_net[11]? = some (.ref P_wrong_net))
    (n_wrong_net : K.lookup P_wrong_net = none)
    (hd_wrong_net : PySem.W.codeHdIn K c_wrong_net P_wrong_net = true)
    {f_is_net : Addr} {oc_is_net kV_is_net dc_is_net pm_is_net ct_is_net : Value} {od_is_net an_is_net : Option Addr} {sl_is_net : Array (Option Value)} {cd_is_net : Value}
    (a_is_net : PySem.W.nsIn K mainGlobals "is_net" = some (some (.ref f_is_net)))
    (l_is_net : K.lookup f_is_net = some ⟨oc_is_net, od_is_net, .func (PySem.W.fnOf "is_net" "is_net" (defArgs st_is_net) (defBody st_is_net) (defScope st_is_net) .none kV_is_net dc_is_net pm_is_net an_is_net cd_is_net ct_is_net), sl_is_net⟩)
    (cc_is_net : PySem.W.codeIn K cd_is_net "is_net" = true)
    (k_is_net : PySem.W.keepIn K (.ref f_is_net) = true)
    {f_net_of : Addr} {oc_net_of kV_net_of dc_net_of pm_net_of ct_net_of : Value} {od_net_of an_net_of : Option Addr} {sl_net_of : Array (Option Value)} {cd_net_of : Value}
    (a_net_of : PySem.W.nsIn K mainGlobals "net_of" = some (some (.ref f_net_of)))
    (l_net_of : K.lookup f_net_of = some ⟨oc_net_of, od_net_of, .func (PySem.W.fnOf "net_of" "net_of" (defArgs st_net_of) (defBody st_net_of) (defScope st_net_of) .none kV_net_of dc_net_of pm_net_of an_net_of cd_net_of ct_net_of), sl_net_of⟩)
    (cc_net_of : PySem.W.codeIn K cd_net_of "net_of" = true)
    (k_net_of : PySem.W.keepIn K (.ref f_net_of) = true)
    {f__law_taken : Addr} {oc__law_taken kV__law_taken dc__law_taken pm__law_taken ct__law_taken : Value} {od__law_taken an__law_taken : Option Addr} {sl__law_taken : Array (Option Value)} {cd__law_taken : Value}
    (a__law_taken : PySem.W.nsIn K mainGlobals "_law_taken" = some (some (.ref f__law_taken)))
    (l__law_taken : K.lookup f__law_taken = some ⟨oc__law_taken, od__law_taken, .func (PySem.W.fnOf "_law_taken" "_law_taken" (defArgs st__law_taken) (defBody st__law_taken) (defScope st__law_taken) .none kV__law_taken dc__law_taken pm__law_taken an__law_taken cd__law_taken ct__law_taken), sl__law_taken⟩)
    (cc__law_taken : PySem.W.codeIn K cd__law_taken "_law_taken" = true)
    (k__law_taken : PySem.W.keepIn K (.ref f__law_taken) = true)
    {f__law_pick : Addr} {oc__law_pick kV__law_pick dc__law_pick pm__law_pick ct__law_pick : Value} {od__law_pick an__law_pick : Option Addr} {sl__law_pick : Array (Option Value)} {cd__law_pick : Value}
    (a__law_pick : PySem.W.nsIn K mainGlobals "_law_pick" = some (some (.ref f__law_pick)))
    (l__law_pick : K.lookup f__law_pick = some ⟨oc__law_pick, od__law_pick, .func (PySem.W.fnOf "_law_pick" "_law_pick" (defArgs st__law_pick) (defBody st__law_pick) (defScope st__law_pick) .none kV__law_pick dc__law_pick pm__law_pick an__law_pick cd__law_pick ct__law_pick), sl__law_pick⟩)
    (cc__law_pick : PySem.W.codeIn K cd__law_pick "_law_pick" = true)
    (k__law_pick : PySem.W.keepIn K (.ref f__law_pick) = true)
    {f__law_alike : Addr} {oc__law_alike kV__law_alike dc__law_alike pm__law_alike ct__law_alike : Value} {od__law_alike an__law_alike : Option Addr} {sl__law_alike : Array (Option Value)} {cd__law_alike : Value}
    (a__law_alike : PySem.W.nsIn K mainGlobals "_law_alike" = some (some (.ref f__law_alike)))
    (l__law_alike : K.lookup f__law_alike = some ⟨oc__law_alike, od__law_alike, .func (PySem.W.fnOf "_law_alike" "_law_alike" (defArgs st__law_alike) (defBody st__law_alike) (defScope st__law_alike) .none kV__law_alike dc__law_alike pm__law_alike an__law_alike cd__law_alike ct__law_alike), sl__law_alike⟩)
    (cc__law_alike : PySem.W.codeIn K cd__law_alike "_law_alike" = true)
    (k__law_alike : PySem.W.keepIn K (.ref f__law_alike) = true)
    {f__law_divisor : Addr} {oc__law_divisor kV__law_divisor dc__law_divisor pm__law_divisor ct__law_divisor : Value} {od__law_divisor an__law_divisor : Option Addr} {sl__law_divisor : Array (Option Value)} {cd__law_divisor : Value}
    (a__law_divisor : PySem.W.nsIn K mainGlobals "_law_divisor" = some (some (.ref f__law_divisor)))
    (l__law_divisor : K.lookup f__law_divisor = some ⟨oc__law_divisor, od__law_divisor, .func (PySem.W.fnOf "_law_divisor" "_law_divisor" (defArgs st__law_divisor) (defBody st__law_divisor) (defScope st__law_divisor) .none kV__law_divisor dc__law_divisor pm__law_divisor an__law_divisor cd__law_divisor ct__law_divisor), sl__law_divisor⟩)
    (cc__law_divisor : PySem.W.codeIn K cd__law_divisor "_law_divisor" = true)
    (k__law_divisor : PySem.W.keepIn K (.ref f__law_divisor) = true)
    {f__law_factors : Addr} {oc__law_factors kV__law_factors dc__law_factors pm__law_factors ct__law_factors : Value} {od__law_factors an__law_factors : Option Addr} {sl__law_factors : Array (Option Value)} {cd__law_factors : Value}
    (a__law_factors : PySem.W.nsIn K mainGlobals "_law_factors" = some (some (.ref f__law_factors)))
    (l__law_factors : K.lookup f__law_factors = some ⟨oc__law_factors, od__law_factors, .func (PySem.W.fnOf "_law_factors" "_law_factors" (defArgs st__law_factors) (defBody st__law_factors) (defScope st__law_factors) .none kV__law_factors dc__law_factors pm__law_factors an__law_factors cd__law_factors ct__law_factors), sl__law_factors⟩)
    (cc__law_factors : PySem.W.codeIn K cd__law_factors "_law_factors" = true)
    (k__law_factors : PySem.W.keepIn K (.ref f__law_factors) = true)
    {f__law_times : Addr} {oc__law_times kV__law_times dc__law_times pm__law_times ct__law_times : Value} {od__law_times an__law_times : Option Addr} {sl__law_times : Array (Option Value)} {cd__law_times : Value}
    (a__law_times : PySem.W.nsIn K mainGlobals "_law_times" = some (some (.ref f__law_times)))
    (l__law_times : K.lookup f__law_times = some ⟨oc__law_times, od__law_times, .func (PySem.W.fnOf "_law_times" "_law_times" (defArgs st__law_times) (defBody st__law_times) (defScope st__law_times) .none kV__law_times dc__law_times pm__law_times an__law_times cd__law_times ct__law_times), sl__law_times⟩)
    (cc__law_times : PySem.W.codeIn K cd__law_times "_law_times" = true)
    (k__law_times : PySem.W.keepIn K (.ref f__law_times) = true)
    {f__law_web : Addr} {oc__law_web kV__law_web dc__law_web pm__law_web ct__law_web : Value} {od__law_web an__law_web : Option Addr} {sl__law_web : Array (Option Value)} {cd__law_web : Value}
    (a__law_web : PySem.W.nsIn K mainGlobals "_law_web" = some (some (.ref f__law_web)))
    (l__law_web : K.lookup f__law_web = some ⟨oc__law_web, od__law_web, .func (PySem.W.fnOf "_law_web" "_law_web" (defArgs st__law_web) (defBody st__law_web) (defScope st__law_web) .none kV__law_web dc__law_web pm__law_web an__law_web cd__law_web ct__law_web), sl__law_web⟩)
    (cc__law_web : PySem.W.codeIn K cd__law_web "_law_web" = true)
    (k__law_web : PySem.W.keepIn K (.ref f__law_web) = true)
    {f__law_ways : Addr} {oc__law_ways kV__law_ways dc__law_ways pm__law_ways ct__law_ways : Value} {od__law_ways an__law_ways : Option Addr} {sl__law_ways : Array (Option Value)} {cd__law_ways : Value}
    (a__law_ways : PySem.W.nsIn K mainGlobals "_law_ways" = some (some (.ref f__law_ways)))
    (l__law_ways : K.lookup f__law_ways = some ⟨oc__law_ways, od__law_ways, .func (PySem.W.fnOf "_law_ways" "_law_ways" (defArgs st__law_ways) (defBody st__law_ways) (defScope st__law_ways) .none kV__law_ways dc__law_ways pm__law_ways an__law_ways cd__law_ways ct__law_ways), sl__law_ways⟩)
    (cc__law_ways : PySem.W.codeIn K cd__law_ways "_law_ways" = true)
    (k__law_ways : PySem.W.keepIn K (.ref f__law_ways) = true)
    {f_law : Addr} {oc_law kV_law dc_law pm_law ct_law : Value} {od_law an_law : Option Addr} {sl_law : Array (Option Value)} {cd_law : Value}
    (a_law : PySem.W.nsIn K mainGlobals "law" = some (some (.ref f_law)))
    (l_law : K.lookup f_law = some ⟨oc_law, od_law, .func (PySem.W.fnOf "law" "law" (defArgs st_law) (defBody st_law) (defScope st_law) .none kV_law dc_law pm_law an_law cd_law ct_law), sl_law⟩)
    (cc_law : PySem.W.codeIn K cd_law "law" = true)
    (k_law : PySem.W.keepIn K (.ref f_law) = true)
    (z_all : PySem.W.nsIn K mainGlobals "all" = some none)
    (z_bool : PySem.W.nsIn K mainGlobals "bool" = some none)
    (z_int : PySem.W.nsIn K mainGlobals "int" = some none)
    (z_isinstance : PySem.W.nsIn K mainGlobals "isinstance" = some none)
    (z_len : PySem.W.nsIn K mainGlobals "len" = some none)
    (z_list : PySem.W.nsIn K mainGlobals "list" = some none)
    (z_max : PySem.W.nsIn K mainGlobals "max" = some none)
    (z_range : PySem.W.nsIn K mainGlobals "range" = some none)
    (z_set : PySem.W.nsIn K mainGlobals "set" = some none)
    (z_sorted : PySem.W.nsIn K mainGlobals "sorted" = some none)
    (z_str : PySem.W.nsIn K mainGlobals "str" = some none)
    (z_tuple : PySem.W.nsIn K mainGlobals "tuple" = some none)
    (z_zip : PySem.W.nsIn K mainGlobals "zip" = some none)
    {t_MOST_HALLS : Tok}
    (v_MOST_HALLS : PySem.W.nsIn K mainGlobals "MOST_HALLS" = some (some (.int 13 t_MOST_HALLS)))
    : LamX.LawAtS PySem.Challenge.rw_stepwebs_k01_whole_webs w K (L2.CX PySem.Challenge.rw_stepwebs_k01_whole_webs.prog w) 8 63 "_law_script" mg fa h := by
  have e := hfa.symm.trans (PySem.W.mg_of KX N a_law)
  cases e
  refine law_at (G := ⟨K, [P_wrong_web, P_wrong_net], fun _ => 0⟩) (F := F_law) [(c_wrong_web, P_wrong_web), (c_wrong_net, P_wrong_net)] KX rfl rfl (List.forall_mem_cons.mpr ⟨ownTab_of (tabs _ (List.mem_cons_self) _ (PySem.W.mg_of KX N a_wrong_web)) l_wrong_web lc_wrong_web p_wrong_web, (List.forall_mem_cons.mpr ⟨ownTab_of (tabs _ (List.mem_cons_of_mem _ (List.mem_cons_self)) _ (PySem.W.mg_of KX N a_wrong_net)) l_wrong_net lc_wrong_net p_wrong_net, (fun _ h => nomatch h)⟩)⟩) (List.forall_mem_cons.mpr ⟨n_wrong_web, (List.forall_mem_cons.mpr ⟨n_wrong_net, (fun _ h => nomatch h)⟩)⟩) (List.forall_mem_cons.mpr ⟨hd_wrong_web, (List.forall_mem_cons.mpr ⟨hd_wrong_net, (fun _ h => nomatch h)⟩)⟩) (fun s v => .of_eq rfl) (fun base KB NB TB => okf_law (G := ⟨K, [P_wrong_web, P_wrong_net], fun _ => 0⟩) ?_ (fun_mk l_law cc_law k_law)) main_law
  exact {
    t_is_number := topF_of KX N a_is_number l_is_number cc_is_number k_is_number
    t_wrong_web := topG_of KX N a_wrong_web l_wrong_web cc_wrong_web k_wrong_web (List.mem_cons_self) (TB _ (List.mem_cons_self))
    t_is_web := topF_of KX N a_is_web l_is_web cc_is_web k_is_web
    t_need_web := topF_of KX N a_need_web l_need_web cc_need_web k_need_web
    t_need_two := topF_of KX N a_need_two l_need_two cc_need_two k_need_two
    t_divisor := topF_of KX N a_divisor l_divisor cc_divisor k_divisor
    t_factors_of := topF_of KX N a_factors_of l_factors_of cc_factors_of k_factors_of
    t_factors := topF_of KX N a_factors l_factors cc_factors k_factors
    t_multiplied := topF_of KX N a_multiplied l_multiplied cc_multiplied k_multiplied
    t_times := topF_of KX N a_times l_times cc_times k_times
    t_multiples_of := topF_of KX N a_multiples_of l_multiples_of cc_multiples_of k_multiples_of
    t_multiples := topF_of KX N a_multiples l_multiples cc_multiples k_multiples
    t_least_multiple := topF_of KX N a_least_multiple l_least_multiple cc_least_multiple k_least_multiple
    t_are_multiples := topF_of KX N a_are_multiples l_are_multiples cc_are_multiples k_are_multiples
    t_turned := topF_of KX N a_turned l_turned cc_turned k_turned
    t_is_two_way := topF_of KX N a_is_two_way l_is_two_way cc_is_two_way k_is_two_way
    t_ways_of := topF_of KX N a_ways_of l_ways_of cc_ways_of k_ways_of
    t_ways := topF_of KX N a_ways l_ways cc_ways k_ways
    t_wrong_net := topG_of KX N a_wrong_net l_wrong_net cc_wrong_net k_wrong_net (List.mem_cons_of_mem _ (List.mem_cons_self)) (TB _ (List.mem_cons_of_mem _ (List.mem_cons_self)))
    t_is_net := topF_of KX N a_is_net l_is_net cc_is_net k_is_net
    t_net_of := topF_of KX N a_net_of l_net_of cc_net_of k_net_of
    t__law_taken := topF_of KX N a__law_taken l__law_taken cc__law_taken k__law_taken
    t__law_pick := topF_of KX N a__law_pick l__law_pick cc__law_pick k__law_pick
    t__law_alike := topF_of KX N a__law_alike l__law_alike cc__law_alike k__law_alike
    t__law_divisor := topF_of KX N a__law_divisor l__law_divisor cc__law_divisor k__law_divisor
    t__law_factors := topF_of KX N a__law_factors l__law_factors cc__law_factors k__law_factors
    t__law_times := topF_of KX N a__law_times l__law_times cc__law_times k__law_times
    t__law_web := topF_of KX N a__law_web l__law_web cc__law_web k__law_web
    t__law_ways := topF_of KX N a__law_ways l__law_ways cc__law_ways k__law_ways
    t_law := topF_of KX N a_law l_law cc_law k_law
    b_all := PySem.W.mg_none_of KX N z_all
    b_bool := PySem.W.mg_none_of KX N z_bool
    b_int := PySem.W.mg_none_of KX N z_int
    b_isinstance := PySem.W.mg_none_of KX N z_isinstance
    b_len := PySem.W.mg_none_of KX N z_len
    b_list := PySem.W.mg_none_of KX N z_list
    b_max := PySem.W.mg_none_of KX N z_max
    b_range := PySem.W.mg_none_of KX N z_range
    b_set := PySem.W.mg_none_of KX N z_set
    b_sorted := PySem.W.mg_none_of KX N z_sorted
    b_str := PySem.W.mg_none_of KX N z_str
    b_tuple := PySem.W.mg_none_of KX N z_tuple
    b_zip := PySem.W.mg_none_of KX N z_zip
    c_MOST_HALLS := ⟨_, PySem.W.mg_of KX N v_MOST_HALLS, ⟨_, rfl⟩⟩
  }
end LW
open PySem PySem.W PyProof.Rows
set_option maxRecDepth 100000 in
set_option maxHeartbeats 0 in
theorem PySem.Challenge.cw_stepwebs_k01_whole_webs_holds : PySem.Challenge.rw_stepwebs_k01_whole_webs.Holds := by
  w_on; o_law; k_head; (case hw => w_witness2)
  k_fill
  refine DL.walk_all (l := PySem.Challenge.rw_stepwebs_k01_whole_webs) (n := 63) (k := 8) (x := "_law_script") (CX := fun w => L2.CX PySem.Challenge.rw_stepwebs_k01_whole_webs.prog w) LW.gnames rfl (by decide) rfl ⟨rfl, by decide, by decide⟩ (by decide +kernel) (fun w h Y => PySem.W.kIn_of Y) ?F (fun _ _ _ _ _ h => DL.cx_none h)
  case F =>
    intro w mg fa h Y KX N hmg tabs
    refine' LW.all_mk KX N hmg tabs ?a_is_number ?l_is_number ?cc_is_number ?k_is_number ?a_wrong_web ?l_wrong_web ?cc_wrong_web ?k_wrong_web ?lc_wrong_web ?p_wrong_web ?n_wrong_web ?hd_wrong_web ?a_is_web ?l_is_web ?cc_is_web ?k_is_web ?a_need_web ?l_need_web ?cc_need_web ?k_need_web ?a_need_two ?l_need_two ?cc_need_two ?k_need_two ?a_divisor ?l_divisor ?cc_divisor ?k_divisor ?a_factors_of ?l_factors_of ?cc_factors_of ?k_factors_of ?a_factors ?l_factors ?cc_factors ?k_factors ?a_multiplied ?l_multiplied ?cc_multiplied ?k_multiplied ?a_times ?l_times ?cc_times ?k_times ?a_multiples_of ?l_multiples_of ?cc_multiples_of ?k_multiples_of ?a_multiples ?l_multiples ?cc_multiples ?k_multiples ?a_least_multiple ?l_least_multiple ?cc_least_multiple ?k_least_multiple ?a_are_multiples ?l_are_multiples ?cc_are_multiples ?k_are_multiples ?a_turned ?l_turned ?cc_turned ?k_turned ?a_is_two_way ?l_is_two_way ?cc_is_two_way ?k_is_two_way ?a_ways_of ?l_ways_of ?cc_ways_of ?k_ways_of ?a_ways ?l_ways ?cc_ways ?k_ways ?a_wrong_net ?l_wrong_net ?cc_wrong_net ?k_wrong_net ?lc_wrong_net ?p_wrong_net ?n_wrong_net ?hd_wrong_net ?a_is_net ?l_is_net ?cc_is_net ?k_is_net ?a_net_of ?l_net_of ?cc_net_of ?k_net_of ?a__law_taken ?l__law_taken ?cc__law_taken ?k__law_taken ?a__law_pick ?l__law_pick ?cc__law_pick ?k__law_pick ?a__law_alike ?l__law_alike ?cc__law_alike ?k__law_alike ?a__law_divisor ?l__law_divisor ?cc__law_divisor ?k__law_divisor ?a__law_factors ?l__law_factors ?cc__law_factors ?k__law_factors ?a__law_times ?l__law_times ?cc__law_times ?k__law_times ?a__law_web ?l__law_web ?cc__law_web ?k__law_web ?a__law_ways ?l__law_ways ?cc__law_ways ?k__law_ways ?a_law ?l_law ?cc_law ?k_law ?z_all ?z_bool ?z_int ?z_isinstance ?z_len ?z_list ?z_max ?z_range ?z_set ?z_sorted ?z_str ?z_tuple ?z_zip ?v_MOST_HALLS
    (case a_is_number => k_is)
    (case l_is_number => k_is)
    (case cc_is_number => k_is)
    (case k_is_number => k_is)
    (case a_wrong_web => k_is)
    (case l_wrong_web => k_is)
    (case cc_wrong_web => k_is)
    (case k_wrong_web => k_is)
    (case lc_wrong_web => k_is)
    (case p_wrong_web => rfl)
    (case n_wrong_web => first | k_is | kernel_rfl)
    (case hd_wrong_web => first | k_is | kernel_rfl)
    (case a_is_web => k_is)
    (case l_is_web => k_is)
    (case cc_is_web => k_is)
    (case k_is_web => k_is)
    (case a_need_web => k_is)
    (case l_need_web => k_is)
    (case cc_need_web => k_is)
    (case k_need_web => k_is)
    (case a_need_two => k_is)
    (case l_need_two => k_is)
    (case cc_need_two => k_is)
    (case k_need_two => k_is)
    (case a_divisor => k_is)
    (case l_divisor => k_is)
    (case cc_divisor => k_is)
    (case k_divisor => k_is)
    (case a_factors_of => k_is)
    (case l_factors_of => k_is)
    (case cc_factors_of => k_is)
    (case k_factors_of => k_is)
    (case a_factors => k_is)
    (case l_factors => k_is)
    (case cc_factors => k_is)
    (case k_factors => k_is)
    (case a_multiplied => k_is)
    (case l_multiplied => k_is)
    (case cc_multiplied => k_is)
    (case k_multiplied => k_is)
    (case a_times => k_is)
    (case l_times => k_is)
    (case cc_times => k_is)
    (case k_times => k_is)
    (case a_multiples_of => k_is)
    (case l_multiples_of => k_is)
    (case cc_multiples_of => k_is)
    (case k_multiples_of => k_is)
    (case a_multiples => k_is)
    (case l_multiples => k_is)
    (case cc_multiples => k_is)
    (case k_multiples => k_is)
    (case a_least_multiple => k_is)
    (case l_least_multiple => k_is)
    (case cc_least_multiple => k_is)
    (case k_least_multiple => k_is)
    (case a_are_multiples => k_is)
    (case l_are_multiples => k_is)
    (case cc_are_multiples => k_is)
    (case k_are_multiples => k_is)
    (case a_turned => k_is)
    (case l_turned => k_is)
    (case cc_turned => k_is)
    (case k_turned => k_is)
    (case a_is_two_way => k_is)
    (case l_is_two_way => k_is)
    (case cc_is_two_way => k_is)
    (case k_is_two_way => k_is)
    (case a_ways_of => k_is)
    (case l_ways_of => k_is)
    (case cc_ways_of => k_is)
    (case k_ways_of => k_is)
    (case a_ways => k_is)
    (case l_ways => k_is)
    (case cc_ways => k_is)
    (case k_ways => k_is)
    (case a_wrong_net => k_is)
    (case l_wrong_net => k_is)
    (case cc_wrong_net => k_is)
    (case k_wrong_net => k_is)
    (case lc_wrong_net => k_is)
    (case p_wrong_net => rfl)
    (case n_wrong_net => first | k_is | kernel_rfl)
    (case hd_wrong_net => first | k_is | kernel_rfl)
    (case a_is_net => k_is)
    (case l_is_net => k_is)
    (case cc_is_net => k_is)
    (case k_is_net => k_is)
    (case a_net_of => k_is)
    (case l_net_of => k_is)
    (case cc_net_of => k_is)
    (case k_net_of => k_is)
    (case a__law_taken => k_is)
    (case l__law_taken => k_is)
    (case cc__law_taken => k_is)
    (case k__law_taken => k_is)
    (case a__law_pick => k_is)
    (case l__law_pick => k_is)
    (case cc__law_pick => k_is)
    (case k__law_pick => k_is)
    (case a__law_alike => k_is)
    (case l__law_alike => k_is)
    (case cc__law_alike => k_is)
    (case k__law_alike => k_is)
    (case a__law_divisor => k_is)
    (case l__law_divisor => k_is)
    (case cc__law_divisor => k_is)
    (case k__law_divisor => k_is)
    (case a__law_factors => k_is)
    (case l__law_factors => k_is)
    (case cc__law_factors => k_is)
    (case k__law_factors => k_is)
    (case a__law_times => k_is)
    (case l__law_times => k_is)
    (case cc__law_times => k_is)
    (case k__law_times => k_is)
    (case a__law_web => k_is)
    (case l__law_web => k_is)
    (case cc__law_web => k_is)
    (case k__law_web => k_is)
    (case a__law_ways => k_is)
    (case l__law_ways => k_is)
    (case cc__law_ways => k_is)
    (case k__law_ways => k_is)
    (case a_law => k_is)
    (case l_law => k_is)
    (case cc_law => k_is)
    (case k_law => k_is)
    (case z_all => k_is)
    (case z_bool => k_is)
    (case z_int => k_is)
    (case z_isinstance => k_is)
    (case z_len => k_is)
    (case z_list => k_is)
    (case z_max => k_is)
    (case z_range => k_is)
    (case z_set => k_is)
    (case z_sorted => k_is)
    (case z_str => k_is)
    (case z_tuple => k_is)
    (case z_zip => k_is)
    (case v_MOST_HALLS => k_is)#print axioms PySem.Challenge.cw_stepwebs_k01_whole_webs_holds
