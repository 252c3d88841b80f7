import PyProof.Rows.All
import Wide.All
import OpenK.AllK
import Wide.FinOn
import HandS.ForMost
import HandS.AnyAll
import HandS.GenList
import HandS.ForExc
import HandS.Zip
import HandS.TupAny
import HandS.TupMul
import HandS.Deep
import HandS.Style
import HandS.IsInst
import KE.SortData
import HandS.TryOnly
import HandS.TupSets
import KE.KeyNested
import HandS.EndTab
import HandS.EndOwn
import PyProof.EnumMake
import PyProof.Draws
import KE.GoesMore
import HandS.Conv
import HandS.SetFor
import HandS.Strs
import HandS.Exc
import HandS.ExcOwn
import PyProof.ExcBaseAll.ValueError
import HandS.More
import HandS.SetKeys
import HandS.Iter
import KE.KExcSuper
import HandS.ExcInit
import HandS.Nested
import HandS.Words
import HandS.Property
import KE.KTupSum
import PySem.Challenge.RW_stepwebs_k08_whole_wheels
-- text GX
set_option Elab.async false
set_option linter.all false
set_option maxRecDepth 100000
set_option maxHeartbeats 2000000
namespace DL
open PySem PySem.Spec PyProof.Rows L2 GxR GenW

/-- the frame of a generator expression, resumed inside A2 -/
abbrev gx (X : Cx) (A2 : Around) (s : Shared) (H : Hp) (ce : Env) (fp : List Addr) (pn : List (Addr × Obj)) : Cx :=
  { X with A := A2.deeper ce, s_0 := s, H_0 := H, env := ce, outer := X.stack, stack := ce :: X.stack, ex := fp, fn := fun _ => false, pn := pn, xe := fun _ _ => False }

/-- what is asked of the scope of a generator expression (beside BlkOk) -/
structure GSc (N : List Str) (scope : Scope) : Prop where
  co : scope.isCoroutine = false
  cell : ∀ y ∈ scope.names, y.2 ≠ .cell
  dot : scope.names.lookup (".0" : Str) = some NameKind.local
  dotN : (".0" : Str) ∉ N
def gscC (N : List Str) (scope : Scope) : Bool :=
  (!scope.isCoroutine) && scope.names.all (fun y => decide (y.2 ≠ .cell)) && decide (scope.names.lookup (".0" : Str) = some NameKind.local) && decide ((".0" : Str) ∉ N)
theorem gsc_by {N : List Str} {scope : Scope} (h : gscC N scope = true) : GSc N scope := by
  unfold gscC at h
  simp only [Bool.and_eq_true, Bool.not_eq_true', decide_eq_true_eq, List.all_eq_true] at h
  exact ⟨h.1.1.1, h.1.1.2, h.1.2, h.2⟩

section
variable {X : Cx} {pins : List (Addr × Obj)} {σ : L2.St} {H : Hp} {s : Shared}

theorem gx_cells (I : Inv X pins σ H s) {scope : Scope} {own : List (Str × Nat)} (ok : BlkOk X.N X.env.scope scope own) {y : Str} {c : Addr}
    (e : (cloFrom X.env.cells scope.names []).lookup y = some c) : X.env.cells.lookup y = some c ∧ scope.names.lookup y = some .free := by
  rcases cloFrom_mem (PySem.mem_of_lookup e) with hm | ⟨hm, rfl⟩
  · cases hm
  · have hk : ∃ c, X.env.cells.lookup y = some c := by
      rcases ok.free _ hm rfl with k | k
      · exact I.ok.has _ (.inl k)
      · exact I.ok.has _ (.inr k)
    obtain ⟨c, hc⟩ := hk
    rw [hc]
    exact ⟨rfl, ok.uniq _ hm⟩
theorem gx_free (I : Inv X pins σ H s) {scope : Scope} {own : List (Str × Nat)} (ok : BlkOk X.N X.env.scope scope own) {y : Str}
    (e : scope.names.lookup y = some .free) : ∃ c, (cloFrom X.env.cells scope.names []).lookup y = some c := by
  obtain ⟨c, hc⟩ := L2.mem_lookup (cloFrom_has (cells := X.env.cells) (acc := []) (PySem.mem_of_lookup e))
  exact ⟨c, hc⟩

/-- the frame begins: the state s is that ahead of the frame's making -/
theorem gx_start {A2 : Around} {scope : Scope} {own : List (Str × Nat)} {fp : List Addr} {code : Value} {m0 : Str → Option Value} {h5 : Heap} {g5 : Array GenState} {t5 : Nat} {pn : List (Addr × Obj)}
    (hcm : X.calm = true) (I : Inv X pins σ H s) (ok : BlkOk X.N X.env.scope scope own) (G : GSc X.N scope) (hN : X.N.Nodup) (hfp : ∀ b ∈ fp, FpOk X pins H b ∧ b < s.heap.objs.size)
    (hA : A2.handled = none) (hF : A2.frames = some X.stack)
    (k : ∀ b o, s.heap.get? b = some o → h5.get? b = some o) (hns : h5.Ns s.heap.objs.size m0) (hg5 : AllBare g5)
    (hpn : ∀ p ∈ pn, s.heap.objs.size < p.1 ∧ h5.get? p.1 = some p.2 ∧ ∀ v, p.2.data ≠ .cell v) :
    Inv (gx X A2 s H (genEnv scope (cloFrom X.env.cells scope.names []) s.heap.objs.size code builtinsNs X.env) fp pn) [] (wipe σ (own.map (·.2))) H { s with heap := h5, gens := g5, toks := t5 } := by
  have clt : ∀ {y c}, (cloFrom X.env.cells scope.names []).lookup y = some c → c < s.heap.objs.size := fun {y c} e => by
    obtain ⟨e1, _⟩ := gx_cells I ok e
    obtain ⟨v, z⟩ := I.cell _ _ e1
    exact z.lt
  have okG : (gx X A2 s H (genEnv scope (cloFrom X.env.cells scope.names []) s.heap.objs.size code builtinsNs X.env) fp pn).Ok := by
    refine ⟨I.ok.mod, ok.kind, I.ok.glob, rfl, Nat.le_refl _, fun y z c e1 e2 => ?_, fun y hy => ?_, fun y c z e => ?_, fun _ => hA, ?_, .inr ⟨rfl, rfl⟩, fun b hb => ⟨?_, fun y c e z => ?_⟩,
      I.bs, Nat.le_trans I.ok.bsz I.sz, fun b o e hb => ?_, fun b hb z => ?_, I.stack, I.stkFree⟩
    · exact I.ok.inj y z c (gx_cells I ok e1).1 (gx_cells I ok e2).1
    · have hy : scope.names.lookup y = some .cell ∨ scope.names.lookup y = some .free := hy
      rcases hy with hy | hy
      · exact absurd rfl (G.cell _ (PySem.mem_of_lookup hy))
      · exact gx_free I ok hy
    · cases (show false = true from z)
    · show Option.map _ A2.frames = _
      rw [hF]; rfl
    · exact Nat.ne_of_lt (hfp b hb).2
    · exact (hfp b hb).1.2.2.2.2.1 y c (gx_cells I ok e).1 z
    · rcases (hfp b hb).1.2.2.2.1 with z | z
      · exact I.ok.noex b o e z
      · exact absurd (Nat.lt_of_lt_of_le (Heap.lt_size e) (Nat.le_trans I.ok.bsz z)) (Nat.lt_irrefl _)
    · rcases List.mem_cons.mp (I.stkSub b z) with z | z
      · exact (hfp b hb).1.2.1 z
      · exact (hfp b hb).1.2.2.1 z
  refine ⟨okG, rfl, hg5, Un.kept k, ⟨m0, hns, fun i y av e1 e2 e3 => ?_⟩, fun y c e => ?_, I.hok.fresh (Nat.le_refl _), fun y c e => ?_, fun p hp => ?_, I.hok.kept k, by rw [wipe_length]; exact I.len⟩
  · obtain ⟨e2, hne⟩ := wipe_some e2
    have hfr : scope.names.lookup y = some .free := by
      have e3 : scope.names.lookup y = some .local ∨ scope.names.lookup y = some .cell ∨ scope.names.lookup y = some .free := e3
      rcases e3 with e3 | e3 | e3
      · rcases ok.own _ (PySem.mem_of_lookup e3) (.inl rfl) with e' | e'
        · obtain ⟨p, hp, hpy⟩ := List.mem_map.mp e'
          have e4 := ok.ix p hp
          rw [show p.1 = y from hpy] at e4
          exact absurd (List.mem_map.mpr ⟨p, hp, nodup_ix hN e4 e1⟩) hne
        · exact absurd (List.mem_of_getElem? e1) e'
      · exact absurd rfl (G.cell _ (PySem.mem_of_lookup e3))
      · exact e3
    obtain ⟨m, hn, hl⟩ := I.loc
    have hk := ok.free _ (PySem.mem_of_lookup hfr) rfl
    have hvis : Vis X.env.scope y := hk.elim (fun k => .inr (.inl k)) (fun k => .inr (.inr k))
    obtain ⟨w, r, q⟩ := hl i y av e1 e2 hvis
    refine ⟨w, r, .inr ⟨.inr hfr, ?_⟩⟩
    obtain ⟨c, hc⟩ := gx_free I ok hfr
    rcases q with ⟨k', _⟩ | ⟨_, c', e', z⟩
    · have k' : X.env.scope.names.lookup y = some .local := k'
      rcases hk with z | z <;> rw [show X.env.scope.names.lookup y = _ from z] at k' <;> cases k'
    · have := (gx_cells I ok hc).1
      rw [this] at e'; cases e'
      exact ⟨c, hc, z.keeps k⟩
  · obtain ⟨w, z⟩ := I.cell y c (gx_cells I ok e).1
    exact ⟨w, z.keeps k⟩
  · exact I.freeC y c (gx_cells I ok e).1
  · have hp : p ∈ pn := by simpa using hp
    obtain ⟨h1, h2, h3⟩ := hpn p hp
    refine ⟨h2, I.hok.fresh (Nat.le_of_lt h1), Nat.ne_of_gt h1, fun z => ?_, h3⟩
    have z : p.1 ∈ frs X.stack := z
    rcases List.mem_cons.mp (I.stkSub _ z) with q | q
    · rw [q] at h1
      exact absurd (Nat.lt_trans h1 I.lt) (Nat.lt_irrefl _)
    · exact I.nofs (Nat.le_of_lt h1) q

/-! ### the generator's code -/
theorem over_ge {A : Around} {elt tg iter : Expr} {scope : Scope} {pos : Pos} {it : Addr} {ce : Env} :
    A.over (.compLoop (.GeneratorExp elt [⟨tg, iter, [], 0⟩] scope pos) 0 (.ref it) .none ce) [] = A.deeper ce := by
  obtain ⟨hd, d, fr, gs, u⟩ := A
  first
    | rfl
    | simp [Around.over, Around.deeper, marksOver, frameCount, unitsOf, envsOf, guardsOf, pushEnvs, pushGuards, Code.envs, Code.env?, Code.isFrame, Code.guards, Code.isGuard, Code.weight, Code.frames, Code.isCreation, Code.isCaller, Code.cUnits]
theorem over_gs {A : Around} {elt tg iter : Expr} {scope : Scope} {pos : Pos} {it : Addr} {ce : Env} :
    A.over (.compStart (.GeneratorExp elt [⟨tg, iter, [], 0⟩] scope pos) 0 (.ref it) .none ce) [] = A.deeper ce := by
  obtain ⟨hd, d, fr, gs, u⟩ := A
  first
    | rfl
    | simp [Around.over, Around.deeper, marksOver, frameCount, unitsOf, envsOf, guardsOf, pushEnvs, pushGuards, Code.envs, Code.env?, Code.isFrame, Code.guards, Code.isGuard, Code.weight, Code.frames, Code.isCreation, Code.isCaller, Code.cUnits]

/-- the truth of an element -/
def TruF (y : V) (b : Bool) : Prop := y = .bl b ∨ ∃ i, y = .int i ∧ b = (i != 0)
theorem tru_val {P : Program} {w : World} {A : Around} {E : Value → Shared → Prop} {s : Shared} {y : V} {v : Value} {b : Bool} {Q : Bool → Shared → Prop} (r : RelV y v) (h : TruF y b) (q : Q b s) : wpAny (model P w) A (truthy v) Q E s := by
  rcases h with rfl | ⟨i, rfl, rfl⟩
  · cases r
    exact wpAny_truthy_bool q
  · obtain ⟨t, rfl⟩ := r
    exact truthy_int q

/-- all(elt for tg in iter): W by the turn and a measure -/
def tAllG (P : Addr) (wi : TI) (g : TG) (te : TE) (vs : List Nat) : TE := fun σ H Q => wi σ H fun J H1 => TabG H1 P ∧ ∀ H2, Tabbed P H1 H2 → ∃ W : Nat → Nat → Hp → Prop, (∃ m, W 0 m H2) ∧ ∀ i m H, W i m H →
  (J.stop i H ∧ Q (.bl true) H) ∨ (J.go i H ∧ ∀ x H', J.yld i H x H' → g x (wipe σ vs) H' fun σ2 H2 => wipe σ2 vs = wipe σ vs ∧ te σ2 H2 fun y H3 => ∃ b, TruF y b ∧
    if b = true then ∃ m', m' < m ∧ W (i + 1) m' H3 else Q (.bl false) H3)

/-- the generator hands out an element -/
def YG (Y : Cx) (Q : VK) : Protocol := fun _ _ v s kap => ∃ (y : V) (b : Bool) (H3 : Hp), RelV y v ∧ TruF y b ∧ (∃ σ2 pins2, Inv Y pins2 σ2 H3 s) ∧ (b = false → Q (.bl false) H3) ∧
  (b = true → ∀ s' : Shared, s'.heap = s.heap → s'.os = s.os → AllBare s'.gens → kap (.send .none) s')
/-- it ends -/
def RG (Y : Cx) (Q : VK) : Nat → Shared → Shared → Prop := fun _ _ s => ∃ H3, (∃ σ2 pins2, Inv Y pins2 σ2 H3 s) ∧ Q (.bl true) H3
def RG' (Y : Cx) (Q : VK) : GenEnd := fun n s₀ r s => ((r = .ok (.ret .none) ∨ r = .ok .next) ∧ RG Y Q n s₀ s) ∨ ∃ e, r = .error e ∧ False

theorem inv_same {Y : Cx} {pins : List (Addr × Obj)} {σ : L2.St} {H : Hp} {s s' : Shared} (I : Inv Y pins σ H s) (h1 : s'.heap = s.heap) (h2 : s'.os = s.os) (h3 : AllBare s'.gens) : Inv Y pins σ H s' :=
  I.call' (ch := []) h2 (by rw [h1]; exact Un.refl) (by rw [h1]; exact I.hok) h3 fun b hb => absurd hb (by simp)

theorem ge_loop {A2 : Around} {elt tg iter : Expr} {scope : Scope} {pos : Pos} {it : Addr} {ce : Env} {fp : List Addr} {pn : List (Addr × Obj)} {tn : Nat → Heap → Prop} {J : It} {s₁ : Shared} {H₁ : Hp} {Q : VK} {W : Nat → Nat → Hp → Prop} {g : TG} {te : TE} {own : List Nat} {σ : L2.St}
    (hcm : X.calm = true) (hco : ce.scope.isCoroutine = false)
    (T : Turn X.prog X.w X.K tg J fp it tn) (hg : PG (gx X A2 s₁ H₁ ce fp pn) tg g) (he : PE (gx X A2 s₁ H₁ ce fp pn) elt te)
    (hnpn : ∀ p ∈ pn, p.1 ∉ fp)
    (turn : ∀ i m H, W i m H → (J.stop i H ∧ Q (.bl true) H) ∨ (J.go i H ∧ ∀ x H', J.yld i H x H' → g x (wipe σ own) H' fun σ2 H2 => wipe σ2 own = wipe σ own ∧ te σ2 H2 fun y H3 => ∃ b, TruF y b ∧
      if b = true then ∃ m', m' < m ∧ W (i + 1) m' H3 else Q (.bl false) H3)) :
    ∀ (n i m : Nat) (H5 : Hp) (s₀ s5 : Shared), m + 1 ≤ n → Inv (gx X A2 s₁ H₁ ce fp pn) [] (wipe σ own) H5 s5 → tn i s5.heap → (∀ b ∈ fp, H5 b = none) → W i m H5 →
      Seg (model X.prog X.w) A2 (RG' (gx X A2 s₁ H₁ ce fp pn) Q) (YG (gx X A2 s₁ H₁ ce fp pn) Q) n s₀
        (.compLoop (.GeneratorExp elt [⟨tg, iter, [], 0⟩] scope pos) 0 (.ref it) .none ce)
        ((model X.prog X.w).den (.compLoop (.GeneratorExp elt [⟨tg, iter, [], 0⟩] scope pos) 0 (.ref it) .none ce)) [] s5 := by
  intro n
  induction n with
  | zero => intro i m H5 s₀ s5 hm; omega
  | succ n ih =>
    intro i m H5 s₀ s5 hm I5 st5 n5 w5
    have stat : ∀ {σ' : L2.St} {H' : Hp} {s' : Shared}, Inv (gx X A2 s₁ H₁ ce fp pn) [] σ' H' s' → (∀ b ∈ fp, H' b = none) → ∀ b ∈ fp, FpOk (gx X A2 s₁ H₁ ce fp pn) [] H' b := fun {σ' H' s'} I' hn b hb =>
      ⟨hn b hb, (I'.ok.exf b hb).1, I'.ok.exfs b hb, .inl hb, fun x c e => (I'.ok.exf b hb).2 x c e, fun p hp z => hnpn p (by simpa using hp) (z ▸ hb)⟩
    show Seg _ A2 _ _ _ s₀ _ ((compTurn (.GeneratorExp elt [⟨tg, iter, [], 0⟩] scope pos) 0 (.ref it) .none ce).onRaise (leaving ce)) [] s5
    rw [compTurn_gen, Sem.onRaise_eq_wrap]
    refine seg_bind_wrap (wpAny_standAt ?_)
    rcases turn i m H5 w5 with ⟨stop, qq⟩ | ⟨go, step⟩
    · refine seg_bind_wrap ?_
      rw [over_ge]
      refine thnF (T.done (gx X A2 s₁ H₁ ce fp pn) rfl rfl rfl hcm i [] s5 _ H5 (fun _ _ => False) I5 (stat I5 n5) st5 stop) fun r s6 ⟨hr, I6⟩ => ?_
      subst hr
      exact seg_end (.ok .next) (.inl ⟨.inr rfl, H5, ⟨_, _, I6⟩, qq⟩)
    · refine seg_bind_wrap ?_
      rw [over_ge]
      refine thnF (T.item (gx X A2 s₁ H₁ ce fp pn) rfl rfl rfl hcm i [] s5 _ H5 (fun _ _ => False) I5 (stat I5 n5) st5 go) fun r s6 ⟨u, hr, h6⟩ => ?_
      subst hr
      refine seg_bind_wrap ?_
      rw [over_ge]
      refine thnF h6 fun _ s7 ⟨x, H7, I7, r7, y7, st7, n7⟩ => ?_
      have I7' := I7.pinned (stat I7 n7) (T.obj _ _ st7)
      refine seg_bind_wrap ?_
      rw [over_ge]
      refine thnF (hg.run _ s7 _ H7 x u _ I7' r7 (step x H7 y7)) fun _ s8 ⟨σ8, H8, I8, hw8, q8⟩ => ?_
      refine seg_bind_wrap ?_
      rw [over_ge]
      refine wpAny_tests_nil ?_
      simp only [if_true]
      have hy : ∀ v, yieldOut ce v = yieldValue v := fun v => by simp only [yieldOut, hco, Bool.false_eq_true, if_false]
      simp only [hy]
      rw [Sem.bind_eq_wrap', Sem.bind_eq_wrap', Sem.wrap_wrap, Sem.wrap_wrap]
      refine seg_wrap ?_
      rw [over_ge]
      refine thnF (he.run _ s8 σ8 H8 _ I8 q8) fun z s9 ⟨yv, H9, I9, r9, b, hb, q9⟩ => ?_
      refine seg_at (seg_yield rfl rfl rfl ⟨yv, b, H9, r9, hb, ⟨_, _, I9⟩, fun e => ?_, fun e s' e1 e2 e3 => ?_⟩)
      · subst e
        simpa using q9
      · subst e
        simp only [if_true] at q9
        obtain ⟨m', hm', w'⟩ := q9
        have I9' := inv_same I9 e1 e2 e3
        have pin' : ∀ b ∈ fp, ∀ o, s7.heap.get? b = some o → s'.heap.get? b = some o ∧ H9 b = none := fun b hb o e =>
          let z := I9'.pin (b, o) (List.mem_append_right _ (List.mem_append_right _ (mem_pinsAt hb e)))
          ⟨z.1, z.2.1⟩
        have hl : (wipe σ own).length = σ8.length := by rw [← hw8, wipe_length]
        refine seg_again rfl (ih (i + 1) m' H9 s' s' (by omega) ((I9'.unpinned (pins := [])).weak hl (fun j v e => ?_)) (T.keep _ _ _ st7 fun b hb o e => (pin' b hb o e).1) (fun b hb => ?_) w')
        · rw [← hw8] at e
          exact (wipe_some e).1
        · obtain ⟨o, e, _⟩ := T.obj _ _ st7 b hb
          exact (pin' b hb o e).2

/-- .. from its beginning -/
theorem ge_begin {A2 : Around} {elt tg iter : Expr} {scope : Scope} {pos : Pos} {it : Addr} {ce : Env} {tn : Nat → Heap → Prop} {R : GenEnd} {Yp : Protocol} {n : Nat} {s₀ s5 : Shared} {P : Program} {w : World}
    (self : ∀ (A : Around) (Q : Value → Shared → Prop) (E : Value → Shared → Prop), Q (.ref it) s5 → wpAny (model P w) A (pyIter (.ref it)) Q E s5)
    (loop : Seg (model P w) A2 R Yp n s₀ (.compLoop (.GeneratorExp elt [⟨tg, iter, [], 0⟩] scope pos) 0 (.ref it) .none ce) ((model P w).den (.compLoop (.GeneratorExp elt [⟨tg, iter, [], 0⟩] scope pos) 0 (.ref it) .none ce)) [] s5) :
    Seg (model P w) A2 R Yp n s₀ (.compStart (.GeneratorExp elt [⟨tg, iter, [], 0⟩] scope pos) 0 (.ref it) .none ce) ((model P w).den (.compStart (.GeneratorExp elt [⟨tg, iter, [], 0⟩] scope pos) 0 (.ref it) .none ce)) [] s5 := by
  show Seg _ A2 _ _ _ s₀ _ ((compStart (.GeneratorExp elt [⟨tg, iter, [], 0⟩] scope pos) 0 (.ref it) .none ce).onRaise (leaving ce)) [] s5
  unfold compStart
  rw [Sem.onRaise_eq_wrap]
  show Seg _ A2 _ _ _ s₀ _ ((ask >>= _).wrap _ _ _ _) [] s5
  refine seg_bind_wrap (wpAny_askSetting ?_)
  split
  · exact seg_again rfl loop
  · first
      | exact seg_bind_wrap (wpAny_rule (seg_bind_wrap (wpAny_standAt (seg_bind_wrap (self _ _ _ (seg_again rfl loop))))))
      | (refine seg_bind_wrap (wpAny_rule ?_)
         show Seg _ A2 _ _ _ s₀ _ ((standAt iter.pos >>= _).wrap _ _ _ _) [] s5
         exact seg_bind_wrap (wpAny_standAt (seg_bind_wrap (self _ _ _ (seg_again rfl loop)))))

/-- the consumer -/
theorem all_loop {A : Around} {Y : Cx} {Q : VK} {a : Addr} {g : Nat} {go : Obj} {R : Result → Shared → Prop} (hp : Y.prog = X.prog) (hw : Y.w = X.w)
    (hh : A.handled = none) (hd : A.depth < recursionLimit) (hgo : ∀ h : Heap, h.get? a = some go → h.IsGen a g) (hpn : (a, go) ∈ Y.pn)
    (hR : ∀ (b : Bool) (H3 : Hp) (s' : Shared), (∃ σ2 pins2, Inv Y pins2 σ2 H3 s') → Q (.bl b) H3 → R (.ok (.ret (.bool b))) s') :
    ∀ (n : Nat) (s : Shared), s.heap.get? a = some go → s.heap.NoLimit →
      (∃ gs, s.gens[g]? = some gs ∧ gs.Goes (model X.prog X.w) A.in1.in1 (RG' Y Q) (YG Y Q) n (.send .none) (s.setGen g .running)) →
      codeAny (model X.prog X.w) A (.builtin "all.loop" ⟨[.ref a], []⟩) R s := by
  intro n
  induction n with
  | zero =>
    intro s ha hl ⟨gs, hgs, hgoes⟩
    refine codeAny_builtin F.entry_all_loop ?_
    rw [Around.under_plainId F.plain_all_loop _]
    show wpAny _ A.in1 (pyNext (.ref a) >>= _) _ _ s
    refine wpAny_bind (next_genG (A := A.in1) hh hl hd (hgo _ ha) hgs hgoes (fun v s₁ gs' hbare hv => ?_) (fun s₁ hr h' hk => ?_) fun e s₁ he => he.elim)
    · obtain ⟨y, b, H3, ry, hb, ⟨σ2, pins2, I⟩, q1, q2⟩ := hv
      cases b with
      | true => exact (q2 rfl s₁ rfl rfl I.bare).elim
      | false =>
        have I' : Inv Y pins2 σ2 H3 (s₁.setGen g gs') := inv_same I rfl rfl (allBare_setGen I.bare hbare)
        show wpAny _ A.in1 (holding [v] (truthy v) >>= _) _ _ _
        refine wpAny_bind (wpAny_holding (tru_val ry hb ?_))
        refine wpAny_bind (wpAny_letGo ?_)
        simp only [Bool.false_eq_true, if_false]
        exact wpAny_bind (wpAny_rule (wpAny_pure (hR false H3 _ ⟨_, _, I'⟩ (q1 rfl))))
    · obtain ⟨H3, ⟨σ2, pins2, I⟩, q⟩ := hr
      have I' : Inv Y pins2 σ2 H3 { s₁.setGen g .finished with heap := h' } :=
        I.call' (ch := []) rfl (Un.kept hk) (I.hok.kept hk) (allBare_setGen I.bare rfl) fun b hb => absurd hb (by simp)
      exact wpAny_bind (wpAny_rule (wpAny_pure (hR true H3 _ ⟨_, _, I'⟩ q)))
  | succ n ih =>
    intro s ha hl ⟨gs, hgs, hgoes⟩
    have hgl : g < s.gens.size := (Array.getElem?_eq_some_iff.mp hgs).1
    refine codeAny_builtin F.entry_all_loop ?_
    rw [Around.under_plainId F.plain_all_loop _]
    show wpAny _ A.in1 (pyNext (.ref a) >>= _) _ _ s
    refine wpAny_bind (wpAny_gsz (n := g + 1) hgl (next_genG (A := A.in1) hh hl hd (hgo _ ha) hgs hgoes (fun v s₁ gs' hbare hv => ?_) (fun s₁ hr h' hk => ?_) fun e s₁ he => he.elim))
    · intro hsz
      obtain ⟨y, b, H3, ry, hb, ⟨σ2, pins2, I⟩, q1, q2⟩ := hv
      have I' : Inv Y pins2 σ2 H3 (s₁.setGen g gs') := inv_same I rfl rfl (allBare_setGen I.bare hbare)
      show wpAny _ A.in1 (holding [v] (truthy v) >>= _) _ _ _
      refine wpAny_bind (wpAny_holding (tru_val ry hb ?_))
      refine wpAny_bind (wpAny_letGo ?_)
      cases b with
      | false =>
        simp only [Bool.false_eq_true, if_false]
        exact wpAny_bind (wpAny_rule (wpAny_pure (hR false H3 _ ⟨_, _, I'⟩ (q1 rfl))))
      | true =>
        simp only [if_true]
        have hsz1 : g < s₁.gens.size := by
          have q : (s₁.setGen g gs').gens.size = s₁.gens.size := setGen_size _ _ _
          have hsz' : g + 1 ≤ (s₁.setGen g gs').gens.size := hsz
          omega
        refine wpAny_pure ⟨plainId_quiet F.plain_all_loop _, ?_⟩
        refine ih (s₁.setGen g gs') ?_ I'.nolimit ⟨gs', setGen_at hsz1, ?_⟩
        · exact (I.pin (a, go) (List.mem_append_left _ hpn)).1
        · exact q2 rfl _ rfl rfl (allBare_setGen (s := s₁.setGen g gs') (allBare_setGen I.bare hbare) rfl)
    · intro hsz
      obtain ⟨H3, ⟨σ2, pins2, I⟩, q⟩ := hr
      have I' : Inv Y pins2 σ2 H3 { s₁.setGen g .finished with heap := h' } :=
        I.call' (ch := []) rfl (Un.kept hk) (I.hok.kept hk) (allBare_setGen I.bare rfl) fun b hb => absurd hb (by simp)
      exact wpAny_bind (wpAny_rule (wpAny_pure (hR true H3 _ ⟨_, _, I'⟩ q)))

theorem room_ge {k : Nat} {A : Around} {ce : Env} (r : Room (k + 1) A) : Room k (A.in1.in1.deeper ce) :=
  ⟨r.hd, by have := r.dp; show A.depth + 1 + 3 * k + 5 < _; omega, by have := r.un; show A.units + 1 + 1 + 3 + 16 * k + 200 < _; omega⟩

/-- the generator g at a, made in the state s5 -/
def GMd (X : Cx) (pins : List (Addr × Obj)) (σ : L2.St) (Q : VK) (u : Value) (s5 : Shared) : Prop :=
  ∃ (Y : Cx) (a : Addr) (g : Nat) (go : Obj) (n : Nat), u = .ref a ∧ Y.prog = X.prog ∧ Y.w = X.w ∧ (∀ h : Heap, h.get? a = some go → h.IsGen a g) ∧ (a, go) ∈ Y.pn ∧ s5.heap.get? a = some go ∧ s5.heap.NoLimit ∧
    (∃ gs, s5.gens[g]? = some gs ∧ gs.Goes (model X.prog X.w) X.A.in1.in1 (RG' Y Q) (YG Y Q) n (.send .none) (s5.setGen g .running)) ∧
    (∀ (H3 : Hp) (s' : Shared), (∃ σ2 pins2, Inv Y pins2 σ2 H3 s') → Inv X pins σ H3 s')

theorem ge_make {c P : Addr} {elt tg iter : Expr} {gpos : Pos} {scope : Scope} {wi : TI} {g : TG} {te : TE} {k : Nat} {own : List (Str × Nat)} {Q : VK} {Q' : Value → Shared → Prop}
    (hcm : X.calm = true) (hN : X.N.Nodup) (hr : Room (k + 1) X.A) (TB : TabB X.base X.mg c P) (hcode : X.env.code = .ref c) (hi : PI X tg iter wi) (ok : BlkOk X.N X.env.scope scope own) (G : GSc X.N scope)
    (hg : ∀ (s : Shared) (H : Hp) (C : Addr) (cl : List (Str × Addr)) (code : Value) (fp : List Addr) (pn : List (Addr × Obj)), Room k (X.A.in1.in1.deeper (genEnv scope cl C code builtinsNs X.env)) → PG (gx X X.A.in1.in1 s H (genEnv scope cl C code builtinsNs X.env) fp pn) tg g)
    (he : ∀ (s : Shared) (H : Hp) (C : Addr) (cl : List (Str × Addr)) (code : Value) (fp : List Addr) (pn : List (Addr × Obj)), Room k (X.A.in1.in1.deeper (genEnv scope cl C code builtinsNs X.env)) → PE (gx X X.A.in1.in1 s H (genEnv scope cl C code builtinsNs X.env) fp pn) elt te)
    (hs : ∀ v, genFold iter X.env v = pure v) (I : Inv X pins σ H s) (h : tAllG P wi g te (own.map (·.2)) σ H Q)
    (hQ : ∀ u s5, GMd X pins σ Q u s5 → Q' u s5) :
    wpAny (model X.prog X.w) X.A (eval (.GeneratorExp elt [⟨tg, iter, [], 0⟩] scope gpos) X.env) Q' X.xe s := by
  have hfree : ∀ y ∈ scope.names, y.2 = .free → ∃ c, X.env.cells.lookup y.1 = some c := fun y hy e => by
    rcases ok.free y hy e with z | z
    · exact I.ok.has _ (.inl z)
    · exact I.ok.has _ (.inr z)
  refine wpAny_GeneratorExp_make G.co (closure_ok hfree) G.cell G.dot ok.kind (by have := hr.dp; omega) ?_ hs
  refine thn (hi.run pins s σ H _ I h) fun xv s1 hx => thn hx fun itv s2 h2 => ?_
  obtain ⟨it, fp, tn, J, H2, e, I2, T, st2, f2, ⟨ps, hP, ht⟩, q⟩ := h2
  subst e
  refine ⟨I2.nolimit, ?_⟩
  have hPs : s2.heap.get? P = some { cls := .none, data := .fields ps } := I2.hok P _ hP
  have cd : PySem.W.CodeHd s2.heap c P := TB.code.keeps fun b u e => I2.bk b u e
  have cont : ∀ (code : Value) (h3 : Heap) (tk : Nat) (ps' : Array Value), Heap.ExtBut P s2.heap h3 → s2.heap.objs.size ≤ h3.objs.size → h3.get? P = some { cls := .none, data := .fields ps' } → (∃ more, ps' = ps ++ more) → TriplesOk ps'.toList →
      wpAny (model X.prog X.w) X.A (builtinsFor X.env.globals X.env.builtins) (fun bi s₄ =>
        ∀ h', h'.Ns s₄.heap.objs.size (fun y => if y = ".0" then some (.ref it) else none) → Heap.SameBut s₄.heap.objs.size (s₄.heap.push { cls := .type "frame", data := .dict #[] }) h' →
          Q' (.ref h'.objs.size) { s₄ with
            gens := s₄.gens.push (.fresh (.compStart (.GeneratorExp elt [⟨tg, iter, [], 0⟩] scope gpos) 0 (.ref it) .none (genEnv scope (cloFrom X.env.cells scope.names []) s₄.heap.objs.size code bi X.env))),
            toks := s₄.toks + 1 + 1 + 1,
            heap := h'.push { cls := .type "generator", data := .fields #[.int s₄.gens.size 0, .str "<genexpr>" (s₄.toks + 1), .str (X.env.qual ++ "<genexpr>") (s₄.toks + 1 + 1)] } }) X.xe { s2 with heap := h3, toks := tk } := by
    intro code h3 tk ps' hx3 hsz hP3 hmore ht3
    obtain ⟨bm, ob, e1, e2, e3, e4, e5, e6, e7, e8⟩ := TB.bm
    have keep3 : ∀ b u, b ≠ P → s2.heap.get? b = some u → h3.get? b = some u := fun b u hb e => hx3 b u hb e
    refine wpAny_builtinsFor (m := X.mg) (by rw [I2.ok.glob]; exact (I2.mod.glob.keeps I2.bk).extBut hx3 TB.gP) e1 e2 (keep3 _ _ e4 (I2.bk _ _ e5)) e6 e7 e8 ?_
    intro h' hn' hsb
    -- the state with the table grown
    obtain ⟨more, em⟩ := hmore
    have I3 : Inv X pins σ (upd H2 P (.tbl (ps ++ more))) { s2 with heap := h3, gens := s2.gens, drawn := s2.drawn, toks := tk } :=
      inv_tab (more := more) (h' := h3) (g' := s2.gens) (d' := s2.drawn) (t' := tk) I2 hP keep3 (by rw [← em]; exact hP3) I2.bare
    have nP : ∀ b ∈ fp, b ≠ P := fun b hb z => by
      have := (f2 b hb).1
      rw [z, hP] at this
      cases this
    have TG : Tabbed P H2 (upd H2 P (.tbl (ps ++ more))) := ⟨⟨ps ++ more, upd_same, by rw [← em]; exact ht3⟩, fun b hb => upd_ne hb⟩
    obtain ⟨W, ⟨m0, w0⟩, turn⟩ := q _ TG
    have sz : ∀ b ∈ fp, b < s2.heap.objs.size := fun b hb => by
      obtain ⟨o, e, _⟩ := T.obj _ _ st2 b hb
      exact Heap.lt_size e
    have f3 : ∀ b ∈ fp, FpOk X pins (upd H2 P (.tbl (ps ++ more))) b ∧ b < h3.objs.size := fun b hb =>
      ⟨⟨by rw [upd_ne (nP b hb)]; exact (f2 b hb).1, (f2 b hb).2⟩, Nat.lt_of_lt_of_le (sz b hb) hsz⟩
    have st3 : tn 0 h3 := T.keep _ _ _ st2 fun b hb o e => keep3 b o (nP b hb) e
    have szh : h'.objs.size = h3.objs.size + 1 := by
      have := hsb.1
      rw [this, Heap.size_push]
    have kh : ∀ b o, h3.get? b = some o → h'.get? b = some o := fun b o e => hsb.extBut b o (Nat.ne_of_lt (Heap.lt_size e)) (Heap.get?_push_of_some _ e)
    generalize hgo : ({ cls := .type "generator", data := .fields #[.int s2.gens.size 0, .str "<genexpr>" (tk + 1), .str (X.env.qual ++ "<genexpr>") (tk + 1 + 1)] } : Obj) = go
    have k5 : ∀ b o, h3.get? b = some o → (h'.push go).get? b = some o := fun b o e => Heap.get?_push_of_some _ (kh b o e)
    have hat : (h'.push go).get? h'.objs.size = some go := by
      rw [← hgo]
      exact Heap.get?_push_size _ rfl
    have hisg : ∀ h : Heap, h.get? h'.objs.size = some go → h.IsGen h'.objs.size s2.gens.size := fun h e => ⟨go, _, _, e, by rw [← hgo], by rw [← hgo], by rw [← hgo]⟩
    have hcell : ∀ v, go.data ≠ .cell v := fun v z => by
      rw [← hgo] at z
      cases z
    have I5 : ∀ (g5 : Array GenState) (t5 : Nat), AllBare g5 → Inv (gx X X.A.in1.in1 { s2 with heap := h3, gens := s2.gens, drawn := s2.drawn, toks := tk } (upd H2 P (.tbl (ps ++ more))) (genEnv scope (cloFrom X.env.cells scope.names []) h3.objs.size code builtinsNs X.env) fp [(h'.objs.size, go)]) [] (wipe σ (own.map (·.2))) (upd H2 P (.tbl (ps ++ more))) { s2 with heap := h'.push go, gens := g5, toks := t5 } := fun g5 t5 hb5 =>
      gx_start (A2 := X.A.in1.in1) (s := { s2 with heap := h3, gens := s2.gens, drawn := s2.drawn, toks := tk }) (h5 := h'.push go) (g5 := g5) (t5 := t5) hcm I3 ok G hN f3 hr.hd I3.ok.frames k5 (hn'.push _) hb5 fun p hp => by
        have : p = (h'.objs.size, go) := by simpa using hp
        subst this
        exact ⟨by show h3.objs.size < h'.objs.size; rw [szh]; exact Nat.lt_succ_self _, hat, hcell⟩
    have st5 : tn 0 (h'.push go) := T.keep _ _ _ st3 fun b _ o e => k5 b o e
    have nfp : ∀ b ∈ fp, (upd H2 P (.tbl (ps ++ more))) b = none := fun b hb => (f3 b hb).1.1
    refine hQ _ _ ⟨gx X X.A.in1.in1 { s2 with heap := h3, gens := s2.gens, drawn := s2.drawn, toks := tk } (upd H2 P (.tbl (ps ++ more))) (genEnv scope (cloFrom X.env.cells scope.names []) h3.objs.size code builtinsNs X.env) fp [(h'.objs.size, go)], h'.objs.size, s2.gens.size, go, m0 + 1, rfl, rfl, rfl, hisg, List.mem_singleton.mpr rfl, hat, ?_, ⟨_, Array.getElem?_push_size .., rfl, ?_⟩, fun H3 s' ⟨σ2, pins2, I6⟩ => ?_⟩
    · exact (I5 s2.gens tk I2.bare).nolimit
    · have Ib := I5 ((s2.gens.push (GenState.fresh (.compStart (.GeneratorExp elt [⟨tg, iter, [], 0⟩] scope gpos) 0 (.ref it) .none (genEnv scope (cloFrom X.env.cells scope.names []) h3.objs.size code builtinsNs X.env)))).setIfInBounds s2.gens.size .running) (tk + 1 + 1 + 1)
        (allBare_setGen (s := { s2 with gens := s2.gens.push _ }) (AllBare.push I2.bare rfl) rfl)
      refine ge_begin (tn := tn) (fun A Q E hq => T.self A 0 _ Q E st5 hq) ?_
      exact ge_loop (J := J) (W := W) (σ := σ) (own := own.map (·.2)) (g := g) (te := te) hcm G.co T (hg _ _ _ _ _ _ _ (room_ge hr)) (he _ _ _ _ _ _ _ (room_ge hr)) (fun p hp hb => by
          have : p = (h'.objs.size, go) := by simpa using hp
          subst this
          have := Nat.lt_of_lt_of_le (sz _ hb) hsz
          rw [szh] at this
          omega) turn (m0 + 1) 0 m0 _ _ _ (Nat.le_refl _) Ib st5 nfp w0
    · exact I3.call' (ch := fp) I6.os I6.base I6.hok I6.bare fun b hb => ⟨(f3 b hb).1.2.2.2.1, (f3 b hb).1.2.1, (f3 b hb).1.2.2.2.2.1, (f3 b hb).1.2.2.2.2.2⟩
  cases hf : codeAmong gpos ps.toList with
  | none =>
    refine wpAny_genexprCodeX hcode (cd.code hPs ht) (cd.tab hPs) hf fun c' h' tk hx hge hlt hco' _ htab' _ => ?_
    obtain ⟨o1, vs, f1, tf, fl, tg', inF, tx, tt, op, _, _, _, _, _, _, _, _, _, htr, _⟩ := hco'
    exact cont _ h' tk _ hx (Nat.le_trans hge (Nat.le_of_lt hlt)) htab'.2 ⟨_, rfl⟩ htr
  | some cv =>
    refine wpAny_genexprCode_hit hcode (cd.code hPs ht) hf ?_
    exact cont cv s2.heap s2.toks ps (Heap.ExtBut.refl _ _) (Nat.le_refl _) hPs ⟨#[], by simp⟩ ht

/-- THE RULE: all(elt for tg in iter) -/
theorem pe_allG {c P : Addr} {elt tg iter : Expr} {p pos gpos : Pos} {scope : Scope} {wi : TI} {g : TG} {te : TE} {k : Nat} {own : List (Str × Nat)}
    (hcm : X.calm = true) (hN : X.N.Nodup) (hr : Room (k + 1) X.A) (hgl : Gl X "all") (hm : X.mg "all" = none) (hb : bootBuiltins "all" = some (.builtin "all")) (TB : TabB X.base X.mg c P) (hcode : X.env.code = .ref c) (hi : PI X tg iter wi) (ok : BlkOk X.N X.env.scope scope own) (G : GSc X.N scope)
    (hg : ∀ (s : Shared) (H : Hp) (C : Addr) (cl : List (Str × Addr)) (code : Value) (fp : List Addr) (pn : List (Addr × Obj)), Room k (X.A.in1.in1.deeper (genEnv scope cl C code builtinsNs X.env)) → PG (gx X X.A.in1.in1 s H (genEnv scope cl C code builtinsNs X.env) fp pn) tg g)
    (he : ∀ (s : Shared) (H : Hp) (C : Addr) (cl : List (Str × Addr)) (code : Value) (fp : List Addr) (pn : List (Addr × Obj)), Room k (X.A.in1.in1.deeper (genEnv scope cl C code builtinsNs X.env)) → PE (gx X X.A.in1.in1 s H (genEnv scope cl C code builtinsNs X.env) fp pn) elt te)
    (hs : ∀ v, genFold iter X.env v = pure v := by intro _; rfl)
    (hst : starEach [.GeneratorExp elt [⟨tg, iter, [], 0⟩] scope gpos] X.env = (false, eval (.GeneratorExp elt [⟨tg, iter, [], 0⟩] scope gpos) X.env) :: starEach [] X.env := by rfl) :
    PE X (.Call (.Name "all" p) [.GeneratorExp elt [⟨tg, iter, [], 0⟩] scope gpos] [] pos) (tAllG P wi g te (own.map (·.2))) := by
  refine ⟨fun pins s σ H Q I h => ?_⟩
  refine wpAny_Call_Name_kw (ld_blt I hgl hm hb ?_)
  refine PyProof.Rows.callWith_builtin1 ?_ hst (by rfl)
  rw [hst]
  show wpAny _ _ (spliced ((false, eval (.GeneratorExp elt [⟨tg, iter, [], 0⟩] scope gpos) X.env) :: backTo pos (starEach [] X.env))) _ _ s
  refine Calls.spliced_cons (ge_make hcm hN hr TB hcode hi ok G hg he hs I h fun u s5 hG => Calls.spliced_nil ?_)
  obtain ⟨Y, a, gi, go, n, rfl, hpr, hw, hgo, hpn, ha, hl, hgs, back⟩ := hG
  refine call_function_tree F.kind_all F.plain_all F.entry_all (F.args_all1 _) ?_
  unfold Builtin.«all»
  refine wpAny_bind (m := oneArg "all" _) (wpAny_pure ?_)
  refine wpAny_bind (wpAny_pyIter_gen (hgo _ ha) ?_)
  refine wpAny_pure ⟨plainId_quiet F.plain_all_loop _, ?_⟩
  refine all_loop (Y := Y) (Q := Q) (n := n) hpr hw hr.hd (by have := hr.dp; omega) hgo hpn (fun b H3 s' hI q => ?_) _ ha hl hgs
  exact ⟨.bl b, H3, back H3 s' hI, rfl, q⟩
end
end DL

-- text DL1
set_option Elab.async false
set_option linter.all false
set_option maxRecDepth 100000
set_option maxHeartbeats 2000000
namespace DL
open PySem PySem.Spec PyProof.Rows L2 GxR

/-! ### data in the abstract heap -/
/-- what a slot holds: nothing that is known, a datum, a list that belongs to the slot alone -/
inductive Sl where
  | n
  | d (x : PyData)
  | o (xs : List PyData)
  /-- the object at an address, of which the slot tells nothing more -/
  | a (p : Addr)
abbrev RS := List Sl
/-- the written part, the code tables, the addresses of the error classes -/
structure Ctx where
  K : PySem.W.Frag
  ts : List Addr
  ec : Str → Addr

/-- the law's script, as a datum of its own kind -/
def scr (ns : List Int) : PyData := .dict [(.none, .list (ns.map PyData.int))]
mutual
/-- a datum without dicts -/
def ndd : PyData → Bool
  | .list xs => nddAll xs
  | .tuple xs => nddAll xs
  | .dict _ => false
  | .none => true
  | .bool _ => true
  | .int _ => true
  | .str _ => true
def nddAll : List PyData → Bool
  | [] => true
  | x :: xs => ndd x && nddAll xs
end
/-- a written-down dict of whole numbers to bools -/
def dctD (ps : List (Int × Bool)) : PyData := .dict (ps.map fun p => (.int p.1, .bool p.2))
def dctV (ps : List (Int × Bool)) : List (Key × V) := ps.map fun p => (.inl p.1, .bl p.2)
/-- the script's list is read at a -/
def ScrAt (K : PySem.W.Frag) (A : List Addr) (H : Hp) (a : Addr) (xs : List V) : Prop :=
  (H a = some (.lst xs) ∧ a ∉ A) ∨ (∃ o, H a = some (.frz o (.lst xs))) ∨
    ∃ (o : Obj) (its : Array Value) (n : Nat), K.lookup a = some o ∧ o.cls = .type "list" ∧ o.dict = none ∧ o.data = .seq its n ∧ its.size ≤ sizeLine ∧ Vals xs its.toList
mutual
/-- v reads as the datum; no list at an address of A is met -/
inductive Rep (K : PySem.W.Frag) (A : List Addr) (H : Hp) : V → PyData → Prop
  | non : Rep K A H .non .none
  | bl (b : Bool) : Rep K A H (.bl b) (.bool b)
  | int (i : Int) : Rep K A H (.int i) (.int i)
  | str (x : Str) : Rep K A H (.str x) (.str x)
  | lst {a : Addr} {xs : List V} {ds : List PyData} : H a = some (.lst xs) → a ∉ A → RepAll K A H xs ds → Rep K A H (.ref a) (.list ds)
  | scr {a : Addr} {ns : List Int} : ScrAt K A H a (ns.map V.int) → Rep K A H (.ref a) (scr ns)
  | dct {a : Addr} {o : Obj} {ps : List (Int × Bool)} : H a = some (.frz o (.dK (dctV ps))) → Rep K A H (.ref a) (dctD ps)
  | tup {a : Addr} {xs : List V} {ds : List PyData} : SqT K H a xs → RepAll K A H xs ds → Rep K A H (.ref a) (.tuple ds)
inductive RepAll (K : PySem.W.Frag) (A : List Addr) (H : Hp) : List V → List PyData → Prop
  | nil : RepAll K A H [] []
  | cons {v : V} {vs : List V} {d : PyData} {ds : List PyData} : Rep K A H v d → RepAll K A H vs ds → RepAll K A H (v :: vs) (d :: ds)
end

/-- the tracked things stand, but for the lists at O; code tables may have grown -/
structure Ext (O : List Addr) (H H' : Hp) : Prop where
  keep : ∀ a u, H a = some u → (∀ ps, u ≠ .tbl ps) → (a ∉ O ∨ ∀ xs, u ≠ .lst xs) → H' a = some u
  tab : ∀ P, TabG H P → TabG H' P
  dom : ∀ a, H' a = none → H a = none
theorem Ext.refl {O : List Addr} {H : Hp} : Ext O H H := ⟨fun _ _ e _ _ => e, fun _ t => t, fun _ h => h⟩
theorem Ext.of_same {O : List Addr} {H H' : Hp} (s : Same H H') : Ext O H H' := ⟨fun a u e _ _ => s a u e, fun P ⟨ps, e, t⟩ => ⟨ps, s _ _ e, t⟩, fun a h => s.free h⟩
theorem Ext.mono {O O' : List Addr} {H H' : Hp} (e : Ext O H H') (h : ∀ a ∈ O, a ∈ O') : Ext O' H H' :=
  ⟨fun a u e1 e2 e3 => e.keep a u e1 e2 (e3.elim (fun z => .inl fun m => z (h a m)) .inr), e.tab, e.dom⟩
/-- O' is O but for addresses that were free -/
def Grow (O : List Addr) (H : Hp) (O' : List Addr) : Prop := ∀ a ∈ O', a ∈ O ∨ H a = none
theorem Grow.refl {O : List Addr} {H : Hp} : Grow O H O := fun _ h => .inl h
theorem Ext.trans {O O' : List Addr} {H H1 H2 : Hp} (a : Ext O H H1) (b : Ext O' H1 H2) (g : Grow O H O') : Ext O H H2 :=
  ⟨fun c u e1 e2 e3 => by
    have e4 := a.keep c u e1 e2 e3
    refine b.keep c u e4 e2 ?_
    rcases e3 with z | z
    · refine .inl fun m => ?_
      rcases g c m with q | q
      · exact z q
      · rw [e1] at q; cases q
    · exact .inr z, fun P t => b.tab P (a.tab P t), fun c h => a.dom c (b.dom c h)⟩
theorem Ext.trans' {O : List Addr} {H H1 H2 : Hp} (a : Ext O H H1) (b : Ext O H1 H2) : Ext O H H2 := a.trans b Grow.refl
theorem ext_new {O : List Addr} {H : Hp} {p : Addr} {u : HO} (h : H p = none) : Ext O H (upd H p u) := .of_same fun b o e => by
  rw [upd_ne (ne_of_none e h)]; exact e
/-- a list of O is written -/
theorem ext_put {O : List Addr} {H : Hp} {p : Addr} {xs : List V} {u : HO} (h : H p = some (.lst xs)) (hp : p ∈ O) : Ext O H (upd H p u) := by
  refine ⟨fun a w e1 e2 e3 => ?_, fun P ⟨ps, e, t⟩ => ⟨ps, ?_, t⟩, fun a e => ?_⟩
  · by_cases hb : a = p
    · subst hb
      rw [h] at e1
      cases e1
      rcases e3 with z | z
      · exact (z hp).elim
      · exact (z xs rfl).elim
    · rw [upd_ne hb]; exact e1
  · rw [upd_ne (ne_of e h (by intro z; cases z))]; exact e
  · by_cases hb : a = p
    · subst hb; rw [upd_same] at e; cases e
    · rw [upd_ne hb] at e; exact e
/-- a table has grown -/
theorem ext_tab {O : List Addr} {P : Addr} {H H' : Hp} (t0 : TabG H P) (t : Tabbed P H H') : Ext O H H' := by
  obtain ⟨ps, e0, _⟩ := t0
  refine ⟨fun a u e1 e2 _ => ?_, fun Q q => ?_, fun a e => ?_⟩
  · rw [t.2 a fun z => by subst z; rw [e0] at e1; cases e1; exact e2 _ rfl]; exact e1
  · by_cases hb : Q = P
    · subst hb; exact t.1
    · obtain ⟨qs, e, z⟩ := q
      exact ⟨qs, by rw [t.2 Q hb]; exact e, z⟩
  · by_cases hb : a = P
    · subst hb
      obtain ⟨qs, e1, _⟩ := t.1
      rw [e] at e1; cases e1
    · rw [← t.2 a hb]; exact e

section
variable {K : PySem.W.Frag} {A A' O : List Addr} {H H' : Hp}
theorem Rd.ext {a : Addr} {u : HO} (r : Rd H a u) (e : Ext O H H') (hu : ∀ ps, u ≠ .tbl ps) (h : a ∉ O ∨ ∀ xs, u ≠ .lst xs) : Rd H' a u := by
  rcases r with r | ⟨o, r⟩
  · exact .inl (e.keep a u r hu h)
  · exact .inr ⟨o, e.keep a _ r (by intro ps z; cases z) (.inr (by intro xs z; cases z))⟩
theorem SqT.ext {a : Addr} {xs : List V} (r : SqT K H a xs) (e : Ext O H H') : SqT K H' a xs := by
  rcases r with r | r
  · exact .inl (Rd.ext r e (by intro ps z; cases z) (.inr (by intro xs z; cases z)))
  · exact .inr r
theorem ScrAt.ext {a : Addr} {xs : List V} (r : ScrAt K A H a xs) (ho : ∀ a ∈ O, a ∈ A ∨ H a = none) (e : Ext O H H') (g : ∀ a ∈ A', a ∈ A ∨ H a = none) : ScrAt K A' H' a xs := by
  rcases r with ⟨h, n⟩ | ⟨o, h⟩ | h
  · refine .inl ⟨e.keep a _ h (by intro ps z; cases z) (.inl fun m => ?_), fun m => ?_⟩
    · rcases ho a m with z | z
      · exact n z
      · rw [z] at h; cases h
    · rcases g a m with z | z
      · exact n z
      · rw [z] at h; cases h
  · exact .inr (.inl ⟨o, e.keep a _ h (by intro ps z; cases z) (.inr (by intro xs z; cases z))⟩)
  · exact .inr (.inr h)
theorem ScrAt.sql {a : Addr} {xs : List V} (r : ScrAt K A H a xs) : SqL K H a xs := by
  rcases r with ⟨h, n⟩ | ⟨o, h⟩ | h
  · exact .inl (.inl h)
  · exact .inl (.inr ⟨o, h⟩)
  · exact .inr h
mutual
theorem Rep.ext : ∀ {v : V} {d : PyData}, Rep K A H v d → (∀ a ∈ O, a ∈ A ∨ H a = none) → Ext O H H' → (∀ a ∈ A', a ∈ A ∨ H a = none) → Rep K A' H' v d
  | _, _, .non, _, _, _ => .non
  | _, _, .bl b, _, _, _ => .bl b
  | _, _, .int i, _, _, _ => .int i
  | _, _, .str x, _, _, _ => .str x
  | _, _, .lst r hA rs, ho, e, g => .lst (e.keep _ _ r (by intro ps z; cases z) (.inl fun m => by
      rcases ho _ m with q | q
      · exact hA q
      · rw [q] at r; cases r)) (fun m => by
      rcases g _ m with q | q
      · exact hA q
      · rw [q] at r; cases r) (RepAll.ext rs ho e g)
  | _, _, .scr r, ho, e, g => .scr (r.ext ho e g)
  | _, _, .dct r, ho, e, g => .dct (e.keep _ _ r (by intro ps z; cases z) (.inr (by intro xs z; cases z)))
  | _, _, .tup r rs, ho, e, g => .tup (SqT.ext r e) (RepAll.ext rs ho e g)
theorem RepAll.ext : ∀ {vs : List V} {ds : List PyData}, RepAll K A H vs ds → (∀ a ∈ O, a ∈ A ∨ H a = none) → Ext O H H' → (∀ a ∈ A', a ∈ A ∨ H a = none) → RepAll K A' H' vs ds
  | _, _, .nil, _, _, _ => .nil
  | _, _, .cons r rs, ho, e, g => .cons (Rep.ext r ho e g) (RepAll.ext rs ho e g)
end
mutual
theorem Rep.dp : ∀ {v : V} {d : PyData}, Rep K A H v d → ndd d = true → Dp K H v d
  | _, _, .non, _ => .non
  | _, _, .bl b, _ => .bl b
  | _, _, .int i, _ => .int i
  | _, _, .str x, _ => .str x
  | _, _, .lst r _ rs, h => .lst (.inl (.inl r)) (RepAll.dp rs (by simpa [ndd] using h))
  | _, _, .scr r, h => by simp [scr, ndd] at h
  | _, _, .dct r, h => by simp [dctD, ndd] at h
  | _, _, .tup r rs, h => .tup r (RepAll.dp rs (by simpa [ndd] using h))
theorem RepAll.dp : ∀ {vs : List V} {ds : List PyData}, RepAll K A H vs ds → nddAll ds = true → DpAll K H vs ds
  | _, _, .nil, _ => .nil
  | _, _, .cons r rs, h => by
    simp only [nddAll, Bool.and_eq_true] at h
    exact .cons (Rep.dp r h.1) (RepAll.dp rs h.2)
end
theorem RepAll.length : ∀ {vs : List V} {ds : List PyData}, RepAll K A H vs ds → vs.length = ds.length
  | _, _, .nil => rfl
  | _, _, .cons _ rs => by rw [List.length_cons, List.length_cons, RepAll.length rs]
theorem RepAll.append : ∀ {vs ws : List V} {ds es : List PyData}, RepAll K A H vs ds → RepAll K A H ws es → RepAll K A H (vs ++ ws) (ds ++ es)
  | _, _, _, _, .nil, b => b
  | _, _, _, _, .cons r rs, b => .cons r (RepAll.append rs b)
theorem RepAll.get : ∀ {vs : List V} {ds : List PyData} {i : Nat} {d : PyData}, RepAll K A H vs ds → ds[i]? = some d → ∃ v, vs[i]? = some v ∧ Rep K A H v d
  | _, _, _, _, .nil, e => by simp at e
  | _, _, 0, _, .cons r _, e => by simp at e; subst e; exact ⟨_, rfl, r⟩
  | _, _, i + 1, _, .cons _ rs, e => by
    obtain ⟨v, h1, h2⟩ := RepAll.get (i := i) rs (by simpa using e)
    exact ⟨v, by simpa using h1, h2⟩
theorem RepAll.get' : ∀ {vs : List V} {ds : List PyData} {i : Nat} {v : V}, RepAll K A H vs ds → vs[i]? = some v → ∃ d, ds[i]? = some d ∧ Rep K A H v d
  | _, _, _, _, .nil, e => by simp at e
  | _, _, 0, _, .cons r _, e => by simp at e; subst e; exact ⟨_, rfl, r⟩
  | _, _, i + 1, _, .cons _ rs, e => by
    obtain ⟨v, h1, h2⟩ := RepAll.get' (i := i) rs (by simpa using e)
    exact ⟨v, by simpa using h1, h2⟩
theorem RepAll.take : ∀ (n : Nat) {vs : List V} {ds : List PyData}, RepAll K A H vs ds → RepAll K A H (vs.take n) (ds.take n)
  | 0, _, _, _ => .nil
  | _ + 1, _, _, .nil => .nil
  | n + 1, _, _, .cons r rs => .cons r (RepAll.take n rs)
theorem RepAll.drop : ∀ (n : Nat) {vs : List V} {ds : List PyData}, RepAll K A H vs ds → RepAll K A H (vs.drop n) (ds.drop n)
  | 0, _, _, h => h
  | _ + 1, _, _, .nil => .nil
  | n + 1, _, _, .cons _ rs => RepAll.drop n rs
theorem RepAll.reverse : ∀ {vs : List V} {ds : List PyData}, RepAll K A H vs ds → RepAll K A H vs.reverse ds.reverse
  | _, _, .nil => .nil
  | _, _, .cons r rs => by
    rw [List.reverse_cons, List.reverse_cons]
    exact (RepAll.reverse rs).append (.cons r .nil)
theorem RepAll.set : ∀ (i : Nat) {vs : List V} {ds : List PyData} {v : V} {d : PyData}, RepAll K A H vs ds → Rep K A H v d → RepAll K A H (vs.set i v) (ds.set i d)
  | _, _, _, _, _, .nil, _ => .nil
  | 0, _, _, _, _, .cons _ rs, q => .cons q rs
  | i + 1, _, _, _, _, .cons r rs, q => .cons r (RepAll.set i rs q)
theorem RepAll.dropLast : ∀ {vs : List V} {ds : List PyData}, RepAll K A H vs ds → RepAll K A H vs.dropLast ds.dropLast
  | _, _, .nil => .nil
  | _, _, .cons r .nil => .nil
  | _, _, .cons r (.cons r2 rs) => .cons r (RepAll.dropLast (.cons r2 rs))
theorem RepAll.eraseIdx : ∀ (i : Nat) {vs : List V} {ds : List PyData}, RepAll K A H vs ds → RepAll K A H (vs.eraseIdx i) (ds.eraseIdx i)
  | _, _, _, .nil => .nil
  | 0, _, _, .cons _ rs => rs
  | i + 1, _, _, .cons r rs => .cons r (RepAll.eraseIdx i rs)
theorem RepAll.ints : ∀ {vs : List V} {ns : List Int}, RepAll K A H vs (ns.map PyData.int) → vs = ns.map V.int
  | _, [], r => by
    have r' : RepAll K A H _ [] := r
    cases r'; rfl
  | _, n :: ns, r => by
    have r' : RepAll K A H _ (PyData.int n :: ns.map PyData.int) := r
    cases r' with
    | cons h t =>
      cases h
      rw [RepAll.ints t]; rfl
theorem RepAll.of_ints : ∀ (ns : List Int), RepAll K A H (ns.map V.int) (ns.map PyData.int)
  | [] => .nil
  | n :: ns => .cons (.int n) (RepAll.of_ints ns)
end

/-! ### a def's values, as data -/
abbrev Own := List (Nat × Addr)
abbrev adr (O : Own) : List Addr := O.map (·.2)
theorem Rep.fewer {K : PySem.W.Frag} {A A' : List Addr} {H : Hp} {v : V} {d : PyData} (r : Rep K A H v d) (h : ∀ a ∈ A', a ∈ A) : Rep K A' H v d := r.ext (O := []) (by simp) .refl fun a m => .inl (h a m)
theorem RepAll.fewer {K : PySem.W.Frag} {A A' : List Addr} {H : Hp} {v : List V} {d : List PyData} (r : RepAll K A H v d) (h : ∀ a ∈ A', a ∈ A) : RepAll K A' H v d := r.ext (O := []) (by simp) .refl fun a m => .inl (h a m)

/-- ρ is what the slots σ hold: O the lists that belong to slots, Fg those of the callers (and of running comprehensions) -/
structure R (G : Ctx) (Fg : List Addr) (O : Own) (ρ : RS) (σ : L2.St) (H : Hp) : Prop where
  len : σ.length = ρ.length
  val : ∀ (i : Nat) (x : PyData), ρ[i]? = some (Sl.d x) → ∃ v, σ[i]? = some (some v) ∧ Rep G.K (adr O ++ Fg) H v x
  own : ∀ (i : Nat) (xs : List PyData), ρ[i]? = some (Sl.o xs) → ∃ a vs, (i, a) ∈ O ∧ σ[i]? = some (some (V.ref a)) ∧ H a = some (.lst vs) ∧ RepAll G.K (adr O ++ Fg) H vs xs
  key : ∀ i a b, (i, a) ∈ O → (i, b) ∈ O → a = b
  inj : ∀ i j a, (i, a) ∈ O → (j, a) ∈ O → i = j
  fg : ∀ p ∈ O, p.2 ∉ Fg
  occ : ∀ i a, (i, a) ∈ O → ∃ xs, ρ[i]? = some (Sl.o xs)
  tabs : ∀ P ∈ G.ts, TabG H P
  all : ∀ a ∈ adr O ++ Fg, ∃ xs, H a = some (.lst xs)
  raw : ∀ (i : Nat) (p : Addr), ρ[i]? = some (Sl.a p) → σ[i]? = some (some (V.ref p))
section
variable {G : Ctx} {Fg : List Addr} {O : Own} {ρ : RS} {σ : L2.St} {H H' : Hp}
theorem R.in_adr {i : Nat} {a : Addr} (m : (i, a) ∈ O) : a ∈ adr O := List.mem_map.mpr ⟨_, m, rfl⟩
/-- the heap goes on; lists of the callers may be written -/
theorem R.ext {S : List Addr} (r : R G Fg O ρ σ H) (e : Ext S H H') (hs : ∀ a ∈ S, a ∈ Fg) (hl : ∀ a ∈ S, ∃ xs, H' a = some (.lst xs)) : R G Fg O ρ σ H' := by
  have sub : ∀ a ∈ S, a ∈ adr O ++ Fg := fun a m => List.mem_append_right _ (hs a m)
  have re : ∀ {v d}, Rep G.K (adr O ++ Fg) H v d → Rep G.K (adr O ++ Fg) H' v d := fun q => q.ext (fun a m => .inl (sub a m)) e fun _ m => .inl m
  have ra : ∀ {v d}, RepAll G.K (adr O ++ Fg) H v d → RepAll G.K (adr O ++ Fg) H' v d := fun q => q.ext (fun a m => .inl (sub a m)) e fun _ m => .inl m
  refine ⟨r.len, fun i x h => ?_, fun i xs h => ?_, r.key, r.inj, r.fg, r.occ, fun P hP => e.tab P (r.tabs P hP), fun a m => ?_, r.raw⟩
  · obtain ⟨v, h1, h2⟩ := r.val i x h
    exact ⟨v, h1, re h2⟩
  · obtain ⟨a, vs, h1, h2, h3, h4⟩ := r.own i xs h
    exact ⟨a, vs, h1, h2, e.keep a _ h3 (by intro ps z; cases z) (.inl fun m => r.fg _ h1 (hs _ m)), ra h4⟩
  · by_cases hm : a ∈ S
    · exact hl a hm
    · obtain ⟨xs, h⟩ := r.all a m
      exact ⟨xs, e.keep a _ h (by intro ps z; cases z) (.inl hm)⟩
theorem R.ext0 (r : R G Fg O ρ σ H) (e : Ext [] H H') : R G Fg O ρ σ H' := r.ext e (by simp) (by simp)
/-- no slot of ρ is owned at i -/
def NoOwn (ρ : RS) (i : Nat) : Prop := ∀ xs, ρ[i]? ≠ some (Sl.o xs)
theorem get_set_d {ρ : RS} {i j : Nat} {s t : Sl} (h : (ρ.set i s)[j]? = some t) : (i = j ∧ t = s) ∨ (i ≠ j ∧ ρ[j]? = some t) := by
  by_cases hj : i = j
  · subst hj
    rw [List.getElem?_set_self'] at h
    cases q : ρ[i]? with
    | none => rw [q] at h; cases h
    | some z =>
      rw [q] at h
      exact .inl ⟨rfl, (Option.some.inj h).symm⟩
  · rw [List.getElem?_set_ne hj] at h
    exact .inr ⟨hj, h⟩
theorem raw_set {i : Nat} {s : Sl} {x : Option V} (h : ∀ (i : Nat) (p : Addr), ρ[i]? = some (Sl.a p) → σ[i]? = some (some (V.ref p))) (hs : ∀ p, s ≠ Sl.a p) : ∀ (j : Nat) (p : Addr), (ρ.set i s)[j]? = some (Sl.a p) → (σ.set i x)[j]? = some (some (V.ref p)) := fun j p q => by
  rcases get_set_d q with ⟨_, e⟩ | ⟨hj, e⟩
  · exact (hs p e.symm).elim
  · rw [List.getElem?_set_ne hj]; exact h j p e
theorem raw_put {i : Nat} {s : Sl} (h : ∀ (i : Nat) (p : Addr), ρ[i]? = some (Sl.a p) → σ[i]? = some (some (V.ref p))) (hs : ∀ p, s ≠ Sl.a p) : ∀ (j : Nat) (p : Addr), (ρ.set i s)[j]? = some (Sl.a p) → σ[j]? = some (some (V.ref p)) := fun j p q => by
  rcases get_set_d q with ⟨_, e⟩ | ⟨hj, e⟩
  · exact (hs p e.symm).elim
  · exact h j p e
theorem R.at_lt (r : R G Fg O ρ σ H) {i : Nat} {s : Sl} {t : Sl} (h : (ρ.set i s)[i]? = some t) : i < σ.length := by
  rw [r.len]
  have := (List.getElem?_eq_some_iff.mp h).1
  simpa using this
theorem R.occ_set (r : R G Fg O ρ σ H) {i : Nat} {s : Sl} (no : NoOwn ρ i) : ∀ j a, (j, a) ∈ O → ∃ xs, (ρ.set i s)[j]? = some (Sl.o xs) := fun j a m => by
  obtain ⟨xs, e⟩ := r.occ j a m
  have hj : i ≠ j := fun z => by subst z; exact no xs e
  exact ⟨xs, by rw [List.getElem?_set_ne hj]; exact e⟩
/-- a slot takes a datum -/
theorem R.set {i : Nat} {v : V} {x : PyData} (r : R G Fg O ρ σ H) (no : NoOwn ρ i) (hv : Rep G.K (adr O ++ Fg) H v x) : R G Fg O (ρ.set i (Sl.d x)) (σ.set i (some v)) H := by
  refine ⟨by simp [r.len], fun j y h => ?_, fun j ys h => ?_, r.key, r.inj, r.fg, r.occ_set no, r.tabs, r.all, raw_set r.raw (by intro _ z; cases z)⟩
  · rcases get_set_d h with ⟨rfl, e⟩ | ⟨hj, e⟩
    · cases e
      exact ⟨v, by rw [List.getElem?_set_self (r.at_lt h)], hv⟩
    · rw [List.getElem?_set_ne hj]
      exact r.val j y e
  · rcases get_set_d h with ⟨rfl, e⟩ | ⟨hj, e⟩
    · cases e
    · rw [List.getElem?_set_ne hj]
      exact r.own j ys e
/-- a slot is forgotten -/
theorem R.unset {i : Nat} {v : Option V} (r : R G Fg O ρ σ H) (no : NoOwn ρ i) : R G Fg O (ρ.set i Sl.n) (σ.set i v) H := by
  refine ⟨by simp [r.len], fun j y h => ?_, fun j ys h => ?_, r.key, r.inj, r.fg, r.occ_set no, r.tabs, r.all, raw_set r.raw (by intro _ z; cases z)⟩
  · rcases get_set_d h with ⟨rfl, e⟩ | ⟨hj, e⟩
    · cases e
    · rw [List.getElem?_set_ne hj]
      exact r.val j y e
  · rcases get_set_d h with ⟨rfl, e⟩ | ⟨hj, e⟩
    · cases e
    · rw [List.getElem?_set_ne hj]
      exact r.own j ys e
/-- a new list of a running comprehension -/
theorem R.more {a : Addr} {vs : List V} (r : R G Fg O ρ σ H) (h : H a = none) : R G (a :: Fg) O ρ σ (upd H a (.lst vs)) := by
  have e : Ext [] H (upd H a (.lst vs)) := ext_new h
  have g : ∀ b ∈ adr O ++ a :: Fg, b ∈ adr O ++ Fg ∨ H b = none := fun b m => by
    rcases List.mem_append.mp m with z | z
    · exact .inl (List.mem_append_left _ z)
    · rcases List.mem_cons.mp z with z | z
      · subst z; exact .inr h
      · exact .inl (List.mem_append_right _ z)
  have na : ∀ b xs, H b = some (.lst xs) → upd H a (.lst vs) b = some (.lst xs) := fun b xs q => by rw [upd_ne (ne_of_none q h)]; exact q
  refine ⟨r.len, fun i x q => ?_, fun i xs q => ?_, r.key, r.inj, fun p hp m => ?_, r.occ, fun P hP => e.tab P (r.tabs P hP), fun b m => ?_, r.raw⟩
  · obtain ⟨v, h1, h2⟩ := r.val i x q
    exact ⟨v, h1, h2.ext (O := []) (by simp) e g⟩
  · obtain ⟨b, ws, h1, h2, h3, h4⟩ := r.own i xs q
    exact ⟨b, ws, h1, h2, na _ _ h3, h4.ext (O := []) (by simp) e g⟩
  · rcases List.mem_cons.mp m with z | z
    · obtain ⟨xs, q⟩ := r.all p.2 (List.mem_append_left _ (List.mem_map.mpr ⟨p, hp, rfl⟩))
      rw [z, h] at q; cases q
    · exact r.fg p hp z
  · rcases g b m with z | z
    · obtain ⟨xs, q⟩ := r.all b z
      exact ⟨xs, na _ _ q⟩
    · by_cases hb : b = a
      · subst hb; exact ⟨vs, upd_same⟩
      · rcases List.mem_append.mp m with y | y
        · obtain ⟨xs, q⟩ := r.all b (List.mem_append_left _ y)
          exact ⟨xs, na _ _ q⟩
        · rcases List.mem_cons.mp y with y | y
          · exact (hb y).elim
          · obtain ⟨xs, q⟩ := r.all b (List.mem_append_right _ y)
            exact ⟨xs, na _ _ q⟩
theorem R.less {a : Addr} (r : R G (a :: Fg) O ρ σ H) : R G Fg O ρ σ H := by
  have g : ∀ b ∈ adr O ++ Fg, b ∈ adr O ++ a :: Fg := fun b m => by
    rcases List.mem_append.mp m with z | z
    · exact List.mem_append_left _ z
    · exact List.mem_append_right _ (List.mem_cons_of_mem _ z)
  refine ⟨r.len, fun i x q => ?_, fun i xs q => ?_, r.key, r.inj, fun p hp m => r.fg p hp (List.mem_cons_of_mem _ m), r.occ, r.tabs, fun b m => r.all b (g b m), r.raw⟩
  · obtain ⟨v, h1, h2⟩ := r.val i x q
    exact ⟨v, h1, h2.fewer g⟩
  · obtain ⟨b, ws, h1, h2, h3, h4⟩ := r.own i xs q
    exact ⟨b, ws, h1, h2, h3, h4.fewer g⟩
/-- a slot takes a list as its own that stood apart -/
theorem R.take {a : Addr} {i : Nat} {vs : List V} {xs : List PyData} (r : R G (a :: Fg) O ρ σ H) (hf : a ∉ Fg) (h : H a = some (.lst vs)) (hi : i < ρ.length) (no : NoOwn ρ i)
    (hx : RepAll G.K (adr O ++ a :: Fg) H vs xs) : R G Fg ((i, a) :: O) (ρ.set i (Sl.o xs)) (σ.set i (some (V.ref a))) H := by
  have g : ∀ b ∈ adr ((i, a) :: O) ++ Fg, b ∈ adr O ++ a :: Fg := fun b m => by
    rcases List.mem_cons.mp m with z | z
    · rw [z]; exact List.mem_append_right _ List.mem_cons_self
    · rcases List.mem_append.mp z with z | z
      · exact List.mem_append_left _ z
      · exact List.mem_append_right _ (List.mem_cons_of_mem _ z)
  have hn : ∀ b, (i, b) ∉ O := fun b m => by
    obtain ⟨ys, e⟩ := r.occ i b m
    exact no ys e
  have hO : a ∉ adr O := fun m => by
    obtain ⟨p, hp, e⟩ := List.mem_map.mp m
    exact r.fg p hp (by rw [e]; exact List.mem_cons_self)
  refine ⟨by simp [r.len], fun j y q => ?_, fun j ys q => ?_, fun j b c m1 m2 => ?_, fun j k b m1 m2 => ?_, fun p hp m => ?_, fun j b m => ?_, r.tabs, fun b m => r.all b (g b m), raw_set r.raw (by intro _ z; cases z)⟩
  · rcases get_set_d q with ⟨rfl, e⟩ | ⟨hj, e⟩
    · cases e
    · rw [List.getElem?_set_ne hj]
      obtain ⟨v, h1, h2⟩ := r.val j y e
      exact ⟨v, h1, h2.fewer g⟩
  · rcases get_set_d q with ⟨rfl, e⟩ | ⟨hj, e⟩
    · cases e
      exact ⟨a, vs, List.mem_cons_self, by rw [List.getElem?_set_self (r.at_lt q)], h, hx.fewer g⟩
    · rw [List.getElem?_set_ne hj]
      obtain ⟨b, ws, h1, h2, h3, h4⟩ := r.own j ys e
      exact ⟨b, ws, List.mem_cons_of_mem _ h1, h2, h3, h4.fewer g⟩
  · rcases List.mem_cons.mp m1 with e1 | m1
    · rcases List.mem_cons.mp m2 with e2 | m2
      · cases e1; cases e2; rfl
      · cases e1; exact (hn _ m2).elim
    · rcases List.mem_cons.mp m2 with e2 | m2
      · cases e2; exact (hn _ m1).elim
      · exact r.key j b c m1 m2
  · rcases List.mem_cons.mp m1 with e1 | m1
    · rcases List.mem_cons.mp m2 with e2 | m2
      · cases e1; cases e2; rfl
      · cases e1; exact (hO (R.in_adr m2)).elim
    · rcases List.mem_cons.mp m2 with e2 | m2
      · cases e2; exact (hO (R.in_adr m1)).elim
      · exact r.inj j k b m1 m2
  · rcases List.mem_cons.mp hp with e | hp
    · subst e; exact hf m
    · exact r.fg p hp (List.mem_cons_of_mem _ m)
  · rcases List.mem_cons.mp m with e | m
    · cases e
      exact ⟨xs, List.getElem?_set_self hi⟩
    · exact r.occ_set no j b m
/-- the list of a slot is written -/
theorem R.put {a : Addr} {i : Nat} {vs ws : List V} {xs : List PyData} (r : R G Fg O ρ σ H) (m : (i, a) ∈ O) (h : H a = some (.lst vs)) (hi : i < ρ.length) (hσ : σ[i]? = some (some (V.ref a)))
    (hx : RepAll G.K (adr O ++ Fg) H ws xs) : R G Fg O (ρ.set i (Sl.o xs)) σ (upd H a (.lst ws)) := by
  have e : Ext [a] H (upd H a (.lst ws)) := ext_put h (List.mem_singleton.mpr rfl)
  have sub : ∀ b ∈ [a], b ∈ adr O ++ Fg := fun b q => by
    rw [List.mem_singleton.mp q]
    exact List.mem_append_left _ (R.in_adr m)
  have ra : ∀ {v d}, RepAll G.K (adr O ++ Fg) H v d → RepAll G.K (adr O ++ Fg) (upd H a (.lst ws)) v d := fun q => q.ext (fun a m => .inl (sub a m)) e fun _ m => .inl m
  refine ⟨by simp [r.len], fun j y q => ?_, fun j ys q => ?_, r.key, r.inj, r.fg, fun j b q => ?_, fun P hP => e.tab P (r.tabs P hP), fun b q => ?_, raw_put r.raw (by intro _ z; cases z)⟩
  · rcases get_set_d q with ⟨rfl, z⟩ | ⟨hj, z⟩
    · cases z
    · obtain ⟨v, h1, h2⟩ := r.val j y z
      exact ⟨v, h1, h2.ext (fun a m => .inl (sub a m)) e fun _ m => .inl m⟩
  · rcases get_set_d q with ⟨rfl, z⟩ | ⟨hj, z⟩
    · cases z
      exact ⟨a, ws, m, hσ, upd_same, ra hx⟩
    · obtain ⟨b, us, h1, h2, h3, h4⟩ := r.own j ys z
      refine ⟨b, us, h1, h2, ?_, ra h4⟩
      rw [upd_ne (show b ≠ a from fun z => hj (r.inj i j a m (by rw [← z]; exact h1)))]
      exact h3
  · by_cases hj : i = j
    · subst hj; exact ⟨xs, List.getElem?_set_self hi⟩
    · obtain ⟨ys, z⟩ := r.occ j b q
      exact ⟨ys, by rw [List.getElem?_set_ne hj]; exact z⟩
  · by_cases hb : b = a
    · subst hb; exact ⟨ws, upd_same⟩
    · obtain ⟨us, z⟩ := r.all b q
      exact ⟨us, by rw [upd_ne hb]; exact z⟩
end
/-- how a state goes on: the heap, the owned lists -/
structure Evo (O : Own) (H : Hp) (O' : Own) (H' : Hp) : Prop where
  ext : Ext (adr O) H H'
  sub : ∀ p ∈ O, p.1 = 0 → p ∈ O'
  grow : ∀ p ∈ O', p ∈ O ∨ H p.2 = none
theorem Evo.refl {O : Own} {H : Hp} : Evo O H O H := ⟨.refl, fun _ m _ => m, fun _ m => .inl m⟩
theorem Evo.g {O O' : Own} {H H' : Hp} (e : Evo O H O' H') : Grow (adr O) H (adr O') := fun a m => by
  obtain ⟨p, hp, rfl⟩ := List.mem_map.mp m
  rcases e.grow p hp with q | q
  · exact .inl (List.mem_map.mpr ⟨p, q, rfl⟩)
  · exact .inr q
theorem Evo.trans {O O1 O2 : Own} {H H1 H2 : Hp} (a : Evo O H O1 H1) (b : Evo O1 H1 O2 H2) : Evo O H O2 H2 :=
  ⟨a.ext.trans b.ext a.g, fun p m z => b.sub p (a.sub p m z) z, fun p m => by
    rcases b.grow p m with q | q
    · exact a.grow p q
    · exact .inr (a.ext.dom _ q)⟩
theorem Ext.evo {O : Own} {H H' : Hp} (e : Ext (adr O) H H') : Evo O H O H' := ⟨e, fun _ m _ => m, fun _ m => .inl m⟩
end DL

-- text DL2
set_option Elab.async false
set_option linter.all false
set_option maxRecDepth 100000
set_option maxHeartbeats 2000000
namespace DL
open PySem PySem.Spec PyProof.Rows L2 GxR

/-! ### results -/
/-- an expression's: a value and the slots; an own error (its class, its fields); nothing is claimed -/
inductive Rs (α : Type) where
  | ok (a : α) (ρ : RS)
  | ex (c : Str) (fs : List (Str × PyData)) (ρ : RS)
  | no
def Rs.bind {α β : Type} (r : Rs α) (k : α → RS → Rs β) : Rs β := match r with
  | .ok a ρ => k a ρ
  | .ex c fs ρ => .ex c fs ρ
  | .no => .no
def Rs.of {α : Type} (o : Option α) (ρ : RS) : Rs α := match o with
  | some a => .ok a ρ
  | none => .no
/-- a statement's: what follows, a return (rto: of an own list), break, continue -/
inductive Out where
  | nx (ρ : RS)
  | rt (d : PyData) (ρ : RS)
  | rto (d : PyData) (ρ : RS)
  | bk (ρ : RS)
  | ct (ρ : RS)
  | ex (c : Str) (fs : List (Str × PyData)) (ρ : RS)
  | no
def Rs.out {α : Type} (r : Rs α) (k : α → RS → Out) : Out := match r with
  | .ok a ρ => k a ρ
  | .ex c fs ρ => .ex c fs ρ
  | .no => .no
def fv : PyData → V
  | .none => .non
  | .bool b => .bl b
  | .int i => .int i
  | .str x => .str x
  | _ => .non
/-- the error's own dict at dd -/
def ExAt (fs : List (Str × PyData)) (dd : Option Addr) (H : Hp) : Prop := match fs with
  | [] => dd = none
  | _ :: _ => ∃ a vs, dd = some a ∧ H a = some (.xd vs) ∧ ∀ p ∈ fs, vs.lookup p.1 = some (fv p.2)

/-- what is wanted behind: K of the value, the slots, the heap -/
def GP {β : Type} (G : Ctx) (W : WX) (Fg : List Addr) (O : Own) (σ : L2.St) (K : β → RS → Hp → Prop) (H : Hp) : Rs β → Prop
  | .ok b ρ' => ∀ H', Ext (adr O) H H' → R G Fg O ρ' σ H' → K b ρ' H'
  | .ex c fs ρ' => ∀ dd H', Ext (adr O) H H' → R G Fg O ρ' σ H' → ExAt fs dd H' → W (.ref (G.ec c)) dd σ H'
  | .no => False
section
variable {α β : Type} {G : Ctx} {W : WX} {Fg : List Addr} {O : Own} {σ : L2.St} {K K' : β → RS → Hp → Prop} {H H1 : Hp}
theorem GP.imp {r : Rs β} (h : GP G W Fg O σ K H r) (k : ∀ b ρ' H', Ext (adr O) H H' → R G Fg O ρ' σ H' → K b ρ' H' → K' b ρ' H') : GP G W Fg O σ K' H r := by
  cases r with
  | ok b ρ' => exact fun H' e r => k b ρ' H' e r (h H' e r)
  | ex c fs ρ' => exact h
  | no => exact h
theorem GP.shift {r : Rs β} (h : GP G W Fg O σ K H r) (e : Ext (adr O) H H1) : GP G W Fg O σ K H1 r := by
  cases r with
  | ok b ρ' => exact fun H' e' r => h H' (e.trans' e') r
  | ex c fs ρ' => exact fun dd H' e' r => h dd H' (e.trans' e') r
  | no => exact h
theorem GP.bind {r : Rs α} {k : α → RS → Rs β} (h : GP G W Fg O σ K H (r.bind k)) : GP G W Fg O σ (fun a ρ1 H1 => GP G W Fg O σ K H1 (k a ρ1)) H r := by
  cases r with
  | ok a ρ' => exact fun H' e r => GP.shift h e
  | ex c fs ρ' => exact h
  | no => exact h
theorem GP.of {o : Option β} {ρ : RS} (h : GP G W Fg O σ K H (Rs.of o ρ)) : ∃ b, o = some b ∧ ∀ H', Ext (adr O) H H' → R G Fg O ρ σ H' → K b ρ H' := by
  cases o with
  | none => exact h.elim
  | some b => exact ⟨b, rfl, h⟩
end
/-- .. behind a statement -/
def SPo (G : Ctx) (W : WX) (Fg : List Addr) (O : Own) (H : Hp) (D : Ends) : Out → Prop
  | .nx ρ' => ∀ O' σ' H', Evo O H O' H' → R G Fg O' ρ' σ' H' → D.nx σ' H'
  | .rt d ρ' => ∀ O' σ' v H', Evo O H O' H' → R G Fg O' ρ' σ' H' → Rep G.K (adr O' ++ Fg) H' v d → D.rt v H'
  | .rto d ρ' => ∀ O' σ' v H', Evo O H O' H' → R G Fg O' ρ' σ' H' → Rep G.K Fg H' v d → D.rt v H'
  | .bk ρ' => ∀ O' σ' H', Evo O H O' H' → R G Fg O' ρ' σ' H' → D.bk σ' H'
  | .ct ρ' => ∀ O' σ' H', Evo O H O' H' → R G Fg O' ρ' σ' H' → D.ct σ' H'
  | .ex c fs ρ' => ∀ O' σ' dd H', Evo O H O' H' → R G Fg O' ρ' σ' H' → ExAt fs dd H' → W (.ref (G.ec c)) dd σ' H'
  | .no => False
section
variable {α : Type} {G : Ctx} {W : WX} {Fg : List Addr} {O O1 : Own} {σ : L2.St} {H H1 : Hp} {D D' : Ends}
theorem SPo.shift {o : Out} (h : SPo G W Fg O H D o) (e : Evo O H O1 H1) : SPo G W Fg O1 H1 D o := by
  cases o with
  | nx ρ' => exact fun O' σ' H' e' r => h O' σ' H' (e.trans e') r
  | rt d ρ' => exact fun O' σ' v H' e' r => h O' σ' v H' (e.trans e') r
  | rto d ρ' => exact fun O' σ' v H' e' r => h O' σ' v H' (e.trans e') r
  | bk ρ' => exact fun O' σ' H' e' r => h O' σ' H' (e.trans e') r
  | ct ρ' => exact fun O' σ' H' e' r => h O' σ' H' (e.trans e') r
  | ex c fs ρ' => exact fun O' σ' dd H' e' r => h O' σ' dd H' (e.trans e') r
  | no => exact h
theorem SPo.out {r : Rs α} {k : α → RS → Out} (h : SPo G W Fg O H D (r.out k)) : GP G W Fg O σ (fun a ρ1 H1 => SPo G W Fg O H1 D (k a ρ1)) H r := by
  cases r with
  | ok a ρ' => exact fun H' e r => h.shift e.evo
  | ex c fs ρ' => exact fun dd H' e r x => h O σ dd H' e.evo r x
  | no => exact h
end

/-! ### the judgements: over a family of contexts -/
section
variable {ι : Type} (X : ι → Cx) (G : Ctx) (W : WX)
structure DE (e : Expr) (f : RS → Rs PyData) : Prop where
  ex : ∃ t : TE, (∀ i, PE (X i) e t) ∧ ∀ Fg O ρ σ H Q, R G Fg O ρ σ H → GP G W Fg O σ (fun d _ H' => ∀ v, Rep G.K (adr O ++ Fg) H' v d → Q v H') H (f ρ) → t σ H Q
structure DT (e : Expr) (f : RS → Rs Bool) : Prop where
  ex : ∃ t : TT, (∀ i, PT (X i) e t) ∧ ∀ Fg O ρ σ H Q, R G Fg O ρ σ H → GP G W Fg O σ (fun b _ H' => Q b H') H (f ρ) → t σ H Q
/-- a test as a part of and, or -/
structure DW (e : Expr) (f : RS → Rs Bool) : Prop where
  ex : ∃ t : TT, (∀ i, PW (X i) e t) ∧ ∀ Fg O ρ σ H Q, R G Fg O ρ σ H → GP G W Fg O σ (fun b _ H' => Q b H') H (f ρ) → t σ H Q
structure DA (es : List Expr) (f : RS → Rs (List PyData)) : Prop where
  ex : ∃ t : TA, (∀ i, PA (X i) es t) ∧ ∀ Fg O ρ σ H Q, R G Fg O ρ σ H → GP G W Fg O σ (fun ds _ H' => ∀ vs, RepAll G.K (adr O ++ Fg) H' vs ds → Q vs H') H (f ρ) → t σ H Q
structure DS (st : Stmt) (f : RS → Out) : Prop where
  ex : ∃ t : TS, (∀ i, PS (X i) st t) ∧ ∀ Fg O ρ σ H D, R G Fg O ρ σ H → SPo G W Fg O H D (f ρ) → t D σ H
structure DSs (st : List Stmt) (f : RS → Out) : Prop where
  ex : ∃ t : TS, (∀ i, PSs (X i) st t) ∧ ∀ Fg O ρ σ H D, R G Fg O ρ σ H → SPo G W Fg O H D (f ρ) → t D σ H
/-- a target; vs: the slots that it sets -/
structure DG (tg : Expr) (vs : List Nat) (g : PyData → RS → Option RS) : Prop where
  ex : ∃ t : TG, (∀ i, PG (X i) tg t) ∧ ∀ Fg O ρ σ H v d ρ' Q, R G Fg O ρ σ H → Rep G.K (adr O ++ Fg) H v d → g d ρ = some ρ' →
    (∀ σ', R G Fg O ρ' σ' H → (∀ ws : List Nat, (∀ j ∈ vs, j ∈ ws) → wipe σ' ws = wipe σ ws) → Q σ' H) → t v σ H Q
structure DGs (tgs : List Expr) (vs : List Nat) (g : List PyData → RS → Option RS) : Prop where
  ex : ∃ t : TGs, (∀ i, PGs (X i) tgs t) ∧ ∀ Fg O ρ σ H us ds ρ' Q, R G Fg O ρ σ H → RepAll G.K (adr O ++ Fg) H us ds → g ds ρ = some ρ' →
    (∀ σ', R G Fg O ρ' σ' H → (∀ ws : List Nat, (∀ j ∈ vs, j ∈ ws) → wipe σ' ws = wipe σ ws) → Q σ' H) → t us σ H Q
end
/-- the items ds are walked by J, from the heap H on; A: what the items must not meet -/
def WalkD (G : Ctx) (B : List Addr) (H : Hp) (J : It) (ds : List PyData) : Prop := ∀ (S A : List Addr) (H' : Hp), Ext S H H' → (∀ a ∈ S, a ∈ B ∨ H a = none) → (∀ a ∈ A, a ∈ B ∨ H a = none) → ∀ i : Nat,
  (∀ d, ds[i]? = some d → J.go i H' ∧ ∀ x H'', J.yld i H' x H'' → Ext [] H' H'' ∧ Rep G.K A H'' x d) ∧ (ds.length ≤ i → J.stop i H')
structure DI {ι : Type} (X : ι → Cx) (G : Ctx) (W : WX) (tg iter : Expr) (f : RS → Rs (List PyData)) : Prop where
  ex : ∃ wi : TI, (∀ i, PI (X i) tg iter wi) ∧ ∀ Fg O ρ σ H Q, R G Fg O ρ σ H → GP G W Fg O σ (fun ds _ H' => ∀ J, WalkD G (adr O ++ Fg) H' J ds → Q J H') H (f ρ) → wi σ H Q
/-- what every context of the family has -/
structure Fam {ι : Type} (X : ι → Cx) (G : Ctx) (W : WX) (k : Nat) : Prop where
  K : ∀ i, (X i).K = G.K
  calm : ∀ i, (X i).calm = true
  takes : ∀ i, Takes (X i) W
  nd : ∀ i, (X i).N.Nodup
  room : ∀ i, Room k (X i).A

section
variable {ι : Type} {X : ι → Cx} {G : Ctx} {W : WX}
/-! ### names, constants -/
def eVar (i : Nat) : RS → Rs PyData := fun ρ => match ρ[i]? with
  | some (.d x) => .ok x ρ
  | _ => .no
theorem de_var (j : Nat) {x : Str} {pos : Pos} (hN : ∀ i, (X i).N[j]? = some x) (hv : ∀ i, Vis (X i).env.scope x) (hd : (x == ("__debug__" : Str)) = false := by decide) (hcd : (x == ("__classdict__" : Str)) = false := by decide) : DE X G W (.Name x pos) (eVar j) := by
  refine ⟨_, fun i => pe_var (hN i) (hv i) hd hcd, fun Fg O ρ σ H Q r h => ?_⟩
  unfold eVar at h
  split at h
  · rename_i d e
    obtain ⟨v, h1, h2⟩ := r.val j d e
    exact ⟨v, h1, h H .refl r v h2⟩
  · exact h.elim
def eC (d : PyData) : RS → Rs PyData := fun ρ => .ok d ρ
theorem de_int {n : Int} {j : Nat} {pos : Pos} : DE X G W (.Constant (.int n) j pos) (eC (.int n)) := ⟨_, fun _ => pe_int, fun Fg O ρ σ H Q r h => h H .refl r _ (.int n)⟩
theorem de_bl {b : Bool} {j : Nat} {pos : Pos} : DE X G W (.Constant (.bool b) j pos) (eC (.bool b)) := ⟨_, fun _ => pe_bl, fun Fg O ρ σ H Q r h => h H .refl r _ (.bl b)⟩
theorem de_non {j : Nat} {pos : Pos} : DE X G W (.Constant .none j pos) (eC .none) := ⟨_, fun _ => pe_non, fun Fg O ρ σ H Q r h => h H .refl r _ .non⟩
theorem de_str {x : Str} {j : Nat} {pos : Pos} : DE X G W (.Constant (.str x) j pos) (eC (.str x)) := ⟨_, fun _ => pe_str, fun Fg O ρ σ H Q r h => h H .refl r _ (.str x)⟩
/-- a flat constant of the module -/
theorem de_glob {x : Str} {d : PyData} {v : V} {u : Value} {pos : Pos} (hg : ∀ i, Gl (X i) x) (hm : ∀ i, (X i).mg x = some u) (r : RelV v u) (hr : ∀ A H, Rep G.K A H v d) (hd : (x == ("__debug__" : Str)) = false := by decide) : DE X G W (.Name x pos) (eC d) :=
  ⟨_, fun i => pe_glob (hg i) (hm i) r hd, fun Fg O ρ σ H Q r h => h H .refl r _ (hr _ _)⟩

/-! ### operators by their values -/
/-- r asks no more than the data give -/
def OpD (G : Ctx) (r : R2) (g : PyData → PyData → Option PyData) : Prop := ∀ (A : List Addr) (H : Hp) (x y : V) (dx dy d : PyData) (Q : VK), (∀ a ∈ A, ∃ xs, H a = some (.lst xs)) → Rep G.K A H x dx → Rep G.K A H y dy → g dx dy = some d →
  (∀ v H', Same H H' → Rep G.K A H' v d → Q v H') → r x y H Q
def eBin (g : PyData → PyData → Option PyData) (fa fb : RS → Rs PyData) : RS → Rs PyData := fun ρ => (fa ρ).bind fun x ρ1 => (fb ρ1).bind fun y ρ2 => Rs.of (g x y) ρ2
variable {a b c : Expr} {fa fb fc : RS → Rs PyData} {pos : Pos} {g : PyData → PyData → Option PyData}
theorem bin_law {ta tb : TE} {r : R2} (la : ∀ Fg O ρ σ H Q, R G Fg O ρ σ H → GP G W Fg O σ (fun d _ H' => ∀ v, Rep G.K (adr O ++ Fg) H' v d → Q v H') H (fa ρ) → ta σ H Q)
    (lb : ∀ Fg O ρ σ H Q, R G Fg O ρ σ H → GP G W Fg O σ (fun d _ H' => ∀ v, Rep G.K (adr O ++ Fg) H' v d → Q v H') H (fb ρ) → tb σ H Q) (ho : OpD G r g)
    {Fg : List Addr} {O : Own} {ρ : RS} {σ : L2.St} {H : Hp} {Q : VK} (r0 : R G Fg O ρ σ H) (h : GP G W Fg O σ (fun d _ H' => ∀ v, Rep G.K (adr O ++ Fg) H' v d → Q v H') H (eBin g fa fb ρ)) : tOp r ta tb σ H Q := by
  refine la Fg O ρ σ H _ r0 ((GP.bind h).imp fun x ρ1 H1 e1 r1 k1 v rv => ?_)
  refine lb Fg O ρ1 σ H1 _ r1 ((GP.bind k1).imp fun y ρ2 H2 e2 r2 k2 w rw' => ?_)
  obtain ⟨d, e, k⟩ := k2.of
  refine ho _ H2 v w x y d Q r2.all (rv.ext (fun a m => .inl (List.mem_append_left _ m)) e2 fun _ m => .inl m) rw' e fun z H3 s rz => ?_
  exact k H3 (.of_same s) (r2.ext0 (.of_same s)) z rz
theorem de_bin {op : Operator} {r : R2} (ho : ∀ i, OpR (X i) (binaryOp op) r) (od : OpD G r g) (ha : DE X G W a fa) (hb : DE X G W b fb) : DE X G W (.BinOp a op b pos) (eBin g fa fb) := by
  obtain ⟨ta, pa, la⟩ := ha
  obtain ⟨tb, pb, lb⟩ := hb
  exact ⟨_, fun i => pe_op (ho i) (pa i) (pb i), fun Fg O ρ σ H Q r0 h => bin_law la lb od r0 h⟩
theorem de_cmp {op : CmpOp} {r : R2} (ho : ∀ i, OpR (X i) (compareOp op) r) (od : OpD G r g) (ha : DE X G W a fa) (hb : DE X G W b fb) (hm : behindInMarks op b = false) : DE X G W (.Compare a [op] [b] pos) (eBin g fa fb) := by
  obtain ⟨ta, pa, la⟩ := ha
  obtain ⟨tb, pb, lb⟩ := hb
  exact ⟨_, fun i => pe_cmpR (ho i) (pa i) (pb i) hm, fun Fg O ρ σ H Q r0 h => bin_law la lb od r0 h⟩
/-- a datum that is a bool -/
def asB : PyData → Option Bool
  | .bool b => some b
  | _ => none
theorem asB_some {d : PyData} {b : Bool} (h : asB d = some b) : d = .bool b := by
  cases d <;> simp [asB] at h
  subst h; rfl
theorem rep_bl {K : PySem.W.Frag} {A : List Addr} {H : Hp} {v : V} {b : Bool} (h : Rep K A H v (.bool b)) : v = .bl b := by cases h; rfl
/-- a value that is a bool, as a test -/
def tV (f : RS → Rs PyData) : RS → Rs Bool := fun ρ => (f ρ).bind fun d ρ1 => Rs.of (asB d) ρ1
theorem tv_law {t : TE} (la : ∀ Fg O ρ σ H Q, R G Fg O ρ σ H → GP G W Fg O σ (fun d _ H' => ∀ v, Rep G.K (adr O ++ Fg) H' v d → Q v H') H (fa ρ) → t σ H Q)
    {Fg : List Addr} {O : Own} {ρ : RS} {σ : L2.St} {H : Hp} {Q : Bool → Hp → Prop} (r0 : R G Fg O ρ σ H) (h : GP G W Fg O σ (fun b _ H' => Q b H') H (tV fa ρ)) : t σ H fun x H' => ∃ k, x = .bl k ∧ Q k H' := by
  refine la Fg O ρ σ H _ r0 ((GP.bind h).imp fun d ρ1 H1 e1 r1 k1 v rv => ?_)
  obtain ⟨b, e, k⟩ := k1.of
  rw [asB_some e] at rv
  exact ⟨b, rep_bl rv, k H1 .refl r1⟩
theorem dt_val (ha : DE X G W a fa) (he : ∀ i whole, isTrue a (X i).env whole = (do let v ← whole; standAt a.pos; holding [v] (truthy v)) := by intro _ _; rfl) : DT X G W a (tV fa) := by
  obtain ⟨ta, pa, la⟩ := ha
  exact ⟨_, fun i => pt_val (pa i) (he i), fun Fg O ρ σ H Q r0 h => tv_law la r0 h⟩
theorem dt_cmp {op : CmpOp} {r : R2} (ho : ∀ i, OpR (X i) (compareOp op) r) (od : OpD G r g) (ha : DE X G W a fa) (hb : DE X G W b fb) (hm : behindInMarks op b = false) : DT X G W (.Compare a [op] [b] pos) (tV (eBin g fa fb)) := by
  obtain ⟨ta, pa, la⟩ := ha
  obtain ⟨tb, pb, lb⟩ := hb
  exact ⟨_, fun i => pt_cmpR (ho i) (pa i) (pb i) hm, fun Fg O ρ σ H Q r0 h => tv_law (fun Fg O ρ σ H Q r0 h => bin_law la lb od r0 h) r0 h⟩
/-- two comparisons in a chain -/
def eChain (g g' : PyData → PyData → Option PyData) (fa fb fc : RS → Rs PyData) : RS → Rs PyData := fun ρ => (fa ρ).bind fun x ρ1 => (fb ρ1).bind fun y ρ2 => (Rs.of (g x y) ρ2).bind fun z ρ3 => match z with
  | .bool true => (fc ρ3).bind fun w ρ4 => Rs.of (g' y w) ρ4
  | .bool false => .ok (.bool false) ρ3
  | _ => .no
theorem chain_law {g' : PyData → PyData → Option PyData} {ta tb tc : TE} {r r' : R2} (la : ∀ Fg O ρ σ H Q, R G Fg O ρ σ H → GP G W Fg O σ (fun d _ H' => ∀ v, Rep G.K (adr O ++ Fg) H' v d → Q v H') H (fa ρ) → ta σ H Q)
    (lb : ∀ Fg O ρ σ H Q, R G Fg O ρ σ H → GP G W Fg O σ (fun d _ H' => ∀ v, Rep G.K (adr O ++ Fg) H' v d → Q v H') H (fb ρ) → tb σ H Q)
    (lc : ∀ Fg O ρ σ H Q, R G Fg O ρ σ H → GP G W Fg O σ (fun d _ H' => ∀ v, Rep G.K (adr O ++ Fg) H' v d → Q v H') H (fc ρ) → tc σ H Q) (ho : OpD G r g) (ho' : OpD G r' g')
    {Fg : List Addr} {O : Own} {ρ : RS} {σ : L2.St} {H : Hp} {Q : VK} (r0 : R G Fg O ρ σ H) (h : GP G W Fg O σ (fun d _ H' => ∀ v, Rep G.K (adr O ++ Fg) H' v d → Q v H') H (eChain g g' fa fb fc ρ)) : tChain r r' ta tb tc σ H Q := by
  have into : ∀ {H1 H2 : Hp}, Ext (adr O) H1 H2 → ∀ {v d}, Rep G.K (adr O ++ Fg) H1 v d → Rep G.K (adr O ++ Fg) H2 v d := fun {H1 H2} e {v d} rv => rv.ext (fun a m => .inl (List.mem_append_left _ m)) e fun _ m => .inl m
  refine la Fg O ρ σ H _ r0 ((GP.bind h).imp fun x ρ1 H1 e1 r1 k1 v rv => ?_)
  refine lb Fg O ρ1 σ H1 _ r1 ((GP.bind k1).imp fun y ρ2 H2 e2 r2 k2 w rw' => ?_)
  cases e : g x y with
  | none => rw [e] at k2; exact k2.elim
  | some z =>
    rw [e] at k2
    refine ho _ H2 v w x y z _ r2.all (into e2 rv) rw' e fun z' H3 s rz => ?_
    have r3 : R G Fg O ρ2 σ H3 := r2.ext0 (.of_same s)
    have rw3 := into (Ext.of_same s) rw'
    cases z with
    | bool q =>
      cases q with
      | false =>
        refine ⟨false, rep_bl rz, ?_⟩
        rw [if_neg Bool.false_ne_true]
        exact k2 H3 (.of_same s) r3 _ (.bl false)
      | true =>
        refine ⟨true, rep_bl rz, ?_⟩
        rw [if_pos rfl]
        have k3 : GP G W Fg O σ _ H2 ((fc ρ2).bind fun w ρ4 => Rs.of (g' y w) ρ4) := k2
        refine lc Fg O ρ2 σ H3 _ r3 ((GP.bind (k3.shift (.of_same s))).imp fun u ρ4 H4 e4 r4 k4 u' ru => ?_)
        obtain ⟨d, e, k⟩ := k4.of
        exact ho' _ H4 w u' y u d Q r4.all (into e4 rw3) ru e fun z H5 s5 rz => k H5 (.of_same s5) (r4.ext0 (.of_same s5)) z rz
    | _ => exact k2.elim
theorem de_chain {g' : PyData → PyData → Option PyData} {op op' : CmpOp} {r r' : R2} (ho : ∀ i, OpR (X i) (compareOp op) r) (ho' : ∀ i, OpR (X i) (compareOp op') r') (od : OpD G r g) (od' : OpD G r' g') (ha : DE X G W a fa) (hb : DE X G W b fb) (hc : DE X G W c fc)
    (hm : lastMarks [op, op'] [b, c] = false := by with_unfolding_all rfl) : DE X G W (.Compare a [op, op'] [b, c] pos) (eChain g g' fa fb fc) := by
  obtain ⟨ta, pa, la⟩ := ha
  obtain ⟨tb, pb, lb⟩ := hb
  obtain ⟨tc, pc, lc⟩ := hc
  exact ⟨_, fun i => pe_chain (ho i) (ho' i) (pa i) (pb i) (pc i) hm, fun Fg O ρ σ H Q r0 h => chain_law la lb lc od od' r0 h⟩
theorem dt_chain {g' : PyData → PyData → Option PyData} {op op' : CmpOp} {r r' : R2} (ho : ∀ i, OpR (X i) (compareOp op) r) (ho' : ∀ i, OpR (X i) (compareOp op') r') (od : OpD G r g) (od' : OpD G r' g') (ha : DE X G W a fa) (hb : DE X G W b fb) (hc : DE X G W c fc)
    (hm : lastMarks [op, op'] [b, c] = false := by with_unfolding_all rfl) : DT X G W (.Compare a [op, op'] [b, c] pos) (tV (eChain g g' fa fb fc)) := by
  obtain ⟨ta, pa, la⟩ := ha
  obtain ⟨tb, pb, lb⟩ := hb
  obtain ⟨tc, pc, lc⟩ := hc
  exact ⟨_, fun i => pt_chain (ho i) (ho' i) (pa i) (pb i) (pc i) hm, fun Fg O ρ σ H Q r0 h => tv_law (fun Fg O ρ σ H Q r0 h => chain_law la lb lc od od' r0 h) r0 h⟩

/-! ### and, or, not, if -/
variable {tfa tfb : RS → Rs Bool} {rest : List Expr}
def tNotD (f : RS → Rs Bool) : RS → Rs Bool := fun ρ => (f ρ).bind fun b ρ1 => .ok (!b) ρ1
theorem dt_not (ha : DT X G W a tfa) : DT X G W (.UnaryOp .Not a pos) (tNotD tfa) := by
  obtain ⟨t, p, l⟩ := ha
  exact ⟨_, fun i => pt_not (p i), fun Fg O ρ σ H Q r0 h => l Fg O ρ σ H _ r0 ((GP.bind h).imp fun b ρ1 H1 e1 r1 k => k H1 .refl r1)⟩
def tAndD (f g : RS → Rs Bool) : RS → Rs Bool := fun ρ => (f ρ).bind fun b ρ1 => if b then g ρ1 else .ok false ρ1
def tOrD (f g : RS → Rs Bool) : RS → Rs Bool := fun ρ => (f ρ).bind fun b ρ1 => if b then .ok true ρ1 else g ρ1
theorem dw_and1 (ha : DT X G W a tfa) : DW X G W (.BoolOp .And [a] pos) tfa := by
  obtain ⟨t, p, l⟩ := ha
  exact ⟨_, fun i => pw_and1 (p i), l⟩
theorem dw_or1 (ha : DT X G W a tfa) : DW X G W (.BoolOp .Or [a] pos) tfa := by
  obtain ⟨t, p, l⟩ := ha
  exact ⟨_, fun i => pw_or1 (p i), l⟩
theorem dw_and (ha : DT X G W a tfa) (hb : DW X G W (.BoolOp .And (b :: rest) pos) tfb) : DW X G W (.BoolOp .And (a :: b :: rest) pos) (tAndD tfa tfb) := by
  obtain ⟨t, p, l⟩ := ha
  obtain ⟨t2, p2, l2⟩ := hb
  refine ⟨_, fun i => pw_and (p i) (p2 i), fun Fg O ρ σ H Q r0 h => l Fg O ρ σ H _ r0 ((GP.bind h).imp fun b ρ1 H1 e1 r1 k => ?_)⟩
  cases b with
  | true => exact ite_tt (l2 Fg O ρ1 σ H1 Q r1 k)
  | false => exact ite_ff (k H1 .refl r1)
theorem dw_or (ha : DT X G W a tfa) (hb : DW X G W (.BoolOp .Or (b :: rest) pos) tfb) : DW X G W (.BoolOp .Or (a :: b :: rest) pos) (tOrD tfa tfb) := by
  obtain ⟨t, p, l⟩ := ha
  obtain ⟨t2, p2, l2⟩ := hb
  refine ⟨_, fun i => pw_or (p i) (p2 i), fun Fg O ρ σ H Q r0 h => l Fg O ρ σ H _ r0 ((GP.bind h).imp fun b ρ1 H1 e1 r1 k => ?_)⟩
  cases b with
  | true => exact ite_tt (k H1 .refl r1)
  | false => exact ite_ff (l2 Fg O ρ1 σ H1 Q r1 k)
theorem DW.dt (h : DW X G W a tfa) : DT X G W a tfa := by
  obtain ⟨t, p, l⟩ := h
  exact ⟨t, fun i => (p i).pt, l⟩
/-- as values: all but the last are bools -/
def eAndD (f g : RS → Rs PyData) : RS → Rs PyData := fun ρ => (f ρ).bind fun d ρ1 => match d with
  | .bool true => g ρ1
  | .bool false => .ok (.bool false) ρ1
  | _ => .no
def eOrD (f g : RS → Rs PyData) : RS → Rs PyData := fun ρ => (f ρ).bind fun d ρ1 => match d with
  | .bool true => .ok (.bool true) ρ1
  | .bool false => g ρ1
  | _ => .no
theorem de_one {op : BoolOp} (ha : DE X G W a fa) : DE X G W (.BoolOp op [a] pos) fa := by
  obtain ⟨t, p, l⟩ := ha
  exact ⟨_, fun i => pe_one (p i), l⟩
theorem de_and (ha : DE X G W a fa) (hb : DE X G W (.BoolOp .And (b :: rest) pos) fb) : DE X G W (.BoolOp .And (a :: b :: rest) pos) (eAndD fa fb) := by
  obtain ⟨t, p, l⟩ := ha
  obtain ⟨t2, p2, l2⟩ := hb
  refine ⟨_, fun i => pe_and (p i) (p2 i), fun Fg O ρ σ H Q r0 h => l Fg O ρ σ H _ r0 ((GP.bind h).imp fun d ρ1 H1 e1 r1 k v rv => ?_)⟩
  cases d with
  | bool b =>
    refine ⟨b, rep_bl rv, ?_⟩
    cases b with
    | true => exact ite_tt (l2 Fg O ρ1 σ H1 Q r1 k)
    | false => exact ite_ff (k H1 .refl r1 _ (.bl false))
  | _ => exact k.elim
theorem de_or (ha : DE X G W a fa) (hb : DE X G W (.BoolOp .Or (b :: rest) pos) fb) : DE X G W (.BoolOp .Or (a :: b :: rest) pos) (eOrD fa fb) := by
  obtain ⟨t, p, l⟩ := ha
  obtain ⟨t2, p2, l2⟩ := hb
  refine ⟨_, fun i => pe_or (p i) (p2 i), fun Fg O ρ σ H Q r0 h => l Fg O ρ σ H _ r0 ((GP.bind h).imp fun d ρ1 H1 e1 r1 k v rv => ?_)⟩
  cases d with
  | bool b =>
    refine ⟨b, rep_bl rv, ?_⟩
    cases b with
    | true => exact ite_tt (k H1 .refl r1 _ (.bl true))
    | false => exact ite_ff (l2 Fg O ρ1 σ H1 Q r1 k)
  | _ => exact k.elim
def eNotD (f : RS → Rs PyData) : RS → Rs PyData := fun ρ => (f ρ).bind fun d ρ1 => match d with
  | .bool b => .ok (.bool (!b)) ρ1
  | _ => .no
theorem de_not (ha : DE X G W a fa) : DE X G W (.UnaryOp .Not a pos) (eNotD fa) := by
  obtain ⟨t, p, l⟩ := ha
  refine ⟨_, fun i => pe_not (p i), fun Fg O ρ σ H Q r0 h => l Fg O ρ σ H _ r0 ((GP.bind h).imp fun d ρ1 H1 e1 r1 k v rv => ?_)⟩
  cases d with
  | bool b => exact ⟨b, rep_bl rv, k H1 .refl r1 _ (.bl _)⟩
  | _ => exact k.elim
def eIfD (c : RS → Rs Bool) (f g : RS → Rs PyData) : RS → Rs PyData := fun ρ => (c ρ).bind fun b ρ1 => if b then f ρ1 else g ρ1
theorem de_if (hc : DT X G W c tfa) (ha : DE X G W a fa) (hb : DE X G W b fb) : DE X G W (.IfExp c a b pos) (eIfD tfa fa fb) := by
  obtain ⟨t, p, l⟩ := hc
  obtain ⟨t1, p1, l1⟩ := ha
  obtain ⟨t2, p2, l2⟩ := hb
  refine ⟨_, fun i => pe_ifExp (p i) (p1 i) (p2 i), fun Fg O ρ σ H Q r0 h => l Fg O ρ σ H _ r0 ((GP.bind h).imp fun b ρ1 H1 e1 r1 k => ?_)⟩
  cases b with
  | true => exact ite_tt (l1 Fg O ρ1 σ H1 Q r1 k)
  | false => exact ite_ff (l2 Fg O ρ1 σ H1 Q r1 k)

/-! ### argument lists, displays, built-ins by their values -/
variable {e : Expr} {es : List Expr} {fe : RS → Rs PyData} {fs : RS → Rs (List PyData)}
def aNilD : RS → Rs (List PyData) := fun ρ => .ok [] ρ
def aConsD (f : RS → Rs PyData) (g : RS → Rs (List PyData)) : RS → Rs (List PyData) := fun ρ => (f ρ).bind fun d ρ1 => (g ρ1).bind fun ds ρ2 => .ok (d :: ds) ρ2
theorem da_nil : DA X G W [] aNilD := ⟨_, fun _ => pa_nil, fun Fg O ρ σ H Q r h => h H .refl r _ .nil⟩
theorem da_cons (ha : DE X G W e fe) (hr : DA X G W es fs) (hs : ∀ i, starEach (e :: es) (X i).env = (false, eval e (X i).env) :: starEach es (X i).env := by intro _; rfl) : DA X G W (e :: es) (aConsD fe fs) := by
  obtain ⟨t, p, l⟩ := ha
  obtain ⟨t2, p2, l2⟩ := hr
  refine ⟨_, fun i => pa_cons (p i) (p2 i) (hs i), fun Fg O ρ σ H Q r0 h => l Fg O ρ σ H _ r0 ((GP.bind h).imp fun d ρ1 H1 e1 r1 k v rv => ?_)⟩
  refine l2 Fg O ρ1 σ H1 _ r1 ((GP.bind k).imp fun ds ρ2 H2 e2 r2 k2 vs rvs => ?_)
  exact k2 H2 .refl r2 _ (.cons (rv.ext (fun a m => .inl (List.mem_append_left _ m)) e2 fun _ m => .inl m) rvs)
theorem fresh_not {A : List Addr} {H : Hp} {p : Addr} (ha : ∀ a ∈ A, ∃ xs, H a = some (.lst xs)) (h : H p = none) : p ∉ A := fun m => by
  obtain ⟨xs, e⟩ := ha p m
  rw [h] at e; cases e
theorem rep_new {K : PySem.W.Frag} {A : List Addr} {H : Hp} {p : Addr} {u : HO} {vs : List V} {ds : List PyData} (r : RepAll K A H vs ds) (h : H p = none) : RepAll K A (upd H p u) vs ds :=
  r.ext (O := []) (by simp) (ext_new h) fun _ m => .inl m
def eTupD (f : RS → Rs (List PyData)) : RS → Rs PyData := fun ρ => (f ρ).bind fun ds ρ1 => if ds.length ≤ sizeLine then .ok (.tuple ds) ρ1 else .no
def eLstD (f : RS → Rs (List PyData)) : RS → Rs PyData := fun ρ => (f ρ).bind fun ds ρ1 => if ds.length ≤ sizeLine then .ok (.list ds) ρ1 else .no
theorem de_tup {x1} (h : DA X G W es fs) : DE X G W (.Tuple es x1 pos) (eTupD fs) := by
  obtain ⟨t, p, l⟩ := h
  refine ⟨_, fun i => pe_tup (p i), fun Fg O ρ σ H Q r0 h => l Fg O ρ σ H _ r0 ((GP.bind h).imp fun ds ρ1 H1 e1 r1 k vs rv => ?_)⟩
  by_cases hl : ds.length ≤ sizeLine
  · rw [if_pos hl] at k
    exact ⟨by rw [rv.length]; exact hl, fun p hp => k _ (ext_new hp) (r1.ext0 (ext_new hp)) _ (.tup (.inl (.inl upd_same)) (rep_new rv hp))⟩
  · rw [if_neg hl] at k
    exact k.elim
theorem de_lst (h : DA X G W es fs) : DE X G W (.List es pos) (eLstD fs) := by
  obtain ⟨t, p, l⟩ := h
  refine ⟨_, fun i => pe_lst (p i), fun Fg O ρ σ H Q r0 h => l Fg O ρ σ H _ r0 ((GP.bind h).imp fun ds ρ1 H1 e1 r1 k vs rv => ?_)⟩
  by_cases hl : ds.length ≤ sizeLine
  · rw [if_pos hl] at k
    exact ⟨by rw [rv.length]; exact hl, fun p hp => k _ (ext_new hp) (r1.ext0 (ext_new hp)) _ (.lst upd_same (fresh_not r1.all hp) (rep_new rv hp))⟩
  · rw [if_neg hl] at k
    exact k.elim
/-- a call by its values -/
def CallD (G : Ctx) (r : List V → Hp → VK → Prop) (g : List PyData → Option PyData) : Prop := ∀ (A : List Addr) (H : Hp) (xs : List V) (ds : List PyData) (d : PyData) (Q : VK), (∀ a ∈ A, ∃ xs, H a = some (.lst xs)) → RepAll G.K A H xs ds → g ds = some d →
  (∀ v H', Same H H' → Rep G.K A H' v d → Q v H') → r xs H Q
def eCall (g : List PyData → Option PyData) (f : RS → Rs (List PyData)) : RS → Rs PyData := fun ρ => (f ρ).bind fun ds ρ1 => Rs.of (g ds) ρ1
variable {g1 : List PyData → Option PyData} {x : Str} {p : Pos}
theorem callB_law {t : TA} {r : List V → Hp → VK → Prop} (od : CallD G r g1) (l : ∀ Fg O ρ σ H Q, R G Fg O ρ σ H → GP G W Fg O σ (fun ds _ H' => ∀ vs, RepAll G.K (adr O ++ Fg) H' vs ds → Q vs H') H (fs ρ) → t σ H Q)
    {Fg : List Addr} {O : Own} {ρ : RS} {σ : L2.St} {H : Hp} {Q : VK} (r0 : R G Fg O ρ σ H) (h : GP G W Fg O σ (fun d _ H' => ∀ v, Rep G.K (adr O ++ Fg) H' v d → Q v H') H (eCall g1 fs ρ)) : tCB r t σ H Q := by
  refine l Fg O ρ σ H _ r0 ((GP.bind h).imp fun ds ρ1 H1 e1 r1 k1 vs rv => ?_)
  obtain ⟨d, e, k⟩ := k1.of
  exact od _ H1 vs ds d Q r1.all rv e fun z H3 s rz => k H3 (.of_same s) (r1.ext0 (.of_same s)) z rz
theorem de_callB {id : String} {r : List V → Hp → VK → Prop} (hc : ∀ i, CallR (X i) (.builtin id) r) (od : CallD G r g1) (hg : ∀ i, Gl (X i) x) (hm : ∀ i, (X i).mg x = none) (hv : bootBuiltins x = some (.builtin id)) (ha : DA X G W (e :: es) fs)
    (hn : x ≠ "__name__" := by decide) (hdb : (x == ("__debug__" : Str)) = false := by decide) (he : ∀ i, starEach (e :: es) (X i).env = (false, eval e (X i).env) :: starEach es (X i).env := by intro _; rfl) (hpl : ∀ i, (backTo pos (starEach es (X i).env)).any (·.1) = false := by intro _; rfl) :
    DE X G W (.Call (.Name x p) (e :: es) [] pos) (eCall g1 fs) := by
  obtain ⟨t, pa, l⟩ := ha
  exact ⟨_, fun i => pe_callB (hc i) (hg i) (hm i) hv (pa i) hn hdb (he i) (hpl i), fun Fg O ρ σ H Q r0 h => callB_law od l r0 h⟩
theorem de_callTy {T : String} {r : List V → Hp → VK → Prop} (hc : ∀ i, CallR (X i) (.type T) r) (od : CallD G r g1) (hg : ∀ i, Gl (X i) x) (hm : ∀ i, (X i).mg x = none) (hv : bootBuiltins x = some (.type T)) (ha : DA X G W (e :: es) fs)
    (hn : x ≠ "__name__" := by decide) (hdb : (x == ("__debug__" : Str)) = false := by decide) (he : ∀ i, starEach (e :: es) (X i).env = (false, eval e (X i).env) :: starEach es (X i).env := by intro _; rfl) (hpl : ∀ i, (backTo pos (starEach es (X i).env)).any (·.1) = false := by intro _; rfl) :
    DE X G W (.Call (.Name x p) (e :: es) [] pos) (eCall g1 fs) := by
  obtain ⟨t, pa, l⟩ := ha
  exact ⟨_, fun i => pe_callTy (hc i) (hg i) (hm i) hv (pa i) hn hdb (he i) (hpl i), fun Fg O ρ σ H Q r0 h => callB_law od l r0 h⟩
/-- a subscript -/
theorem de_ix {r : R2} (ho : ∀ i, IxR (X i) r) (od : OpD G r g) (ha : DE X G W a fa) (hb : DE X G W b fb) (hs : PlainIx b := by intro _ _; rfl) : DE X G W (.Subscript a b pos) (eBin g fa fb) := by
  obtain ⟨ta, pa, la⟩ := ha
  obtain ⟨tb, pb, lb⟩ := hb
  exact ⟨_, fun i => pe_ix (ho i) (pa i) (pb i) hs, fun Fg O ρ σ H Q r0 h => bin_law la lb od r0 h⟩
end
end DL

-- text DL3
set_option Elab.async false
set_option linter.all false
set_option maxRecDepth 100000
set_option maxHeartbeats 2000000
namespace DL
open PySem PySem.Spec PyProof.Rows L2 GxR

theorem wipe_set_in {σ : L2.St} {i : Nat} {x : Option V} : ∀ {ws : List Nat}, i ∈ ws → wipe (σ.set i x) ws = wipe σ ws
  | [], h => by simp at h
  | v :: ws, h => by
    show (wipe (σ.set i x) ws).set v none = (wipe σ ws).set v none
    by_cases hm : i ∈ ws
    · rw [wipe_set_in hm]
    · have hv : i = v := by
        rcases List.mem_cons.mp h with z | z
        · exact z
        · exact (hm z).elim
      subst hv
      rw [wipe_set_out hm, List.set_set]
where wipe_set_out {σ : L2.St} {i : Nat} {x : Option V} : ∀ {ws : List Nat}, i ∉ ws → wipe (σ.set i x) ws = (wipe σ ws).set i x
  | [], _ => rfl
  | v :: ws, h => by
    show (wipe (σ.set i x) ws).set v none = ((wipe σ ws).set v none).set i x
    rw [wipe_set_out (fun m => h (List.mem_cons_of_mem _ m)), List.set_comm]
    intro z
    subst z
    exact h List.mem_cons_self

/-- the slots vs forgotten -/
def rwipe (ρ : RS) : List Nat → RS
  | [] => ρ
  | v :: vs => (rwipe ρ vs).set v Sl.n
def noOwn (ρ : RS) (i : Nat) : Bool := match ρ[i]? with
  | some (.o _) => false
  | _ => true
theorem noOwn_ok {ρ : RS} {i : Nat} (h : noOwn ρ i = true) : NoOwn ρ i := fun xs e => by
  unfold noOwn at h
  rw [e] at h
  cases h
theorem rwipe_own {ρ : RS} {i : Nat} {xs : List PyData} : ∀ {vs : List Nat}, (rwipe ρ vs)[i]? = some (Sl.o xs) → ρ[i]? = some (Sl.o xs)
  | [], h => h
  | v :: vs, h => by
    rcases get_set_d h with ⟨_, e⟩ | ⟨_, e⟩
    · cases e
    · exact rwipe_own e
section
variable {G : Ctx} {W : WX} {Fg : List Addr} {O : Own} {ρ : RS} {σ : L2.St} {H : Hp}
theorem R.wipe (r : R G Fg O ρ σ H) : ∀ (vs : List Nat), (∀ i ∈ vs, NoOwn ρ i) → R G Fg O (rwipe ρ vs) (L2.wipe σ vs) H
  | [], _ => r
  | v :: vs, h => (R.wipe r vs fun i m => h i (List.mem_cons_of_mem _ m)).unset fun xs e => h v List.mem_cons_self xs (rwipe_own e)
/-- back from a block: its own slots are not known -/
theorem R.unwipe {vs : List Nat} {σ' : L2.St} (r : R G Fg O ρ σ' H) (e : L2.wipe σ' vs = L2.wipe σ vs) (hl : σ'.length = σ.length) (h : ∀ i ∈ vs, NoOwn ρ i) : R G Fg O (rwipe ρ vs) σ H := by
  have r2 := r.wipe vs h
  rw [e] at r2
  refine ⟨by rw [← r2.len, wipe_length], fun i x q => ?_, fun i xs q => ?_, r2.key, r2.inj, r2.fg, r2.occ, r2.tabs, r2.all, fun i p q => (wipe_some (r2.raw i p q)).1⟩
  · obtain ⟨v, h1, h2⟩ := r2.val i x q
    exact ⟨v, (wipe_some h1).1, h2⟩
  · obtain ⟨a, ws, h0, h1, h2⟩ := r2.own i xs q
    exact ⟨a, ws, h0, (wipe_some h1).1, h2⟩
end

/-! ### targets -/
section
variable {ι : Type} {X : ι → Cx} {G : Ctx} {W : WX} {k : Nat}
def setD (i : Nat) (d : PyData) (ρ : RS) : Option RS := if noOwn ρ i then some (ρ.set i (Sl.d d)) else none
theorem dg_name {j : Nat} {x : Str} {pos : Pos} (F : Fam X G W k) (hi : ∀ i, (X i).N[j]? = some x) (hx : ∀ i, Loc (X i).env.scope x) (hf : ∀ i, (X i).fn x = true ∨ (X i).env.scope.names.lookup x = some .local) : DG X G (.Name x pos) [j] (setD j) := by
  refine ⟨_, fun i => pg_name (F.nd i) (hi i) (hx i) (hf i), fun Fg O ρ σ H v d ρ' Q r rv e h => ?_⟩
  unfold setD at e
  by_cases hn : noOwn ρ j = true
  · rw [if_pos hn] at e
    cases e
    exact h _ (r.set (noOwn_ok hn) rv) fun ws m => wipe_set_in (m j (List.mem_singleton.mpr rfl))
  · rw [if_neg hn] at e; cases e
def setNil (ds : List PyData) (ρ : RS) : Option RS := match ds with
  | [] => some ρ
  | _ => none
def setCons (g : PyData → RS → Option RS) (gs : List PyData → RS → Option RS) (ds : List PyData) (ρ : RS) : Option RS := match ds with
  | d :: ds => (g d ρ).bind (gs ds)
  | [] => none
theorem dgs_nil : DGs X G [] [] setNil := by
  refine ⟨_, fun _ => pgs_nil, fun Fg O ρ σ H us ds ρ' Q r ru e h => ?_⟩
  cases ru with
  | nil =>
    cases e
    exact ⟨rfl, h _ r fun ws _ => rfl⟩
  | cons _ _ => cases e
theorem dgs_cons {e : Expr} {es : List Expr} {vs ws : List Nat} {g : PyData → RS → Option RS} {gs : List PyData → RS → Option RS} (h1 : DG X G e vs g) (h2 : DGs X G es ws gs)
    (hs : ∀ i, (assignEach (e :: es) (X i).env).map (·.2) = assign e (X i).env :: (assignEach es (X i).env).map (·.2) := by intro _; rfl) : DGs X G (e :: es) (vs ++ ws) (setCons g gs) := by
  obtain ⟨t1, p1, l1⟩ := h1
  obtain ⟨t2, p2, l2⟩ := h2
  refine ⟨_, fun i => pgs_cons (p1 i) (p2 i) (hs i), fun Fg O ρ σ H us ds ρ' Q r ru e h => ?_⟩
  cases ru with
  | nil => cases e
  | cons rv ru =>
    obtain ⟨ρ1, e1, e2⟩ := Option.bind_eq_some_iff.mp e
    refine ⟨_, _, rfl, l1 Fg O ρ σ H _ _ ρ1 _ r rv e1 fun σ1 r1 w1 => l2 Fg O ρ1 σ1 H _ _ ρ' _ r1 ru e2 fun σ2 r2 w2 => h σ2 r2 fun us m => ?_⟩
    rw [w2 us fun j hj => m j (List.mem_append_right _ hj), w1 us fun j hj => m j (List.mem_append_left _ hj)]
def setTup (n : Nat) (gs : List PyData → RS → Option RS) (d : PyData) (ρ : RS) : Option RS := match d with
  | .tuple ds => if ds.length = n then gs ds ρ else none
  | _ => none
theorem dg_tup {es : List Expr} {kk : Nat} {pos : Pos} {vs : List Nat} {gs : List PyData → RS → Option RS} {n : Nat} (F : Fam X G W k) (h : DGs X G es vs gs)
    (hn : ∀ i, (assignEach es (X i).env).length = n := by intro _; rfl) (hst : ∀ i, (assignEach es (X i).env).findIdx? (·.1) = none := by intro _; rfl) : DG X G (.Tuple es kk pos) vs (setTup n gs) := by
  obtain ⟨t, p, l⟩ := h
  refine ⟨gTup G.K n t, fun i => ?_, fun Fg O ρ σ H v d ρ' Q r rv e h => ?_⟩
  · rw [← F.K i]
    exact pg_tup (F.calm i) (p i) (hn i) (hst i)
  · cases rv with
    | tup q rs =>
      unfold setTup at e
      simp only at e
      split at e
      · rename_i hl
        exact ⟨_, _, rfl, q, by rw [rs.length]; exact hl, l Fg O ρ σ H _ _ ρ' Q r rs e h⟩
      · cases e
    | _ => cases e

/-! ### statements -/
def sNil : RS → Out := fun ρ => .nx ρ
def sThen (f g : RS → Out) : RS → Out := fun ρ => match f ρ with
  | .nx ρ1 => g ρ1
  | o => o
variable {st : Stmt} {rest : List Stmt} {f g : RS → Out} {e : Expr} {fe : RS → Rs PyData} {pos : Pos}
theorem dss_nil : DSs X G W [] sNil := ⟨_, fun _ => pss_nil, fun Fg O ρ σ H D r h => h O σ H .refl r⟩
theorem then_law {t u : TS} (l1 : ∀ Fg O ρ σ H D, R G Fg O ρ σ H → SPo G W Fg O H D (f ρ) → t D σ H) (l2 : ∀ Fg O ρ σ H D, R G Fg O ρ σ H → SPo G W Fg O H D (g ρ) → u D σ H)
    {Fg : List Addr} {O : Own} {ρ : RS} {σ : L2.St} {H : Hp} {D : Ends} (r : R G Fg O ρ σ H) (h : SPo G W Fg O H D (sThen f g ρ)) : tSeq t u D σ H := by
  refine l1 Fg O ρ σ H _ r ?_
  unfold sThen at h
  cases q : f ρ with
  | nx ρ1 =>
    rw [q] at h
    exact fun O' σ' H' e' r' => l2 Fg O' ρ1 σ' H' D r' (h.shift e')
  | rt d ρ1 => rw [q] at h; exact h
  | rto d ρ1 => rw [q] at h; exact h
  | bk ρ1 => rw [q] at h; exact h
  | ct ρ1 => rw [q] at h; exact h
  | ex c fs ρ1 => rw [q] at h; exact h
  | no => rw [q] at h; exact h
theorem dss_cons (h1 : DS X G W st f) (h2 : DSs X G W rest g) : DSs X G W (st :: rest) (sThen f g) := by
  obtain ⟨t1, p1, l1⟩ := h1
  obtain ⟨t2, p2, l2⟩ := h2
  exact ⟨_, fun i => pss_cons (p1 i) (p2 i), fun Fg O ρ σ H D r h => then_law l1 l2 r h⟩
theorem dss_one (h1 : DS X G W st f) : DSs X G W [st] f := by
  obtain ⟨t1, p1, l1⟩ := h1
  exact ⟨_, fun i => pss_one (p1 i), l1⟩
def sNo : RS → Out := fun _ => .no
theorem ds_never : DS X G W st sNo := ⟨_, fun _ => ps_never, fun Fg O ρ σ H D r h => h⟩
theorem dss_never {sts : List Stmt} : DSs X G W sts sNo := ⟨_, fun _ => pss_never, fun Fg O ρ σ H D r h => h⟩
theorem ds_pass : DS X G W (.Pass pos) sNil := ⟨_, fun _ => ps_pass, fun Fg O ρ σ H D r h => h O σ H .refl r⟩
def sBk : RS → Out := fun ρ => .bk ρ
def sCt : RS → Out := fun ρ => .ct ρ
theorem ds_break : DS X G W (.Break pos) sBk := ⟨_, fun _ => ps_break, fun Fg O ρ σ H D r h => h O σ H .refl r⟩
theorem ds_continue : DS X G W (.Continue pos) sCt := ⟨_, fun _ => ps_continue, fun Fg O ρ σ H D r h => h O σ H .refl r⟩
def sRet (fe : RS → Rs PyData) : RS → Out := fun ρ => (fe ρ).out fun d ρ1 => .rt d ρ1
theorem ds_ret (he : DE X G W e fe) : DS X G W (.Return (some e) pos) (sRet fe) := by
  obtain ⟨t, p, l⟩ := he
  exact ⟨_, fun i => ps_ret (p i), fun Fg O ρ σ H D r h => l Fg O ρ σ H _ r ((SPo.out h).imp fun d ρ1 H1 e1 r1 k v rv => k O σ v H1 .refl r1 rv)⟩
def sRetN : RS → Out := fun ρ => .rt .none ρ
theorem ds_retN : DS X G W (.Return none pos) sRetN := ⟨_, fun _ => ps_retN, fun Fg O ρ σ H D r h => h O σ _ H .refl r .non⟩
/-- return of a list that the def has made its own -/
def sRetO (i : Nat) : RS → Out := fun ρ => match ρ[i]? with
  | some (.o xs) => .rto (.list xs) ρ
  | some (.d x) => .rt x ρ
  | _ => .no
theorem ds_retO (j : Nat) {x : Str} {p : Pos} (hN : ∀ i, (X i).N[j]? = some x) (hv : ∀ i, Vis (X i).env.scope x) (hd : (x == ("__debug__" : Str)) = false := by decide) (hcd : (x == ("__classdict__" : Str)) = false := by decide) : DS X G W (.Return (some (.Name x p)) pos) (sRetO j) := by
  refine ⟨_, fun i => ps_ret (pe_var (hN i) (hv i) hd hcd), fun Fg O ρ σ H D r h => ?_⟩
  unfold sRetO at h
  split at h
  · rename_i xs e
    obtain ⟨a, vs, h0, h1, h2, h3⟩ := r.own j xs e
    exact ⟨_, h1, h O σ _ H .refl r (.lst h2 (r.fg _ h0) (h3.fewer fun b m => List.mem_append_right _ m))⟩
  · rename_i d e
    obtain ⟨v, h1, h2⟩ := r.val j d e
    exact ⟨v, h1, h O σ v H .refl r h2⟩
  · exact h.elim
def sExpr (fe : RS → Rs PyData) : RS → Out := fun ρ => (fe ρ).out fun _ ρ1 => .nx ρ1
theorem ds_expr (he : DE X G W e fe) (hs : ∀ i, swapsWith e none pos.line (X i).env = pure false := by intro _; rfl) : DS X G W (.Expr e pos) (sExpr fe) := by
  obtain ⟨t, p, l⟩ := he
  refine ⟨_, fun i => ps_expr (p i) (hs i), fun Fg O ρ σ H D r h => l Fg O ρ σ H _ r ((SPo.out h).imp fun d ρ1 H1 e1 r1 k v rv => k O σ H1 .refl r1)⟩
def sOpt (o : Option RS) : Out := match o with
  | some ρ => .nx ρ
  | none => .no
def sAsg (fe : RS → Rs PyData) (g : PyData → RS → Option RS) : RS → Out := fun ρ => (fe ρ).out fun d ρ1 => sOpt (g d ρ1)
theorem ds_asg {tg : Expr} {vs : List Nat} {gt : PyData → RS → Option RS} (he : DE X G W e fe) (hg : DG X G tg vs gt) (hs : ∀ i, swapsWithSole [tg] e pos.line (X i).env = pure false := by intro _; rfl) (hw : ∀ i, swappedStores [tg] e (X i).env = pure none := by intro _; rfl)
    (h1 : ∀ i, (assignEach [tg] (X i).env).map (·.2) = [assign tg (X i).env] := by intro _; rfl) : DS X G W (.Assign [tg] e pos) (sAsg fe gt) := by
  obtain ⟨t, p, l⟩ := he
  obtain ⟨t2, p2, l2⟩ := hg
  refine ⟨_, fun i => ps_asg (p i) (p2 i) (hs i) (hw i) (h1 i), fun Fg O ρ σ H D r h => l Fg O ρ σ H _ r ((SPo.out h).imp fun d ρ1 H1 e1 r1 k v rv => ?_)⟩
  cases q : gt d ρ1 with
  | none => rw [q] at k; exact k.elim
  | some ρ2 =>
    rw [q] at k
    exact l2 Fg O ρ1 σ H1 v d ρ2 _ r1 rv q fun σ2 r2 _ => k O σ2 H1 .refl r2
theorem ds_set {j : Nat} {x : Str} {pos' : Pos} (F : Fam X G W k) (hi : ∀ i, (X i).N[j]? = some x) (hx : ∀ i, Loc (X i).env.scope x) (hf : ∀ i, (X i).fn x = true ∨ (X i).env.scope.names.lookup x = some .local) (he : DE X G W e fe)
    (hs : ∀ i, swapsWith e (some (.Name x pos')) pos.line (X i).env = pure false := by intro _; rfl) : DS X G W (.Assign [.Name x pos'] e pos) (sAsg fe (setD j)) := by
  obtain ⟨t, p, l⟩ := he
  refine ⟨_, fun i => ps_set (F.nd i) (hi i) (hx i) (p i) (hs i) (hf i), fun Fg O ρ σ H D r h => l Fg O ρ σ H _ r ((SPo.out h).imp fun d ρ1 H1 e1 r1 k v rv => ?_)⟩
  unfold setD at k
  by_cases hn : noOwn ρ1 j = true
  · rw [if_pos hn] at k
    exact k O _ H1 .refl (r1.set (noOwn_ok hn) rv)
  · rw [if_neg hn] at k; exact k.elim
/-- a, b = x, y -/
def sPar (i j : Nat) (fs : RS → Rs (List PyData)) : RS → Out := fun ρ => (fs ρ).out fun ds ρ1 => match ds with
  | [x, y] => sOpt ((setD i x ρ1).bind (setD j y))
  | _ => .no
theorem ds_par {j j2 : Nat} {x y : Str} {a b : Expr} {fs : RS → Rs (List PyData)} {px py pt : Pos} {kt k2 pt2} (F : Fam X G W k) (hi : ∀ i, (X i).N[j]? = some x) (hj : ∀ i, (X i).N[j2]? = some y) (hij : j ≠ j2)
    (hx : ∀ i, (X i).env.scope.names.lookup x = some .local) (hy : ∀ i, (X i).env.scope.names.lookup y = some .local) (ha : DA X G W [a, b] fs)
    (hw : ∀ i, swappedStores [.Tuple [.Name x px, .Name y py] kt pt] (.Tuple [a, b] k2 pt2) (X i).env = pure (some [x, y]) := by intro _; rfl) (hs : ∀ i, swapsWithSole [.Tuple [.Name x px, .Name y py] kt pt] (.Tuple [a, b] k2 pt2) pos.line (X i).env = pure false := by intro _; rfl) :
    DS X G W (.Assign [.Tuple [.Name x px, .Name y py] kt pt] (.Tuple [a, b] k2 pt2) pos) (sPar j j2 fs) := by
  obtain ⟨t, p, l⟩ := ha
  refine ⟨_, fun i => ps_par (F.calm i) (F.nd i) (hi i) (hj i) hij (hx i) (hy i) (p i) (hw i), fun Fg O ρ σ H D r h => l Fg O ρ σ H _ r ((SPo.out h).imp fun ds ρ1 H1 e1 r1 k vs rv => ?_)⟩
  match ds, vs, rv with
  | [], _, _ => exact k.elim
  | [_], _, _ => exact k.elim
  | _ :: _ :: _ :: _, _, _ => exact k.elim
  | [d1, d2], [v1, v2], .cons q1 (.cons q2 .nil) =>
    refine ⟨v1, v2, rfl, ?_⟩
    have k : SPo G W Fg O H1 D (sOpt ((setD j d1 ρ1).bind (setD j2 d2))) := k
    cases z : (setD j d1 ρ1).bind (setD j2 d2) with
    | none => rw [z] at k; exact k.elim
    | some ρ2 =>
      rw [z] at k
      obtain ⟨ρa, ea, eb⟩ := Option.bind_eq_some_iff.mp z
      unfold setD at ea eb
      split at ea
      · cases ea
        split at eb
        · cases eb
          rename_i n1 n2
          exact k O _ H1 .refl ((r1.set (noOwn_ok n1) q1).set (noOwn_ok n2) q2)
        · cases eb
      · cases ea
def sIf (c : RS → Rs Bool) (f g : RS → Out) : RS → Out := fun ρ => (c ρ).out fun b ρ1 => if b then f ρ1 else g ρ1
theorem ds_if {c : Expr} {a b : List Stmt} {fc : RS → Rs Bool} (hc : DT X G W c fc) (ha : DSs X G W a f) (hb : DSs X G W b g) : DS X G W (.If c a b pos) (sIf fc f g) := by
  obtain ⟨t, p, l⟩ := hc
  obtain ⟨t1, p1, l1⟩ := ha
  obtain ⟨t2, p2, l2⟩ := hb
  refine ⟨_, fun i => ps_if (p i) (p1 i) (p2 i), fun Fg O ρ σ H D r h => l Fg O ρ σ H _ r ((SPo.out h).imp fun b ρ1 H1 e1 r1 k => ?_)⟩
  cases b with
  | true => exact ite_tt (l1 Fg O ρ1 σ H1 D r1 k)
  | false => exact ite_ff (l2 Fg O ρ1 σ H1 D r1 k)
/-- name op= e -/
def sAug (j : Nat) (g : PyData → PyData → Option PyData) (fe : RS → Rs PyData) : RS → Out := fun ρ => (eVar j ρ).out fun x _ => (fe ρ).out fun y ρ1 => (Rs.of (g x y) ρ1).out fun d ρ2 => sOpt (setD j d ρ2)
theorem ds_aug {j : Nat} {x : Str} {op : Operator} {r : R2} {gg : PyData → PyData → Option PyData} {pos' : Pos} (F : Fam X G W k) (hi : ∀ i, (X i).N[j]? = some x) (hx : ∀ i, Loc (X i).env.scope x) (hf : ∀ i, (X i).fn x = true ∨ (X i).env.scope.names.lookup x = some .local)
    (ho : ∀ i, OpR (X i) (inplaceOp op) r) (od : OpD G r gg) (he : DE X G W e fe) : DS X G W (.AugAssign (.Name x pos') op e pos) (sAug j gg fe) := by
  obtain ⟨t, p, l⟩ := he
  refine ⟨tAug j t r, fun i => ps_aug (F.nd i) (hi i) (hx i) (p i) (fun pins s σ H x y v u Q I rx ry h => ho i pins s σ H x y v u Q I rx ry h) (hf i), fun Fg O ρ σ H D r0 h => ?_⟩
  unfold sAug eVar at h
  cases q : ρ[j]? with
  | none => rw [q] at h; exact h.elim
  | some s =>
    cases s with
    | n => rw [q] at h; exact h.elim
    | o _ => rw [q] at h; exact h.elim
    | a _ => rw [q] at h; exact h.elim
    | d dx =>
      rw [q] at h
      obtain ⟨v, hv, rv⟩ := r0.val j dx q
      refine ⟨v, hv, l Fg O ρ σ H _ r0 ((SPo.out (r := fe ρ) h).imp fun dy ρ1 H1 e1 r1 k1 w rw' => ?_)⟩
      cases z : gg dx dy with
      | none => rw [z] at k1; exact k1.elim
      | some d =>
        rw [z] at k1
        have k2 : SPo G W Fg O H1 D (sOpt (setD j d ρ1)) := k1
        refine od _ H1 v w dx dy d _ r1.all (rv.ext (fun a m => .inl (List.mem_append_left _ m)) e1 fun _ m => .inl m) rw' z fun u H2 s2 ru => ?_
        have r2 : R G Fg O ρ1 σ H2 := r1.ext0 (.of_same s2)
        unfold setD at k2
        by_cases hn : noOwn ρ1 j = true
        · rw [if_pos hn] at k2
          exact k2 O _ H2 (Ext.of_same s2).evo (r2.set (noOwn_ok hn) ru)
        · rw [if_neg hn] at k2; exact k2.elim
end
end DL

-- text DL4
set_option Elab.async false
set_option linter.all false
set_option maxRecDepth 100000
set_option maxHeartbeats 2000000
namespace DL
open PySem PySem.Spec PyProof.Rows L2 GxR

section
variable {ι : Type} {X : ι → Cx} {G : Ctx} {W : WX} {k : Nat} {pos : Pos}
/-! ### loops -/
def brkTo (o : Out) (k : RS → Out) : Out := match o with
  | .nx ρ => k ρ
  | .ct ρ => k ρ
  | .bk ρ => .nx ρ
  | o => o
def whN (c : RS → Rs Bool) (b : RS → Out) : Nat → RS → Out
  | 0, _ => .no
  | n + 1, ρ => (c ρ).out fun q ρ1 => if q then brkTo (b ρ1) (whN c b n) else .nx ρ1
/-- behind a turn -/
theorem SPo.turn {Fg : List Addr} {O : Own} {H : Hp} {D : Ends} {o : Out} {kk : RS → Out} {N : L2.St → Hp → Prop} (h : SPo G W Fg O H D (brkTo o kk))
    (n : ∀ ρ' O' σ' H', Evo O H O' H' → R G Fg O' ρ' σ' H' → SPo G W Fg O' H' D (kk ρ') → N σ' H') : SPo G W Fg O H { D with nx := N, ct := N, bk := D.nx } o := by
  cases o with
  | nx ρ1 => exact fun O' σ' H' e r => n ρ1 O' σ' H' e r (SPo.shift (o := kk ρ1) h e)
  | ct ρ1 => exact fun O' σ' H' e r => n ρ1 O' σ' H' e r (SPo.shift (o := kk ρ1) h e)
  | bk ρ1 => exact h
  | rt d ρ1 => exact h
  | rto d ρ1 => exact h
  | ex c fs ρ1 => exact h
  | no => exact h
theorem ds_while (n : Nat) {c : Expr} {body : List Stmt} {fc : RS → Rs Bool} {fb : RS → Out} (hp : ∀ i, PassesOwn (model (X i).prog (X i).w) (X i).A (X i).env (X i).xe) (hc : DT X G W c fc) (hb : DSs X G W body fb) : DS X G W (.While c body [] pos) (whN fc fb n) := by
  obtain ⟨t, p, l⟩ := hc
  obtain ⟨t2, p2, l2⟩ := hb
  refine ⟨_, fun i => ps_while (hp i) (p i) (p2 i), fun Fg O ρ σ H D r h => ?_⟩
  refine ⟨fun m σ' H' => ∃ O' ρ', R G Fg O' ρ' σ' H' ∧ SPo G W Fg O' H' D (whN fc fb m ρ'), ⟨n, O, ρ, r, h⟩, fun m σ1 H1 hW => ?_⟩
  obtain ⟨O1, ρ1, r1, h1⟩ := hW
  cases m with
  | zero => exact h1.elim
  | succ m =>
    refine l Fg O1 ρ1 σ1 H1 _ r1 ((SPo.out (r := fc ρ1) h1).imp fun b ρ2 H2 e2 r2 k2 => ?_)
    cases b with
    | true =>
      refine ite_tt ⟨fun σ' H' => ∃ O' ρ', R G Fg O' ρ' σ' H' ∧ SPo G W Fg O' H' D (whN fc fb m ρ'), fun σ' H' w => ⟨m, Nat.lt_succ_self _, w⟩, ?_⟩
      exact l2 Fg O1 ρ2 σ1 H2 _ r2 (SPo.turn k2 fun ρ' O' σ' H' e r h => ⟨O', ρ', r, h⟩)
    | false => exact ite_ff (k2 O1 σ1 H2 .refl r2)
def forL (g : PyData → RS → Option RS) (b : RS → Out) : List PyData → RS → Out
  | [], ρ => .nx ρ
  | x :: xs, ρ => match g x ρ with
    | none => .no
    | some ρ1 => brkTo (b ρ1) (forL g b xs)
def sFor (fi : RS → Rs (List PyData)) (g : PyData → RS → Option RS) (b : RS → Out) : RS → Out := fun ρ => (fi ρ).out fun items ρ1 => forL g b items ρ1
theorem drop_get {α : Type} {l : List α} {i : Nat} (h : i < l.length) : l.drop i = l[i] :: l.drop (i + 1) := List.drop_eq_getElem_cons h
theorem ds_for {tg iter : Expr} {body : List Stmt} {fi : RS → Rs (List PyData)} {vs : List Nat} {g : PyData → RS → Option RS} {fb : RS → Out} (F : Fam X G W k) (hp : ∀ i, PassesOwn (model (X i).prog (X i).w) (X i).A (X i).env (X i).xe) (hi : DI X G W tg iter fi) (hg : DG X G tg vs g) (hb : DSs X G W body fb)
    (hs : ∀ i x, foldedSetIterable iter (X i).env x = pure x := by intro _ _; rfl) : DS X G W (.For tg iter body [] pos) (sFor fi g fb) := by
  obtain ⟨wi, pi, li⟩ := hi
  obtain ⟨gt, pg, lg⟩ := hg
  obtain ⟨t2, p2, l2⟩ := hb
  refine ⟨_, fun i => ps_for (hp i) (F.calm i) (pi i) (pg i) (p2 i) (hs i), fun Fg O ρ σ H D r h => ?_⟩
  refine li Fg O ρ σ H _ r ((SPo.out h).imp fun items ρ1 H1 e1 r1 k1 J wd => ?_)
  refine ⟨fun i m σ' H' => m = items.length - i ∧ i ≤ items.length ∧ ∃ O' ρ', Evo O H1 O' H' ∧ R G Fg O' ρ' σ' H' ∧ SPo G W Fg O' H' D (forL g fb (items.drop i) ρ'),
    ⟨items.length, by simp, Nat.zero_le _, O, ρ1, .refl, r1, by simpa using k1⟩, fun i m σ2 H2 hW => ?_⟩
  obtain ⟨hm, hi, O2, ρ2, ev, r2, k2⟩ := hW
  have sub : ∀ a ∈ adr O2 ++ Fg, a ∈ adr O ++ Fg ∨ H1 a = none := fun a m => by
    rcases List.mem_append.mp m with z | z
    · rcases ev.g a z with q | q
      · exact .inl (List.mem_append_left _ q)
      · exact .inr q
    · exact .inl (List.mem_append_right _ z)
  obtain ⟨w1, w2⟩ := wd (adr O) (adr O2 ++ Fg) H2 ev.ext (fun a m => .inl (List.mem_append_left _ m)) sub i
  by_cases hlt : i < items.length
  · obtain ⟨go, yl⟩ := w1 items[i] (List.getElem?_eq_getElem hlt)
    rw [drop_get hlt] at k2
    refine .inr ⟨go, fun σ' H' => (fun i m σ' H' => m = items.length - i ∧ i ≤ items.length ∧ ∃ O' ρ', Evo O H1 O' H' ∧ R G Fg O' ρ' σ' H' ∧ SPo G W Fg O' H' D (forL g fb (items.drop i) ρ')) (i + 1) (items.length - (i + 1)) σ' H',
      fun σ' H' w => ⟨_, by omega, w⟩, fun x H3 y3 => ?_⟩
    obtain ⟨e3, rx⟩ := yl x H3 y3
    have k2 : SPo G W Fg O2 H2 D (match g items[i] ρ2 with | none => .no | some ρ1 => brkTo (fb ρ1) (forL g fb (items.drop (i + 1)))) := k2
    cases q : g items[i] ρ2 with
    | none => rw [q] at k2; exact k2.elim
    | some ρ3 =>
      rw [q] at k2
      have e3' : Ext (adr O2) H2 H3 := e3.mono (by simp)
      refine lg Fg O2 ρ2 σ2 H3 x items[i] ρ3 _ (r2.ext0 e3) rx q fun σ3 r3 _ => ?_
      refine l2 Fg O2 ρ3 σ3 H3 _ r3 (SPo.turn (SPo.shift k2 e3'.evo) fun ρ' O' σ' H' e r h => ?_)
      exact ⟨rfl, hlt, O', ρ', (ev.trans e3'.evo).trans e, r, h⟩
  · have hl : items.length ≤ i := Nat.le_of_not_lt hlt
    rw [List.drop_of_length_le hl] at k2
    exact .inl ⟨w2 hl, k2 O2 σ2 H2 .refl r2⟩

/-! ### comprehensions -/
def noex {α : Type} (r : Rs α) : Rs α := match r with
  | .ok a ρ => .ok a ρ
  | _ => .no
def allFree (ρ : RS) (vs : List Nat) : Bool := vs.all fun i => noOwn ρ i
theorem allFree_ok {ρ : RS} {vs : List Nat} (h : allFree ρ vs = true) : ∀ i ∈ vs, NoOwn ρ i := fun i m => noOwn_ok (List.all_eq_true.mp h i m)
def lcL (g : PyData → RS → Option RS) (ft : RS → Rs Bool) (fe : RS → Rs PyData) (vs : List Nat) : List PyData → RS → Rs (List PyData)
  | [], ρ => .ok [] ρ
  | x :: xs, ρ => match g x ρ with
    | none => .no
    | some ρ1 => (noex (ft ρ1)).bind fun b ρ2 => if b then (noex (fe ρ2)).bind fun d ρ3 => if allFree ρ3 vs then (lcL g ft fe vs xs (rwipe ρ3 vs)).bind fun r ρ4 => .ok (d :: r) ρ4 else .no
        else if allFree ρ2 vs then lcL g ft fe vs xs (rwipe ρ2 vs) else .no
def eLc (fi : RS → Rs (List PyData)) (g : PyData → RS → Option RS) (ft : RS → Rs Bool) (fe : RS → Rs PyData) (vs : List Nat) : RS → Rs PyData := fun ρ => (fi ρ).bind fun items ρ1 =>
  if items.length ≤ sizeLine ∧ allFree ρ1 vs = true then (lcL g ft fe vs items (rwipe ρ1 vs)).bind fun ds ρ2 => if allFree ρ2 vs then .ok (.list ds) (rwipe ρ2 vs) else .no else .no
/-- nothing is let out -/
abbrev W0 : WX := fun _ _ _ _ => False
/-- the contexts of a comprehension's block -/
abbrev Bx (X : ι → Cx) (scope : Scope) : ι × Shared × Hp × Addr × List (Str × Addr) × List Addr → Cx := fun j => (X j.1).blk j.2.1 j.2.2.1 scope (compEnvC scope j.2.2.2.2.1 j.2.2.2.1 (X j.1).env) j.2.2.2.2.2
theorem famB {scope : Scope} (F : Fam X G W k) : Fam (Bx X scope) G W0 k := ⟨fun j => F.K j.1, fun j => F.calm j.1, fun _ _ _ x => by
  obtain ⟨_, _, _, _, _, _, _, _, _, _, _, _, _, _, _, _, z⟩ := x
  exact z.elim, fun j => F.nd j.1, fun j => F.room j.1⟩
structure DTs (X : ι → Cx) (G : Ctx) (W : WX) (es : List Expr) (f : RS → Rs Bool) : Prop where
  ex : ∃ t : TT, (∀ i, PTs (X i) es t) ∧ ∀ Fg O ρ σ H Q, R G Fg O ρ σ H → GP G W Fg O σ (fun b _ H' => Q b H') H (f ρ) → t σ H Q
def tYesD : RS → Rs Bool := fun ρ => .ok true ρ
theorem dts_nil : DTs X G W [] tYesD := ⟨_, fun _ => pts_nil, fun Fg O ρ σ H Q r h => h H .refl r⟩
theorem dts_one {c : Expr} {f : RS → Rs Bool} (h : DT X G W c f) : DTs X G W [c] f := by
  obtain ⟨t, p, l⟩ := h
  exact ⟨_, fun i => pts_one (p i), l⟩
theorem wipe_idem {σ : L2.St} : ∀ {vs ws : List Nat}, (∀ v ∈ vs, v ∈ ws) → wipe (wipe σ vs) ws = wipe σ ws
  | [], _, _ => rfl
  | v :: vs, ws, h => by
    show wipe ((wipe σ vs).set v none) ws = wipe σ ws
    rw [wipe_set_in (h v List.mem_cons_self)]
    exact wipe_idem fun u m => h u (List.mem_cons_of_mem _ m)
/-- what a comprehension wants behind its items -/
def LP (G : Ctx) (Fg : List Addr) (O : Own) (σw : L2.St) (D : Addr) (Q : VK) (acc : List PyData) (H : Hp) : Rs (List PyData) → Prop
  | .ok ds ρ' => ∀ H' us, Ext (D :: adr O) H H' → R G (D :: Fg) O ρ' σw H' → H' D = some (.lst us) → RepAll G.K (adr O ++ D :: Fg) H' us (acc ++ ds) → Q (.ref D) H'
  | _ => False
theorem LP.shift {Fg : List Addr} {O : Own} {σw : L2.St} {D : Addr} {Q : VK} {acc : List PyData} {H H1 : Hp} {r : Rs (List PyData)} (h : LP G Fg O σw D Q acc H r) (e : Ext (D :: adr O) H H1) : LP G Fg O σw D Q acc H1 r := by
  cases r with
  | ok ds ρ' => exact fun H' us e' r => h H' us (e.trans' e') r
  | ex c fs ρ' => exact h
  | no => exact h
theorem lp_cons {Fg : List Addr} {O : Own} {σw : L2.St} {D : Addr} {Q : VK} {acc : List PyData} {H : Hp} {d : PyData} {r : Rs (List PyData)} (h : LP G Fg O σw D Q acc H (r.bind fun q ρ4 => .ok (d :: q) ρ4)) : LP G Fg O σw D Q (acc ++ [d]) H r := by
  cases r with
  | ok ds ρ' => exact fun H' us e r q1 q2 => h H' us e r q1 (by simpa using q2)
  | ex c fs ρ' => exact h
  | no => exact h
theorem gp_noex {α : Type} {Fg : List Addr} {O : Own} {σ : L2.St} {H : Hp} {K : α → RS → Hp → Prop} {r : Rs α} (a : α) (ρ : RS) (h : r = .ok a ρ) (k : ∀ H', Ext (adr O) H H' → R G Fg O ρ σ H' → K a ρ H') : GP G W Fg O σ K H r := by
  subst h; exact k

/-- a turn of a comprehension: what is left of it and its end -/
theorem lc_turn {Fg : List Addr} {O : Own} {σ σ2 : L2.St} {D : Addr} {Q : VK} {acc : List PyData} {us : List V} {H2 : Hp} {x : PyData} {xs : List PyData} {ρ ρ1 : RS} {g : PyData → RS → Option RS} {ft : RS → Rs Bool} {fe : RS → Rs PyData} {vs : List Nat} {tt : TT} {te : TE}
    (lt : ∀ Fg O ρ σ H Q, R G Fg O ρ σ H → GP G W0 Fg O σ (fun b _ H' => Q b H') H (ft ρ) → tt σ H Q)
    (le : ∀ Fg O ρ σ H Q, R G Fg O ρ σ H → GP G W0 Fg O σ (fun d _ H' => ∀ v, Rep G.K (adr O ++ Fg) H' v d → Q v H') H (fe ρ) → te σ H Q)
    (hw : wipe σ2 vs = wipe σ vs) (r1 : R G (D :: Fg) O ρ1 σ2 H2) (hD : H2 D = some (.lst us)) (ra : RepAll G.K (adr O ++ D :: Fg) H2 us acc) (hl : acc.length < sizeLine) (nD : D ∉ adr O ++ Fg)
    (q : g x ρ = some ρ1) (h : LP G Fg O (wipe σ vs) D Q acc H2 (lcL g ft fe vs (x :: xs) ρ)) (Nx : Hp → Prop)
    (n : ∀ ρ' acc' us' H', Ext (D :: adr O) H2 H' → R G (D :: Fg) O ρ' (wipe σ vs) H' → H' D = some (.lst us') → RepAll G.K (adr O ++ D :: Fg) H' us' acc' → acc'.length ≤ acc.length + 1 → LP G Fg O (wipe σ vs) D Q acc' H' (lcL g ft fe vs xs ρ') → Nx H') :
    tt σ2 H2 fun b H3 => if b = true then te σ2 H3 fun y H4 => ∃ acc, H4 D = some (.lst acc) ∧ acc.length < sizeLine ∧ Nx (upd H4 D (.lst (acc ++ [y]))) else Nx H3 := by
  have h : LP G Fg O (wipe σ vs) D Q acc H2 ((noex (ft ρ1)).bind fun b ρ2 => if b then (noex (fe ρ2)).bind fun d ρ3 => if allFree ρ3 vs then (lcL g ft fe vs xs (rwipe ρ3 vs)).bind fun r ρ4 => .ok (d :: r) ρ4 else .no
        else if allFree ρ2 vs then lcL g ft fe vs xs (rwipe ρ2 vs) else .no) := by
    have h' := h
    unfold lcL at h'
    rw [q] at h'
    exact h'
  have sub : ∀ a ∈ adr O, a ∈ adr O ++ D :: Fg ∨ H2 a = none := fun a m => .inl (List.mem_append_left _ m)
  have keepD : ∀ {H : Hp}, Ext (adr O) H2 H → H D = some (.lst us) := fun {H} e => e.keep D _ hD (by intro ps z; cases z) (.inl fun m => nD (List.mem_append_left _ m))
  cases z : ft ρ1 with
  | ex c fs ρ' => rw [z] at h; exact h.elim
  | no => rw [z] at h; exact h.elim
  | ok b ρ2 =>
    rw [z] at h
    refine lt (D :: Fg) O ρ1 σ2 H2 _ r1 (gp_noex b ρ2 z fun H3 e3 r3 => ?_)
    have ra3 : RepAll G.K (adr O ++ D :: Fg) H3 us acc := ra.ext sub e3 fun _ m => .inl m
    have e3' : Ext (D :: adr O) H2 H3 := e3.mono fun a m => List.mem_cons_of_mem _ m
    cases b with
    | false =>
      refine ite_ff ?_
      have h : LP G Fg O (wipe σ vs) D Q acc H2 (if allFree ρ2 vs then lcL g ft fe vs xs (rwipe ρ2 vs) else .no) := h
      by_cases hf : allFree ρ2 vs = true
      · rw [if_pos hf] at h
        have r4 := r3.wipe vs (allFree_ok hf)
        rw [hw] at r4
        exact n _ acc us H3 e3' r4 (keepD e3) ra3 (Nat.le_succ _) (h.shift e3')
      · rw [if_neg hf] at h; exact h.elim
    | true =>
      refine ite_tt ?_
      have h : LP G Fg O (wipe σ vs) D Q acc H2 ((noex (fe ρ2)).bind fun d ρ3 => if allFree ρ3 vs then (lcL g ft fe vs xs (rwipe ρ3 vs)).bind fun r ρ4 => .ok (d :: r) ρ4 else .no) := h
      cases z2 : fe ρ2 with
      | ex c fs ρ' => rw [z2] at h; exact h.elim
      | no => rw [z2] at h; exact h.elim
      | ok d ρ3 =>
        rw [z2] at h
        have h : LP G Fg O (wipe σ vs) D Q acc H2 (if allFree ρ3 vs then (lcL g ft fe vs xs (rwipe ρ3 vs)).bind fun r ρ4 => .ok (d :: r) ρ4 else .no) := h
        by_cases hf : allFree ρ3 vs = true
        · rw [if_pos hf] at h
          refine le (D :: Fg) O ρ2 σ2 H3 _ r3 (gp_noex d ρ3 z2 fun H4 e4 r4 y ry => ?_)
          have ra4 : RepAll G.K (adr O ++ D :: Fg) H4 us acc := ra3.ext (fun a m => .inl (List.mem_append_left _ m)) e4 fun _ m => .inl m
          have hD4 : H4 D = some (.lst us) := keepD (e3.trans' e4)
          refine ⟨us, hD4, by rw [ra4.length]; exact hl, ?_⟩
          have ep : Ext [D] H4 (upd H4 D (.lst (us ++ [y]))) := ext_put hD4 (List.mem_singleton.mpr rfl)
          have sD : ∀ a ∈ [D], a ∈ adr O ++ D :: Fg ∨ H4 a = none := fun a m => .inl (by rw [List.mem_singleton.mp m]; exact List.mem_append_right _ List.mem_cons_self)
          have r5 : R G (D :: Fg) O ρ3 σ2 (upd H4 D (.lst (us ++ [y]))) := r4.ext ep (fun a m => by rw [List.mem_singleton.mp m]; exact List.mem_cons_self) fun a m => by rw [List.mem_singleton.mp m]; exact ⟨_, upd_same⟩
          have r6 := r5.wipe vs (allFree_ok hf)
          rw [hw] at r6
          have e6 : Ext (D :: adr O) H2 (upd H4 D (.lst (us ++ [y]))) := (e3'.trans' (e4.mono fun a m => List.mem_cons_of_mem _ m)).trans' (ep.mono fun a m => by rw [List.mem_singleton.mp m]; exact List.mem_cons_self)
          exact n _ (acc ++ [d]) (us ++ [y]) _ e6 r6 upd_same ((ra4.append (.cons ry .nil)).ext sD ep fun _ m => .inl m) (by simp) ((lp_cons h).shift e6)
        · rw [if_neg hf] at h; exact h.elim

theorem lc_law {X : ι → Cx} {G : Ctx} {W : WX} {wi : TI} {gt : TG} {tt : TT} {te : TE} {fi : RS → Rs (List PyData)} {gvs vs : List Nat} {g : PyData → RS → Option RS} {ft : RS → Rs Bool} {fe : RS → Rs PyData}
    (li : ∀ Fg O ρ σ H Q, R G Fg O ρ σ H → GP G W Fg O σ (fun ds _ H' => ∀ J, WalkD G (adr O ++ Fg) H' J ds → Q J H') H (fi ρ) → wi σ H Q)
    (lg : ∀ Fg O ρ σ H v d ρ' Q, R G Fg O ρ σ H → Rep G.K (adr O ++ Fg) H v d → g d ρ = some ρ' → (∀ σ', R G Fg O ρ' σ' H → (∀ ws : List Nat, (∀ j ∈ gvs, j ∈ ws) → wipe σ' ws = wipe σ ws) → Q σ' H) → gt v σ H Q)
    (lt : ∀ Fg O ρ σ H Q, R G Fg O ρ σ H → GP G W0 Fg O σ (fun b _ H' => Q b H') H (ft ρ) → tt σ H Q)
    (le : ∀ Fg O ρ σ H Q, R G Fg O ρ σ H → GP G W0 Fg O σ (fun d _ H' => ∀ v, Rep G.K (adr O ++ Fg) H' v d → Q v H') H (fe ρ) → te σ H Q)
    (hsub : ∀ j ∈ gvs, j ∈ vs) {Fg : List Addr} {O : Own} {ρ : RS} {σ : L2.St} {H : Hp} {Q : VK} (r : R G Fg O ρ σ H) (h : GP G W Fg O σ (fun d _ H' => ∀ v, Rep G.K (adr O ++ Fg) H' v d → Q v H') H (eLc fi g ft fe vs ρ)) : tLc wi gt tt te vs σ H Q := by
  refine li Fg O ρ σ H _ r ((GP.bind h).imp fun items ρ1 H1 e1 r1 k1 J wd => ?_)
  intro D hD
  by_cases hc : items.length ≤ sizeLine ∧ allFree ρ1 vs = true
  · rw [if_pos hc] at k1
    have nD : D ∉ adr O ++ Fg := fresh_not r1.all hD
    have e0 : Ext [] H1 (upd H1 D (.lst [])) := ext_new hD
    have r0 : R G (D :: Fg) O (rwipe ρ1 vs) (wipe σ vs) (upd H1 D (.lst [])) := (r1.more hD).wipe vs (allFree_ok hc.2)
    have gD : Grow (adr O) H1 (D :: adr O) := fun a m => by
      rcases List.mem_cons.mp m with z | z
      · subst z; exact .inr hD
      · exact .inl z
    -- the wish behind the items
    have lp0 : LP G Fg O (wipe σ vs) D Q [] (upd H1 D (.lst [])) (lcL g ft fe vs items (rwipe ρ1 vs)) := by
      cases z : lcL g ft fe vs items (rwipe ρ1 vs) with
      | ok ds ρ2 =>
        rw [z] at k1
        intro H' us e' r' hD' ra'
        have k1 : GP G W Fg O σ (fun d _ H' => ∀ v, Rep G.K (adr O ++ Fg) H' v d → Q v H') H1 (if allFree ρ2 vs then .ok (.list ds) (rwipe ρ2 vs) else .no) := k1
        by_cases hf : allFree ρ2 vs = true
        · rw [if_pos hf] at k1
          have eo : Ext (adr O) H1 H' := (e0.mono (O' := adr O) (by simp)).trans e' fun a m => by
            rcases gD a m with z | z
            · exact .inl z
            · exact .inr z
          refine k1 H' eo (r'.less.unwipe (vs := vs) (wipe_idem fun _ m => m) (wipe_length _ _) (allFree_ok hf)) _ (.lst hD' nD (ra'.fewer fun a m => ?_))
          rcases List.mem_append.mp m with z | z
          · exact List.mem_append_left _ z
          · exact List.mem_append_right _ (List.mem_cons_of_mem _ z)
        · rw [if_neg hf] at k1; exact k1.elim
      | ex c fs ρ2 =>
        -- no error leaves the items
        exfalso
        exact lcL_noex _ _ z
      | no => rw [z] at k1; exact k1.elim
    refine ⟨fun i m H2 => m = items.length - i ∧ i ≤ items.length ∧ ∃ ρ2 acc us, R G (D :: Fg) O ρ2 (wipe σ vs) H2 ∧ H2 D = some (.lst us) ∧ RepAll G.K (adr O ++ D :: Fg) H2 us acc ∧ acc.length ≤ i ∧ Ext (D :: adr O) (upd H1 D (.lst [])) H2 ∧ LP G Fg O (wipe σ vs) D Q acc H2 (lcL g ft fe vs (items.drop i) ρ2),
      ⟨items.length, by simp, Nat.zero_le _, _, [], [], r0, upd_same, .nil, Nat.le_refl _, .refl, by simpa using lp0⟩, fun i m H2 hW => ?_⟩
    obtain ⟨hm, hi, ρ2, acc, us, r2, hD2, ra2, hl2, e2, lp2⟩ := hW
    have e12 : Ext (D :: adr O) H1 H2 := (e0.mono (by simp)).trans' e2
    obtain ⟨w1, w2⟩ := wd (D :: adr O) (adr O ++ D :: Fg) H2 e12 (fun a m => by
        rcases List.mem_cons.mp m with z | z
        · subst z; exact .inr hD
        · exact .inl (List.mem_append_left _ z)) (fun a m => by
        rcases List.mem_append.mp m with z | z
        · exact .inl (List.mem_append_left _ z)
        · rcases List.mem_cons.mp z with z | z
          · subst z; exact .inr hD
          · exact .inl (List.mem_append_right _ z)) i
    by_cases hlt : i < items.length
    · obtain ⟨go, yl⟩ := w1 items[i] (List.getElem?_eq_getElem hlt)
      rw [drop_get hlt] at lp2
      refine .inr ⟨go, fun H' => (fun i m H2 => m = items.length - i ∧ i ≤ items.length ∧ ∃ ρ2 acc us, R G (D :: Fg) O ρ2 (wipe σ vs) H2 ∧ H2 D = some (.lst us) ∧ RepAll G.K (adr O ++ D :: Fg) H2 us acc ∧ acc.length ≤ i ∧ Ext (D :: adr O) (upd H1 D (.lst [])) H2 ∧ LP G Fg O (wipe σ vs) D Q acc H2 (lcL g ft fe vs (items.drop i) ρ2)) (i + 1) (items.length - (i + 1)) H',
        fun H' w => ⟨_, by omega, w⟩, fun x H3 y3 => ?_⟩
      obtain ⟨e3, rx⟩ := yl x H3 y3
      cases q : g items[i] ρ2 with
      | none =>
        exfalso
        unfold lcL at lp2
        rw [q] at lp2
        exact lp2
      | some ρ3 =>
        have e3' : Ext (D :: adr O) H2 H3 := e3.mono (by simp)
        have hD3 : H3 D = some (.lst us) := e3.keep D _ hD2 (by intro ps z; cases z) (.inl (by simp))
        refine lg (D :: Fg) O ρ2 (wipe σ vs) H3 x items[i] ρ3 _ (r2.ext0 e3) rx q fun σ3 r3 hw3 => ?_
        have hw : wipe σ3 vs = wipe σ vs := (hw3 vs hsub).trans (wipe_idem fun _ m => m)
        refine ⟨hw, lc_turn lt le hw r3 hD3 (ra2.ext (O := []) (by simp) e3 fun _ m => .inl m) (by omega) nD q (lp2.shift e3') _ fun ρ' acc' us' H' e' r' hD' ra' hl' lp' => ?_⟩
        exact ⟨rfl, hlt, ρ', acc', us', r', hD', ra', by omega, (e2.trans' e3').trans' e', lp'⟩
    · have hl : items.length ≤ i := Nat.le_of_not_lt hlt
      rw [List.drop_of_length_le hl] at lp2
      have lp2 : LP G Fg O (wipe σ vs) D Q acc H2 (.ok [] ρ2) := lp2
      exact .inl ⟨w2 hl, lp2 H2 us .refl r2 hD2 (by simpa using ra2)⟩
  · rw [if_neg hc] at k1; exact k1.elim
where
  lcL_noex {g : PyData → RS → Option RS} {ft : RS → Rs Bool} {fe : RS → Rs PyData} {vs : List Nat} {c : Str} {fs : List (Str × PyData)} {ρ' : RS} : ∀ (items : List PyData) (ρ : RS), lcL g ft fe vs items ρ = .ex c fs ρ' → False
  | [], ρ, h => by cases h
  | x :: xs, ρ, h => by
    unfold lcL at h
    cases q : g x ρ with
    | none => rw [q] at h; cases h
    | some ρ1 =>
      rw [q] at h
      cases z : ft ρ1 with
      | ex _ _ _ => simp only [z, noex, Rs.bind] at h; cases h
      | no => simp only [z, noex, Rs.bind] at h; cases h
      | ok b ρ2 =>
        cases b with
        | false =>
          simp only [z, noex, Rs.bind, Bool.false_eq_true, if_false] at h
          split at h
          · exact lcL_noex xs _ h
          · cases h
        | true =>
          cases z2 : fe ρ2 with
          | ex _ _ _ => simp only [z, z2, noex, Rs.bind, if_true] at h; cases h
          | no => simp only [z, z2, noex, Rs.bind, if_true] at h; cases h
          | ok d ρ3 =>
            simp only [z, z2, noex, Rs.bind, if_true] at h
            split at h
            · cases z3 : lcL g ft fe vs xs (rwipe ρ3 vs) with
              | ok r ρ4 => rw [z3] at h; cases h
              | no => rw [z3] at h; cases h
              | ex _ _ _ => exact lcL_noex xs _ z3
            · cases h
theorem de_lc {elt tg iter : Expr} {ifs : List Expr} {scope : Scope} {own : List (Str × Nat)} {fi : RS → Rs (List PyData)} {gvs : List Nat} {g : PyData → RS → Option RS} {ft : RS → Rs Bool} {fe : RS → Rs PyData}
    (F : Fam X G W k) (hi : DI X G W tg iter fi) (ok : ∀ i, BlkOk (X i).N (X i).env.scope scope own) (hg : DG (Bx X scope) G tg gvs g) (hsub : ∀ j ∈ gvs, j ∈ own.map (·.2)) (ht : DTs (Bx X scope) G W0 ifs ft) (he : DE (Bx X scope) G W0 elt fe)
    (hs : ∀ i x, foldedSetIterable iter (X i).env x = pure x := by intro _ _; rfl) : DE X G W (.ListComp elt [⟨tg, iter, ifs, 0⟩] scope pos) (eLc fi g ft fe (own.map (·.2))) := by
  obtain ⟨wi, pi, li⟩ := hi
  obtain ⟨gt, pg, lg⟩ := hg
  obtain ⟨tt, pt, lt⟩ := ht
  obtain ⟨te, pe, le⟩ := he
  exact ⟨_, fun i => pe_lc (F.calm i) (F.nd i) (pi i) (ok i) (fun s H C cl fp => pg (i, s, H, C, cl, fp)) (fun s H C cl fp => pt (i, s, H, C, cl, fp)) (fun s H C cl fp => pe (i, s, H, C, cl, fp)) (hs i), fun Fg O ρ σ H Q r h => lc_law (X := X) li lg lt le hsub r h⟩
/-- name = [.. for ..], the name a plain local -/
theorem ds_setLc {j : Nat} {y : Str} {py spos : Pos} {elt tg iter : Expr} {ifs : List Expr} {scope : Scope} {own : List (Str × Nat)} {fi : RS → Rs (List PyData)} {gvs : List Nat} {g : PyData → RS → Option RS} {ft : RS → Rs Bool} {fe : RS → Rs PyData}
    (F : Fam X G W k) (hy : ∀ i, (X i).N[j]? = some y) (hyl : ∀ i, (X i).env.scope.names.lookup y = some .local) (hsw : ∀ i, swapsWith (.ListComp elt [⟨tg, iter, ifs, 0⟩] scope pos) (some (.Name y py)) spos.line (X i).env = pure true)
    (hi : DI X G W tg iter fi) (ok : ∀ i, BlkOk (X i).N (X i).env.scope scope own) (hg : DG (Bx X scope) G tg gvs g) (hsub : ∀ j ∈ gvs, j ∈ own.map (·.2)) (ht : DTs (Bx X scope) G W0 ifs ft) (he : DE (Bx X scope) G W0 elt fe)
    (hs : ∀ i x, foldedSetIterable iter (X i).env x = pure x := by intro _ _; rfl) : DS X G W (.Assign [.Name y py] (.ListComp elt [⟨tg, iter, ifs, 0⟩] scope pos) spos) (sAsg (eLc fi g ft fe (own.map (·.2))) (setD j)) := by
  obtain ⟨wi, pi, li⟩ := hi
  obtain ⟨gt, pg, lg⟩ := hg
  obtain ⟨tt, pt, lt⟩ := ht
  obtain ⟨te, pe, le⟩ := he
  refine ⟨_, fun i => ps_setLc (F.calm i) (F.nd i) (hy i) (hyl i) (hsw i) (pi i) (ok i) (fun s H C cl fp => pg (i, s, H, C, cl, fp)) (fun s H C cl fp => pt (i, s, H, C, cl, fp)) (fun s H C cl fp => pe (i, s, H, C, cl, fp)) (hs i), fun Fg O ρ σ H D r h => ?_⟩
  refine lc_law (X := X) li lg lt le hsub r ((SPo.out h).imp fun d ρ1 H1 e1 r1 k v rv => ?_)
  unfold setD at k
  by_cases hn : noOwn ρ1 j = true
  · rw [if_pos hn] at k
    exact k O _ H1 .refl (r1.set (noOwn_ok hn) rv)
  · rw [if_neg hn] at k; exact k.elim

/-! ### two for -/
def lc2L (g : PyData → RS → Option RS) (ft : RS → Rs Bool) (fi1 : RS → Rs (List PyData)) (g1 : PyData → RS → Option RS) (ft1 : RS → Rs Bool) (fe : RS → Rs PyData) (vs vs1 : List Nat) : List PyData → RS → Rs (List PyData)
  | [], ρ => .ok [] ρ
  | x :: xs, ρ => match g x ρ with
    | none => .no
    | some ρ1 => (noex (ft ρ1)).bind fun b ρ2 => if b then (noex (fi1 ρ2)).bind fun items ρ3 => if items.length ≤ 1000 ∧ allFree ρ3 vs1 = true then (lcL g1 ft1 fe vs1 items (rwipe ρ3 vs1)).bind fun r ρ4 => if allFree ρ4 vs then (lc2L g ft fi1 g1 ft1 fe vs vs1 xs (rwipe ρ4 vs)).bind fun r2 ρ5 => .ok (r ++ r2) ρ5 else .no else .no
        else if allFree ρ2 vs then lc2L g ft fi1 g1 ft1 fe vs vs1 xs (rwipe ρ2 vs) else .no
end
end DL

-- text DL5
set_option Elab.async false
set_option linter.all false
set_option maxRecDepth 100000
set_option maxHeartbeats 2000000
namespace DL
open PySem PySem.Spec PyProof.Rows L2 GxR

section
variable {ι : Type} {X : ι → Cx} {G : Ctx} {W : WX} {k : Nat} {pos : Pos}
/-! ### what is walked -/
/-- the items of a list or a tuple -/
def seqOf : PyData → Option (List PyData)
  | .list xs => some xs
  | .tuple xs => some xs
  | _ => none
def iSeq (fe : RS → Rs PyData) : RS → Rs (List PyData) := fun ρ => (fe ρ).bind fun d ρ1 => Rs.of (seqOf d) ρ1
theorem walk_lst {B : List Addr} {H : Hp} {a : Addr} {us : List V} {ds : List PyData} (h : H a = some (.lst us)) (hB : a ∉ B) (r : RepAll G.K B H us ds) : WalkD G B H (Itl G.K a) ds := fun S A H' e hS hA i => by
  have h' : H' a = some (.lst us) := e.keep a _ h (by intro ps z; cases z) (.inl fun m => by
    rcases hS a m with z | z
    · exact hB z
    · rw [h] at z; cases z)
  have r' : RepAll G.K A H' us ds := r.ext hS e hA
  have q : SqL G.K H' a us := .inl (.inl h')
  refine ⟨fun d hd => ?_, fun hl => ⟨us, q, by rw [r.length]; exact hl⟩⟩
  obtain ⟨v, hv, rv⟩ := r'.get hd
  refine ⟨⟨us, v, q, hv⟩, fun x H'' y => ?_⟩
  obtain ⟨rfl, y⟩ := y
  have := y us q
  rw [hv] at this
  cases this
  exact ⟨.refl, rv⟩
theorem walk_tp {B : List Addr} {H : Hp} {a : Addr} {us : List V} {ds : List PyData} (h : SqT G.K H a us) (r : RepAll G.K B H us ds) : WalkD G B H (Itt G.K a) ds := fun S A H' e hS hA i => by
  have q : SqT G.K H' a us := SqT.ext h e
  have r' : RepAll G.K A H' us ds := r.ext hS e hA
  refine ⟨fun d hd => ?_, fun hl => ⟨us, q, by rw [r.length]; exact hl⟩⟩
  obtain ⟨v, hv, rv⟩ := r'.get hd
  refine ⟨⟨us, v, q, hv⟩, fun x H'' y => ?_⟩
  obtain ⟨rfl, y⟩ := y
  have := y us q
  rw [hv] at this
  cases this
  exact ⟨.refl, rv⟩
theorem walk_rng {B : List Addr} {H : Hp} {lo : Int} {n : Nat} : WalkD G B H (Itr lo n) ((List.range n).map fun i => PyData.int (lo + (i : Nat))) := fun S A H' e hS hA i => by
  refine ⟨fun d hd => ?_, fun hl => (by simpa using hl : n ≤ i)⟩
  rw [List.getElem?_map] at hd
  by_cases hi : i < n
  · rw [List.getElem?_range hi] at hd
    cases hd
    exact ⟨hi, fun x H'' y => by obtain ⟨rfl, rfl⟩ := y; exact ⟨.refl, .int _⟩⟩
  · rw [List.getElem?_eq_none (by simpa using Nat.le_of_not_lt hi)] at hd
    cases hd
/-- a list or a tuple, walked -/
def iSq (K : PySem.W.Frag) (tl : TE) : TI := fun σ H R => tl σ H fun x H1 => ∃ a, x = .ref a ∧ (((∃ xs, SqL K H1 a xs) ∧ R (Itl K a) H1) ∨ ((∃ xs, SqT K H1 a xs) ∧ R (Itt K a) H1))
theorem pi_sq {Y : Cx} {tg l : Expr} {tl : TE} (hl : PE Y l tl) : PI Y tg l (iSq Y.K tl) := by
  refine ⟨fun pins s σ H R I h => ?_⟩
  refine thn (hl.run pins s σ H _ I h) fun v s1 ⟨x, H1, I1, r1, a, e, q1⟩ => ?_
  subst e
  cases r1
  have fz : ∀ b ∈ [s1.heap.objs.size], FpOk Y pins H1 b := fun b hb => by
    have e : b = s1.heap.objs.size := by simpa using hb
    subst e
    exact I1.fpOk (Nat.le_refl _) (I1.hok.fresh (Nat.le_refl _))
  rcases q1 with ⟨⟨xs, hq⟩, q⟩ | ⟨⟨xs, hq⟩, q⟩
  · obtain ⟨its, rv, p, hz⟩ := I1.list hq
    exact wpAny_pyIter_list p.isList ⟨s1.heap.objs.size, [s1.heap.objs.size], _, _, H1, rfl, I1.kept (t' := s1.toks) fun b o e => Heap.get?_push_of_some _ e, turn_list a _, ⟨_, Heap.get?_push_size _ rfl, rfl, rfl⟩, fz, q⟩
  · obtain ⟨its, rv, p, hz⟩ := I1.tuple hq
    exact wpAny_pyIter_tuple (show s1.heap.IsTuple a its.toArray from p) ⟨s1.heap.objs.size, [s1.heap.objs.size], _, _, H1, rfl, I1.kept (t' := s1.toks) fun b o e => Heap.get?_push_of_some _ e, turn_tuple a _, ⟨_, Heap.get?_push_size _ rfl, rfl, rfl⟩, fz, q⟩
theorem di_seq {tg l : Expr} {fe : RS → Rs PyData} (F : Fam X G W k) (he : DE X G W l fe) : DI X G W tg l (iSeq fe) := by
  obtain ⟨t, p, la⟩ := he
  refine ⟨iSq G.K t, fun i => by rw [← F.K i]; exact pi_sq (p i), fun Fg O ρ σ H Q r h => ?_⟩
  refine la Fg O ρ σ H _ r ((GP.bind h).imp fun d ρ1 H1 e1 r1 k1 v rv => ?_)
  obtain ⟨ds, e, kk⟩ := k1.of
  cases rv with
  | lst q hA rs =>
    cases e
    exact ⟨_, rfl, .inl ⟨⟨_, .inl (.inl q)⟩, kk H1 .refl r1 _ (walk_lst q hA rs)⟩⟩
  | tup q rs =>
    cases e
    exact ⟨_, rfl, .inr ⟨⟨_, q⟩, kk H1 .refl r1 _ (walk_tp q rs)⟩⟩
  | _ => cases e
def rngD (lo hi : Int) : List PyData := (List.range (hi - lo).toNat).map fun i => PyData.int (lo + (i : Nat))
/-- a test that the kernel does not unroll on an unknown length -/
def in62 : Int → Bool
  | .ofNat n => Nat.ble n 4611686018427387903
  | .negSucc n => Nat.ble n 4611686018427387903
theorem in62_ok {i : Int} (h : in62 i = true) : -(2 ^ 62) ≤ i ∧ i < 2 ^ 62 := by
  cases i with
  | ofNat n =>
    have h := Nat.le_of_ble_eq_true h
    show -(2 ^ 62) ≤ (n : Int) ∧ (n : Int) < 2 ^ 62
    constructor <;> omega
  | negSucc n =>
    have h := Nat.le_of_ble_eq_true h
    rw [Int.negSucc_eq]
    constructor <;> omega
def rng1 : List PyData → Option (List PyData)
  | [.int j] => if in62 j then some (rngD 0 j) else none
  | _ => none
def rng2 : List PyData → Option (List PyData)
  | [.int i, .int j] => if in62 i && in62 j then some (rngD i j) else none
  | _ => none
def iRng (g : List PyData → Option (List PyData)) (fs : RS → Rs (List PyData)) : RS → Rs (List PyData) := fun ρ => (fs ρ).bind fun ds ρ1 => Rs.of (g ds) ρ1
theorem di_rng1 {tg a : Expr} {p : Pos} {fs : RS → Rs (List PyData)} (hg : ∀ i, Gl (X i) "range") (hm : ∀ i, (X i).mg "range" = none) (ha : DA X G W [a] fs) (hs : ∀ i, starEach [a] (X i).env = [(false, eval a (X i).env)] := by intro _; rfl) :
    DI X G W tg (.Call (.Name "range" p) [a] [] pos) (iRng rng1 fs) := by
  obtain ⟨t, pa, la⟩ := ha
  refine ⟨_, fun i => pi_range1 (hg i) (hm i) (pa i) (hs i), fun Fg O ρ σ H Q r h => ?_⟩
  refine la Fg O ρ σ H _ r ((GP.bind h).imp fun ds ρ1 H1 e1 r1 k1 vs rv => ?_)
  obtain ⟨items, e, kk⟩ := k1.of
  unfold rng1 at e
  split at e
  · split at e
    · rename_i j hj
      cases e
      cases rv with
      | cons q q2 =>
        cases q; cases q2
        obtain ⟨h1, h2⟩ := in62_ok hj
        refine ⟨j, rfl, h1, h2, ?_⟩
        have := kk H1 .refl r1 (Itr 0 j.toNat) (by
          have z := walk_rng (G := G) (B := adr O ++ Fg) (H := H1) (lo := 0) (n := j.toNat)
          unfold rngD
          rw [Int.sub_zero]
          exact z)
        exact this
    · cases e
  · cases e
theorem di_rng2 {tg a b : Expr} {p : Pos} {fs : RS → Rs (List PyData)} (hg : ∀ i, Gl (X i) "range") (hm : ∀ i, (X i).mg "range" = none) (ha : DA X G W [a, b] fs) (hs : ∀ i, starEach [a, b] (X i).env = [(false, eval a (X i).env), (false, eval b (X i).env)] := by intro _; rfl) (hs2 : ∀ i, starEach [b] (X i).env = [(false, eval b (X i).env)] := by intro _; rfl) :
    DI X G W tg (.Call (.Name "range" p) [a, b] [] pos) (iRng rng2 fs) := by
  obtain ⟨t, pa, la⟩ := ha
  refine ⟨_, fun i => pi_range2 (hg i) (hm i) (pa i) (hs i) (hs2 i), fun Fg O ρ σ H Q r h => ?_⟩
  refine la Fg O ρ σ H _ r ((GP.bind h).imp fun ds ρ1 H1 e1 r1 k1 vs rv => ?_)
  obtain ⟨items, e, kk⟩ := k1.of
  unfold rng2 at e
  split at e
  · split at e
    · rename_i i j hj
      cases e
      cases rv with
      | cons q q2 =>
        cases q2 with
        | cons q2 q3 =>
          cases q; cases q2; cases q3
          simp only [Bool.and_eq_true] at hj
          obtain ⟨h1, h2⟩ := in62_ok hj.1
          obtain ⟨h3, h4⟩ := in62_ok hj.2
          exact ⟨i, j, rfl, ⟨h1, h2, h3, h4⟩, kk H1 .refl r1 _ walk_rng⟩
    · cases e
  · cases e
/-- pairs of two lists, of two tuples -/
def pairD (a b : PyData) : PyData := .tuple [a, b]
def zipG : List PyData → Option (List PyData)
  | [.list xs, .list ys] => some (List.zipWith pairD xs ys)
  | [.tuple xs, .tuple ys] => some (List.zipWith pairD xs ys)
  | _ => none
theorem zip_get {xs ys : List PyData} {i : Nat} {d : PyData} (h : (List.zipWith pairD xs ys)[i]? = some d) : ∃ x y, xs[i]? = some x ∧ ys[i]? = some y ∧ d = pairD x y := by
  rw [List.getElem?_zipWith] at h
  cases h1 : xs[i]? with
  | none => rw [h1] at h; simp at h
  | some x =>
    cases h2 : ys[i]? with
    | none => rw [h1, h2] at h; simp at h
    | some y =>
      rw [h1, h2] at h
      simp only [Option.some.injEq] at h
      exact ⟨x, y, rfl, rfl, h.symm⟩
theorem rep_pair {A : List Addr} {H : Hp} {T : Addr} {x y : V} {dx dy : PyData} (hT : H T = none) (h1 : Rep G.K A H x dx) (h2 : Rep G.K A H y dy) : Rep G.K A (upd H T (.tup [x, y])) (.ref T) (pairD dx dy) :=
  .tup (.inl (.inl upd_same)) (rep_new (.cons h1 (.cons h2 .nil)) hT)
theorem di_zip {a b : Expr} {p tpos : Pos} {elts : List Expr} {kk : Nat} {fs : RS → Rs (List PyData)} (F : Fam X G W k) (hg : ∀ i, Gl (X i) "zip") (hm : ∀ i, (X i).mg "zip" = none) (ha : DA X G W [a, b] fs)
    (hs : ∀ i, starEach [a, b] (X i).env = (false, eval a (X i).env) :: starEach [b] (X i).env := by intro _; rfl) (hpl : ∀ i, (backTo pos (starEach [b] (X i).env)).any (·.1) = false := by intro _; rfl) :
    DI X G W (.Tuple elts kk tpos) (.Call (.Name "zip" p) [a, b] [] pos) (iRng zipG fs) := by
  obtain ⟨t, pa, la⟩ := ha
  refine ⟨RZ.iZipA G.K t, fun i => by rw [← F.K i]; exact RZ.pi_zipA (hg i) (hm i) (pa i) (hs i) (hpl i), fun Fg O ρ σ H Q r h => ?_⟩
  refine la Fg O ρ σ H _ r ((GP.bind h).imp fun ds ρ1 H1 e1 r1 k1 vs rv => ?_)
  obtain ⟨items, e, kk⟩ := k1.of
  unfold zipG at e
  split at e
  · cases e
    rename_i xs ys
    match vs, rv with
    | [_, _], .cons (.lst (xs := us) q1 hA1 rs1) (.cons (.lst (xs := ws) q2 hA2 rs2) .nil) =>
      refine ⟨_, _, us, ws, rfl, .inl ⟨.inl (.inl q1), .inl (.inl q2), kk H1 .refl r1 _ fun S A H' e hS hA i => ?_⟩⟩
      have k1' : ∀ {a : Addr} {us : List V}, H1 a = some (.lst us) → a ∉ adr O ++ Fg → H' a = some (.lst us) := fun {a us} h hB => e.keep a _ h (by intro ps z; cases z) (.inl fun m => by
        rcases hS a m with z | z
        · exact hB z
        · rw [h] at z; cases z)
      have g1 : SqL G.K H' _ us := .inl (.inl (k1' q1 hA1))
      have g2 : SqL G.K H' _ ws := .inl (.inl (k1' q2 hA2))
      refine ⟨fun d hd => ?_, fun hl => ?_⟩
      · obtain ⟨x, y, hx, hy, rfl⟩ := zip_get hd
        obtain ⟨v1, hv1, rv1⟩ := (rs1.ext hS e hA).get hx
        obtain ⟨v2, hv2, rv2⟩ := (rs2.ext hS e hA).get hy
        refine ⟨⟨us, ws, v1, v2, g1, g2, hv1, hv2⟩, fun z H'' yy => ?_⟩
        obtain ⟨T, x1, x2, rfl, nT, rfl, f1, f2⟩ := yy
        have z1 := f1 us g1
        have z2 := f2 ws g2
        rw [hv1] at z1; rw [hv2] at z2
        cases z1; cases z2
        exact ⟨ext_new nT, rep_pair nT rv1 rv2⟩
      · refine ⟨us, ws, g1, g2, ?_⟩
        rw [rs1.length, rs2.length]
        simp only [List.length_zipWith] at hl
        omega
  · cases e
    rename_i xs ys
    match vs, rv with
    | [_, _], .cons (.tup (xs := us) q1 rs1) (.cons (.tup (xs := ws) q2 rs2) .nil) =>
      refine ⟨_, _, us, ws, rfl, .inr ⟨q1, q2, kk H1 .refl r1 _ fun S A H' e hS hA i => ?_⟩⟩
      have g1 : SqT G.K H' _ us := SqT.ext q1 e
      have g2 : SqT G.K H' _ ws := SqT.ext q2 e
      refine ⟨fun d hd => ?_, fun hl => ?_⟩
      · obtain ⟨x, y, hx, hy, rfl⟩ := zip_get hd
        obtain ⟨v1, hv1, rv1⟩ := (rs1.ext hS e hA).get hx
        obtain ⟨v2, hv2, rv2⟩ := (rs2.ext hS e hA).get hy
        refine ⟨⟨us, ws, v1, v2, g1, g2, hv1, hv2⟩, fun z H'' yy => ?_⟩
        obtain ⟨T, x1, x2, rfl, nT, rfl, f1, f2⟩ := yy
        have z1 := f1 us g1
        have z2 := f2 ws g2
        rw [hv1] at z1; rw [hv2] at z2
        cases z1; cases z2
        exact ⟨ext_new nT, rep_pair nT rv1 rv2⟩
      · refine ⟨us, ws, g1, g2, ?_⟩
        rw [rs1.length, rs2.length]
        simp only [List.length_zipWith] at hl
        omega
  · cases e

/-! ### all(.. for .. in ..) -/
def truF : PyData → Option Bool
  | .bool b => some b
  | .int i => some (i != 0)
  | _ => none
theorem truF_ok {K : PySem.W.Frag} {A : List Addr} {H : Hp} {v : V} {d : PyData} {b : Bool} (r : Rep K A H v d) (h : truF d = some b) : TruF v b := by
  cases r <;> simp [truF, scr, dctD] at h
  · subst h; exact .inl rfl
  · subst h; exact .inr ⟨_, rfl, rfl⟩
def allL (g : PyData → RS → Option RS) (fe : RS → Rs PyData) (vs : List Nat) : List PyData → RS → Rs Bool
  | [], ρ => .ok true ρ
  | x :: xs, ρ => match g x ρ with
    | none => .no
    | some ρ1 => (noex (fe ρ1)).bind fun d ρ2 => if allFree ρ2 vs then (match truF d with
        | none => .no
        | some true => allL g fe vs xs (rwipe ρ2 vs)
        | some false => .ok false (rwipe ρ2 vs)) else .no
def eAll (fi : RS → Rs (List PyData)) (g : PyData → RS → Option RS) (fe : RS → Rs PyData) (vs : List Nat) : RS → Rs PyData := fun ρ => (fi ρ).bind fun items ρ1 =>
  if allFree ρ1 vs then (noex (allL g fe vs items (rwipe ρ1 vs))).bind fun b ρ2 => if allFree ρ2 vs then .ok (.bool b) (rwipe ρ2 vs) else .no else .no
/-- what all wants behind its items -/
def AP' (G : Ctx) (Fg : List Addr) (O : Own) (σw : L2.St) (Q : VK) (H : Hp) : Rs Bool → Prop
  | .ok b ρ' => ∀ H', Ext (adr O) H H' → R G Fg O ρ' σw H' → Q (.bl b) H'
  | _ => False
theorem AP'.shift {Fg : List Addr} {O : Own} {σw : L2.St} {Q : VK} {H H1 : Hp} {r : Rs Bool} (h : AP' G Fg O σw Q H r) (e : Ext (adr O) H H1) : AP' G Fg O σw Q H1 r := by
  cases r with
  | ok b ρ' => exact fun H' e' r => h H' (e.trans' e') r
  | ex c fs ρ' => exact h
  | no => exact h
/-- the contexts of a generator expression's frame -/
abbrev Gx (X : ι → Cx) (k : Nat) (scope : Scope) : (Σ i : ι, { c : Shared × Hp × Addr × List (Str × Addr) × Value × List Addr × List (Addr × Obj) // Room k ((X i).A.in1.in1.deeper (genEnv scope c.2.2.2.1 c.2.2.1 c.2.2.2.2.1 builtinsNs (X i).env)) }) → Cx :=
  fun j => gx (X j.1) (X j.1).A.in1.in1 j.2.1.1 j.2.1.2.1 (genEnv scope j.2.1.2.2.2.1 j.2.1.2.2.1 j.2.1.2.2.2.2.1 builtinsNs (X j.1).env) j.2.1.2.2.2.2.2.1 j.2.1.2.2.2.2.2.2
theorem famG {scope : Scope} (F : Fam X G W (k + 1)) : Fam (Gx X k scope) G W0 k := ⟨fun j => F.K j.1, fun j => F.calm j.1, fun _ _ _ x => by
  obtain ⟨_, _, _, _, _, _, _, _, _, _, _, _, _, _, _, _, z⟩ := x
  exact z.elim, fun j => F.nd j.1, fun j => j.2.2⟩
theorem de_all {c P : Addr} {elt tg iter : Expr} {p gpos : Pos} {scope : Scope} {own : List (Str × Nat)} {fi : RS → Rs (List PyData)} {gvs : List Nat} {g : PyData → RS → Option RS} {fe : RS → Rs PyData}
    (F : Fam X G W (k + 1)) (hP : P ∈ G.ts) (hgl : ∀ i, Gl (X i) "all") (hm : ∀ i, (X i).mg "all" = none) (TB : ∀ i, TabB (X i).base (X i).mg c P) (hcode : ∀ i, (X i).env.code = .ref c) (hi : DI X G W tg iter fi) (ok : ∀ i, BlkOk (X i).N (X i).env.scope scope own) (gs : ∀ i, GSc (X i).N scope)
    (hg : DG (Gx X k scope) G tg gvs g) (hsub : ∀ j ∈ gvs, j ∈ own.map (·.2)) (he : DE (Gx X k scope) G W0 elt fe)
    (hb : bootBuiltins "all" = some (.builtin "all") := by decide +kernel)
    (hs : ∀ i v, genFold iter (X i).env v = pure v := by intro _ _; rfl) (hst : ∀ i, starEach [.GeneratorExp elt [⟨tg, iter, [], 0⟩] scope gpos] (X i).env = (false, eval (.GeneratorExp elt [⟨tg, iter, [], 0⟩] scope gpos) (X i).env) :: starEach [] (X i).env := by intro _; rfl) :
    DE X G W (.Call (.Name "all" p) [.GeneratorExp elt [⟨tg, iter, [], 0⟩] scope gpos] [] pos) (eAll fi g fe (own.map (·.2))) := by
  obtain ⟨wi, pi, li⟩ := hi
  obtain ⟨gt, pg, lg⟩ := hg
  obtain ⟨te, pe, le⟩ := he
  refine ⟨_, fun i => pe_allG (k := k) (F.calm i) (F.nd i) (F.room i) (hgl i) (hm i) hb (TB i) (hcode i) (pi i) (ok i) (gs i) (fun s H C cl code fp pn hr => pg ⟨i, ⟨(s, H, C, cl, code, fp, pn), hr⟩⟩) (fun s H C cl code fp pn hr => pe ⟨i, ⟨(s, H, C, cl, code, fp, pn), hr⟩⟩) (hs i) (hst i), fun Fg O ρ σ H Q r h => ?_⟩
  generalize hvs : own.map (·.2) = vs at *
  refine li Fg O ρ σ H _ r ((GP.bind h).imp fun items ρ1 H1 e1 r1 k1 J wd => ?_)
  refine ⟨r1.tabs P hP, fun H2 tb => ?_⟩
  have et : Ext (adr O) H1 H2 := ext_tab (r1.tabs P hP) tb
  have et0 : Ext [] H1 H2 := ext_tab (r1.tabs P hP) tb
  have r2 : R G Fg O ρ1 σ H2 := r1.ext0 et0
  by_cases hf : allFree ρ1 vs = true
  · rw [if_pos hf] at k1
    have lp0 : AP' G Fg O (wipe σ vs) Q H2 (allL g fe vs items (rwipe ρ1 vs)) := by
      cases z : allL g fe vs items (rwipe ρ1 vs) with
      | ok b ρ2 =>
        rw [z] at k1
        intro H' e' r'
        have k1 : GP G W Fg O σ (fun d _ H' => ∀ v, Rep G.K (adr O ++ Fg) H' v d → Q v H') H1 (if allFree ρ2 vs then .ok (.bool b) (rwipe ρ2 vs) else .no) := k1
        by_cases hf2 : allFree ρ2 vs = true
        · rw [if_pos hf2] at k1
          exact k1 H' (et.trans' e') (r'.unwipe (vs := vs) (wipe_idem fun _ m => m) (wipe_length _ _) (allFree_ok hf2)) _ (.bl b)
        · rw [if_neg hf2] at k1; exact k1.elim
      | ex c fs ρ2 => rw [z] at k1; exact k1.elim
      | no => rw [z] at k1; exact k1.elim
    refine ⟨fun i m H3 => m = items.length - i ∧ i ≤ items.length ∧ ∃ ρ3, R G Fg O ρ3 (wipe σ vs) H3 ∧ Ext (adr O) H2 H3 ∧ AP' G Fg O (wipe σ vs) Q H3 (allL g fe vs (items.drop i) ρ3),
      ⟨items.length, by simp, Nat.zero_le _, _, r2.wipe vs (allFree_ok hf), .refl, by simpa using lp0⟩, fun i m H3 hW => ?_⟩
    obtain ⟨hm, hi, ρ3, r3, e3, lp3⟩ := hW
    obtain ⟨w1, w2⟩ := wd (adr O) (adr O ++ Fg) H3 (et.trans' e3) (fun a m => .inl (List.mem_append_left _ m)) (fun a m => .inl m) i
    by_cases hlt : i < items.length
    · obtain ⟨go, yl⟩ := w1 items[i] (List.getElem?_eq_getElem hlt)
      rw [drop_get hlt] at lp3
      refine .inr ⟨go, fun x H4 y4 => ?_⟩
      obtain ⟨e4, rx⟩ := yl x H4 y4
      have e4' : Ext (adr O) H3 H4 := e4.mono (by simp)
      unfold allL at lp3
      cases q : g items[i] ρ3 with
      | none => rw [q] at lp3; exact lp3.elim
      | some ρ4 =>
        rw [q] at lp3
        refine lg Fg O ρ3 (wipe σ vs) H4 x items[i] ρ4 _ (r3.ext0 e4) rx q fun σ4 r4 hw4 => ?_
        have hw : wipe σ4 vs = wipe σ vs := (hw4 vs hsub).trans (wipe_idem fun _ m => m)
        refine ⟨hw, ?_⟩
        cases z : fe ρ4 with
        | ex c fs ρ' => simp only [z, noex, Rs.bind] at lp3; exact lp3.elim
        | no => simp only [z, noex, Rs.bind] at lp3; exact lp3.elim
        | ok d ρ5 =>
          simp only [z, noex, Rs.bind] at lp3
          refine le Fg O ρ4 σ4 H4 _ r4 (gp_noex d ρ5 z fun H5 e5 r5 y ry => ?_)
          by_cases hf5 : allFree ρ5 vs = true
          · rw [if_pos hf5] at lp3
            have r6 := r5.wipe vs (allFree_ok hf5)
            rw [hw] at r6
            cases zt : truF d with
            | none => rw [zt] at lp3; exact lp3.elim
            | some b =>
              rw [zt] at lp3
              refine ⟨b, truF_ok ry zt, ?_⟩
              cases b with
              | true => exact ite_tt ⟨items.length - (i + 1), by omega, rfl, hlt, _, r6, (e3.trans' e4').trans' e5, AP'.shift lp3 (e4'.trans' e5)⟩
              | false => exact ite_ff (lp3 H5 (e4'.trans' e5) r6)
          · rw [if_neg hf5] at lp3; exact lp3.elim
    · have hl : items.length ≤ i := Nat.le_of_not_lt hlt
      rw [List.drop_of_length_le hl] at lp3
      have lp3 : AP' G Fg O (wipe σ vs) Q H3 (.ok true ρ3) := lp3
      exact .inl ⟨w2 hl, lp3 H3 .refl r3⟩
  · rw [if_neg hf] at k1; exact k1.elim
end
end DL

-- text DL6
set_option Elab.async false
set_option linter.all false
set_option maxRecDepth 100000
set_option maxHeartbeats 2000000
namespace DL
open PySem PySem.Spec PyProof.Rows L2 GxR

/-! ### defs -/
/-- what a def answers: a datum; an own error; nothing is claimed -/
inductive Fr where
  | ok (d : PyData)
  | ex (c : Str) (fs : List (Str × PyData))
  | no
def FPo (G : Ctx) (Fg : List Addr) (H : Hp) : Fr → VK → XK → Prop
  | .ok d, Q, _ => ∀ v H', Ext [] H H' → Rep G.K Fg H' v d → Q v H'
  | .ex c fs, _, E => ∀ dd H', Ext [] H H' → ExAt fs dd H' → E (.ref (G.ec c)) dd H'
  | .no, _, _ => False
/-- the promise of a def that writes to none of its arguments -/
def spD (G : Ctx) (n : Nat) (F : List PyData → Fr) : Sp := fun vs H Q E => vs.length = n ∧ ∃ Fg ds, RepAll G.K Fg H vs ds ∧ (∀ P ∈ G.ts, TabG H P) ∧ (∀ a ∈ Fg, ∃ xs, H a = some (.lst xs)) ∧ FPo G Fg H (F ds) Q E
/-- .. of one that writes to the list that is its first argument -/
inductive Fi where
  | ok (d : PyData) (xs : List PyData)
  | no
def spI (G : Ctx) (n : Nat) (F : List PyData → List PyData → Fi) : Sp := fun vs H Q _ => vs.length = n ∧ ∃ (Fg : List Addr) (a : Addr) (us : List V) (xs : List PyData) (ws : List V) (ds : List PyData), vs = .ref a :: ws ∧ a ∉ Fg ∧ H a = some (.lst us) ∧ RepAll G.K (a :: Fg) H us xs ∧ RepAll G.K (a :: Fg) H ws ds ∧
  (∀ P ∈ G.ts, TabG H P) ∧ (∀ b ∈ Fg, ∃ zs, H b = some (.lst zs)) ∧ ∃ d xs', F xs ds = .ok d xs' ∧ ∀ v H' us', Ext [a] H H' → H' a = some (.lst us') → RepAll G.K (a :: Fg) H' us' xs' → Rep G.K (a :: Fg) H' v d → Q v H'

section
variable {G : Ctx} {Fg : List Addr} {O : Own} {ρ : RS} {σ : L2.St} {H H' : Hp}
/-- the list of a slot has been written -/
theorem R.upd {a : Addr} {i : Nat} {ws : List V} {xs : List PyData} (r : R G Fg O ρ σ H) (m : (i, a) ∈ O) (hi : i < ρ.length) (hσ : σ[i]? = some (some (V.ref a))) (e : Ext [a] H H') (h' : H' a = some (.lst ws))
    (hx : RepAll G.K (adr O ++ Fg) H' ws xs) : R G Fg O (ρ.set i (Sl.o xs)) σ H' := by
  have sub : ∀ b ∈ [a], b ∈ adr O ++ Fg ∨ H b = none := fun b q => .inl (by
    rw [List.mem_singleton.mp q]
    exact List.mem_append_left _ (R.in_adr m))
  refine ⟨by simp [r.len], fun j y q => ?_, fun j ys q => ?_, r.key, r.inj, r.fg, fun j b q => ?_, fun P hP => e.tab P (r.tabs P hP), fun b q => ?_, raw_put r.raw (by intro _ z; cases z)⟩
  · rcases get_set_d q with ⟨rfl, z⟩ | ⟨hj, z⟩
    · cases z
    · obtain ⟨v, h1, h2⟩ := r.val j y z
      exact ⟨v, h1, h2.ext sub e fun _ m => .inl m⟩
  · rcases get_set_d q with ⟨rfl, z⟩ | ⟨hj, z⟩
    · cases z
      exact ⟨a, ws, m, hσ, h', hx⟩
    · obtain ⟨b, us, h1, h2, h3, h4⟩ := r.own j ys z
      have hne : b ≠ a := fun z => hj (r.inj i j a m (by rw [← z]; exact h1))
      exact ⟨b, us, h1, h2, e.keep b _ h3 (by intro ps z; cases z) (.inl fun q => hne (List.mem_singleton.mp q)), h4.ext sub e fun _ m => .inl m⟩
  · by_cases hj : i = j
    · subst hj; exact ⟨xs, List.getElem?_set_self hi⟩
    · obtain ⟨ys, z⟩ := r.occ j b q
      exact ⟨ys, by rw [List.getElem?_set_ne hj]; exact z⟩
  · by_cases hb : b = a
    · subst hb; exact ⟨ws, h'⟩
    · obtain ⟨us, z⟩ := r.all b q
      exact ⟨us, e.keep b _ z (by intro ps z; cases z) (.inl fun q => hb (List.mem_singleton.mp q))⟩
theorem R.own_at (r : R G Fg O ρ σ H) {i : Nat} {xs : List PyData} (h : ρ[i]? = some (Sl.o xs)) : i < ρ.length := (List.getElem?_eq_some_iff.mp h).1
end

section
variable {ι : Type} {X : ι → Cx} {G : Ctx} {W : WX} {k : Nat} {pos : Pos}
def frRs (f : Fr) (ρ : RS) : Rs PyData := match f with
  | .ok d => .ok d ρ
  | .ex c fs => .ex c fs ρ
  | .no => .no
def eFn (n : Nat) (F : List PyData → Fr) (fs : RS → Rs (List PyData)) : RS → Rs PyData := fun ρ => (fs ρ).bind fun ds ρ1 => if ds.length = n then frRs (F ds) ρ1 else .no
theorem de_fn {x : Str} {p : Pos} {e : Expr} {es : List Expr} {fs : RS → Rs (List PyData)} {j : Nat} {f : Addr} {fd : FuncData} {ps : List Str} {n : Nat} {Fn : List PyData → Fr} (F : Fam X G W k)
    (hF : ∀ i, FnOk (X i).prog (X i).w (X i).K (X i).mg (X i).base (L2.CX (X i).prog (X i).w) j f fd ps (spD G n Fn)) (hj : j ≤ k) (hg : ∀ i, Gl (X i) x) (hm : ∀ i, (X i).mg x = some (.ref f)) (hk : PySem.W.keepIn G.K (.ref f) = true) (hb : Binds G.K fd ps [])
    (ha : DA X G W (e :: es) fs) (hdb : (x == ("__debug__" : Str)) = false := by decide) (he : ∀ i, starEach (e :: es) (X i).env = (false, eval e (X i).env) :: starEach es (X i).env := by intro _; rfl) (hpl : ∀ i, (backTo pos (starEach es (X i).env)).any (·.1) = false := by intro _; rfl) :
    DE X G W (.Call (.Name x p) (e :: es) [] pos) (eFn n Fn fs) := by
  obtain ⟨t, pa, la⟩ := ha
  refine ⟨_, fun i => pe_callS (hF i) ((F.room i).mono hj) (hg i) (hm i) (by rw [F.K i]; exact hk) (by rw [F.K i]; exact hb) (fun σ => passAt (F.takes i) σ) (pa i) hdb (he i) (hpl i), fun Fg O ρ σ H Q r h => ?_⟩
  refine la Fg O ρ σ H _ r ((GP.bind h).imp fun ds ρ1 H1 e1 r1 k1 vs rv => ?_)
  by_cases hl : ds.length = n
  · rw [if_pos hl] at k1
    refine ⟨by rw [rv.length]; exact hl, adr O ++ Fg, ds, rv, r1.tabs, r1.all, ?_⟩
    cases z : Fn ds with
    | ok d =>
      rw [z] at k1
      exact fun v H' e' rv' => k1 H' (e'.mono (by simp)) (r1.ext0 e') v rv'
    | ex c f =>
      rw [z] at k1
      exact fun dd H' e' x => k1 dd H' (e'.mono (by simp)) (r1.ext0 e') x
    | no => rw [z] at k1; exact k1.elim
  · rw [if_neg hl] at k1; exact k1.elim
/-- a call whose first argument is a list of the slot j, which the def writes to -/
def eFnI (j n : Nat) (F : List PyData → List PyData → Fi) (fs : RS → Rs (List PyData)) : RS → Rs PyData := fun ρ => match ρ[j]? with
  | some (.o _) => (fs ρ).bind fun ds ρ1 => match ρ1[j]? with
    | some (.o xs) => if ds.length + 1 = n then (match F xs ds with
      | .ok d xs' => .ok d (ρ1.set j (Sl.o xs'))
      | .no => .no) else .no
    | _ => .no
  | _ => .no
theorem de_fnI {x y : Str} {p p1 : Pos} {es : List Expr} {fs : RS → Rs (List PyData)} {j q : Nat} {f : Addr} {fd : FuncData} {ps : List Str} {n : Nat} {Fn : List PyData → List PyData → Fi} (F : Fam X G W k)
    (hF : ∀ i, FnOk (X i).prog (X i).w (X i).K (X i).mg (X i).base (L2.CX (X i).prog (X i).w) q f fd ps (spI G n Fn)) (hq : q ≤ k) (hN : ∀ i, (X i).N[j]? = some y) (hv : ∀ i, Vis (X i).env.scope y) (hg : ∀ i, Gl (X i) x) (hm : ∀ i, (X i).mg x = some (.ref f)) (hk : PySem.W.keepIn G.K (.ref f) = true) (hb : Binds G.K fd ps [])
    (ha : DA X G W es fs) (hd : (y == ("__debug__" : Str)) = false := by decide) (hcd : (y == ("__classdict__" : Str)) = false := by decide) (hdb : (x == ("__debug__" : Str)) = false := by decide)
    (he : ∀ i, starEach (.Name y p1 :: es) (X i).env = (false, eval (.Name y p1) (X i).env) :: starEach es (X i).env := by intro _; rfl) (hpl : ∀ i, (backTo pos (starEach es (X i).env)).any (·.1) = false := by intro _; rfl) :
    DE X G W (.Call (.Name x p) (.Name y p1 :: es) [] pos) (eFnI j n Fn fs) := by
  obtain ⟨t, pa, la⟩ := ha
  refine ⟨_, fun i => pe_callS (hF i) ((F.room i).mono hq) (hg i) (hm i) (by rw [F.K i]; exact hk) (by rw [F.K i]; exact hb) (fun σ => passAt (F.takes i) σ) (pa_cons (pe_var (hN i) (hv i) hd hcd) (pa i) (he i)) hdb (he i) (hpl i), fun Fg O ρ σ H Q r h => ?_⟩
  unfold eFnI at h
  split at h
  · rename_i xs0 e0
    obtain ⟨a, us0, h1, h2, h3, h4⟩ := r.own j xs0 e0
    refine ⟨_, h2, la Fg O ρ σ H _ r ((GP.bind h).imp fun ds ρ1 H1 e1 r1 k1 vs rv => ?_)⟩
    split at k1
    · rename_i xs e2
      by_cases hl : ds.length + 1 = n
      · rw [if_pos hl] at k1
        obtain ⟨a', us, g1, g2, g3, g4⟩ := r1.own j xs e2
        obtain rfl : a = a' := r1.key j a a' h1 g1
        cases z : Fn xs ds with
        | no => rw [z] at k1; exact k1.elim
        | ok d xs' =>
          rw [z] at k1
          have mem : ∀ b, b ∈ a :: ((adr O).filter (fun c => decide (c ≠ a)) ++ Fg) ↔ b ∈ adr O ++ Fg := fun b => by
            constructor
            · intro m
              rcases List.mem_cons.mp m with z | z
              · subst z; exact List.mem_append_left _ (R.in_adr g1)
              · rcases List.mem_append.mp z with z | z
                · exact List.mem_append_left _ (List.mem_filter.mp z).1
                · exact List.mem_append_right _ z
            · intro m
              by_cases hb : b = a
              · subst hb; exact List.mem_cons_self
              · rcases List.mem_append.mp m with z | z
                · exact List.mem_cons_of_mem _ (List.mem_append_left _ (List.mem_filter.mpr ⟨z, by simpa using hb⟩))
                · exact List.mem_cons_of_mem _ (List.mem_append_right _ z)
          refine ⟨by rw [List.length_cons, rv.length]; exact hl, (adr O).filter (fun c => decide (c ≠ a)) ++ Fg, a, us, xs, vs, ds, rfl, fun m => ?_, g3, g4.fewer fun b m => (mem b).mp m, rv.fewer fun b m => (mem b).mp m, r1.tabs, fun b m => ?_, d, xs', z, fun v H' us' e' ha' rx rd => ?_⟩
          · rcases List.mem_append.mp m with z | z
            · have := (List.mem_filter.mp z).2
              simp at this
            · exact r1.fg _ g1 z
          · exact r1.all b ((mem b).mp (List.mem_cons_of_mem _ m))
          · exact k1 H' (e'.mono fun b m => by rw [List.mem_singleton.mp m]; exact R.in_adr g1) (r1.upd g1 (r1.own_at e2) g2 e' ha' (rx.fewer fun b m => (mem b).mpr m)) v (rd.fewer fun b m => (mem b).mpr m)
      · rw [if_neg hl] at k1; exact k1.elim
    · exact k1.elim
  · exact h.elim
end

/-- an exception of the body is one of the def -/
abbrev WF (E : XK) : WX := fun cls d _ H => E cls d H
section
variable {P : Program} {w : World} {K : PySem.W.Frag} {mg : Str → Option Value} {base : Heap} {G : Ctx} {x qual : Str} {st : Stmt} {f : Addr} {fd : FuncData} {N ps : List Str} {k : Nat}
/-- the contexts of a def's body: one -/
abbrev Cf (P : Program) (w : World) (K : PySem.W.Frag) (mg : Str → Option Value) (base : Heap) (N : List Str) (qual : Str) (st : Stmt) (f : Addr) (fd : FuncData) (A : Around) (outer : List Env) (s : Shared) (H : Hp) (E : XK) : Unit → Cx :=
  fun _ => cxOf (L2.CX P w) P w K mg base N qual (defScope st) f fd.code A outer s H E
theorem fam_of {A : Around} {outer : List Env} {s : Shared} {H : Hp} {E : XK} (S : FnScope N ps (defScope st)) (hK : K = G.K) (hr : Room k (A.deeper (envOfC qual (defScope st) s.heap.objs.size f fd.code))) : Fam (Cf P w K mg base N qual st f fd A outer s H E) G (WF E) k :=
  ⟨fun _ => hK, fun _ => rfl, fun _ => takes_of rfl rfl rfl rfl, fun _ => S.nd, fun _ => hr⟩
theorem owns_of {A : Around} {outer : List Env} {s : Shared} {H : Hp} {E : XK} : ∀ i, PassesOwn (model (Cf P w K mg base N qual st f fd A outer s H E i).prog (Cf P w K mg base N qual st f fd A outer s H E i).w) (Cf P w K mg base N qual st f fd A outer s H E i).A (Cf P w K mg base N qual st f fd A outer s H E i).env (Cf P w K mg base N qual st f fd A outer s H E i).xe := fun i => passes_of (X := Cf P w K mg base N qual st f fd A outer s H E i) rfl
theorem fun_okC {sp : Sp} (F : Fun K x qual st f fd) (S : FnScope N ps (defScope st)) (len : ∀ vs H Q E, sp vs H Q E → vs.length = ps.length)
    (hbody : ∀ (A : Around) (outer : List Env) (s : Shared) (H : Hp) (vs : List V) (Q : VK) (E : XK), Room k (A.deeper (envOfC qual (defScope st) s.heap.objs.size f fd.code)) → sp vs H Q E →
      ∃ t, PSs (cxOf (L2.CX P w) P w K mg base N qual (defScope st) f fd.code A outer s H E) (defBody st) t ∧ t { nx := fun _ H' => Q .non H', rt := Q } (L2.start N vs) H) : FnOk P w K mg base (L2.CX P w) (k + 1) f fd ps sp := by
  obtain ⟨oc, od, kV, doc, pm, an, cdv, ct, osl, rfl, lk, hcd⟩ := F.ex
  exact fn_of lk hcd S len fun A outer s H vs Q E hr hsp => hbody A outer s H vs Q E hr hsp
def outFr (o : Out) : Fr := match o with
  | .rt d _ => .ok d
  | .rto d _ => .ok d
  | .nx _ => .ok .none
  | .ex c fs _ => .ex c fs
  | _ => .no
/-- the def's answer, by its body; n parameters, m names -/
def fnD (n m : Nat) (fb : RS → Out) (ds : List PyData) : Fr := outFr (fb (ds.map Sl.d ++ List.replicate (m - n) Sl.n))
theorem start_get {vs : List V} {N : List Str} {i : Nat} {v : V} (h : vs[i]? = some v) : (L2.start N vs)[i]? = some (some v) := by
  unfold L2.start
  have hi : i < vs.length := (List.getElem?_eq_some_iff.mp h).1
  rw [List.getElem?_append_left (by simpa using hi), List.getElem?_map, h]
  rfl
theorem fn_ok {fb : RS → Out} (F : Fun K x qual st f fd) (S : FnScope N ps (defScope st)) (hK : K = G.K) (hpl : ps.length ≤ N.length)
    (body : ∀ (A : Around) (outer : List Env) (s : Shared) (H : Hp) (E : XK), Room k (A.deeper (envOfC qual (defScope st) s.heap.objs.size f fd.code)) → DSs (Cf P w K mg base N qual st f fd A outer s H E) G (WF E) (defBody st) fb) :
    FnOk P w K mg base (L2.CX P w) (k + 1) f fd ps (spD G ps.length (fnD ps.length N.length fb)) := by
  refine fun_okC F S (fun vs H Q E h => h.1) fun A outer s H vs Q E hr hsp => ?_
  obtain ⟨hl, Fg, ds, rv, tabs, all, post⟩ := hsp
  obtain ⟨t, p, l⟩ := body A outer s H E hr
  refine ⟨t, p (), l Fg [] (ds.map Sl.d ++ List.replicate (N.length - ps.length) Sl.n) (L2.start N vs) H _ ?_ ?_⟩
  · have hlen := rv.length
    have noA : ∀ (i : Nat) (p : Addr), (ds.map Sl.d ++ List.replicate (N.length - ps.length) Sl.n)[i]? ≠ some (Sl.a p) := fun i p e => by
      rcases List.mem_append.mp (List.mem_of_getElem? e) with m | m
      · obtain ⟨d, _, z⟩ := List.mem_map.mp m
        cases z
      · have := (List.mem_replicate.mp m).2
        cases this
    have noO : ∀ (i : Nat) (xs : List PyData), (ds.map Sl.d ++ List.replicate (N.length - ps.length) Sl.n)[i]? ≠ some (Sl.o xs) := fun i xs e => by
      rcases List.mem_append.mp (List.mem_of_getElem? e) with m | m
      · obtain ⟨d, _, z⟩ := List.mem_map.mp m
        cases z
      · have := (List.mem_replicate.mp m).2
        cases this
    refine ⟨?_, fun i d e => ?_, fun i xs e => (noO i xs e).elim, fun _ _ _ m => (by cases m), fun _ _ _ m => (by cases m), fun _ m => (by cases m), fun _ _ m => (by cases m), tabs, fun a m => all a m, fun i p e => (noA i p e).elim⟩
    · unfold L2.start
      simp only [List.length_append, List.length_map, List.length_replicate]
      omega
    · by_cases hi : i < ds.length
      · rw [List.getElem?_append_left (by simpa using hi), List.getElem?_map] at e
        cases q : ds[i]? with
        | none => rw [q] at e; cases e
        | some d' =>
          rw [q] at e
          cases e
          obtain ⟨v, h1, h2⟩ := rv.get q
          exact ⟨v, start_get h1, h2⟩
      · rw [List.getElem?_append_right (by simpa using Nat.le_of_not_lt hi)] at e
        have := (List.mem_replicate.mp (List.mem_of_getElem? e)).2
        cases this
  · unfold fnD at post
    cases z : fb (ds.map Sl.d ++ List.replicate (N.length - ps.length) Sl.n) with
    | nx ρ' => rw [z] at post; exact fun O' σ' H' e r => post .non H' e.ext .non
    | rt d ρ' => rw [z] at post; exact fun O' σ' v H' e r rd => post v H' e.ext (rd.fewer fun a m => List.mem_append_right _ m)
    | rto d ρ' => rw [z] at post; exact fun O' σ' v H' e r rd => post v H' e.ext rd
    | bk ρ' => rw [z] at post; exact post.elim
    | ct ρ' => rw [z] at post; exact post.elim
    | ex c fs ρ' => rw [z] at post; exact fun O' σ' dd H' e r x => post dd H' e.ext x
    | no => rw [z] at post; exact post.elim
def outFi (o : Out) : Fi := match o with
  | .rt d ρ => (match ρ[0]? with
    | some (Sl.o xs) => .ok d xs
    | _ => .no)
  | .nx ρ => (match ρ[0]? with
    | some (Sl.o xs) => .ok .none xs
    | _ => .no)
  | _ => .no
def fnI (n m : Nat) (fb : RS → Out) (xs : List PyData) (ds : List PyData) : Fi := outFi (fb (Sl.o xs :: ds.map Sl.d ++ List.replicate (m - n) Sl.n))
theorem fni_ok {fb : RS → Out} (F : Fun K x qual st f fd) (S : FnScope N ps (defScope st)) (hK : K = G.K) (hpl : ps.length ≤ N.length)
    (body : ∀ (A : Around) (outer : List Env) (s : Shared) (H : Hp) (E : XK), Room k (A.deeper (envOfC qual (defScope st) s.heap.objs.size f fd.code)) → DSs (Cf P w K mg base N qual st f fd A outer s H E) G (WF E) (defBody st) fb) :
    FnOk P w K mg base (L2.CX P w) (k + 1) f fd ps (spI G ps.length (fnI ps.length N.length fb)) := by
  refine fun_okC F S (fun vs H Q E h => h.1) fun A outer s H vs Q E hr hsp => ?_
  obtain ⟨hl, Fg, a, us, xs, ws, ds, rfl, ha, hH, rx, rv, tabs, all, d, xs', hF, post⟩ := hsp
  have noA : ∀ (i : Nat) (p : Addr), (Sl.o xs :: ds.map Sl.d ++ List.replicate (N.length - ps.length) Sl.n)[i]? ≠ some (Sl.a p) := fun i p e => by
    rcases List.mem_append.mp (List.mem_of_getElem? e) with m | m
    · rcases List.mem_cons.mp m with z | m
      · cases z
      · obtain ⟨d, _, z⟩ := List.mem_map.mp m
        cases z
    · have := (List.mem_replicate.mp m).2
      cases this
  obtain ⟨t, p, l⟩ := body A outer s H E hr
  refine ⟨t, p (), l Fg [(0, a)] (Sl.o xs :: ds.map Sl.d ++ List.replicate (N.length - ps.length) Sl.n) (L2.start N (.ref a :: ws)) H _ ?_ ?_⟩
  · have hlen := rv.length
    refine ⟨?_, fun i d e => ?_, fun i zs e => ?_, fun i b c m1 m2 => ?_, fun i j b m1 m2 => ?_, fun q m => ?_, fun i b m => ?_, tabs, fun b m => ?_, fun i p e => (noA i p e).elim⟩
    · unfold L2.start
      simp only [List.length_append, List.length_map, List.length_replicate, List.length_cons] at hl ⊢
      omega
    · cases i with
      | zero => cases e
      | succ i =>
        have e : (ds.map Sl.d ++ List.replicate (N.length - ps.length) Sl.n)[i]? = some (Sl.d d) := e
        by_cases hi : i < ds.length
        · rw [List.getElem?_append_left (by simpa using hi), List.getElem?_map] at e
          cases q : ds[i]? with
          | none => rw [q] at e; cases e
          | some d' =>
            rw [q] at e
            cases e
            obtain ⟨v, h1, h2⟩ := rv.get q
            exact ⟨v, start_get (i := i + 1) h1, h2⟩
        · rw [List.getElem?_append_right (by simpa using Nat.le_of_not_lt hi)] at e
          have := (List.mem_replicate.mp (List.mem_of_getElem? e)).2
          cases this
    · cases i with
      | zero =>
        cases e
        exact ⟨a, us, List.mem_singleton.mpr rfl, start_get (i := 0) rfl, hH, rx⟩
      | succ i =>
        have e : (ds.map Sl.d ++ List.replicate (N.length - ps.length) Sl.n)[i]? = some (Sl.o zs) := e
        rcases List.mem_append.mp (List.mem_of_getElem? e) with m | m
        · obtain ⟨d, _, z⟩ := List.mem_map.mp m
          cases z
        · have := (List.mem_replicate.mp m).2
          cases this
    · cases List.mem_singleton.mp m1
      cases List.mem_singleton.mp m2
      rfl
    · cases List.mem_singleton.mp m1
      cases List.mem_singleton.mp m2
      rfl
    · cases List.mem_singleton.mp m
      exact ha
    · cases List.mem_singleton.mp m
      exact ⟨xs, rfl⟩
    · rcases List.mem_cons.mp m with z | z
      · subst z; exact ⟨us, hH⟩
      · exact all b z
  · unfold fnI at hF
    have fin : ∀ {O' : Own} {σ' : L2.St} {H' : Hp} {ρ' : RS} {v : V}, Evo [(0, a)] H O' H' → R G Fg O' ρ' σ' H' → ρ'[0]? = some (Sl.o xs') → Rep G.K (adr O' ++ Fg) H' v d → Q v H' := fun {O' σ' H' ρ' v} e r q rd => by
      obtain ⟨a', us', h1, h2, h3, h4⟩ := r.own 0 xs' q
      obtain rfl : a = a' := r.key 0 a a' (e.sub _ (List.mem_singleton.mpr rfl) rfl) h1
      have sub : ∀ b ∈ a :: Fg, b ∈ adr O' ++ Fg := fun b m => by
        rcases List.mem_cons.mp m with z | z
        · subst z; exact List.mem_append_left _ (R.in_adr h1)
        · exact List.mem_append_right _ z
      exact post v H' us' e.ext h3 (h4.fewer sub) (rd.fewer sub)
    cases z : fb (Sl.o xs :: ds.map Sl.d ++ List.replicate (N.length - ps.length) Sl.n) with
    | nx ρ' =>
      rw [z] at hF
      intro O' σ' H' e r
      unfold outFi at hF
      simp only at hF
      split at hF
      · cases hF
        exact fin e r (by assumption) .non
      · cases hF
    | rt d' ρ' =>
      rw [z] at hF
      intro O' σ' v H' e r rd
      unfold outFi at hF
      simp only at hF
      split at hF
      · cases hF
        exact fin e r (by assumption) rd
      · cases hF
    | rto d ρ' => rw [z] at hF; cases hF
    | bk ρ' => rw [z] at hF; cases hF
    | ct ρ' => rw [z] at hF; cases hF
    | ex c fs ρ' => rw [z] at hF; cases hF
    | no => rw [z] at hF; cases hF
end
end DL

-- text DL7
set_option Elab.async false
set_option linter.all false
set_option maxRecDepth 100000
set_option maxHeartbeats 2000000
namespace DL
open PySem PySem.Spec PyProof.Rows L2 GxR

section
variable {G : Ctx} {A : List Addr} {H : Hp}
theorem rep_int {v : V} {i : Int} (h : Rep G.K A H v (.int i)) : v = .int i := by cases h; rfl
theorem rep_str {v : V} {x : Str} (h : Rep G.K A H v (.str x)) : v = .str x := by cases h; rfl
theorem rep_list {v : V} {ds : List PyData} (h : Rep G.K A H v (.list ds)) : ∃ a us, v = .ref a ∧ H a = some (.lst us) ∧ a ∉ A ∧ RepAll G.K A H us ds := by
  cases h with
  | lst q hA rs => exact ⟨_, _, rfl, q, hA, rs⟩
theorem rep_tup {v : V} {ds : List PyData} (h : Rep G.K A H v (.tuple ds)) : ∃ a us, v = .ref a ∧ SqT G.K H a us ∧ RepAll G.K A H us ds := by
  cases h with
  | tup q rs => exact ⟨_, _, rfl, q, rs⟩
theorem same_new {p : Addr} {u : HO} (h : H p = none) : Same H (upd H p u) := fun b o e => by rw [upd_ne (ne_of_none e h)]; exact e
/-- a new list, a new tuple -/
theorem new_lst {us : List V} {ds : List PyData} {Q : VK} (all : ∀ a ∈ A, ∃ xs, H a = some (.lst xs)) (r : RepAll G.K A H us ds) (q : ∀ v H', Same H H' → Rep G.K A H' v (.list ds) → Q v H') : ∀ p, H p = none → Q (.ref p) (upd H p (.lst us)) := fun p hp =>
  q _ _ (same_new hp) (.lst upd_same (fresh_not all hp) (rep_new r hp))
theorem new_tup {us : List V} {ds : List PyData} {Q : VK} (r : RepAll G.K A H us ds) (q : ∀ v H', Same H H' → Rep G.K A H' v (.tuple ds) → Q v H') : ∀ p, H p = none → Q (.ref p) (upd H p (.tup us)) := fun p hp =>
  q _ _ (same_new hp) (.tup (.inl (.inl upd_same)) (rep_new r hp))
end

/-! ### operators -/
section
variable {X : Cx} {G : Ctx}
def rAddG (K : PySem.W.Frag) : R2 := fun x y H Q => rI0 (fun i j => .int (i + j)) x y H Q ∨ (∃ i j, x = .str i ∧ y = .str j ∧ i.length + j.length ≤ sizeLine ∧ Q (.str (i ++ j)) H) ∨ rCat x y H Q ∨ rCatA K x y H Q
theorem or_addG (hK : X.K = G.K) : OpR X (binaryOp .Add) (rAddG G.K) := by
  rw [← hK]
  exact op_add.or (op_add_str.or (op_cat.or op_catA))
def gAdd : PyData → PyData → Option PyData
  | .int i, .int j => some (.int (i + j))
  | .str x, .str y => if x.length + y.length ≤ sizeLine then some (.str (x ++ y)) else none
  | .list xs, .list ys => if xs.length + ys.length ≤ sizeLine then some (.list (xs ++ ys)) else none
  | .tuple xs, .tuple ys => if xs.length + ys.length ≤ sizeLine then some (.tuple (xs ++ ys)) else none
  | _, _ => none
theorem od_add : OpD G (rAddG G.K) gAdd := by
  intro A H x y dx dy d Q all rx ry e q
  unfold gAdd at e
  split at e
  · cases e
    rw [rep_int rx, rep_int ry]
    exact .inl ⟨_, _, rfl, rfl, q _ _ (Same.refl _) (.int _)⟩
  · split at e
    · rename_i h
      cases e
      rw [rep_str rx, rep_str ry]
      exact .inr (.inl ⟨_, _, rfl, rfl, h, q _ _ (Same.refl _) (.str _)⟩)
    · cases e
  · split at e
    · rename_i xs ys h
      cases e
      obtain ⟨a, us, rfl, h1, n1, r1⟩ := rep_list rx
      obtain ⟨b, ws, rfl, h2, n2, r2⟩ := rep_list ry
      exact .inr (.inr (.inl ⟨a, b, us, ws, rfl, rfl, h1, h2, by rw [r1.length, r2.length]; exact h, new_lst all (r1.append r2) q⟩))
    · cases e
  · split at e
    · rename_i xs ys h
      cases e
      obtain ⟨a, us, rfl, h1, r1⟩ := rep_tup rx
      obtain ⟨b, ws, rfl, h2, r2⟩ := rep_tup ry
      refine .inr (.inr (.inr ⟨a, b, us, ws, rfl, rfl, h1, h2, by rw [r1.length, r2.length]; exact h, fun z => ?_, fun _ z => ?_, fun _ _ => new_tup (r1.append r2) q⟩))
      · subst z
        have : xs = [] := by cases r1; rfl
        subst this
        exact q _ _ (Same.refl _) (.tup h2 (by simpa using r2))
      · subst z
        have : ys = [] := by cases r2; rfl
        subst this
        exact q _ _ (Same.refl _) (.tup h1 (by simpa using r1))
    · cases e
  · cases e
def gInt (f : Int → Int → Option PyData) : PyData → PyData → Option PyData
  | .int i, .int j => f i j
  | _, _ => none
theorem gInt_some {f : Int → Int → Option PyData} {dx dy d : PyData} (h : gInt f dx dy = some d) : ∃ i j, dx = .int i ∧ dy = .int j ∧ f i j = some d := by
  unfold gInt at h
  split at h
  · exact ⟨_, _, rfl, rfl, h⟩
  · cases h
def gSub : PyData → PyData → Option PyData := gInt fun i j => some (.int (i - j))
theorem od_sub : OpD G (rI0 fun i j => .int (i - j)) gSub := by
  intro A H x y dx dy d Q all rx ry e q
  obtain ⟨i, j, rfl, rfl, e2⟩ := gInt_some e
  cases e2
  rw [rep_int rx, rep_int ry]
  exact ⟨_, _, rfl, rfl, q _ _ (Same.refl _) (.int _)⟩
def lim64 : Int → Bool
  | .ofNat n => Nat.ble n 18446744073709551615
  | .negSucc n => Nat.ble n 18446744073709551614
theorem lim64_ok {i : Int} (h : lim64 i = true) : -(2 ^ 64) < i ∧ i < 2 ^ 64 := by
  cases i with
  | ofNat n =>
    have h := Nat.le_of_ble_eq_true h
    show -(2 ^ 64) < (n : Int) ∧ (n : Int) < 2 ^ 64
    constructor <;> omega
  | negSucc n =>
    have h := Nat.le_of_ble_eq_true h
    rw [Int.negSucc_eq]
    constructor <;> omega
def repN (k : Nat) (xs : List PyData) : List PyData := (List.replicate k xs).flatten
theorem rep_repN {K : PySem.W.Frag} {A : List Addr} {H : Hp} {us : List V} {ds : List PyData} (r : RepAll K A H us ds) : ∀ n : Nat, RepAll K A H (List.replicate n us).flatten (repN n ds)
  | 0 => .nil
  | n + 1 => by
    unfold repN
    rw [List.replicate_succ, List.replicate_succ, List.flatten_cons, List.flatten_cons]
    exact r.append (rep_repN r n)
def rMulG (K : PySem.W.Frag) : R2 := fun x y H Q => rI CMul (fun i j => .int (i * j)) x y H Q ∨ rRep x y H Q ∨ rRepT K x y H Q
theorem or_mulG (hK : X.K = G.K) : OpR X (binaryOp .Mult) (rMulG G.K) := by
  rw [← hK]
  exact op_mul.or (op_rep.or op_repT)
def gMul : PyData → PyData → Option PyData
  | .int i, .int j => if lim64 i || lim64 j then some (.int (i * j)) else none
  | .list xs, .int k => if decide (-(2 ^ 63) ≤ k) && decide (k < 2 ^ 63) && decide (xs.length * k.toNat ≤ sizeLine) then some (.list (repN k.toNat xs)) else none
  | .tuple xs, .int k => if !xs.isEmpty && decide (2 ≤ k) && decide (k ≤ 1000) && decide (xs.length ≤ 1000) then some (.tuple (repN k.toNat xs)) else none
  | _, _ => none
theorem od_mul : OpD G (rMulG G.K) gMul := by
  intro A H x y dx dy d Q all rx ry e q
  unfold gMul at e
  split at e
  · split at e
    · rename_i i j h
      cases e
      rw [rep_int rx, rep_int ry]
      refine .inl ⟨_, _, rfl, rfl, ?_, q _ _ (Same.refl _) (.int _)⟩
      rcases Bool.or_eq_true_iff.mp h with z | z
      · exact .inl (lim64_ok z)
      · exact .inr (lim64_ok z)
    · cases e
  · split at e
    · rename_i xs k h
      cases e
      simp only [Bool.and_eq_true, decide_eq_true_eq] at h
      obtain ⟨a, us, rfl, h1, n1, r1⟩ := rep_list rx
      rw [rep_int ry]
      exact .inr (.inl ⟨a, k, us, rfl, rfl, h1, h.1.1, h.1.2, by rw [r1.length]; exact h.2, new_lst all (rep_repN r1 _) q⟩)
    · cases e
  · split at e
    · rename_i xs k h
      cases e
      simp only [Bool.and_eq_true, decide_eq_true_eq, Bool.not_eq_true', List.isEmpty_eq_false_iff] at h
      obtain ⟨a, us, rfl, h1, r1⟩ := rep_tup rx
      rw [rep_int ry]
      exact .inr (.inr ⟨a, k, us, rfl, rfl, h1, fun z => h.1.1.1 (by subst z; cases r1; rfl), h.1.1.2, h.1.2, by rw [r1.length]; exact h.2, new_tup (rep_repN r1 _) q⟩)
    · cases e
  · cases e
def gIMul : PyData → PyData → Option PyData := gInt fun i j => if lim64 i || lim64 j then some (.int (i * j)) else none
theorem od_imul : OpD G (rI CMul fun i j => .int (i * j)) gIMul := by
  intro A H x y dx dy d Q all rx ry e q
  obtain ⟨i, j, rfl, rfl, e2⟩ := gInt_some e
  split at e2
  · rename_i h
    cases e2
    rw [rep_int rx, rep_int ry]
    refine ⟨_, _, rfl, rfl, ?_, q _ _ (Same.refl _) (.int _)⟩
    rcases Bool.or_eq_true_iff.mp h with z | z
    · exact .inl (lim64_ok z)
    · exact .inr (lim64_ok z)
  · cases e2
def gMod : PyData → PyData → Option PyData := gInt fun i j => if 0 < j then some (.int (i % j)) else none
theorem od_mod : OpD G (rI (fun _ j => 0 < j) fun i j => .int (i % j)) gMod := by
  intro A H x y dx dy d Q all rx ry e q
  obtain ⟨i, j, rfl, rfl, e2⟩ := gInt_some e
  split at e2
  · rename_i h
    cases e2
    rw [rep_int rx, rep_int ry]
    exact ⟨_, _, rfl, rfl, h, q _ _ (Same.refl _) (.int _)⟩
  · cases e2
def lim30 : Int → Bool
  | .ofNat n => Nat.ble 1 n && Nat.ble n 1073741823
  | .negSucc _ => false
theorem lim30_ok {i : Int} (h : lim30 i = true) : 0 < i ∧ i < 1073741824 := by
  cases i with
  | ofNat n =>
    unfold lim30 at h
    rw [Bool.and_eq_true] at h
    have h1 := Nat.le_of_ble_eq_true h.1
    have h2 := Nat.le_of_ble_eq_true h.2
    show 0 < (n : Int) ∧ (n : Int) < 1073741824
    constructor <;> omega
  | negSucc n => cases h
def gDiv : PyData → PyData → Option PyData := gInt fun i j => if lim30 j then some (.int (i / j)) else none
theorem od_div : OpD G (rI CDiv fun i j => .int (i / j)) gDiv := by
  intro A H x y dx dy d Q all rx ry e q
  obtain ⟨i, j, rfl, rfl, e2⟩ := gInt_some e
  split at e2
  · rename_i h
    cases e2
    rw [rep_int rx, rep_int ry]
    exact ⟨_, _, rfl, rfl, lim30_ok h, q _ _ (Same.refl _) (.int _)⟩
  · cases e2
def gPowOk (i j : Int) : Bool := decide (0 ≤ j) && decide (j ≤ 1000000) && decide (i.natAbs < 2 ^ 64)
theorem gPowOk_ok {i j : Int} (h : gPowOk i j = true) : CPow i j := by
  unfold gPowOk at h
  simp only [Bool.and_eq_true, decide_eq_true_eq] at h
  exact ⟨h.1.1, h.1.2, h.2⟩
def gPow : PyData → PyData → Option PyData := gInt fun i j => if gPowOk i j then some (.int (i ^ j.toNat)) else none
theorem od_pow : OpD G (rI CPow fun i j => .int (i ^ j.toNat)) gPow := by
  intro A H x y dx dy d Q all rx ry e q
  obtain ⟨i, j, rfl, rfl, e2⟩ := gInt_some e
  split at e2
  · rename_i h
    cases e2
    rw [rep_int rx, rep_int ry]
    exact ⟨_, _, rfl, rfl, gPowOk_ok h, q _ _ (Same.refl _) (.int _)⟩
  · cases e2
def gShl : PyData → PyData → Option PyData := gInt fun i j => if gPowOk i j then some (.int (i * 2 ^ j.toNat)) else none
theorem od_shl : OpD G (rI CPow fun i j => .int (i * 2 ^ j.toNat)) gShl := by
  intro A H x y dx dy d Q all rx ry e q
  obtain ⟨i, j, rfl, rfl, e2⟩ := gInt_some e
  split at e2
  · rename_i h
    cases e2
    rw [rep_int rx, rep_int ry]
    exact ⟨_, _, rfl, rfl, gPowOk_ok h, q _ _ (Same.refl _) (.int _)⟩
  · cases e2
/-! comparisons -/
def gLe : PyData → PyData → Option PyData := gInt fun i j => some (.bool (decide (i ≤ j)))
def gGt : PyData → PyData → Option PyData := gInt fun i j => some (.bool (decide (j < i)))
def gGe : PyData → PyData → Option PyData := gInt fun i j => some (.bool (decide (j ≤ i)))
theorem od_le : OpD G (rI0 fun i j => .bl (decide (i ≤ j))) gLe := by
  intro A H x y dx dy d Q all rx ry e q
  obtain ⟨i, j, rfl, rfl, e2⟩ := gInt_some e
  cases e2
  rw [rep_int rx, rep_int ry]
  exact ⟨_, _, rfl, rfl, q _ _ (Same.refl _) (.bl _)⟩
theorem od_gt : OpD G (rI0 fun i j => .bl (decide (j < i))) gGt := by
  intro A H x y dx dy d Q all rx ry e q
  obtain ⟨i, j, rfl, rfl, e2⟩ := gInt_some e
  cases e2
  rw [rep_int rx, rep_int ry]
  exact ⟨_, _, rfl, rfl, q _ _ (Same.refl _) (.bl _)⟩
theorem od_ge : OpD G (rI0 fun i j => .bl (decide (j ≤ i))) gGe := by
  intro A H x y dx dy d Q all rx ry e q
  obtain ⟨i, j, rfl, rfl, e2⟩ := gInt_some e
  cases e2
  rw [rep_int rx, rep_int ry]
  exact ⟨_, _, rfl, rfl, q _ _ (Same.refl _) (.bl _)⟩
/-- the ints of a list of ints -/
def intsOf : List PyData → Option (List Int)
  | [] => some []
  | .int i :: xs => (intsOf xs).map (i :: ·)
  | _ => none
theorem intsOf_some : ∀ {ds : List PyData} {ns : List Int}, intsOf ds = some ns → ds = ns.map PyData.int
  | [], ns, h => by cases h; rfl
  | d :: ds, ns, h => by
    cases d with
    | int i =>
      simp only [intsOf] at h
      cases q : intsOf ds with
      | none => rw [q] at h; cases h
      | some ms =>
        rw [q] at h
        cases h
        rw [intsOf_some q]
        rfl
    | _ => simp [intsOf] at h
theorem intsOf_map : ∀ ns : List Int, intsOf (ns.map PyData.int) = some ns
  | [] => rfl
  | n :: ns => by
    show (intsOf (ns.map PyData.int)).map (n :: ·) = _
    rw [intsOf_map ns]
    rfl
def gLt : PyData → PyData → Option PyData
  | .int i, .int j => some (.bool (decide (i < j)))
  | .tuple xs, .tuple ys => (intsOf xs).bind fun ns => (intsOf ys).map fun ms => .bool (HT.lexLt ns ms)
  | _, _ => none
def rLtG (K : PySem.W.Frag) : R2 := fun x y H Q => rI0 (fun i j => .bl (decide (i < j))) x y H Q ∨ rLtT K x y H Q
theorem or_ltG (hK : X.K = G.K) (hu : X.A.units < cLine) : OpR X (compareOp .Lt) (rLtG G.K) := by
  rw [← hK]
  exact op_lt.or (op_ltT hu)
theorem od_lt : OpD G (rLtG G.K) gLt := by
  intro A H x y dx dy d Q all rx ry e q
  unfold gLt at e
  split at e
  · cases e
    rw [rep_int rx, rep_int ry]
    exact .inl ⟨_, _, rfl, rfl, q _ _ (Same.refl _) (.bl _)⟩
  · obtain ⟨ns, e1, e⟩ := Option.bind_eq_some_iff.mp e
    obtain ⟨ms, e2, e⟩ := Option.map_eq_some_iff.mp e
    cases e
    rw [intsOf_some e1] at rx
    rw [intsOf_some e2] at ry
    obtain ⟨a, us, rfl, h1, r1⟩ := rep_tup rx
    obtain ⟨b, ws, rfl, h2, r2⟩ := rep_tup ry
    rw [r1.ints] at h1
    rw [r2.ints] at h2
    exact .inr ⟨a, b, ns, ms, rfl, rfl, h1, h2, q _ _ (Same.refl _) (.bl _)⟩
  · cases e
/-- data that == reads -/
def okD (d : PyData) : Bool := ndd d && SeqAt.shaped d
theorem okD_ok {d : PyData} (h : okD d = true) : ndd d = true ∧ SeqAt.shaped d = true := by
  unfold okD at h
  simpa using h
def gEq (x y : PyData) : Option PyData := if okD x && okD y then some (.bool (PyData.eqv x y)) else none
def gNe (x y : PyData) : Option PyData := if okD x && okD y then some (.bool (!PyData.eqv x y)) else none
theorem or_eqG (hK : X.K = G.K) (hu : X.A.units + 64 < cLine) : OpR X (compareOp .Eq) (rEqD G.K) := by
  rw [← hK]
  exact op_eqD hu
theorem or_neG (hK : X.K = G.K) (hu : X.A.units + 64 < cLine) : OpR X (compareOp .NotEq) (rNeD G.K) := by
  rw [← hK]
  exact op_neD hu
theorem od_eq : OpD G (rEqD G.K) gEq := by
  intro A H x y dx dy d Q all rx ry e q
  unfold gEq at e
  split at e
  · rename_i h
    cases e
    simp only [Bool.and_eq_true] at h
    obtain ⟨h1, h2⟩ := okD_ok h.1
    obtain ⟨h3, h4⟩ := okD_ok h.2
    exact ⟨dx, dy, rx.dp h1, ry.dp h3, h2, h4, q _ _ (Same.refl _) (.bl _)⟩
  · cases e
theorem od_ne : OpD G (rNeD G.K) gNe := by
  intro A H x y dx dy d Q all rx ry e q
  unfold gNe at e
  split at e
  · rename_i h
    cases e
    simp only [Bool.and_eq_true] at h
    obtain ⟨h1, h2⟩ := okD_ok h.1
    obtain ⟨h3, h4⟩ := okD_ok h.2
    exact ⟨dx, dy, rx.dp h1, ry.dp h3, h2, h4, q _ _ (Same.refl _) (.bl _)⟩
  · cases e
/-- x in a list -/
def gIn (neg : Bool) (x y : PyData) : Option PyData := match y with
  | .list ds => if okD x && okD (.list ds) then some (.bool (if neg then !ds.any fun z => PyData.eqv z x else ds.any fun z => PyData.eqv z x)) else none
  | _ => none
theorem or_inG (hK : X.K = G.K) (hu : X.A.units + 65 < cLine) : OpR X (compareOp .In) (rInD G.K) := by
  rw [← hK]
  exact op_inD hu
theorem or_notinG (hK : X.K = G.K) (hu : X.A.units + 65 < cLine) : OpR X (compareOp .NotIn) (rNotInD G.K) := by
  rw [← hK]
  exact op_notInD hu
theorem od_in : OpD G (rInD G.K) (gIn false) := by
  intro A H x y dx dy d Q all rx ry e q
  unfold gIn at e
  split at e
  · split at e
    · rename_i ds h
      cases e
      simp only [Bool.and_eq_true] at h
      obtain ⟨h1, h2⟩ := okD_ok h.1
      obtain ⟨h3, h4⟩ := okD_ok h.2
      exact ⟨dx, ds, rx.dp h1, ry.dp h3, h2, h4, q _ _ (Same.refl _) (.bl _)⟩
    · cases e
  · cases e
theorem od_notin : OpD G (rNotInD G.K) (gIn true) := by
  intro A H x y dx dy d Q all rx ry e q
  unfold gIn at e
  split at e
  · split at e
    · rename_i ds h
      cases e
      simp only [Bool.and_eq_true] at h
      obtain ⟨h1, h2⟩ := okD_ok h.1
      obtain ⟨h3, h4⟩ := okD_ok h.2
      exact ⟨dx, ds, rx.dp h1, ry.dp h3, h2, h4, q _ _ (Same.refl _) (.bl _)⟩
    · cases e
  · cases e
/-- x in a list or tuple of flat things -/
def flatD : PyData → Bool
  | .none => true
  | .bool _ => true
  | .int _ => true
  | .str _ => true
  | _ => false
theorem flat_fv {v : V} {d : PyData} {A : List Addr} {H : Hp} (r : Rep G.K A H v d) (h : flatD d = true) : v = fv d ∧ L2.flatV v = true := by
  cases r <;> first | exact ⟨rfl, rfl⟩ | (simp [flatD, scr, dctD] at h)
theorem flat_all {A : List Addr} {H : Hp} : ∀ {vs : List V} {ds : List PyData}, RepAll G.K A H vs ds → ds.all flatD = true → vs = ds.map fv ∧ vs.all L2.flatV = true
  | _, _, .nil, _ => ⟨rfl, rfl⟩
  | _, _, .cons r rs, h => by
    simp only [List.all_cons, Bool.and_eq_true] at h
    obtain ⟨e1, e2⟩ := flat_fv r h.1
    obtain ⟨e3, e4⟩ := flat_all rs h.2
    subst e1
    exact ⟨by rw [e3]; rfl, by rw [List.all_cons, e2, e4]; rfl⟩
def gInF (neg : Bool) (x y : PyData) : Option PyData := match seqOf y with
  | some ds => if flatD x && ds.all flatD then some (.bool (if neg then !inV (fv x) (ds.map fv) else inV (fv x) (ds.map fv))) else none
  | none => none
theorem or_inF (hK : X.K = G.K) : OpR X (compareOp .In) (rIn G.K false) := by
  rw [← hK]
  exact op_in_seq
theorem or_notinF (hK : X.K = G.K) : OpR X (compareOp .NotIn) (rIn G.K true) := by
  rw [← hK]
  exact op_notIn_seq
theorem od_inF {neg : Bool} : OpD G (rIn G.K neg) (gInF neg) := by
  intro A H x y dx dy d Q all rx ry e q
  unfold gInF at e
  cases hs : seqOf dy with
  | none => rw [hs] at e; cases e
  | some ds =>
    rw [hs] at e
    simp only at e
    split at e
    · rename_i h
      cases e
      simp only [Bool.and_eq_true] at h
      obtain ⟨e1, e2⟩ := flat_fv rx h.1
      cases dy <;> simp only [seqOf] at hs <;> cases hs
      · obtain ⟨a, us, rfl, h1, n1, r1⟩ := rep_list ry
        obtain ⟨e3, e4⟩ := flat_all r1 h.2
        refine ⟨a, us, rfl, .inl (.inl (.inl h1)), e2, e4, ?_⟩
        rw [e1, e3]
        exact q _ _ (Same.refl _) (.bl _)
      · obtain ⟨a, us, rfl, h1, r1⟩ := rep_tup ry
        obtain ⟨e3, e4⟩ := flat_all r1 h.2
        refine ⟨a, us, rfl, .inr h1, e2, e4, ?_⟩
        rw [e1, e3]
        exact q _ _ (Same.refl _) (.bl _)
    · cases e
/-- is None, is True -/
def isNone : PyData → Bool
  | .none => true
  | _ => false
def gIsN (neg : Bool) (x y : PyData) : Option PyData := match y with
  | .none => some (.bool (if neg then !isNone x else isNone x))
  | _ => none
theorem isNone_rep {v : V} {d : PyData} {A : List Addr} {H : Hp} (r : Rep G.K A H v d) : decide (v = .non) = isNone d := by
  cases r <;> rfl
theorem od_isN : OpD G (fun x y H Q => y = .non ∧ Q (.bl (decide (x = .non))) H) (gIsN false) := by
  intro A H x y dx dy d Q all rx ry e q
  unfold gIsN at e
  split at e
  · cases e
    cases ry
    refine ⟨rfl, ?_⟩
    rw [isNone_rep rx]
    exact q _ _ (Same.refl _) (.bl _)
  · cases e
theorem od_notN : OpD G (fun x y H Q => y = .non ∧ Q (.bl (!decide (x = .non))) H) (gIsN true) := by
  intro A H x y dx dy d Q all rx ry e q
  unfold gIsN at e
  split at e
  · cases e
    cases ry
    refine ⟨rfl, ?_⟩
    rw [isNone_rep rx]
    exact q _ _ (Same.refl _) (.bl _)
  · cases e
def gIsB (neg : Bool) (x y : PyData) : Option PyData := match x, y with
  | .bool a, .bool b => some (.bool (if neg then !decide (a = b) else decide (a = b)))
  | _, _ => none
theorem od_isB : OpD G rIsB (gIsB false) := by
  intro A H x y dx dy d Q all rx ry e q
  unfold gIsB at e
  split at e
  · cases e
    exact ⟨_, _, rep_bl rx, rep_bl ry, q _ _ (Same.refl _) (.bl _)⟩
  · cases e
theorem od_notB : OpD G rNotB (gIsB true) := by
  intro A H x y dx dy d Q all rx ry e q
  unfold gIsB at e
  split at e
  · cases e
    exact ⟨_, _, rep_bl rx, rep_bl ry, q _ _ (Same.refl _) (.bl _)⟩
  · cases e
/-! subscripts -/
theorem rep_scr {K : PySem.W.Frag} {A : List Addr} {H : Hp} {v : V} {ds : List PyData} (h : Rep K A H v (.dict [(.none, .list ds)])) : ∃ (a : Addr) (ns : List Int), v = .ref a ∧ ds = ns.map PyData.int ∧ SqL K H a (ns.map V.int) := by
  generalize e : PyData.dict [(.none, .list ds)] = d at h
  cases h with
  | @scr a ns q =>
    have e : PyData.dict [(.none, .list ds)] = .dict [(.none, .list (ns.map PyData.int))] := e
    injection e with e
    injection e with e1 e2
    injection e1 with e3 e4
    injection e4 with e5
    exact ⟨a, ns, rfl, e5, q.sql⟩
  | @dct a o ps q =>
    unfold dctD at e
    injection e with e
    cases ps with
    | nil => cases e
    | cons p ps => cases e
  | _ => cases e
def gIx : PyData → PyData → Option PyData
  | .dict [(.none, .list ds)], .int i => atI ds i
  | .list ds, .int i => atI ds i
  | .tuple ds, .int i => atI ds i
  | _, _ => none
theorem or_ix (hK : X.K = G.K) : IxR X (rIx G.K) := by
  rw [← hK]
  exact ix_seq
theorem atI_rep {A : List Addr} {H : Hp} {us : List V} {ds : List PyData} {i : Int} {d : PyData} (r : RepAll G.K A H us ds) (h : atI ds i = some d) : ∃ v, atI us i = some v ∧ Rep G.K A H v d := by
  unfold atI at h ⊢
  rw [← r.length] at h
  obtain ⟨j, e, h⟩ := Option.bind_eq_some_iff.mp h
  obtain ⟨v, h1, h2⟩ := r.get h
  exact ⟨v, by rw [e]; exact h1, h2⟩
theorem od_ix : OpD G (rIx G.K) gIx := by
  intro A H x y dx dy d Q all rx ry e q
  unfold gIx at e
  split at e
  · obtain ⟨a, ns, rfl, rfl, h1⟩ := rep_scr rx
    obtain ⟨v, h2, h3⟩ := atI_rep (RepAll.of_ints (K := G.K) (A := A) (H := H) ns) e
    rw [rep_int ry]
    exact .inl ⟨a, _, _, v, rfl, rfl, h1, h2, q _ _ (Same.refl _) h3⟩
  · obtain ⟨a, us, rfl, h1, n1, r1⟩ := rep_list rx
    obtain ⟨v, h2, h3⟩ := atI_rep r1 e
    rw [rep_int ry]
    exact .inl ⟨a, us, _, v, rfl, rfl, .inl (.inl h1), h2, q _ _ (Same.refl _) h3⟩
  · obtain ⟨a, us, rfl, h1, r1⟩ := rep_tup rx
    obtain ⟨v, h2, h3⟩ := atI_rep r1 e
    rw [rep_int ry]
    exact .inr (.inl ⟨a, us, _, v, rfl, rfl, h1, h2, q _ _ (Same.refl _) h3⟩)
  · cases e

/-! ### built-ins -/
def gLen : List PyData → Option PyData
  | [.dict [(.none, .list xs)]] => some (.int xs.length)
  | [.list xs] => some (.int xs.length)
  | [.tuple xs] => some (.int xs.length)
  | [.str x] => if x.length ≤ sizeLine then some (.int x.length) else none
  | _ => none
theorem cr_lenG (hK : X.K = G.K) : CallR X (.builtin "len") (fun xs H Q => ∃ x n, xs = [x] ∧ LenV G.K x H n ∧ Q (.int n) H) := by
  rw [← hK]
  exact call_len
theorem cd_len : CallD G (fun xs H Q => ∃ x n, xs = [x] ∧ LenV G.K x H n ∧ Q (.int n) H) gLen := by
  intro A H xs ds d Q all r e q
  unfold gLen at e
  split at e
  · cases e
    match xs, r with
    | [_], .cons rx .nil =>
      obtain ⟨a, ns, rfl, rfl, h1⟩ := rep_scr rx
      exact ⟨_, _, rfl, .inl ⟨_, h1, rfl⟩, by rw [List.length_map, ← List.length_map (f := PyData.int)]; exact q _ _ (Same.refl _) (.int _)⟩
  · cases e
    match xs, r with
    | [_], .cons rx .nil =>
      obtain ⟨a, us, rfl, h1, n1, r1⟩ := rep_list rx
      exact ⟨_, _, rfl, .inl ⟨us, .inl (.inl h1), rfl⟩, by rw [r1.length]; exact q _ _ (Same.refl _) (.int _)⟩
  · cases e
    match xs, r with
    | [_], .cons rx .nil =>
      obtain ⟨a, us, rfl, h1, r1⟩ := rep_tup rx
      exact ⟨_, _, rfl, .inr ⟨us, h1, rfl⟩, by rw [r1.length]; exact q _ _ (Same.refl _) (.int _)⟩
  · split at e
    · rename_i x h
      cases e
      match xs, r with
      | [_], .cons rx .nil =>
        rw [rep_str rx]
        exact ⟨_, _, rfl, ⟨h, rfl⟩, q _ _ (Same.refl _) (.int _)⟩
    · cases e
  · cases e
def gTupOf : List PyData → Option PyData
  | [.list xs] => some (.tuple xs)
  | [.tuple xs] => some (.tuple xs)
  | _ => none
def rTupOf (K : PySem.W.Frag) : List V → Hp → VK → Prop := fun xs H Q => ∃ p ys, xs = [.ref p] ∧ ((SqL K H p ys ∧ ∀ l, H l = none → Q (.ref l) (upd H l (.tup ys))) ∨ (SqT K H p ys ∧ Q (.ref p) H))
theorem cr_tupOf (hK : X.K = G.K) : CallR X (.type "tuple") (rTupOf G.K) := by
  rw [← hK]
  exact call_tuple_of
theorem cd_tupOf : CallD G (rTupOf G.K) gTupOf := by
  intro A H xs ds d Q all r e q
  unfold gTupOf at e
  split at e
  · cases e
    match xs, r with
    | [_], .cons rx .nil =>
      obtain ⟨a, us, rfl, h1, n1, r1⟩ := rep_list rx
      exact ⟨_, us, rfl, .inl ⟨.inl (.inl h1), new_tup r1 q⟩⟩
  · cases e
    match xs, r with
    | [_], .cons rx .nil =>
      obtain ⟨a, us, rfl, h1, r1⟩ := rep_tup rx
      exact ⟨_, us, rfl, .inr ⟨h1, q _ _ (Same.refl _) (.tup h1 r1)⟩⟩
  · cases e
def gLstOf : List PyData → Option PyData
  | [.list xs] => some (.list xs)
  | [.tuple xs] => some (.list xs)
  | _ => none
def rLstOf (K : PySem.W.Frag) : List V → Hp → VK → Prop := fun xs H Q => ∃ p ys, xs = [.ref p] ∧ (SqL K H p ys ∨ SqT K H p ys) ∧ ∀ l, H l = none → Q (.ref l) (upd H l (.lst ys))
theorem cr_lstOf (hK : X.K = G.K) : CallR X (.type "list") (rLstOf G.K) := by
  rw [← hK]
  exact call_list_of
theorem cd_lstOf : CallD G (rLstOf G.K) gLstOf := by
  intro A H xs ds d Q all r e q
  unfold gLstOf at e
  split at e
  · cases e
    match xs, r with
    | [_], .cons rx .nil =>
      obtain ⟨a, us, rfl, h1, n1, r1⟩ := rep_list rx
      exact ⟨_, us, rfl, .inl (.inl (.inl h1)), new_lst all r1 q⟩
  · cases e
    match xs, r with
    | [_], .cons rx .nil =>
      obtain ⟨a, us, rfl, h1, r1⟩ := rep_tup rx
      exact ⟨_, us, rfl, .inr h1, new_lst all r1 q⟩
  · cases e
def gSum : List PyData → Option PyData
  | [.list xs] => (intsOf xs).map fun ns => .int ns.sum
  | _ => none
theorem cr_sumG (hK : X.K = G.K) (hc : X.calm = true) : CallR X (.builtin "sum") (rSum G.K) := by
  rw [← hK]
  exact cr_sum hc
theorem cd_sum : CallD G (rSum G.K) gSum := by
  intro A H xs ds d Q all r e q
  unfold gSum at e
  split at e
  · obtain ⟨ns, e1, e⟩ := Option.map_eq_some_iff.mp e
    cases e
    match xs, r with
    | [_], .cons rx .nil =>
      rw [intsOf_some e1] at rx
      obtain ⟨a, us, rfl, h1, n1, r1⟩ := rep_list rx
      rw [r1.ints] at h1
      exact ⟨a, ns, rfl, .inl (.inl h1), q _ _ (Same.refl _) (.int _)⟩
  · cases e
/-- the greatest of ints -/
def maxI : List Int → Int
  | [] => 0
  | [x] => x
  | x :: xs => if maxI xs ≤ x then x else maxI xs
theorem maxI_spec : ∀ ns : List Int, ns ≠ [] → maxI ns ∈ ns ∧ ∀ x ∈ ns, x ≤ maxI ns
  | [], h => (h rfl).elim
  | [x], _ => ⟨List.mem_singleton.mpr rfl, fun y m => by rw [List.mem_singleton.mp m]; exact Int.le_refl _⟩
  | x :: y :: ys, _ => by
    obtain ⟨h1, h2⟩ := maxI_spec (y :: ys) (by simp)
    show (if maxI (y :: ys) ≤ x then x else maxI (y :: ys)) ∈ _ ∧ ∀ z ∈ x :: y :: ys, z ≤ if maxI (y :: ys) ≤ x then x else maxI (y :: ys)
    split
    · rename_i h
      refine ⟨List.mem_cons_self, fun z m => ?_⟩
      rcases List.mem_cons.mp m with q | q
      · rw [q]; exact Int.le_refl _
      · exact Int.le_trans (h2 z q) h
    · rename_i h
      refine ⟨List.mem_cons_of_mem _ h1, fun z m => ?_⟩
      rcases List.mem_cons.mp m with q | q
      · rw [q]; omega
      · exact h2 z q
def gMax : List PyData → Option PyData
  | [.list xs] => (intsOf xs).bind fun ns => if ns.isEmpty then none else some (.int (maxI ns))
  | _ => none
theorem cr_maxG (hK : X.K = G.K) (hc : X.calm = true) : CallR X (.builtin "max") (rMax G.K) := by
  rw [← hK]
  exact cr_max hc
theorem cd_max : CallD G (rMax G.K) gMax := by
  intro A H xs ds d Q all r e q
  unfold gMax at e
  split at e
  · obtain ⟨ns, e1, e⟩ := Option.bind_eq_some_iff.mp e
    split at e
    · cases e
    · rename_i hne
      cases e
      have hne : ns ≠ [] := by simpa using hne
      match xs, r with
      | [_], .cons rx .nil =>
        rw [intsOf_some e1] at rx
        obtain ⟨a, us, rfl, h1, n1, r1⟩ := rep_list rx
        rw [r1.ints] at h1
        refine ⟨a, ns, rfl, .inl (.inl h1), List.length_pos_iff.mpr hne, fun m hm hle => ?_⟩
        obtain ⟨g1, g2⟩ := maxI_spec ns hne
        have : m = maxI ns := Int.le_antisymm (g2 m hm) (hle _ g1)
        subst this
        exact q _ _ (Same.refl _) (.int _)
  · cases e
/-- int(n), str(n) -/
def gIntOf : List PyData → Option PyData
  | [.int i] => some (.int i)
  | _ => none
theorem cd_int : CallD G (fun xs H Q => (∃ i, xs = [.int i] ∧ Q (.int i) H) ∨ ∃ k, xs = [.bl k] ∧ Q (.int (if k then 1 else 0)) H) gIntOf := by
  intro A H xs ds d Q all r e q
  unfold gIntOf at e
  split at e
  · cases e
    match xs, r with
    | [_], .cons rx .nil =>
      rw [rep_int rx]
      exact .inl ⟨_, rfl, q _ _ (Same.refl _) (.int _)⟩
  · cases e
def gStrOf : List PyData → Option PyData
  | [.int i] => if i.natAbs.log2 < 1920 then some (.str (Str.ofString (toString i))) else none
  | _ => none
end
end DL

-- text DL8
set_option Elab.async false
set_option linter.all false
set_option maxRecDepth 100000
set_option maxHeartbeats 2000000
namespace DL
open PySem PySem.Spec PyProof.Rows L2 GxR

/-! ### sorting by insertion -/
section
variable {α : Type}
def insB (le : α → α → Bool) (x : α) : List α → List α
  | [] => [x]
  | y :: ys => if le x y then x :: y :: ys else y :: insB le x ys
def isort (le : α → α → Bool) : List α → List α
  | [] => []
  | x :: xs => insB le x (isort le xs)
variable {le : α → α → Bool}
theorem ins_mem {x y : α} : ∀ {l : List α}, y ∈ insB le x l ↔ y = x ∨ y ∈ l
  | [] => by simp [insB]
  | z :: l => by
    unfold insB
    split
    · simp
    · rw [List.mem_cons, ins_mem (l := l), List.mem_cons]
      constructor
      · rintro (h | h | h)
        · exact .inr (.inl h)
        · exact .inl h
        · exact .inr (.inr h)
      · rintro (h | h | h)
        · exact .inr (.inl h)
        · exact .inl h
        · exact .inr (.inr h)
theorem isort_mem {y : α} : ∀ {l : List α}, y ∈ isort le l ↔ y ∈ l
  | [] => by simp [isort]
  | x :: l => by rw [isort, ins_mem, isort_mem (l := l), List.mem_cons]
theorem ins_perm (x : α) : ∀ l : List α, (insB le x l).Perm (x :: l)
  | [] => .refl _
  | z :: l => by
    unfold insB
    split
    · exact .refl _
    · exact ((ins_perm x l).cons z).trans (.swap x z l)
theorem isort_perm : ∀ l : List α, (isort le l).Perm l
  | [] => .refl _
  | x :: l => (ins_perm x (isort le l)).trans ((isort_perm l).cons x)
theorem isort_length (l : List α) : (isort le l).length = l.length := (isort_perm l).length_eq
theorem ins_pw (T : PySem.W.TotalLe le) (x : α) : ∀ {l : List α}, l.Pairwise (fun a b => le a b = true) → (insB le x l).Pairwise fun a b => le a b = true
  | [], _ => List.pairwise_singleton _ _
  | z :: l, h => by
    unfold insB
    split
    · rename_i hx
      refine List.pairwise_cons.mpr ⟨fun y m => ?_, h⟩
      rcases List.mem_cons.mp m with e | m
      · rw [e]; exact hx
      · exact T.trans _ _ _ hx ((List.pairwise_cons.mp h).1 y m)
    · rename_i hx
      obtain ⟨h1, h2⟩ := List.pairwise_cons.mp h
      refine List.pairwise_cons.mpr ⟨fun y m => ?_, ins_pw T x h2⟩
      rcases ins_mem.mp m with e | m
      · rw [e]
        exact (T.total x z).resolve_left hx
      · exact h1 y m
theorem isort_pw (T : PySem.W.TotalLe le) : ∀ l : List α, (isort le l).Pairwise fun a b => le a b = true
  | [] => .nil
  | x :: l => ins_pw T x (isort_pw T l)
theorem ins_filter (T : PySem.W.TotalLe le) (x c : α) : ∀ l : List α, (insB le x l).filter (PySem.W.sameRank le c) = (x :: l).filter (PySem.W.sameRank le c)
  | [] => rfl
  | z :: l => by
    unfold insB
    split
    · rfl
    · rename_i hx
      by_cases h1 : PySem.W.sameRank le c x = true
      · have h2 : ¬ PySem.W.sameRank le c z = true := fun h2 => by
          unfold PySem.W.sameRank at h1 h2
          simp only [Bool.and_eq_true] at h1 h2
          exact hx (T.trans _ _ _ h1.2 h2.1)
        rw [List.filter_cons_of_neg h2, ins_filter T x c l, List.filter_cons_of_pos h1, List.filter_cons_of_pos h1, List.filter_cons_of_neg h2]
      · rw [List.filter_cons_of_neg h1]
        by_cases h2 : PySem.W.sameRank le c z = true
        · rw [List.filter_cons_of_pos h2, List.filter_cons_of_pos h2, ins_filter T x c l, List.filter_cons_of_neg h1]
        · rw [List.filter_cons_of_neg h2, List.filter_cons_of_neg h2, ins_filter T x c l, List.filter_cons_of_neg h1]
theorem isort_filter (T : PySem.W.TotalLe le) (c : α) : ∀ l : List α, (isort le l).filter (PySem.W.sameRank le c) = l.filter (PySem.W.sameRank le c)
  | [] => rfl
  | x :: l => by
    rw [isort, ins_filter T, List.filter_cons, List.filter_cons, isort_filter T c l]
theorem isort_merge (T : PySem.W.TotalLe le) (l : List α) : isort le l = l.mergeSort le := PySem.W.sort_unique T (isort_pw T l) (isort_filter T · l)
end

/-! ### the order of data that are alike: by a key of ints -/
def lexB : List Int → List Int → Bool
  | [], [] => false
  | [], _ :: _ => true
  | _ :: _, [] => false
  | x :: xs, y :: ys => if x = y then lexB xs ys else decide (x < y)
theorem lexB_lt : ∀ xs ys : List Int, lexB xs ys = decide (xs < ys)
  | [], [] => by simp [lexB]
  | [], _ :: _ => by simp [lexB]
  | _ :: _, [] => by simp [lexB]
  | x :: xs, y :: ys => by
    unfold lexB
    by_cases h : x = y
    · rw [if_pos h, lexB_lt xs ys]
      simp [h, List.cons_lt_cons_iff]
    · rw [if_neg h]
      simp [h, List.cons_lt_cons_iff]
/-- 1: an int; 2: a tuple of ints; 3: an int and a tuple of ints -/
def isInts : List PyData → Bool
  | [] => true
  | .int _ :: xs => isInts xs
  | _ => false
def kindS : PyData → Nat
  | .int _ => 1
  | .tuple (.int _ :: xs) => if isInts xs then 2 else (match xs with
    | [.tuple ys] => if isInts ys then 3 else 0
    | _ => 0)
  | _ => 0
def ints0 : List PyData → List Int
  | [] => []
  | .int i :: xs => i :: ints0 xs
  | _ :: xs => ints0 xs
def keyS : PyData → List Int
  | .int i => [i]
  | .tuple (.int i :: xs) => i :: (match xs with
    | [.tuple ys] => ints0 ys
    | xs => ints0 xs)
  | _ => []
theorem isInts_map : ∀ {xs : List PyData}, isInts xs = true → xs = (ints0 xs).map PyData.int
  | [], _ => rfl
  | .int i :: xs, h => by
    have : isInts xs = true := h
    show PyData.int i :: xs = PyData.int i :: (ints0 xs).map PyData.int
    rw [← isInts_map this]
theorem ints0_map : ∀ ns : List Int, ints0 (ns.map PyData.int) = ns
  | [] => rfl
  | n :: ns => by
    show n :: ints0 (ns.map PyData.int) = n :: ns
    rw [ints0_map ns]
theorem kind1 {d : PyData} (h : kindS d = 1) : ∃ i, d = .int i := by
  unfold kindS at h
  split at h
  · exact ⟨_, rfl⟩
  · split at h
    · cases h
    · split at h
      · split at h <;> cases h
      · cases h
  · cases h
theorem keyS_tup {i : Int} : ∀ {xs : List PyData}, isInts xs = true → keyS (.tuple (.int i :: xs)) = i :: ints0 xs
  | [], _ => rfl
  | [.int _], _ => rfl
  | .int _ :: _ :: _, _ => rfl
theorem kind2 {d : PyData} (h : kindS d = 2) : ∃ i ns, d = .tuple (.int i :: ns.map PyData.int) ∧ keyS d = i :: ns := by
  unfold kindS at h
  split at h
  · cases h
  · rename_i i xs
    split at h
    · rename_i hx
      refine ⟨i, ints0 xs, by rw [← isInts_map hx], keyS_tup hx⟩
    · split at h
      · split at h <;> cases h
      · cases h
  · cases h
theorem kind3 {d : PyData} (h : kindS d = 3) : ∃ i ns, d = .tuple [.int i, .tuple (ns.map PyData.int)] ∧ keyS d = i :: ns := by
  unfold kindS at h
  split at h
  · cases h
  · rename_i i xs
    split at h
    · cases h
    · split at h
      · rename_i ys _
        split at h
        · rename_i hy
          refine ⟨i, ints0 ys, by rw [← isInts_map hy], rfl⟩
        · cases h
      · cases h
  · cases h
/-- data that sorted takes: all of one kind -/
def sortOk (ds : List PyData) : Bool := match ds with
  | [] => true
  | d :: ds => !(kindS d == 0) && ds.all fun e => kindS e == kindS d
def leK (a b : PyData) : Bool := !lexB (keyS b) (keyS a)
theorem leK_eq (a b : PyData) : leK a b = decide (keyS a ≤ keyS b) := by
  unfold leK
  rw [lexB_lt]
  by_cases h : keyS b < keyS a
  · have h' : ¬ keyS a ≤ keyS b := fun r => List.not_lt.mpr r h
    simp [h, h']
  · have h' : keyS a ≤ keyS b := List.not_lt.mp h
    simp [h, h']
theorem leK_total : PySem.W.TotalLe leK := ⟨fun a b c h1 h2 => by
  rw [leK_eq, decide_eq_true_eq] at *
  exact List.le_trans h1 h2, fun a b => by
  rw [leK_eq, leK_eq, decide_eq_true_eq, decide_eq_true_eq]
  exact List.le_total _ _⟩
theorem dataLe_id (a b : PyData) : PySem.W.dataLe false (fun d : PyData => d) a b = !PySem.W.dataLt b a := rfl
theorem toks_ints (xs ys : List Int) : PySem.W.rowLt (xs.map .int) (ys.map .int) = decide (xs < ys) := PySem.W.dataLt_ints xs ys

theorem dataLt_key {k : Nat} {a b : PyData} (ha : kindS a = k) (hb : kindS b = k) (hk : k ≠ 0) : PySem.W.dataLt a b = lexB (keyS a) (keyS b) := by
  have h3 : k = 1 ∨ k = 2 ∨ k = 3 := by
    have : kindS a ≤ 3 := by
      unfold kindS
      split
      · decide
      · split
        · decide
        · split
          · split <;> decide
          · decide
      · decide
    omega
  rcases h3 with rfl | rfl | rfl
  · obtain ⟨i, rfl⟩ := kind1 ha
    obtain ⟨j, rfl⟩ := kind1 hb
    rw [PySem.W.dataLt_int]
    show _ = if i = j then false else decide (i < j)
    by_cases h : i = j
    · rw [if_pos h]; simp [h]
    · rw [if_neg h]
  · obtain ⟨i, ns, rfl, e1⟩ := kind2 ha
    obtain ⟨j, ms, rfl, e2⟩ := kind2 hb
    rw [e1, e2, PySem.W.dataLt_tuple, lexB_lt]
    exact toks_ints (i :: ns) (j :: ms)
  · obtain ⟨i, ns, rfl, e1⟩ := kind3 ha
    obtain ⟨j, ms, rfl, e2⟩ := kind3 hb
    have al : PySem.W.alike (.tuple (ns.map PyData.int)) (.tuple (ms.map PyData.int)) = true := by
      show PySem.W.alikeAll _ _ = true
      exact PySem.W.alike_ints ns ms
    rw [e1, e2, PySem.W.dataLt_pair (by simp [PySem.W.alike]) al, PySem.W.dataLt_int, PySem.W.dataLt_tuple]
    have t := toks_ints ns ms
    unfold PySem.W.rowLt at t
    rw [t]
    show _ = if i = j then lexB ns ms else decide (i < j)
    rw [lexB_lt]
    by_cases h : i = j
    · have h' : PyData.eqv (.int i) (.int j) = true := by simp [PyData.eqv, h]
      rw [if_pos h', if_pos h]
      by_cases h2 : PyData.eqv (.tuple (ns.map PyData.int)) (.tuple (ms.map PyData.int)) = true
      · rw [if_pos h2]
        have : ns = ms := eqv_ints h2
        subst this
        simp [List.lt_irrefl]
      · rw [if_neg h2]
    · have h' : ¬ PyData.eqv (.int i) (.int j) = true := by simp [PyData.eqv, h]
      rw [if_neg h', if_neg h]
where
  eqv_ints {ns ms : List Int} (h : PyData.eqv (.tuple (ns.map PyData.int)) (.tuple (ms.map PyData.int)) = true) : ns = ms := by
    have h : PyData.eqvAll (ns.map PyData.int) (ms.map PyData.int) = true := by simpa [PyData.eqv] using h
    induction ns generalizing ms with
    | nil => cases ms with
      | nil => rfl
      | cons m ms => simp [PyData.eqvAll] at h
    | cons n ns ih => cases ms with
      | nil => simp [PyData.eqvAll] at h
      | cons m ms =>
        rw [List.map_cons, List.map_cons, PyData.eqvAll, Bool.and_eq_true] at h
        have e : n = m := by simpa [PyData.eqv] using h.1
        rw [e, ih (by simp [PyData.eqv, h.2]) h.2]
theorem sortOk_kind {ds : List PyData} (h : sortOk ds = true) : ∃ k, k ≠ 0 ∧ ∀ d ∈ ds, kindS d = k := by
  cases ds with
  | nil => exact ⟨1, by decide, fun d m => by cases m⟩
  | cons d ds =>
    unfold sortOk at h
    simp only [Bool.and_eq_true, Bool.not_eq_true', beq_eq_false_iff_ne, ne_eq, List.all_eq_true, beq_iff_eq] at h
    refine ⟨kindS d, h.1, fun e m => ?_⟩
    rcases List.mem_cons.mp m with z | z
    · rw [z]
    · exact h.2 e z
theorem sorted_isort {ds : List PyData} (h : sortOk ds = true) : ds.mergeSort (PySem.W.dataLe false fun d : PyData => d) = isort leK ds := by
  obtain ⟨k, hk, h⟩ := sortOk_kind h
  rw [isort_merge leK_total]
  refine PySem.W.sort_congr fun a ha b hb => ?_
  rw [dataLe_id, dataLt_key (h b hb) (h a ha) hk]
  rfl
theorem alike_kind {k : Nat} {a b : PyData} (ha : kindS a = k) (hb : kindS b = k) (hk : k ≠ 0) (h3 : k = 1 ∨ k = 2 ∨ k = 3) : PySem.W.alike a b = true := by
  rcases h3 with rfl | rfl | rfl
  · obtain ⟨i, rfl⟩ := kind1 ha
    obtain ⟨j, rfl⟩ := kind1 hb
    rfl
  · obtain ⟨i, ns, rfl, e1⟩ := kind2 ha
    obtain ⟨j, ms, rfl, e2⟩ := kind2 hb
    exact PySem.W.alike_ints (i :: ns) (j :: ms)
  · obtain ⟨i, ns, rfl, e1⟩ := kind3 ha
    obtain ⟨j, ms, rfl, e2⟩ := kind3 hb
    have := PySem.W.alike_ints ns ms
    simp [PySem.W.alike, PySem.W.alikeAll, this]
theorem kind_le (d : PyData) : kindS d ≤ 3 := by
  unfold kindS
  split
  · decide
  · split
    · decide
    · split
      · split <;> decide
      · decide
  · decide
theorem sortOk_all {ds : List PyData} (h : sortOk ds = true) : PySem.W.AllAlike ds ∧ PySem.W.Sortable ds ∧ ∀ d ∈ ds, ndd d = true ∧ d.depth ≤ 2 := by
  obtain ⟨k, hk, h⟩ := sortOk_kind h
  have nds : ∀ ns : List Int, nddAll (ns.map PyData.int) = true := fun ns => by
    induction ns with
    | nil => rfl
    | cons n ns ih => simp [nddAll, ndd, ih]
  have one : ∀ d ∈ ds, k = 1 ∨ k = 2 ∨ k = 3 := fun d m => by
    have := kind_le d
    rw [h d m] at this
    omega
  refine ⟨fun a ha b hb => alike_kind (h a ha) (h b hb) hk (one a ha), ?_, fun d m => ?_⟩
  · by_cases h1 : k = 1
    · subst h1
      exact .inr fun d m => by
        obtain ⟨i, rfl⟩ := kind1 (h d m)
        exact ⟨by simp, by simp⟩
    · exact .inl fun d m => by
        rcases one d m with rfl | rfl | rfl
        · exact (h1 rfl).elim
        · obtain ⟨i, ns, rfl, _⟩ := kind2 (h d m)
          exact ⟨_, _, rfl⟩
        · obtain ⟨i, ns, rfl, _⟩ := kind3 (h d m)
          exact ⟨_, _, rfl⟩
  · rcases one d m with rfl | rfl | rfl
    · obtain ⟨i, rfl⟩ := kind1 (h d m)
      exact ⟨rfl, by simp [PyData.depth]⟩
    · obtain ⟨i, ns, rfl, _⟩ := kind2 (h d m)
      refine ⟨by simp [ndd, nddAll, nds], ?_⟩
      simp [PyData.depth, PyData.depthAll, PySem.W.depth_ints]
    · obtain ⟨i, ns, rfl, _⟩ := kind3 (h d m)
      refine ⟨by simp [ndd, nddAll, nds], ?_⟩
      simp [PyData.depth, PyData.depthAll, PySem.W.depth_ints]
/-- sorted(a list of data) -/
def rSortD (K : PySem.W.Frag) : List V → Hp → VK → Prop := fun xs H Q => ∃ (a : Addr) (A : List Addr) (us : List V) (ds : List PyData), xs = [.ref a] ∧ SqL K H a us ∧ RepAll K A H us ds ∧ sortOk ds = true ∧
  ∀ l ws, H l = none → RepAll K A H ws (isort leK ds) → Q (.ref l) (upd H l (.lst ws))
theorem each_of {K : PySem.W.Frag} {A : List Addr} {H : Hp} : ∀ {us : List V} {vs : List Value} {ds : List PyData}, Vals us vs → RepAll K A H us ds → PySem.W.EachIs (fun u d => ∃ x, RelV x u ∧ Rep K A H x d) vs ds
  | _, _, _, .nil, .nil => .nil
  | _, _, _, .cons r rs, .cons q qs => .cons ⟨_, r, q⟩ (each_of rs qs)
theorem of_each {K : PySem.W.Frag} {A : List Addr} {H : Hp} : ∀ {vs : List Value} {ds : List PyData}, PySem.W.EachIs (fun u d => ∃ x, RelV x u ∧ Rep K A H x d) vs ds → ∃ us, Vals us vs ∧ RepAll K A H us ds
  | _, _, .nil => ⟨[], .nil, .nil⟩
  | _, _, .cons ⟨x, r, q⟩ rs => by
    obtain ⟨us, h1, h2⟩ := of_each rs
    exact ⟨x :: us, .cons r h1, .cons q h2⟩
theorem each_mem' {α β : Type} {R : α → β → Prop} {P : β → Prop} : ∀ {as : List α} {bs : List β}, PySem.W.EachIs R as bs → (∀ b ∈ bs, P b) → PySem.W.EachIs (fun a b => R a b ∧ P b) as bs
  | _, _, .nil, _ => .nil
  | _, _, .cons r rs, h => .cons ⟨r, h _ List.mem_cons_self⟩ (each_mem' rs fun b m => h b (List.mem_cons_of_mem _ m))
section
variable {X : Cx} {G : Ctx}
theorem cr_sortD (hu : X.A.units + 64 < cLine) : CallR X (.builtin "sorted") (rSortD X.K) := by
  intro pins s σ H xs us Q I r h
  obtain ⟨a, A, ws, ds, rfl, hs, ra, ok, q⟩ := h
  obtain ⟨its, rv, hl, hz⟩ := I.list hs
  rw [Vals.ref1 r]
  obtain ⟨h1, h2, h3⟩ := sortOk_all ok
  have e0 := each_of rv ra
  have er : PySem.W.EachIs (fun v (b : PyData) => ∃ as, Reads s.heap v ((fun d : PyData => d) b) as) its ds := (each_mem' e0 (P := fun d => ndd d = true) fun d m => (h3 d m).1).mono fun v d ⟨⟨x, hx, hr⟩, hd⟩ => Dp.reads I d x v (hr.dp hd) hx
  refine PySem.W.sorted_data (enc := fun d : PyData => d) hl.isList e0 er (by simpa using h1) (by simpa using h2) (by rw [← ra.length]; exact hz) (fun d m => ?_) fun out ho hE => ?_
  · have := (h3 d m).2
    show X.A.units + 2 + d.depth < cLine
    omega
  · rw [sorted_isort ok] at hE
    obtain ⟨zs, k1, k2⟩ := of_each hE
    obtain ⟨ep, he'⟩ := PyProof.Rows.sortedAll_at s.heap its out.toArray
    have hlen : zs.length ≤ sizeLine := by rw [k2.length, isort_length, ← ra.length]; exact hz
    exact ⟨.ref _, upd H (s.heap.objs.size + 1) (.lst zs), I.laid (t' := s.toks) (fun _ _ => PyProof.Rows.sortedAll_old) (Nat.le_succ _) ⟨hlen, out, ep, k1, he'⟩, rfl, q _ _ (I.hok.fresh (Nat.le_succ _)) k2⟩
def gSorted : List PyData → Option PyData
  | [.list ds] => if sortOk ds then some (.list (isort leK ds)) else none
  | _ => none
theorem cr_sortG (hK : X.K = G.K) (hu : X.A.units + 64 < cLine) : CallR X (.builtin "sorted") (rSortD G.K) := by
  rw [← hK]
  exact cr_sortD hu
theorem cd_sorted : CallD G (rSortD G.K) gSorted := by
  intro A H xs ds d Q all r e q
  unfold gSorted at e
  split at e
  · split at e
    · rename_i h
      cases e
      match xs, r with
      | [_], .cons rx .nil =>
        obtain ⟨a, us, rfl, h1, n1, r1⟩ := rep_list rx
        exact ⟨a, A, us, _, rfl, .inl (.inl h1), r1, h, fun l ws hl hr => q _ _ (same_new hl) (.lst upd_same (fresh_not all hl) (rep_new hr hl))⟩
    · cases e
  · cases e
end
end DL

-- text DL9
set_option Elab.async false
set_option linter.all false
set_option maxRecDepth 100000
set_option maxHeartbeats 2000000
namespace DL
open PySem PySem.Spec PyProof.Rows L2 GxR

section
variable {ι : Type} {X : ι → Cx} {G : Ctx} {W : WX} {k : Nat} {pos : Pos}
/-! ### two for, gone on -/
theorem lcL_len {g : PyData → RS → Option RS} {ft : RS → Rs Bool} {fe : RS → Rs PyData} {vs : List Nat} : ∀ {items ds : List PyData} {ρ ρ' : RS}, lcL g ft fe vs items ρ = .ok ds ρ' → ds.length ≤ items.length
  | [], ds, ρ, ρ', h => by cases h; exact Nat.le_refl _
  | x :: xs, ds, ρ, ρ', h => by
    unfold lcL at h
    cases q : g x ρ with
    | none => rw [q] at h; cases h
    | some ρ1 =>
      rw [q] at h
      cases z : ft ρ1 with
      | ex _ _ _ => simp only [z, noex, Rs.bind] at h; cases h
      | no => simp only [z, noex, Rs.bind] at h; cases h
      | ok b ρ2 =>
        cases b with
        | false =>
          simp only [z, noex, Rs.bind, Bool.false_eq_true, if_false] at h
          split at h
          · exact Nat.le_succ_of_le (lcL_len h)
          · cases h
        | true =>
          cases z2 : fe ρ2 with
          | ex _ _ _ => simp only [z, z2, noex, Rs.bind, if_true] at h; cases h
          | no => simp only [z, z2, noex, Rs.bind, if_true] at h; cases h
          | ok d ρ3 =>
            simp only [z, z2, noex, Rs.bind, if_true] at h
            split at h
            · cases z3 : lcL g ft fe vs xs (rwipe ρ3 vs) with
              | ok r ρ4 =>
                rw [z3] at h
                cases h
                exact Nat.succ_le_succ (lcL_len z3)
              | no => rw [z3] at h; cases h
              | ex _ _ _ => rw [z3] at h; cases h
            · cases h
theorem lp_app {Fg : List Addr} {O : Own} {σw : L2.St} {D : Addr} {Q : VK} {acc : List PyData} {H : Hp} {rr : List PyData} {r : Rs (List PyData)} (h : LP G Fg O σw D Q acc H (r.bind fun q ρ4 => .ok (rr ++ q) ρ4)) : LP G Fg O σw D Q (acc ++ rr) H r := by
  cases r with
  | ok ds ρ' => exact fun H' us e r q1 q2 => h H' us e r q1 (by simpa using q2)
  | ex c fs ρ' => exact h
  | no => exact h
def eLc2 (fi : RS → Rs (List PyData)) (g : PyData → RS → Option RS) (ft : RS → Rs Bool) (fi1 : RS → Rs (List PyData)) (g1 : PyData → RS → Option RS) (ft1 : RS → Rs Bool) (fe : RS → Rs PyData) (vs vs1 : List Nat) : RS → Rs PyData := fun ρ => (fi ρ).bind fun items ρ1 =>
  if items.length ≤ 1000 ∧ allFree ρ1 vs = true then (lc2L g ft fi1 g1 ft1 fe vs vs1 items (rwipe ρ1 vs)).bind fun ds ρ2 => if allFree ρ2 vs then .ok (.list ds) (rwipe ρ2 vs) else .no else .no
theorem lc2_turn {Fg : List Addr} {O : Own} {σ σ2 : L2.St} {D : Addr} {Q : VK} {acc : List PyData} {us : List V} {H2 : Hp} {x : PyData} {xs : List PyData} {ρ ρ1 : RS} {g g1 : PyData → RS → Option RS} {ft ft1 : RS → Rs Bool} {fi1 : RS → Rs (List PyData)} {fe : RS → Rs PyData} {vs vs1 gvs1 : List Nat} {tt tt1 : TT} {te : TE} {wi1 : TI} {gt1 : TG}
    (lt : ∀ Fg O ρ σ H Q, R G Fg O ρ σ H → GP G W0 Fg O σ (fun b _ H' => Q b H') H (ft ρ) → tt σ H Q)
    (li1 : ∀ Fg O ρ σ H Q, R G Fg O ρ σ H → GP G W0 Fg O σ (fun ds _ H' => ∀ J, WalkD G (adr O ++ Fg) H' J ds → Q J H') H (fi1 ρ) → wi1 σ H Q)
    (lg1 : ∀ Fg O ρ σ H v d ρ' Q, R G Fg O ρ σ H → Rep G.K (adr O ++ Fg) H v d → g1 d ρ = some ρ' → (∀ σ', R G Fg O ρ' σ' H → (∀ ws : List Nat, (∀ j ∈ gvs1, j ∈ ws) → wipe σ' ws = wipe σ ws) → Q σ' H) → gt1 v σ H Q)
    (lt1 : ∀ Fg O ρ σ H Q, R G Fg O ρ σ H → GP G W0 Fg O σ (fun b _ H' => Q b H') H (ft1 ρ) → tt1 σ H Q)
    (le : ∀ Fg O ρ σ H Q, R G Fg O ρ σ H → GP G W0 Fg O σ (fun d _ H' => ∀ v, Rep G.K (adr O ++ Fg) H' v d → Q v H') H (fe ρ) → te σ H Q)
    (hsub1 : ∀ j ∈ gvs1, j ∈ vs1) (hv : ∀ j ∈ vs1, j ∈ vs)
    (hw : wipe σ2 vs = wipe σ vs) (r1 : R G (D :: Fg) O ρ1 σ2 H2) (hD : H2 D = some (.lst us)) (ra : RepAll G.K (adr O ++ D :: Fg) H2 us acc) (hl : acc.length + 1000 ≤ sizeLine) (nD : D ∉ adr O ++ Fg)
    (q : g x ρ = some ρ1) (h : LP G Fg O (wipe σ vs) D Q acc H2 (lc2L g ft fi1 g1 ft1 fe vs vs1 (x :: xs) ρ)) (Nx : Hp → Prop)
    (n : ∀ ρ' acc' us' H', Ext (D :: adr O) H2 H' → R G (D :: Fg) O ρ' (wipe σ vs) H' → H' D = some (.lst us') → RepAll G.K (adr O ++ D :: Fg) H' us' acc' → acc'.length ≤ acc.length + 1000 → LP G Fg O (wipe σ vs) D Q acc' H' (lc2L g ft fi1 g1 ft1 fe vs vs1 xs ρ') → Nx H') :
    tt σ2 H2 fun b H3 => if b = true then wi1 σ2 H3 fun J1 H4 => ∃ W1 : Nat → Nat → Hp → Prop, (∃ m, W1 0 m H4) ∧ ∀ j k H, W1 j k H →
      (J1.stop j H ∧ Nx H) ∨ (J1.go j H ∧ ∃ Nx1 : Hp → Prop, (∀ H', Nx1 H' → ∃ k', k' < k ∧ W1 (j + 1) k' H') ∧ ∀ x H', J1.yld j H x H' → gt1 x (wipe σ2 vs1) H' fun σ3 H5 => wipe σ3 vs1 = wipe σ2 vs1 ∧ tt1 σ3 H5 fun b H6 =>
        if b = true then te σ3 H6 fun y H7 => ∃ acc, H7 D = some (.lst acc) ∧ acc.length < sizeLine ∧ Nx1 (upd H7 D (.lst (acc ++ [y]))) else Nx1 H6)
    else Nx H3 := by
  have h : LP G Fg O (wipe σ vs) D Q acc H2 ((noex (ft ρ1)).bind fun b ρ2 => if b then (noex (fi1 ρ2)).bind fun items ρ3 => if items.length ≤ 1000 ∧ allFree ρ3 vs1 = true then (lcL g1 ft1 fe vs1 items (rwipe ρ3 vs1)).bind fun r ρ4 => if allFree ρ4 vs then (lc2L g ft fi1 g1 ft1 fe vs vs1 xs (rwipe ρ4 vs)).bind fun r2 ρ5 => .ok (r ++ r2) ρ5 else .no else .no
        else if allFree ρ2 vs then lc2L g ft fi1 g1 ft1 fe vs vs1 xs (rwipe ρ2 vs) else .no) := by
    have h' := h
    unfold lc2L at h'
    rw [q] at h'
    exact h'
  have sub : ∀ {H : Hp}, ∀ a ∈ adr O, a ∈ adr O ++ D :: Fg ∨ H a = none := fun {H} a m => .inl (List.mem_append_left _ m)
  have keepD : ∀ {H : Hp}, Ext (adr O) H2 H → H D = some (.lst us) := fun {H} e => e.keep D _ hD (by intro ps z; cases z) (.inl fun m => nD (List.mem_append_left _ m))
  cases z : ft ρ1 with
  | ex c fs ρ' => rw [z] at h; exact h.elim
  | no => rw [z] at h; exact h.elim
  | ok b ρ2 =>
    rw [z] at h
    refine lt (D :: Fg) O ρ1 σ2 H2 _ r1 (gp_noex b ρ2 z fun H3 e3 r3 => ?_)
    have ra3 : RepAll G.K (adr O ++ D :: Fg) H3 us acc := ra.ext sub e3 fun _ m => .inl m
    have e3' : Ext (D :: adr O) H2 H3 := e3.mono fun a m => List.mem_cons_of_mem _ m
    cases b with
    | false =>
      refine ite_ff ?_
      have h : LP G Fg O (wipe σ vs) D Q acc H2 (if allFree ρ2 vs then lc2L g ft fi1 g1 ft1 fe vs vs1 xs (rwipe ρ2 vs) else .no) := h
      by_cases hf : allFree ρ2 vs = true
      · rw [if_pos hf] at h
        have r4 := r3.wipe vs (allFree_ok hf)
        rw [hw] at r4
        exact n _ acc us H3 e3' r4 (keepD e3) ra3 (by omega) (h.shift e3')
      · rw [if_neg hf] at h; exact h.elim
    | true =>
      refine ite_tt ?_
      have h : LP G Fg O (wipe σ vs) D Q acc H2 ((noex (fi1 ρ2)).bind fun items ρ3 => if items.length ≤ 1000 ∧ allFree ρ3 vs1 = true then (lcL g1 ft1 fe vs1 items (rwipe ρ3 vs1)).bind fun r ρ4 => if allFree ρ4 vs then (lc2L g ft fi1 g1 ft1 fe vs vs1 xs (rwipe ρ4 vs)).bind fun r2 ρ5 => .ok (r ++ r2) ρ5 else .no else .no) := h
      cases z2 : fi1 ρ2 with
      | ex c fs ρ' => rw [z2] at h; exact h.elim
      | no => rw [z2] at h; exact h.elim
      | ok items ρ3 =>
        rw [z2] at h
        have h : LP G Fg O (wipe σ vs) D Q acc H2 (if items.length ≤ 1000 ∧ allFree ρ3 vs1 = true then (lcL g1 ft1 fe vs1 items (rwipe ρ3 vs1)).bind fun r ρ4 => if allFree ρ4 vs then (lc2L g ft fi1 g1 ft1 fe vs vs1 xs (rwipe ρ4 vs)).bind fun r2 ρ5 => .ok (r ++ r2) ρ5 else .no else .no) := h
        by_cases hf : items.length ≤ 1000 ∧ allFree ρ3 vs1 = true
        · rw [if_pos hf] at h
          refine li1 (D :: Fg) O ρ2 σ2 H3 _ r3 (gp_noex items ρ3 z2 fun H4 e4 r4 J1 wd1 => ?_)
          have ra4 : RepAll G.K (adr O ++ D :: Fg) H4 us acc := ra3.ext sub e4 fun _ m => .inl m
          have hD4 : H4 D = some (.lst us) := keepD (e3.trans' e4)
          have e4' : Ext (D :: adr O) H2 H4 := e3'.trans' (e4.mono fun a m => List.mem_cons_of_mem _ m)
          cases z3 : lcL g1 ft1 fe vs1 items (rwipe ρ3 vs1) with
          | ex c fs ρ' => rw [z3] at h; exact h.elim
          | no => rw [z3] at h; exact h.elim
          | ok rr ρ4 =>
            rw [z3] at h
            have h : LP G Fg O (wipe σ vs) D Q acc H2 (if allFree ρ4 vs then (lc2L g ft fi1 g1 ft1 fe vs vs1 xs (rwipe ρ4 vs)).bind fun r2 ρ5 => .ok (rr ++ r2) ρ5 else .no) := h
            by_cases hf4 : allFree ρ4 vs = true
            · rw [if_pos hf4] at h
              have hrr := lcL_len z3
              have lp0 : LP G Fg O (wipe σ2 vs1) D (fun _ H' => Nx H') acc H4 (lcL g1 ft1 fe vs1 items (rwipe ρ3 vs1)) := by
                rw [z3]
                intro H' us' e' r' hD' ra'
                have r5 := r'.wipe vs (allFree_ok hf4)
                rw [wipe_idem hv, hw] at r5
                exact n _ (acc ++ rr) us' H' (e4'.trans' e') r5 hD' ra' (by rw [List.length_append]; omega) ((lp_app h).shift (e4'.trans' e'))
              refine ⟨fun j m H' => m = items.length - j ∧ j ≤ items.length ∧ ∃ ρ' acc' us', R G (D :: Fg) O ρ' (wipe σ2 vs1) H' ∧ H' D = some (.lst us') ∧ RepAll G.K (adr O ++ D :: Fg) H' us' acc' ∧ acc'.length ≤ acc.length + j ∧ Ext (D :: adr O) H4 H' ∧ LP G Fg O (wipe σ2 vs1) D (fun _ H' => Nx H') acc' H' (lcL g1 ft1 fe vs1 (items.drop j) ρ'),
                ⟨items.length, by simp, Nat.zero_le _, _, acc, us, r4.wipe vs1 (allFree_ok hf.2), hD4, ra4, Nat.le_refl _, .refl, by simpa using lp0⟩, fun j m H5 hW => ?_⟩
              obtain ⟨hm, hj, ρ5, acc5, us5, r5, hD5, ra5, hl5, e5, lp5⟩ := hW
              obtain ⟨w1, w2⟩ := wd1 (D :: adr O) (adr O ++ D :: Fg) H5 e5 (fun a m => by
                rcases List.mem_cons.mp m with y | y
                · subst y; exact .inl (List.mem_append_right _ List.mem_cons_self)
                · exact .inl (List.mem_append_left _ y)) (fun a m => .inl m) j
              by_cases hlt : j < items.length
              · obtain ⟨go, yl⟩ := w1 items[j] (List.getElem?_eq_getElem hlt)
                rw [drop_get hlt] at lp5
                refine .inr ⟨go, fun H' => (fun j m H' => m = items.length - j ∧ j ≤ items.length ∧ ∃ ρ' acc' us', R G (D :: Fg) O ρ' (wipe σ2 vs1) H' ∧ H' D = some (.lst us') ∧ RepAll G.K (adr O ++ D :: Fg) H' us' acc' ∧ acc'.length ≤ acc.length + j ∧ Ext (D :: adr O) H4 H' ∧ LP G Fg O (wipe σ2 vs1) D (fun _ H' => Nx H') acc' H' (lcL g1 ft1 fe vs1 (items.drop j) ρ')) (j + 1) (items.length - (j + 1)) H',
                  fun H' w => ⟨_, by omega, w⟩, fun y H6 y6 => ?_⟩
                obtain ⟨e6, rx⟩ := yl y H6 y6
                cases q5 : g1 items[j] ρ5 with
                | none =>
                  exfalso
                  unfold lcL at lp5
                  rw [q5] at lp5
                  exact lp5
                | some ρ6 =>
                  have e6' : Ext (D :: adr O) H5 H6 := e6.mono (by simp)
                  have hD6 : H6 D = some (.lst us5) := e6.keep D _ hD5 (by intro ps z; cases z) (.inl (by simp))
                  refine lg1 (D :: Fg) O ρ5 (wipe σ2 vs1) H6 y items[j] ρ6 _ (r5.ext0 e6) rx q5 fun σ6 r6 hw6 => ?_
                  have hw6' : wipe σ6 vs1 = wipe σ2 vs1 := (hw6 vs1 hsub1).trans (wipe_idem fun _ m => m)
                  refine ⟨hw6', lc_turn lt1 le hw6' r6 hD6 (ra5.ext (O := []) (by simp) e6 fun _ m => .inl m) (by omega) nD q5 (lp5.shift e6') _ fun ρ' acc' us' H' e' r' hD' ra' hl' lp' => ?_⟩
                  exact ⟨rfl, hlt, ρ', acc', us', r', hD', ra', by omega, (e5.trans' e6').trans' e', lp'⟩
              · have hl : items.length ≤ j := Nat.le_of_not_lt hlt
                rw [List.drop_of_length_le hl] at lp5
                have lp5 : LP G Fg O (wipe σ2 vs1) D (fun _ H' => Nx H') acc5 H5 (.ok [] ρ5) := lp5
                exact .inl ⟨w2 hl, lp5 H5 us5 .refl r5 hD5 (by simpa using ra5)⟩
            · rw [if_neg hf4] at h; exact h.elim
        · rw [if_neg hf] at h; exact h.elim
theorem lc2L_noex {g g1 : PyData → RS → Option RS} {ft ft1 : RS → Rs Bool} {fi1 : RS → Rs (List PyData)} {fe : RS → Rs PyData} {vs vs1 : List Nat} {c : Str} {fs : List (Str × PyData)} {ρ' : RS} : ∀ (items : List PyData) (ρ : RS), lc2L g ft fi1 g1 ft1 fe vs vs1 items ρ = .ex c fs ρ' → False
  | [], ρ, h => by cases h
  | x :: xs, ρ, h => by
    unfold lc2L at h
    cases q : g x ρ with
    | none => rw [q] at h; cases h
    | some ρ1 =>
      rw [q] at h
      cases z : ft ρ1 with
      | ex _ _ _ => simp only [z, noex, Rs.bind] at h; cases h
      | no => simp only [z, noex, Rs.bind] at h; cases h
      | ok b ρ2 =>
        cases b with
        | false =>
          simp only [z, noex, Rs.bind, Bool.false_eq_true, if_false] at h
          split at h
          · exact lc2L_noex xs _ h
          · cases h
        | true =>
          cases z2 : fi1 ρ2 with
          | ex _ _ _ => simp only [z, z2, noex, Rs.bind, if_true] at h; cases h
          | no => simp only [z, z2, noex, Rs.bind, if_true] at h; cases h
          | ok items ρ3 =>
            simp only [z, z2, noex, Rs.bind, if_true] at h
            split at h
            · cases z3 : lcL g1 ft1 fe vs1 items (rwipe ρ3 vs1) with
              | ok r ρ4 =>
                rw [z3] at h
                simp only at h
                split at h
                · cases z4 : lc2L g ft fi1 g1 ft1 fe vs vs1 xs (rwipe ρ4 vs) with
                  | ok _ _ => rw [z4] at h; cases h
                  | no => rw [z4] at h; cases h
                  | ex _ _ _ => exact lc2L_noex xs _ z4
                · cases h
              | no => rw [z3] at h; cases h
              | ex _ _ _ => exact lc_law.lcL_noex _ _ z3
            · cases h
theorem lc2_law {wi wi1 : TI} {gt gt1 : TG} {tt tt1 : TT} {te : TE} {fi fi1 : RS → Rs (List PyData)} {gvs gvs1 vs vs1 : List Nat} {g g1 : PyData → RS → Option RS} {ft ft1 : RS → Rs Bool} {fe : RS → Rs PyData}
    (li : ∀ Fg O ρ σ H Q, R G Fg O ρ σ H → GP G W Fg O σ (fun ds _ H' => ∀ J, WalkD G (adr O ++ Fg) H' J ds → Q J H') H (fi ρ) → wi σ H Q)
    (lg : ∀ Fg O ρ σ H v d ρ' Q, R G Fg O ρ σ H → Rep G.K (adr O ++ Fg) H v d → g d ρ = some ρ' → (∀ σ', R G Fg O ρ' σ' H → (∀ ws : List Nat, (∀ j ∈ gvs, j ∈ ws) → wipe σ' ws = wipe σ ws) → Q σ' H) → gt v σ H Q)
    (lt : ∀ Fg O ρ σ H Q, R G Fg O ρ σ H → GP G W0 Fg O σ (fun b _ H' => Q b H') H (ft ρ) → tt σ H Q)
    (li1 : ∀ Fg O ρ σ H Q, R G Fg O ρ σ H → GP G W0 Fg O σ (fun ds _ H' => ∀ J, WalkD G (adr O ++ Fg) H' J ds → Q J H') H (fi1 ρ) → wi1 σ H Q)
    (lg1 : ∀ Fg O ρ σ H v d ρ' Q, R G Fg O ρ σ H → Rep G.K (adr O ++ Fg) H v d → g1 d ρ = some ρ' → (∀ σ', R G Fg O ρ' σ' H → (∀ ws : List Nat, (∀ j ∈ gvs1, j ∈ ws) → wipe σ' ws = wipe σ ws) → Q σ' H) → gt1 v σ H Q)
    (lt1 : ∀ Fg O ρ σ H Q, R G Fg O ρ σ H → GP G W0 Fg O σ (fun b _ H' => Q b H') H (ft1 ρ) → tt1 σ H Q)
    (le : ∀ Fg O ρ σ H Q, R G Fg O ρ σ H → GP G W0 Fg O σ (fun d _ H' => ∀ v, Rep G.K (adr O ++ Fg) H' v d → Q v H') H (fe ρ) → te σ H Q)
    (hsub : ∀ j ∈ gvs, j ∈ vs) (hsub1 : ∀ j ∈ gvs1, j ∈ vs1) (hv : ∀ j ∈ vs1, j ∈ vs) {Fg : List Addr} {O : Own} {ρ : RS} {σ : L2.St} {H : Hp} {Q : VK} (r : R G Fg O ρ σ H) (h : GP G W Fg O σ (fun d _ H' => ∀ v, Rep G.K (adr O ++ Fg) H' v d → Q v H') H (eLc2 fi g ft fi1 g1 ft1 fe vs vs1 ρ)) : tLc2 wi gt tt wi1 gt1 tt1 te vs vs1 σ H Q := by
  refine li Fg O ρ σ H _ r ((GP.bind h).imp fun items ρ1 H1 e1 r1 k1 J wd => ?_)
  intro D hD
  by_cases hc : items.length ≤ 1000 ∧ allFree ρ1 vs = true
  · rw [if_pos hc] at k1
    have nD : D ∉ adr O ++ Fg := fresh_not r1.all hD
    have e0 : Ext [] H1 (upd H1 D (.lst [])) := ext_new hD
    have r0 : R G (D :: Fg) O (rwipe ρ1 vs) (wipe σ vs) (upd H1 D (.lst [])) := (r1.more hD).wipe vs (allFree_ok hc.2)
    have gD : Grow (adr O) H1 (D :: adr O) := fun a m => by
      rcases List.mem_cons.mp m with z | z
      · subst z; exact .inr hD
      · exact .inl z
    have lp0 : LP G Fg O (wipe σ vs) D Q [] (upd H1 D (.lst [])) (lc2L g ft fi1 g1 ft1 fe vs vs1 items (rwipe ρ1 vs)) := by
      cases z : lc2L g ft fi1 g1 ft1 fe vs vs1 items (rwipe ρ1 vs) with
      | ok ds ρ2 =>
        rw [z] at k1
        intro H' us e' r' hD' ra'
        have k1 : GP G W Fg O σ (fun d _ H' => ∀ v, Rep G.K (adr O ++ Fg) H' v d → Q v H') H1 (if allFree ρ2 vs then .ok (.list ds) (rwipe ρ2 vs) else .no) := k1
        by_cases hf : allFree ρ2 vs = true
        · rw [if_pos hf] at k1
          have eo : Ext (adr O) H1 H' := (e0.mono (O' := adr O) (by simp)).trans e' fun a m => by
            rcases gD a m with z | z
            · exact .inl z
            · exact .inr z
          refine k1 H' eo (r'.less.unwipe (vs := vs) (wipe_idem fun _ m => m) (wipe_length _ _) (allFree_ok hf)) _ (.lst hD' nD (ra'.fewer fun a m => ?_))
          rcases List.mem_append.mp m with z | z
          · exact List.mem_append_left _ z
          · exact List.mem_append_right _ (List.mem_cons_of_mem _ z)
        · rw [if_neg hf] at k1; exact k1.elim
      | ex c fs ρ2 => exact (lc2L_noex _ _ z).elim
      | no => rw [z] at k1; exact k1.elim
    refine ⟨fun i m H2 => m = items.length - i ∧ i ≤ items.length ∧ ∃ ρ2 acc us, R G (D :: Fg) O ρ2 (wipe σ vs) H2 ∧ H2 D = some (.lst us) ∧ RepAll G.K (adr O ++ D :: Fg) H2 us acc ∧ acc.length ≤ i * 1000 ∧ Ext (D :: adr O) (upd H1 D (.lst [])) H2 ∧ LP G Fg O (wipe σ vs) D Q acc H2 (lc2L g ft fi1 g1 ft1 fe vs vs1 (items.drop i) ρ2),
      ⟨items.length, by simp, Nat.zero_le _, _, [], [], r0, upd_same, .nil, Nat.zero_le _, .refl, by simpa using lp0⟩, fun i m H2 hW => ?_⟩
    obtain ⟨hm, hi, ρ2, acc, us, r2, hD2, ra2, hl2, e2, lp2⟩ := hW
    have e12 : Ext (D :: adr O) H1 H2 := (e0.mono (by simp)).trans' e2
    obtain ⟨w1, w2⟩ := wd (D :: adr O) (adr O ++ D :: Fg) H2 e12 (fun a m => by
        rcases List.mem_cons.mp m with z | z
        · subst z; exact .inr hD
        · exact .inl (List.mem_append_left _ z)) (fun a m => by
        rcases List.mem_append.mp m with z | z
        · exact .inl (List.mem_append_left _ z)
        · rcases List.mem_cons.mp z with z | z
          · subst z; exact .inr hD
          · exact .inl (List.mem_append_right _ z)) i
    by_cases hlt : i < items.length
    · obtain ⟨go, yl⟩ := w1 items[i] (List.getElem?_eq_getElem hlt)
      rw [drop_get hlt] at lp2
      refine .inr ⟨go, fun H' => (fun i m H2 => m = items.length - i ∧ i ≤ items.length ∧ ∃ ρ2 acc us, R G (D :: Fg) O ρ2 (wipe σ vs) H2 ∧ H2 D = some (.lst us) ∧ RepAll G.K (adr O ++ D :: Fg) H2 us acc ∧ acc.length ≤ i * 1000 ∧ Ext (D :: adr O) (upd H1 D (.lst [])) H2 ∧ LP G Fg O (wipe σ vs) D Q acc H2 (lc2L g ft fi1 g1 ft1 fe vs vs1 (items.drop i) ρ2)) (i + 1) (items.length - (i + 1)) H',
        fun H' w => ⟨_, by omega, w⟩, fun x H3 y3 => ?_⟩
      obtain ⟨e3, rx⟩ := yl x H3 y3
      cases q : g items[i] ρ2 with
      | none =>
        exfalso
        unfold lc2L at lp2
        rw [q] at lp2
        exact lp2
      | some ρ3 =>
        have e3' : Ext (D :: adr O) H2 H3 := e3.mono (by simp)
        have hD3 : H3 D = some (.lst us) := e3.keep D _ hD2 (by intro ps z; cases z) (.inl (by simp))
        refine lg (D :: Fg) O ρ2 (wipe σ vs) H3 x items[i] ρ3 _ (r2.ext0 e3) rx q fun σ3 r3 hw3 => ?_
        have hw : wipe σ3 vs = wipe σ vs := (hw3 vs hsub).trans (wipe_idem fun _ m => m)
        have hz : (sizeLine : Nat) = 16777216 := PySem.sizeLine_eq
        refine ⟨hw, lc2_turn lt li1 lg1 lt1 le hsub1 hv hw r3 hD3 (ra2.ext (O := []) (by simp) e3 fun _ m => .inl m) (by rw [hz]; omega) nD q (lp2.shift e3') _ fun ρ' acc' us' H' e' r' hD' ra' hl' lp' => ?_⟩
        exact ⟨rfl, hlt, ρ', acc', us', r', hD', ra', by omega, (e2.trans' e3').trans' e', lp'⟩
    · have hl : items.length ≤ i := Nat.le_of_not_lt hlt
      rw [List.drop_of_length_le hl] at lp2
      have lp2 : LP G Fg O (wipe σ vs) D Q acc H2 (.ok [] ρ2) := lp2
      exact .inl ⟨w2 hl, lp2 H2 us .refl r2 hD2 (by simpa using ra2)⟩
  · rw [if_neg hc] at k1; exact k1.elim
theorem de_lc2 {elt tg iter tg1 iter1 : Expr} {ifs ifs1 : List Expr} {scope : Scope} {own : List (Str × Nat)} {fi fi1 : RS → Rs (List PyData)} {gvs gvs1 vs1 : List Nat} {g g1 : PyData → RS → Option RS} {ft ft1 : RS → Rs Bool} {fe : RS → Rs PyData}
    (F : Fam X G W k) (hi : DI X G W tg iter fi) (ok : ∀ i, BlkOk (X i).N (X i).env.scope scope own) (hg : DG (Bx X scope) G tg gvs g) (hsub : ∀ j ∈ gvs, j ∈ own.map (·.2)) (ht : DTs (Bx X scope) G W0 ifs ft)
    (hi1 : DI (Bx X scope) G W0 tg1 iter1 fi1) (hg1 : DG (Bx X scope) G tg1 gvs1 g1) (hsub1 : ∀ j ∈ gvs1, j ∈ vs1) (hv : ∀ j ∈ vs1, j ∈ own.map (·.2)) (ht1 : DTs (Bx X scope) G W0 ifs1 ft1) (he : DE (Bx X scope) G W0 elt fe)
    (hs : ∀ i x, foldedSetIterable iter (X i).env x = pure x := by intro _ _; rfl) (hs1 : ∀ env x, foldedSetIterable iter1 env x = pure x := by intro _ _; rfl) :
    DE X G W (.ListComp elt [⟨tg, iter, ifs, 0⟩, ⟨tg1, iter1, ifs1, 0⟩] scope pos) (eLc2 fi g ft fi1 g1 ft1 fe (own.map (·.2)) vs1) := by
  obtain ⟨wi, pi, li⟩ := hi
  obtain ⟨gt, pg, lg⟩ := hg
  obtain ⟨tt, pt, lt⟩ := ht
  obtain ⟨wi1, pi1, li1⟩ := hi1
  obtain ⟨gt1, pg1, lg1⟩ := hg1
  obtain ⟨tt1, pt1, lt1⟩ := ht1
  obtain ⟨te, pe, le⟩ := he
  exact ⟨_, fun i => pe_lc2 (F.calm i) (F.nd i) (pi i) (ok i) hv (fun s H C cl fp => pg (i, s, H, C, cl, fp)) (fun s H C cl fp => pt (i, s, H, C, cl, fp)) (fun s H C cl fp => pi1 (i, s, H, C, cl, fp)) (fun s H C cl fp => pg1 (i, s, H, C, cl, fp)) (fun s H C cl fp => pt1 (i, s, H, C, cl, fp)) (fun s H C cl fp => pe (i, s, H, C, cl, fp)) (hs i) hs1,
    fun Fg O ρ σ H Q r h => lc2_law li lg lt li1 lg1 lt1 le hsub hsub1 hv r h⟩
end
end DL

-- text DL10
set_option Elab.async false
set_option linter.all false
set_option maxRecDepth 100000
set_option maxHeartbeats 2000000
namespace DL
open PySem PySem.Spec PyProof.Rows L2 GxR

section
variable {ι : Type} {X : ι → Cx} {G : Ctx} {W : WX} {k : Nat} {pos : Pos}
/-! ### classes of data -/
/-- the script's own list -/
def isScr : List (PyData × PyData) → Bool
  | [(.none, _)] => true
  | _ => false
def tyD : PyData → String
  | .none => "NoneType"
  | .bool _ => "bool"
  | .int _ => "int"
  | .str _ => "str"
  | .list _ => "list"
  | .tuple _ => "tuple"
  | .dict kvs => if isScr kvs then "list" else "dict"
theorem tyX_of {A : List Addr} {H : Hp} {v : V} {d : PyData} (r : Rep G.K A H v d) : TyX G.K H v (.type (tyD d)) := by
  cases r with
  | non => exact .base .non
  | bl b => exact .base (.bl b)
  | int i => exact .base (.int i)
  | str x => exact .base (.str x)
  | lst h _ _ => exact .base (.lst h)
  | scr h =>
    rcases h with ⟨h, _⟩ | ⟨o, h⟩ | ⟨o, its, n, h1, h2, _⟩
    · exact .base (.lst h)
    · exact .base (.frz h)
    · exact .kList h1 h2
  | @dct a o ps h =>
    cases ps with
    | nil => exact .fDict h
    | cons p ps => exact .fDict h
  | tup h _ =>
    rcases h with h | ⟨o, its, n, h1, h2, _⟩
    · rcases h with h | ⟨o, h⟩
      · exact .base (.tup h)
      · exact .fTuple h
    · exact .kTuple h1 h2
def isIntD : PyData → Bool
  | .int _ => true
  | .bool _ => true
  | _ => false
def isBoolD : PyData → Bool
  | .bool _ => true
  | _ => false
def isStrD : PyData → Bool
  | .str _ => true
  | _ => false
def isTupD : PyData → Bool
  | .tuple _ => true
  | _ => false
def isLstD : PyData → Bool
  | .list _ => true
  | .dict kvs => isScr kvs
  | _ => false
theorem kb_int : ∀ d : PyData, kitB (tyD d) "int" = some (isIntD d)
  | .none => (by decide +kernel : kitB "NoneType" "int" = some false)
  | .bool _ => (by decide +kernel : kitB "bool" "int" = some true)
  | .int _ => (by decide +kernel : kitB "int" "int" = some true)
  | .str _ => (by decide +kernel : kitB "str" "int" = some false)
  | .list _ => (by decide +kernel : kitB "list" "int" = some false)
  | .tuple _ => (by decide +kernel : kitB "tuple" "int" = some false)
  | .dict kvs => (by cases isScr kvs <;> decide +kernel : kitB (if isScr kvs then "list" else "dict") "int" = some false)
theorem kb_bool : ∀ d : PyData, kitB (tyD d) "bool" = some (isBoolD d)
  | .none => (by decide +kernel : kitB "NoneType" "bool" = some false)
  | .bool _ => (by decide +kernel : kitB "bool" "bool" = some true)
  | .int _ => (by decide +kernel : kitB "int" "bool" = some false)
  | .str _ => (by decide +kernel : kitB "str" "bool" = some false)
  | .list _ => (by decide +kernel : kitB "list" "bool" = some false)
  | .tuple _ => (by decide +kernel : kitB "tuple" "bool" = some false)
  | .dict kvs => (by cases isScr kvs <;> decide +kernel : kitB (if isScr kvs then "list" else "dict") "bool" = some false)
theorem kb_str : ∀ d : PyData, kitB (tyD d) "str" = some (isStrD d)
  | .none => (by decide +kernel : kitB "NoneType" "str" = some false)
  | .bool _ => (by decide +kernel : kitB "bool" "str" = some false)
  | .int _ => (by decide +kernel : kitB "int" "str" = some false)
  | .str _ => (by decide +kernel : kitB "str" "str" = some true)
  | .list _ => (by decide +kernel : kitB "list" "str" = some false)
  | .tuple _ => (by decide +kernel : kitB "tuple" "str" = some false)
  | .dict kvs => (by cases isScr kvs <;> decide +kernel : kitB (if isScr kvs then "list" else "dict") "str" = some false)
theorem kb_tup : ∀ d : PyData, kitB (tyD d) "tuple" = some (isTupD d)
  | .none => (by decide +kernel : kitB "NoneType" "tuple" = some false)
  | .bool _ => (by decide +kernel : kitB "bool" "tuple" = some false)
  | .int _ => (by decide +kernel : kitB "int" "tuple" = some false)
  | .str _ => (by decide +kernel : kitB "str" "tuple" = some false)
  | .list _ => (by decide +kernel : kitB "list" "tuple" = some false)
  | .tuple _ => (by decide +kernel : kitB "tuple" "tuple" = some true)
  | .dict kvs => (by cases isScr kvs <;> decide +kernel : kitB (if isScr kvs then "list" else "dict") "tuple" = some false)
theorem kb_lst : ∀ d : PyData, kitB (tyD d) "list" = some (isLstD d)
  | .none => (by decide +kernel : kitB "NoneType" "list" = some false)
  | .bool _ => (by decide +kernel : kitB "bool" "list" = some false)
  | .int _ => (by decide +kernel : kitB "int" "list" = some false)
  | .str _ => (by decide +kernel : kitB "str" "list" = some false)
  | .list _ => (by decide +kernel : kitB "list" "list" = some true)
  | .tuple _ => (by decide +kernel : kitB "tuple" "list" = some false)
  | .dict kvs => (by cases isScr kvs <;> decide +kernel : kitB (if isScr kvs then "list" else "dict") "list" = some (isScr kvs))
def eIsi (g : PyData → Bool) (fe : RS → Rs PyData) : RS → Rs PyData := fun ρ => (fe ρ).bind fun d ρ1 => .ok (.bool (g d)) ρ1
theorem de_isi {T : String} {t : Str} {g : PyData → Bool} {e : Expr} {fe : RS → Rs PyData} {p p2 : Pos} (F : Fam X G W k) (kb : ∀ d, kitB (tyD d) T = some (g d)) (hg : ∀ i, Gl (X i) "isinstance") (hm : ∀ i, (X i).mg "isinstance" = none) (hg2 : ∀ i, Gl (X i) t) (hm2 : ∀ i, (X i).mg t = none) (hv2 : bootBuiltins t = some (.type T)) (he : DE X G W e fe)
    (hv : bootBuiltins "isinstance" = some (.builtin "isinstance") := by decide +kernel) (hn : t ≠ "__name__" := by decide) (hdb : (t == ("__debug__" : Str)) = false := by decide)
    (hs1 : ∀ i, starEach [.Name t p2] (X i).env = (false, eval (.Name t p2) (X i).env) :: starEach [] (X i).env := by intro _; rfl)
    (hs : ∀ i, starEach (e :: [.Name t p2]) (X i).env = (false, eval e (X i).env) :: starEach [.Name t p2] (X i).env := by intro _; rfl) (hpl : ∀ i, (backTo pos (starEach [.Name t p2] (X i).env)).any (·.1) = false := by intro _; rfl) :
    DE X G W (.Call (.Name "isinstance" p) [e, .Name t p2] [] pos) (eIsi g fe) := by
  obtain ⟨te, pe, le⟩ := he
  refine ⟨tCB (rIsi G.K) (tCons te (tCons (tC (.ty T)) tNil)), fun i => ?_, fun Fg O ρ σ H Q r h => ?_⟩
  · rw [← F.K i]
    exact pe_callB call_isi (hg i) (hm i) hv (pa_cons (pe i) (pa_cons (pe_bltn (hg2 i) (hm2 i) hv2 (v := .ty T) rfl hn hdb) pa_nil (hs1 i)) (hs i)) (by decide) (by decide) (hs i) (hpl i)
  · refine le Fg O ρ σ H _ r ((GP.bind h).imp fun d ρ1 H1 e1 r1 k1 v rv => ?_)
    exact ⟨v, .ty T, _, _, g d, rfl, .ty T, tyX_of rv, kit_ty (kb d), k1 H1 .refl r1 _ (.bl _)⟩
/-- isinstance(e, (tuple, list)) -/
theorem de_isi2 {T1 T2 : String} {t1 t2 : Str} {g1 g2 : PyData → Bool} {e : Expr} {fe : RS → Rs PyData} {p p1 p2 tp : Pos} {kt} (F : Fam X G W k) (kb1 : ∀ d, kitB (tyD d) T1 = some (g1 d)) (kb2 : ∀ d, kitB (tyD d) T2 = some (g2 d)) (hg : ∀ i, Gl (X i) "isinstance") (hm : ∀ i, (X i).mg "isinstance" = none)
    (hg1 : ∀ i, Gl (X i) t1) (hm1 : ∀ i, (X i).mg t1 = none) (hv1 : bootBuiltins t1 = some (.type T1)) (hg2 : ∀ i, Gl (X i) t2) (hm2 : ∀ i, (X i).mg t2 = none) (hv2 : bootBuiltins t2 = some (.type T2)) (he : DE X G W e fe)
    (hv : bootBuiltins "isinstance" = some (.builtin "isinstance") := by decide +kernel) (hn1 : t1 ≠ "__name__" := by decide) (hdb1 : (t1 == ("__debug__" : Str)) = false := by decide) (hn2 : t2 ≠ "__name__" := by decide) (hdb2 : (t2 == ("__debug__" : Str)) = false := by decide)
    (hs1 : ∀ i, starEach [.Name t2 p2] (X i).env = (false, eval (.Name t2 p2) (X i).env) :: starEach [] (X i).env := by intro _; rfl)
    (hs2 : ∀ i, starEach [.Name t1 p1, .Name t2 p2] (X i).env = (false, eval (.Name t1 p1) (X i).env) :: starEach [.Name t2 p2] (X i).env := by intro _; rfl)
    (hs3 : ∀ i, starEach [.Tuple [.Name t1 p1, .Name t2 p2] kt tp] (X i).env = (false, eval (.Tuple [.Name t1 p1, .Name t2 p2] kt tp) (X i).env) :: starEach [] (X i).env := by intro _; rfl)
    (hs : ∀ i, starEach (e :: [.Tuple [.Name t1 p1, .Name t2 p2] kt tp]) (X i).env = (false, eval e (X i).env) :: starEach [.Tuple [.Name t1 p1, .Name t2 p2] kt tp] (X i).env := by intro _; rfl) (hpl : ∀ i, (backTo pos (starEach [.Tuple [.Name t1 p1, .Name t2 p2] kt tp] (X i).env)).any (·.1) = false := by intro _; rfl) :
    DE X G W (.Call (.Name "isinstance" p) [e, .Tuple [.Name t1 p1, .Name t2 p2] kt tp] [] pos) (eIsi (fun d => g1 d || g2 d) fe) := by
  obtain ⟨te, pe, le⟩ := he
  refine ⟨tCB (rIsiT G.K) (tCons te (tCons (tTup (tCons (tC (.ty T1)) (tCons (tC (.ty T2)) tNil))) tNil)), fun i => ?_, fun Fg O ρ σ H Q r h => ?_⟩
  · rw [← F.K i]
    exact pe_callB call_isiT (hg i) (hm i) hv (pa_cons (pe i) (pa_cons (pe_tup (pa_cons (pe_bltn (hg1 i) (hm1 i) hv1 (v := .ty T1) rfl hn1 hdb1) (pa_cons (pe_bltn (hg2 i) (hm2 i) hv2 (v := .ty T2) rfl hn2 hdb2) pa_nil (hs1 i)) (hs2 i))) pa_nil (hs3 i)) (hs i)) (by decide) (by decide) (hs i) (hpl i)
  · refine le Fg O ρ σ H _ r ((GP.bind h).imp fun d ρ1 H1 e1 r1 k1 v rv => ?_)
    refine ⟨by show 2 ≤ sizeLine; decide, fun q hq => ?_⟩
    have e2 : ∀ {O : List Addr}, Ext O H1 (upd H1 q (.tup [.ty T1, .ty T2])) := ext_new hq
    refine ⟨v, q, _, _, _, g1 d || g2 d, rfl, upd_same, .cons (.ty T1) (.cons (.ty T2) .nil), tyX_of (rv.ext (O := []) (by simp) e2 fun _ m => .inl m), ?_, k1 _ e2 (r1.ext0 e2) _ (.bl _)⟩
    exact kitAny_cons (kit_ty (kb1 d)) (fun z => by
      rw [z]
      exact kitAny_cons (kit_ty (kb2 d)) (fun z2 => by rw [z2]; exact kitAny_nil) (fun z2 => by rw [z2]; rfl)) (fun z => by rw [z]; rfl)

/-! ### truth -/
def truD : PyData → Option Bool
  | .none => some false
  | .bool b => some b
  | .int i => some (i != 0)
  | .str x => if x.length ≤ sizeLine then some ((x.length : Int) != 0) else none
  | .list xs => some (!xs.isEmpty)
  | .tuple xs => some (!xs.isEmpty)
  | .dict _ => none
theorem empty_of {A : List Addr} {H : Hp} {us : List V} {ds : List PyData} (r : RepAll G.K A H us ds) : us.isEmpty = ds.isEmpty := by cases r <;> rfl
theorem truV_of {A : List Addr} {H : Hp} {v : V} {d : PyData} {b : Bool} (r : Rep G.K A H v d) (e : truD d = some b) : TruV G.K v H b := by
  cases r with
  | non => cases e; rfl
  | bl b => cases e; rfl
  | int i => cases e; rfl
  | str x =>
    unfold truD at e
    simp only at e
    split at e
    · cases e
      exact ⟨by assumption, rfl⟩
    · cases e
  | lst h _ rs => cases e; exact .inl ⟨_, .inl (.inl h), by rw [empty_of rs]⟩
  | scr h => cases e
  | dct h => cases e
  | tup h rs => cases e; exact .inr (.inl ⟨_, h, by rw [empty_of rs]⟩)
def tT (f : RS → Rs PyData) : RS → Rs Bool := fun ρ => (f ρ).bind fun d ρ1 => Rs.of (truD d) ρ1
theorem dt_truth {a : Expr} {fa : RS → Rs PyData} (F : Fam X G W k) (ha : DE X G W a fa) (he : ∀ i whole, isTrue a (X i).env whole = (do let v ← whole; standAt a.pos; holding [v] (truthy v)) := by intro _ _; rfl) : DT X G W a (tT fa) := by
  obtain ⟨ta, pa, la⟩ := ha
  refine ⟨fun σ H Q => ta σ H fun x H' => ∃ k, TruV G.K x H' k ∧ Q k H', fun i => by rw [← F.K i]; exact pt_truth (pa i) (he i), fun Fg O ρ σ H Q r h => ?_⟩
  refine la Fg O ρ σ H _ r ((GP.bind h).imp fun d ρ1 H1 e1 r1 k1 v rv => ?_)
  obtain ⟨b, e, kk⟩ := k1.of
  exact ⟨b, truV_of rv e, kk H1 .refl r1⟩
/-- an own list, as a test -/
def tOwn (j : Nat) : RS → Rs Bool := fun ρ => match ρ[j]? with
  | some (.o xs) => .ok (!xs.isEmpty) ρ
  | some (.d x) => Rs.of (truD x) ρ
  | _ => .no
theorem dt_own (j : Nat) {x : Str} {p : Pos} (F : Fam X G W k) (hN : ∀ i, (X i).N[j]? = some x) (hv : ∀ i, Vis (X i).env.scope x) (hd : (x == ("__debug__" : Str)) = false := by decide) (hcd : (x == ("__classdict__" : Str)) = false := by decide)
    (he : ∀ i whole, isTrue (.Name x p) (X i).env whole = (do let v ← whole; standAt p; holding [v] (truthy v)) := by intro _ _; rfl) : DT X G W (.Name x p) (tOwn j) := by
  refine ⟨fun σ H Q => tVar j σ H fun x H' => ∃ k, TruV G.K x H' k ∧ Q k H', fun i => by rw [← F.K i]; exact pt_truth (pe_var (hN i) (hv i) hd hcd) (he i), fun Fg O ρ σ H Q r h => ?_⟩
  unfold tOwn at h
  split at h
  · rename_i xs e
    obtain ⟨a, vs, h0, h1, h2, h3⟩ := r.own j xs e
    exact ⟨_, h1, _, .inl ⟨vs, .inl (.inl h2), by rw [empty_of h3]⟩, h H .refl r⟩
  · rename_i d e
    obtain ⟨v, h1, h2⟩ := r.val j d e
    obtain ⟨b, e, kk⟩ := GP.of h
    exact ⟨v, h1, b, truV_of h2 e, kk H .refl r⟩
  · exact h.elim
/-- -e -/
def eNegD (f : RS → Rs PyData) : RS → Rs PyData := fun ρ => (f ρ).bind fun d ρ1 => match d with
  | .int i => .ok (.int (-i)) ρ1
  | _ => .no
theorem de_neg {a : Expr} {fa : RS → Rs PyData} (ha : DE X G W a fa) : DE X G W (.UnaryOp .USub a pos) (eNegD fa) := by
  obtain ⟨ta, pa, la⟩ := ha
  refine ⟨_, fun i => pe_un un_neg (pa i), fun Fg O ρ σ H Q r h => ?_⟩
  refine la Fg O ρ σ H _ r ((GP.bind h).imp fun d ρ1 H1 e1 r1 k1 v rv => ?_)
  cases d with
  | int i =>
    rw [rep_int rv]
    exact ⟨i, rfl, k1 H1 .refl r1 _ (.int _)⟩
  | _ => exact k1.elim

/-! ### slices -/
structure DP (X : ι → Cx) (G : Ctx) (W : WX) (e : Option Expr) (f : RS → Rs (Option Int)) : Prop where
  ex : ∃ t : TO, (∀ i, PO (X i) e t) ∧ ∀ Fg O ρ σ H Q, R G Fg O ρ σ H → GP G W Fg O σ (fun o _ H' => Q o H') H (f ρ) → t σ H Q
def pNone : RS → Rs (Option Int) := fun ρ => .ok none ρ
def pSome (f : RS → Rs PyData) : RS → Rs (Option Int) := fun ρ => (f ρ).bind fun d ρ1 => match d with
  | .int i => .ok (some i) ρ1
  | _ => .no
theorem dp_none : DP X G W none pNone := ⟨_, fun _ => po_none, fun Fg O ρ σ H Q r h => h H .refl r⟩
theorem dp_some {e : Expr} {f : RS → Rs PyData} (he : DE X G W e f) : DP X G W (some e) (pSome f) := by
  obtain ⟨ta, pa, la⟩ := he
  refine ⟨_, fun i => po_some (pa i), fun Fg O ρ σ H Q r h => ?_⟩
  refine la Fg O ρ σ H _ r ((GP.bind h).imp fun d ρ1 H1 e1 r1 k1 v rv => ?_)
  cases d with
  | int i =>
    rw [rep_int rv]
    exact ⟨i, rfl, k1 H1 .refl r1⟩
  | _ => exact k1.elim
def cutD {α : Type} (xs : List α) (lo hi : Option Int) : List α := (xs.drop (HT.sIx xs.length 0 lo)).take (HT.sIx xs.length xs.length hi - HT.sIx xs.length 0 lo)
def gSl : PyData → Option Int → Option Int → Option PyData
  | .list xs, lo, hi => some (.list (cutD xs lo hi))
  | .tuple xs, lo, hi => some (.tuple (cutD xs lo hi))
  | _, _, _ => none
theorem cut_rep {A : List Addr} {H : Hp} {us : List V} {ds : List PyData} (r : RepAll G.K A H us ds) (lo hi : Option Int) : RepAll G.K A H (cutV us lo hi) (cutD ds lo hi) := by
  unfold cutV cutD
  rw [r.length]
  exact (r.drop _).take _
theorem cut_all {α : Type} {xs : List α} {lo hi : Option Int} (h : HT.sIx xs.length 0 lo = 0 ∧ HT.sIx xs.length xs.length hi = xs.length) : cutD xs lo hi = xs := by
  unfold cutD
  rw [h.1, h.2]
  simp
def eSl (fe : RS → Rs PyData) (fl fh : RS → Rs (Option Int)) : RS → Rs PyData := fun ρ => (fe ρ).bind fun d ρ1 => (fl ρ1).bind fun lo ρ2 => (fh ρ2).bind fun hi ρ3 => Rs.of (gSl d lo hi) ρ3
theorem de_slice {e : Expr} {lo hi : Option Expr} {p2 : Pos} {fe : RS → Rs PyData} {fl fh : RS → Rs (Option Int)} (F : Fam X G W k) (he : DE X G W e fe) (hl : DP X G W lo fl) (hh : DP X G W hi fh) : DE X G W (.Subscript e (.Slice lo hi none p2) pos) (eSl fe fl fh) := by
  obtain ⟨te, pe, le⟩ := he
  obtain ⟨tl, pl, ll⟩ := hl
  obtain ⟨th, ph, lh⟩ := hh
  refine ⟨tSl (fun x lo hi H Q => rSlL G.K x lo hi H Q ∨ rSlA G.K x lo hi H Q) te tl th, fun i => ?_, fun Fg O ρ σ H Q r h => ?_⟩
  · rw [← F.K i]
    exact pe_slice (sl_list.or sl_tupA) (pe i) (pl i) (ph i)
  · refine le Fg O ρ σ H _ r ((GP.bind h).imp fun d ρ1 H1 e1 r1 k1 v rv => ?_)
    refine ll Fg O ρ1 σ H1 _ r1 ((GP.bind k1).imp fun o1 ρ2 H2 e2 r2 k2 => ?_)
    refine lh Fg O ρ2 σ H2 _ r2 ((GP.bind k2).imp fun o2 ρ3 H3 e3 r3 k3 => ?_)
    obtain ⟨d', e, kk⟩ := k3.of
    have rv3 := rv.ext (fun a m => .inl (List.mem_append_left Fg m)) (e2.trans' e3) fun _ m => .inl m
    have q : ∀ v H', Same H3 H' → Rep G.K (adr O ++ Fg) H' v d' → Q v H' := fun v H' s rv => kk H' (.of_same s) (r3.ext0 (.of_same s)) v rv
    unfold gSl at e
    split at e
    · cases e
      obtain ⟨a, us, rfl, h1, n1, rr⟩ := rep_list rv3
      exact .inl ⟨a, us, rfl, .inl (.inl h1), new_lst r3.all (cut_rep rr _ _) q⟩
    · cases e
      obtain ⟨a, us, rfl, h1, rr⟩ := rep_tup rv3
      refine .inr ⟨a, us, rfl, h1, fun z => ?_, fun _ => new_tup (cut_rep rr _ _) q⟩
      rw [rr.length] at z
      rw [cut_all z] at q
      exact q _ _ (Same.refl _) (.tup h1 rr)
    · cases e

/-! ### own lists -/
/-- x = [..], the list is the slot's own -/
def sOwnL (j : Nat) (fs : RS → Rs (List PyData)) : RS → Out := fun ρ => (fs ρ).out fun ds ρ1 => if ds.length ≤ sizeLine ∧ noOwn ρ1 j = true ∧ j < ρ1.length then .nx (ρ1.set j (.o ds)) else .no
theorem ds_ownL {j : Nat} {x : Str} {es : List Expr} {pos' p : Pos} {fs : RS → Rs (List PyData)} (F : Fam X G W k) (hi : ∀ i, (X i).N[j]? = some x) (hx : ∀ i, Loc (X i).env.scope x) (hf : ∀ i, (X i).fn x = true ∨ (X i).env.scope.names.lookup x = some .local) (he : DA X G W es fs)
    (hs : ∀ i, swapsWith (.List es p) (some (.Name x pos')) pos.line (X i).env = pure false := by intro _; rfl) : DS X G W (.Assign [.Name x pos'] (.List es p) pos) (sOwnL j fs) := by
  obtain ⟨t, pa, l⟩ := he
  refine ⟨_, fun i => ps_set (F.nd i) (hi i) (hx i) (pe_lst (pa i)) (hs i) (hf i), fun Fg O ρ σ H D r h => l Fg O ρ σ H _ r ((SPo.out h).imp fun ds ρ1 H1 e1 r1 k vs rv => ?_)⟩
  by_cases hc : ds.length ≤ sizeLine ∧ noOwn ρ1 j = true ∧ j < ρ1.length
  · rw [if_pos hc] at k
    refine ⟨by rw [rv.length]; exact hc.1, fun q hq => ?_⟩
    have nF : q ∉ adr O ++ Fg := fresh_not r1.all hq
    have r2 := (r1.more (vs := vs) hq).take (fun m => nF (List.mem_append_right _ m)) upd_same hc.2.2 (noOwn_ok hc.2.1) (rv.ext (O := []) (by simp) (ext_new hq) fun b m => by
      rcases List.mem_append.mp m with z | z
      · exact .inl (List.mem_append_left _ z)
      · rcases List.mem_cons.mp z with z | z
        · rw [z]; exact .inr hq
        · exact .inl (List.mem_append_right _ z))
    refine k ((j, q) :: O) _ _ ⟨(ext_new hq), fun p m _ => List.mem_cons_of_mem _ m, fun p m => ?_⟩ r2
    rcases List.mem_cons.mp m with z | z
    · rw [z]; exact .inr hq
    · exact .inl z
  · rw [if_neg hc] at k; exact k.elim
/-- x[i], len(x), x in an own list -/
def ownAt (ρ : RS) (j : Nat) : Option (List PyData) := match ρ[j]? with
  | some (.o xs) => some xs
  | _ => none
theorem ownAt_ok {ρ : RS} {j : Nat} {xs : List PyData} (h : ownAt ρ j = some xs) : ρ[j]? = some (.o xs) := by
  unfold ownAt at h
  split at h
  · rename_i q
    cases h
    exact q
  · cases h
def eIxO (j : Nat) (fb : RS → Rs PyData) : RS → Rs PyData := fun ρ => match ownAt ρ j with
  | none => .no
  | some _ => (fb ρ).bind fun i ρ1 => match ownAt ρ1 j with
    | none => .no
    | some xs => match i with
      | .int n => Rs.of (atI xs n) ρ1
      | _ => .no
theorem de_ixO (j : Nat) {x : Str} {p : Pos} {b : Expr} {fb : RS → Rs PyData} (F : Fam X G W k) (hN : ∀ i, (X i).N[j]? = some x) (hv : ∀ i, Vis (X i).env.scope x) (hb : DE X G W b fb) (hd : (x == ("__debug__" : Str)) = false := by decide) (hcd : (x == ("__classdict__" : Str)) = false := by decide)
    (hs : PlainIx b := by intro _ _; rfl) : DE X G W (.Subscript (.Name x p) b pos) (eIxO j fb) := by
  obtain ⟨tb, pb, lb⟩ := hb
  refine ⟨tOp (rIx G.K) (tVar j) tb, fun i => ?_, fun Fg O ρ σ H Q r h => ?_⟩
  · rw [← F.K i]
    exact pe_ix ix_seq (pe_var (hN i) (hv i) hd hcd) (pb i) hs
  · unfold eIxO at h
    cases e0 : ownAt ρ j with
    | none => rw [e0] at h; exact h.elim
    | some xs0 =>
      rw [e0] at h
      obtain ⟨a, vs0, m0, h1, _, _⟩ := r.own j xs0 (ownAt_ok e0)
      refine ⟨_, h1, lb Fg O ρ σ H _ r ((GP.bind h).imp fun i ρ1 H1 e1 r1 k1 v rv => ?_)⟩
      cases e2 : ownAt ρ1 j with
      | none => rw [e2] at k1; exact k1.elim
      | some xs =>
        rw [e2] at k1
        obtain ⟨a', vs, m1, _, h3, h4⟩ := r1.own j xs (ownAt_ok e2)
        obtain rfl : a = a' := r1.key j a a' m0 m1
        cases i with
        | int n =>
          obtain ⟨d, e, kk⟩ := GP.of k1
          obtain ⟨w, g1, g2⟩ := atI_rep h4 e
          rw [rep_int rv]
          exact .inl ⟨a, vs, n, w, rfl, rfl, .inl (.inl h3), g1, kk H1 .refl r1 _ g2⟩
        | _ => exact k1.elim
def eLenO (j : Nat) : RS → Rs PyData := fun ρ => match ownAt ρ j with
  | none => .no
  | some xs => .ok (.int xs.length) ρ
theorem de_lenO (j : Nat) {x : Str} {p p2 : Pos} (F : Fam X G W k) (hN : ∀ i, (X i).N[j]? = some x) (hv : ∀ i, Vis (X i).env.scope x) (hg : ∀ i, Gl (X i) "len") (hm : ∀ i, (X i).mg "len" = none) (hd : (x == ("__debug__" : Str)) = false := by decide) (hcd : (x == ("__classdict__" : Str)) = false := by decide)
    (he : ∀ i, starEach [.Name x p2] (X i).env = (false, eval (.Name x p2) (X i).env) :: starEach [] (X i).env := by intro _; rfl) : DE X G W (.Call (.Name "len" p) [.Name x p2] [] pos) (eLenO j) := by
  refine ⟨tCB (fun xs H Q => ∃ x n, xs = [x] ∧ LenV G.K x H n ∧ Q (.int n) H) (tCons (tVar j) tNil), fun i => ?_, fun Fg O ρ σ H Q r h => ?_⟩
  · rw [← F.K i]
    exact pe_callB call_len (hg i) (hm i) PySem.boot_len (pa_cons (pe_var (hN i) (hv i) hd hcd) pa_nil (he i)) (by decide) (by decide) (he i) rfl
  · unfold eLenO at h
    cases e0 : ownAt ρ j with
    | none => rw [e0] at h; exact h.elim
    | some xs =>
      rw [e0] at h
      obtain ⟨a, vs, m0, h1, h2, h3⟩ := r.own j xs (ownAt_ok e0)
      refine ⟨_, h1, _, _, rfl, .inl ⟨vs, .inl (.inl h2), rfl⟩, ?_⟩
      rw [h3.length]
      exact h H .refl r _ (.int _)
/-- x[i] = e -/
def sPutO (j : Nat) (fi fe : RS → Rs PyData) : RS → Out := fun ρ => (fe ρ).out fun d ρ1 => match ownAt ρ1 j with
  | none => .no
  | some _ => (fi ρ1).out fun i ρ2 => match ownAt ρ2 j, i with
    | some xs, .int n => (match ixN xs.length n with
      | some m => .nx (ρ2.set j (.o (xs.set m d)))
      | none => .no)
    | _, _ => .no
theorem ds_putO (j : Nat) {x : Str} {p p1 : Pos} {b e : Expr} {fb fe : RS → Rs PyData} (F : Fam X G W k) (hN : ∀ i, (X i).N[j]? = some x) (hv : ∀ i, Vis (X i).env.scope x) (hb : DE X G W b fb) (he : DE X G W e fe) (hd : (x == ("__debug__" : Str)) = false := by decide) (hcd : (x == ("__classdict__" : Str)) = false := by decide)
    (ha : ∀ i v, assign (.Subscript (.Name x p) b p1) (X i).env v = (do
      let ov ← holding [v] (eval (.Name x p) (X i).env)
      let iv ← holding [v, ov] (eval b (X i).env)
      standAt p1
      holding [v, ov, iv] (setItem ov iv v)
      release [v, ov, iv] []) := by intro _ _; rfl)
    (hs : ∀ i, swapsWithSole [.Subscript (.Name x p) b p1] e pos.line (X i).env = pure false := by intro _; rfl) (hw : ∀ i, swappedStores [.Subscript (.Name x p) b p1] e (X i).env = pure none := by intro _; rfl)
    (h1 : ∀ i, (assignEach [.Subscript (.Name x p) b p1] (X i).env).map (·.2) = [assign (.Subscript (.Name x p) b p1) (X i).env] := by intro _; rfl) : DS X G W (.Assign [.Subscript (.Name x p) b p1] e pos) (sPutO j fb fe) := by
  obtain ⟨tb, pb, lb⟩ := hb
  obtain ⟨te, pe, le⟩ := he
  refine ⟨_, fun i => ps_asg (pe i) (pg_sub (pe_var (hN i) (hv i) hd hcd) (pb i) set_list (ha i)) (hs i) (hw i) (h1 i), fun Fg O ρ σ H D r h => ?_⟩
  refine le Fg O ρ σ H _ r ((SPo.out h).imp fun d ρ1 H1 e1 r1 k1 v rv => ?_)
  cases e0 : ownAt ρ1 j with
  | none => rw [e0] at k1; exact k1.elim
  | some xs0 =>
    rw [e0] at k1
    obtain ⟨a, vs0, m0, h1, _, _⟩ := r1.own j xs0 (ownAt_ok e0)
    refine ⟨_, h1, lb Fg O ρ1 σ H1 _ r1 ((SPo.out k1).imp fun i ρ2 H2 e2 r2 k2 w rw' => ?_)⟩
    cases e3 : ownAt ρ2 j with
    | none => rw [e3] at k2; exact k2.elim
    | some xs =>
      obtain ⟨a', vs, m1, hσ, h3, h4⟩ := r2.own j xs (ownAt_ok e3)
      obtain rfl : a = a' := r2.key j a a' m0 m1
      cases i with
      | int n =>
        rw [e3] at k2
        have k2 : SPo G W Fg O H2 D (match ixN xs.length n with | some m => .nx (ρ2.set j (.o (xs.set m d))) | none => .no) := k2
        cases e4 : ixN xs.length n with
        | none => rw [e4] at k2; exact k2.elim
        | some m =>
          rw [e4] at k2
          rw [rep_int rw']
          have rd := rv.ext (fun a m => .inl (List.mem_append_left Fg m)) e2 fun _ m => .inl m
          have hj : j < ρ2.length := r2.own_at (ownAt_ok e3)
          refine ⟨a, vs, n, m, rfl, rfl, h3, by rw [h4.length]; exact e4, ?_⟩
          exact k2 O σ _ (Ext.evo (ext_put h3 (R.in_adr m1))) (r2.put m1 h3 hj hσ (h4.set m rd))
      | _ => rw [e3] at k2; exact k2.elim
end
end DL

-- text DL11
set_option Elab.async false
set_option linter.all false
set_option maxRecDepth 100000
set_option maxHeartbeats 2000000
namespace DL
open PySem PySem.Spec PyProof.Rows L2 GxR

section
variable {ι : Type} {X : ι → Cx} {G : Ctx} {W : WX} {k : Nat} {pos : Pos}
theorem Fam.hu (F : Fam X G W k) (i : ι) : (X i).A.units + 65 < cLine := by
  have := (F.room i).un
  omega
theorem Fam.hu4 (F : Fam X G W k) (i : ι) : (X i).A.units + 64 < cLine := by
  have := (F.room i).un
  omega
theorem Fam.hu0 (F : Fam X G W k) (i : ι) : (X i).A.units < cLine := by
  have := (F.room i).un
  omega
/-- x in a list or a tuple of flat things, else in a list of data -/
def gInG (neg : Bool) (x y : PyData) : Option PyData := match gInF neg x y with
  | some d => some d
  | none => gIn neg x y
theorem or_inG' (F : Fam X G W k) (i : ι) : OpR (X i) (compareOp .In) (fun x y H Q => rIn G.K false x y H Q ∨ rInD G.K x y H Q) := (or_inF (F.K i)).or (or_inG (F.K i) (F.hu i))
theorem or_notinG' (F : Fam X G W k) (i : ι) : OpR (X i) (compareOp .NotIn) (fun x y H Q => rIn G.K true x y H Q ∨ rNotInD G.K x y H Q) := (or_notinF (F.K i)).or (or_notinG (F.K i) (F.hu i))
theorem od_inG' : OpD G (fun x y H Q => rIn G.K false x y H Q ∨ rInD G.K x y H Q) (gInG false) := by
  intro A H x y dx dy d Q all rx ry e q
  unfold gInG at e
  split at e
  · rename_i z
    cases e
    exact .inl (od_inF A H x y dx dy d Q all rx ry z q)
  · exact .inr (od_in A H x y dx dy d Q all rx ry e q)
theorem od_notinG' : OpD G (fun x y H Q => rIn G.K true x y H Q ∨ rNotInD G.K x y H Q) (gInG true) := by
  intro A H x y dx dy d Q all rx ry e q
  unfold gInG at e
  split at e
  · rename_i z
    cases e
    exact .inl (od_inF A H x y dx dy d Q all rx ry z q)
  · exact .inr (od_notin A H x y dx dy d Q all rx ry e q)
end
/-- a def stands at its name, and what it answers -/
structure HasF (P : Program) (w : World) (K : PySem.W.Frag) (mg : Str → Option Value) (base : Heap) (x : Str) (j : Nat) (sp : Sp) : Prop where
  ex : ∃ f fd ps, mg x = some (.ref f) ∧ PySem.W.keepIn K (.ref f) = true ∧ Binds K fd ps [] ∧ FnOk P w K mg base (L2.CX P w) j f fd ps sp
/-- a def of the top -/
structure TopF (K : PySem.W.Frag) (mg : Str → Option Value) (x : Str) (st : Stmt) : Prop where
  ex : ∃ f fd, Fun K x x st f fd ∧ mg x = some (.ref f)
/-- .. that holds generator expressions -/
structure TopG (K : PySem.W.Frag) (mg : Str → Option Value) (base : Heap) (ts : List Addr) (x : Str) (st : Stmt) : Prop where
  ex : ∃ f fd c P, Fun K x x st f fd ∧ mg x = some (.ref f) ∧ fd.code = .ref c ∧ P ∈ ts ∧ TabB base mg c P
section
variable {ι : Type} {X : ι → Cx} {G : Ctx} {W : WX} {k : Nat} {pos : Pos}
theorem fn_none {P : Program} {w : World} {K : PySem.W.Frag} {mg : Str → Option Value} {base : Heap} {x qual : Str} {st : Stmt} {f : Addr} {fd : FuncData} {N ps : List Str} {k : Nat} (F : Fun K x qual st f fd) (S : FnScope N ps (defScope st)) : FnOk P w K mg base (L2.CX P w) (k + 1) f fd ps (spD G ps.length fun _ => .no) :=
  fun_okC F S (fun vs H Q E h => h.1) fun A outer s H vs Q E hr hsp => by
    obtain ⟨_, _, _, _, _, _, h⟩ := hsp
    exact h.elim
end
end DL

-- text NS
set_option Elab.async false
set_option linter.all false
set_option maxRecDepth 100000
set_option maxHeartbeats 2000000
/-! sets of nested tuples of whole numbers: the search, the adding, the laying anew, the whole of set(list) -/
namespace NS
open PySem PySem.Spec PyProof.Rows L2

mutual
def nums : NestedKey → Bool
  | .num _ => true
  | .tup ks => numsAll ks
  | .none => false
  | .text _ => false
def numsAll : List NestedKey → Bool
  | [] => true
  | k :: ks => nums k && numsAll ks
end
/-- the tuple at b reads as the key q -/
structure At (h : Heap) (q : NestedKey) (b : Addr) : Prop where
  rd : NestedIs h q (.ref b)
  dp : q.depth ≤ 8
  nm : nums q = true
abbrev hk (w : World) (q : NestedKey) : Int := q.hash w
theorem At.obj {h : Heap} {q : NestedKey} {b : Addr} (x : At h q b) : ∃ o items n ks, q = .tup ks ∧ h.get? b = some o ∧ o.cls = .type "tuple" ∧ o.data = .seq items n ∧ NestedAll h ks items.toList := by
  obtain ⟨r, _, _⟩ := x
  cases r with
  | tup h1 h2 h3 h4 => exact ⟨_, _, _, _, rfl, h1, h2, h3, h4⟩
theorem At.goes {h h' : Heap} {q : NestedKey} {b : Addr} (x : At h q b) (kp : ∀ c o vs n, h.get? c = some o → o.data = .seq vs n → h'.get? c = some o) : At h' q b := ⟨NestedIs.at kp q _ x.rd, x.dp, x.nm⟩
theorem At.kept {h h' : Heap} {q : NestedKey} {b : Addr} (x : At h q b) (kp : ∀ c o, h.get? c = some o → h'.get? c = some o) : At h' q b := x.goes fun c o _ _ e _ => kp c o e
/-- the object at S is no tuple: it may change -/
theorem At.beside {h h' : Heap} {q : NestedKey} {b S : Addr} {o : Obj} {es : Array (Int × Value)} {ep : Nat} {t : SetTable} (x : At h q b) (ho : h.get? S = some o) (hd : o.data = .set es ep t) (sb : Heap.SameBut S h h') : At h' q b :=
  x.goes fun c o' vs n e e2 => (sb.2 c fun z => by
    subst z
    rw [ho] at e
    cases e
    rw [hd] at e2
    cases e2).trans e

section
variable {P : Program} {w : World} {A : Around} {E : Value → Shared → Prop} {s : Shared}
/-! ### what is asked of such keys -/
theorem class_flat {n : Nat} {q : NestedKey} {v : Value} {h : Heap} (hv : NestedIs h q v) (hq : nums q = true) : (∃ b, v = .ref b) ∨ (ofAClassStatement n v = pure false ∧ hashByValue n v = pure true) := by
  cases hv with
  | none => cases hq
  | bool _ => exact .inr ⟨by cases n <;> rfl, by cases n <;> rfl⟩
  | int i t => exact .inr ⟨by cases n <;> rfl, by cases n <;> rfl⟩
  | text x t => cases hq
  | tup _ _ _ _ => exact .inl ⟨_, rfl⟩
/-- every value of the list is such a key, of this depth at most -/
def Each (h : Heap) (n : Nat) (vs : List Value) : Prop := ∀ v ∈ vs, ∃ q, NestedIs h q v ∧ q.depth ≤ n ∧ nums q = true
theorem each_all {h : Heap} {n : Nat} : ∀ {ks : List NestedKey} {vs : List Value}, NestedAll h ks vs → NestedKey.depthAll ks ≤ n → numsAll ks = true → Each h n vs
  | _, _, .nil, _, _ => fun v m => by cases m
  | k :: ks, _, .cons x xs, hd, hn => fun v m => by
    simp only [NestedKey.depthAll] at hd
    simp only [numsAll, Bool.and_eq_true] at hn
    rcases List.mem_cons.mp m with e | m
    · subst e
      exact ⟨k, x, by omega, hn.1⟩
    · exact each_all xs (by omega) hn.2 v m
theorem class_no : ∀ (n : Nat) (s : Shared) (v : Value) (q : NestedKey) (Q : Bool → Shared → Prop), NestedIs s.heap q v → q.depth ≤ n → nums q = true → Q false s → wpAny (model P w) A (ofAClassStatement n v) Q E s
  | n, s, v, q, Q, hv, hd, hq, hQ => by
    rcases class_flat (n := n) hv hq with ⟨b, rfl⟩ | ⟨e, _⟩
    · cases hv with
      | @tup _ o vs m ks ho hc hdt hall =>
        match n, hd with
        | 0, hd => simp [NestedKey.depth] at hd
        | n + 1, hd =>
          simp only [NestedKey.depth] at hd
          have hT : s.TypeIs (.ref b) "tuple" := ⟨o, ho, hc⟩
          unfold ofAClassStatement
          refine wpAny_bind (wpAny_typeOf hT ?_)
          dsimp only
          have e : (("tuple" : String) == "tuple") = true := by decide
          simp only [e, if_true, Bool.not_true, Bool.false_eq_true, if_false]
          try refine wpAny_bind (wpAny_pure ?_)
          try simp only [Bool.not_true, Bool.false_eq_true, if_false]
          show wpAny _ _ (seqItems? (.ref b) >>= _) _ _ s
          refine wpAny_bind (wpAny_seqItems ho hdt ?_)
          dsimp only
          refine wpAny_bind ?_
          show wpAny _ _ (forIn vs _ _) _ _ s
          rw [← Array.forIn_toList]
          refine wpAny_forIn_list _ (fun left r s' => r.1 = none ∧ s' = s ∧ Each s.heap n left) _ ?_ ?_ _ _ ⟨rfl, rfl, each_all hall (by omega) (by simpa [nums] using hq)⟩
          · rintro u left r s' ⟨hr, rfl, he⟩
            obtain ⟨q', h1, h2, h3⟩ := he u List.mem_cons_self
            refine wpAny_bind (class_no n _ u q' _ h1 h2 h3 ?_)
            simp only [Bool.false_eq_true, if_false]
            exact wpAny_pure ⟨rfl, rfl, fun z hz => he z (List.mem_cons_of_mem _ hz)⟩
          · rintro ⟨r1, r2⟩ s' ⟨hr, rfl, _⟩
            simp only at hr
            subst hr
            exact wpAny_pure hQ
    · rw [e]
      exact wpAny_pure hQ
theorem byValue_yes : ∀ (n : Nat) (s : Shared) (v : Value) (q : NestedKey) (Q : Bool → Shared → Prop), NestedIs s.heap q v → q.depth ≤ n → nums q = true → Q true s → wpAny (model P w) A (hashByValue n v) Q E s
  | n, s, v, q, Q, hv, hd, hq, hQ => by
    rcases class_flat (n := n) hv hq with ⟨b, rfl⟩ | ⟨_, e⟩
    · cases hv with
      | @tup _ o vs m ks ho hc hdt hall =>
        match n, hd with
        | 0, hd => simp [NestedKey.depth] at hd
        | n + 1, hd =>
          simp only [NestedKey.depth] at hd
          have hT : s.TypeIs (.ref b) "tuple" := ⟨o, ho, hc⟩
          unfold hashByValue
          refine wpAny_bind (wpAny_specialOf hT F.slot_tuple_hash.lookup ?_)
          show wpAny _ _ (seqItems? (.ref b) >>= _) _ _ s
          refine wpAny_bind (wpAny_seqItems ho hdt ?_)
          refine wpAny_bind ?_
          show wpAny _ _ (forIn vs _ _) _ _ s
          rw [← Array.forIn_toList]
          refine wpAny_forIn_list _ (fun left r s' => r.1 = none ∧ s' = s ∧ Each s.heap n left) _ ?_ ?_ _ _ ⟨rfl, rfl, each_all hall (by omega) (by simpa [nums] using hq)⟩
          · rintro u left r s' ⟨hr, rfl, he⟩
            obtain ⟨q', h1, h2, h3⟩ := he u List.mem_cons_self
            refine wpAny_bind (byValue_yes n _ u q' _ h1 h2 h3 ?_)
            simp only [Bool.not_true, Bool.false_eq_true, if_false]
            exact wpAny_pure ⟨rfl, rfl, fun z hz => he z (List.mem_cons_of_mem _ hz)⟩
          · rintro ⟨r1, r2⟩ s' ⟨hr, rfl, _⟩
            simp only at hr
            subst hr
            exact wpAny_pure hQ
    · rw [e]
      exact wpAny_pure hQ
theorem quiet_at {q : NestedKey} {b : Addr} {Q : Bool → Shared → Prop} (x : At s.heap q b) (hQ : Q true s) : wpAny (model P w) A (eqIsQuiet 8 (.ref b)) Q E s := quiet_key q _ 8 s x.rd x.dp A E Q hQ
theorem eq_at {q r : NestedKey} {b c : Addr} {Q : Bool → Shared → Prop} (hu : A.units + 8 < cLine) (x : At s.heap q b) (y : At s.heap r c) (hQ : Q (decide (q = r)) s) : wpAny (model P w) A (eqBool (.ref b) (.ref c)) Q E s :=
  (nestedKind P w).eqBool hu ⟨x.rd, x.dp⟩ ⟨y.rd, y.dp⟩ hQ
theorem hash_at {q : NestedKey} {b : Addr} {Q : Int → Shared → Prop} (hu : A.units + 8 < cLine) (x : At s.heap q b) (hQ : Q (hk w q) { s with toks := s.toks + q.draws }) : wpAny (model P w) A (pyHash (.ref b)) Q E s :=
  (nestedKind P w).pyHash hu ⟨x.rd, x.dp⟩ hQ
/-- a search among such keys shows nothing -/
theorem unseen {q : NestedKey} {b : Addr} {Q : Bool → Shared → Prop} (x : At s.heap q b) {ys : List Value} (hy : ∀ y ∈ ys, ∃ r c, y = Value.ref c ∧ At s.heap r c) (hQ : Q false s) : wpAny (model P w) A (searchCouldBeSeen (.ref b) ys) Q E s := by
  unfold searchCouldBeSeen
  refine wpAny_bind ?_
  refine wpAny_forIn_list _ (fun left r s' => r.1 = none ∧ s' = s ∧ ∀ y ∈ left, ∃ r c, y = Value.ref c ∧ At s.heap r c) _ ?_ ?_ _ _ ⟨rfl, rfl, hy⟩
  · rintro v left r s' ⟨hr, rfl, he⟩
    obtain ⟨r', c, rfl, hc⟩ := he v List.mem_cons_self
    have left' : ∀ y ∈ left, ∃ r c, y = Value.ref c ∧ At s'.heap r c := fun u hu' => he u (List.mem_cons_of_mem _ hu')
    dsimp only
    by_cases hv : (b == c || (carriedByValue (.ref b) && carriedByValue (.ref c))) = true
    · exact wp_if_pos hv (wpAny_pure ⟨rfl, rfl, left'⟩)
    · refine wp_if_neg hv ?_
      refine wpAny_bind (quiet_at x ?_)
      simp only [Bool.not_true, Bool.false_eq_true, if_false]
      refine wpAny_bind (quiet_at hc ?_)
      simp only [Bool.not_true, Bool.false_eq_true, if_false]
      refine wpAny_bind (class_no 8 _ _ q _ x.rd x.dp x.nm ?_)
      simp only [Bool.false_eq_true, if_false]
      refine wpAny_bind (class_no 8 _ _ r' _ hc.rd hc.dp hc.nm ?_)
      simp only [Bool.false_eq_true, if_false]
      exact wpAny_pure ⟨rfl, rfl, left'⟩
  · rintro ⟨r1, r2⟩ s' ⟨hr, rfl, _⟩
    simp only at hr
    subst hr
    exact wpAny_pure hQ

/-! ### the set -/
abbrev Bag := List (Addr × NestedKey)
def rows (w : World) (B : Bag) : List (Int × Value) := B.map fun p => (hk w p.2, Value.ref p.1)
def hashes (w : World) (B : Bag) : List Int := B.map fun p => hk w p.2
theorem rows_len {w : World} {B : Bag} {es : Array (Int × Value)} (h : es.toList = rows w B) : es.size = B.length := by
  rw [← Array.length_toList, h]
  simp [rows]
theorem rows_at {w : World} {B : Bag} {es : Array (Int × Value)} (h : es.toList = rows w B) {i : Nat} {p : Addr × NestedKey} (hp : B[i]? = some p) : es[i]? = some (hk w p.2, Value.ref p.1) := by
  rw [← Array.getElem?_toList, h]
  unfold rows
  rw [List.getElem?_map, hp]
  rfl
/-- the set object at S: its rows, its table -/
structure Holds (w : World) (h : Heap) (S : Addr) (B : Bag) (es : Array (Int × Value)) (ep : Nat) (t : SetTable) : Prop where
  obj : ∃ o, h.get? S = some o ∧ o.ExactSet ∧ o.data = .set es ep t
  row : es.toList = rows w B
  tab : TabOk t (hashes w B)
  ndp : (B.map (·.2)).Nodup
  mem : ∀ p ∈ B, At h p.2 p.1
  pln : t.plain = true
  led : w.params.followText "set-order" = true ∨ t.led = true
  rm : B.length * 5 < t.mask * 3
  few : B.length < 64
variable {S : Addr} {B : Bag} {es : Array (Int × Value)} {ep : Nat} {t : SetTable}
theorem Holds.size (R : Holds w s.heap S B es ep t) : es.size = B.length := rows_len R.row
theorem tab_len {w : World} {B : Bag} {t : SetTable} (T : TabOk t (hashes w B)) : t.place.size = B.length := by
  have := T.sz
  unfold hashes at this
  rw [List.length_map] at this
  exact this
theorem Holds.fits (R : Holds w s.heap S B es ep t) : t.fits es.size = true := by
  have h1 := tab_len R.tab
  have h2 := R.size
  have h3 := R.rm
  unfold SetTable.fits SetTable.fill
  rw [R.tab.dm, Bool.and_eq_true, beq_iff_eq, decide_eq_true_eq]
  show t.place.size = es.size ∧ t.place.size + 0 ≤ t.mask
  omega
theorem Holds.gw (R : Holds w s.heap S B es ep t) : ¬ t.gaveWay = true := by
  unfold SetTable.gaveWay
  rw [mask_odd R.tab.mok]
  decide

/-! the search -/
abbrev wy (w : World) (t : SetTable) (q : NestedKey) (n : Nat) : Nat := way t.mask (hk w q) n
abbrev prb (w : World) (t : SetTable) (q : NestedKey) (n : Nat) : SetTable.Probe := nth t.mask (runAt t.mask (SetTable.bits (hk w q) % (t.mask + 1)) (SetTable.bits (hk w q))) n
theorem prb_clean (w : World) (t : SetTable) (q : NestedKey) (n : Nat) : (prb w t q n).dummy = none := by
  have go : ∀ (m : Nat) (p : SetTable.Probe), p.dummy = none → (nth t.mask p m).dummy = none := fun m => by
    induction m with
    | zero => exact fun p h => h
    | succ m ih =>
      intro p h
      refine ih (adv t.mask p) ?_
      unfold adv
      split <;> exact h
  exact go n _ rfl
theorem prb_add (w : World) (t : SetTable) (q : NestedKey) (n m : Nat) : nth t.mask (prb w t q n) m = prb w t q (n + m) := (nth_add t.mask n _ m).symm
theorem prb_j (w : World) (t : SetTable) (q : NestedKey) (n m : Nat) : (nth t.mask (prb w t q n) m).j = wy w t q (n + m) := congrArg SetTable.Probe.j (prb_add w t q n m)
theorem find_from (R : Holds w s.heap S B es ep t) {x : Addr} {q : NestedKey} (hx : At s.heap q x) (hu : A.units + 8 < cLine) {M : Nat} (hM : M < 10 * SetTable.turns t.mask)
    (hE : wy w t q M ∉ t.place.toList) (hF : ∀ c, c < M → wy w t q c ∈ t.place.toList) {Q : SetFound → Shared → Prop}
    (hin : q ∈ B.map (·.2) → Q (.there none) s) (hout : q ∉ B.map (·.2) → Q (.free (wy w t q M) false) s) :
    ∀ (f c : Nat) (stand : Option SetTable.Probe), stand.getD (t.probeStart (hk w q)) = prb w t q c → c ≤ M → M - c < f →
      (∀ (i : Nat) p, B[i]? = some p → p.2 = q → ∃ c', c ≤ c' ∧ c' < M ∧ t.place.toList[i]? = some (wy w t q c')) → wpAny (model P w) A (setSearchFrom S (.ref x) (hk w q) true f stand) Q E s
  | 0, c, stand, _, _, hf, _ => absurd hf (Nat.not_lt_zero _)
  | f + 1, c, stand, hst, hc, hf, hre => by
    obtain ⟨ob, hob, hex, hdt⟩ := R.obj
    rw [setSearchFrom_succ]
    refine wpAny_bind (wpAny_setState_of hob hdt R.fits ?_)
    dsimp only
    refine wp_if_neg R.gw ?_
    try refine wpAny_bind (wpAny_pure ?_)
    have word := go_spec t R.tab.ris R.tab.dm (fun i => (es[i]?.map (·.1)).getD 0) (hk w q) (10 * SetTable.turns t.mask) (M - c) (prb w t q c) (prb_clean w t q c) (by omega)
      (fun d hd => by rw [prb_j]; exact hF (c + d) (by omega)) (by rw [prb_j, show c + (M - c) = M by omega]; exact hE)
    have hashOf : ∀ (i : Nat) p, B[i]? = some p → (fun i => (es[i]?.map (·.1)).getD 0) i = hk w p.2 := fun i p hp => by
      show (es[i]?.map (·.1)).getD 0 = _
      rw [rows_at R.row hp]
      rfl
    rcases word with ⟨d, i, hd, hi, hh, hno, hpr⟩ | ⟨hno, hpr⟩
    · have found : t.probe (fun i => (es[i]?.map (·.1)).getD 0) (hk w q) (stand.getD (t.probeStart (hk w q))) = some (.candidate (wy w t q (c + d)) i (prb w t q (c + (d + 1)))) := by
        rw [hst, ← prb_j, ← prb_add]
        exact hpr
      rw [found]
      dsimp only
      rw [prb_j] at hi
      have hil : i < B.length := by
        have h1 : i < t.place.toList.length := (List.getElem?_eq_some_iff.mp hi).1
        rw [Array.length_toList, tab_len R.tab] at h1
        exact h1
      obtain ⟨p, hp⟩ : ∃ p, B[i]? = some p := ⟨_, List.getElem?_eq_getElem hil⟩
      have hmem : p ∈ B := List.mem_of_getElem? hp
      have hpt := R.mem p hmem
      have behind : wpAny (model P w) A (searchRest S (.ref x) (hk w q) true f es t (wy w t q (c + d)) i (prb w t q (c + (d + 1)))) Q E s := by
        unfold searchRest
        rw [rows_at R.row hp]
        dsimp only
        refine wpAny_bind (wpAny_holding (eq_at hu hpt hx ?_))
        refine wpAny_bind (wpAny_setState_of hob hdt R.fits ?_)
        dsimp only
        by_cases same : p.2 = q
        · refine wp_if_pos (by simp [same]) ?_
          exact wpAny_pure (hin (List.mem_map.mpr ⟨p, hmem, same⟩))
        · refine wp_if_neg (by simp [same]) ?_
          try refine wpAny_bind (wpAny_pure ?_)
          rw [sameMem]
          dsimp only
          have sits : t.slot (wy w t q (c + d)) = .live i := slot_live R.tab.ris hi
          simp only [if_true, sits, rows_at R.row hp]
          refine wpAny_bind (wpAny_isSame_ref_self (wpAny_bind (wpAny_pure ?_)))
          simp only [if_true]
          refine wp_if_neg (by simp [same]) ?_
          refine find_from R hx hu hM hE hF hin hout f (c + (d + 1)) _ rfl (by omega) (by omega) fun i0 p0 g1 g2 => ?_
          obtain ⟨c', a1, a2, a3⟩ := hre i0 p0 g1 g2
          refine ⟨c', ?_, a2, a3⟩
          by_cases z1 : c' < c + d
          · refine (hno (c' - c) i0 (by omega) (by rw [prb_j, show c + (c' - c) = c' by omega]; exact a3) ?_).elim
            exact (hashOf i0 p0 g1).trans (congrArg (hk w) g2)
          · by_cases z2 : c' = c + d
            · subst z2
              have s0 := slot_live R.tab.ris a3
              rw [sits] at s0
              injection s0 with s0
              subst s0
              rw [hp] at g1
              cases g1
              exact (same g2).elim
            · omega
      by_cases hl : t.led = true
      · refine wp_if_neg (by simp [hl]) ?_
        try refine wpAny_bind (wpAny_pure ?_)
        exact behind
      · refine wp_if_pos (by simp [hl]) ?_
        refine wpAny_bind (unseen hx (fun y hy => ?_) ?_)
        · obtain ⟨e, he, ee⟩ := List.mem_map.mp hy
          have in1 : e ∈ es ∧ e.1 = hk w q := by simpa using he
          have in2 : e ∈ es.toList := by simpa using in1.1
          rw [R.row] at in2
          obtain ⟨p2, hp2, e2⟩ := List.mem_map.mp in2
          exact ⟨p2.2, p2.1, by rw [← ee, ← e2], R.mem p2 hp2⟩
        · refine wp_if_neg (by decide) ?_
          try refine wpAny_bind (wpAny_pure ?_)
          exact behind
    · have void : t.probe (fun i => (es[i]?.map (·.1)).getD 0) (hk w q) (stand.getD (t.probeStart (hk w q))) = some (.empty (wy w t q M) none) := by
        have e2 : wy w t q M = (nth t.mask (prb w t q c) (M - c)).j := by rw [prb_j, show c + (M - c) = M by omega]
        rw [hst, e2]
        exact hpr
      rw [void]
      dsimp only
      refine wpAny_pure (hout fun hm => ?_)
      obtain ⟨p0, g0, g2⟩ := List.mem_map.mp hm
      obtain ⟨i0, hi0, e0⟩ := List.getElem_of_mem g0
      have g1 : B[i0]? = some p0 := by rw [List.getElem?_eq_getElem hi0, e0]
      obtain ⟨c', a1, a2, a3⟩ := hre i0 p0 g1 g2
      refine hno (c' - c) i0 (by omega) (by rw [prb_j, show c + (c' - c) = c' by omega]; exact a3) ?_
      exact (hashOf i0 p0 g1).trans (congrArg (hk w) g2)
theorem find_at (R : Holds w s.heap S B es ep t) {x : Addr} {q : NestedKey} (hx : At s.heap q x) (hu : A.units + 8 < cLine) {Q : SetFound → Shared → Prop} (hin : q ∈ B.map (·.2) → Q (.there none) s)
    (hout : ∀ M, q ∉ B.map (·.2) → wy w t q M ∉ t.place.toList → (∀ c, c < M → wy w t q c ∈ t.place.toList) → Q (.free (wy w t q M) false) s) : wpAny (model P w) A (setSearch S (.ref x) (hk w q) true) Q E s := by
  have hrm := R.rm
  obtain ⟨M, hM, hE, hF⟩ := R.tab.first (by unfold hashes; rw [List.length_map]; omega) (hk w q)
  have few : M < 100000 := by
    have : 10 * SetTable.turns t.mask ≤ 1420 := by
      unfold SetTable.turns
      rcases R.tab.mok with e | e | e <;> omega
    omega
  unfold setSearch
  refine find_from R hx hu hM hE hF hin (fun hn => hout M hn hE hF) 100000 0 none rfl (Nat.zero_le _) (by omega) fun i p hp hq => ?_
  have hi : (hashes w B)[i]? = some (hk w q) := by
    unfold hashes
    rw [List.getElem?_map, hp, ← hq]
    rfl
  have hil : i < t.place.toList.length := by
    rw [Array.length_toList, tab_len R.tab]
    exact (List.getElem?_eq_some_iff.mp hp).1
  have hj := List.getElem?_eq_getElem hil
  obtain ⟨c, hc, e⟩ := R.tab.before hE hi hj
  exact ⟨c, Nat.zero_le _, hc, hj.trans (congrArg some e.symm)⟩

/-! laying anew, adding -/
theorem rows_ins (w : World) (B : Bag) (p : Nat) (x : Addr) (q : NestedKey) : rows w (B.take p ++ (x, q) :: B.drop p) = (rows w B).take p ++ (hk w q, Value.ref x) :: (rows w B).drop p := by
  simp [rows, List.map_take, List.map_drop]
theorem reorder (B : Bag) (es : Array (Int × Value)) (order : Array Nat) (hr : es.toList = rows w B) (hp : order.toList.Perm (List.range B.length)) :
    ∃ B2 : Bag, (order.filterMap (es[·]?)).toList = rows w B2 ∧ B2.Perm B ∧ hashes w B2 = order.toList.map fun i => (es.map (·.1)).getD i 0 := by
  have ent : ∀ i (h : i < B.length), es[i]? = some (hk w (B[i]).2, Value.ref (B[i]).1) := fun i h => rows_at hr (List.getElem?_eq_getElem h)
  have each : ∀ l : List Nat, (∀ i ∈ l, i < B.length) → l.filterMap (fun i => es[i]?) = rows w (l.filterMap fun i => B[i]?) ∧ hashes w (l.filterMap fun i => B[i]?) = l.map fun i => (es.map (·.1)).getD i 0 := fun l => by
    induction l with
    | nil => exact fun _ => ⟨rfl, rfl⟩
    | cons i l ih =>
      intro hl
      have hi := hl i List.mem_cons_self
      obtain ⟨e1, e2⟩ := ih fun j hj => hl j (List.mem_cons_of_mem _ hj)
      rw [List.filterMap_cons_some (ent i hi), List.filterMap_cons_some (List.getElem?_eq_getElem hi), e1]
      refine ⟨rfl, ?_⟩
      unfold hashes at e2 ⊢
      rw [List.map_cons, List.map_cons, e2]
      have e5 : (es.map (·.1))[i]? = some (hk w (B[i]).2) := by rw [Array.getElem?_map, ent i hi]; rfl
      simp [Array.getD_eq_getD_getElem?, e5]
  obtain ⟨e1, e2⟩ := each order.toList fun i hi => List.mem_range.mp (hp.mem_iff.mp hi)
  refine ⟨order.toList.filterMap fun i => B[i]?, by simpa using e1, ?_, e2⟩
  have whole : (List.range B.length).filterMap (fun i => B[i]?) = B := by
    have upto : ∀ n, n ≤ B.length → (List.range n).filterMap (fun i => B[i]?) = B.take n := fun n => by
      induction n with
      | zero => exact fun _ => rfl
      | succ n ih =>
        intro hn
        rw [List.range_succ, List.filterMap_append, ih (Nat.le_of_lt hn), List.take_succ, List.getElem?_eq_getElem hn, List.filterMap_cons_some (List.getElem?_eq_getElem hn)]
        rfl
    rw [upto _ (Nat.le_refl _), List.take_length]
  have h1 := hp.filterMap fun i => B[i]?
  rw [whole] at h1
  exact h1
theorem relaid_at {ob : Obj} (hob : s.heap.get? S = some ob) (hex : ob.ExactSet) (hdt : ob.data = .set es ep t) (hrow : es.toList = rows w B) (hsz : t.place.size = es.size) (hdm : t.dummies = #[]) (hfl : es.size ≤ t.mask)
    (nd : (B.map (·.2)).Nodup) (mem : ∀ p ∈ B, At s.heap p.2 p.1) (pl : t.plain = true) (ld : w.params.followText "set-order" = true ∨ t.led = true) (few : B.length < 64) {wanted M : Nat}
    (hw : SetTable.sizeAbove wanted - 1 = M) (hM : MaskOk M) (hw2 : SetTable.sizeAbove wanted ≤ 128) (hn : B.length * 5 < M * 3) {Q : Unit → Shared → Prop}
    (hQ : ∀ h' B' es' ep' t', Heap.SameBut S s.heap h' → Holds w h' S B' es' ep' t' → B'.Perm B → Q () { s with heap := h' }) : wpAny (model P w) A (setRelay S wanted) Q E s := by
  have hlen := rows_len hrow
  have hfits : t.fits es.size = true := by
    unfold SetTable.fits SetTable.fill
    rw [hdm, Bool.and_eq_true, beq_iff_eq, decide_eq_true_eq]
    show t.place.size = es.size ∧ t.place.size + 0 ≤ t.mask
    omega
  obtain ⟨t', order, e, hp, T, em, el, epl, ed⟩ := relaid_ok t (hs := es.map (·.1)) (wanted := wanted) hw hM (by rw [Array.size_map, hlen]; omega)
  rw [Array.size_map, hlen] at hp
  obtain ⟨B2, r1, r2, r3⟩ := reorder B es order hrow hp
  rw [← r3] at T
  have hs2 : (order.filterMap (es[·]?)).size = es.size := by rw [rows_len r1, r2.length_eq, hlen]
  rw [setRelay_eq]
  refine wpAny_bind (wpAny_setState_of hob hdt hfits ?_)
  dsimp only
  refine wp_if_neg (by rw [sizeLine_eq]; omega) ?_
  try refine wpAny_bind (wpAny_pure ?_)
  rw [e]
  dsimp only
  refine wpAny_bind ?_
  refine wp_if_neg (by rw [hs2]; simp) ?_
  try refine wpAny_bind (wpAny_pure ?_)
  refine wpAny_pure ?_
  dsimp only
  refine wpAny_storeSet_of hob hdt ?_ (by rw [hs2, hlen, sizeLine_eq]; omega)
  have sb : Heap.SameBut S s.heap (s.heap.update S (Obj.putSet (order.filterMap (es[·]?)) t')) := Heap.SameBut.update ..
  refine hQ _ B2 (order.filterMap (es[·]?)) (ep + 1) t' sb ?_ r2
  exact ⟨⟨_, store_at hob hdt, ⟨hex.1, hex.2.1, hex.2.2⟩, rfl⟩, r1, T, (r2.map (·.2)).nodup_iff.mpr nd, fun p hpm => (mem p (r2.mem_iff.mp hpm)).beside hob hdt sb, by rw [epl]; exact pl, by rw [el]; exact ld, by rw [r2.length_eq, em]; exact hn, by rw [r2.length_eq]; exact few⟩
theorem added_at (R : Holds w s.heap S B es ep t) {x : Addr} {q : NestedKey} (hx : At s.heap q x) (hu : A.units + 8 < cLine) (hfew : B.length + 1 < 64) {Q : Bool → Shared → Prop}
    (hQ : ∀ b h' B' es' ep' t', Heap.SameBut S s.heap h' → Holds w h' S B' es' ep' t' → (q ∈ B.map (·.2) → B' = B) → (q ∉ B.map (·.2) → B'.Perm ((x, q) :: B)) → Q b { s with heap := h' }) :
    wpAny (model P w) A (setAddHashed S (.ref x) (hk w q)) Q E s := by
  obtain ⟨ob, hob, hex, hdt⟩ := R.obj
  have hlen := R.size
  have hrm := R.rm
  unfold setAddHashed
  refine wpAny_holding ?_
  rw [show (100000 : Nat) = 99999 + 1 from rfl, setAddHashedIn_succ]
  refine wpAny_bind (wpAny_setState_of hob hdt R.fits ?_)
  dsimp only
  refine wp_if_neg (by simp [byScan, Value.scannable]) ?_
  try refine wpAny_bind (wpAny_pure ?_)
  refine wpAny_bind (find_at R hx hu (fun hm => ?_) fun M hm hE hF => ?_)
  · dsimp only
    exact wpAny_pure (hQ false s.heap B es ep t (Heap.SameBut.refl S s.heap) R (fun _ => rfl) fun z => absurd hm z)
  · dsimp only
    refine wpAny_bind (wpAny_setState_of hob hdt R.fits ?_)
    dsimp only
    obtain ⟨q1, q2, q3, q4, q5, q6, q7, q8, q9⟩ := R.tab.put hE hF
    have hp1 : (t.put (wy w t q M)).1.plain = true := by rw [q6]; exact R.pln
    generalize hpt : t.put (wy w t q M) = pt at q1 q3 q4 q5 q6 q7 q8 q9 hp1 ⊢
    obtain ⟨t1, p⟩ := pt
    dsimp only at q1 q3 q4 q5 q6 q7 q8 q9 hp1 ⊢
    subst q1
    first
      | (refine wpAny_bind ?_; refine wp_if_pos hp1 ?_; refine byValue_yes 8 _ _ q _ hx.rd hx.dp hx.nm ?_)
      | refine wp_if_pos hp1 (wpAny_bind (byValue_yes 8 _ _ q _ hx.rd hx.dp hx.nm ?_))
    simp only [if_true]
    have hin : (SetTable.insertAt es (SetTable.below t.place (wy w t q M)) (hk w q, Value.ref x)).toList = rows w (B.take (SetTable.below t.place (wy w t q M)) ++ (x, q) :: B.drop (SetTable.below t.place (wy w t q M))) := by
      rw [SetTable.toList_insertAt, rows_ins, R.row]
    generalize hpp : SetTable.below t.place (wy w t q M) = p at q2 q3 hin ⊢
    have pm := put_perm B p (x, q)
    have hlen1 : (B.take p ++ (x, q) :: B.drop p).length = B.length + 1 := pm.length_eq
    have hhs : hashes w (B.take p ++ (x, q) :: B.drop p) = (hashes w B).take p ++ hk w q :: (hashes w B).drop p := by
      simp [hashes, List.map_take, List.map_drop]
    rw [← hhs] at q3
    have nd1 : ((B.take p ++ (x, q) :: B.drop p).map (·.2)).Nodup := by
      refine (pm.map (·.2)).nodup_iff.mpr ?_
      rw [List.map_cons]
      exact List.nodup_cons.mpr ⟨hm, R.ndp⟩
    have hes : (SetTable.insertAt es p (hk w q, Value.ref x)).size = B.length + 1 := by rw [rows_len hin, hlen1]
    generalize SetTable.insertAt es p (hk w q, Value.ref x) = es1 at hin hes ⊢
    generalize B.take p ++ (x, q) :: B.drop p = B1 at pm hlen1 q3 nd1 hin
    refine wpAny_bind (wpAny_storeSet_of hob hdt ?_ (by rw [hes, sizeLine_eq]; omega))
    have sb : Heap.SameBut S s.heap (s.heap.update S (Obj.putSet es1 t1)) := Heap.SameBut.update ..
    have hob1 := store_at (es' := es1) (t' := t1) hob hdt
    generalize s.heap.update S (Obj.putSet es1 t1) = h1 at sb hob1 ⊢
    have mem1 : ∀ p ∈ B1, At h1 p.2 p.1 := fun p hp => by
      rcases List.mem_cons.mp (pm.mem_iff.mp hp) with e | hp
      · rw [e]; exact hx.beside hob hdt sb
      · exact (R.mem p hp).beside hob hdt sb
    have ld1 : w.params.followText "set-order" = true ∨ t1.led = true := by rw [q5]; exact R.led
    have hl9 : (hashes w B).length = B.length := by simp [hashes]
    by_cases hf : t1.tooFull = true
    · first
        | (refine wpAny_bind ?_; refine wp_if_pos (by simp [hf]) ?_)
        | (refine wp_if_pos (by simp [hf]) ?_; refine wpAny_bind ?_)
      have hfull : (B.length + 1) * 5 ≥ t1.mask * 3 := by
        have h := hf
        unfold SetTable.tooFull at h
        rw [decide_eq_true_eq, q9, hl9] at h
        exact h
      rw [hlen]
      have hsz1 : t1.place.size = es1.size := by rw [tab_len q3, hes, hlen1]
      have two : (t.mask = 7 ∧ B.length = 4) ∨ (t.mask = 31 ∧ B.length = 18) := by
        rcases R.tab.mok with e | e | e
        · left; rw [q4, e] at hfull; rw [e] at hrm; exact ⟨e, by omega⟩
        · right; rw [q4, e] at hfull; rw [e] at hrm; exact ⟨e, by omega⟩
        · exfalso; have := R.few; rw [q4, e] at hfull; omega
      have anew : ∀ M, SetTable.sizeAbove (SetTable.grown (B.length + 1)) - 1 = M → MaskOk M → SetTable.sizeAbove (SetTable.grown (B.length + 1)) ≤ 128 → (B.length + 1) * 5 < M * 3 →
          wpAny (model P w) A (setRelay S (SetTable.grown (B.length + 1))) (fun _ s' => wpAny (model P w) A (pure true) Q E s') E { s with heap := h1 } := fun M h1' h2' h3' h4' => by
        refine relaid_at (s := { s with heap := h1 }) hob1 ⟨hex.1, hex.2.1, hex.2.2⟩ rfl hin hsz1 q3.dm (by rw [hes, q4]; rcases two with ⟨e, e2⟩ | ⟨e, e2⟩ <;> omega) nd1 mem1 hp1 ld1 (by rw [hlen1]; exact hfew) h1' h2' h3' (by rw [hlen1]; exact h4') ?_
        intro h2 B2 es2 ep2 t2 sb2 R2 pm2
        exact wpAny_pure (hQ true h2 B2 es2 ep2 t2 (sb.trans sb2) R2 (fun z => absurd z hm) fun _ => pm2.trans pm)
      rcases two with ⟨_, e2⟩ | ⟨_, e2⟩
      · exact anew 31 (by rw [e2, size_20]) (.inr (.inl rfl)) (by rw [e2, size_20]; decide) (by omega)
      · exact anew 127 (by rw [e2, size_76]) (.inr (.inr rfl)) (by rw [e2, size_76]; decide) (by omega)
    · first
        | refine wp_if_neg (by simp [hf]) ?_
        | (refine wpAny_bind ?_; refine wp_if_neg (by simp [hf]) ?_; refine wpAny_pure ?_)
      refine wpAny_pure (hQ true h1 B1 es1 (ep + 1) t1 sb ⟨⟨_, hob1, ⟨hex.1, hex.2.1, hex.2.2⟩, rfl⟩, hin, q3, nd1, mem1, hp1, ld1, ?_, by rw [hlen1]; exact hfew⟩ (fun z => absurd z hm) fun _ => pm)
      have h := hf
      unfold SetTable.tooFull at h
      rw [decide_eq_true_eq, q9, hl9] at h
      rw [hlen1]
      omega
end
end NS

-- text NS2
set_option Elab.async false
set_option linter.all false
set_option maxRecDepth 100000
set_option maxHeartbeats 3200000
/-! set(xs): the whole call -/
namespace NS
open PySem PySem.Spec PyProof.Rows L2
/-- what the set has of the first n -/
structure Has (ks : Bag) (n : Nat) (B : Bag) : Prop where
  sub : ∀ p ∈ B, p ∈ ks.take n
  all : ∀ p ∈ ks.take n, p.2 ∈ B.map (·.2)
  len : B.length ≤ n
theorem has_nil (ks : Bag) : Has ks 0 [] := ⟨fun p h => (by cases h), fun p h => (by simp at h), Nat.le_refl _⟩
theorem has_old {ks B : Bag} {n : Nat} {x : Addr × NestedKey} (g : Has ks n B) (h : ks[n]? = some x) (hm : x.2 ∈ B.map (·.2)) : Has ks (n + 1) B := by
  have tn : ks.take (n + 1) = ks.take n ++ [x] := by rw [List.take_succ, h]; rfl
  refine ⟨fun p hp => by rw [tn]; exact List.mem_append_left _ (g.sub p hp), fun p hp => ?_, Nat.le_succ_of_le g.len⟩
  rw [tn] at hp
  rcases List.mem_append.mp hp with z | z
  · exact g.all p z
  · rw [List.mem_singleton.mp z]; exact hm
theorem has_new {ks B B' : Bag} {n : Nat} {x : Addr × NestedKey} (g : Has ks n B) (h : ks[n]? = some x) (pm : B'.Perm (x :: B)) : Has ks (n + 1) B' := by
  have tn : ks.take (n + 1) = ks.take n ++ [x] := by rw [List.take_succ, h]; rfl
  refine ⟨fun p hp => ?_, fun p hp => ?_, by rw [pm.length_eq]; exact Nat.succ_le_succ g.len⟩
  · rw [tn]
    rcases List.mem_cons.mp (pm.mem_iff.mp hp) with e | z
    · rw [e]; exact List.mem_append_right _ (List.mem_singleton.mpr rfl)
    · exact List.mem_append_left _ (g.sub p z)
  · rw [(pm.map (·.2)).mem_iff, List.map_cons]
    rw [tn] at hp
    rcases List.mem_append.mp hp with z | z
    · exact List.mem_cons_of_mem _ (g.all p z)
    · rw [List.mem_singleton.mp z]; exact List.mem_cons_self

section
variable {P : Program} {w : World} {A : Around} {E : Value → Shared → Prop} {s : Shared}
theorem Holds.kept {h h' : Heap} {S : Addr} {B : Bag} {es : Array (Int × Value)} {ep : Nat} {t : SetTable} (R : Holds w h S B es ep t) (hS : ∀ o, h.get? S = some o → h'.get? S = some o) (hm : ∀ p ∈ B, At h' p.2 p.1) : Holds w h' S B es ep t := by
  obtain ⟨o, ho, r⟩ := R.obj
  exact ⟨⟨o, hS o ho, r⟩, R.row, R.tab, R.ndp, hm, R.pln, R.led, R.rm, R.few⟩
abbrev newSet (w : World) : Obj := { cls := .type "set", dict := none, data := .set #[] 0 (.fresh 0 0 (!w.params.followText "set-order")) }
theorem holds_new {h : Heap} {S : Addr} (ho : h.get? S = some (newSet w)) : Holds w h S [] #[] 0 (.fresh 0 0 (!w.params.followText "set-order")) := by
  refine ⟨⟨_, ho, ⟨rfl, rfl, rfl⟩, rfl⟩, rfl, ⟨List.Pairwise.nil, rfl, rfl, .inl rfl, fun x hx => (by cases hx), fun i h j hi => (by simp [hashes] at hi)⟩, List.nodup_nil, fun p hp => (by cases hp), rfl, ?_, ?_, ?_⟩
  · show _ ∨ (!w.params.followText "set-order") = true
    cases w.params.followText "set-order"
    · exact .inr rfl
    · exact .inl rfl
  · show 0 * 5 < 7 * 3
    decide
  · show 0 < 64
    decide
/-- the loop that takes the items in -/
theorem takes_in {I : Addr} {fp wr : List Addr} {G : Array GenState → Array GenState → Prop} {n : Nat} {Pv : Nat → Value → Prop} {St : Nat → Shared → Prop} {R : Result → Shared → Prop}
    (W : WalksS P w A.in1 I fp wr G n Pv St) (S : Addr) (hSf : S ∉ fp) (ks : Bag) (hn : n = ks.length) (hfew : ks.length < 64) (hval : ∀ i v, Pv i v → ∃ p, ks[i]? = some p ∧ v = .ref p.1)
    (h0 : Heap) (hks : ∀ p ∈ ks, At h0 p.2 p.1) (hS0 : h0.get? S = none) (hw0 : ∀ b ∈ wr, h0.get? b = none) (hu : A.in1.units + 8 < cLine) :
    ∀ (m i : Nat) (s : Shared), n - i = m → i ≤ n → St i s → (∀ b o, h0.get? b = some o → s.heap.get? b = some o) → (∃ B es ep t, Holds w s.heap S B es ep t ∧ Has ks i B) →
      (∀ s' B es ep t, Moved (S :: wr) G s s' → Holds w s'.heap S B es ep t → Has ks n B → (∀ b o, h0.get? b = some o → s'.heap.get? b = some o) → R (.ok (.ret .none)) s') →
      codeAny (model P w) A (.builtin "set.update.loop" ⟨[.ref S, .ref I], []⟩) R s := by
  have hSw : S ∉ wr := fun h => hSf (W.sub _ h)
  have hsub : ∀ b ∈ wr, b ∈ S :: wr := fun b hb => List.mem_cons_of_mem _ hb
  have stay : ∀ {s s' : Shared}, Moved wr G s s' → (∀ b o, h0.get? b = some o → s.heap.get? b = some o) → ∀ b o, h0.get? b = some o → s'.heap.get? b = some o := fun hm hkp b o e =>
    hm.heap b o (fun hb => by rw [hw0 b hb] at e; cases e) (hkp b o e)
  intro m
  induction m with
  | zero =>
    intro i s hm' hi hst hkp ⟨B, es, ep, t, hB, g⟩ hR
    have hin : i = n := by omega
    subst hin
    refine codeAny_builtin F.entry_set_update_loop ?_
    rw [Around.under_plainId F.plain_set_update_loop _]
    show wpAny _ A.in1 (pyNext (.ref I) >>= _) _ _ s
    refine wpAny_bind (W.done s _ _ hst fun s' hm => ?_)
    show wpAny _ A.in1 (ret Value.none) _ _ s'
    have hkp' := stay hm hkp
    exact wpAny_pure (hR s' B es ep t (hm.mono hsub) (hB.kept (fun o e => hm.heap S o hSw e) fun p hp => (hks p (List.mem_of_mem_take (g.sub p hp))).kept hkp') g hkp')
  | succ m ih =>
    intro i s hm' hi hst hkp ⟨B, es, ep, t, hB, g⟩ hR
    have hlt : i < n := by omega
    refine codeAny_builtin F.entry_set_update_loop ?_
    rw [Around.under_plainId F.plain_set_update_loop _]
    show wpAny _ A.in1 (pyNext (.ref I) >>= _) _ _ s
    refine wpAny_bind (W.item i s _ _ hlt hst fun v s' hP hst' hm => ?_)
    obtain ⟨p, hp, rfl⟩ := hval i v hP
    have hkp' := stay hm hkp
    have hB' : Holds w s'.heap S B es ep t := hB.kept (fun o e => hm.heap S o hSw e) fun r hr => (hks r (List.mem_of_mem_take (g.sub r hr))).kept hkp'
    have hx : At s'.heap p.2 p.1 := (hks p (List.mem_of_getElem? hp)).kept hkp'
    show wpAny _ A.in1 (holding [Value.ref p.1] (setAdd S (.ref p.1)) >>= _) _ _ s'
    refine wpAny_bind (wpAny_holding ?_)
    unfold setAdd
    refine wpAny_holding ?_
    refine wpAny_bind (hash_at hu hx ?_)
    refine added_at (s := { s' with toks := s'.toks + p.2.draws }) hB' hx hu (by have := g.len; omega) fun b h' B' es' ep' t' hsb hB2 c1 c2 => ?_
    have g' : Has ks (i + 1) B' := by
      rcases Classical.em (p.2 ∈ B.map (·.2)) with c | c
      · rw [c1 c]; exact has_old g hp c
      · exact has_new g hp (c2 c)
    have hkp2 : ∀ b o, h0.get? b = some o → h'.get? b = some o := fun b o e => (hsb.2 b (fun z => by rw [z, hS0] at e; cases e)).trans (hkp' b o e)
    refine wpAny_pure ⟨plainId_quiet F.plain_set_update_loop _, ih (i + 1) _ (by omega) hlt (W.frame _ s' _ _ hst' (Nat.le_add_right _ _) fun b hb o e => ?_) hkp2 ⟨B', es', ep', t', hB2, g'⟩ fun s'' B2 es2 ep2 t2 hm'' hB'' g'' hkp'' => ?_⟩
    · rw [hsb.2 b (fun h : b = S => hSf (by rw [← h]; exact hb))]; exact e
    · refine hR s'' B2 es2 ep2 t2 (Moved.trans W.gtrans ((hm.mono hsub).then_heap (Nat.le_add_right _ _) fun b o hb e => ?_) hm'') hB'' g'' hkp''
      rw [hsb.2 b (fun h : b = S => hb (by rw [h]; exact List.mem_cons_self))]; exact e
theorem set_call {l : Addr} {items : Array Value} (ks : Bag) {Q : Value → Shared → Prop} (hh : A.handled = none) (hl : s.heap.IsList l items) (hit : items.toList = ks.map fun p => Value.ref p.1)
    (hks : ∀ p ∈ ks, At s.heap p.2 p.1) (hfew : ks.length < 64) (hu : A.units + 12 < cLine)
    (h : ∀ (h' : Heap) (tk : Nat) B es ep t, Holds w h' s.heap.objs.size B es ep t → Has ks ks.length B → (∀ b o, s.heap.get? b = some o → h'.get? b = some o) → Q (.ref s.heap.objs.size) { s with heap := h', toks := tk }) :
    wpAny (model P w) A (call (.type "set") [.ref l]) Q E s := by
  have hisz : items.size = ks.length := by
    rw [← Array.length_toList, hit]
    simp
  obtain ⟨c, tl, hmro⟩ := F.called_set.mro
  have hmade := F.called_set.made
  have hsub := F.called_set.sub
  refine wpAny_call (codeAny_of_tree ?_)
  show wpAny _ _ (callAny (.type "set") _) _ _ _
  refine wpAny_pure ⟨Code.quiet_builtin _ (by decide +kernel), codeAny_builtin F.entry_type_call ?_⟩
  rw [Around.under_plain (weight_type_call_type "set" [.ref l] []) rfl]
  have h1 := F.called_set.notType
  have h2 := F.called_set.canCreate
  have hct := F.typeCall_set_1 (.ref l)
  repeat (any_goals (first | assumption | wp_step))
  refine codeAny_mono (code_set_led1 (.ref l) (E := E) (Q₁ := fun obj s₁ => obj = .ref s.heap.objs.size ∧ s₁ = { s with heap := s.heap.push (newSet w) }) ⟨rfl, rfl⟩) fun r s₁ hr => ?_
  cases r with
  | error e => exact hr
  | ok fl =>
    cases fl with
    | ret obj =>
      obtain ⟨rfl, rfl⟩ := hr
      have hS : (s.heap.push (newSet w)).get? s.heap.objs.size = some (newSet w) := Heap.get?_push_size _ rfl
      have hT : Shared.TypeIs { s with heap := s.heap.push (newSet w) } (.ref s.heap.objs.size) "set" := ⟨_, hS, rfl⟩
      have hli := F.called_set.init.lookup
      have hbi := F.called_set.init.bind (.ref s.heap.objs.size)
      repeat (any_goals (first | assumption | wp_step))
      refine codeAny_mono (codeAny_call_builtin (R := wants (fun r s₂ => r = .none ∧ ∃ h' tk B es ep t, s₂ = { s with heap := h', toks := tk } ∧ Holds w h' s.heap.objs.size B es ep t ∧ Has ks ks.length B ∧
          (∀ b o, s.heap.get? b = some o → h'.get? b = some o)) E) F.called_set.init.plain F.entry_set_init (check_set_init_1 hT ?_)) fun r₂ s₂ hr₂ => ?_
      · obtain ⟨ol, hol, hcl, nl, hdl⟩ := hl
        obtain ⟨ocls, odict, odata, oslots⟩ := ol
        simp only at hcl hdl
        subst hcl; subst hdl
        have hol' : (s.heap.push (newSet w)).get? l = some { cls := .type "list", dict := odict, data := .seq items nl, slots := oslots } := Heap.get?_push_of_some _ hol
        have hsls := F.sub_list_set
        have hslf := F.sub_list_frozenset
        have hne : (Value.type "list" == Value.type "dict") = false := by decide
        have hl1 : (s.heap.push (newSet w)).IsList l items := ⟨_, hol', rfl, nl, rfl⟩
        unfold Builtin.«set.__init__» noKeywords Builtin.Frozenset.updateFrom
        generalize hPI : pyIter = PI
        wp_walk
        subst hPI
        refine wpAny_pyIter_list hl1 ?_
        refine wpAny_bind (wpAny_runValue ?_)
        have hlS : l < s.heap.objs.size := Heap.lt_size hol
        have hh3 : A.in1.in1.in1.handled = none := by simp [hh]
        have hneI : l ≠ (s.heap.push (newSet w)).objs.size := by
          rw [Heap.size_push]; exact Nat.ne_of_lt (Nat.lt_succ_of_lt hlS)
        have hSf : s.heap.objs.size ∉ [(s.heap.push (newSet w)).objs.size, l] := by
          rw [Heap.size_push]; simp only [List.mem_cons, List.mem_singleton, List.not_mem_nil, or_false, not_or]
          exact ⟨Nat.ne_of_lt (Nat.lt_succ_self _), Nat.ne_of_gt hlS⟩
        have hval : ∀ (i : Nat) (v : Value), items[i]? = some v → ∃ p, ks[i]? = some p ∧ v = .ref p.1 := fun i v hv => by
          have q : items.toList[i]? = some v := by rw [Array.getElem?_toList]; exact hv
          rw [hit, List.getElem?_map] at q
          cases hq : ks[i]? with
          | none => rw [hq] at q; cases q
          | some p =>
            rw [hq] at q
            exact ⟨p, rfl, (Option.some.inj q).symm⟩
        have none_of : ∀ b, s.heap.objs.size ≤ b → s.heap.get? b = none := fun b hb => by
          cases q : s.heap.get? b with
          | none => rfl
          | some o => exact absurd (Nat.lt_of_lt_of_le (Heap.lt_size q) hb) (Nat.lt_irrefl _)
        refine takes_in ((Walks.list hh3 _ l hneI items).toS) s.heap.objs.size
          hSf ks hisz hfew hval s.heap hks (none_of _ (Nat.le_refl _)) (fun b hb => none_of b (by
            rw [List.mem_singleton.mp hb, Heap.size_push]
            exact Nat.le_succ _)) (by have : A.in1.in1.in1.units ≤ A.units + 4 := (by show _ ≤ _; simp [Around.in1]); omega) (items.size - 0) 0 _ (by omega) (Nat.zero_le _)
          ⟨⟨_, Heap.get?_push_size _ rfl, rfl, rfl⟩, (hl1.push _)⟩ (fun b o e => Heap.get?_push_of_some _ (Heap.get?_push_of_some _ e)) ?hS0 ?hR
        case hS0 => exact ⟨[], #[], 0, _, holds_new (Heap.get?_push_of_some _ hS), has_nil ks⟩
        case hR =>
          intro s' B es ep t hm hB' g' hkp
          obtain ⟨h', g2, d', tk', os'⟩ := s'
          have eg : g2 = s.gens := hm.gens
          have ed : d' = s.drawn := hm.drawn
          have eo : os' = s.os := hm.os
          subst eg; subst ed; subst eo
          show wpAny _ _ _ _ _ _
          refine wpAny_pure ?_
          show wpAny _ _ (ret Value.none) _ _ _
          rw [hisz] at g'
          exact wpAny_pure ⟨rfl, h', tk', B, es, ep, t, rfl, hB', g', hkp⟩
      · cases r₂ with
        | error e => exact hr₂
        | ok fl₂ =>
          cases fl₂ with
          | ret r =>
            obtain ⟨rfl, h', tk, B, es, ep, t, rfl, hB', g', hk'⟩ := hr₂
            repeat (any_goals (first | assumption | wp_step))
            exact h _ _ _ _ _ _ hB' g' hk'
          | _ => exact hr₂.elim
    | _ => exact hr.elim
end
end NS

-- text NS3
set_option Elab.async false
set_option linter.all false
set_option maxRecDepth 100000
set_option maxHeartbeats 3200000
/-! sorted(set(xs)) by data -/
namespace DL
open PySem PySem.Spec PyProof.Rows L2 NS

/-! ### lists in order -/
section
variable {α : Type} {le : α → α → Bool}
theorem sorted_eq : ∀ {l m : List α}, (∀ a ∈ l, ∀ b ∈ l, le a b = true → le b a = true → a = b) → l.Pairwise (fun a b => le a b = true) → m.Pairwise (fun a b => le a b = true) → l.Perm m → l = m
  | [], m, _, _, _, p => (List.nil_perm.mp p).symm ▸ rfl
  | a :: l, [], _, _, _, p => (List.not_perm_cons_nil p).elim
  | a :: l, b :: m, anti, h1, h2, p => by
    obtain ⟨h3, h4⟩ := List.pairwise_cons.mp h1
    obtain ⟨h5, h6⟩ := List.pairwise_cons.mp h2
    have e : a = b := by
      rcases List.mem_cons.mp (p.mem_iff.mp List.mem_cons_self) with e | ma
      · exact e
      · rcases List.mem_cons.mp (p.mem_iff.mpr (List.mem_cons_self (a := b) (l := m))) with e | mb
        · exact e.symm
        · exact anti a List.mem_cons_self b (List.mem_cons_of_mem _ mb) (h3 b mb) (h5 a ma)
    subst e
    rw [sorted_eq (fun x hx y hy => anti x (List.mem_cons_of_mem _ hx) y (List.mem_cons_of_mem _ hy)) h4 h6 p.cons_inv]
theorem perm_pull {β : Type} {f : α → β} : ∀ {l m : List β}, l.Perm m → ∀ B : List α, m = B.map f → ∃ B1 : List α, B1.Perm B ∧ l = B1.map f := by
  intro l m p
  induction p with
  | nil => intro B e; exact ⟨B, .refl _, e⟩
  | cons x _ ih =>
    intro B e
    cases B with
    | nil => cases e
    | cons b B =>
      rw [List.map_cons] at e
      cases e
      obtain ⟨B1, h1, h2⟩ := ih B rfl
      exact ⟨b :: B1, h1.cons b, by rw [List.map_cons, h2]⟩
  | swap x y l =>
    intro B e
    cases B with
    | nil => cases e
    | cons b B =>
      cases B with
      | nil => cases e
      | cons c B =>
        rw [List.map_cons, List.map_cons] at e
        cases e
        exact ⟨c :: b :: B, .swap b c B, rfl⟩
  | trans _ _ ih1 ih2 =>
    intro B e
    obtain ⟨B1, h1, h2⟩ := ih2 B e
    obtain ⟨B2, h3, h4⟩ := ih1 B1 h2
    exact ⟨B2, h3.trans h1, h4⟩
end
/-- neighbours that are alike, once -/
def uniq : List PyData → List PyData
  | [] => []
  | [x] => [x]
  | x :: y :: r => if keyS x = keyS y then uniq (y :: r) else x :: uniq (y :: r)
theorem uniq_sub : ∀ {l : List PyData} {d : PyData}, d ∈ uniq l → d ∈ l
  | [], _, h => h
  | [_], _, h => h
  | x :: y :: r, d, h => by
    unfold uniq at h
    split at h
    · exact List.mem_cons_of_mem _ (uniq_sub h)
    · rcases List.mem_cons.mp h with e | h
      · rw [e]; exact List.mem_cons_self
      · exact List.mem_cons_of_mem _ (uniq_sub h)
theorem uniq_mem : ∀ {l : List PyData}, (∀ a ∈ l, ∀ b ∈ l, keyS a = keyS b → a = b) → ∀ {d : PyData}, d ∈ l → d ∈ uniq l
  | [], _, _, h => h
  | [_], _, _, h => h
  | x :: y :: r, inj, d, h => by
    have ih : ∀ {d : PyData}, d ∈ y :: r → d ∈ uniq (y :: r) := fun {d} m => uniq_mem (fun a ha b hb => inj a (List.mem_cons_of_mem _ ha) b (List.mem_cons_of_mem _ hb)) m
    unfold uniq
    split
    · rename_i e
      rcases List.mem_cons.mp h with z | z
      · rw [z, inj x List.mem_cons_self y (List.mem_cons_of_mem _ List.mem_cons_self) e]
        exact ih List.mem_cons_self
      · exact ih z
    · rcases List.mem_cons.mp h with z | z
      · rw [z]; exact List.mem_cons_self
      · exact List.mem_cons_of_mem _ (ih z)
theorem leK_iff {a b : PyData} : leK a b = true ↔ keyS a ≤ keyS b := by rw [leK_eq, decide_eq_true_eq]
theorem uniq_lt : ∀ {l : List PyData}, l.Pairwise (fun a b => leK a b = true) → (uniq l).Pairwise fun a b => keyS a < keyS b
  | [], _ => .nil
  | [_], _ => List.pairwise_singleton _ _
  | x :: y :: r, h => by
    obtain ⟨h1, h2⟩ := List.pairwise_cons.mp h
    unfold uniq
    split
    · exact uniq_lt h2
    · rename_i ne
      refine List.pairwise_cons.mpr ⟨fun d m => ?_, uniq_lt h2⟩
      have hxy : keyS x ≤ keyS y := leK_iff.mp (h1 y List.mem_cons_self)
      have lt : keyS x < keyS y := by
        rcases List.le_iff_lt_or_eq.mp hxy with z | z
        · exact z
        · exact (ne z).elim
      rcases List.mem_cons.mp (uniq_sub m) with e | m
      · rw [e]; exact lt
      · exact List.not_le.mp fun z => List.not_le.mpr lt (List.le_trans (leK_iff.mp ((List.pairwise_cons.mp h2).1 d m)) z)
theorem keyS_inj {k : Nat} {a b : PyData} (ha : kindS a = k) (hb : kindS b = k) (hk : k ≠ 0) (e : keyS a = keyS b) : a = b := by
  have h3 : k = 1 ∨ k = 2 ∨ k = 3 := by
    have := kind_le a
    omega
  rcases h3 with rfl | rfl | rfl
  · obtain ⟨i, rfl⟩ := kind1 ha
    obtain ⟨j, rfl⟩ := kind1 hb
    cases e
    rfl
  · obtain ⟨i, ns, rfl, e1⟩ := kind2 ha
    obtain ⟨j, ms, rfl, e2⟩ := kind2 hb
    rw [e1, e2] at e
    cases e
    rfl
  · obtain ⟨i, ns, rfl, e1⟩ := kind3 ha
    obtain ⟨j, ms, rfl, e2⟩ := kind3 hb
    rw [e1, e2] at e
    cases e
    rfl
/-- the list of a set's items in order -/
def sset (ds : List PyData) : List PyData := uniq (isort leK ds)
theorem sset_eq {ds es : List PyData} (ok : sortOk ds = true) (nd : es.Nodup) (h : ∀ d, d ∈ es ↔ d ∈ ds) : isort leK es = sset ds := by
  obtain ⟨k, hk, kd⟩ := sortOk_kind ok
  have inj : ∀ a ∈ isort leK ds, ∀ b ∈ isort leK ds, keyS a = keyS b → a = b := fun a ha b hb e => keyS_inj (kd a (isort_mem.mp ha)) (kd b (isort_mem.mp hb)) hk e
  have lt := uniq_lt (isort_pw leK_total ds)
  have nd2 : (sset ds).Nodup := lt.imp fun {a b} h e => by
    rw [e] at h
    exact List.lt_irrefl _ h
  refine sorted_eq (le := leK) (fun a ha b hb h1 h2 => ?_) (isort_pw leK_total es) (lt.imp fun {a b} h => leK_iff.mpr (List.le_of_lt h)) ((isort_perm es).trans ((List.perm_ext_iff_of_nodup nd nd2).mpr fun d => ?_))
  · have m1 := (h a).mp (isort_mem.mp ha)
    have m2 := (h b).mp (isort_mem.mp hb)
    exact keyS_inj (kd a m1) (kd b m2) hk (List.le_antisymm (leK_iff.mp h1) (leK_iff.mp h2))
  · rw [h d]
    exact ⟨fun m => uniq_mem inj (isort_mem.mpr m), fun m => isort_mem.mp (uniq_sub m)⟩

/-! ### the keys of data -/
mutual
def keyN : PyData → NestedKey
  | .int i => .num i
  | .tuple xs => .tup (keysN xs)
  | .none => .none
  | .bool _ => .none
  | .str _ => .none
  | .list _ => .none
  | .dict _ => .none
def keysN : List PyData → List NestedKey
  | [] => []
  | x :: xs => keyN x :: keysN xs
end
mutual
def numD : PyData → Bool
  | .int _ => true
  | .tuple xs => numsD xs
  | .none => false
  | .bool _ => false
  | .str _ => false
  | .list _ => false
  | .dict _ => false
def numsD : List PyData → Bool
  | [] => true
  | x :: xs => numD x && numsD xs
end
mutual
theorem nums_key : ∀ d : PyData, numD d = true → nums (keyN d) = true
  | .int _, _ => rfl
  | .tuple xs, h => by
    show numsAll (keysN xs) = true
    exact nums_keys xs (by simpa [numD] using h)
  | .none, h => by simp [numD] at h
  | .bool _, h => by simp [numD] at h
  | .str _, h => by simp [numD] at h
  | .list _, h => by simp [numD] at h
  | .dict _, h => by simp [numD] at h
theorem nums_keys : ∀ xs : List PyData, numsD xs = true → numsAll (keysN xs) = true
  | [], _ => rfl
  | x :: xs, h => by
    simp only [numsD, Bool.and_eq_true] at h
    simp only [keysN, numsAll, Bool.and_eq_true]
    exact ⟨nums_key x h.1, nums_keys xs h.2⟩
end
mutual
theorem keyN_inj : ∀ a b : PyData, numD a = true → numD b = true → keyN a = keyN b → a = b
  | .int i, .int j, _, _, e => by simp only [keyN, NestedKey.num.injEq] at e; rw [e]
  | .tuple xs, .tuple ys, h1, h2, e => by
    simp only [keyN, NestedKey.tup.injEq] at e
    rw [keysN_inj xs ys (by simpa [numD] using h1) (by simpa [numD] using h2) e]
  | .int _, .tuple _, _, _, e => by simp [keyN] at e
  | .tuple _, .int _, _, _, e => by simp [keyN] at e
  | .none, _, h, _, _ => by simp [numD] at h
  | .bool _, _, h, _, _ => by simp [numD] at h
  | .str _, _, h, _, _ => by simp [numD] at h
  | .list _, _, h, _, _ => by simp [numD] at h
  | .dict _, _, h, _, _ => by simp [numD] at h
  | .int _, .none, _, h, _ => by simp [numD] at h
  | .int _, .bool _, _, h, _ => by simp [numD] at h
  | .int _, .str _, _, h, _ => by simp [numD] at h
  | .int _, .list _, _, h, _ => by simp [numD] at h
  | .int _, .dict _, _, h, _ => by simp [numD] at h
  | .tuple _, .none, _, h, _ => by simp [numD] at h
  | .tuple _, .bool _, _, h, _ => by simp [numD] at h
  | .tuple _, .str _, _, h, _ => by simp [numD] at h
  | .tuple _, .list _, _, h, _ => by simp [numD] at h
  | .tuple _, .dict _, _, h, _ => by simp [numD] at h
theorem keysN_inj : ∀ xs ys : List PyData, numsD xs = true → numsD ys = true → keysN xs = keysN ys → xs = ys
  | [], [], _, _, _ => rfl
  | [], _ :: _, _, _, e => by simp [keysN] at e
  | _ :: _, [], _, _, e => by simp [keysN] at e
  | x :: xs, y :: ys, h1, h2, e => by
    simp only [keysN, List.cons.injEq] at e
    simp only [numsD, Bool.and_eq_true] at h1 h2
    rw [keyN_inj x y h1.1 h2.1 e.1, keysN_inj xs ys h1.2 h2.2 e.2]
end
/-- tuples that a set takes here -/
def tupKind (d : PyData) : Bool := kindS d == 2 || kindS d == 3
theorem numsD_ints : ∀ ns : List Int, numsD (ns.map PyData.int) = true
  | [] => rfl
  | n :: ns => by
    simp only [List.map_cons, numsD, numD, Bool.true_and]
    exact numsD_ints ns
theorem depth_ints : ∀ ns : List Int, NestedKey.depthAll (keysN (ns.map PyData.int)) = 0
  | [] => rfl
  | n :: ns => by
    simp only [List.map_cons, keysN, keyN, NestedKey.depthAll, NestedKey.depth, depth_ints ns]
    rfl
theorem tupKind_ok {d : PyData} (h : tupKind d = true) : numD d = true ∧ (keyN d).depth ≤ 8 ∧ ∃ xs, d = .tuple xs := by
  unfold tupKind at h
  simp only [Bool.or_eq_true, beq_iff_eq] at h
  rcases h with h | h
  · obtain ⟨i, ns, rfl, _⟩ := kind2 h
    refine ⟨by simp only [numD, numsD, Bool.true_and]; exact numsD_ints ns, ?_, _, rfl⟩
    simp only [keyN, keysN, NestedKey.depth, NestedKey.depthAll, depth_ints]
    decide
  · obtain ⟨i, ns, rfl, _⟩ := kind3 h
    refine ⟨by simp only [numD, numsD, Bool.true_and, Bool.and_true]; exact numsD_ints ns, ?_, _, rfl⟩
    simp only [keyN, keysN, NestedKey.depth, NestedKey.depthAll, depth_ints]
    decide
section
variable {X : Cx} {pins : List (Addr × Obj)} {σ : L2.St} {H : Hp} {s : Shared}
mutual
theorem rep_nis (I : Inv X pins σ H s) {A : List Addr} : ∀ (d : PyData) (v : V) (u : Value), Rep X.K A H v d → RelV v u → numD d = true → NestedIs s.heap (keyN d) u
  | .int i, v, u, r, q, _ => by
    cases r
    obtain ⟨t, rfl⟩ := q
    exact .int i t
  | .tuple xs, v, u, r, q, h => by
    cases r with
    | tup hs ra =>
      cases q
      obtain ⟨its, rv, ⟨o, ho, hc, n, hd⟩, _⟩ := I.tuple hs
      have := rep_nall I xs _ its ra rv (by simpa [numD] using h)
      exact .tup ho hc hd (by simpa using this)
  | .none, _, _, _, _, h => by simp [numD] at h
  | .bool _, _, _, _, _, h => by simp [numD] at h
  | .str _, _, _, _, _, h => by simp [numD] at h
  | .list _, _, _, _, _, h => by simp [numD] at h
  | .dict _, _, _, _, _, h => by simp [numD] at h
theorem rep_nall (I : Inv X pins σ H s) {A : List Addr} : ∀ (ds : List PyData) (vs : List V) (us : List Value), RepAll X.K A H vs ds → Vals vs us → numsD ds = true → NestedAll s.heap (keysN ds) us
  | [], _, _, r, q, _ => by
    cases r
    cases q
    exact .nil
  | d :: ds, _, _, r, q, h => by
    cases r with
    | cons r1 r2 =>
      cases q with
      | cons q1 q2 =>
        simp only [numsD, Bool.and_eq_true] at h
        exact .cons (rep_nis I d _ _ r1 q1 h.1) (rep_nall I ds _ _ r2 q2 h.2)
end
mutual
theorem rep_reads (I : Inv X pins σ H s) {A : List Addr} : ∀ (d : PyData) (v : V) (u : Value), Rep X.K A H v d → RelV v u → numD d = true → Reads s.heap u d []
  | .int i, v, u, r, q, _ => by
    cases r
    obtain ⟨t, rfl⟩ := q
    exact .int _ _
  | .tuple xs, v, u, r, q, h => by
    cases r with
    | tup hs ra =>
      cases q
      obtain ⟨its, rv, ⟨o, ho, hc, n, hd⟩, _⟩ := I.tuple hs
      have := rep_readsAll I xs _ its ra rv (by simpa [numD] using h)
      exact .tuple ho hc hd (by simpa using this)
  | .none, _, _, _, _, h => by simp [numD] at h
  | .bool _, _, _, _, _, h => by simp [numD] at h
  | .str _, _, _, _, _, h => by simp [numD] at h
  | .list _, _, _, _, _, h => by simp [numD] at h
  | .dict _, _, _, _, _, h => by simp [numD] at h
theorem rep_readsAll (I : Inv X pins σ H s) {A : List Addr} : ∀ (ds : List PyData) (vs : List V) (us : List Value), RepAll X.K A H vs ds → Vals vs us → numsD ds = true → ReadsAll s.heap us ds []
  | [], _, _, r, q, _ => by
    cases r
    cases q
    exact .nil
  | d :: ds, _, _, r, q, h => by
    cases r with
    | cons r1 r2 =>
      cases q with
      | cons q1 q2 =>
        simp only [numsD, Bool.and_eq_true] at h
        exact ReadsAll.cons (as := []) (bs := []) (rep_reads I d _ _ r1 q1 h.1) (rep_readsAll I ds _ _ r2 q2 h.2)
end
end

/-! ### set(xs), sorted(set) -/
def SetN0 (w : World) (h : Heap) (S : Addr) (B : Bag) : Prop := ∃ (es : Array (Int × Value)) (ep : Nat) (t : SetTable), (∃ o, h.get? S = some o ∧ o.ExactSet ∧ o.data = .set es ep t) ∧ es.toList = rows w B ∧ TabOk t (NS.hashes w B) ∧ (B.map (·.2)).Nodup ∧
  t.plain = true ∧ (w.params.followText "set-order" = true ∨ t.led = true) ∧ B.length * 5 < t.mask * 3 ∧ B.length < 64
def SetNO (w : World) (S : Addr) (B : Bag) : HO := .ext fun h => SetN0 w h S B
theorem Holds.n0 {w : World} {h : Heap} {S : Addr} {B : Bag} {es : Array (Int × Value)} {ep : Nat} {t : SetTable} (R : Holds w h S B es ep t) : SetN0 w h S B := ⟨es, ep, t, R.obj, R.row, R.tab, R.ndp, R.pln, R.led, R.rm, R.few⟩
theorem SetN0.holds {w : World} {h : Heap} {S : Addr} {B : Bag} (R : SetN0 w h S B) (hm : ∀ p ∈ B, At h p.2 p.1) : ∃ es ep t, Holds w h S B es ep t := by
  obtain ⟨es, ep, t, h1, h2, h3, h4, h5, h6, h7, h8⟩ := R
  exact ⟨es, ep, t, h1, h2, h3, h4, hm, h5, h6, h7, h8⟩
theorem setNO_ok {P : Program} {w : World} {H : Hp} {h : Heap} {S : Addr} {B : Bag} (R : SetN0 w h S B) : ObjOk P w H h S (SetNO w S B) := by
  have ⟨es, ep, t, ⟨o, ho, r⟩, q⟩ := R
  refine ⟨R, ⟨o, ho⟩, fun h1 h2 p k => ?_⟩
  have ⟨es', ep', t', ⟨o', ho', r'⟩, q'⟩ : SetN0 w h1 S B := p
  exact ⟨es', ep', t', ⟨o', k o' ho', r'⟩, q'⟩
abbrev bagOf (B : List (Addr × PyData)) : Bag := B.map fun p => (p.1, keyN p.2)
def rSetN (K : PySem.W.Frag) (w : World) : List V → Hp → VK → Prop := fun xs H Q => ∃ (l : Addr) (A : List Addr) (us : List V) (ds : List PyData), xs = [.ref l] ∧ SqL K H l us ∧ RepAll K A H us ds ∧ ds.all tupKind = true ∧ ds.length < 64 ∧
  ∀ S (B : List (Addr × PyData)), H S = none → (∀ p ∈ B, p.2 ∈ ds ∧ Rep K A H (.ref p.1) p.2) → (∀ d ∈ ds, d ∈ B.map (·.2)) → (B.map (·.2)).Nodup → Q (.ref S) (upd H S (SetNO w S (bagOf B)))
theorem refs_of {K : PySem.W.Frag} {A : List Addr} {H : Hp} : ∀ {us : List V} {ds : List PyData}, RepAll K A H us ds → ds.all tupKind = true → ∃ ks : List (Addr × PyData), us = ks.map (fun p => V.ref p.1) ∧ ds = ks.map (·.2) ∧ ∀ p ∈ ks, Rep K A H (.ref p.1) p.2
  | _, _, .nil, _ => ⟨[], rfl, rfl, fun p m => by cases m⟩
  | _, _, .cons (v := v) (d := d) r rs, h => by
    simp only [List.all_cons, Bool.and_eq_true] at h
    obtain ⟨ks, h1, h2, h3⟩ := refs_of rs h.2
    obtain ⟨_, _, xs, rfl⟩ := tupKind_ok h.1
    cases r with
    | @tup a _ _ hs ra =>
      refine ⟨(a, .tuple xs) :: ks, by rw [h1]; rfl, by rw [h2]; rfl, fun p m => ?_⟩
      rcases List.mem_cons.mp m with e | m
      · rw [e]; exact .tup hs ra
      · exact h3 p m
theorem vals_refs {ks : List (Addr × PyData)} : ∀ {us : List Value}, Vals (ks.map fun p => V.ref p.1) us → us = (bagOf ks).map fun p => Value.ref p.1 := by
  induction ks with
  | nil => intro us r; cases r; rfl
  | cons p ks ih =>
    intro us r
    rw [List.map_cons] at r
    cases r with
    | cons q qs =>
      cases q
      rw [ih qs]
      rfl
theorem bag_pull {ks : List (Addr × PyData)} : ∀ {B0 : Bag}, (∀ p ∈ B0, p ∈ bagOf ks) → ∃ B : List (Addr × PyData), B0 = bagOf B ∧ ∀ p ∈ B, p ∈ ks
  | [], _ => ⟨[], rfl, fun p m => by cases m⟩
  | q :: B0, h => by
    obtain ⟨B, e, hs⟩ := bag_pull (B0 := B0) fun p m => h p (List.mem_cons_of_mem _ m)
    obtain ⟨p, hp, e2⟩ := List.mem_map.mp (h q List.mem_cons_self)
    refine ⟨p :: B, by rw [e, ← e2]; rfl, fun r m => ?_⟩
    rcases List.mem_cons.mp m with z | z
    · rw [z]; exact hp
    · exact hs r z
section
variable {X : Cx} {G : DL.Ctx}
theorem at_of {pins : List (Addr × Obj)} {σ : L2.St} {H : Hp} {s : Shared} (I : Inv X pins σ H s) {A : List Addr} {a : Addr} {d : PyData} (r : Rep X.K A H (.ref a) d) (h : tupKind d = true) : At s.heap (keyN d) a := by
  obtain ⟨h1, h2, _⟩ := tupKind_ok h
  exact ⟨rep_nis I d _ _ r rfl h1, h2, nums_key d h1⟩
theorem cr_setN (hc : X.calm = true) (hu : X.A.units + 65 < cLine) : CallR X (.type "set") (rSetN X.K X.w) := by
  intro pins s σ H xs us Q I r h
  obtain ⟨l, A, ws, ds, rfl, hl, ra, ht, hf, q⟩ := h
  rw [Vals.ref1 r]
  obtain ⟨its, rv, pl, hz⟩ := I.list hl
  obtain ⟨ks, rfl, rfl, hr⟩ := refs_of ra ht
  have hn : H s.heap.objs.size = none := I.hok.fresh (Nat.le_refl _)
  have tk : ∀ p ∈ ks, tupKind p.2 = true := fun p hp => List.all_eq_true.mp ht _ (List.mem_map.mpr ⟨p, hp, rfl⟩)
  refine set_call (P := X.prog) (w := X.w) (bagOf ks) (I.ok.hd hc) pl.isList (by simpa using vals_refs rv) (fun p hp => ?_) (by simpa using hf) (by omega) fun h' tk' B0 es ep t R g kk => ?_
  · obtain ⟨p0, hp0, rfl⟩ := List.mem_map.mp hp
    exact at_of I (hr p0 hp0) (tk p0 hp0)
  · obtain ⟨B, rfl, hs⟩ := bag_pull (ks := ks) fun p hp => List.mem_of_mem_take (g.sub p hp)
    refine ⟨.ref s.heap.objs.size, upd H s.heap.objs.size (SetNO X.w s.heap.objs.size (bagOf B)), I.laid (t' := tk') kk (Nat.le_refl _) (setNO_ok (Holds.n0 R)), rfl, q _ B hn (fun p hp => ⟨List.mem_map.mpr ⟨p, hs p hp, rfl⟩, hr p (hs p hp)⟩) (fun d hd => ?_) ?_⟩
    · obtain ⟨p, hp, rfl⟩ := List.mem_map.mp hd
      have m := g.all (p.1, keyN p.2) (by rw [List.take_length]; exact List.mem_map.mpr ⟨p, hp, rfl⟩)
      obtain ⟨q1, hq1, e1⟩ := List.mem_map.mp m
      obtain ⟨q2, hq2, rfl⟩ := List.mem_map.mp hq1
      have := keyN_inj q2.2 p.2 (tupKind_ok (tk q2 (hs q2 hq2))).1 (tupKind_ok (tk p hp)).1 e1
      rw [← this]
      exact List.mem_map.mpr ⟨q2, hq2, rfl⟩
    · have nd := R.ndp
      have e : (bagOf B).map (·.2) = (B.map (·.2)).map keyN := by simp
      rw [e] at nd
      exact List.Pairwise.of_map keyN (fun a b hne z => hne (by rw [z])) nd
def rSortN (K : PySem.W.Frag) (w : World) : List V → Hp → VK → Prop := fun xs H Q => ∃ (S : Addr) (A : List Addr) (B : List (Addr × PyData)), xs = [.ref S] ∧ H S = some (SetNO w S (bagOf B)) ∧ (∀ p ∈ B, Rep K A H (.ref p.1) p.2) ∧ (B.map (·.2)).all tupKind = true ∧ sortOk (B.map (·.2)) = true ∧
  ∀ l ws, H l = none → RepAll K A H ws (isort leK (B.map (·.2))) → Q (.ref l) (upd H l (.lst ws))
theorem of_bag {K : PySem.W.Frag} {A : List Addr} {H : Hp} : ∀ {B : List (Addr × PyData)}, (∀ p ∈ B, Rep K A H (.ref p.1) p.2) → PySem.W.EachIs (fun u d => ∃ x, RelV x u ∧ Rep K A H x d) (B.map fun p => Value.ref p.1) (B.map (·.2))
  | [], _ => .nil
  | p :: B, h => .cons ⟨.ref p.1, rfl, h p List.mem_cons_self⟩ (of_bag fun q m => h q (List.mem_cons_of_mem _ m))
theorem cr_sortN (hc : X.calm = true) (hu : X.A.units + 65 < cLine) : CallR X (.builtin "sorted") (rSortN X.K X.w) := by
  intro pins s σ H vs us Q I r h
  obtain ⟨S, A, B, rfl, hS, hr, ht, ok, q⟩ := h
  rw [Vals.ref1 r]
  have tk : ∀ p ∈ B, tupKind p.2 = true := fun p hp => List.all_eq_true.mp ht _ (List.mem_map.mpr ⟨p, hp, rfl⟩)
  have R0 : SetN0 X.w s.heap S (bagOf B) := (I.hok S _ hS).1
  obtain ⟨es, ep, t, R⟩ := SetN0.holds R0 fun p hp => by
    obtain ⟨p0, hp0, rfl⟩ := List.mem_map.mp hp
    exact at_of I (hr p0 hp0) (tk p0 hp0)
  obtain ⟨o, ho, hex, hd⟩ := R.obj
  have hsz := R.size
  have hfew := R.few
  have hlen : (bagOf B).length = B.length := by simp
  refine Calls.call_function_entry kind_sorted plain_sorted entry_sorted (args_sorted1 _) ?_
  unfold Builtin.«sorted»
  refine wpAny_bind (m := checkCount "sorted" 1 1 _) (wpAny_pure ?_)
  refine wpAny_bind (collect_set (A := X.A.in1) (I.ok.hd hc) ⟨o, ho, hex.1, hd⟩ R.fits (by unfold scanBound; omega) R.tab.ris R.led fun s1 us1 k1 hz g1 o1 pm => ?_)
  have hes : es.toList.map (·.2) = B.map fun p => Value.ref p.1 := by
    rw [R.row]
    simp [rows]
  rw [hes] at pm
  obtain ⟨B1, p1, rfl⟩ := perm_pull pm B rfl
  have m1 : ∀ p ∈ B1, p ∈ B := fun p hp => p1.mem_iff.mp hp
  have hB1 : B1.length = B.length := p1.length_eq
  refine wpAny_bind (wpAny_newList ?_ (by simp; rw [sizeLine_eq]; omega))
  have hoL : (s1.heap.push (seqObj "list" (B1.map fun p => Value.ref p.1).toArray 0)).get? s1.heap.objs.size = some (seqObj "list" (B1.map fun p => Value.ref p.1).toArray 0) := Heap.get?_push_size _ rfl
  have ok1 : sortOk (B1.map (·.2)) = true := by
    obtain ⟨k, hk, kd⟩ := sortOk_kind ok
    have kd1 : ∀ d ∈ B1.map (·.2), kindS d = k := fun d hd => kd d ((p1.map (·.2)).mem_iff.mp hd)
    cases e : B1.map (·.2) with
    | nil => rfl
    | cons d ds =>
      rw [e] at kd1
      unfold sortOk
      simp only [Bool.and_eq_true, Bool.not_eq_true', beq_eq_false_iff_ne, ne_eq, List.all_eq_true, beq_iff_eq]
      exact ⟨by rw [kd1 d List.mem_cons_self]; exact hk, fun x hx => by rw [kd1 x (List.mem_cons_of_mem _ hx), kd1 d List.mem_cons_self]⟩
  obtain ⟨g2, g3, g4⟩ := sortOk_all ok1
  have e0 := of_bag (K := X.K) (A := A) (H := H) (B := B1) fun p hp => hr p (m1 p hp)
  have er : PySem.W.EachIs (fun v (b : PyData) => ∃ as, Reads (s1.heap.push (seqObj "list" (B1.map fun p => Value.ref p.1).toArray 0)) v ((fun d : PyData => d) b) as ∧ s1.heap.objs.size ∉ as) (B1.map fun p => Value.ref p.1) (B1.map (·.2)) :=
    (each_mem' e0 (P := fun d => numD d = true) fun d hd => by
      obtain ⟨p, hp, rfl⟩ := List.mem_map.mp hd
      exact (tupKind_ok (tk p (m1 p hp))).1).mono fun v d ⟨⟨x, hx, hrx⟩, hn⟩ => ⟨[], PyProof.Rows.Reads.keeps (fun b u e => Heap.get?_push_of_some _ (k1 b u e)) (rep_reads I d x v hrx hx hn), by simp⟩
  refine wpAny_bind (wpAny_holding (PySem.W.list_sort_data (s := { s1 with heap := s1.heap.push (seqObj "list" (B1.map fun p => Value.ref p.1).toArray 0) }) (enc := fun d : PyData => d) hoL e0 er (by rw [List.map_id']; exact g2) (by rw [List.map_id']; exact g3) (by simp; rw [sizeLine_eq]; omega) (fun d m => ?_) fun out ho' hE => ?_))
  · have := (g4 d m).2
    show X.A.in1.units + 1 + d.depth < cLine
    have h9 : X.A.in1.units ≤ X.A.units + 4 := by simp [Around.in1]
    omega
  · rw [sorted_isort ok1] at hE
    have same : isort leK (B1.map (·.2)) = isort leK (B.map (·.2)) := by
      obtain ⟨k, hk, kd⟩ := sortOk_kind ok
      exact sorted_eq (le := leK) (fun a ha b hb h1 h2 => keyS_inj (kd a ((p1.map (·.2)).mem_iff.mp (isort_mem.mp ha))) (kd b ((p1.map (·.2)).mem_iff.mp (isort_mem.mp hb))) hk (List.le_antisymm (leK_iff.mp h1) (leK_iff.mp h2))) (isort_pw leK_total _) (isort_pw leK_total _) ((isort_perm _).trans ((p1.map (·.2)).trans (isort_perm _).symm))
    rw [same] at hE
    obtain ⟨zs, z1, z2⟩ := of_each hE
    obtain ⟨c, hc'⟩ := PyProof.Rows.sortedHeap_at (vs := B1.map fun p => Value.ref p.1) (out := out.toArray) hoL
    have hn : H s1.heap.objs.size = none := I.hok.fresh hz
    have hzl : zs.length ≤ sizeLine := by rw [z2.length, isort_length, List.length_map, sizeLine_eq]; omega
    have kall : ∀ b u, s.heap.get? b = some u → (sortedHeap (s1.heap.push (seqObj "list" (B1.map fun p => Value.ref p.1).toArray 0)) s1.heap.objs.size (B1.map fun p => Value.ref p.1) out.toArray).get? b = some u := fun b u e => by
      have q1 := k1 b u e
      have hlt := Heap.lt_size q1
      rw [sortedHeap_old (Nat.ne_of_lt hlt) (by rw [size_push']; exact Nat.lt_succ_of_lt hlt)]
      exact Heap.get?_push_of_some _ q1
    have J := I.call (ch := []) (t' := s1.toks) (d' := s1.drawn) (g' := s1.gens) (Un.laid kall hz hn) (I.hok.laid kall hz (o := .lst zs) ⟨hzl, out, c, z1, hc'⟩) (by rw [g1]; exact I.bare) (fun _ z => nomatch z)
    refine wpAny_pure ⟨_, rfl, .ref s1.heap.objs.size, upd H s1.heap.objs.size (.lst zs), ?_, rfl, q _ _ hn z2⟩
    obtain ⟨a1, a2, a3, a4, a5⟩ := s1
    cases o1
    exact J
end
/-- sorted(set(xs)) -/
def gSortSet : List PyData → Option PyData
  | [.list ds] => if ds.all tupKind && sortOk ds && decide (ds.length < 64) then some (.list (sset ds)) else none
  | _ => none
section
variable {ι : Type} {X : ι → Cx} {G : DL.Ctx} {W : WX} {k : Nat} {pos : Pos}
theorem de_sortSet {w : World} {e : Expr} {fs : RS → Rs (List PyData)} {p p2 pos2 : Pos} (F : Fam X G W k) (hw : ∀ i, (X i).w = w) (hg : ∀ i, Gl (X i) "sorted") (hm : ∀ i, (X i).mg "sorted" = none) (hg2 : ∀ i, Gl (X i) "set") (hm2 : ∀ i, (X i).mg "set" = none) (ha : DA X G W [e] fs)
    (hv : bootBuiltins "sorted" = some (.builtin "sorted") := by decide +kernel) (hv2 : bootBuiltins "set" = some (.type "set") := by decide +kernel)
    (he : ∀ i, starEach [e] (X i).env = (false, eval e (X i).env) :: starEach [] (X i).env := by intro _; rfl)
    (he2 : ∀ i, starEach [.Call (.Name "set" p2) [e] [] pos2] (X i).env = (false, eval (.Call (.Name "set" p2) [e] [] pos2) (X i).env) :: starEach [] (X i).env := by intro _; rfl) :
    DE X G W (.Call (.Name "sorted" p) [.Call (.Name "set" p2) [e] [] pos2] [] pos) (eCall gSortSet fs) := by
  obtain ⟨t, pa, l⟩ := ha
  refine ⟨tCB (rSortN G.K w) (tCons (tCB (rSetN G.K w) t) tNil), fun i => ?_, fun Fg O ρ σ H Q r h => ?_⟩
  · rw [← F.K i, ← hw i]
    exact pe_callB (cr_sortN (F.calm i) (F.hu i)) (hg i) (hm i) hv (pa_cons (pe_callTy (cr_setN (F.calm i) (F.hu i)) (hg2 i) (hm2 i) hv2 (pa i) (by decide) (by decide) (he i) rfl) pa_nil (he2 i)) (by decide) (by decide) (he2 i) rfl
  · refine l Fg O ρ σ H _ r ((GP.bind h).imp fun ds ρ1 H1 e1 r1 k1 vs rv => ?_)
    obtain ⟨d, e, kk⟩ := k1.of
    unfold gSortSet at e
    split at e
    · split at e
      · rename_i xs hc
        cases e
        simp only [Bool.and_eq_true, decide_eq_true_eq] at hc
        match vs, rv with
        | [_], .cons rx .nil =>
          obtain ⟨a, us, rfl, h1, n1, ra⟩ := rep_list rx
          refine ⟨a, adr O ++ Fg, us, xs, rfl, .inl (.inl h1), ra, hc.1.1, hc.2, fun S B hS hB hall nd => ?_⟩
          have eq : ∀ d, d ∈ B.map (·.2) ↔ d ∈ xs := fun d => ⟨fun m => by
            obtain ⟨p, hp, rfl⟩ := List.mem_map.mp m
            exact (hB p hp).1, hall d⟩
          have eS : ∀ {O : List Addr}, Ext O H1 (upd H1 S (SetNO w S (bagOf B))) := ext_new hS
          have okB : sortOk (B.map (·.2)) = true := by
            obtain ⟨k, hk, kd⟩ := sortOk_kind hc.1.2
            cases e : B.map (·.2) with
            | nil => rfl
            | cons d ds =>
              have kd1 : ∀ x ∈ d :: ds, kindS x = k := fun x hx => kd x ((eq x).mp (by rw [e]; exact hx))
              unfold sortOk
              simp only [Bool.and_eq_true, Bool.not_eq_true', beq_eq_false_iff_ne, ne_eq, List.all_eq_true, beq_iff_eq]
              exact ⟨by rw [kd1 d List.mem_cons_self]; exact hk, fun x hx => by rw [kd1 x (List.mem_cons_of_mem _ hx), kd1 d List.mem_cons_self]⟩
          refine ⟨S, adr O ++ Fg, B, rfl, upd_same, fun p hp => (hB p hp).2.ext (O := []) (by simp) eS fun _ m => .inl m, ?_, okB, fun l2 ws hl2 hr => ?_⟩
          · exact List.all_eq_true.mpr fun d m => List.all_eq_true.mp hc.1.1 d ((eq d).mp m)
          · rw [sset_eq hc.1.2 nd eq] at hr
            have e2 : ∀ {O : List Addr}, Ext O H1 (upd (upd H1 S (SetNO w S (bagOf B))) l2 (.lst ws)) := fun {O} => eS.trans' (ext_new hl2)
            have r2 := r1.ext0 eS
            exact kk _ e2 (r2.ext0 (ext_new hl2)) _ (.lst upd_same (fresh_not r2.all hl2) (rep_new hr hl2))
      · cases e
    · cases e
end
end DL

-- text DL12
set_option Elab.async false
set_option linter.all false
set_option maxRecDepth 100000
set_option maxHeartbeats 2000000
namespace DL
open PySem PySem.Spec PyProof.Rows L2 GxR
/-- the end of a law row: of each def of the top the table of its code is known to be empty -/
theorem walk_all {l : PySem.W.OpenLaw} {n k : Nat} {q : Program} {loose : List Str} {XP : (Str → Option Value) → Heap → Prop} {YP : World → Heap → Prop} {d : DefRec} {K : Params → PySem.W.Frag} {CX : World → CXT} {x : Str} (names : List Str)
    (hn : l.most = some n) (hn2 : n ≤ sizeLine) (hdf : d.params.defaults = []) (hr : Room k callerA) (hrec : (names.all fun nm => (recsOf q).any fun e => e.name == nm) = true) (hY : ∀ (w : World) (h : Heap), YP w h → (K w.params).In h)
    (F : ∀ (w : World) (mg : Str → Option Value) (fa : Addr) (h : Heap), YP w h → (K w.params).In h → h.Ns mainGlobals mg → mg d.name = some (.ref fa) → (∀ nm ∈ names, ∀ f, mg nm = some (.ref f) → LamX.OwnTab (K w.params) f h) → LamX.LawAtS l w (K w.params) (CX w) k n x mg fa h)
    (hCX : ∀ (w : World) (H : Hp) (s : Shared) (e : Value) (s' : Shared), CX w [] H s (fun _ _ _ => False) e s' → False) :
    PySem.W.WalkO q loose XP YP l.row.toRowW d [] (fun f vs => PySem.call f vs) := by
  refine Att.attach_callB hn hdf fun w s₀ s₁ mg mb fa o pm cd doc a vs ns G Y ho hd hcd hmg hobj hints hlen hbits hg => ?_
  have KX := hY w _ Y
  have tabs : ∀ nm ∈ names, ∀ f, mg nm = some (.ref f) → LamX.OwnTab (K w.params) f s₁.heap := fun nm hnm f hf c P o1 fd1 e dd vs1 sl k1 k2 k3 k4 k5 => by
    obtain ⟨dL, hm, h0⟩ := List.any_eq_true.mp (List.all_eq_true.mp hrec nm hnm)
    have en : dL.name = nm := beq_iff_eq.mp h0
    obtain ⟨a', o', fd', c', P', h1, h2, h3, h4, h5, h6⟩ := G.T.tab dL hm
    rw [en, hf] at h1
    cases h1
    have g1 := KX _ _ k1
    rw [g1] at h2
    cases h2
    rw [k2] at h3
    cases h3
    rw [k3] at h4
    cases h4
    obtain ⟨⟨oc, vc, e1, _, e3, e4⟩, hP⟩ := h6
    have g2 := KX _ _ k4
    rw [g2] at e1
    cases e1
    cases e3
    rw [k5] at e4
    cases e4
    exact hP
  obtain ⟨fd, cs, sp, hT, nT, C, hb, hsp, hF⟩ := F w mg fa _ Y KX G.T.g hmg tabs
  exact LamX.law_callTs KX G.T.g G.T.b G.T.builtins G.T.nolimit hg hT nT C G.T.bmain hobj hints (Nat.le_trans hlen hn2) hr hF hb (fun H hH hS => hsp H a ns hlen hbits hH hS) fun H e s' => hCX w H s₁ e s'
/-- a table of a def that holds generator expressions: what the written part tells of it -/
structure TabK (K : PySem.W.Frag) (fa c P : Addr) : Prop where
  ex : ∃ (e : Value) (dd : Option Addr) (vs : Array Value) (sl : Array (Option Value)), K.lookup c = some ⟨e, dd, .fields vs, sl⟩ ∧ vs[11]? = some (.ref P)
  no : K.lookup P = none
  hd : PySem.W.codeHdIn K c P = true
theorem law_at {l : PySem.W.OpenLaw} {w : World} {K : PySem.W.Frag} {k n : Nat} {x : Str} {mg : Str → Option Value} {fa : Addr} {h : Heap} {fd : FuncData} {G : DL.Ctx} {F : List PyData → Fr} (cs : List (Addr × Addr)) (KX : K.In h) (hts : G.ts = cs.map (·.2)) (hK : G.K = K)
    (hT : ∀ p ∈ cs, h.get? p.2 = some { cls := .none, data := .fields #[] }) (nT : ∀ p ∈ cs, K.lookup p.2 = none) (hC : ∀ p ∈ cs, PySem.W.codeHdIn K p.1 p.2 = true) (hb : ∀ (s : Shared) (u : Value), BindsTo s fd ⟨[u], []⟩ [(x, u)])
    (hF : ∀ base : Heap, K.In base → base.Ns mainGlobals mg → (∀ p ∈ cs, GxR.TabB base mg p.1 p.2) → FnOk l.prog w K mg base (L2.CX l.prog w) k fa fd [x] (spD G 1 F))
    (main : ∀ ns : List Int, ns.length ≤ n → (∀ z ∈ ns, Builtin.Int.intBits z ≤ 1048576) → F [scr ns] = .ok (.bool true)) : LamX.LawAtS l w K (L2.CX l.prog w) k n x mg fa h := by
  refine ⟨fd, cs, spD G 1 F, hT, nT, fun p hp => PySem.W.codeHd_of_K KX (hC p hp), hb, fun H a ns hl hz hH hS => ?_, fun base h1 h2 h3 => hF base h1 h2 fun p hp => ⟨(h3 p hp).code, (h3 p hp).bm, (h3 p hp).gP⟩⟩
  refine ⟨rfl, [], [scr ns], .cons (.scr ?_) .nil, fun P hP => ?_, fun a m => (by cases m), ?_⟩
  · rw [hK]
    rcases hS with (h | ⟨o, h⟩) | h
    · exact .inl ⟨h, by simp⟩
    · exact .inr (.inl ⟨o, h⟩)
    · exact .inr (.inr h)
  · rw [hts] at hP
    obtain ⟨p, hp, rfl⟩ := List.mem_map.mp hP
    exact ⟨#[], hH p hp, by simp [TriplesOk]⟩
  · rw [main ns hl hz]
    exact fun v H' _ r => rep_bl r
theorem topF_of {K : PySem.W.Frag} {h : Heap} {mg : Str → Option Value} {x : Str} {st : Stmt} {f : Addr} {oc kV doc pm cdv ct : Value} {od an : Option Addr} {sl : Array (Option Value)} (KX : K.In h) (N : h.Ns mainGlobals mg)
    (a : PySem.W.nsIn K mainGlobals x = some (some (.ref f))) (l : K.lookup f = some ⟨oc, od, .func (PySem.W.fnOf x x (defArgs st) (defBody st) (defScope st) .none kV doc pm an cdv ct), sl⟩) (c : PySem.W.codeIn K cdv x = true) (k : PySem.W.keepIn K (.ref f) = true) : TopF K mg x st :=
  ⟨f, _, fun_mk l c k, PySem.W.mg_of KX N a⟩
theorem topG_of {K : PySem.W.Frag} {h : Heap} {base : Heap} {mg : Str → Option Value} {x : Str} {st : Stmt} {f c P : Addr} {ts : List Addr} {oc kV doc pm ct : Value} {od an : Option Addr} {sl : Array (Option Value)} (KX : K.In h) (N : h.Ns mainGlobals mg)
    (a : PySem.W.nsIn K mainGlobals x = some (some (.ref f))) (l : K.lookup f = some ⟨oc, od, .func (PySem.W.fnOf x x (defArgs st) (defBody st) (defScope st) .none kV doc pm an (.ref c) ct), sl⟩) (cc : PySem.W.codeIn K (.ref c) x = true) (k : PySem.W.keepIn K (.ref f) = true)
    (hP : P ∈ ts) (TB : GxR.TabB base mg c P) : TopG K mg base ts x st :=
  ⟨f, _, c, P, fun_mk l cc k, PySem.W.mg_of KX N a, rfl, hP, TB⟩
theorem ownTab_of {K : PySem.W.Frag} {h : Heap} {x : Str} {st : Stmt} {f c P : Addr} {oc kV doc pm ct e : Value} {od an dd : Option Addr} {sl sl2 : Array (Option Value)} {vs : Array Value} (T : LamX.OwnTab K f h)
    (l : K.lookup f = some ⟨oc, od, .func (PySem.W.fnOf x x (defArgs st) (defBody st) (defScope st) .none kV doc pm an (.ref c) ct), sl⟩) (l2 : K.lookup c = some ⟨e, dd, .fields vs, sl2⟩) (p : vs[11]? = some (.ref P)) : h.get? P = some { cls := .none, data := .fields #[] } :=
  T c P _ _ e dd vs sl2 l rfl rfl l2 p
theorem cx_none {P : Program} {w : World} {H : Hp} {s : Shared} {e : Value} {s' : Shared} (x : L2.CX P w [] H s (fun _ _ _ => False) e s') : False := by
  obtain ⟨_, _, _, _, _, _, _, _, _, _, _, _, z⟩ := x
  exact z
end DL

-- text DL13
set_option Elab.async false
set_option linter.all false
set_option maxRecDepth 100000
set_option maxHeartbeats 2000000
namespace DL
open PySem PySem.Spec PyProof.Rows L2 GxR
section
variable {ι : Type} {X : ι → Cx} {G : DL.Ctx} {W : WX} {k : Nat} {pos : Pos}
/-- x.append(e), x an own list -/
def sAppO (j : Nat) (fe : RS → Rs PyData) : RS → Out := fun ρ => match ownAt ρ j with
  | none => .no
  | some _ => (fe ρ).out fun d ρ1 => match ownAt ρ1 j with
    | none => .no
    | some xs => if xs.length < sizeLine then .nx (ρ1.set j (.o (xs ++ [d]))) else .no
theorem ds_appO (j : Nat) {x : Str} {p apos cpos : Pos} {e : Expr} {fe : RS → Rs PyData} (F : Fam X G W k) (hN : ∀ i, (X i).N[j]? = some x) (hv : ∀ i, Vis (X i).env.scope x) (he : DE X G W e fe) (hd : (x == ("__debug__" : Str)) = false := by decide) (hcd : (x == ("__classdict__" : Str)) = false := by decide)
    (hbase : ∀ i, attributeBase (.Name x p) "append" (X i).env (eval (.Name x p) (X i).env) = eval (.Name x p) (X i).env := by intro _; rfl)
    (hfew : ∀ i, ((backTo cpos (starEach (e :: []) (X i).env)).all (fun x => !x.1) && (backToKw cpos (keywordEach [] (X i).env)).all (fun x => x.1.isSome) && decide ((e :: []).length + ([] : List Keyword).length + (if ([] : List Keyword).isEmpty then 0 else 1) < 30)) = true := by intro _; rfl)
    (hline : (apos.endLine == cpos.line) = true := by rfl) (hst : ∀ i, starEach (e :: []) (X i).env = (false, eval e (X i).env) :: starEach [] (X i).env := by intro _; rfl)
    (hs : ∀ i, swapsWith (.Call (.Attribute (.Name x p) "append" apos) [e] [] cpos) none pos.line (X i).env = pure false := by intro _; rfl) :
    DS X G W (.Expr (.Call (.Attribute (.Name x p) "append" apos) [e] [] cpos) pos) (sAppO j fe) := by
  obtain ⟨te, pe, le⟩ := he
  refine ⟨tDrop (tBM G.K "list" rAppend (tVar j) (tCons te tNil)), fun i => ps_expr (by rw [← F.K i]; exact pe_bm PySem.F.plainAttrs_list PySem.F.slot_list_append PySem.F.type_list_append mt_append (pe_var (hN i) (hv i) hd hcd) (pa_cons (pe i) pa_nil (hst i)) (hbase i) (hfew i) hline (hst i) rfl) (hs i), fun Fg O ρ σ H D r h => ?_⟩
  unfold sAppO at h
  cases e0 : ownAt ρ j with
  | none => rw [e0] at h; exact h.elim
  | some xs0 =>
    rw [e0] at h
    obtain ⟨a, vs0, m0, h1, h2, _⟩ := r.own j xs0 (ownAt_ok e0)
    refine ⟨_, h1, .inl ⟨rfl, vs0, .inl (.inl h2)⟩, le Fg O ρ σ H _ r ((SPo.out h).imp fun d ρ1 H1 e1 r1 k1 v rv => ?_)⟩
    cases e2 : ownAt ρ1 j with
    | none => rw [e2] at k1; exact k1.elim
    | some xs =>
      rw [e2] at k1
      obtain ⟨a', vs, m1, hσ, h3, h4⟩ := r1.own j xs (ownAt_ok e2)
      obtain rfl : a = a' := r1.key j a a' m0 m1
      have k1 : SPo G W Fg O H1 D (if xs.length < sizeLine then Out.nx (ρ1.set j (.o (xs ++ [d]))) else .no) := k1
      by_cases hl : xs.length < sizeLine
      · rw [if_pos hl] at k1
        have hj : j < ρ1.length := r1.own_at (ownAt_ok e2)
        exact ⟨a, vs, v, rfl, rfl, h3, by rw [h4.length]; exact hl, k1 O σ _ (Ext.evo (ext_put h3 (R.in_adr m1))) (r1.put m1 h3 hj hσ (h4.append (.cons rv .nil)))⟩
      · rw [if_neg hl] at k1; exact k1.elim
/-- x in an own list of flat things -/
def eInO (neg : Bool) (j : Nat) (fa : RS → Rs PyData) : RS → Rs PyData := fun ρ => (fa ρ).bind fun x ρ1 => match ownAt ρ1 j with
  | none => .no
  | some xs => if flatD x && xs.all flatD then .ok (.bool (if neg then !inV (fv x) (xs.map fv) else inV (fv x) (xs.map fv))) ρ1 else .no
theorem inO_law {ta : TE} {neg : Bool} {j : Nat} {fa : RS → Rs PyData} (la : ∀ Fg O ρ σ H Q, R G Fg O ρ σ H → GP G W Fg O σ (fun d _ H' => ∀ v, Rep G.K (adr O ++ Fg) H' v d → Q v H') H (fa ρ) → ta σ H Q)
    {Fg : List Addr} {O : Own} {ρ : RS} {σ : L2.St} {H : Hp} {Q : VK} (r : R G Fg O ρ σ H) (h : GP G W Fg O σ (fun d _ H' => ∀ v, Rep G.K (adr O ++ Fg) H' v d → Q v H') H (eInO neg j fa ρ)) : tOp (rIn G.K neg) ta (tVar j) σ H Q := by
  refine la Fg O ρ σ H _ r ((GP.bind h).imp fun x ρ1 H1 e1 r1 k1 v rv => ?_)
  cases e0 : ownAt ρ1 j with
  | none => rw [e0] at k1; exact k1.elim
  | some xs =>
    rw [e0] at k1
    obtain ⟨a, vs, m0, h1, h2, h3⟩ := r1.own j xs (ownAt_ok e0)
    by_cases hc : (flatD x && xs.all flatD) = true
    · have k1 : GP G W Fg O σ _ H1 (if flatD x && xs.all flatD then Rs.ok (PyData.bool (if neg then !inV (fv x) (xs.map fv) else inV (fv x) (xs.map fv))) ρ1 else .no) := k1
      rw [if_pos hc] at k1
      rw [Bool.and_eq_true] at hc
      obtain ⟨q1, q2⟩ := flat_fv rv hc.1
      obtain ⟨q3, q4⟩ := flat_all h3 hc.2
      refine ⟨_, h1, a, vs, rfl, .inl (.inl (.inl h2)), q2, q4, ?_⟩
      rw [q1, q3]
      exact k1 H1 .refl r1 _ (.bl _)
    · have k1 : GP G W Fg O σ _ H1 (if flatD x && xs.all flatD then Rs.ok (PyData.bool (if neg then !inV (fv x) (xs.map fv) else inV (fv x) (xs.map fv))) ρ1 else .no) := k1
      rw [if_neg hc] at k1
      exact k1.elim
theorem dt_inO (j : Nat) {x : Str} {p : Pos} {a : Expr} {fa : RS → Rs PyData} (F : Fam X G W k) (hN : ∀ i, (X i).N[j]? = some x) (hv : ∀ i, Vis (X i).env.scope x) (ha : DE X G W a fa) (hd : (x == ("__debug__" : Str)) = false := by decide) (hcd : (x == ("__classdict__" : Str)) = false := by decide)
    (hm : behindInMarks .In (.Name x p) = false := by with_unfolding_all rfl) : DT X G W (.Compare a [.In] [.Name x p] pos) (tV (eInO false j fa)) := by
  obtain ⟨ta, pa, la⟩ := ha
  exact ⟨_, fun i => pt_cmpR (or_inF (F.K i)) (pa i) (pe_var (hN i) (hv i) hd hcd) hm, fun Fg O ρ σ H Q r0 h => tv_law (fun Fg O ρ σ H Q r0 h => inO_law la r0 h) r0 h⟩
/-- x.pop(), x an own list -/
def ePopO (j : Nat) : RS → Rs PyData := fun ρ => match ownAt ρ j with
  | none => .no
  | some xs => match xs.getLast? with
    | some d => .ok d (ρ.set j (.o xs.dropLast))
    | none => .no
theorem last_rep {K : PySem.W.Frag} {A : List Addr} {H : Hp} {us : List V} {ds : List PyData} {d : PyData} (r : RepAll K A H us ds) (h : ds.getLast? = some d) : ∃ v, us[us.length - 1]? = some v ∧ Rep K A H v d := by
  rw [List.getLast?_eq_getElem?, ← r.length] at h
  exact r.get h
theorem ds_popO (j : Nat) {x : Str} {p apos cpos : Pos} (F : Fam X G W k) (hN : ∀ i, (X i).N[j]? = some x) (hv : ∀ i, Vis (X i).env.scope x) (hd : (x == ("__debug__" : Str)) = false := by decide) (hcd : (x == ("__classdict__" : Str)) = false := by decide)
    (hbase : ∀ i, attributeBase (.Name x p) "pop" (X i).env (eval (.Name x p) (X i).env) = eval (.Name x p) (X i).env := by intro _; rfl) (hline : (apos.endLine == cpos.line) = true := by rfl) : DE X G W (.Call (.Attribute (.Name x p) "pop" apos) [] [] cpos) (ePopO j) := by
  refine ⟨tBM0 G.K "list" rPop (tVar j), fun i => by rw [← F.K i]; exact pe_bm0 PySem.F.plainAttrs_list PySem.F.slot_list_pop PySem.F.type_list_pop mt_pop (pe_var (hN i) (hv i) hd hcd) (hbase i) hline, fun Fg O ρ σ H Q r h => ?_⟩
  unfold ePopO at h
  cases e0 : ownAt ρ j with
  | none => rw [e0] at h; exact h.elim
  | some xs =>
    rw [e0] at h
    have h : GP G W Fg O σ _ H (match xs.getLast? with | some d => Rs.ok d (ρ.set j (.o xs.dropLast)) | none => .no) := h
    cases e1 : xs.getLast? with
    | none => rw [e1] at h; exact h.elim
    | some d =>
      rw [e1] at h
      obtain ⟨a, vs, m0, h1, h2, h3⟩ := r.own j xs (ownAt_ok e0)
      obtain ⟨v, g1, g2⟩ := last_rep h3 e1
      have ep := ext_put (u := .lst vs.dropLast) h2 (R.in_adr m0)
      have hj : j < ρ.length := r.own_at (ownAt_ok e0)
      exact ⟨_, h1, .inl ⟨rfl, vs, .inl (.inl h2)⟩, a, vs, v, rfl, rfl, h2, g1, h _ ep (r.put m0 h2 hj h1 h3.dropLast) v (g2.ext (fun a m => .inl (List.mem_append_left _ m)) ep fun _ m => .inl m)⟩
end
end DL

-- text DL14
set_option Elab.async false
set_option linter.all false
set_option maxRecDepth 100000
set_option maxHeartbeats 2000000
namespace DL
open PySem PySem.Spec PyProof.Rows L2 GxR
section
variable {ι : Type} {X : ι → Cx} {G : DL.Ctx} {W : WX} {k : Nat} {pos : Pos}
/-- the addresses without a -/
abbrev less (O : Own) (Fg : List Addr) (a : Addr) : List Addr := (adr O).filter (fun c => decide (c ≠ a)) ++ Fg
theorem less_sub {O : Own} {Fg : List Addr} {a b : Addr} (m : b ∈ less O Fg a) : b ∈ adr O ++ Fg := by
  rcases List.mem_append.mp m with z | z
  · exact List.mem_append_left _ (List.mem_filter.mp z).1
  · exact List.mem_append_right _ z
theorem less_not {G : DL.Ctx} {Fg : List Addr} {O : Own} {ρ : RS} {σ : L2.St} {H : Hp} (r : R G Fg O ρ σ H) {j : Nat} {a : Addr} (m : (j, a) ∈ O) : a ∉ less O Fg a := fun z => by
  rcases List.mem_append.mp z with z | z
  · have := (List.mem_filter.mp z).2
    simp at this
  · exact r.fg _ m z
/-- arguments of which one is the own list of the slot j -/
structure DAO (X : ι → Cx) (G : DL.Ctx) (W : WX) (j : Nat) (es : List Expr) (f : RS → Rs (List PyData)) : Prop where
  ex : ∃ t : TA, (∀ i, PA (X i) es t) ∧ ∀ Fg O ρ σ H a Q, R G Fg O ρ σ H → (j, a) ∈ O → GP G W Fg O σ (fun ds _ H' => ∀ vs, RepAll G.K (less O Fg a) H' vs ds → Q vs H') H (f ρ) → t σ H Q
theorem dao_nil {j : Nat} : DAO X G W j [] aNilD := ⟨_, fun _ => pa_nil, fun Fg O ρ σ H a Q r m h => h H .refl r _ .nil⟩
theorem dao_cons {j : Nat} {e : Expr} {es : List Expr} {fe : RS → Rs PyData} {fs : RS → Rs (List PyData)} (ha : DE X G W e fe) (hr : DAO X G W j es fs) (hs : ∀ i, starEach (e :: es) (X i).env = (false, eval e (X i).env) :: starEach es (X i).env := by intro _; rfl) : DAO X G W j (e :: es) (aConsD fe fs) := by
  obtain ⟨t, p, l⟩ := ha
  obtain ⟨t2, p2, l2⟩ := hr
  refine ⟨_, fun i => pa_cons (p i) (p2 i) (hs i), fun Fg O ρ σ H a Q r0 m h => l Fg O ρ σ H _ r0 ((GP.bind h).imp fun d ρ1 H1 e1 r1 k v rv => ?_)⟩
  refine l2 Fg O ρ1 σ H1 a _ r1 m ((GP.bind k).imp fun ds ρ2 H2 e2 r2 k2 vs rvs => ?_)
  exact k2 H2 .refl r2 _ (.cons ((rv.ext (fun a m => .inl (List.mem_append_left _ m)) e2 fun _ m => .inl m).fewer fun b => less_sub) rvs)
def aOwn (j : Nat) (f : RS → Rs (List PyData)) : RS → Rs (List PyData) := fun ρ => match ownAt ρ j with
  | none => .no
  | some _ => (f ρ).bind fun ds ρ1 => match ownAt ρ1 j with
    | none => .no
    | some xs => .ok (.list xs :: ds) ρ1
theorem dao_own {j : Nat} {x : Str} {p : Pos} {es : List Expr} {fs : RS → Rs (List PyData)} (hN : ∀ i, (X i).N[j]? = some x) (hv : ∀ i, Vis (X i).env.scope x) (hr : DAO X G W j es fs) (hd : (x == ("__debug__" : Str)) = false := by decide) (hcd : (x == ("__classdict__" : Str)) = false := by decide)
    (hs : ∀ i, starEach (.Name x p :: es) (X i).env = (false, eval (.Name x p) (X i).env) :: starEach es (X i).env := by intro _; rfl) : DAO X G W j (.Name x p :: es) (aOwn j fs) := by
  obtain ⟨t2, p2, l2⟩ := hr
  refine ⟨_, fun i => pa_cons (pe_var (hN i) (hv i) hd hcd) (p2 i) (hs i), fun Fg O ρ σ H a Q r0 m h => ?_⟩
  unfold aOwn at h
  cases e0 : ownAt ρ j with
  | none => rw [e0] at h; exact h.elim
  | some xs0 =>
    rw [e0] at h
    obtain ⟨a', vs0, m0, h1, _, _⟩ := r0.own j xs0 (ownAt_ok e0)
    obtain rfl : a = a' := r0.key j a a' m m0
    refine ⟨_, h1, l2 Fg O ρ σ H a _ r0 m ((GP.bind h).imp fun ds ρ1 H1 e1 r1 k1 vs rvs => ?_)⟩
    cases e2 : ownAt ρ1 j with
    | none => rw [e2] at k1; exact k1.elim
    | some xs =>
      rw [e2] at k1
      obtain ⟨a', ws, m1, _, h3, h4⟩ := r1.own j xs (ownAt_ok e2)
      obtain rfl : a = a' := r1.key j a a' m m1
      exact k1 H1 .refl r1 _ (.cons (.lst h3 (less_not r1 m) (h4.fewer fun b => less_sub)) rvs)
/-- a call with such arguments; the answer is flat -/
def eFnO (n : Nat) (F : List PyData → Fr) (j : Nat) (fs : RS → Rs (List PyData)) : RS → Rs PyData := fun ρ => match ownAt ρ j with
  | none => .no
  | some _ => (fs ρ).bind fun ds ρ1 => if ds.length = n then (match F ds with
    | .ok d => if flatD d then .ok d ρ1 else .no
    | .ex c fs => .ex c fs ρ1
    | .no => .no) else .no
theorem flat_rep {K : PySem.W.Frag} {A A' : List Addr} {H : Hp} {v : V} {d : PyData} (r : Rep K A H v d) (h : flatD d = true) : Rep K A' H v d := by
  cases r with
  | non => exact .non
  | bl b => exact .bl b
  | int i => exact .int i
  | str x => exact .str x
  | lst _ _ _ => cases h
  | scr _ => cases h
  | dct _ => cases h
  | tup _ _ => cases h
theorem de_fnO {x : Str} {p : Pos} {e : Expr} {es : List Expr} {fs : RS → Rs (List PyData)} {j q : Nat} {f : Addr} {fd : FuncData} {ps : List Str} {n : Nat} {Fn : List PyData → Fr} (F : Fam X G W k)
    (hF : ∀ i, FnOk (X i).prog (X i).w (X i).K (X i).mg (X i).base (L2.CX (X i).prog (X i).w) q f fd ps (spD G n Fn)) (hq : q ≤ k) (hg : ∀ i, Gl (X i) x) (hm : ∀ i, (X i).mg x = some (.ref f)) (hk : PySem.W.keepIn G.K (.ref f) = true) (hb : Binds G.K fd ps [])
    (ha : DAO X G W j (e :: es) fs) (hdb : (x == ("__debug__" : Str)) = false := by decide) (he : ∀ i, starEach (e :: es) (X i).env = (false, eval e (X i).env) :: starEach es (X i).env := by intro _; rfl) (hpl : ∀ i, (backTo pos (starEach es (X i).env)).any (·.1) = false := by intro _; rfl) :
    DE X G W (.Call (.Name x p) (e :: es) [] pos) (eFnO n Fn j fs) := by
  obtain ⟨t, pa, la⟩ := ha
  refine ⟨_, fun i => pe_callS (hF i) ((F.room i).mono hq) (hg i) (hm i) (by rw [F.K i]; exact hk) (by rw [F.K i]; exact hb) (fun σ => passAt (F.takes i) σ) (pa i) hdb (he i) (hpl i), fun Fg O ρ σ H Q r h => ?_⟩
  unfold eFnO at h
  cases e0 : ownAt ρ j with
  | none => rw [e0] at h; exact h.elim
  | some xs0 =>
    rw [e0] at h
    obtain ⟨a, vs0, m0, h1, _, _⟩ := r.own j xs0 (ownAt_ok e0)
    refine la Fg O ρ σ H a _ r m0 ((GP.bind h).imp fun ds ρ1 H1 e1 r1 k1 vs rv => ?_)
    by_cases hl : ds.length = n
    · rw [if_pos hl] at k1
      refine ⟨by rw [rv.length]; exact hl, less O Fg a, ds, rv, r1.tabs, fun b m => r1.all b (less_sub m), ?_⟩
      cases z : Fn ds with
      | ok d =>
        rw [z] at k1
        have k1 : GP G W Fg O σ _ H1 (if flatD d then Rs.ok d ρ1 else .no) := k1
        by_cases hf : flatD d = true
        · rw [if_pos hf] at k1
          exact fun v H' e' rv' => k1 H' (e'.mono (by simp)) (r1.ext0 e') v (flat_rep rv' hf)
        · rw [if_neg hf] at k1; exact k1.elim
      | ex c f =>
        rw [z] at k1
        exact fun dd H' e' x => k1 dd H' (e'.mono (by simp)) (r1.ext0 e') x
      | no => rw [z] at k1; exact k1.elim
    · rw [if_neg hl] at k1; exact k1.elim
end
end DL

-- text DL15
set_option Elab.async false
set_option linter.all false
set_option maxRecDepth 100000
set_option maxHeartbeats 2000000
namespace DL
open PySem PySem.Spec PyProof.Rows L2 GxR
section
variable {ι : Type} {X : ι → Cx} {G : DL.Ctx} {W : WX} {k : Nat} {pos : Pos}
/-- e[::-1], e a list -/
def eRevL (fe : RS → Rs PyData) : RS → Rs PyData := fun ρ => (fe ρ).bind fun d ρ1 => match d with
  | .list xs => .ok (.list xs.reverse) ρ1
  | _ => .no
theorem de_revL {e : Expr} {fe : RS → Rs PyData} {kc : Nat} {p1 p2 p3 : Pos} (F : Fam X G W k) (he : DE X G W e fe) : DE X G W (.Subscript e (.Slice none none (some (.UnaryOp .USub (.Constant (.int 1) kc p1) p2)) p3) pos) (eRevL fe) := by
  obtain ⟨t, p, l⟩ := he
  refine ⟨tRevL G.K t, fun i => by rw [← F.K i]; exact pe_revL (p i), fun Fg O ρ σ H Q r h => l Fg O ρ σ H _ r ((GP.bind h).imp fun d ρ1 H1 e1 r1 k1 v rv => ?_)⟩
  cases d with
  | list xs =>
    obtain ⟨a, us, rfl, h1, n1, rr⟩ := rep_list rv
    exact ⟨a, us, rfl, .inl (.inl h1), fun q hq => k1 _ (ext_new hq) (r1.ext0 (ext_new hq)) _ (.lst upd_same (fresh_not r1.all hq) (rep_new rr.reverse hq))⟩
  | _ => exact k1.elim
/-- enumerate(e), e a list -/
def enumD (xs : List PyData) : List PyData := xs.zipIdx.map fun p => .tuple [.int (p.2 : Nat), p.1]
def iEnumL (fs : RS → Rs (List PyData)) : RS → Rs (List PyData) := fun ρ => (fs ρ).bind fun ds ρ1 => match ds with
  | [.list xs] => .ok (enumD xs) ρ1
  | _ => .no
theorem enum_get {xs : List PyData} {i : Nat} {d : PyData} (h : (enumD xs)[i]? = some d) : ∃ x, xs[i]? = some x ∧ d = .tuple [.int (i : Nat), x] := by
  unfold enumD at h
  rw [List.getElem?_map, List.getElem?_zipIdx] at h
  cases e : xs[i]? with
  | none => rw [e] at h; simp at h
  | some x =>
    rw [e] at h
    simp at h
    exact ⟨x, rfl, h.symm⟩
theorem di_enumL {e : Expr} {p tpos : Pos} {elts : List Expr} {kk : Nat} {fs : RS → Rs (List PyData)} (F : Fam X G W k) (hg : ∀ i, Gl (X i) "enumerate") (hm : ∀ i, (X i).mg "enumerate" = none) (ha : DA X G W [e] fs) (hs : ∀ i, starEach [e] (X i).env = [(false, eval e (X i).env)] := by intro _; rfl) :
    DI X G W (.Tuple elts kk tpos) (.Call (.Name "enumerate" p) [e] [] pos) (iEnumL fs) := by
  obtain ⟨t, pa, la⟩ := ha
  refine ⟨iEnum G.K t, fun i => by rw [← F.K i]; exact pi_enum (hg i) (hm i) (pa i) (hs i), fun Fg O ρ σ H Q r h => ?_⟩
  refine la Fg O ρ σ H _ r ((GP.bind h).imp fun ds ρ1 H1 e1 r1 k1 vs rv => ?_)
  match ds, vs, rv with
  | [.list xs], [_], .cons (.lst (xs := us) (a := a) q1 hA1 rs1) .nil =>
    refine ⟨a, us, rfl, .inl (.inl q1), k1 H1 .refl r1 _ fun S A H' e hS hA i => ?_⟩
    have h' : H' a = some (.lst us) := e.keep a _ q1 (by intro ps z; cases z) (.inl fun m => by
      rcases hS a m with z | z
      · exact hA1 z
      · rw [q1] at z; cases z)
    have g1 : SqL G.K H' a us := .inl (.inl h')
    refine ⟨fun d hd => ?_, fun hl => ⟨us, g1, by rw [rs1.length]; simpa [enumD] using hl⟩⟩
    obtain ⟨x, hx, rfl⟩ := enum_get hd
    obtain ⟨v1, hv1, rv1⟩ := (rs1.ext hS e hA).get hx
    refine ⟨⟨us, v1, g1, hv1⟩, fun z H'' yy => ?_⟩
    obtain ⟨T, x1, rfl, nT, rfl, f1⟩ := yy
    have z1 := f1 us g1
    rw [hv1] at z1
    cases z1
    exact ⟨ext_new nT, .tup (.inl (.inl upd_same)) (rep_new (.cons (.int _) (.cons rv1 .nil)) nT)⟩
  | [], _, _ => exact k1.elim
  | [.none], _, _ => exact k1.elim
  | [.bool _], _, _ => exact k1.elim
  | [.int _], _, _ => exact k1.elim
  | [.str _], _, _ => exact k1.elim
  | [.tuple _], _, _ => exact k1.elim
  | [.dict _], _, _ => exact k1.elim
  | .none :: _ :: _, _, _ | .bool _ :: _ :: _, _, _ | .int _ :: _ :: _, _, _ | .str _ :: _ :: _, _, _ | .list _ :: _ :: _, _, _ | .tuple _ :: _ :: _, _, _ | .dict _ :: _ :: _, _, _ => exact k1.elim
end
end DL

-- text DL16
set_option Elab.async false
set_option linter.all false
set_option maxRecDepth 100000
set_option maxHeartbeats 2000000
namespace DL
open PySem PySem.Spec PyProof.Rows L2 GxR
open AutoSeq1 (wpAny_loadPart')
/-! ### enumerate over a list or a tuple -/
theorem meets_enumT (l : Addr) (items : Array Value) (n : Nat) (dct : Option Addr) (sl : Array (Option Value)) :
    Meets (Builtin.«enumerate.__new__» ⟨[.type "enumerate", .ref l], []⟩) (fun _ R s => s.heap.get? l = some { cls := .type "tuple", dict := dct, data := .seq items n, slots := sl } ∧
      R (.ok (.ret (.ref (s.heap.push { cls := .type "tuple_iterator", data := .fields #[.ref l, .int 0 0] }).objs.size)))
        { s with heap := (s.heap.push { cls := .type "tuple_iterator", data := .fields #[.ref l, .int 0 0] }).push { cls := .type "enumerate", data := .fields #[.none, .bool false, .ref s.heap.objs.size, rawInt 0, .none, .none] } }) :=
  .of_wp fun prog w A R s h => by
    obtain ⟨hp, g, d, tk, os⟩ := s; obtain ⟨hl, h⟩ := h
    have hsub := sub_enumerate
    have hL : Heap.IsTuple (Shared.heap ⟨hp, g, d, tk, os⟩) l items := ⟨_, hl, rfl, n, rfl⟩
    wp_walk using wpAny_loadPart' hl
    refine wpAny_stack_any fun st => wpAny_pure ?_
    split
    · rename_i c _ _ _ _ _
      cases (c == Value.type "enumerate")
      · wp_walk using wpAny_loadPart' hl, wpAny_pyIter_tuple hL
        exact ⟨_, rfl, h⟩
      · wp_walk using wpAny_loadPart' hl, wpAny_pyIter_tuple hL
        exact ⟨_, rfl, h⟩
    · wp_walk using wpAny_loadPart' hl, wpAny_pyIter_tuple hL
      exact ⟨_, rfl, h⟩
theorem call_enumT {prog : Program} {w : World} {A : Around} {E : Value → Shared → Prop} {s : Shared} {l : Addr} {items : Array Value} {Q : Value → Shared → Prop} (hL : s.heap.IsTuple l items)
    (h : ∀ h', IsEnum h' (s.heap.objs.size + 1) s.heap.objs.size 0 .none → h'.IsTupleIter s.heap.objs.size l 0 → h'.objs.size = s.heap.objs.size + 2 →
      (∀ b o, s.heap.get? b = some o → h'.get? b = some o) → Q (.ref (s.heap.objs.size + 1)) { s with heap := h' }) :
    wpAny (model prog w) A (call (.type "enumerate") [.ref l]) Q E s := by
  obtain ⟨⟨c, dct, dt, sl⟩, hl, hc, n, hd⟩ := hL
  replace hc : c = .type "tuple" := hc
  replace hd : dt = .seq items n := hd
  subst hc hd
  refine callType_new F.called_enumerate (by decide) (F.typeCall_enumerate_1 _) (F.newCall_enumerate_1 _) (fun obj => F.args_object_init_2 obj _) F.entry_enumerate_new
    (meets_enumT l items n dct sl) ⟨hl, ?_⟩
  have hz : (s.heap.push { cls := .type "tuple_iterator", data := .fields #[.ref l, .int 0 0] }).objs.size = s.heap.objs.size + 1 := Heap.size_push ..
  show _ ∧ _
  rw [hz]
  have he : IsEnum ((s.heap.push { cls := .type "tuple_iterator", data := .fields #[.ref l, .int 0 0] }).push
      { cls := .type "enumerate", data := .fields #[.none, .bool false, .ref s.heap.objs.size, rawInt 0, .none, .none] }) (s.heap.objs.size + 1) s.heap.objs.size 0 .none := by
    have := Heap.get?_push_size (s.heap.push { cls := .type "tuple_iterator", data := .fields #[.ref l, .int 0 0] })
      (o := { cls := .type "enumerate", data := .fields #[.none, .bool false, .ref s.heap.objs.size, rawInt 0, .none, .none] }) rfl
    rw [hz] at this; exact this
  refine ⟨⟨_, he, rfl⟩, h _ he ⟨_, Heap.get?_push_of_some _ (Heap.get?_push_size _ rfl), rfl, rfl⟩ (by rw [Heap.size_push, hz]) fun b o x => Heap.get?_push_of_some _ (Heap.get?_push_of_some _ x)⟩
/-- the tuple at a, each item in a new pair -/
def Itet (K : PySem.W.Frag) (a : Addr) : It :=
  ⟨fun i H => ∃ (xs : List V) (x : V), SqT K H a xs ∧ xs[i]? = some x, fun i H v H' => ∃ T x, v = .ref T ∧ H T = none ∧ H' = upd H T (.tup [.int (i : Nat), x]) ∧ ∀ xs, SqT K H a xs → xs[i]? = some x, fun i H => ∃ xs : List V, SqT K H a xs ∧ xs.length ≤ i⟩
theorem turn_enumT {P : Program} {w : World} {K : PySem.W.Frag} {elts : List Expr} {kk : Nat} {tpos : Pos} (a e it : Addr) (hne' : a ≠ it) :
    Turn P w K (.Tuple elts kk tpos) (Itet K a) [e, it] e (fun i h => (∃ old, IsEnum h e it ((i : Nat) : Int) old) ∧ h.IsTupleIter it a i ∧ e ≠ it ∧ e ≠ a) where
  mem := by simp
  obj := fun i h st b hb => by
    obtain ⟨⟨old, he⟩, ⟨o, ho, hc, hd⟩, _⟩ := st
    have e' : b = e ∨ b = it := by simpa using hb
    rcases e' with z | z
    · rw [z]; exact ⟨_, he, fun v q => nomatch q⟩
    · rw [z]; exact ⟨o, ho, fun v q => by rw [hd] at q; cases q⟩
  keep := fun i h h' st k => let ⟨⟨old, he⟩, hi, hne, hn2⟩ := st; ⟨⟨old, k e (by simp) _ he⟩, hi.at fun o q => k it (by simp) o q, hne, hn2⟩
  item := by
    intro X hP hw hK hc i pins s σ H E I hf st hg
    subst hP hw hK
    obtain ⟨⟨old, he⟩, hit, hne, hn2⟩ := st
    obtain ⟨xs, x, hq, hx⟩ := hg
    obtain ⟨its, rv, p, hz⟩ := I.tuple hq
    obtain ⟨u, hu, ru⟩ := rv.get hx
    have hi := rv.length
    have hlt : i < its.toArray.size := by
      have := (List.getElem?_eq_some_iff.mp hu).1
      simpa using this
    have hel : e < s.heap.objs.size := Heap.lt_size he
    have hil : it < s.heap.objs.size := by obtain ⟨_, q, _⟩ := hit; exact Heap.lt_size q
    have ht : s.heap.IsTuple a its.toArray := p
    have hal : a < s.heap.objs.size := by obtain ⟨_, q, _⟩ := id ht; exact Heap.lt_size q
    refine wpAny_pyNext_enum_itemD (Draws.tuple (show X.A.in1.handled = none from I.ok.hd hc) it a hne' its.toArray) he ⟨hit, ht⟩ hlt hne (by simp [hne, hn2]) fun x' h' tk hP ho hit' hT hsz hk => ?_
    obtain rfl : u = x' := by
      rw [List.getElem?_toArray, hu] at hP
      exact Option.some.inj hP
    refine ⟨_, rfl, wpAny_letOwnedTupleGo_enum (s := { s with heap := h', toks := tk + 1 }) ho fun h'' he' sb => ?_⟩
    have hT2 : h''.get? s.heap.objs.size = some { cls := .type "tuple", data := .seq #[.int i tk, u] } := (sb.2 _ (Nat.ne_of_gt hel)).trans hT
    have new : ObjOk X.prog X.w (upd H s.heap.objs.size (.tup [.int (i : Nat), x])) h'' s.heap.objs.size (.tup [.int (i : Nat), x]) :=
      ⟨by show 2 ≤ sizeLine; decide, [.int i tk, u], .cons ⟨_, rfl⟩ (.cons ru .nil), ⟨_, hT2, rfl, _, rfl⟩⟩
    have I1 : Inv X pins σ (upd H s.heap.objs.size (.tup [.int (i : Nat), x])) { s with heap := h'', toks := tk + 1 } :=
      I.turnedNew (ch := [e, it]) (fun b ob hb q => (sb.2 b (fun z => hb (by simp [z]))).trans (hk b ob (fun z => hb (by simp [z])) (fun z => hb (by simp [z])) q)) hf (Nat.le_refl _) new
    refine ⟨.ref s.heap.objs.size, _, I1, rfl, ⟨_, x, rfl, I.hok.fresh (Nat.le_refl _), rfl, fun ys hy => by rw [I.tuple_inj hy hq]; exact hx⟩, ⟨⟨u, ?_⟩, hit'.1.at fun o q => (sb.2 it (Ne.symm hne)).trans q, hne, hn2⟩, fun b hb => ?_⟩
    · have e1 : ((i + 1 : Nat) : Int) = (i : Int) + 1 := by omega
      rw [e1]; exact he'
    · have hb' : b < s.heap.objs.size := by
        have e' : b = e ∨ b = it := by simpa using hb
        rcases e' with z | z
        · rw [z]; exact hel
        · rw [z]; exact hil
      rw [upd_ne (Nat.ne_of_lt hb')]
      exact (hf b hb).1
  done := by
    intro X hP hw hK hc i pins s σ H E I hf st hg
    subst hP hw hK
    obtain ⟨⟨old, he⟩, hit, hne, hn2⟩ := st
    obtain ⟨xs, hq, hx⟩ := hg
    obtain ⟨its, rv, p, hz⟩ := I.tuple hq
    obtain ⟨f0, f1, f2, f3, f4, f5⟩ := hf it (by simp)
    have hl := rv.length
    have hT : s.TypeIs (.ref e) "enumerate" := ⟨_, he, rfl⟩
    unfold pyNext
    refine wpAny_bind (wpAny_attempt (wpAny_callSpecial?_slot (name := Str.ofString "__next__") hT F.slot_enumerate_next
      (wpAny_call_entry F.slot_enumerate_next hT F.entry_enumerate_next ?_ (F.args_enumerate_next_1 _))))
    show wpAny _ _ (field (.ref e) 2 >>= _) _ _ _
    refine wpAny_bind (wpAny_field he rfl (x := .ref it) rfl ?_)
    refine wpAny_bind (wpAny_nextOf_tuple_end (show X.A.in1.handled = none from I.ok.hd hc) hit (show s.heap.IsTuple a its.toArray from p) (by simp; omega) fun h' x he' hx' => ?_)
    obtain ⟨o, ho, hc⟩ := hx'
    refine wpAny_bind (wpAny_isInstance (T := "StopIteration") (b := true) ⟨o, ho, hc⟩ isSubtype_stop ?_)
    exact wpAny_pure ⟨rfl, I.turned (t' := s.toks) (fun b o hb q => he' b o hb q) f0 f1 f3 f4 f5⟩
  self := fun A i s Q E st h => let ⟨⟨_, he⟩, _⟩ := st; wpAny_pyIter_enum he h
def iEnumS (K : PySem.W.Frag) (ta : TA) : TI := fun σ H R => ta σ H fun vs H1 => ∃ a, vs = [.ref a] ∧ (((∃ xs, SqL K H1 a xs) ∧ R (Ite K a) H1) ∨ ((∃ xs, SqT K H1 a xs) ∧ R (Itet K a) H1))
theorem pi_enumS {X : Cx} {e : Expr} {ta : TA} {p pos tpos : Pos} {elts : List Expr} {kk : Nat} (hg : Gl X "enumerate") (hm : X.mg "enumerate" = none) (ha : PA X [e] ta) (hs : starEach [e] X.env = [(false, eval e X.env)] := by rfl) :
    PI X (.Tuple elts kk tpos) (.Call (.Name "enumerate" p) [e] [] pos) (iEnumS X.K ta) := by
  refine ⟨fun pins s σ H R I h => ?_⟩
  refine Call_ (ld_blt I hg hm boot_enumerate (PyProof.Rows.callWith_type1 (thn (ha.run pos pins s σ H _ I h) fun us s1 ⟨vs, H1, I1, r1, q1⟩ => ?_) hs rfl))
  obtain ⟨a, ex, hq⟩ := q1
  subst ex
  cases r1 with
  | cons r rr =>
    cases rr
    cases r
    have fp : ∀ b ∈ [s1.heap.objs.size + 1, s1.heap.objs.size], FpOk X pins H1 b := fun b hb => by
      have e' : b = s1.heap.objs.size + 1 ∨ b = s1.heap.objs.size := by simpa using hb
      have hle : s1.heap.objs.size ≤ b := by
        rcases e' with z | z
        · rw [z]; exact Nat.le_add_right _ _
        · rw [z]; exact Nat.le_refl _
      exact I1.fpOk hle (I1.hok.fresh hle)
    rcases hq with ⟨⟨xs, hq⟩, q⟩ | ⟨⟨xs, hq⟩, q⟩
    · obtain ⟨its, rv, p', hz⟩ := I1.list hq
      refine call_enumerate_list p'.isList fun h' he hit hsz hk => wpAny_pyIter_enum he ?_
      have I2 : Inv X pins σ H1 { s1 with heap := h' } := I1.kept (t' := s1.toks) hk
      exact ⟨s1.heap.objs.size + 1, [s1.heap.objs.size + 1, s1.heap.objs.size], _, _, H1, rfl, I2, turn_enum a (s1.heap.objs.size + 1) s1.heap.objs.size, ⟨⟨.none, he⟩, hit, Nat.succ_ne_self _⟩, fp, q⟩
    · obtain ⟨its, rv, p', hz⟩ := I1.tuple hq
      have ht : s1.heap.IsTuple a its.toArray := p'
      have hal : a < s1.heap.objs.size := by obtain ⟨_, q, _⟩ := id ht; exact Heap.lt_size q
      refine call_enumT ht fun h' he hit hsz hk => wpAny_pyIter_enum he ?_
      have I2 : Inv X pins σ H1 { s1 with heap := h' } := I1.kept (t' := s1.toks) hk
      exact ⟨s1.heap.objs.size + 1, [s1.heap.objs.size + 1, s1.heap.objs.size], _, _, H1, rfl, I2, turn_enumT a (s1.heap.objs.size + 1) s1.heap.objs.size (Nat.ne_of_lt hal), ⟨⟨.none, he⟩, hit, Nat.succ_ne_self _, Nat.ne_of_gt (Nat.lt_succ_of_lt hal)⟩, fp, q⟩
section
variable {ι : Type} {X : ι → Cx} {G : DL.Ctx} {W : WX} {k : Nat} {pos : Pos}
def iEnum (fs : RS → Rs (List PyData)) : RS → Rs (List PyData) := fun ρ => (fs ρ).bind fun ds ρ1 => match ds with
  | [d] => (match seqOf d with
    | some xs => .ok (enumD xs) ρ1
    | none => .no)
  | _ => .no
theorem enum_len (xs : List PyData) : (enumD xs).length = xs.length := by simp [enumD]
theorem di_enum {e : Expr} {p tpos : Pos} {elts : List Expr} {kk : Nat} {fs : RS → Rs (List PyData)} (F : Fam X G W k) (hg : ∀ i, Gl (X i) "enumerate") (hm : ∀ i, (X i).mg "enumerate" = none) (ha : DA X G W [e] fs) (hs : ∀ i, starEach [e] (X i).env = [(false, eval e (X i).env)] := by intro _; rfl) :
    DI X G W (.Tuple elts kk tpos) (.Call (.Name "enumerate" p) [e] [] pos) (iEnum fs) := by
  obtain ⟨t, pa, la⟩ := ha
  refine ⟨iEnumS G.K t, fun i => by rw [← F.K i]; exact pi_enumS (hg i) (hm i) (pa i) (hs i), fun Fg O ρ σ H Q r h => ?_⟩
  refine la Fg O ρ σ H _ r ((GP.bind h).imp fun ds ρ1 H1 e1 r1 k1 vs rv => ?_)
  match ds, vs, rv with
  | [], _, _ => exact k1.elim
  | _ :: _ :: _, _, _ => exact k1.elim
  | [.none], _, _ => exact k1.elim
  | [.bool _], _, _ => exact k1.elim
  | [.int _], _, _ => exact k1.elim
  | [.str _], _, _ => exact k1.elim
  | [.dict _], _, _ => exact k1.elim
  | [.list xs], [_], .cons (.lst (xs := us) (a := a) q1 hA1 rs1) .nil =>
    refine ⟨a, rfl, .inl ⟨⟨us, .inl (.inl q1)⟩, k1 H1 .refl r1 _ fun S A H' e hS hA i => ?_⟩⟩
    have h' : H' a = some (.lst us) := e.keep a _ q1 (by intro ps z; cases z) (.inl fun m => by
      rcases hS a m with z | z
      · exact hA1 z
      · rw [q1] at z; cases z)
    have g1 : SqL G.K H' a us := .inl (.inl h')
    refine ⟨fun d hd => ?_, fun hl => ⟨us, g1, by rw [rs1.length]; simpa [enumD] using hl⟩⟩
    obtain ⟨x, hx, rfl⟩ := enum_get hd
    obtain ⟨v1, hv1, rv1⟩ := (rs1.ext hS e hA).get hx
    refine ⟨⟨us, v1, g1, hv1⟩, fun z H'' yy => ?_⟩
    obtain ⟨T, x1, rfl, nT, rfl, f1⟩ := yy
    have z1 := f1 us g1
    rw [hv1] at z1
    cases z1
    exact ⟨ext_new nT, .tup (.inl (.inl upd_same)) (rep_new (.cons (.int _) (.cons rv1 .nil)) nT)⟩
  | [.tuple xs], [_], .cons (.tup (xs := us) (a := a) q1 rs1) .nil =>
    refine ⟨a, rfl, .inr ⟨⟨us, q1⟩, k1 H1 .refl r1 _ fun S A H' e hS hA i => ?_⟩⟩
    have g1 : SqT G.K H' a us := SqT.ext q1 e
    refine ⟨fun d hd => ?_, fun hl => ⟨us, g1, by rw [rs1.length]; simpa [enumD] using hl⟩⟩
    obtain ⟨x, hx, rfl⟩ := enum_get hd
    obtain ⟨v1, hv1, rv1⟩ := (rs1.ext hS e hA).get hx
    refine ⟨⟨us, v1, g1, hv1⟩, fun z H'' yy => ?_⟩
    obtain ⟨T, x1, rfl, nT, rfl, f1⟩ := yy
    have z1 := f1 us g1
    rw [hv1] at z1
    cases z1
    exact ⟨ext_new nT, .tup (.inl (.inl upd_same)) (rep_new (.cons (.int _) (.cons rv1 .nil)) nT)⟩
end
end DL

-- text DL17
set_option Elab.async false
set_option linter.all false
set_option maxRecDepth 100000
set_option maxHeartbeats 2000000
namespace DL
open PySem PySem.Spec PyProof.Rows L2 GxR
section
variable {ι : Type} {X : ι → Cx} {G : DL.Ctx} {W : WX} {k : Nat} {pos : Pos}
/-! ### new lists -/
/-- an expression that makes a new list -/
structure DN (X : ι → Cx) (G : DL.Ctx) (W : WX) (e : Expr) (f : RS → Rs (List PyData)) : Prop where
  ex : ∃ t : TE, (∀ i, PE (X i) e t) ∧ ∀ Fg O ρ σ H Q, R G Fg O ρ σ H → GP G W Fg O σ (fun ds ρ1 H1 => ∀ p us, H p = none → p ∉ adr O ++ Fg → H1 p = some (.lst us) → R G (p :: Fg) O ρ1 σ H1 → RepAll G.K (adr O ++ p :: Fg) H1 us ds → Q (.ref p) H1) H (f ρ) → t σ H Q
theorem more_sub {O : Own} {Fg : List Addr} {H : Hp} {p : Addr} (hp : H p = none) : ∀ b ∈ adr O ++ p :: Fg, b ∈ adr O ++ Fg ∨ H b = none := fun b m => by
  rcases List.mem_append.mp m with z | z
  · exact .inl (List.mem_append_left _ z)
  · rcases List.mem_cons.mp z with z | z
    · rw [z]; exact .inr hp
    · exact .inl (List.mem_append_right _ z)
/-- a new list stands at any free place -/
theorem dn_put {Fg : List Addr} {O : Own} {ρ1 : RS} {σ : L2.St} {H H1 : Hp} {Q : VK} {us : List V} {ds : List PyData} (e1 : Ext (adr O) H H1) (r1 : R G Fg O ρ1 σ H1) (rv : RepAll G.K (adr O ++ Fg) H1 us ds)
    (h : GP G W Fg O σ (fun ds ρ1 H1 => ∀ p us, H p = none → p ∉ adr O ++ Fg → H1 p = some (.lst us) → R G (p :: Fg) O ρ1 σ H1 → RepAll G.K (adr O ++ p :: Fg) H1 us ds → Q (.ref p) H1) H1 (.ok ds ρ1)) : ∀ p, H1 p = none → Q (.ref p) (upd H1 p (.lst us)) := fun p hp =>
  h _ (ext_new hp) (r1.ext0 (ext_new hp)) p us (e1.dom _ hp) (fresh_not r1.all hp) upd_same (r1.more hp) (rv.ext (O := []) (by simp) (ext_new hp) (more_sub hp))
def nDisp (f : RS → Rs (List PyData)) : RS → Rs (List PyData) := fun ρ => (f ρ).bind fun ds ρ1 => if ds.length ≤ sizeLine then .ok ds ρ1 else .no
theorem dn_disp {es : List Expr} {fs : RS → Rs (List PyData)} (h : DA X G W es fs) : DN X G W (.List es pos) (nDisp fs) := by
  obtain ⟨t, p, l⟩ := h
  refine ⟨_, fun i => pe_lst (p i), fun Fg O ρ σ H Q r0 h => l Fg O ρ σ H _ r0 ((GP.bind h).imp fun ds ρ1 H1 e1 r1 k vs rv => ?_)⟩
  by_cases hl : ds.length ≤ sizeLine
  · rw [if_pos hl] at k
    exact ⟨by rw [rv.length]; exact hl, dn_put e1 r1 rv k⟩
  · rw [if_neg hl] at k
    exact k.elim
def nLst (f : RS → Rs (List PyData)) : RS → Rs (List PyData) := fun ρ => (f ρ).bind fun ds ρ1 => match ds with
  | [d] => Rs.of (seqOf d) ρ1
  | _ => .no
theorem dn_lst {e : Expr} {fs : RS → Rs (List PyData)} {p : Pos} (F : Fam X G W k) (hg : ∀ i, Gl (X i) "list") (hm : ∀ i, (X i).mg "list" = none) (ha : DA X G W [e] fs)
    (he : ∀ i, starEach [e] (X i).env = (false, eval e (X i).env) :: starEach [] (X i).env := by intro _; rfl) (hpl : ∀ i, (backTo pos (starEach [] (X i).env)).any (·.1) = false := by intro _; rfl) : DN X G W (.Call (.Name "list" p) [e] [] pos) (nLst fs) := by
  obtain ⟨t, pa, l⟩ := ha
  refine ⟨_, fun i => pe_callTy (cr_lstOf (F.K i)) (hg i) (hm i) (by decide +kernel) (pa i) (by decide) (by decide) (he i) (hpl i), fun Fg O ρ σ H Q r0 h => l Fg O ρ σ H _ r0 ((GP.bind h).imp fun ds ρ1 H1 e1 r1 k vs rv => ?_)⟩
  match ds, vs, rv with
  | [], _, _ => exact k.elim
  | _ :: _ :: _, _, _ => exact k.elim
  | [.none], _, _ => exact k.elim
  | [.bool _], _, _ => exact k.elim
  | [.int _], _, _ => exact k.elim
  | [.str _], _, _ => exact k.elim
  | [.dict _], _, _ => exact k.elim
  | [.list xs], [_], .cons rx .nil =>
    obtain ⟨a, us, rfl, h1, n1, rr⟩ := rep_list rx
    exact ⟨a, us, rfl, .inl (.inl (.inl h1)), dn_put e1 r1 rr k⟩
  | [.tuple xs], [_], .cons rx .nil =>
    obtain ⟨a, us, rfl, h1, rr⟩ := rep_tup rx
    exact ⟨a, us, rfl, .inr h1, dn_put e1 r1 rr k⟩
/-- ranges as arguments -/
def rgSmall (i : Int) : Bool := match i with
  | .ofNat n => Nat.ble n 16777216
  | .negSucc n => Nat.ble n 16777216
theorem rgSmall_ok {a b : Int} (h1 : rgSmall a = true) (h2 : rgSmall b = true) (h3 : rgSmall (b - a) = true) : RgOk a b := by
  have f : ∀ {i : Int}, rgSmall i = true → -16777217 ≤ i ∧ i ≤ 16777216 := fun {i} h => by
    cases i with
    | ofNat n => have := Nat.le_of_ble_eq_true (show Nat.ble n 16777216 = true from h); exact ⟨by show _ ≤ (n : Int); omega, by show (n : Int) ≤ _; omega⟩
    | negSucc n => have := Nat.le_of_ble_eq_true (show Nat.ble n 16777216 = true from h); exact ⟨by omega, by omega⟩
  have g1 := f h1
  have g2 := f h2
  have g3 := f h3
  exact ⟨by omega, by omega, by omega, by omega, by omega⟩
structure DRg (X : ι → Cx) (G : DL.Ctx) (W : WX) (e : Expr) (f : RS → Rs (Int × Int)) : Prop where
  ex : ∃ t : L2.St → Hp → (Int → Int → Hp → Prop) → Prop, (∀ i, PRg (X i) e t) ∧ ∀ Fg O ρ σ H (Q : Int → Int → Hp → Prop), R G Fg O ρ σ H → GP G W Fg O σ (fun p _ H' => Q p.1 p.2 H') H (f ρ) → t σ H fun a b H' => RgOk a b ∧ Q a b H'
def okRg (a b : Int) : Bool := rgSmall a && rgSmall b && rgSmall (b - a)
def r1Rg (f : RS → Rs PyData) : RS → Rs (Int × Int) := fun ρ => (f ρ).bind fun d ρ1 => match d with
  | .int n => if okRg 0 n then .ok (0, n) ρ1 else .no
  | _ => .no
def r2Rg (f g : RS → Rs PyData) : RS → Rs (Int × Int) := fun ρ => (f ρ).bind fun d ρ1 => (g ρ1).bind fun e ρ2 => match d, e with
  | .int m, .int n => if okRg m n then .ok (m, n) ρ2 else .no
  | _, _ => .no
theorem drg1 {a : Expr} {fa : RS → Rs PyData} {p : Pos} (hg : ∀ i, Gl (X i) "range") (hm : ∀ i, (X i).mg "range" = none) (ha : DE X G W a fa) (na : ∀ i, starEach [a] (X i).env = (false, eval a (X i).env) :: starEach [] (X i).env := by intro _; rfl) :
    DRg X G W (.Call (.Name "range" p) [a] [] pos) (r1Rg fa) := by
  obtain ⟨t, pa, l⟩ := ha
  refine ⟨_, fun i => prg_1 (hg i) (hm i) (pa i) (na i), fun Fg O ρ σ H Q r0 h => l Fg O ρ σ H _ r0 ((GP.bind h).imp fun d ρ1 H1 e1 r1 k v rv => ?_)⟩
  cases d with
  | int n =>
    have k : GP G W Fg O σ (fun p _ H' => Q p.1 p.2 H') H1 (if okRg 0 n then .ok (0, n) ρ1 else .no) := k
    by_cases hc : okRg 0 n = true
    · rw [if_pos hc] at k
      unfold okRg at hc
      simp only [Bool.and_eq_true] at hc
      exact ⟨n, rep_int rv, rgSmall_ok hc.1.1 hc.1.2 hc.2, k H1 .refl r1⟩
    · rw [if_neg hc] at k; exact k.elim
  | _ => exact k.elim
theorem drg2 {a b : Expr} {fa fb : RS → Rs PyData} {p : Pos} (hg : ∀ i, Gl (X i) "range") (hm : ∀ i, (X i).mg "range" = none) (ha : DE X G W a fa) (hb : DE X G W b fb) (na : ∀ i, starEach [a, b] (X i).env = (false, eval a (X i).env) :: starEach [b] (X i).env := by intro _; rfl)
    (nb : ∀ i, starEach [b] (X i).env = (false, eval b (X i).env) :: starEach [] (X i).env := by intro _; rfl) (hp : ∀ i, (backTo pos (starEach [b] (X i).env)).any (·.1) = false := by intro _; rfl) :
    DRg X G W (.Call (.Name "range" p) [a, b] [] pos) (r2Rg fa fb) := by
  obtain ⟨t, pa, l⟩ := ha
  obtain ⟨t2, pb, l2⟩ := hb
  refine ⟨_, fun i => prg_2 (hg i) (hm i) (pa i) (pb i) (na i) (nb i) (hp i), fun Fg O ρ σ H Q r0 h => l Fg O ρ σ H _ r0 ((GP.bind h).imp fun d ρ1 H1 e1 r1 k v rv => ?_)⟩
  refine l2 Fg O ρ1 σ H1 _ r1 ((GP.bind k).imp fun e ρ2 H2 e2 r2 k2 w rw' => ?_)
  cases d with
  | int m =>
    cases e with
    | int n =>
      have k2 : GP G W Fg O σ (fun p _ H' => Q p.1 p.2 H') H2 (if okRg m n then .ok (m, n) ρ2 else .no) := k2
      by_cases hc : okRg m n = true
      · rw [if_pos hc] at k2
        unfold okRg at hc
        simp only [Bool.and_eq_true] at hc
        exact ⟨m, n, rep_int rv, rep_int rw', rgSmall_ok hc.1.1 hc.1.2 hc.2, k2 H2 .refl r2⟩
      · rw [if_neg hc] at k2; exact k2.elim
    | _ => exact k2.elim
  | _ => exact k2.elim
theorem rgV_eq (a b : Int) : rgV a b = ((List.range (b - a).toNat).map fun i => a + (i : Nat)).map V.int := by
  unfold rgV
  rw [List.map_map]
  rfl
theorem rgD_eq (a b : Int) : rngD a b = ((List.range (b - a).toNat).map fun i => a + (i : Nat)).map PyData.int := by
  unfold rngD
  rw [List.map_map]
  rfl
theorem rep_rg {A : List Addr} {H : Hp} (a b : Int) : RepAll G.K A H (rgV a b) (rngD a b) := by
  rw [rgV_eq, rgD_eq]
  exact RepAll.of_ints _
def eTupRg (f : RS → Rs (Int × Int)) : RS → Rs PyData := fun ρ => (f ρ).bind fun p ρ1 => .ok (.tuple (rngD p.1 p.2)) ρ1
theorem de_tupRg {e : Expr} {f : RS → Rs (Int × Int)} {p : Pos} (F : Fam X G W k) (hg : ∀ i, Gl (X i) "tuple") (hm : ∀ i, (X i).mg "tuple" = none) (he : DRg X G W e f) (na : ∀ i, starEach [e] (X i).env = (false, eval e (X i).env) :: starEach [] (X i).env := by intro _; rfl) :
    DE X G W (.Call (.Name "tuple" p) [e] [] pos) (eTupRg f) := by
  obtain ⟨t, pr, l⟩ := he
  refine ⟨_, fun i => pe_tupRg (F.calm i) (hg i) (hm i) (pr i) (na i), fun Fg O ρ σ H Q r0 h => l Fg O ρ σ H (fun a b H1 => ∀ q, H1 q = none → Q (.ref q) (upd H1 q (.tup (rgV a b)))) r0 ((GP.bind h).imp fun p ρ1 H1 e1 r1 k q hq => ?_)⟩
  exact k _ (ext_new hq) (r1.ext0 (ext_new hq)) _ (.tup (.inl (.inl upd_same)) (rep_rg _ _))
def eLstRg (f : RS → Rs (Int × Int)) : RS → Rs PyData := fun ρ => (f ρ).bind fun p ρ1 => .ok (.list (rngD p.1 p.2)) ρ1
theorem de_lstRg {e : Expr} {f : RS → Rs (Int × Int)} {p : Pos} (F : Fam X G W k) (hg : ∀ i, Gl (X i) "list") (hm : ∀ i, (X i).mg "list" = none) (he : DRg X G W e f) (na : ∀ i, starEach [e] (X i).env = (false, eval e (X i).env) :: starEach [] (X i).env := by intro _; rfl) :
    DE X G W (.Call (.Name "list" p) [e] [] pos) (eLstRg f) := by
  obtain ⟨t, pr, l⟩ := he
  refine ⟨_, fun i => pe_listRg (F.calm i) (hg i) (hm i) (pr i) (na i), fun Fg O ρ σ H Q r0 h => l Fg O ρ σ H (fun a b H1 => ∀ q, H1 q = none → Q (.ref q) (upd H1 q (.lst (rgV a b)))) r0 ((GP.bind h).imp fun p ρ1 H1 e1 r1 k q hq => ?_)⟩
  exact k _ (ext_new hq) (r1.ext0 (ext_new hq)) _ (.lst upd_same (fresh_not r1.all hq) (rep_rg _ _))
def nRg (f : RS → Rs (Int × Int)) : RS → Rs (List PyData) := fun ρ => (f ρ).bind fun p ρ1 => .ok (rngD p.1 p.2) ρ1
theorem dn_rg {e : Expr} {f : RS → Rs (Int × Int)} {p : Pos} (F : Fam X G W k) (hg : ∀ i, Gl (X i) "list") (hm : ∀ i, (X i).mg "list" = none) (he : DRg X G W e f) (na : ∀ i, starEach [e] (X i).env = (false, eval e (X i).env) :: starEach [] (X i).env := by intro _; rfl) :
    DN X G W (.Call (.Name "list" p) [e] [] pos) (nRg f) := by
  obtain ⟨t, pr, l⟩ := he
  refine ⟨_, fun i => pe_listRg (F.calm i) (hg i) (hm i) (pr i) (na i), fun Fg O ρ σ H Q r0 h => l Fg O ρ σ H (fun a b H1 => ∀ q, H1 q = none → Q (.ref q) (upd H1 q (.lst (rgV a b)))) r0 ((GP.bind h).imp fun p ρ1 H1 e1 r1 k => ?_)⟩
  exact dn_put e1 r1 (rep_rg _ _) k
/-! ### a new list as a slot's own -/
theorem R.memb {Fg Fg' : List Addr} {O : Own} {ρ : RS} {σ : L2.St} {H : Hp} (r : R G Fg O ρ σ H) (h : ∀ a, a ∈ Fg' ↔ a ∈ Fg) : R G Fg' O ρ σ H := by
  have g : ∀ b ∈ adr O ++ Fg', b ∈ adr O ++ Fg := fun b m => by
    rcases List.mem_append.mp m with z | z
    · exact List.mem_append_left _ z
    · exact List.mem_append_right _ ((h b).mp z)
  refine ⟨r.len, fun i x q => ?_, fun i xs q => ?_, r.key, r.inj, fun p hp m => r.fg p hp ((h _).mp m), r.occ, r.tabs, fun b m => r.all b (g b m), r.raw⟩
  · obtain ⟨v, h1, h2⟩ := r.val i x q
    exact ⟨v, h1, h2.fewer g⟩
  · obtain ⟨b, ws, h1, h2, h3, h4⟩ := r.own i xs q
    exact ⟨b, ws, h1, h2, h3, h4.fewer g⟩
def putO (j : Nat) (ds : List PyData) (ρ : RS) : Option RS := if noOwn ρ j = true ∧ j < ρ.length then some (ρ.set j (.o ds)) else none
theorem putO_ok {j : Nat} {ds : List PyData} {ρ ρ' : RS} (h : putO j ds ρ = some ρ') : NoOwn ρ j ∧ j < ρ.length ∧ ρ' = ρ.set j (.o ds) := by
  unfold putO at h
  split at h
  · rename_i c
    cases h
    exact ⟨noOwn_ok c.1, c.2, rfl⟩
  · cases h
/-- x = a new list -/
def sOwnN (j : Nat) (f : RS → Rs (List PyData)) : RS → Out := fun ρ => (f ρ).out fun ds ρ1 => sOpt (putO j ds ρ1)
theorem evo_new {O : Own} {H H1 : Hp} {j : Nat} {p : Addr} (e : Ext (adr O) H H1) (hp : H p = none) : Evo O H ((j, p) :: O) H1 := by
  refine ⟨e, fun q m _ => List.mem_cons_of_mem _ m, fun q m => ?_⟩
  rcases List.mem_cons.mp m with z | z
  · rw [z]; exact .inr hp
  · exact .inl z
theorem SPo.outN {α : Type} {Fg : List Addr} {O : Own} {σ : L2.St} {H : Hp} {D : Ends} {r : Rs α} {k : α → RS → Out} (h : SPo G W Fg O H D (r.out k)) : GP G W Fg O σ (fun a ρ1 H1 => Ext (adr O) H H1 ∧ SPo G W Fg O H D (k a ρ1)) H r := by
  cases r with
  | ok a ρ' => exact fun H' e r => ⟨e, h⟩
  | ex c fs ρ' => exact fun dd H' e r x => h O σ dd H' e.evo r x
  | no => exact h
theorem GP.lessened {β : Type} {p : Addr} {Fg : List Addr} {O : Own} {σ : L2.St} {K : β → RS → Hp → Prop} {H : Hp} {r : Rs β} (h : GP G W Fg O σ K H r) : GP G W (p :: Fg) O σ K H r := by
  cases r with
  | ok a ρ' => exact fun H' e r => h H' e r.less
  | ex c fs ρ' => exact fun dd H' e r x => h dd H' e r.less x
  | no => exact h
theorem ds_ownN {j : Nat} {x : Str} {pos' : Pos} {e : Expr} {fs : RS → Rs (List PyData)} (F : Fam X G W k) (hi : ∀ i, (X i).N[j]? = some x) (hx : ∀ i, Loc (X i).env.scope x) (hf : ∀ i, (X i).fn x = true ∨ (X i).env.scope.names.lookup x = some .local) (he : DN X G W e fs)
    (hs : ∀ i, swapsWith e (some (.Name x pos')) pos.line (X i).env = pure false := by intro _; rfl) : DS X G W (.Assign [.Name x pos'] e pos) (sOwnN j fs) := by
  obtain ⟨t, pa, l⟩ := he
  refine ⟨_, fun i => ps_set (F.nd i) (hi i) (hx i) (pa i) (hs i) (hf i), fun Fg O ρ σ H D r h => l Fg O ρ σ H _ r ((SPo.outN h).imp fun ds ρ1 H1 e1 r1 k p us hp nF h1 r2 rv => ?_)⟩
  obtain ⟨e1, k⟩ := k
  cases q : putO j ds ρ1 with
  | none => rw [q] at k; exact k.elim
  | some ρ2 =>
    rw [q] at k
    obtain ⟨n1, n2, rfl⟩ := putO_ok q
    exact k ((j, p) :: O) _ H1 (evo_new e1 hp) (r2.take (fun m => nF (List.mem_append_right _ m)) h1 n2 n1 rv)
/-- a, b = e, a new list -/
def sParDO (i j : Nat) (fa : RS → Rs PyData) (fb : RS → Rs (List PyData)) : RS → Out := fun ρ => (fa ρ).out fun d ρ1 => (fb ρ1).out fun ds ρ2 => sOpt ((setD i d ρ2).bind (putO j ds))
theorem setD_ok {i : Nat} {d : PyData} {ρ ρ' : RS} (h : setD i d ρ = some ρ') : NoOwn ρ i ∧ ρ' = ρ.set i (.d d) := by
  unfold setD at h
  split at h
  · rename_i c
    cases h
    exact ⟨noOwn_ok c, rfl⟩
  · cases h
theorem ds_parDO {j j2 : Nat} {x y : Str} {a b : Expr} {fa : RS → Rs PyData} {fb : RS → Rs (List PyData)} {px py pt : Pos} {kt k2 pt2} (F : Fam X G W k) (hi : ∀ i, (X i).N[j]? = some x) (hj : ∀ i, (X i).N[j2]? = some y) (hij : j ≠ j2)
    (hx : ∀ i, (X i).env.scope.names.lookup x = some .local) (hy : ∀ i, (X i).env.scope.names.lookup y = some .local) (ha : DE X G W a fa) (hb : DN X G W b fb)
    (hw : ∀ i, swappedStores [.Tuple [.Name x px, .Name y py] kt pt] (.Tuple [a, b] k2 pt2) (X i).env = pure (some [x, y]) := by intro _; rfl) (hs : ∀ i, swapsWithSole [.Tuple [.Name x px, .Name y py] kt pt] (.Tuple [a, b] k2 pt2) pos.line (X i).env = pure false := by intro _; rfl)
    (h1 : ∀ i, starEach [a, b] (X i).env = (false, eval a (X i).env) :: starEach [b] (X i).env := by intro _; rfl) (h2 : ∀ i, starEach [b] (X i).env = (false, eval b (X i).env) :: starEach [] (X i).env := by intro _; rfl) :
    DS X G W (.Assign [.Tuple [.Name x px, .Name y py] kt pt] (.Tuple [a, b] k2 pt2) pos) (sParDO j j2 fa fb) := by
  obtain ⟨t, p, l⟩ := ha
  obtain ⟨t2, p2, l2⟩ := hb
  refine ⟨_, fun i => ps_par (F.calm i) (F.nd i) (hi i) (hj i) hij (hx i) (hy i) (pa_cons (p i) (pa_cons (p2 i) pa_nil (h2 i)) (h1 i)) (hw i) (hs i), fun Fg O ρ σ H D r h => l Fg O ρ σ H _ r ((SPo.outN h).imp fun d ρ1 H1 e1 r1 k v rv => ?_)⟩
  obtain ⟨_, k⟩ := k
  refine l2 Fg O ρ1 σ H1 _ r1 ((SPo.outN (SPo.shift k e1.evo)).imp fun ds ρ2 H2 e2 r2 k2 p us hp nF q1 r3 rvs => ?_)
  obtain ⟨_, k2⟩ := k2
  refine ⟨v, .ref p, rfl, ?_⟩
  cases q : (setD j d ρ2).bind (putO j2 ds) with
  | none => rw [q] at k2; exact k2.elim
  | some ρ3 =>
    rw [q] at k2
    obtain ⟨ρa, ea, eb⟩ := Option.bind_eq_some_iff.mp q
    obtain ⟨n1, rfl⟩ := setD_ok ea
    obtain ⟨n2, n3, rfl⟩ := putO_ok eb
    have rv' : Rep G.K (adr O ++ p :: Fg) H2 v d := rv.ext (O := adr O) (fun a m => .inl (List.mem_append_left _ m)) e2 (more_sub hp)
    exact k2 ((j2, p) :: O) _ H2 (evo_new e2 hp) ((r3.set n1 rv').take (fun m => nF (List.mem_append_right _ m)) q1 n3 n2 rvs)
/-- a, b = a new list, a new list -/
def sParOO (i j : Nat) (fa fb : RS → Rs (List PyData)) : RS → Out := fun ρ => (fa ρ).out fun d ρ1 => (fb ρ1).out fun ds ρ2 => sOpt ((putO i d ρ2).bind (putO j ds))
theorem ds_parOO {j j2 : Nat} {x y : Str} {a b : Expr} {fa : RS → Rs (List PyData)} {fb : RS → Rs (List PyData)} {px py pt : Pos} {kt k2 pt2} (F : Fam X G W k) (hi : ∀ i, (X i).N[j]? = some x) (hj : ∀ i, (X i).N[j2]? = some y) (hij : j ≠ j2)
    (hx : ∀ i, (X i).env.scope.names.lookup x = some .local) (hy : ∀ i, (X i).env.scope.names.lookup y = some .local) (ha : DN X G W a fa) (hb : DN X G W b fb)
    (hw : ∀ i, swappedStores [.Tuple [.Name x px, .Name y py] kt pt] (.Tuple [a, b] k2 pt2) (X i).env = pure (some [x, y]) := by intro _; rfl) (hs : ∀ i, swapsWithSole [.Tuple [.Name x px, .Name y py] kt pt] (.Tuple [a, b] k2 pt2) pos.line (X i).env = pure false := by intro _; rfl)
    (h1 : ∀ i, starEach [a, b] (X i).env = (false, eval a (X i).env) :: starEach [b] (X i).env := by intro _; rfl) (h2 : ∀ i, starEach [b] (X i).env = (false, eval b (X i).env) :: starEach [] (X i).env := by intro _; rfl) :
    DS X G W (.Assign [.Tuple [.Name x px, .Name y py] kt pt] (.Tuple [a, b] k2 pt2) pos) (sParOO j j2 fa fb) := by
  obtain ⟨t, p, l⟩ := ha
  obtain ⟨t2, p2, l2⟩ := hb
  refine ⟨_, fun i => ps_par (F.calm i) (F.nd i) (hi i) (hj i) hij (hx i) (hy i) (pa_cons (p i) (pa_cons (p2 i) pa_nil (h2 i)) (h1 i)) (hw i) (hs i), fun Fg O ρ σ H D r h => l Fg O ρ σ H _ r ((SPo.outN h).imp fun d ρ1 H1 e1 r1 k p1 us1 hp1 nF1 q1 r1' rv => ?_)⟩
  obtain ⟨_, k⟩ := k
  refine l2 (p1 :: Fg) O ρ1 σ H1 _ r1' ((GP.lessened ((SPo.outN k).shift e1)).imp fun ds ρ2 H2 e2 r2 k2 p us hp nF q2 r3 rvs => ?_)
  obtain ⟨e02, k2⟩ := k2
  refine ⟨.ref p1, .ref p, rfl, ?_⟩
  cases q : (putO j d ρ2).bind (putO j2 ds) with
  | none => rw [q] at k2; exact k2.elim
  | some ρ3 =>
    rw [q] at k2
    obtain ⟨ρa, ea, eb⟩ := Option.bind_eq_some_iff.mp q
    obtain ⟨n1, n2, rfl⟩ := putO_ok ea
    obtain ⟨n3, n4, rfl⟩ := putO_ok eb
    have ne : p1 ≠ p := ne_of_none q1 hp
    have q1' : H2 p1 = some (.lst us1) := e2.keep p1 _ q1 (by intro ps z; cases z) (.inl fun m => nF1 (List.mem_append_left _ m))
    have rv' : RepAll G.K (adr O ++ p1 :: p :: Fg) H2 us1 d := rv.ext (O := adr O) (fun a m => .inl (List.mem_append_left _ m)) e2 fun b m => by
      rcases List.mem_append.mp m with z | z
      · exact .inl (List.mem_append_left _ z)
      · rcases List.mem_cons.mp z with z | z
        · rw [z]; exact .inl (List.mem_append_right _ List.mem_cons_self)
        · rcases List.mem_cons.mp z with z | z
          · rw [z]; exact .inr hp
          · exact .inl (List.mem_append_right _ (List.mem_cons_of_mem _ z))
    have r4 : R G (p1 :: p :: Fg) O ρ2 σ H2 := r3.memb fun b => by simp only [List.mem_cons]; exact or_left_comm
    have r5 := r4.take (fun m => by
      rcases List.mem_cons.mp m with z | z
      · exact ne z
      · exact nF1 (List.mem_append_right _ z)) q1' n2 n1 rv'
    have r6 := r5.take (fun m => nF (List.mem_append_right _ (List.mem_cons_of_mem _ m))) q2 n4 n3 (rvs.fewer fun b m => by
      rcases List.mem_append.mp m with z | z
      · rcases List.mem_cons.mp z with z | z
        · rw [z]; exact List.mem_append_right _ (List.mem_cons_of_mem _ List.mem_cons_self)
        · exact List.mem_append_left _ z
      · rcases List.mem_cons.mp z with z | z
        · rw [z]; exact List.mem_append_right _ List.mem_cons_self
        · exact List.mem_append_right _ (List.mem_cons_of_mem _ (List.mem_cons_of_mem _ z)))
    refine k2 ((j2, p) :: (j, p1) :: O) _ H2 ⟨e02, fun w m _ => List.mem_cons_of_mem _ (List.mem_cons_of_mem _ m), fun w m => ?_⟩ r6
    rcases List.mem_cons.mp m with z | m
    · rw [z]; exact .inr (e1.dom _ hp)
    · rcases List.mem_cons.mp m with z | m
      · rw [z]; exact .inr hp1
      · exact .inl m
/-! ### x.extend(e), x.pop(e) -/
def sExtO (j : Nat) (fe : RS → Rs PyData) : RS → Out := fun ρ => match ownAt ρ j with
  | none => .no
  | some _ => (fe ρ).out fun d ρ1 => match ownAt ρ1 j with
    | none => .no
    | some xs => (match d with
      | .list ds => if xs.length + ds.length ≤ sizeLine then .nx (ρ1.set j (.o (xs ++ ds))) else .no
      | _ => .no)
theorem ds_extO (j : Nat) {x : Str} {p apos cpos : Pos} {e : Expr} {fe : RS → Rs PyData} (F : Fam X G W k) (hN : ∀ i, (X i).N[j]? = some x) (hv : ∀ i, Vis (X i).env.scope x) (he : DE X G W e fe) (hd : (x == ("__debug__" : Str)) = false := by decide) (hcd : (x == ("__classdict__" : Str)) = false := by decide)
    (hbase : ∀ i, attributeBase (.Name x p) "extend" (X i).env (eval (.Name x p) (X i).env) = eval (.Name x p) (X i).env := by intro _; rfl)
    (hfew : ∀ i, ((backTo cpos (starEach (e :: []) (X i).env)).all (fun x => !x.1) && (backToKw cpos (keywordEach [] (X i).env)).all (fun x => x.1.isSome) && decide ((e :: []).length + ([] : List Keyword).length + (if ([] : List Keyword).isEmpty then 0 else 1) < 30)) = true := by intro _; rfl)
    (hline : (apos.endLine == cpos.line) = true := by rfl) (hst : ∀ i, starEach (e :: []) (X i).env = (false, eval e (X i).env) :: starEach [] (X i).env := by intro _; rfl)
    (hs : ∀ i, swapsWith (.Call (.Attribute (.Name x p) "extend" apos) [e] [] cpos) none pos.line (X i).env = pure false := by intro _; rfl) :
    DS X G W (.Expr (.Call (.Attribute (.Name x p) "extend" apos) [e] [] cpos) pos) (sExtO j fe) := by
  obtain ⟨te, pe, le⟩ := he
  refine ⟨tDrop (tBM G.K "list" rExtend (tVar j) (tCons te tNil)), fun i => ps_expr (by rw [← F.K i]; exact pe_bm PySem.F.plainAttrs_list PySem.F.slot_list_extend PySem.F.type_list_extend mt_extend (pe_var (hN i) (hv i) hd hcd) (pa_cons (pe i) pa_nil (hst i)) (hbase i) (hfew i) hline (hst i) rfl) (hs i), fun Fg O ρ σ H D r h => ?_⟩
  unfold sExtO at h
  cases e0 : ownAt ρ j with
  | none => rw [e0] at h; exact h.elim
  | some xs0 =>
    rw [e0] at h
    obtain ⟨a, vs0, m0, h1, h2, _⟩ := r.own j xs0 (ownAt_ok e0)
    refine ⟨_, h1, .inl ⟨rfl, vs0, .inl (.inl h2)⟩, le Fg O ρ σ H _ r ((SPo.out h).imp fun d ρ1 H1 e1 r1 k1 v rv => ?_)⟩
    cases e2 : ownAt ρ1 j with
    | none => rw [e2] at k1; exact k1.elim
    | some xs =>
      rw [e2] at k1
      obtain ⟨a', vs, m1, hσ, h3, h4⟩ := r1.own j xs (ownAt_ok e2)
      obtain rfl : a = a' := r1.key j a a' m0 m1
      cases d with
      | list ds =>
        have k1 : SPo G W Fg O H1 D (if xs.length + ds.length ≤ sizeLine then Out.nx (ρ1.set j (.o (xs ++ ds))) else .no) := k1
        by_cases hl : xs.length + ds.length ≤ sizeLine
        · rw [if_pos hl] at k1
          have hj : j < ρ1.length := r1.own_at (ownAt_ok e2)
          obtain ⟨b, us, rfl, g1, g2, g3⟩ := rep_list rv
          exact ⟨a, b, vs, us, rfl, rfl, h3, g1, by rw [h4.length, g3.length]; exact hl, k1 O σ _ (Ext.evo (ext_put h3 (R.in_adr m1))) (r1.put m1 h3 hj hσ (h4.append g3))⟩
        · rw [if_neg hl] at k1; exact k1.elim
      | _ => exact k1.elim
def ePopAt (j : Nat) (fe : RS → Rs PyData) : RS → Rs PyData := fun ρ => match ownAt ρ j with
  | none => .no
  | some _ => (fe ρ).bind fun d ρ1 => match ownAt ρ1 j with
    | none => .no
    | some xs => (match d with
      | .int n => (match ixN xs.length n with
        | some m => (match xs[m]? with
          | some y => if in62 n then .ok y (ρ1.set j (.o (xs.eraseIdx m))) else .no
          | none => .no)
        | none => .no)
      | _ => .no)
theorem de_popAt (j : Nat) {x : Str} {p apos cpos : Pos} {e : Expr} {fe : RS → Rs PyData} (F : Fam X G W k) (hN : ∀ i, (X i).N[j]? = some x) (hv : ∀ i, Vis (X i).env.scope x) (he : DE X G W e fe) (hd : (x == ("__debug__" : Str)) = false := by decide) (hcd : (x == ("__classdict__" : Str)) = false := by decide)
    (hbase : ∀ i, attributeBase (.Name x p) "pop" (X i).env (eval (.Name x p) (X i).env) = eval (.Name x p) (X i).env := by intro _; rfl)
    (hfew : ∀ i, ((backTo cpos (starEach (e :: []) (X i).env)).all (fun x => !x.1) && (backToKw cpos (keywordEach [] (X i).env)).all (fun x => x.1.isSome) && decide ((e :: []).length + ([] : List Keyword).length + (if ([] : List Keyword).isEmpty then 0 else 1) < 30)) = true := by intro _; rfl)
    (hline : (apos.endLine == cpos.line) = true := by rfl) (hst : ∀ i, starEach (e :: []) (X i).env = (false, eval e (X i).env) :: starEach [] (X i).env := by intro _; rfl) :
    DE X G W (.Call (.Attribute (.Name x p) "pop" apos) [e] [] cpos) (ePopAt j fe) := by
  obtain ⟨te, pe, le⟩ := he
  refine ⟨tBM G.K "list" rPopAt (tVar j) (tCons te tNil), fun i => by rw [← F.K i]; exact pe_bm PySem.F.plainAttrs_list PySem.F.slot_list_pop PySem.F.type_list_pop mt_popAt (pe_var (hN i) (hv i) hd hcd) (pa_cons (pe i) pa_nil (hst i)) (hbase i) (hfew i) hline (hst i) rfl, fun Fg O ρ σ H Q r h => ?_⟩
  unfold ePopAt at h
  cases e0 : ownAt ρ j with
  | none => rw [e0] at h; exact h.elim
  | some xs0 =>
    rw [e0] at h
    obtain ⟨a, vs0, m0, h1, h2, _⟩ := r.own j xs0 (ownAt_ok e0)
    refine ⟨_, h1, .inl ⟨rfl, vs0, .inl (.inl h2)⟩, le Fg O ρ σ H _ r ((GP.bind h).imp fun d ρ1 H1 e1 r1 k1 v rv => ?_)⟩
    cases e2 : ownAt ρ1 j with
    | none => rw [e2] at k1; exact k1.elim
    | some xs =>
      rw [e2] at k1
      obtain ⟨a', vs, m1, hσ, h3, h4⟩ := r1.own j xs (ownAt_ok e2)
      obtain rfl : a = a' := r1.key j a a' m0 m1
      cases d with
      | int n =>
        have k1 : GP G W Fg O σ _ H1 (match ixN xs.length n with
          | some m => (match xs[m]? with
            | some y => if in62 n then .ok y (ρ1.set j (.o (xs.eraseIdx m))) else .no
            | none => .no)
          | none => .no) := k1
        cases e3 : ixN xs.length n with
        | none => rw [e3] at k1; exact k1.elim
        | some m =>
          rw [e3] at k1
          have k1 : GP G W Fg O σ _ H1 (match xs[m]? with
            | some y => if in62 n then .ok y (ρ1.set j (.o (xs.eraseIdx m))) else .no
            | none => .no) := k1
          cases e4 : xs[m]? with
          | none => rw [e4] at k1; exact k1.elim
          | some y =>
            rw [e4] at k1
            have k1 : GP G W Fg O σ _ H1 (if in62 n then .ok y (ρ1.set j (.o (xs.eraseIdx m))) else .no) := k1
            by_cases hb : in62 n = true
            · rw [if_pos hb] at k1
              obtain ⟨b1, b2⟩ := in62_ok hb
              obtain ⟨w, g1, g2⟩ := h4.get e4
              have ep := ext_put (u := .lst (vs.eraseIdx m)) h3 (R.in_adr m1)
              have hj : j < ρ1.length := r1.own_at (ownAt_ok e2)
              obtain rfl := rep_int rv
              exact ⟨a, vs, n, m, w, rfl, rfl, h3, by omega, by omega, by rw [h4.length]; exact (ixN_seq e3).1, g1, k1 _ ep (r1.put m1 h3 hj hσ (h4.eraseIdx m)) w (g2.ext (fun a m => .inl (List.mem_append_left _ m)) ep fun _ m => .inl m)⟩
            · rw [if_neg hb] at k1; exact k1.elim
      | _ => exact k1.elim
end
end DL

-- text DL18
set_option Elab.async false
set_option linter.all false
set_option maxRecDepth 100000
set_option maxHeartbeats 2000000
namespace DL
open PySem PySem.Spec PyProof.Rows L2 GxR
/-! ### a table of bools: [[False] * n for _ in range(n)], then found[a][b] = True for each way -/
def setM (m : List (List Bool)) (a b : Nat) : List (List Bool) := m.set a ((m.getD a []).set b true)
def tabN : Int → Option Nat
  | .ofNat n => if Nat.ble n 1000 then some n else none
  | _ => none
theorem tabN_ok {i : Int} {n : Nat} (h : tabN i = some n) : i = n ∧ n ≤ 1000 := by
  cases i with
  | ofNat m =>
    have h : (if Nat.ble m 1000 = true then some m else none) = some n := h
    by_cases c : Nat.ble m 1000 = true
    · rw [if_pos c] at h
      obtain rfl := Option.some.inj h
      exact ⟨rfl, Nat.le_of_ble_eq_true c⟩
    · rw [if_neg c] at h
      cases h
  | negSucc m => cases h
/-- a way's two places, below n -/
def wayAt (n : Nat) : PyData → Option (Nat × Nat)
  | .tuple [.int (.ofNat a), .int (.ofNat b)] => if Nat.blt a n && Nat.blt b n then some (a, b) else none
  | _ => none
theorem wayAt_ok {n : Nat} {d : PyData} {p : Nat × Nat} (h : wayAt n d = some p) : d = .tuple [.int p.1, .int p.2] ∧ p.1 < n ∧ p.2 < n := by
  unfold wayAt at h
  split at h
  · split at h
    · rename_i c
      cases h
      rw [Bool.and_eq_true] at c
      exact ⟨rfl, Nat.le_of_ble_eq_true c.1, Nat.le_of_ble_eq_true c.2⟩
    · cases h
  · cases h
def tabL (n : Nat) : List PyData → List (List Bool) → Option (List (List Bool))
  | [], m => some m
  | w :: ws, m => (wayAt n w).bind fun p => tabL n ws (setM m p.1 p.2)
def tabD (m : List (List Bool)) : PyData := .list (m.map fun row => .list (row.map .bool))
def tabF : PyData → Option PyData
  | .tuple [.int i, .tuple ws] => (tabN i).bind fun n => (tabL n ws (List.replicate n (List.replicate n false))).map tabD
  | _ => none
theorem setM_len (m : List (List Bool)) (a b : Nat) : (setM m a b).length = m.length := by simp [setM]
theorem setM_row {n : Nat} {m : List (List Bool)} (h : ∀ r ∈ m, r.length = n) (a b : Nat) (ha : a < m.length) : ∀ r ∈ setM m a b, r.length = n := fun r hr => by
  unfold setM at hr
  rcases List.mem_or_eq_of_mem_set hr with h1 | h1
  · exact h r h1
  · rw [h1, List.length_set, List.getD_eq_getElem?_getD, List.getElem?_eq_getElem ha]
    exact h _ (List.getElem_mem ha)
/-- the table's rows stand at as -/
structure MatAt (H : Hp) (D : Addr) (as : List Addr) (m : List (List Bool)) : Prop where
  top : H D = some (.lst (as.map V.ref))
  len : as.length = m.length
  nd : (D :: as).Nodup
  row : ∀ (i : Nat) (a : Addr) (r : List Bool), as[i]? = some a → m[i]? = some r → H a = some (.lst (r.map V.bl))
theorem MatAt.at {H H' : Hp} {D : Addr} {as : List Addr} {m : List (List Bool)} (M : MatAt H D as m) (h : ∀ a ∈ D :: as, ∀ xs, H a = some (.lst xs) → H' a = some (.lst xs)) : MatAt H' D as m :=
  ⟨h D List.mem_cons_self _ M.top, M.len, M.nd, fun i a r e1 e2 => h a (List.mem_cons_of_mem _ (List.mem_of_getElem? e1)) _ (M.row i a r e1 e2)⟩
theorem MatAt.put {H : Hp} {D : Addr} {as : List Addr} {m : List (List Bool)} (M : MatAt H D as m) {a b : Nat} {p : Addr} (hp : as[a]? = some p) : MatAt (upd H p (.lst (((m.getD a []).map V.bl).set b (.bl true)))) D as (setM m a b) := by
  have hm : p ∈ as := List.mem_of_getElem? hp
  have hD : D ≠ p := fun z => (List.nodup_cons.mp M.nd).1 (by rw [z]; exact hm)
  have ha : a < m.length := by rw [← M.len]; exact (List.getElem?_eq_some_iff.mp hp).1
  refine ⟨by rw [upd_ne hD]; exact M.top, by rw [setM_len]; exact M.len, M.nd, fun i q r e1 e2 => ?_⟩
  by_cases hi : i = a
  · subst hi
    rw [hp] at e1
    cases e1
    unfold setM at e2
    rw [List.getElem?_set_self ha] at e2
    cases e2
    rw [upd_same, List.map_set]
  · have hq : q ≠ p := fun z => by
      subst z
      have nd := (List.nodup_cons.mp M.nd).2
      have h1 := (List.getElem?_eq_some_iff.mp hp)
      have h2 := (List.getElem?_eq_some_iff.mp e1)
      obtain ⟨l1, g1⟩ := h1
      obtain ⟨l2, g2⟩ := h2
      have pw := List.pairwise_iff_getElem.mp nd
      rcases Nat.lt_or_gt_of_ne hi with z | z
      · exact pw i a l2 l1 z (g2.trans g1.symm)
      · exact pw a i l1 l2 z (g1.trans g2.symm)
    unfold setM at e2
    rw [List.getElem?_set_ne (Ne.symm hi)] at e2
    rw [upd_ne hq]
    exact M.row i q r e1 e2
theorem bools_rep {K : PySem.W.Frag} {A : List Addr} {H : Hp} : ∀ r : List Bool, RepAll K A H (r.map V.bl) (r.map PyData.bool)
  | [] => .nil
  | b :: r => .cons (.bl b) (bools_rep r)
theorem rows_rep {K : PySem.W.Frag} {A : List Addr} {H : Hp} : ∀ (as : List Addr) (m : List (List Bool)), as.length = m.length → (∀ a ∈ as, a ∉ A) → (∀ (i : Nat) (a : Addr) (r : List Bool), as[i]? = some a → m[i]? = some r → H a = some (.lst (r.map V.bl))) →
    RepAll K A H (as.map V.ref) (m.map fun row => .list (row.map .bool))
  | [], [], _, _, _ => .nil
  | [], _ :: _, h, _, _ => by simp at h
  | _ :: _, [], h, _, _ => by simp at h
  | a :: as, r :: m, h, hA, hr => .cons (.lst (hr 0 a r rfl rfl) (hA a List.mem_cons_self) (bools_rep r)) (rows_rep as m (by simpa using h) (fun b hb => hA b (List.mem_cons_of_mem _ hb)) fun i b s e1 e2 => hr (i + 1) b s (by simpa using e1) (by simpa using e2))
theorem MatAt.rep {K : PySem.W.Frag} {A : List Addr} {H : Hp} {D : Addr} {as : List Addr} {m : List (List Bool)} (M : MatAt H D as m) (hA : ∀ a ∈ D :: as, a ∉ A) : Rep K A H (.ref D) (tabD m) :=
  .lst M.top (hA D List.mem_cons_self) (rows_rep as m M.len (fun a ha => hA a (List.mem_cons_of_mem _ ha)) M.row)
theorem wipe_get {σ : L2.St} {i : Nat} : ∀ {ws : List Nat}, i ∉ ws → (wipe σ ws)[i]? = σ[i]?
  | [], _ => rfl
  | v :: ws, h => by
    show ((wipe σ ws).set v none)[i]? = _
    rw [List.getElem?_set_ne (fun z => h (by rw [z]; exact List.mem_cons_self)), wipe_get fun m => h (List.mem_cons_of_mem _ m)]
theorem R.fewerFg {G : DL.Ctx} {Fg Fg' : List Addr} {O : Own} {ρ : RS} {σ : L2.St} {H : Hp} (r : R G Fg' O ρ σ H) (h : ∀ a ∈ Fg, a ∈ Fg') : R G Fg O ρ σ H := by
  have g : ∀ b ∈ adr O ++ Fg, b ∈ adr O ++ Fg' := fun b m => by
    rcases List.mem_append.mp m with z | z
    · exact List.mem_append_left _ z
    · exact List.mem_append_right _ (h b z)
  refine ⟨r.len, fun i x q => ?_, fun i xs q => ?_, r.key, r.inj, fun p hp m => r.fg p hp (h _ m), r.occ, r.tabs, fun b m => r.all b (g b m), r.raw⟩
  · obtain ⟨v, h1, h2⟩ := r.val i x q
    exact ⟨v, h1, h2.fewer g⟩
  · obtain ⟨b, ws, h1, h2, h3, h4⟩ := r.own i xs q
    exact ⟨b, ws, h1, h2, h3, h4.fewer g⟩
theorem R.blank {G : DL.Ctx} {Fg : List Addr} {O : Own} {ρ : RS} {σ : L2.St} {H : Hp} (r : R G Fg O ρ σ H) (no : ∀ i, NoOwn ρ i) : R G Fg O (List.replicate ρ.length Sl.n) σ H := by
  refine ⟨by rw [List.length_replicate]; exact r.len, fun i x e => ?_, fun i xs e => ?_, r.key, r.inj, r.fg, fun i a m => ?_, r.tabs, r.all, fun i p e => (by have := (List.mem_replicate.mp (List.mem_of_getElem? e)).2; cases this)⟩
  · have := (List.mem_replicate.mp (List.mem_of_getElem? e)).2
    cases this
  · have := (List.mem_replicate.mp (List.mem_of_getElem? e)).2
    cases this
  · obtain ⟨xs, e⟩ := r.occ i a m
    exact (no i xs e).elim
section
variable {ι : Type} {X : ι → Cx} {G : DL.Ctx} {W : WX} {k : Nat} {pos : Pos}
/-- the state of table_of: the net, nothing else known -/
def stT (net : PyData) (s2 s3 : Sl) : RS := [.d net, .n, s2, s3, .n]
def sTab : RS → Out := fun ρ => match ρ with
  | [.d net, .n, .n, .n, .n] => (match tabF net with
    | some d => .rto d [.n, .n, .n, .n, .n]
    | none => .no)
  | _ => .no
abbrev fN : RS → Rs PyData := eBin gIx (eVar 0) (eC (.int 0))
abbrev fW : RS → Rs PyData := eBin gIx (eVar 0) (eC (.int 1))
theorem fW_ok (i : Int) (ws : List PyData) (s2 s3 s4 : Sl) : iSeq fW [.d (.tuple [.int i, .tuple ws]), .n, s2, s3, s4] = .ok ws [.d (.tuple [.int i, .tuple ws]), .n, s2, s3, s4] := rfl
theorem fN_ok (i : Int) (ws : List PyData) (s2 s3 s4 : Sl) : fN [.d (.tuple [.int i, .tuple ws]), .n, s2, s3, s4] = .ok (.int i) [.d (.tuple [.int i, .tuple ws]), .n, s2, s3, s4] := rfl
theorem in62_nat {n : Nat} (h : n ≤ 1000) : in62 (n : Int) = true := Nat.ble_eq_true_of_le (by omega)
theorem fR_ok {n : Nat} (hn : n ≤ 1000) (ws : List PyData) (s2 s3 s4 : Sl) : iRng rng1 (aConsD fN aNilD) [.d (.tuple [.int n, .tuple ws]), .n, s2, s3, s4] = .ok (rngD 0 n) [.d (.tuple [.int n, .tuple ws]), .n, s2, s3, s4] := by
  have e : rng1 [.int (n : Int)] = some (rngD 0 n) := if_pos (in62_nat hn)
  show Rs.of (rng1 [.int (n : Int)]) _ = _
  rw [e]
  rfl
theorem gp_at {α : Type} {W : WX} {Fg : List Addr} {O : Own} {σ : L2.St} {H : Hp} {K : α → RS → Hp → Prop} {r : Rs α} (a : α) (ρ : RS) (h : r = .ok a ρ) (k : ∀ H', Ext (adr O) H H' → R G Fg O ρ σ H' → K a ρ H') : GP G W Fg O σ K H r := by
  subst h; exact k
theorem setWay {n : Nat} {x : PyData} {p : Nat × Nat} (h : wayAt n x = some p) {net : PyData} {s2 s3 : Sl} (h2 : s2 = .n ∨ ∃ d, s2 = .d d) (h3 : s3 = .n ∨ ∃ d, s3 = .d d) :
    setTup 2 (setCons (setD 2) (setCons (setD 3) setNil)) x (stT net s2 s3) = some (stT net (.d (.int p.1)) (.d (.int p.2))) := by
  obtain ⟨rfl, _, _⟩ := wayAt_ok h
  rcases h2 with rfl | ⟨d, rfl⟩ <;> rcases h3 with rfl | ⟨e, rfl⟩ <;> rfl
theorem repl_one {α : Type} : ∀ (n : Nat) (x : α), (List.replicate n [x]).flatten = List.replicate n x
  | 0, _ => rfl
  | n + 1, x => by rw [List.replicate_succ, List.flatten_cons, repl_one n x, List.replicate_succ]; rfl
theorem dss_tab {y one other : Str} {py po pt2 pr p1 p2 p3 spos lpos epos lp fpos apos rpos tpos : Pos} {jc jt : Nat} {kk : Nat} {tg iter n0 iter2 : Expr} {scope : Scope} {own : List (Str × Nat)}
    (F : Fam X G W k) (hp : ∀ i, PassesOwn (model (X i).prog (X i).w) (X i).A (X i).env (X i).xe) (hown : own.map (·.2) = [4])
    (hy : ∀ i, (X i).N[1]? = some y) (hyl : ∀ i, (X i).env.scope.names.lookup y = some .local) (h2 : ∀ i, (X i).N[2]? = some one) (h3 : ∀ i, (X i).N[3]? = some other)
    (hsw : ∀ i, swapsWith (.ListComp (.BinOp (.List [.Constant (.bool false) jc lp] lpos) .Mult n0 epos) [⟨tg, iter, [], 0⟩] scope pos) (some (.Name y py)) spos.line (X i).env = pure true)
    (hi : DI X G W tg iter (iRng rng1 (aConsD fN aNilD))) (ok : ∀ i, BlkOk (X i).N (X i).env.scope scope own) (hg : DG (Bx X scope) G tg [4] (setD 4)) (he : DE (Bx X scope) G W0 n0 fN)
    (hi2 : DI X G W (.Tuple [.Name one po, .Name other pt2] kk tpos) iter2 (iSeq fW)) (hg2 : DG X G (.Tuple [.Name one po, .Name other pt2] kk tpos) [2, 3] (setTup 2 (setCons (setD 2) (setCons (setD 3) setNil))))
    (v1 : ∀ i, Vis (X i).env.scope y) (v2 : ∀ i, Vis (X i).env.scope one) (v3 : ∀ i, Vis (X i).env.scope other)
    (dy : (y == ("__debug__" : Str)) = false := by decide) (cy : (y == ("__classdict__" : Str)) = false := by decide) (d1 : (one == ("__debug__" : Str)) = false := by decide) (c1 : (one == ("__classdict__" : Str)) = false := by decide) (d2 : (other == ("__debug__" : Str)) = false := by decide) (c2 : (other == ("__classdict__" : Str)) = false := by decide)
    (hs : ∀ i x, foldedSetIterable iter (X i).env x = pure x := by intro _ _; rfl) (hs2 : ∀ i x, foldedSetIterable iter2 (X i).env x = pure x := by intro _ _; rfl)
    (ha : ∀ i v, assign (.Subscript (.Subscript (.Name y p1) (.Name one p2) rpos) (.Name other p3) fpos) (X i).env v = (do
      let ov ← holding [v] (eval (.Subscript (.Name y p1) (.Name one p2) rpos) (X i).env)
      let iv ← holding [v, ov] (eval (.Name other p3) (X i).env)
      standAt fpos
      holding [v, ov, iv] (setItem ov iv v)
      release [v, ov, iv] []) := by intro _ _; rfl)
    (hq1 : ∀ i, swapsWithSole [.Subscript (.Subscript (.Name y p1) (.Name one p2) rpos) (.Name other p3) fpos] (.Constant (.bool true) jt apos) pr.line (X i).env = pure false := by intro _; rfl)
    (hq2 : ∀ i, swappedStores [.Subscript (.Subscript (.Name y p1) (.Name one p2) rpos) (.Name other p3) fpos] (.Constant (.bool true) jt apos) (X i).env = pure none := by intro _; rfl)
    (hq3 : ∀ i, (assignEach [.Subscript (.Subscript (.Name y p1) (.Name one p2) rpos) (.Name other p3) fpos] (X i).env).map (·.2) = [assign (.Subscript (.Subscript (.Name y p1) (.Name one p2) rpos) (.Name other p3) fpos) (X i).env] := by intro _; rfl)
    {rp rq fp2 : Pos} :
    DSs X G W [.Assign [.Name y py] (.ListComp (.BinOp (.List [.Constant (.bool false) jc lp] lpos) .Mult n0 epos) [⟨tg, iter, [], 0⟩] scope pos) spos,
      .For (.Tuple [.Name one po, .Name other pt2] kk tpos) iter2 [.Assign [.Subscript (.Subscript (.Name y p1) (.Name one p2) rpos) (.Name other p3) fpos] (.Constant (.bool true) jt apos) pr] [] fp2,
      .Return (some (.Name y rp)) rq] sTab := by
  obtain ⟨wi, pi, li⟩ := hi
  obtain ⟨gt, pg, lg⟩ := hg
  obtain ⟨t0, pe, le⟩ := he
  obtain ⟨wi2, pi2, li2⟩ := hi2
  obtain ⟨gt2, pg2, lg2⟩ := hg2
  refine ⟨_, fun i => pss_cons (ps_setLc (F.calm i) (F.nd i) (hy i) (hyl i) (hsw i) (pi i) (ok i) (fun s H C cl fp => pg (i, s, H, C, cl, fp)) (fun s H C cl fp => pts_nil) (fun s H C cl fp => pe_op op_rep (pe_lst (pa_cons pe_bl pa_nil)) (pe (i, s, H, C, cl, fp))) (hs i))
    (pss_cons (ps_for (hp i) (F.calm i) (pi2 i) (pg2 i) (pss_one (ps_asg pe_bl (pg_sub (pe_ix (or_ix (F.K i)) (pe_var (hy i) (v1 i) dy cy) (pe_var (h2 i) (v2 i) d1 c1) (by intro _ _; rfl)) (pe_var (h3 i) (v3 i) d2 c2) set_list (ha i)) (hq1 i) (hq2 i) (hq3 i))) (hs2 i))
    (pss_one (ps_ret (pe_var (hy i) (v1 i) dy cy)))), fun Fg O ρ σ H D r h => ?_⟩
  unfold sTab at h
  split at h
  case h_2 => exact h.elim
  rename_i net
  cases e : tabF net with
  | none => rw [e] at h; exact h.elim
  | some d =>
    rw [e] at h
    obtain ⟨n, ws, m, rfl, hn, hm, rfl⟩ : ∃ n ws m, net = .tuple [.int (n : Nat), .tuple ws] ∧ n ≤ 1000 ∧ tabL n ws (List.replicate n (List.replicate n false)) = some m ∧ d = tabD m := by
      unfold tabF at e
      split at e
      · obtain ⟨n, e1, e2⟩ := Option.bind_eq_some_iff.mp e
        obtain ⟨m, e3, e4⟩ := Option.map_eq_some_iff.mp e2
        obtain ⟨rfl, hn⟩ := tabN_ok e1
        exact ⟨n, _, m, rfl, hn, e3, e4.symm⟩
      · cases e
    have h : ∀ O' σ' v H', Evo O H O' H' → R G Fg O' [.n, .n, .n, .n, .n] σ' H' → Rep G.K Fg H' v (tabD m) → D.rt v H' := h
    -- the rows
    refine li Fg O _ σ H _ r (gp_at _ _ (fR_ok hn ws .n .n .n) fun H1 e1 r1 J wd => ?_)
    intro Dd hD
    rw [hown]
    have nD : Dd ∉ adr O ++ Fg := fresh_not r1.all hD
    have c62 : (rngD 0 (n : Int)).length = n := by simp [rngD]
    refine ⟨fun i m H2 => m = n - i ∧ i ≤ n ∧ ∃ as : List Addr, as.length = i ∧ (Dd :: as).Nodup ∧ (∀ a ∈ Dd :: as, H1 a = none) ∧ R G (as ++ Dd :: Fg) O (stT (.tuple [.int (n : Nat), .tuple ws]) .n .n) (wipe σ [4]) H2 ∧ H2 Dd = some (.lst (as.map V.ref)) ∧
        (∀ a ∈ as, H2 a = some (.lst ((List.replicate n false).map V.bl))) ∧ Ext (Dd :: adr O) H1 H2, ⟨n, by simp, Nat.zero_le _, [], rfl, by simp, by simpa using hD, ?_, upd_same, by simp, ext_new hD⟩, fun i m H2 hW => ?_⟩
    · exact (r1.more hD).wipe [4] (by intro i hi xs; rw [List.mem_singleton.mp hi]; simp)
    obtain ⟨rfl, hi, as, has, nd, fr, r2, hD2, hrows, e2⟩ := hW
    have sub2 : ∀ a ∈ adr O ++ (as ++ Dd :: Fg), a ∈ adr O ++ Fg ∨ H1 a = none := fun a m => by
      rcases List.mem_append.mp m with z | z
      · exact .inl (List.mem_append_left _ z)
      · rcases List.mem_append.mp z with z | z
        · exact .inr (fr a (List.mem_cons_of_mem _ z))
        · rcases List.mem_cons.mp z with z | z
          · rw [z]; exact .inr hD
          · exact .inl (List.mem_append_right _ z)
    obtain ⟨w1, w2⟩ := wd (Dd :: adr O) (adr O ++ (as ++ Dd :: Fg)) H2 e2 (fun a m => by
      rcases List.mem_cons.mp m with z | z
      · rw [z]; exact .inr hD
      · exact .inl (List.mem_append_left _ z)) sub2 i
    by_cases hlt : i < n
    · -- one more row
      have hgi : (rngD 0 (n : Int))[i]? = some (rngD 0 (n : Int))[i] := List.getElem?_eq_getElem (by rw [c62]; exact hlt)
      obtain ⟨go, yl⟩ := w1 _ hgi
      refine .inr ⟨go, fun H' => (fun i m H2 => m = n - i ∧ i ≤ n ∧ ∃ as : List Addr, as.length = i ∧ (Dd :: as).Nodup ∧ (∀ a ∈ Dd :: as, H1 a = none) ∧ R G (as ++ Dd :: Fg) O (stT (.tuple [.int (n : Nat), .tuple ws]) .n .n) (wipe σ [4]) H2 ∧ H2 Dd = some (.lst (as.map V.ref)) ∧
        (∀ a ∈ as, H2 a = some (.lst ((List.replicate n false).map V.bl))) ∧ Ext (Dd :: adr O) H1 H2) (i + 1) (n - (i + 1)) H', fun H' w => ⟨_, by omega, w⟩, fun x H3 y3 => ?_⟩
      obtain ⟨e3, rx⟩ := yl x H3 y3
      generalize (rngD 0 (n : Int))[i] = di at rx
      refine lg (as ++ Dd :: Fg) O _ (wipe σ [4]) H3 x di (stT (.tuple [.int (n : Nat), .tuple ws]) .n .n |>.set 4 (.d di)) _ (r2.ext0 e3) rx rfl fun σ3 r3 hw3 => ?_
      have hw : wipe σ3 [4] = wipe σ [4] := (hw3 [4] (by simp)).trans (wipe_idem fun _ m => m)
      refine ⟨hw, ?_⟩
      unfold tYes
      simp only [↓reduceIte]
      refine ⟨by show 1 ≤ sizeLine; decide, fun p hp => ?_⟩
      have ep : Ext [] H3 (upd H3 p (.lst [V.bl false])) := ext_new hp
      refine le (as ++ Dd :: Fg) O _ σ3 _ _ (r3.ext0 ep) (gp_at _ _ (fN_ok n ws .n .n (.d di)) fun H4 e4 r4 v rv => ?_)
      obtain rfl := rep_int rv
      have np : p ∉ adr O := fun m => fresh_not r3.all hp (List.mem_append_left _ m)
      refine ⟨p, n, [V.bl false], rfl, rfl, e4.keep p _ upd_same (by intro ps z; cases z) (.inl np), by omega, by omega, by rw [sizeLine_eq]; simp; omega, fun q hq => ?_⟩
      have efl : (List.replicate (n : Int).toNat [V.bl false]).flatten = (List.replicate n false).map V.bl := by
        rw [Int.toNat_natCast, List.map_replicate]
        exact repl_one n _
      rw [efl]
      have e34 : Ext (adr O) H2 H4 := ((e3.mono (by simp)).trans' (ep.mono (by simp))).trans' e4
      have eq : Ext [] H4 (upd H4 q (.lst ((List.replicate n false).map V.bl))) := ext_new hq
      have e2q : Ext (adr O) H2 (upd H4 q (.lst ((List.replicate n false).map V.bl))) := e34.trans' (eq.mono (by simp))
      have nO : ∀ a ∈ Dd :: as, a ∉ adr O := fun a m z => by
        obtain ⟨xs, hx⟩ := r1.all a (List.mem_append_left _ z)
        rw [fr a m] at hx; cases hx
      have keep : ∀ a ∈ Dd :: as, ∀ xs, H2 a = some (.lst xs) → upd H4 q (.lst ((List.replicate n false).map V.bl)) a = some (.lst xs) := fun a m xs hx => e2q.keep a _ hx (by intro ps z; cases z) (.inl (nO a m))
      have hD5 := keep Dd List.mem_cons_self _ hD2
      have hq2 : H2 q = none := e34.dom _ hq
      have hq0 : H1 q = none := e2.dom _ hq2
      have hasq : ∀ a ∈ Dd :: as, a ≠ q := fun a m z => by
        subst z
        rcases List.mem_cons.mp m with z | z
        · rw [z, hD2] at hq2; cases hq2
        · rw [hrows a z] at hq2; cases hq2
      have hasD : ∀ a ∈ as, a ≠ Dd := fun a m z => (List.nodup_cons.mp nd).1 (by rw [← z]; exact m)
      have qD : q ≠ Dd := fun z => hasq Dd List.mem_cons_self z.symm
      have epD : Ext [Dd] (upd H4 q (.lst ((List.replicate n false).map V.bl))) (upd (upd H4 q (.lst ((List.replicate n false).map V.bl))) Dd (.lst (as.map V.ref ++ [V.ref q]))) := ext_put hD5 (List.mem_singleton.mpr rfl)
      refine ⟨as.map V.ref, hD5, by rw [List.length_map, has, sizeLine_eq]; omega, trivial, hlt, as ++ [q], by simp [has], ?_, ?_, ?_, ?_, ?_, ?_⟩
      · refine List.nodup_cons.mpr ⟨fun m => ?_, List.nodup_append.mpr ⟨(List.nodup_cons.mp nd).2, by simp, fun a ha b hb => ?_⟩⟩
        · rcases List.mem_append.mp m with z | z
          · exact (List.nodup_cons.mp nd).1 z
          · exact qD (List.mem_singleton.mp z).symm
        · rw [List.mem_singleton.mp hb]
          exact hasq a (List.mem_cons_of_mem _ ha)
      · intro a m
        rcases List.mem_cons.mp m with z | m
        · rw [z]; exact hD
        · rcases List.mem_append.mp m with z | z
          · exact fr a (List.mem_cons_of_mem _ z)
          · rw [List.mem_singleton.mp z]; exact hq0
      · have r5 := (r4.more (vs := (List.replicate n false).map V.bl) hq).memb (Fg' := (as ++ [q]) ++ Dd :: Fg) fun a => by simp [or_comm, or_left_comm, or_assoc]
        have r6 := r5.ext epD (fun a m => by rw [List.mem_singleton.mp m]; simp) fun a m => by rw [List.mem_singleton.mp m]; exact ⟨_, upd_same⟩
        have r7 := r6.wipe [4] (by intro i hi xs; rw [List.mem_singleton.mp hi]; intro z; cases z)
        rw [hw] at r7
        exact r7
      · rw [upd_same, List.map_append]; rfl
      · intro a m
        rcases List.mem_append.mp m with z | z
        · rw [upd_ne (hasD a z)]
          exact keep a (List.mem_cons_of_mem _ z) _ (hrows a z)
        · rw [List.mem_singleton.mp z, upd_ne qD, upd_same]
      · exact (e2.trans' (e2q.mono fun a m => List.mem_cons_of_mem _ m)).trans' (epD.mono (by simp))
    · -- the ways
      have hni : i = n := by omega
      subst hni
      refine .inl ⟨w2 (by rw [c62]; exact Nat.le_refl _), ?_⟩
      have M0 : MatAt H2 Dd as (List.replicate i (List.replicate i false)) := ⟨hD2, by simp [has], nd, fun j a rr g1 g2 => by
        have := List.mem_of_getElem? g2
        rw [(List.mem_replicate.mp this).2]
        exact hrows a (List.mem_of_getElem? g1)⟩
      have r3 : R G (as ++ Dd :: Fg) O (stT (.tuple [.int (i : Nat), .tuple ws]) .n .n) (σ.set 1 (some (.ref Dd))) H2 :=
        (r2.unwipe (vs := [4]) (wipe_idem fun _ m => m) (wipe_length _ _) (by intro i hi xs; rw [List.mem_singleton.mp hi]; intro z; cases z)).unset (i := 1) (v := some (.ref Dd)) (by intro xs z; cases z)
      have hl5 : 1 < σ.length := by rw [r.len]; simp
      have hs1 : (σ.set 1 (some (V.ref Dd)))[1]? = some (some (V.ref Dd)) := by rw [List.getElem?_set_self hl5]
      refine li2 (as ++ Dd :: Fg) O _ (σ.set 1 (some (V.ref Dd))) H2 _ r3 (gp_at _ _ (fW_ok _ ws .n .n .n) fun H3 e3 r4 J2 wd2 => ?_)
      have nO : ∀ a ∈ Dd :: as, a ∉ adr O := fun a m z => by
        obtain ⟨xs, hx⟩ := r1.all a (List.mem_append_left _ z)
        rw [fr a m] at hx; cases hx
      have M1 : MatAt H3 Dd as (List.replicate i (List.replicate i false)) := M0.at fun a m xs hx => e3.keep a _ hx (by intro ps z; cases z) (.inl (nO a m))
      refine ⟨fun q mm σ' H' => mm = ws.length - q ∧ q ≤ ws.length ∧ ∃ (t : List (List Bool)) (s2 s3 : Sl), tabL i (ws.drop q) t = some m ∧ t.length = i ∧ (∀ rr ∈ t, rr.length = i) ∧ MatAt H' Dd as t ∧ (s2 = .n ∨ ∃ d, s2 = .d d) ∧ (s3 = .n ∨ ∃ d, s3 = .d d) ∧
          R G (as ++ Dd :: Fg) O (stT (.tuple [.int (i : Nat), .tuple ws]) s2 s3) σ' H' ∧ σ'[1]? = some (some (V.ref Dd)) ∧ Ext (as ++ adr O) H3 H',
        ⟨ws.length, by simp, Nat.zero_le _, _, .n, .n, hm, by simp, fun rr h => by rw [(List.mem_replicate.mp h).2]; simp, M1, .inl rfl, .inl rfl, r4, hs1, .refl⟩, fun q mm σ2 H4 hW => ?_⟩
      obtain ⟨rfl, hq, t, s2, s3, ht, tl, tr, M, hs2, hs3, r5, g1, e4⟩ := hW
      obtain ⟨w3, w4⟩ := wd2 (as ++ adr O) (adr O ++ (as ++ Dd :: Fg)) H4 e4 (fun a m => .inl (by
        rcases List.mem_append.mp m with z | z
        · exact List.mem_append_right _ (List.mem_append_left _ z)
        · exact List.mem_append_left _ z)) (fun a m => .inl m) q
      by_cases hlt2 : q < ws.length
      · obtain ⟨go, yl⟩ := w3 ws[q] (List.getElem?_eq_getElem hlt2)
        rw [drop_get hlt2] at ht
        obtain ⟨p, hp1, hp2⟩ := Option.bind_eq_some_iff.mp ht
        obtain ⟨hwq, hpa, hpb⟩ := wayAt_ok hp1
        refine .inr ⟨go, fun σ' H' => (fun q mm σ' H' => mm = ws.length - q ∧ q ≤ ws.length ∧ ∃ (t : List (List Bool)) (s2 s3 : Sl), tabL i (ws.drop q) t = some m ∧ t.length = i ∧ (∀ rr ∈ t, rr.length = i) ∧ MatAt H' Dd as t ∧ (s2 = .n ∨ ∃ d, s2 = .d d) ∧ (s3 = .n ∨ ∃ d, s3 = .d d) ∧
          R G (as ++ Dd :: Fg) O (stT (.tuple [.int (i : Nat), .tuple ws]) s2 s3) σ' H' ∧ σ'[1]? = some (some (V.ref Dd)) ∧ Ext (as ++ adr O) H3 H') (q + 1) (ws.length - (q + 1)) σ' H', fun σ' H' w => ⟨_, by omega, w⟩, fun x H5 y5 => ?_⟩
        obtain ⟨e5, rx⟩ := yl x H5 y5
        have M5 : MatAt H5 Dd as t := M.at fun a _ xs hx => e5.keep a _ hx (by intro ps z; cases z) (.inl (by simp))
        refine lg2 (as ++ Dd :: Fg) O _ σ2 H5 x ws[q] _ _ (r5.ext0 e5) rx (setWay hp1 hs2 hs3) fun σ3 r6 hw6 => ?_
        have hw7 := hw6 [2, 3] fun j hj => hj
        have g3 : σ3[1]? = some (some (V.ref Dd)) := by
          rw [← g1, ← wipe_get (σ := σ3) (ws := [2, 3]) (i := 1) (by simp), hw7, wipe_get (by simp)]
        obtain ⟨va, ha1, ha2⟩ := r6.val 2 (.int p.1) rfl
        obtain ⟨vb, hb1, hb2⟩ := r6.val 3 (.int p.2) rfl
        obtain rfl := rep_int ha2
        obtain rfl := rep_int hb2
        obtain ⟨pa, hpa'⟩ : ∃ pa, as[p.1]? = some pa := ⟨_, List.getElem?_eq_getElem (by rw [has]; exact hpa)⟩
        obtain ⟨rr, hrr⟩ : ∃ rr, t[p.1]? = some rr := ⟨_, List.getElem?_eq_getElem (by rw [tl]; exact hpa)⟩
        have hrl : rr.length = i := tr _ (List.mem_of_getElem? hrr)
        have hrow := M5.row _ _ _ hpa' hrr
        have egd : t.getD p.1 [] = rr := by rw [List.getD_eq_getElem?_getD, hrr]; rfl
        have ixa : atI (as.map V.ref) (p.1 : Int) = some (V.ref pa) := atI_nat (by rw [List.getElem?_map, hpa']; rfl)
        have ixb : ixN (rr.map V.bl).length (p.2 : Int) = some p.2 := by
          unfold ixN
          rw [List.length_map, hrl, if_pos (by omega), if_pos (by omega)]
          rfl
        refine ⟨_, g3, _, ha1, .inl ⟨Dd, _, _, _, rfl, rfl, .inl (.inl M5.top), ixa, _, hb1, pa, _, _, _, rfl, rfl, hrow, ixb, rfl, hlt2, setM t p.1 p.2, .d (.int p.1), .d (.int p.2), hp2, by rw [setM_len]; exact tl, setM_row tr _ _ (by rw [tl]; exact hpa), ?_, .inr ⟨_, rfl⟩, .inr ⟨_, rfl⟩, ?_, g3, ?_⟩⟩
        · have := M5.put (b := p.2) hpa'
          rw [egd] at this
          exact this
        · refine r6.ext (S := [pa]) (ext_put hrow (List.mem_singleton.mpr rfl)) (fun a m => ?_) fun a m => by obtain rfl := List.mem_singleton.mp m; exact ⟨_, upd_same⟩
          rw [List.mem_singleton.mp m]
          exact List.mem_append_left _ (List.mem_of_getElem? hpa')
        · refine (e4.trans' (e5.mono (by simp))).trans' (ext_put hrow (List.mem_append_left _ (List.mem_of_getElem? hpa')))
      · have hl : ws.length ≤ q := Nat.le_of_not_lt hlt2
        rw [List.drop_of_length_le hl] at ht
        have ht : some t = some m := ht
        cases ht
        refine .inl ⟨w4 hl, _, g1, h O σ2 _ H4 ?_ ?_ (M.rep fun a ha hF => ?_)⟩
        · refine Ext.evo ((e1.trans (O' := Dd :: (as ++ adr O)) ((e2.mono (by
            intro a m
            rcases List.mem_cons.mp m with z | z
            · rw [z]; exact List.mem_cons_self
            · exact List.mem_cons_of_mem _ (List.mem_append_right _ z))).trans' ((e3.mono fun a m => List.mem_cons_of_mem _ (List.mem_append_right _ m)).trans' (e4.mono fun a m => List.mem_cons_of_mem _ m))) fun a m => ?_))
          rcases List.mem_cons.mp m with z | z
          · rw [z]; exact .inr (e1.dom _ hD)
          · rcases List.mem_append.mp z with z | z
            · exact .inr (e1.dom _ (fr a (List.mem_cons_of_mem _ z)))
            · exact .inl z
        · have r7 := (r5.fewerFg (Fg := Fg) fun a m => List.mem_append_right _ (List.mem_cons_of_mem _ m))
          exact r7.blank fun j xs z => by
            rcases hs2 with rfl | ⟨d2, rfl⟩ <;> rcases hs3 with rfl | ⟨d3, rfl⟩ <;>
              (match j, z with
              | 0, z => cases z
              | 1, z => cases z
              | 2, z => cases z
              | 3, z => cases z
              | 4, z => cases z
              | j + 5, z => simp [stT] at z)
        · obtain ⟨xs, hx⟩ := r1.all a (List.mem_append_right _ hF)
          rw [fr a ha] at hx; cases hx
end
end DL

-- text DL19
set_option Elab.async false
set_option linter.all false
set_option maxRecDepth 100000
set_option maxHeartbeats 2000000
namespace DL
open PySem PySem.Spec PyProof.Rows L2 GxR
section
variable {ι : Type} {X : ι → Cx} {G : DL.Ctx} {W : WX} {k : Nat} {pos : Pos}
/-! ### a, b, c = x, y, z -/
def sPar3 (i j l : Nat) (fs : RS → Rs (List PyData)) : RS → Out := fun ρ => (fs ρ).out fun ds ρ1 => match ds with
  | [x, y, z] => sOpt (((setD i x ρ1).bind (setD j y)).bind (setD l z))
  | _ => .no
theorem ds_par3 {j j2 j3 : Nat} {x y z : Str} {a b c : Expr} {fs : RS → Rs (List PyData)} {px py pz pt : Pos} {kt k2 pt2} (F : Fam X G W k) (hi : ∀ i, (X i).N[j]? = some x) (hj : ∀ i, (X i).N[j2]? = some y) (hl : ∀ i, (X i).N[j3]? = some z) (hij : j ≠ j2) (hil : j ≠ j3) (hjl : j2 ≠ j3)
    (hx : ∀ i, (X i).env.scope.names.lookup x = some .local) (hy : ∀ i, (X i).env.scope.names.lookup y = some .local) (hz : ∀ i, (X i).env.scope.names.lookup z = some .local) (ha : DA X G W [a, b, c] fs)
    (hw : ∀ i, swappedStores [.Tuple [.Name x px, .Name y py, .Name z pz] kt pt] (.Tuple [a, b, c] k2 pt2) (X i).env = pure (some [x, y, z]) := by intro _; rfl) (hs : ∀ i, swapsWithSole [.Tuple [.Name x px, .Name y py, .Name z pz] kt pt] (.Tuple [a, b, c] k2 pt2) pos.line (X i).env = pure false := by intro _; rfl) :
    DS X G W (.Assign [.Tuple [.Name x px, .Name y py, .Name z pz] kt pt] (.Tuple [a, b, c] k2 pt2) pos) (sPar3 j j2 j3 fs) := by
  obtain ⟨t, p, l⟩ := ha
  refine ⟨_, fun i => ps_par3 (F.calm i) (F.nd i) (hi i) (hj i) (hl i) hij hil hjl (hx i) (hy i) (hz i) (p i) (hw i) (hs i), fun Fg O ρ σ H D r h => l Fg O ρ σ H _ r ((SPo.out h).imp fun ds ρ1 H1 e1 r1 k vs rv => ?_)⟩
  match ds, vs, rv with
  | [], _, _ => exact k.elim
  | [_], _, _ => exact k.elim
  | [_, _], _, _ => exact k.elim
  | _ :: _ :: _ :: _ :: _, _, _ => exact k.elim
  | [d1, d2, d3], [v1, v2, v3], .cons q1 (.cons q2 (.cons q3 .nil)) =>
    refine ⟨v1, v2, v3, rfl, ?_⟩
    have k : SPo G W Fg O H1 D (sOpt (((setD j d1 ρ1).bind (setD j2 d2)).bind (setD j3 d3))) := k
    cases z : ((setD j d1 ρ1).bind (setD j2 d2)).bind (setD j3 d3) with
    | none => rw [z] at k; exact k.elim
    | some ρ2 =>
      rw [z] at k
      obtain ⟨ρb, eab, ec⟩ := Option.bind_eq_some_iff.mp z
      obtain ⟨ρa, ea, eb⟩ := Option.bind_eq_some_iff.mp eab
      obtain ⟨n1, rfl⟩ := setD_ok ea
      obtain ⟨n2, rfl⟩ := setD_ok eb
      obtain ⟨n3, rfl⟩ := setD_ok ec
      exact k O _ H1 .refl (((r1.set n1 q1).set n2 q2).set n3 q3)
/-! ### x = x + e, the list is the slot's own -/
theorem R.drop {Fg : List Addr} {O : Own} {ρ : RS} {σ : L2.St} {H : Hp} (r : R G Fg O ρ σ H) (j : Nat) : R G Fg (O.filter fun q => decide (q.1 ≠ j)) (ρ.set j .n) σ H := by
  have sub : ∀ q ∈ O.filter (fun q => decide (q.1 ≠ j)), q ∈ O ∧ q.1 ≠ j := fun q m => by
    have := List.mem_filter.mp m
    exact ⟨this.1, by simpa using this.2⟩
  have g : ∀ b ∈ adr (O.filter fun q => decide (q.1 ≠ j)) ++ Fg, b ∈ adr O ++ Fg := fun b m => by
    rcases List.mem_append.mp m with z | z
    · obtain ⟨q, hq, rfl⟩ := List.mem_map.mp z
      exact List.mem_append_left _ (List.mem_map.mpr ⟨q, (sub q hq).1, rfl⟩)
    · exact List.mem_append_right _ z
  refine ⟨by simp [r.len], fun i x q => ?_, fun i xs q => ?_, fun i a b m1 m2 => r.key i a b (sub _ m1).1 (sub _ m2).1, fun i l a m1 m2 => r.inj i l a (sub _ m1).1 (sub _ m2).1, fun p hp => r.fg p (sub p hp).1, fun i a m => ?_, r.tabs, fun b m => r.all b (g b m), by first | exact raw_set r.raw (by intro _ z; cases z) | exact raw_put r.raw (by intro _ z; cases z)⟩
  · rcases get_set_d q with ⟨rfl, e⟩ | ⟨hj, e⟩
    · cases e
    · obtain ⟨v, h1, h2⟩ := r.val i x e
      exact ⟨v, h1, h2.fewer g⟩
  · rcases get_set_d q with ⟨rfl, e⟩ | ⟨hj, e⟩
    · cases e
    · obtain ⟨b, ws, h1, h2, h3, h4⟩ := r.own i xs e
      exact ⟨b, ws, List.mem_filter.mpr ⟨h1, by simpa using fun z => hj z.symm⟩, h2, h3, h4.fewer g⟩
  · obtain ⟨m1, hj⟩ := sub _ m
    obtain ⟨xs, e⟩ := r.occ i a m1
    exact ⟨xs, by rw [List.getElem?_set_ne (Ne.symm hj)]; exact e⟩
def sCatO (j : Nat) (fe : RS → Rs PyData) : RS → Out := fun ρ => match ownAt ρ j with
  | none => .no
  | some _ => (fe ρ).out fun d ρ1 => match ownAt ρ1 j with
    | none => .no
    | some xs => (match d with
      | .list ds => if xs.length + ds.length ≤ sizeLine then .nx (ρ1.set j (.o (xs ++ ds))) else .no
      | _ => .no)
theorem ds_catO (j : Nat) {x : Str} {p p' bpos : Pos} {e : Expr} {fe : RS → Rs PyData} (F : Fam X G W k) (h0 : j ≠ 0) (hN : ∀ i, (X i).N[j]? = some x) (hx : ∀ i, Loc (X i).env.scope x) (hf : ∀ i, (X i).fn x = true ∨ (X i).env.scope.names.lookup x = some .local) (hv : ∀ i, Vis (X i).env.scope x) (he : DE X G W e fe) (hd : (x == ("__debug__" : Str)) = false := by decide) (hcd : (x == ("__classdict__" : Str)) = false := by decide)
    (hs : ∀ i, swapsWith (.BinOp (.Name x p) .Add e bpos) (some (.Name x p')) pos.line (X i).env = pure false := by intro _; rfl) : DS X G W (.Assign [.Name x p'] (.BinOp (.Name x p) .Add e bpos) pos) (sCatO j fe) := by
  obtain ⟨te, pe, le⟩ := he
  refine ⟨_, fun i => ps_set (F.nd i) (hN i) (hx i) (pe_op (or_addG (F.K i)) (pe_var (hN i) (hv i) hd hcd) (pe i)) (hs i) (hf i), fun Fg O ρ σ H D r h => ?_⟩
  unfold sCatO at h
  cases e0 : ownAt ρ j with
  | none => rw [e0] at h; exact h.elim
  | some xs0 =>
    rw [e0] at h
    obtain ⟨a, vs0, m0, h1, h2, _⟩ := r.own j xs0 (ownAt_ok e0)
    refine ⟨_, h1, le Fg O ρ σ H _ r ((SPo.out h).imp fun d ρ1 H1 e1 r1 k1 v rv => ?_)⟩
    cases e2 : ownAt ρ1 j with
    | none => rw [e2] at k1; exact k1.elim
    | some xs =>
      rw [e2] at k1
      obtain ⟨a', vs, m1, hσ, h3, h4⟩ := r1.own j xs (ownAt_ok e2)
      obtain rfl : a = a' := r1.key j a a' m0 m1
      cases d with
      | list ds =>
        have k1 : SPo G W Fg O H1 D (if xs.length + ds.length ≤ sizeLine then Out.nx (ρ1.set j (.o (xs ++ ds))) else .no) := k1
        by_cases hl : xs.length + ds.length ≤ sizeLine
        · rw [if_pos hl] at k1
          have hj : j < ρ1.length := r1.own_at (ownAt_ok e2)
          obtain ⟨b, us, rfl, g1, g2, g3⟩ := rep_list rv
          refine .inr (.inr (.inl ⟨a, b, vs, us, rfl, rfl, h3, g1, by rw [h4.length, g3.length]; exact hl, fun q hq => ?_⟩))
          have nF : q ∉ adr O ++ Fg := fresh_not r1.all hq
          have en : Ext [] H1 (upd H1 q (.lst (vs ++ us))) := ext_new hq
          have rx : RepAll G.K (adr O ++ q :: Fg) (upd H1 q (.lst (vs ++ us))) (vs ++ us) (xs ++ ds) := (h4.append g3).ext (O := []) (by simp) en (more_sub hq)
          have r2 := ((r1.more (vs := vs ++ us) hq).drop j).take (xs := xs ++ ds) (fun m => nF (List.mem_append_right _ m)) upd_same (by simpa using hj) (fun ys z => by rw [List.getElem?_set_self hj] at z; cases z) (rx.fewer fun c m => by
            rcases List.mem_append.mp m with z | z
            · obtain ⟨w, hw, rfl⟩ := List.mem_map.mp z
              exact List.mem_append_left _ (List.mem_map.mpr ⟨w, (List.mem_filter.mp hw).1, rfl⟩)
            · exact List.mem_append_right _ z)
          rw [List.set_set] at r2
          refine k1 _ _ _ ⟨en.mono (by simp), fun w m z => ?_, fun w m => ?_⟩ r2
          · exact List.mem_cons_of_mem _ (List.mem_filter.mpr ⟨m, by simp; rw [z]; exact Ne.symm h0⟩)
          · rcases List.mem_cons.mp m with z | z
            · rw [z]; exact .inr hq
            · exact .inl (List.mem_filter.mp z).1
        · rw [if_neg hl] at k1; exact k1.elim
      | _ => exact k1.elim
/-! ### an own list on the left of ==, != -/
def eOpO (g : PyData → PyData → Option PyData) (j : Nat) (fb : RS → Rs PyData) : RS → Rs PyData := fun ρ => match ownAt ρ j with
  | none => .no
  | some _ => (fb ρ).bind fun y ρ1 => match ownAt ρ1 j with
    | none => .no
    | some xs => (match g (.list xs) y with
      | some d => if flatD d then .ok d ρ1 else .no
      | none => .no)
theorem opO_law {tb : TE} {r : R2} {g : PyData → PyData → Option PyData} {j : Nat} {fb : RS → Rs PyData} (lb : ∀ Fg O ρ σ H Q, R G Fg O ρ σ H → GP G W Fg O σ (fun d _ H' => ∀ v, Rep G.K (adr O ++ Fg) H' v d → Q v H') H (fb ρ) → tb σ H Q) (od : OpD G r g)
    {Fg : List Addr} {O : Own} {ρ : RS} {σ : L2.St} {H : Hp} {Q : VK} (r0 : R G Fg O ρ σ H) (h : GP G W Fg O σ (fun d _ H' => ∀ v, Rep G.K (adr O ++ Fg) H' v d → Q v H') H (eOpO g j fb ρ)) : tOp r (tVar j) tb σ H Q := by
  unfold eOpO at h
  cases e0 : ownAt ρ j with
  | none => rw [e0] at h; exact h.elim
  | some xs0 =>
    rw [e0] at h
    obtain ⟨a, vs0, m0, h1, _, _⟩ := r0.own j xs0 (ownAt_ok e0)
    refine ⟨_, h1, lb Fg O ρ σ H _ r0 ((GP.bind h).imp fun y ρ1 H1 e1 r1 k1 w rw' => ?_)⟩
    cases e2 : ownAt ρ1 j with
    | none => rw [e2] at k1; exact k1.elim
    | some xs =>
      rw [e2] at k1
      obtain ⟨a', vs, m1, _, h3, h4⟩ := r1.own j xs (ownAt_ok e2)
      obtain rfl : a = a' := r1.key j a a' m0 m1
      have k1 : GP G W Fg O σ (fun d _ H' => ∀ v, Rep G.K (adr O ++ Fg) H' v d → Q v H') H1 (match g (.list xs) y with
        | some d => if flatD d then .ok d ρ1 else .no
        | none => .no) := k1
      cases e3 : g (.list xs) y with
      | none => rw [e3] at k1; exact k1.elim
      | some d =>
        rw [e3] at k1
        have k1 : GP G W Fg O σ (fun d _ H' => ∀ v, Rep G.K (adr O ++ Fg) H' v d → Q v H') H1 (if flatD d then .ok d ρ1 else .no) := k1
        by_cases hf : flatD d = true
        · rw [if_pos hf] at k1
          exact od (less O Fg a) H1 _ w _ y d Q (fun b m => r1.all b (less_sub m)) (.lst h3 (less_not r1 m1) (h4.fewer fun b => less_sub)) (rw'.fewer fun b => less_sub) e3 fun z H3 s rz => k1 H3 (.of_same s) (r1.ext0 (.of_same s)) z (flat_rep rz hf)
        · rw [if_neg hf] at k1; exact k1.elim
theorem dt_cmpO (j : Nat) {x : Str} {p : Pos} {op : CmpOp} {r : R2} {g : PyData → PyData → Option PyData} {b : Expr} {fb : RS → Rs PyData} (hN : ∀ i, (X i).N[j]? = some x) (hv : ∀ i, Vis (X i).env.scope x) (ho : ∀ i, OpR (X i) (compareOp op) r) (od : OpD G r g) (hb : DE X G W b fb) (hm : behindInMarks op b = false)
    (hd : (x == ("__debug__" : Str)) = false := by decide) (hcd : (x == ("__classdict__" : Str)) = false := by decide) : DT X G W (.Compare (.Name x p) [op] [b] pos) (tV (eOpO g j fb)) := by
  obtain ⟨tb, pb, lb⟩ := hb
  exact ⟨_, fun i => pt_cmpR (ho i) (pe_var (hN i) (hv i) hd hcd) (pb i) hm, fun Fg O ρ σ H Q r0 h => tv_law (fun Fg O ρ σ H Q r0 h => opO_law lb od r0 h) r0 h⟩
/-! ### a, b = e, a new list: by a tuple -/
theorem ds_asgDO {j j2 : Nat} {x y : Str} {a b : Expr} {fa : RS → Rs PyData} {fb : RS → Rs (List PyData)} {px py pt : Pos} {kt k2 pt2} (F : Fam X G W k) (hi : ∀ i, (X i).N[j]? = some x) (hj : ∀ i, (X i).N[j2]? = some y)
    (hx : ∀ i, Loc (X i).env.scope x) (hy : ∀ i, Loc (X i).env.scope y) (hfx : ∀ i, (X i).fn x = true ∨ (X i).env.scope.names.lookup x = some .local) (hfy : ∀ i, (X i).fn y = true ∨ (X i).env.scope.names.lookup y = some .local) (ha : DE X G W a fa) (hb : DN X G W b fb)
    (hs : ∀ i, swapsWithSole [.Tuple [.Name x px, .Name y py] kt pt] (.Tuple [a, b] k2 pt2) pos.line (X i).env = pure false := by intro _; rfl) (hw : ∀ i, swappedStores [.Tuple [.Name x px, .Name y py] kt pt] (.Tuple [a, b] k2 pt2) (X i).env = pure none := by intro _; rfl)
    (h1 : ∀ i, starEach [a, b] (X i).env = (false, eval a (X i).env) :: starEach [b] (X i).env := by intro _; rfl) (h2 : ∀ i, starEach [b] (X i).env = (false, eval b (X i).env) :: starEach [] (X i).env := by intro _; rfl)
    (h3 : ∀ i, (assignEach [.Tuple [.Name x px, .Name y py] kt pt] (X i).env).map (·.2) = [assign (.Tuple [.Name x px, .Name y py] kt pt) (X i).env] := by intro _; rfl) :
    DS X G W (.Assign [.Tuple [.Name x px, .Name y py] kt pt] (.Tuple [a, b] k2 pt2) pos) (sParDO j j2 fa fb) := by
  obtain ⟨t, p, l⟩ := ha
  obtain ⟨t2, p2, l2⟩ := hb
  refine ⟨tAsg (tTup (tCons t (tCons t2 tNil))) (gTup G.K 2 (gCons (gName j) (gCons (gName j2) gNil))), fun i => ps_asg (pe_tup (pa_cons (p i) (pa_cons (p2 i) pa_nil (h2 i)) (h1 i))) (by rw [← F.K i]; exact pg_tup (F.calm i) (pgs_cons (pg_name (F.nd i) (hi i) (hx i) (hfx i)) (pgs_cons (pg_name (F.nd i) (hj i) (hy i) (hfy i)) pgs_nil))) (hs i) (hw i) (h3 i), fun Fg O ρ σ H D r h => l Fg O ρ σ H _ r ((SPo.outN h).imp fun d ρ1 H1 e1 r1 k v rv => ?_)⟩
  obtain ⟨_, k⟩ := k
  refine l2 Fg O ρ1 σ H1 _ r1 ((SPo.outN (SPo.shift k e1.evo)).imp fun ds ρ2 H2 e2 r2 k2 p us hp nF q1 r3 rvs => ?_)
  obtain ⟨_, k2⟩ := k2
  refine ⟨by show 2 ≤ sizeLine; decide, fun T hT => ?_⟩
  have en : Ext [] H2 (upd H2 T (.tup [v, .ref p])) := ext_new hT
  refine ⟨T, _, rfl, .inl (.inl upd_same), rfl, v, [.ref p], rfl, .ref p, [], rfl, rfl, ?_⟩
  cases q : (setD j d ρ2).bind (putO j2 ds) with
  | none => rw [q] at k2; exact k2.elim
  | some ρ3 =>
    rw [q] at k2
    obtain ⟨ρa, ea, eb⟩ := Option.bind_eq_some_iff.mp q
    obtain ⟨n1, rfl⟩ := setD_ok ea
    obtain ⟨n2, n3, rfl⟩ := putO_ok eb
    have rv' : Rep G.K (adr O ++ p :: Fg) H2 v d := rv.ext (O := adr O) (fun a m => .inl (List.mem_append_left _ m)) e2 (more_sub hp)
    have q1' : upd H2 T (.tup [v, .ref p]) p = some (.lst us) := by rw [upd_ne (ne_of_none q1 hT)]; exact q1
    exact k2 ((j2, p) :: O) _ _ (evo_new (e2.trans' (en.mono (by simp))) hp) (((r3.ext0 en).set n1 (rv'.ext (O := []) (by simp) en fun _ m => .inl m)).take (fun m => nF (List.mem_append_right _ m)) q1' n3 n2 (rvs.ext (O := []) (by simp) en fun _ m => .inl m))
end
end DL

-- text DL20
set_option Elab.async false
set_option linter.all false
set_option maxRecDepth 100000
set_option maxHeartbeats 2000000
/-! ### sorted over a tuple -/
namespace PySem.W
open PySem PySem.Calls PyProof.Rows
section
variable {prog : Program} {w : World} {A : Around} {E : Value → Shared → Prop} {s : Shared}
theorem collect_tupX {l : Addr} {vs : List Value} {Q : List Value → Shared → Prop} (hl : s.heap.IsTuple l vs.toArray)
    (h : Q vs { s with heap := (s.heap.push (seqObj "list" #[] 0)).update s.heap.objs.size (Obj.mapSeq (· ++ vs.toArray)) }) (hsz : vs.length ≤ sizeLine := by size_fits) :
    wpAny (model prog w) A (collect (.ref l)) Q E s := by
  obtain ⟨o, ho, hc, n, hd⟩ := id hl
  unfold collect
  refine wpAny_bind (wpAny_runValue (codeAny_builtin entry_proto_collect' ?_))
  show wpAny _ _ (do again (.builtin "list.__iadd__" ⟨[← newList [], .ref l], []⟩)) _ _ s
  refine wpAny_bind (wpAny_newList (wpAny_pure ⟨Code.quiet_builtin _ (by decide +kernel), codeAny_builtin entry_list_iadd' ?_⟩))
  show wpAny _ _ (Builtin.List.listExtendWith (.ref s.heap.objs.size) (.ref l) (.ref s.heap.objs.size)) _ _ { s with heap := s.heap.push (seqObj "list" #[] 0) }
  unfold Builtin.List.listExtendWith
  have ho' : (s.heap.push (seqObj "list" #[] 0)).get? l = some o := Heap.get?_push_of_some _ ho
  refine wpAny_bind (wpAny_typeOf (T := "tuple") ⟨o, ho', hc⟩ ?_)
  have ht : (Value.type "tuple" == Value.type "tuple") = true := by rfl
  rw [if_pos (by rw [ht]; simp)]
  refine wpAny_bind (listItems_at ho' hd ?_)
  refine wpAny_bind (listItems_at (xs := #[]) (n := 0) (Heap.get?_push_size _ rfl) rfl ?_)
  rw [if_neg (by simp)]
  refine wpAny_bind (listUpdate_at (xs := #[]) (n := 0) (Heap.get?_push_size _ rfl) rfl ?_ (Nat.zero_le _) (by show (#[] ++ vs.toArray).size ≤ sizeLine + 1; simp only [Array.size_append, List.size_toArray, List.length_nil]; omega))
  refine wpAny_pure ?_
  show wpAny (model prog w) A (do
      let o ← load s.heap.objs.size
      match o.data with
      | .seq xs _ => pure xs.toList
      | _ => unsupported "internal:collect") Q E { s with heap := (s.heap.push (seqObj "list" #[] 0)).update s.heap.objs.size (Obj.mapSeq (· ++ vs.toArray)) }
  refine wpAny_bind (wpAny_load (get?_update_seq (Heap.get?_push_size _ rfl) _) ?_)
  show wpAny _ _ (pure ((#[] : Array Value) ++ vs.toArray).toList) Q E _
  rw [show ((#[] : Array Value) ++ vs.toArray).toList = vs by simp]
  exact wpAny_pure h
theorem sortedX_tup {l : Addr} {vs : List Value} {kw : List (Str × Value)} {Q : Value → Shared → Prop} (hl : s.heap.IsTuple l vs.toArray) (hL : vs.length ≤ sizeLine) (ha1 : argsOk "sorted" ⟨[.ref l], kw⟩) (ha2 : ∀ x, argsOk "list.sort" ⟨[.ref x], kw⟩)
    (body : ∀ E' : Value → Shared → Prop, wpAny (model prog w) A.in1.in1 (Builtin.«list.sort» ⟨[.ref (s.heap.objs.size + 1)], kw⟩) (fun f s' => f = .done (.ret .none) ∧ Q (.ref (s.heap.objs.size + 1)) s') E' { s with heap := copyHeap s.heap vs }) :
    wpAny (model prog w) A (call (.builtin "sorted") [.ref l] kw) Q E s := by
  refine call_function_entry_kw kind_sorted plain_sorted entry_sorted ha1 ?_
  unfold Builtin.«sorted»
  refine wpAny_bind (m := checkCount "sorted" 1 1 _) (wpAny_pure ?_)
  refine wpAny_bind (collect_tupX hl ?_ hL)
  refine wpAny_bind (wpAny_newList ?_ hL)
  have hsz : ((s.heap.push (seqObj "list" #[] 0)).update s.heap.objs.size (Obj.mapSeq (· ++ vs.toArray))).objs.size = s.heap.objs.size + 1 := by
    rw [Heap.size_update, size_push']
  show wpAny _ _ _ _ _ { s with heap := copyHeap s.heap vs }
  rw [hsz]
  refine wpAny_bind (wpAny_holding (wpAny_call_entry_kw slot_list_sort ⟨_, copyHeap_at s.heap vs, rfl⟩ entry_list_sort ?body (ha2 _)))
  case body =>
    show wpAny (model prog w) A.in1.in1 (Builtin.«list.sort» ⟨[.ref (s.heap.objs.size + 1)], kw⟩) _ _ _
    refine wpAny_mono (body _) (fun f s' hf => ?_) fun _ _ e => e
    obtain ⟨rfl, hq⟩ := hf
    exact ⟨_, rfl, wpAny_pure ⟨_, rfl, hq⟩⟩
theorem sortedX_data {β : Type} {vs : List Value} {bs : List β} {enc : β → PyData} {R : Value → β → Prop} {l : Addr} {Q : Value → Shared → Prop} (hl : s.heap.IsTuple l vs.toArray) (e : EachIs R vs bs) (er : EachIs (fun v b => ∃ as, Reads s.heap v (enc b) as) vs bs) (hal : AllAlike (bs.map enc)) (hk : Sortable (bs.map enc)) (hL : bs.length ≤ sizeLine)
    (hu : ∀ b, b ∈ bs → A.units + 2 + (enc b).depth < cLine) (h : ∀ out, out.length = bs.length → EachIs R out (bs.mergeSort (dataLe false enc)) → Q (.ref (s.heap.objs.size + 1)) { s with heap := sortedAll s.heap vs (List.toArray out) }) :
    wpAny (model prog w) A (call (.builtin "sorted") [.ref l]) Q E s := by
  have er' : EachIs (fun v b => ∃ as, Reads (sortingHeap (copyHeap s.heap vs) (s.heap.objs.size + 1) vs) v (enc b) as) vs bs := er.mono fun _ _ ⟨as, r⟩ => ⟨as, PyProof.Rows.Reads.keeps (fun _ _ => sorting_copy_old) r⟩
  have S := SortsAt.data (prog := prog) (w := w) (A := A.in1.in1) (s := { s with heap := sortingHeap (copyHeap s.heap vs) (s.heap.objs.size + 1) vs }) (each_map (R := fun v d => ∃ as, Reads (sortingHeap (copyHeap s.heap vs) (s.heap.objs.size + 1) vs) v d as) enc er') hal hk (bound_map hu)
  exact sortedX_tup hl (by rw [e.length]; exact hL) (args_sorted1 _) (fun _ => args_list_sort _) fun _ => list_sort_vals (s := { s with heap := copyHeap s.heap vs }) (copyHeap_at s.heap vs) S (by rw [e.length]; exact hL) ⟨rfl, h _ (by rw [sortVals_length false rfl]; exact e.length) (sortVals_data false e er' hal)⟩
end
end PySem.W
namespace DL
open PySem PySem.Spec PyProof.Rows L2 GxR
/-- sorted(a list or a tuple of data) -/
def rSort2 (K : PySem.W.Frag) : List V → Hp → VK → Prop := fun xs H Q => ∃ (a : Addr) (A : List Addr) (us : List V) (ds : List PyData), xs = [.ref a] ∧ (SqL K H a us ∨ SqT K H a us) ∧ RepAll K A H us ds ∧ sortOk ds = true ∧
  ∀ l ws, H l = none → RepAll K A H ws (isort leK ds) → Q (.ref l) (upd H l (.lst ws))
theorem cr_sort2 {X : Cx} (hu : X.A.units + 64 < cLine) : CallR X (.builtin "sorted") (rSort2 X.K) := by
  intro pins s σ H xs us Q I r h
  obtain ⟨a, A, ws, ds, rfl, hs | hs, ra, ok, q⟩ := h
  · exact cr_sortD hu pins s σ H _ us Q I r ⟨a, A, ws, ds, rfl, hs, ra, ok, q⟩
  · obtain ⟨its, rv, hl, hz⟩ := I.tuple hs
    rw [Vals.ref1 r]
    obtain ⟨h1, h2, h3⟩ := sortOk_all ok
    have e0 := each_of rv ra
    have er : PySem.W.EachIs (fun v (b : PyData) => ∃ as, Reads s.heap v ((fun d : PyData => d) b) as) its ds := (each_mem' e0 (P := fun d => ndd d = true) fun d m => (h3 d m).1).mono fun v d ⟨⟨x, hx, hr⟩, hd⟩ => Dp.reads I d x v (hr.dp hd) hx
    refine PySem.W.sortedX_data (enc := fun d : PyData => d) (show s.heap.IsTuple a its.toArray from hl) e0 er (by simpa using h1) (by simpa using h2) (by rw [← ra.length]; exact hz) (fun d m => ?_) fun out ho hE => ?_
    · have := (h3 d m).2
      show X.A.units + 2 + d.depth < cLine
      omega
    · rw [sorted_isort ok] at hE
      obtain ⟨zs, k1, k2⟩ := of_each hE
      obtain ⟨ep, he'⟩ := PyProof.Rows.sortedAll_at s.heap its out.toArray
      have hlen : zs.length ≤ sizeLine := by rw [k2.length, isort_length, ← ra.length]; exact hz
      exact ⟨.ref _, upd H (s.heap.objs.size + 1) (.lst zs), I.laid (t' := s.toks) (fun _ _ => PyProof.Rows.sortedAll_old) (Nat.le_succ _) ⟨hlen, out, ep, k1, he'⟩, rfl, q _ _ (I.hok.fresh (Nat.le_succ _)) k2⟩
section
variable {ι : Type} {X : ι → Cx} {G : DL.Ctx} {W : WX} {k : Nat} {pos : Pos}
def gSort2 : List PyData → Option PyData
  | [d] => (match seqOf d with
    | some ds => if sortOk ds then some (.list (isort leK ds)) else none
    | none => none)
  | _ => none
theorem cr_sort2G {X : Cx} (hK : X.K = G.K) (hu : X.A.units + 64 < cLine) : CallR X (.builtin "sorted") (rSort2 G.K) := by
  rw [← hK]
  exact cr_sort2 hu
theorem cd_sort2 : CallD G (rSort2 G.K) gSort2 := by
  intro A H xs ds d Q all r e q
  match ds, xs, r with
  | [], _, _ => cases e
  | _ :: _ :: _, _, _ => cases e
  | [.none], _, _ => cases e
  | [.bool _], _, _ => cases e
  | [.int _], _, _ => cases e
  | [.str _], _, _ => cases e
  | [.dict _], _, _ => cases e
  | [.list ys], [_], .cons rx .nil =>
    have e : (if sortOk ys = true then some (PyData.list (isort leK ys)) else none) = some d := e
    by_cases h : sortOk ys = true
    · rw [if_pos h] at e
      cases e
      obtain ⟨a, us, rfl, h1, n1, r1⟩ := rep_list rx
      exact ⟨a, A, us, _, rfl, .inl (.inl (.inl h1)), r1, h, fun l ws hl hr => q _ _ (same_new hl) (.lst upd_same (fresh_not all hl) (rep_new hr hl))⟩
    · rw [if_neg h] at e; cases e
  | [.tuple ys], [_], .cons rx .nil =>
    have e : (if sortOk ys = true then some (PyData.list (isort leK ys)) else none) = some d := e
    by_cases h : sortOk ys = true
    · rw [if_pos h] at e
      cases e
      obtain ⟨a, us, rfl, h1, r1⟩ := rep_tup rx
      exact ⟨a, A, us, _, rfl, .inr h1, r1, h, fun l ws hl hr => q _ _ (same_new hl) (.lst upd_same (fresh_not all hl) (rep_new hr hl))⟩
    · rw [if_neg h] at e; cases e
/-! ### sorted(x), tuple(x) of an own list -/
def eSortO (j : Nat) : RS → Rs PyData := fun ρ => match ownAt ρ j with
  | none => .no
  | some xs => if sortOk xs then .ok (.list (isort leK xs)) ρ else .no
theorem de_sortO (j : Nat) {x : Str} {p p2 : Pos} (F : Fam X G W k) (hN : ∀ i, (X i).N[j]? = some x) (hv : ∀ i, Vis (X i).env.scope x) (hg : ∀ i, Gl (X i) "sorted") (hm : ∀ i, (X i).mg "sorted" = none) (hd : (x == ("__debug__" : Str)) = false := by decide) (hcd : (x == ("__classdict__" : Str)) = false := by decide)
    (he : ∀ i, starEach [.Name x p2] (X i).env = (false, eval (.Name x p2) (X i).env) :: starEach [] (X i).env := by intro _; rfl) : DE X G W (.Call (.Name "sorted" p) [.Name x p2] [] pos) (eSortO j) := by
  refine ⟨tCB (rSort2 G.K) (tCons (tVar j) tNil), fun i => pe_callB (cr_sort2G (F.K i) (F.hu4 i)) (hg i) (hm i) (by decide +kernel) (pa_cons (pe_var (hN i) (hv i) hd hcd) pa_nil (he i)) (by decide) (by decide) (he i) rfl, fun Fg O ρ σ H Q r h => ?_⟩
  unfold eSortO at h
  cases e0 : ownAt ρ j with
  | none => rw [e0] at h; exact h.elim
  | some xs =>
    rw [e0] at h
    have h : GP G W Fg O σ (fun d _ H' => ∀ v, Rep G.K (adr O ++ Fg) H' v d → Q v H') H (if sortOk xs then .ok (.list (isort leK xs)) ρ else .no) := h
    by_cases hs : sortOk xs = true
    · rw [if_pos hs] at h
      obtain ⟨a, vs, m0, h1, h2, h3⟩ := r.own j xs (ownAt_ok e0)
      exact ⟨_, h1, a, _, vs, xs, rfl, .inl (.inl (.inl h2)), h3, hs, fun l ws hl hr => h _ (ext_new hl) (r.ext0 (ext_new hl)) _ (.lst upd_same (fresh_not r.all hl) (rep_new hr hl))⟩
    · rw [if_neg hs] at h; exact h.elim
def eTupO (j : Nat) : RS → Rs PyData := fun ρ => match ownAt ρ j with
  | none => .no
  | some xs => .ok (.tuple xs) ρ
theorem de_tupO (j : Nat) {x : Str} {p p2 : Pos} (F : Fam X G W k) (hN : ∀ i, (X i).N[j]? = some x) (hv : ∀ i, Vis (X i).env.scope x) (hg : ∀ i, Gl (X i) "tuple") (hm : ∀ i, (X i).mg "tuple" = none) (hd : (x == ("__debug__" : Str)) = false := by decide) (hcd : (x == ("__classdict__" : Str)) = false := by decide)
    (he : ∀ i, starEach [.Name x p2] (X i).env = (false, eval (.Name x p2) (X i).env) :: starEach [] (X i).env := by intro _; rfl) : DE X G W (.Call (.Name "tuple" p) [.Name x p2] [] pos) (eTupO j) := by
  refine ⟨tCB (rTupOf G.K) (tCons (tVar j) tNil), fun i => pe_callTy (cr_tupOf (F.K i)) (hg i) (hm i) (by decide +kernel) (pa_cons (pe_var (hN i) (hv i) hd hcd) pa_nil (he i)) (by decide) (by decide) (he i) rfl, fun Fg O ρ σ H Q r h => ?_⟩
  unfold eTupO at h
  cases e0 : ownAt ρ j with
  | none => rw [e0] at h; exact h.elim
  | some xs =>
    rw [e0] at h
    obtain ⟨a, vs, m0, h1, h2, h3⟩ := r.own j xs (ownAt_ok e0)
    exact ⟨_, h1, a, vs, rfl, .inl ⟨.inl (.inl h2), fun l hl => h _ (ext_new hl) (r.ext0 (ext_new hl)) _ (.tup (.inl (.inl upd_same)) (rep_new h3 hl))⟩⟩
/-! ### e.count(y), flat items -/
def rCntF (K : PySem.W.Frag) : V → List V → Hp → VK → Prop := fun x xs H Q => ∃ (p : Addr) (ys : List V) (y : V), x = .ref p ∧ xs = [y] ∧ SqL K H p ys ∧ flatV y = true ∧ ys.all flatV = true ∧ Q (.int (ys.countP fun z => eqV z y : Nat)) H
theorem cnt_eq {x : V} : ∀ {xs : List V} {us : List Value}, Vals xs us → xs.all flatV = true → us.countP (eqU x) = xs.countP fun z => eqV z x
  | _, _, .nil, _ => rfl
  | y :: xs, u :: us, .cons r t, f => by
    rw [List.all_cons, Bool.and_eq_true] at f
    rw [List.countP_cons, List.countP_cons, cnt_eq t f.2, eqU_of r f.1]
theorem mt_countF {X : Cx} : MtR X "list.count" (rCntF X.K) := by
  intro pins s σ H x xs v us Q I rx rxs h
  obtain ⟨p, ys, y, rfl, rfl, hs, fy, fys, q⟩ := h
  cases rx
  obtain ⟨u, rfl, ru⟩ := rxs.one
  obtain ⟨its, rv, ⟨⟨cls, dd, data, sl⟩, n, ho, hc, hdn, hd⟩, hlen⟩ := I.list hs
  simp only at hc hd
  subst hc hd
  refine call_meets PySem.F.slot_list_count ⟨_, ho, rfl⟩ PySem.F.entry_list_count (PySem.F.args_list_count_2 _ _)
    (SeqAt.list_countAt p its.toArray n dd sl u (eqU y)) ⟨ho, fun z hz => mem_eqAt ru fy rv fys z (by simpa using hz), ?_⟩
  refine ⟨.int (ys.countP fun z => eqV z y : Nat), H, I.tok _, ⟨s.toks, ?_⟩, q⟩
  show Value.int ((its.toArray.toList.countP (eqU y) : Nat) : Int) s.toks = Value.int ((ys.countP fun z => eqV z y : Nat) : Int) s.toks
  rw [show its.toArray.toList.countP (eqU y) = ys.countP fun z => eqV z y from cnt_eq rv fys]
def eCntF (fa fb : RS → Rs PyData) : RS → Rs PyData := fun ρ => (fa ρ).bind fun x ρ1 => match x with
  | .list xs => (fb ρ1).bind fun y ρ2 => if flatD y && xs.all flatD then .ok (.int ((xs.map fv).countP fun z => eqV z (fv y) : Nat)) ρ2 else .no
  | _ => .no
theorem de_cntF {o e : Expr} {fa fb : RS → Rs PyData} {apos cpos : Pos} (F : Fam X G W k) (ha : DE X G W o fa) (hb : DE X G W e fb)
    (hbase : ∀ i, attributeBase o "count" (X i).env (eval o (X i).env) = eval o (X i).env := by intro _; rfl)
    (hfew : ∀ i, ((backTo cpos (starEach (e :: []) (X i).env)).all (fun x => !x.1) && (backToKw cpos (keywordEach [] (X i).env)).all (fun x => x.1.isSome) && decide ((e :: []).length + ([] : List Keyword).length + (if ([] : List Keyword).isEmpty then 0 else 1) < 30)) = true := by intro _; rfl)
    (hline : (apos.endLine == cpos.line) = true := by rfl) (hst : ∀ i, starEach (e :: []) (X i).env = (false, eval e (X i).env) :: starEach [] (X i).env := by intro _; rfl) :
    DE X G W (.Call (.Attribute o "count" apos) [e] [] cpos) (eCntF fa fb) := by
  obtain ⟨t, p, l⟩ := ha
  obtain ⟨t2, p2, l2⟩ := hb
  refine ⟨tBM G.K "list" (rCntF G.K) t (tCons t2 tNil), fun i => by rw [← F.K i]; exact pe_bm PySem.F.plainAttrs_list PySem.F.slot_list_count PySem.F.type_list_count mt_countF (p i) (pa_cons (p2 i) pa_nil (hst i)) (hbase i) (hfew i) hline (hst i) rfl, fun Fg O ρ σ H Q r h => ?_⟩
  refine l Fg O ρ σ H _ r ((GP.bind h).imp fun x ρ1 H1 e1 r1 k1 v rv => ?_)
  cases x with
  | list xs =>
    obtain ⟨a, us, rfl, g1, g2, g3⟩ := rep_list rv
    refine ⟨.inl ⟨rfl, us, .inl (.inl g1)⟩, l2 Fg O ρ1 σ H1 _ r1 ((GP.bind k1).imp fun y ρ2 H2 e2 r2 k2 w rw' => ?_)⟩
    have k2 : GP G W Fg O σ (fun d _ H' => ∀ v, Rep G.K (adr O ++ Fg) H' v d → Q v H') H2 (if flatD y && xs.all flatD then .ok (.int ((xs.map fv).countP fun z => eqV z (fv y) : Nat)) ρ2 else .no) := k2
    by_cases hc : (flatD y && xs.all flatD) = true
    · rw [if_pos hc] at k2
      rw [Bool.and_eq_true] at hc
      obtain ⟨a', us', e, g1', g2', g3'⟩ := rep_list (rv.ext (fun a m => .inl (List.mem_append_left _ m)) e2 fun _ m => .inl m)
      cases e
      obtain ⟨q1, q2⟩ := flat_fv rw' hc.1
      obtain ⟨q3, q4⟩ := flat_all g3' hc.2
      refine ⟨a, us', w, rfl, rfl, .inl (.inl g1'), q2, q4, ?_⟩
      rw [q1, q3]
      exact k2 H2 .refl r2 _ (.int _)
    · rw [if_neg hc] at k2; exact k2.elim
  | _ => exact k1.elim
end
end DL

-- text DL21
set_option Elab.async false
set_option linter.all false
set_option maxRecDepth 40000
set_option maxHeartbeats 4000000
/-! ### sorted(set(xs)) of ints; t * 1 -/
namespace DL
open PySem PySem.Spec PyProof.Rows L2 GxR
open AutoSeq1 (wpAny_loadPart')
/-- c unlike numbers, those of ns -/
def Dst (ns : List Int) (c : Nat) : Prop := ∃ L : List Int, L.Nodup ∧ L.length = c ∧ ∀ x, x ∈ L ↔ x ∈ ns
section
variable {P : Program} {w : World} {A : Around} {E : Value → Shared → Prop} {s : Shared}
theorem upd_intsL {I : Addr} {fp wr : List Addr} {G : Array GenState → Array GenState → Prop} {n : Nat} {Pv : Nat → Value → Prop} {St : Nat → Shared → Prop} {R : Result → Shared → Prop}
    (W : WalksS P w A.in1 I fp wr G n Pv St) (S : Addr) (hSf : S ∉ fp) (ns : List Int) (hn : n = ns.length) (hb : ns.length + 1 < scanBound) (hval : ∀ i v, Pv i v → ∃ k t, ns[i]? = some k ∧ v = .int k t) :
    ∀ (k i : Nat) (s : Shared), n - i = k → i ≤ n → St i s → (∃ c, c ≤ i ∧ Dst (ns.take i) c ∧ SetR w s.heap S (fun j => decide (j ∈ ns.take i)) c) →
      (∀ s' c, Moved (S :: wr) G s s' → Dst ns c → SetR w s'.heap S (fun j => decide (j ∈ ns)) c → R (.ok (.ret .none)) s') →
      codeAny (model P w) A (.builtin "set.update.loop" ⟨[.ref S, .ref I], []⟩) R s := by
  have hSw : S ∉ wr := fun h => hSf (W.sub _ h)
  have hsub : ∀ b ∈ wr, b ∈ S :: wr := fun b hb => List.mem_cons_of_mem _ hb
  intro k
  induction k with
  | zero =>
    intro i s hk' hi hst ⟨c, hc, hd, hS⟩ hR
    obtain rfl : i = n := by omega
    refine codeAny_builtin F.entry_set_update_loop ?_
    rw [Around.under_plainId F.plain_set_update_loop _]
    show wpAny _ A.in1 (pyNext (.ref I) >>= _) _ _ s
    refine wpAny_bind (W.done s _ _ hst fun s' hm => ?_)
    show wpAny _ A.in1 (ret Value.none) _ _ s'
    have e : ns.take i = ns := List.take_of_length_le (by omega)
    rw [e] at hS hd
    exact wpAny_pure (hR s' c (hm.mono hsub) hd (hS.at fun o e => hm.heap S o hSw e))
  | succ k ih =>
    intro i s hk' hi hst ⟨c, hc, hd, hS⟩ hR
    have hlt : i < n := by omega
    refine codeAny_builtin F.entry_set_update_loop ?_
    rw [Around.under_plainId F.plain_set_update_loop _]
    show wpAny _ A.in1 (pyNext (.ref I) >>= _) _ _ s
    refine wpAny_bind (W.item i s _ _ hlt hst fun v s' hP hst' hm => ?_)
    obtain ⟨z, t, hz, rfl⟩ := hval i v hP
    have hS' : SetR w s'.heap S (fun j => decide (j ∈ ns.take i)) c := hS.at fun o e => hm.heap S o hSw e
    show wpAny _ A.in1 (holding [Value.int z t] (setAdd S (.int z t)) >>= _) _ _ s'
    refine wpAny_bind (wpAny_holding ?_)
    unfold setAdd
    refine wpAny_holding ?_
    refine wpAny_bind ((intKind P w).pyHash (k := z) (intKind_is _ _ _ _) ?_)
    refine setR_add_hashed (s := { s' with toks := s'.toks + 1 }) hS' (by omega) fun h' hsb hS2 => ?_
    have ht : ns.take (i + 1) = ns.take i ++ [z] := by rw [List.take_add_one, hz]; rfl
    have hS3 : SetR w h' S (fun j => decide (j ∈ ns.take (i + 1))) (if decide (z ∈ ns.take i) = true then c else c + 1) := hS2.congr fun j => by
      rw [ht]
      simp [List.mem_append]
    have hc3 : (if decide (z ∈ ns.take i) = true then c else c + 1) ≤ i + 1 := by
      split <;> omega
    have hd3 : Dst (ns.take (i + 1)) (if decide (z ∈ ns.take i) = true then c else c + 1) := by
      obtain ⟨L, l1, l2, l3⟩ := hd
      rw [ht]
      by_cases hm : z ∈ ns.take i
      · rw [if_pos (decide_eq_true hm)]
        refine ⟨L, l1, l2, fun x => ?_⟩
        rw [l3, List.mem_append, List.mem_singleton]
        exact ⟨.inl, fun q => q.elim id fun e => e ▸ hm⟩
      · rw [if_neg (by simpa using hm)]
        refine ⟨z :: L, List.nodup_cons.mpr ⟨fun q => hm ((l3 z).mp q), l1⟩, by rw [List.length_cons, l2], fun x => ?_⟩
        rw [List.mem_cons, l3, List.mem_append, List.mem_singleton]
        exact or_comm
    refine wpAny_pure ⟨plainId_quiet F.plain_set_update_loop _, ih (i + 1) _ (by omega) hlt (W.frame _ s' _ _ hst' (Nat.le_succ _) fun b hb o e => ?_) ⟨_, hc3, hd3, hS3⟩ fun s'' c2 hm'' hc'' hS'' => ?_⟩
    · rw [hsb.2 b (fun h : b = S => hSf (by rw [← h]; exact hb))]; exact e
    · refine hR s'' c2 (Moved.trans W.gtrans ((hm.mono hsub).then_heap (Nat.le_succ _) fun b o hb e => ?_) hm'') hc'' hS''
      rw [hsb.2 b (fun h : b = S => hb (by rw [h]; exact List.mem_cons_self))]; exact e
set_option maxRecDepth 40000 in
set_option maxHeartbeats 3200000 in
theorem call_set_lstI {l : Addr} {items : Array Value} (ns : List Int) {Q : Value → Shared → Prop} (hh : A.handled = none) (hl : s.heap.IsList l items) (hit : IntsAre items.toList ns) (hb : ns.length + 1 < scanBound)
    (h : ∀ (h' : Heap) (tk c : Nat), SetR w h' s.heap.objs.size (fun j => decide (j ∈ ns)) c → Dst ns c → (∀ b o, s.heap.get? b = some o → h'.get? b = some o) → Q (.ref s.heap.objs.size) { s with heap := h', toks := tk }) :
    wpAny (model P w) A (call (.type "set") [.ref l]) Q E s := by
  have hisz : items.size = ns.length := by
    have q := IntsAre.length hit
    rw [Array.length_toList] at q
    exact q
  obtain ⟨c, tl, hmro⟩ := F.called_set.mro
  have hmade := F.called_set.made
  have hsub := F.called_set.sub
  refine wpAny_call (codeAny_of_tree ?_)
  show wpAny _ _ (callAny (.type "set") _) _ _ _
  refine wpAny_pure ⟨Code.quiet_builtin _ (by decide +kernel), codeAny_builtin F.entry_type_call ?_⟩
  rw [Around.under_plain (weight_type_call_type "set" [.ref l] []) rfl]
  have h1 := F.called_set.notType
  have h2 := F.called_set.canCreate
  have hct := F.typeCall_set_1 (.ref l)
  repeat (any_goals (first | assumption | wp_step))

  refine codeAny_mono (code_set_led1 (.ref l) (E := E) (Q₁ := fun obj s₁ => obj = .ref s.heap.objs.size ∧ s₁ = { s with heap := s.heap.push { cls := .type "set", dict := none, data := .set #[] 0 (.fresh 0 0 (!w.params.followText "set-order")) } }) ⟨rfl, rfl⟩) fun r s₁ hr => ?_
  cases r with
  | error e => exact hr
  | ok fl =>
    cases fl with
    | ret obj =>
      obtain ⟨rfl, rfl⟩ := hr
      have hS : (s.heap.push { cls := .type "set", dict := none, data := .set #[] 0 (.fresh 0 0 (!w.params.followText "set-order")) }).get? s.heap.objs.size = some { cls := .type "set", dict := none, data := .set #[] 0 (.fresh 0 0 (!w.params.followText "set-order")) } := Heap.get?_push_size _ rfl
      have hT : Shared.TypeIs { s with heap := s.heap.push { cls := .type "set", dict := none, data := .set #[] 0 (.fresh 0 0 (!w.params.followText "set-order")) } } (.ref s.heap.objs.size) "set" := ⟨_, hS, rfl⟩
      have hli := F.called_set.init.lookup
      have hbi := F.called_set.init.bind (.ref s.heap.objs.size)
      repeat (any_goals (first | assumption | wp_step))

      refine codeAny_mono (codeAny_call_builtin (R := wants (fun r s₂ => r = .none ∧ ∃ h' tk c, s₂ = { s with heap := h', toks := tk } ∧ SetR w h' s.heap.objs.size (fun j => decide (j ∈ ns)) c ∧ Dst ns c ∧
          (∀ b o, s.heap.get? b = some o → h'.get? b = some o)) E) F.called_set.init.plain F.entry_set_init (check_set_init_1 hT ?_)) fun r₂ s₂ hr₂ => ?_
      · obtain ⟨ol, hol, hcl, nl, hdl⟩ := hl
        obtain ⟨ocls, odict, odata, oslots⟩ := ol
        simp only at hcl hdl
        subst hcl; subst hdl
        have hol' : (s.heap.push { cls := .type "set", dict := none, data := .set #[] 0 (.fresh 0 0 (!w.params.followText "set-order")) }).get? l = some { cls := .type "list", dict := odict, data := .seq items nl, slots := oslots } := Heap.get?_push_of_some _ hol
        have hsls := F.sub_list_set
        have hslf := F.sub_list_frozenset
        have hne : (Value.type "list" == Value.type "dict") = false := by decide
        have hl1 : (s.heap.push { cls := .type "set", dict := none, data := .set #[] 0 (.fresh 0 0 (!w.params.followText "set-order")) }).IsList l items := ⟨_, hol', rfl, nl, rfl⟩
        unfold Builtin.«set.__init__» noKeywords Builtin.Frozenset.updateFrom
        generalize hPI : pyIter = PI
        wp_walk
        subst hPI

        refine wpAny_pyIter_list hl1 ?_
        refine wpAny_bind (wpAny_runValue ?_)
        have hlS : l < s.heap.objs.size := Heap.lt_size hol
        have hh3 : A.in1.in1.in1.handled = none := by simp [hh]
        have hz1 : (s.heap.push { cls := .type "set", dict := none, data := .set #[] 0 (.fresh 0 0 (!w.params.followText "set-order")) }).objs.size = s.heap.objs.size + 1 := Heap.size_push ..
        have hneI : l ≠ (s.heap.push { cls := .type "set", dict := none, data := .set #[] 0 (.fresh 0 0 (!w.params.followText "set-order")) }).objs.size := by
          rw [Heap.size_push]; exact Nat.ne_of_lt (Nat.lt_succ_of_lt hlS)
        have hSf : s.heap.objs.size ∉ [(s.heap.push { cls := .type "set", dict := none, data := .set #[] 0 (.fresh 0 0 (!w.params.followText "set-order")) }).objs.size, l] := by
          rw [Heap.size_push]; simp only [List.mem_cons, List.mem_singleton, List.not_mem_nil, or_false, not_or]
          exact ⟨Nat.ne_of_lt (Nat.lt_succ_self _), Nat.ne_of_gt hlS⟩
        have hval : ∀ (i : Nat) (v : Value), items[i]? = some v → ∃ k t, ns[i]? = some k ∧ v = .int k t := fun i v hv => by
          have hi : i < ns.length := by rw [← hisz]; exact (Array.getElem?_eq_some_iff.mp hv).1
          obtain ⟨t, e⟩ := PyProof.Rows.IntsAre.int_at hit i v (by rw [Array.getElem?_toList]; exact hv)
          refine ⟨ns[i], t, List.getElem?_eq_getElem hi, ?_⟩
          rw [e, List.getD_eq_getElem?_getD, List.getElem?_eq_getElem hi] <;> rfl
        refine upd_intsL ((Walks.list hh3 _ l hneI items).toS) s.heap.objs.size
          hSf ns hisz hb hval (items.size - 0) 0 _ (by omega) (Nat.zero_le _)
          ⟨⟨_, Heap.get?_push_size _ rfl, rfl, rfl⟩, (hl1.push _)⟩ ?hS0 ?hR
        case hS0 =>
          have hget : ((s.heap.push { cls := .type "set", dict := none, data := .set #[] 0 (.fresh 0 0 (!w.params.followText "set-order")) }).push { cls := .type "list_iterator", data := .fields #[.ref l, .int 0 0] }).get? s.heap.objs.size
              = some { cls := .type "set", dict := none, data := .set #[] 0 (.fresh 0 0 (!w.params.followText "set-order")) } := Heap.get?_push_of_some _ hS
          exact ⟨0, Nat.le_refl 0, ⟨[], List.nodup_nil, rfl, fun x => by simp⟩, setR_new_at hget⟩
        case hR =>
          intro s' c' hm hc' hS'
          obtain ⟨h', g2, d', tk', os'⟩ := s'
          have eg : g2 = s.gens := hm.gens
          have ed : d' = s.drawn := hm.drawn
          have eo : os' = s.os := hm.os
          subst eg; subst ed; subst eo
          show wpAny _ _ _ _ _ _
          refine wpAny_pure ?_
          show wpAny _ _ (ret Value.none) _ _ _
          refine wpAny_pure ⟨rfl, h', tk', c', rfl, hS', hc', fun b o e => ?_⟩
          have hb0 : b < s.heap.objs.size := Heap.lt_size e
          have hb1 : b ≠ s.heap.objs.size := Nat.ne_of_lt hb0
          have hb2 : b ≠ (s.heap.push { cls := .type "set", dict := none, data := .set #[] 0 (.fresh 0 0 (!w.params.followText "set-order")) }).objs.size := by
            rw [Heap.size_push]; exact Nat.ne_of_lt (Nat.lt_succ_of_lt hb0)
          exact hm.heap b o (by simp only [List.mem_cons, List.mem_singleton, List.not_mem_nil, or_false, not_or]; exact ⟨hb1, hb2⟩) (Heap.get?_push_of_some _ (Heap.get?_push_of_some _ e))

      · cases r₂ with
        | error e => exact hr₂
        | ok fl₂ =>
          cases fl₂ with
          | ret r =>
            obtain ⟨rfl, h', tk, c', rfl, hS', hc', hk'⟩ := hr₂
            repeat (any_goals (first | assumption | wp_step))
            exact h _ _ _ hS' hc' hk'
          | _ => exact hr₂.elim
    | _ => exact hr.elim

end


section
variable {ι : Type} {X : ι → Cx} {G : DL.Ctx} {W : WX} {k : Nat} {pos : Pos}
def rSetI (K : PySem.W.Frag) (w : World) : List V → Hp → VK → Prop := fun xs H Q => ∃ (l : Addr) (ns : List Int), xs = [.ref l] ∧ SqL K H l (ns.map V.int) ∧ ns.length ≤ 4000 ∧
  ∀ S c, H S = none → Dst ns c → Q (.ref S) (upd H S (SetO w S (fun j => decide (j ∈ ns)) c))
theorem cr_setI {X : Cx} (hc : X.calm = true) : CallR X (.type "set") (rSetI X.K X.w) := by
  intro pins s σ H xs us Q I r h
  obtain ⟨l, ns, rfl, hl, hlen, q⟩ := h
  rw [Vals.ref1 r]
  obtain ⟨its, rv, pl, hz⟩ := I.list hl
  refine call_set_lstI (P := X.prog) (w := X.w) ns (I.ok.hd hc) pl.isList (by simpa using rv.ints) (by unfold scanBound; omega) fun h' tk c R hd kk => ?_
  exact ⟨.ref s.heap.objs.size, upd H s.heap.objs.size (SetO X.w s.heap.objs.size (fun j => decide (j ∈ ns)) c), I.laid (t' := tk) kk (Nat.le_refl _) (setO_new R), rfl, q _ c (I.hok.fresh (Nat.le_refl _)) hd⟩
/-- the unlike ints of a list, in order -/
def uniI (ns : List Int) : List Int := ns.foldr (fun x l => if x ∈ l then l else x :: l) []
theorem uniI_mem : ∀ {ns : List Int} {x : Int}, x ∈ uniI ns ↔ x ∈ ns
  | [], x => by simp [uniI]
  | n :: ns, x => by
    show x ∈ (if n ∈ uniI ns then uniI ns else n :: uniI ns) ↔ _
    by_cases h : n ∈ uniI ns
    · rw [if_pos h, uniI_mem, List.mem_cons]
      exact ⟨.inr, fun q => q.elim (fun e => by rw [e]; exact uniI_mem.mp h) id⟩
    · rw [if_neg h, List.mem_cons, List.mem_cons, uniI_mem]
theorem uniI_nodup : ∀ ns : List Int, (uniI ns).Nodup
  | [] => List.nodup_nil
  | n :: ns => by
    show (if n ∈ uniI ns then uniI ns else n :: uniI ns).Nodup
    by_cases h : n ∈ uniI ns
    · rw [if_pos h]; exact uniI_nodup ns
    · rw [if_neg h]; exact List.nodup_cons.mpr ⟨h, uniI_nodup ns⟩
def sortInts (ns : List Int) : List Int := isort (fun a b => decide (a ≤ b)) ns
def gSortSetG : List PyData → Option PyData := fun xs => match gSortSet xs with
  | some d => some d
  | none => (match xs with
    | [.list ds] => (match intsOf ds with
      | some ns => if decide (ns.length ≤ 4000) && decide ((uniI ns).length < 64) then some (.list ((sortInts (uniI ns)).map .int)) else none
      | none => none)
    | _ => none)
theorem leI_tot : PySem.W.TotalLe fun a b : Int => decide (a ≤ b) := ⟨fun a b c h1 h2 => by simp at *; omega, fun a b => by simp; omega⟩
theorem sortInts_eq {ns ms : List Int} (h : ms.Pairwise (· < ·)) (nd : ns.Nodup) (hm : ∀ x, x ∈ ms ↔ x ∈ ns) : ms = sortInts ns := by
  have nd2 : ms.Nodup := h.imp fun {a b} h e => by omega
  refine sorted_eq (le := fun a b : Int => decide (a ≤ b)) (fun a _ b _ h1 h2 => by simp at h1 h2; omega) (h.imp fun {a b} h => by simp; omega) (isort_pw leI_tot ns) (((List.perm_ext_iff_of_nodup nd2 nd).mpr hm).trans (isort_perm ns).symm)
theorem de_sortSetG {w : World} {e : Expr} {fs : RS → Rs (List PyData)} {p p2 pos2 : Pos} (F : Fam X G W k) (hw : ∀ i, (X i).w = w) (hg : ∀ i, Gl (X i) "sorted") (hm : ∀ i, (X i).mg "sorted" = none) (hg2 : ∀ i, Gl (X i) "set") (hm2 : ∀ i, (X i).mg "set" = none) (ha : DA X G W [e] fs)
    (hv : bootBuiltins "sorted" = some (.builtin "sorted") := by decide +kernel) (hv2 : bootBuiltins "set" = some (.type "set") := by decide +kernel)
    (he : ∀ i, starEach [e] (X i).env = (false, eval e (X i).env) :: starEach [] (X i).env := by intro _; rfl)
    (he2 : ∀ i, starEach [.Call (.Name "set" p2) [e] [] pos2] (X i).env = (false, eval (.Call (.Name "set" p2) [e] [] pos2) (X i).env) :: starEach [] (X i).env := by intro _; rfl) :
    DE X G W (.Call (.Name "sorted" p) [.Call (.Name "set" p2) [e] [] pos2] [] pos) (eCall gSortSetG fs) := by
  obtain ⟨t, pa, l⟩ := ha
  refine ⟨tCB (fun xs H Q => rSortN G.K w xs H Q ∨ rSortedSet w xs H Q) (tCons (tCB (fun xs H Q => rSetN G.K w xs H Q ∨ rSetI G.K w xs H Q) t) tNil), fun i => ?_, fun Fg O ρ σ H Q r h => ?_⟩
  · rw [← F.K i, ← hw i]
    refine pe_callB ?_ (hg i) (hm i) hv (pa_cons (pe_callTy ?_ (hg2 i) (hm2 i) hv2 (pa i) (by decide) (by decide) (he i) rfl) pa_nil (he2 i)) (by decide) (by decide) (he2 i) rfl
    · intro pins s σ H xs us Q I rr h
      rcases h with h | h
      · exact cr_sortN (F.calm i) (F.hu i) pins s σ H xs us Q I rr h
      · exact cr_sortedSet (F.calm i) pins s σ H xs us Q I rr h
    · intro pins s σ H xs us Q I rr h
      rcases h with h | h
      · exact cr_setN (F.calm i) (F.hu i) pins s σ H xs us Q I rr h
      · exact cr_setI (F.calm i) pins s σ H xs us Q I rr h
  · refine l Fg O ρ σ H _ r ((GP.bind h).imp fun ds ρ1 H1 e1 r1 k1 vs rv => ?_)
    obtain ⟨d, e, kk⟩ := k1.of
    unfold gSortSetG at e
    cases e0 : gSortSet ds with
    | some d0 =>
      rw [e0] at e
      cases e
      unfold gSortSet at e0
      split at e0
      · split at e0
        · rename_i xs hc
          cases e0
          simp only [Bool.and_eq_true, decide_eq_true_eq] at hc
          match vs, rv with
          | [_], .cons rx .nil =>
            obtain ⟨a, us, rfl, h1, n1, ra⟩ := rep_list rx
            refine .inl ⟨a, adr O ++ Fg, us, xs, rfl, .inl (.inl h1), ra, hc.1.1, hc.2, fun S B hS hB hall nd => ?_⟩
            have eq : ∀ d, d ∈ B.map (·.2) ↔ d ∈ xs := fun d => ⟨fun m => by
              obtain ⟨p, hp, rfl⟩ := List.mem_map.mp m
              exact (hB p hp).1, hall d⟩
            have eS : ∀ {O : List Addr}, Ext O H1 (upd H1 S (SetNO w S (bagOf B))) := ext_new hS
            have okB : sortOk (B.map (·.2)) = true := by
              obtain ⟨k, hk, kd⟩ := sortOk_kind hc.1.2
              cases e : B.map (·.2) with
              | nil => rfl
              | cons d ds =>
                have kd1 : ∀ x ∈ d :: ds, kindS x = k := fun x hx => kd x ((eq x).mp (by rw [e]; exact hx))
                unfold sortOk
                simp only [Bool.and_eq_true, Bool.not_eq_true', beq_eq_false_iff_ne, ne_eq, List.all_eq_true, beq_iff_eq]
                exact ⟨by rw [kd1 d List.mem_cons_self]; exact hk, fun x hx => by rw [kd1 x (List.mem_cons_of_mem _ hx), kd1 d List.mem_cons_self]⟩
            refine .inl ⟨S, adr O ++ Fg, B, rfl, upd_same, fun p hp => (hB p hp).2.ext (O := []) (by simp) eS fun _ m => .inl m, ?_, okB, fun l2 ws hl2 hr => ?_⟩
            · exact List.all_eq_true.mpr fun d m => List.all_eq_true.mp hc.1.1 d ((eq d).mp m)
            · rw [sset_eq hc.1.2 nd eq] at hr
              have e2 : ∀ {O : List Addr}, Ext O H1 (upd (upd H1 S (SetNO w S (bagOf B))) l2 (.lst ws)) := fun {O} => eS.trans' (ext_new hl2)
              have r2 := r1.ext0 eS
              exact kk _ e2 (r2.ext0 (ext_new hl2)) _ (.lst upd_same (fresh_not r2.all hl2) (rep_new hr hl2))
        · cases e0
      · cases e0
    | none =>
      rw [e0] at e
      match ds, vs, rv with
      | [], _, _ => cases e
      | d1 :: d2 :: _, _, _ => cases d1 <;> cases e
      | [.none], _, _ => cases e
      | [.bool _], _, _ => cases e
      | [.int _], _, _ => cases e
      | [.str _], _, _ => cases e
      | [.dict _], _, _ => cases e
      | [.tuple _], _, _ => cases e
      | [.list xs], [_], .cons rx .nil =>
        have e : (match intsOf xs with
          | some ns => if (decide (ns.length ≤ 4000) && decide ((uniI ns).length < 64)) = true then some (PyData.list ((sortInts (uniI ns)).map .int)) else none
          | none => none) = some d := e
        cases e2 : intsOf xs with
        | none => rw [e2] at e; cases e
        | some ns =>
          rw [e2] at e
          have e : (if (decide (ns.length ≤ 4000) && decide ((uniI ns).length < 64)) = true then some (PyData.list ((sortInts (uniI ns)).map .int)) else none) = some d := e
          by_cases hc : (decide (ns.length ≤ 4000) && decide ((uniI ns).length < 64)) = true
          · rw [if_pos hc] at e
            cases e
            rw [Bool.and_eq_true, decide_eq_true_iff, decide_eq_true_iff] at hc
            obtain rfl := intsOf_some e2
            obtain ⟨a, us, rfl, h1, n1, ra⟩ := rep_list rx
            obtain rfl := ra.ints
            refine .inr ⟨a, ns, rfl, .inl (.inl h1), hc.1, fun S c hS hd => ?_⟩
            obtain ⟨L, l1, l2, l3⟩ := hd
            have hcl : c = (uniI ns).length := by
              rw [← l2]
              exact ((List.perm_ext_iff_of_nodup l1 (uniI_nodup ns)).mpr fun x => by rw [l3, uniI_mem]).length_eq
            have eS : ∀ {O : List Addr}, Ext O H1 (upd H1 S (SetO w S (fun j => decide (j ∈ ns)) c)) := ext_new hS
            refine .inr ⟨S, _, c, rfl, upd_same, by rw [hcl]; exact hc.2, fun ms p hp hmem _ hfr => ?_⟩
            have ems : ms = sortInts (uniI ns) := sortInts_eq hp (uniI_nodup ns) fun x => by rw [hmem, decide_eq_true_iff, uniI_mem]
            rw [ems]
            have r2 := r1.ext0 eS
            exact kk _ (eS.trans' (ext_new hfr)) (r2.ext0 (ext_new hfr)) _ (.lst upd_same (fresh_not r2.all hfr) (RepAll.of_ints _))
          · rw [if_neg hc] at e; cases e
end
end DL

-- text DL22
set_option Elab.async false
set_option linter.all false
set_option maxRecDepth 100000
set_option maxHeartbeats 4000000
/-! ### a tuple times 1 is the tuple itself -/
namespace DL
open PySem PySem.Spec PyProof.Rows L2 GxR
open AutoSeq1 (wpAny_loadPart')
theorem tuple_mul1 (l : Addr) (items : Array Value) (n : Nat) (dd : Option Addr) (sl : Array (Option Value)) (u : Tok) :
    Meets (Builtin.«tuple.__mul__» ⟨[.ref l, .int 1 u], []⟩) (fun _ R s => s.heap.get? l = some { cls := .type "tuple", dict := dd, data := .seq items n, slots := sl } ∧ R (.ok (.ret (.ref l))) s) :=
  .of_wp fun prog w A R s h => by
    obtain ⟨hp, g, d, tk, os⟩ := s
    obtain ⟨hl, h⟩ := h
    have f1 := AutoSeq1.idx_int
    wp_walk using wpAny_loadPart' hl
    repeat (first
      | (refine wpAny_ite_false (decide_eq_false (by decide)) ?_; wp_walk using wpAny_loadPart' hl)
      | (refine wpAny_ite_true (decide_eq_true (by rw [show ((1 : Int) == 1) = true from rfl, Bool.or_true])) ?_; wp_walk using wpAny_loadPart' hl))
    all_goals exact ⟨_, rfl, h⟩
def rRep1 (K : PySem.W.Frag) : R2 := fun x y H Q => ∃ l xs, x = .ref l ∧ y = .int 1 ∧ SqT K H l xs ∧ Q (.ref l) H
theorem op_rep1 {X : Cx} : OpR X (binaryOp .Mult) (rRep1 X.K) := by
  intro pins s σ H x y v u Q I rx ry h
  obtain ⟨l, xs, rfl, rfl, hT, q⟩ := h
  cases rx
  obtain ⟨t, rfl⟩ := ry
  obtain ⟨its, r, ⟨⟨cls, dd, data, sl⟩, ho, hc, n, hd⟩, hs⟩ := I.tuple hT
  simp only at hc hd
  subst hc hd
  exact wpAny_binaryOp_repeat_ref (T := "tuple") (U := "int") (by decide) ⟨_, ho, rfl⟩ (fun s' => typeIs_int s' 1 t) noFill_tuple_mul F.fills_int_mul F.slot_int_rmul repeat_tuple F.slot_int_index.lookup
    (call_meets F.slot_int_rmul (typeIs_int s 1 t) F.entry_int_rmul (F.args_int_rmul_2 _ _) (int_rmul_tuple 1 t l its.toArray n dd sl)
      ⟨ho, rfl, ⟨_, ho, rfl⟩, call_meets F.slot_tuple_mul ⟨_, ho, rfl⟩ F.entry_tuple_mul (F.args_tuple_mul_2 _ _) (tuple_mul1 l its.toArray n dd sl t) ⟨ho, ⟨.ref l, H, I, rfl, q⟩⟩⟩)
section
variable {X : Cx} {G : DL.Ctx}
def gMulG (x y : PyData) : Option PyData := match gMul x y with
  | some d => some d
  | none => (match x, y with
    | .tuple xs, .int k => if k = 1 then some (.tuple xs) else none
    | _, _ => none)
theorem or_mul1 (hK : X.K = G.K) : OpR X (binaryOp .Mult) (fun x y H Q => rMulG G.K x y H Q ∨ rRep1 G.K x y H Q) := by
  refine (or_mulG hK).or ?_
  rw [← hK]
  exact op_rep1
theorem od_mul1 : OpD G (fun x y H Q => rMulG G.K x y H Q ∨ rRep1 G.K x y H Q) gMulG := by
  intro A H x y dx dy d Q all rx ry e q
  unfold gMulG at e
  cases e0 : gMul dx dy with
  | some d0 =>
    rw [e0] at e
    cases e
    exact .inl (od_mul A H x y dx dy _ Q all rx ry e0 q)
  | none =>
    rw [e0] at e
    simp only at e
    split at e
    · rename_i xs k
      by_cases hk : k = 1
      · rw [if_pos hk] at e
        cases e
        subst hk
        obtain ⟨a, us, rfl, h1, r1⟩ := rep_tup rx
        rw [rep_int ry]
        exact .inr ⟨a, us, rfl, rfl, h1, q _ _ (Same.refl _) (.tup h1 r1)⟩
      · rw [if_neg hk] at e; cases e
    · cases e
end
/-! ### x in a tuple of data -/
def rInDT (K : PySem.W.Frag) (neg : Bool) : R2 := fun x y H Q => ∃ d ds, Dp K H x d ∧ Dp K H y (.tuple ds) ∧ SeqAt.shaped d = true ∧ SeqAt.shaped (.tuple ds) = true ∧ Q (.bl (if neg then !ds.any fun z => PyData.eqv z d else ds.any fun z => PyData.eqv z d)) H
theorem op_inDT {X : Cx} (hu : X.A.units + 65 < cLine) : OpR X (compareOp .In) (rInDT X.K false) := by
  intro pins s σ H x y v u Q I rx ry h
  obtain ⟨d, ds, hd, he, sd, se, q⟩ := h
  obtain ⟨as, r1⟩ := Dp.reads I d x v hd rx
  obtain ⟨bs, r2⟩ := Dp.reads I (.tuple ds) y u he ry
  exact SeqAt.in_tuple_reads r2 r1 (SeqAt.canLay_of_shaped se) (SeqAt.canLay_of_shaped sd) (room_in_shaped sd hu) ⟨.bl _, H, I, rfl, q⟩
theorem op_notInDT {X : Cx} (hu : X.A.units + 65 < cLine) : OpR X (compareOp .NotIn) (rInDT X.K true) := by
  intro pins s σ H x y v u Q I rx ry h
  obtain ⟨d, ds, hd, he, sd, se, q⟩ := h
  obtain ⟨as, r1⟩ := Dp.reads I d x v hd rx
  obtain ⟨bs, r2⟩ := Dp.reads I (.tuple ds) y u he ry
  exact SeqAt.notIn_tuple_reads r2 r1 (SeqAt.canLay_of_shaped se) (SeqAt.canLay_of_shaped sd) (room_in_shaped sd hu) ⟨.bl _, H, I, rfl, q⟩
def gInDT (neg : Bool) (x y : PyData) : Option PyData := match y with
  | .tuple ds => if okD x && okD (.tuple ds) then some (.bool (if neg then !ds.any fun z => PyData.eqv z x else ds.any fun z => PyData.eqv z x)) else none
  | _ => none
section
variable {ι : Type} {X : ι → Cx} {G : DL.Ctx} {W : WX} {k : Nat}
theorem od_inDT {neg : Bool} : OpD G (rInDT G.K neg) (gInDT neg) := by
  intro A H x y dx dy d Q all rx ry e q
  unfold gInDT at e
  split at e
  · split at e
    · rename_i ds h
      cases e
      simp only [Bool.and_eq_true] at h
      obtain ⟨h1, h2⟩ := okD_ok h.1
      obtain ⟨h3, h4⟩ := okD_ok h.2
      exact ⟨dx, ds, rx.dp h1, ry.dp h3, h2, h4, q _ _ (Same.refl _) (.bl _)⟩
    · cases e
  · cases e
/-- x in a list or a tuple of data -/
def gInH (neg : Bool) (x y : PyData) : Option PyData := match gInG neg x y with
  | some d => some d
  | none => gInDT neg x y
theorem or_inH (F : Fam X G W k) (i : ι) : OpR (X i) (compareOp .In) (fun x y H Q => (rIn G.K false x y H Q ∨ rInD G.K x y H Q) ∨ rInDT G.K false x y H Q) := (or_inG' F i).or (by rw [← F.K i]; exact op_inDT (F.hu i))
theorem or_notinH (F : Fam X G W k) (i : ι) : OpR (X i) (compareOp .NotIn) (fun x y H Q => (rIn G.K true x y H Q ∨ rNotInD G.K x y H Q) ∨ rInDT G.K true x y H Q) := (or_notinG' F i).or (by rw [← F.K i]; exact op_notInDT (F.hu i))
theorem od_inH : OpD G (fun x y H Q => (rIn G.K false x y H Q ∨ rInD G.K x y H Q) ∨ rInDT G.K false x y H Q) (gInH false) := by
  intro A H x y dx dy d Q all rx ry e q
  unfold gInH at e
  split at e
  · rename_i z
    cases e
    exact .inl (od_inG' A H x y dx dy _ Q all rx ry z q)
  · exact .inr (od_inDT A H x y dx dy d Q all rx ry e q)
theorem od_notinH : OpD G (fun x y H Q => (rIn G.K true x y H Q ∨ rNotInD G.K x y H Q) ∨ rInDT G.K true x y H Q) (gInH true) := by
  intro A H x y dx dy d Q all rx ry e q
  unfold gInH at e
  split at e
  · rename_i z
    cases e
    exact .inl (od_notinG' A H x y dx dy _ Q all rx ry z q)
  · exact .inr (od_inDT A H x y dx dy d Q all rx ry e q)
theorem gInH_of {neg : Bool} {x y d : PyData} (h : gInG neg x y = some d) : gInH neg x y = some d := by
  unfold gInH
  rw [h]
end
end DL

-- text DL23
set_option Elab.async false
set_option linter.all false
set_option maxRecDepth 100000
set_option maxHeartbeats 2000000
namespace DL
open PySem PySem.Spec PyProof.Rows L2 GxR
/-! ### raise of an own error without fields; try .. except .. as .. -/
/-- X() for an own exception class -/
theorem pmk_own0 {X : Cx} {C : Addr} {bmB : List Value} {B newId initId : String} {x : Str} {p pos : Pos} (F : ExcBaseFacts B newId initId bmB) (q : PySem.W.excIn X.K C bmB newId = true) (gC : X.mg x = some (.ref C)) (kC : PySem.W.keepIn X.K (.ref C) = true) (r : Raises X (.ref C)) (hg : Gl X x)
    (hdb : (x == ("__debug__" : Str)) = false := by decide) : PMk X (.Call (.Name x p) [] [] pos) (fun _ H Q => Q (.ref C) none H) := by
  intro pins s σ H Q I h
  refine wpAny_Call_Name_kw (ld_glob I hg gC ?_ hdb)
  refine PySem.W.callWith_K0 I.kIn kC ?_
  obtain ⟨bm, N, nm, qn, bs, hdct, sn, sub, ab, col, dd, k0, k1, k2, k3, k5, mN, hC, hN, hni, T⟩ := exc_obj I.kIn q
  refine wpAny_call_exc_subT F T hC hN hni (fun h' e hm => ?_) (Nat.zero_le _)
  exact mk_of I hm r h (I.hok.gone hm.new)
abbrev mroVE : List Value := [.type "ValueError", .type "Exception", .type "BaseException", .type "object"]
/-- what is known of an own error class -/
structure ErrC (K : PySem.W.Frag) (mg : Str → Option Value) (x : Str) (C : Addr) : Prop where
  gl : mg x = some (.ref C)
  exc : PySem.W.excIn K C mroVE "ValueError.__new__" = true
  keep : PySem.W.keepIn K (.ref C) = true
  sub : PySem.W.subIn K (.ref C) (.type "BaseException") = some true
  ty : PySem.W.typeIn K (.ref C) = some (.type "type")
section
variable {ι : Type} {X : ι → Cx} {G : DL.Ctx} {W : WX} {k : Nat} {pos : Pos}
def sRz (c : Str) : RS → Out := fun ρ => .ex c [] ρ
theorem ds_raise {mg : Str → Option Value} {x : Str} {p cpos : Pos} (F : Fam X G W k) (E : ErrC G.K mg x (G.ec x)) (hm : ∀ i, (X i).mg = mg) (hg : ∀ i, Gl (X i) x) (hdb : (x == ("__debug__" : Str)) = false := by decide) : DS X G W (.Raise (some (.Call (.Name x p) [] [] cpos)) none pos) (sRz x) := by
  refine ⟨fun _ σ H => W (.ref (G.ec x)) none σ H, fun i => ?_, fun Fg O ρ σ H D r h => h O σ none H .refl r rfl⟩
  have r : Raises (X i) (.ref (G.ec x)) := raises_own (by rw [F.K i]; exact E.sub) (by rw [F.K i]; exact E.ty)
  exact ps_raise (F.calm i) (F.takes i) (pmk_own0 PySem.F.excBase_ValueError (by rw [F.K i]; exact E.exc) (by rw [hm i]; exact E.gl) (by rw [F.K i]; exact E.keep) r (hg i) hdb)
/-! ### try -/
/-- the contexts of a try's body -/
def Tx (X : ι → Cx) (W' : WX) : {j : ι × List (Addr × Obj) × (Value → Shared → Prop) // L2.Takes ((X j.1).tr j.2.1 j.2.2) W' ∧ PassesOwn (model (X j.1).prog (X j.1).w) (X j.1).A (X j.1).env j.2.2} → Cx := fun j => (X j.1.1).tr j.1.2.1 j.1.2.2
theorem famT {W' : WX} (F : Fam X G W k) : Fam (Tx X W') G W' k := ⟨fun j => F.K j.1.1, fun j => F.calm j.1.1, fun j => j.2.1, fun j => F.nd j.1.1, fun j => F.room j.1.1⟩
theorem owns_T {W' : WX} (j : {j : ι × List (Addr × Obj) × (Value → Shared → Prop) // L2.Takes ((X j.1).tr j.2.1 j.2.2) W' ∧ PassesOwn (model (X j.1).prog (X j.1).w) (X j.1).A (X j.1).env j.2.2}) : PassesOwn (model (Tx X W' j).prog (Tx X W' j).w) (Tx X W' j).A (Tx X W' j).env (Tx X W' j).xe := j.2.2
/-- the contexts of an except's suite -/
def Sx (X : ι → Cx) : ι × Addr × List (Addr × Obj) → Cx := fun j => (X j.1).suite j.2.1 j.2.2
/-- behind the suite: the name has gone -/
def isNB (ρ : RS) (j : Nat) : Bool := match ρ[j]? with
  | some .n => true
  | _ => false
theorem isNB_t {ρ : RS} {j : Nat} (h : isNB ρ j = true) : ρ[j]? = some .n := by
  unfold isNB at h
  split at h
  · assumption
  · cases h
def goneO (j : Nat) : Out → Out
  | .nx ρ => if isNB ρ j then .nx ρ else .no
  | .rt d ρ => .rt d ρ
  | _ => .no
def sTryAs (cs : List Str) (j : Nat) (fb fs : RS → Out) : RS → Out := fun ρ => match fb ρ with
  | .ex c _ ρ1 => if c ∈ cs then (if isNB ρ1 j then goneO j (fs ρ1) else .no) else .no
  | o => o
theorem R.at_n {Fg : List Addr} {O : Own} {ρ : RS} {σ : L2.St} {H : Hp} (r : R G Fg O ρ σ H) {j : Nat} (h : ρ[j]? = some .n) (x : Option V) : R G Fg O ρ (σ.set j x) H := by
  refine ⟨by rw [List.length_set]; exact r.len, fun i d q => ?_, fun i xs q => ?_, r.key, r.inj, r.fg, r.occ, r.tabs, r.all, fun i p q => (by
    have hj : j ≠ i := fun z => by subst z; rw [h] at q; cases q
    rw [List.getElem?_set_ne hj]
    exact r.raw i p q)⟩
  · have hj : j ≠ i := fun z => by subst z; rw [h] at q; cases q
    rw [List.getElem?_set_ne hj]
    exact r.val i d q
  · have hj : j ≠ i := fun z => by subst z; rw [h] at q; cases q
    rw [List.getElem?_set_ne hj]
    exact r.own i xs q
theorem ds_try_as {mg : Str → Option Value} {j : Nat} {n c : Str} {cs : List Str} {b₀ : Stmt} {body suite : List Stmt} {np pos' : Pos} {fb fs : RS → Out} (F : Fam X G W k) (hs : ∀ i, (X i).stack = (X i).env :: (X i).outer) (hf : ∀ i, (X i).env.frame = some (X i).env.locals) (hi : ∀ i, (X i).N[j]? = some n)
    (hl : ∀ i, (X i).env.kindOf n = some .local) (hg : ∀ i, Gl (X i) c) (hm : ∀ i, (X i).mg = mg) (E : mg c = some (.ref (G.ec c))) (hx : ∀ c' ∈ cs, PySem.W.exmOne G.K (.ref (G.ec c')) (.ref (G.ec c)) = some true)
    (hb : ∀ W', DSs (Tx X W') G W' body fb) (hsu : DSs (Sx X) G W0 (b₀ :: suite) fs) (hdb : (c == ("__debug__" : Str)) = false := by decide) :
    DS X G W (.Try body [.ExceptHandler (some (.Name c np)) (some n) (b₀ :: suite) pos'] [] [] pos) (sTryAs cs j fb fs) := by
  obtain ⟨ts, ps, ls⟩ := hsu
  refine ⟨fun D σ H => (hb (wAs G.K (.ref (G.ec c)) j (fun _ _ _ => ts) W D)).ex.choose D σ H, fun i => ?_, fun Fg O ρ σ H D r h => ?_⟩
  · rw [← F.K i]
    refine ps_try_as (tb := fun W' => (hb W').ex.choose) (hs i) (hf i) (F.nd i) (hi i) (hl i) ⟨hg i, hdb, .inl (by rw [hm i]; exact E)⟩ (F.takes i) (fun W' pn xe tk po => ?_) fun a oe cls d pn hz hd => ?_
    · exact (hb W').ex.choose_spec.1 ⟨(i, pn, xe), tk, po⟩
    · exact ps (i, a, (a, oe) :: pn)
  · refine (hb (wAs G.K (.ref (G.ec c)) j (fun _ _ _ => ts) W D)).ex.choose_spec.2 Fg O ρ σ H D r ?_
    unfold sTryAs at h
    cases e : fb ρ with
    | ex c' xs ρ1 =>
      rw [e] at h
      simp only at h
      by_cases hc : c' ∈ cs
      · rw [if_pos hc] at h
        cases hn1 : isNB ρ1 j with
        | false => rw [hn1] at h; exact h.elim
        | true =>
        rw [hn1] at h
        have h : SPo G W Fg O H D (goneO j (fs ρ1)) := h
        intro O' σ' dd H' ev r1 hxa
        refine ⟨true, hx c' hc, fun _ a ha => ?_, fun z => (by cases z)⟩
        have h := h.shift ev
        refine ls Fg O' ρ1 _ H' _ (R.at_n r1 (isNB_t hn1) _) ?_
        cases e2 : fs ρ1 with
        | nx ρ2 =>
          rw [e2] at h
          have h : SPo G W Fg O' H' D (if isNB ρ2 j then Out.nx ρ2 else Out.no) := h
          cases hn : isNB ρ2 j with
          | true =>
            rw [hn] at h
            exact fun O2 σ2 H2 ev2 r2 => h O2 _ H2 ev2 (R.at_n r2 (isNB_t hn) none)
          | false => rw [hn] at h; exact h.elim
        | rt d ρ2 =>
          rw [e2] at h
          exact fun O2 σ2 v H2 ev2 r2 rv => h O2 σ2 v H2 ev2 r2 rv
        | _ => rw [e2] at h; exact h.elim
      · rw [if_neg hc] at h
        exact h.elim
    | nx ρ1 => rw [e] at h; exact h
    | rt d ρ1 => rw [e] at h; exact h
    | rto d ρ1 => rw [e] at h; exact h
    | bk ρ1 => rw [e] at h; exact h
    | ct ρ1 => rw [e] at h; exact h
    | no => rw [e] at h; exact h
end
end DL

-- text DL24
set_option Elab.async false
set_option linter.all false
set_option maxRecDepth 100000
set_option maxHeartbeats 2000000
namespace DL
open PySem PySem.Spec PyProof.Rows L2 GxR
/-! ### a dict of the module with whole numbers as keys -/
structure KDictI (K : PySem.W.Frag) (d : Addr) (es : Array DictEntry) (n : Nat) : Prop where
  at_ : K.lookup d = some ⟨.type "dict", none, .dict es n, #[]⟩
  lit : ∀ e ∈ es, ∃ k t, e.key = .int k t ∧ e.hash = hashInt k
  low : (d == sysModules) = false
section
variable {X : Cx} {d : Addr} {es : Array DictEntry} {n : Nat}
theorem mapOf_I {prog : Program} {w : World} {K : PySem.W.Frag} {h : Heap} (I : K.In h) (D : KDictI K d es n) : h.MapOf (intKind prog w) d (fun k => findBy Value.isInt es k) :=
  ⟨_, es, n, I _ _ D.at_, ⟨rfl, rfl, rfl⟩, rfl, fun e he => by
    obtain ⟨x, t, e1, e2⟩ := D.lit e he
    exact ⟨x, by rw [e1]; exact intKind_is prog w x t, e2⟩, fun _ => rfl⟩
theorem op_in_kdi (D : KDictI X.K d es n) : OpR X (compareOp .In) (fun x y H Q => ∃ z : Int, x = .int z ∧ y = .ref d ∧ Q (.bl (findBy Value.isInt es z).isSome) H) := by
  intro pins s σ H x y v u Q I rx ry h
  obtain ⟨z, rfl, rfl, q⟩ := h
  obtain ⟨t, rfl⟩ := rx
  cases ry
  refine wpAny_in_of (intKind_is X.prog X.w z t) D.low (mapOf_I (prog := X.prog) I.kIn D) ?_
  exact ⟨.bl _, H, I.tok _, rfl, q⟩
theorem op_notIn_kdi (D : KDictI X.K d es n) : OpR X (compareOp .NotIn) (fun x y H Q => ∃ z : Int, x = .int z ∧ y = .ref d ∧ Q (.bl (!(findBy Value.isInt es z).isSome)) H) := by
  intro pins s σ H x y v u Q I rx ry h
  obtain ⟨z, rfl, rfl, q⟩ := h
  obtain ⟨t, rfl⟩ := rx
  cases ry
  refine wpAny_notIn_of (intKind_is X.prog X.w z t) D.low (mapOf_I (prog := X.prog) I.kIn D) ?_
  exact ⟨.bl _, H, I.tok _, rfl, q⟩
theorem op_item_kdi (D : KDictI X.K d es n) : OpR X getItem (fun x y H Q => ∃ (z : Int) (u0 : Value) (v0 : V), x = .ref d ∧ y = .int z ∧ findBy Value.isInt es z = some u0 ∧ RelV v0 u0 ∧ Q v0 H) := by
  intro pins s σ H x y v u Q I rx ry h
  obtain ⟨z, u0, v0, rfl, rfl, e, r, q⟩ := h
  cases rx
  obtain ⟨t, rfl⟩ := ry
  exact wpAny_getItem_of (intKind_is X.prog X.w z t) (mapOf_I (prog := X.prog) I.kIn D) e ⟨v0, H, I.tok _, r, q⟩
end
end DL

-- text DL25
set_option Elab.async false
set_option linter.all false
set_option maxRecDepth 100000
set_option maxHeartbeats 2000000
namespace DL
open PySem PySem.Spec PyProof.Rows L2 GxR
section
variable {ι : Type} {X : ι → Cx} {G : DL.Ctx} {W : WX} {k : Nat} {pos : Pos}
def eInK (g : Int → Bool) (fa : RS → Rs PyData) : RS → Rs PyData := fun ρ => (fa ρ).bind fun d ρ1 => match d with
  | .int z => .ok (.bool (g z)) ρ1
  | _ => .no
theorem de_inK {op : CmpOp} {d : Addr} {g : Int → Bool} {a : Expr} {fa : RS → Rs PyData} {x : Str} {p : Pos} (ho : ∀ i, OpR (X i) (compareOp op) (fun x y H Q => ∃ z : Int, x = .int z ∧ y = .ref d ∧ Q (.bl (g z)) H)) (ha : DE X G W a fa) (hg : ∀ i, Gl (X i) x) (hm : ∀ i, (X i).mg x = some (.ref d))
    (hmk : behindInMarks op (.Name x p) = false) (hd : (x == ("__debug__" : Str)) = false := by decide) : DE X G W (.Compare a [op] [.Name x p] pos) (eInK g fa) := by
  obtain ⟨ta, pa, la⟩ := ha
  refine ⟨_, fun i => pe_cmpR (ho i) (pa i) (pe_glob (v := .ref d) (hg i) (hm i) rfl hd) hmk, fun Fg O ρ σ H Q r0 h => ?_⟩
  refine la Fg O ρ σ H _ r0 ((GP.bind h).imp fun dd ρ1 H1 e1 r1 k1 v rv => ?_)
  cases dd with
  | int z =>
    cases rv
    exact ⟨z, rfl, rfl, k1 H1 .refl r1 _ (.bl _)⟩
  | _ => exact k1.elim
theorem dt_inK {op : CmpOp} {d : Addr} {g : Int → Bool} {a : Expr} {fa : RS → Rs PyData} {x : Str} {p : Pos} (ho : ∀ i, OpR (X i) (compareOp op) (fun x y H Q => ∃ z : Int, x = .int z ∧ y = .ref d ∧ Q (.bl (g z)) H)) (ha : DE X G W a fa) (hg : ∀ i, Gl (X i) x) (hm : ∀ i, (X i).mg x = some (.ref d))
    (hmk : behindInMarks op (.Name x p) = false) (hd : (x == ("__debug__" : Str)) = false := by decide) : DT X G W (.Compare a [op] [.Name x p] pos) (tV (eInK g fa)) := by
  obtain ⟨ta, pa, la⟩ := ha
  refine ⟨_, fun i => pt_cmpR (ho i) (pa i) (pe_glob (v := .ref d) (hg i) (hm i) rfl hd) hmk, fun Fg O ρ σ H Q r0 h => tv_law (fun Fg O ρ σ H Q r0 h => ?_) r0 h⟩
  refine la Fg O ρ σ H _ r0 ((GP.bind h).imp fun dd ρ1 H1 e1 r1 k1 v rv => ?_)
  cases dd with
  | int z =>
    cases rv
    exact ⟨z, rfl, rfl, k1 H1 .refl r1 _ (.bl _)⟩
  | _ => exact k1.elim
theorem or_inK {X : Cx} {d : Addr} {es : Array DictEntry} {n : Nat} {g : Int → Bool} (hK : X.K = G.K) (D : KDictI G.K d es n) (hg : ∀ z, (findBy Value.isInt es z).isSome = g z) : OpR X (compareOp .In) (fun x y H Q => ∃ z : Int, x = .int z ∧ y = .ref d ∧ Q (.bl (g z)) H) := by
  intro pins s σ H x y v u Q I rx ry h
  obtain ⟨z, h1, h2, q⟩ := h
  exact op_in_kdi (by rw [hK]; exact D) pins s σ H x y v u Q I rx ry ⟨z, h1, h2, by rw [hg]; exact q⟩
theorem or_notinK {X : Cx} {d : Addr} {es : Array DictEntry} {n : Nat} {g : Int → Bool} (hK : X.K = G.K) (D : KDictI G.K d es n) (hg : ∀ z, (findBy Value.isInt es z).isSome = g z) : OpR X (compareOp .NotIn) (fun x y H Q => ∃ z : Int, x = .int z ∧ y = .ref d ∧ Q (.bl (!g z)) H) := by
  intro pins s σ H x y v u Q I rx ry h
  obtain ⟨z, h1, h2, q⟩ := h
  exact op_notIn_kdi (by rw [hK]; exact D) pins s σ H x y v u Q I rx ry ⟨z, h1, h2, by rw [hg]; exact q⟩
theorem ix_kdi {X : Cx} {d : Addr} {es : Array DictEntry} {n : Nat} (D : KDictI X.K d es n) : IxR X (fun x y H Q => ∃ (z : Int) (u0 : Value) (v0 : V), x = .ref d ∧ y = .int z ∧ findBy Value.isInt es z = some u0 ∧ RelV v0 u0 ∧ Q v0 H) := by
  intro value slice pins s σ H x y v u Q I rx ry h hs
  obtain ⟨z, u0, v0, rfl, rfl, e, r, q⟩ := h
  obtain rfl : v = Value.ref d := rx
  obtain ⟨t, rfl⟩ := ry
  have hm := mapOf_I (prog := X.prog) (w := X.w) I.kIn D
  exact tail_any hm.typeIs slot_dict_getitem.lookup (wpAny_getItem_of (intKind_is X.prog X.w z t) hm e ⟨v0, H, I.tok _, r, q⟩) hs
def eIxK (g : Int → Option PyData) (fa : RS → Rs PyData) : RS → Rs PyData := fun ρ => (fa ρ).bind fun d ρ1 => match d with
  | .int z => Rs.of (g z) ρ1
  | _ => .no
/-- what the written dict holds, as data -/
def HoldsK (K : PySem.W.Frag) (es : Array DictEntry) (g : Int → Option PyData) : Prop := ∀ z d, g z = some d → ∃ (u0 : Value) (v0 : V), findBy Value.isInt es z = some u0 ∧ RelV v0 u0 ∧ ∀ A H, Rep K A H v0 d
theorem de_ixK {d : Addr} {es : Array DictEntry} {n : Nat} {g : Int → Option PyData} {a : Expr} {fa : RS → Rs PyData} {x : Str} {p : Pos} (F : Fam X G W k) (D : KDictI G.K d es n) (hv : HoldsK G.K es g) (ha : DE X G W a fa) (hg : ∀ i, Gl (X i) x) (hm : ∀ i, (X i).mg x = some (.ref d))
    (hs : PlainIx a := by intro _ _; rfl) (hd : (x == ("__debug__" : Str)) = false := by decide) : DE X G W (.Subscript (.Name x p) a pos) (eIxK g fa) := by
  obtain ⟨ta, pa, la⟩ := ha
  refine ⟨_, fun i => pe_ix (ix_kdi (X := X i) (d := d) (es := es) (n := n) (by rw [F.K i]; exact D)) (pe_glob (v := .ref d) (hg i) (hm i) rfl hd) (pa i) hs, fun Fg O ρ σ H Q r0 h => ?_⟩
  refine la Fg O ρ σ H _ r0 ((GP.bind h).imp fun dd ρ1 H1 e1 r1 k1 v rv => ?_)
  cases dd with
  | int z =>
    cases rv
    obtain ⟨d0, e, kk⟩ := GP.of k1
    obtain ⟨u0, v0, h1, h2, h3⟩ := hv z d0 e
    exact ⟨z, u0, v0, rfl, rfl, h1, h2, kk H1 .refl r1 _ (h3 _ _)⟩
  | _ => exact k1.elim
end
end DL

-- text DL26
set_option Elab.async false
set_option linter.all false
set_option maxRecDepth 100000
set_option maxHeartbeats 2000000
namespace DL
open PySem PySem.Spec PyProof.Rows L2 GxR
/-! ### a dict that a def fills: whole numbers to bools (the def as a whole) -/
/-- the heap goes on; the dict at Dk may be written -/
structure ExtD (Dk : Addr) (O : List Addr) (H H' : Hp) : Prop where
  keep : ∀ a u, a ≠ Dk → H a = some u → (∀ ps, u ≠ .tbl ps) → (a ∉ O ∨ ∀ xs, u ≠ .lst xs) → H' a = some u
  tab : ∀ P, TabG H P → TabG H' P
  dom : ∀ a, H' a = none → H a = none
section
variable {Dk : Addr} {O : List Addr} {H H1 H2 : Hp} {kvs : List (Key × V)}
theorem Ext.toD (e : Ext O H H1) : ExtD Dk O H H1 := ⟨fun a u _ => e.keep a u, e.tab, e.dom⟩
theorem ExtD.refl : ExtD Dk O H H := ⟨fun _ _ _ e _ _ => e, fun _ t => t, fun _ h => h⟩
theorem ExtD.trans (a : ExtD Dk O H H1) (b : ExtD Dk O H1 H2) : ExtD Dk O H H2 :=
  ⟨fun c u n e1 e2 e3 => b.keep c u n (a.keep c u n e1 e2 e3) e2 e3, fun P t => b.tab P (a.tab P t), fun c h => a.dom c (b.dom c h)⟩
theorem ExtD.ext' (b : ExtD Dk O H1 H2) (a : Ext O H H1) (h : H Dk = none) : Ext O H H2 :=
  ⟨fun c u e1 e2 e3 => b.keep c u (fun z => by rw [z, h] at e1; cases e1) (a.keep c u e1 e2 e3) e2 e3, fun P t => b.tab P (a.tab P t), fun c q => a.dom c (b.dom c q)⟩
theorem ne_dk {a : Addr} {u : HO} (hk : H Dk = some (.dK kvs)) (h : H a = some u) (hu : u ≠ .dK kvs) : a ≠ Dk := fun z => by
  rw [z, hk] at h
  exact hu (Option.some.inj h).symm
theorem extD_put (hk : H Dk = some (.dK kvs)) (u : HO) : ExtD Dk O H (upd H Dk u) := by
  refine ⟨fun a w n e _ _ => by rw [upd_ne n]; exact e, fun P ⟨ps, e, t⟩ => ⟨ps, ?_, t⟩, fun a e => ?_⟩
  · rw [upd_ne (ne_dk hk e (by intro z; cases z))]; exact e
  · by_cases hb : a = Dk
    · subst hb; rw [upd_same] at e; cases e
    · rw [upd_ne hb] at e; exact e
end
section
variable {K : PySem.W.Frag} {A A' O : List Addr} {H H' : Hp} {Dk : Addr} {kvs : List (Key × V)}
theorem SqT.extD {a : Addr} {xs : List V} (r : SqT K H a xs) (hk : H Dk = some (.dK kvs)) (e : ExtD Dk O H H') : SqT K H' a xs := by
  rcases r with (r | ⟨o, r⟩) | r
  · exact .inl (.inl (e.keep _ _ (ne_dk hk r (by intro z; cases z)) r (by intro ps z; cases z) (.inr (by intro xs z; cases z))))
  · exact .inl (.inr ⟨o, e.keep _ _ (ne_dk hk r (by intro z; cases z)) r (by intro ps z; cases z) (.inr (by intro xs z; cases z))⟩)
  · exact .inr r
theorem ScrAt.extD {a : Addr} {xs : List V} (r : ScrAt K A H a xs) (hk : H Dk = some (.dK kvs)) (ho : ∀ a ∈ O, a ∈ A ∨ H a = none) (e : ExtD Dk O H H') (g : ∀ a ∈ A', a ∈ A ∨ H a = none) : ScrAt K A' H' a xs := by
  rcases r with ⟨h, n⟩ | ⟨o, h⟩ | h
  · refine .inl ⟨e.keep a _ (ne_dk hk h (by intro z; cases z)) h (by intro ps z; cases z) (.inl fun m => ?_), fun m => ?_⟩
    · rcases ho a m with z | z
      · exact n z
      · rw [z] at h; cases h
    · rcases g a m with z | z
      · exact n z
      · rw [z] at h; cases h
  · exact .inr (.inl ⟨o, e.keep a _ (ne_dk hk h (by intro z; cases z)) h (by intro ps z; cases z) (.inr (by intro xs z; cases z))⟩)
  · exact .inr (.inr h)
mutual
theorem Rep.extD : ∀ {v : V} {d : PyData}, Rep K A H v d → H Dk = some (.dK kvs) → (∀ a ∈ O, a ∈ A ∨ H a = none) → ExtD Dk O H H' → (∀ a ∈ A', a ∈ A ∨ H a = none) → Rep K A' H' v d
  | _, _, .non, _, _, _, _ => .non
  | _, _, .bl b, _, _, _, _ => .bl b
  | _, _, .int i, _, _, _, _ => .int i
  | _, _, .str x, _, _, _, _ => .str x
  | _, _, .lst r hA rs, hk, ho, e, g => .lst (e.keep _ _ (ne_dk hk r (by intro z; cases z)) r (by intro ps z; cases z) (.inl fun m => by
      rcases ho _ m with q | q
      · exact hA q
      · rw [q] at r; cases r)) (fun m => by
      rcases g _ m with q | q
      · exact hA q
      · rw [q] at r; cases r) (RepAll.extD rs hk ho e g)
  | _, _, .scr r, hk, ho, e, g => .scr (r.extD hk ho e g)
  | _, _, .dct r, hk, ho, e, g => .dct (e.keep _ _ (ne_dk hk r (by intro z; cases z)) r (by intro ps z; cases z) (.inr (by intro xs z; cases z)))
  | _, _, .tup r rs, hk, ho, e, g => .tup (SqT.extD r hk e) (RepAll.extD rs hk ho e g)
theorem RepAll.extD : ∀ {vs : List V} {ds : List PyData}, RepAll K A H vs ds → H Dk = some (.dK kvs) → (∀ a ∈ O, a ∈ A ∨ H a = none) → ExtD Dk O H H' → (∀ a ∈ A', a ∈ A ∨ H a = none) → RepAll K A' H' vs ds
  | _, _, .nil, _, _, _, _ => .nil
  | _, _, .cons r rs, hk, ho, e, g => .cons (Rep.extD r hk ho e g) (RepAll.extD rs hk ho e g)
end
end
theorem R.putD {G : DL.Ctx} {Fg : List Addr} {O : Own} {ρ : RS} {σ : L2.St} {H : Hp} {Dk : Addr} {kvs : List (Key × V)} (r : R G Fg O ρ σ H) (hk : H Dk = some (.dK kvs)) (u : HO) : R G Fg O ρ σ (L2.upd H Dk u) := by
  have e : ExtD Dk [] H (L2.upd H Dk u) := extD_put hk u
  have keepL : ∀ (a : Addr) (xs : List V), H a = some (.lst xs) → L2.upd H Dk u a = some (.lst xs) := fun a xs h => by rw [upd_ne (ne_dk hk h (by intro z; cases z))]; exact h
  refine ⟨r.len, fun i x q => ?_, fun i xs q => ?_, r.key, r.inj, r.fg, r.occ, fun P hP => e.tab P (r.tabs P hP), fun b m => ?_, r.raw⟩
  · obtain ⟨v, h1, h2⟩ := r.val i x q
    exact ⟨v, h1, h2.extD hk (by simp) e fun _ m => .inl m⟩
  · obtain ⟨b, ws, h1, h2, h3, h4⟩ := r.own i xs q
    exact ⟨b, ws, h1, h2, keepL _ _ h3, h4.extD hk (by simp) e fun _ m => .inl m⟩
  · obtain ⟨xs, h⟩ := r.all b m
    exact ⟨xs, keepL _ _ h⟩
/-- the slots, the dict of the slot c -/
structure RGk (G : DL.Ctx) (Fg : List Addr) (O : Own) (c : Nat) (Dk : Addr) (ρ : RS) (ps : List (Int × Bool)) (σ : L2.St) (H : Hp) : Prop where
  r : R G Fg O ρ σ H
  at_ : σ[c]? = some (some (V.ref Dk))
  dk : H Dk = some (.dK (dctV ps))
inductive GO where
  | nx (ρ : RS) (ps : List (Int × Bool))
  | rn (ρ : RS)
  | no
def SPG (G : DL.Ctx) (Fg : List Addr) (O : Own) (c : Nat) (Dk : Addr) (H : Hp) (D : Ends) : GO → Prop
  | .nx ρ ps => ∀ σ' H', ExtD Dk (adr O) H H' → RGk G Fg O c Dk ρ ps σ' H' → D.nx σ' H'
  | .rn ρ => ∀ ps σ' H', ExtD Dk (adr O) H H' → RGk G Fg O c Dk ρ ps σ' H' → D.rt .non H'
  | .no => False
section
variable {G : DL.Ctx} {Fg : List Addr} {O : Own} {c : Nat} {Dk : Addr} {ρ : RS} {ps : List (Int × Bool)} {σ : L2.St} {H H' : Hp} {D : Ends}
theorem RGk.ext (r : RGk G Fg O c Dk ρ ps σ H) (e : Ext (adr O) H H') {ρ' : RS} (r' : R G Fg O ρ' σ H') : RGk G Fg O c Dk ρ' ps σ H' :=
  ⟨r', r.at_, e.keep _ _ r.dk (by intro ps z; cases z) (.inr (by intro xs z; cases z))⟩
theorem SPG.shift {o : GO} (h : SPG G Fg O c Dk H D o) (e : ExtD Dk (adr O) H H') : SPG G Fg O c Dk H' D o := by
  cases o with
  | nx ρ ps => exact fun σ' H2 e2 r => h σ' H2 (e.trans e2) r
  | rn ρ => exact fun ps σ' H2 e2 r => h ps σ' H2 (e.trans e2) r
  | no => exact h
end
section
variable {ι : Type} (X : ι → Cx) (G : DL.Ctx) (c : Nat)
structure DGS (st : Stmt) (f : RS → List (Int × Bool) → GO) : Prop where
  ex : ∃ t : TS, (∀ i, PS (X i) st t) ∧ ∀ Dk Fg O ρ ps σ H D, RGk G Fg O c Dk ρ ps σ H → SPG G Fg O c Dk H D (f ρ ps) → t D σ H
structure DGSs (st : List Stmt) (f : RS → List (Int × Bool) → GO) : Prop where
  ex : ∃ t : TS, (∀ i, PSs (X i) st t) ∧ ∀ Dk Fg O ρ ps σ H D, RGk G Fg O c Dk ρ ps σ H → SPG G Fg O c Dk H D (f ρ ps) → t D σ H
/-- items walked while the dict is written -/
def WalkG (Dk : Addr) (S B : List Addr) (H : Hp) (J : It) (ds : List PyData) : Prop := ∀ H', ExtD Dk S H H' → ∀ i : Nat,
  (∀ d, ds[i]? = some d → J.go i H' ∧ ∀ x H'', J.yld i H' x H'' → Ext [] H' H'' ∧ Rep G.K B H'' x d) ∧ (ds.length ≤ i → J.stop i H')
structure DIG (tg iter : Expr) (f : RS → Option (List PyData × RS)) : Prop where
  ex : ∃ wi : TI, (∀ i, PI (X i) tg iter wi) ∧ ∀ Dk Fg O ρ ps σ H Q, RGk G Fg O c Dk ρ ps σ H → (∃ ds ρ', f ρ = some (ds, ρ') ∧ ∀ H', Ext (adr O) H H' → RGk G Fg O c Dk ρ' ps σ H' → ∀ J, WalkG G Dk (adr O) (adr O ++ Fg) H' J ds → Q J H') → wi σ H Q
end
section
variable {ι : Type} {X : ι → Cx} {G : DL.Ctx} {W : WX} {c : Nat} {k : Nat} {pos : Pos}
theorem dgss_nil : DGSs X G c [] (fun ρ ps => .nx ρ ps) := ⟨_, fun _ => pss_nil, fun Dk Fg O ρ ps σ H D r h => h σ H .refl r⟩
def gThen (f g : RS → List (Int × Bool) → GO) : RS → List (Int × Bool) → GO := fun ρ ps => match f ρ ps with
  | .nx ρ1 ps1 => g ρ1 ps1
  | o => o
theorem dgss_one {st : Stmt} {f : RS → List (Int × Bool) → GO} (h : DGS X G c st f) : DGSs X G c [st] f := by
  obtain ⟨t, p, l⟩ := h
  exact ⟨_, fun i => pss_one (p i), l⟩
theorem dgss_cons {st : Stmt} {rest : List Stmt} {f g : RS → List (Int × Bool) → GO} (h1 : DGS X G c st f) (h2 : DGSs X G c rest g) : DGSs X G c (st :: rest) (gThen f g) := by
  obtain ⟨t, p, l⟩ := h1
  obtain ⟨t2, p2, l2⟩ := h2
  refine ⟨_, fun i => pss_cons (p i) (p2 i), fun Dk Fg O ρ ps σ H D r h => l Dk Fg O ρ ps σ H _ r ?_⟩
  unfold gThen at h
  cases e : f ρ ps with
  | nx ρ1 ps1 =>
    rw [e] at h
    exact fun σ1 H1 e1 r1 => l2 Dk Fg O ρ1 ps1 σ1 H1 D r1 (SPG.shift h e1)
  | rn ρ1 => rw [e] at h; exact h
  | no => rw [e] at h; exact h
theorem wipe_get' {σ σ' : L2.St} {vs : List Nat} {i : Nat} (h : wipe σ' vs = wipe σ vs) (hi : i ∉ vs) : σ'[i]? = σ[i]? := by
  rw [← wipe_get (σ := σ') hi, h, wipe_get hi]
/-- a target, the dict left alone -/
theorem rg_set {tg : Expr} {vs : List Nat} {g : PyData → RS → Option RS} (hc : c ∉ vs) {Fg : List Addr} {O : Own} {Dk : Addr} {ρ ρ' : RS} {ps : List (Int × Bool)} {σ σ' : L2.St} {H : Hp} (r : RGk G Fg O c Dk ρ ps σ H) (r' : R G Fg O ρ' σ' H)
    (hw : ∀ ws : List Nat, (∀ j ∈ vs, j ∈ ws) → wipe σ' ws = wipe σ ws) : RGk G Fg O c Dk ρ' ps σ' H :=
  ⟨r', (wipe_get' (hw vs fun _ m => m) hc).trans r.at_, r.dk⟩
def gAsg (fe : RS → Rs PyData) (g : PyData → RS → Option RS) : RS → List (Int × Bool) → GO := fun ρ ps => match fe ρ with
  | .ok d ρ1 => (match g d ρ1 with
    | some ρ2 => .nx ρ2 ps
    | none => .no)
  | _ => .no
theorem dgs_asg {e tg : Expr} {fe : RS → Rs PyData} {vs : List Nat} {gt : PyData → RS → Option RS} (hc : c ∉ vs) (he : DE X G W e fe) (hg : DG X G tg vs gt) (hs : ∀ i, swapsWithSole [tg] e pos.line (X i).env = pure false := by intro _; rfl) (hw : ∀ i, swappedStores [tg] e (X i).env = pure none := by intro _; rfl)
    (h1 : ∀ i, (assignEach [tg] (X i).env).map (·.2) = [assign tg (X i).env] := by intro _; rfl) : DGS X G c (.Assign [tg] e pos) (gAsg fe gt) := by
  obtain ⟨t, p, l⟩ := he
  obtain ⟨t2, p2, l2⟩ := hg
  refine ⟨_, fun i => ps_asg (p i) (p2 i) (hs i) (hw i) (h1 i), fun Dk Fg O ρ ps σ H D r h => ?_⟩
  unfold gAsg at h
  cases e : fe ρ with
  | ex a b d => rw [e] at h; exact h.elim
  | no => rw [e] at h; exact h.elim
  | ok d ρ1 =>
    rw [e] at h
    refine l Fg O ρ σ H _ r.r (gp_at d ρ1 e fun H1 e1 r1 v rv => ?_)
    cases q : gt d ρ1 with
    | none => simp only [q] at h; exact h.elim
    | some ρ2 =>
      simp only [q] at h
      exact l2 Fg O ρ1 σ H1 v d ρ2 _ r1 rv q fun σ2 r2 hw2 => h σ2 H1 e1.toD (rg_set (tg := tg) (g := gt) hc (r.ext e1 r1) r2 hw2)
def gIf (fc : RS → Rs Bool) (f g : RS → List (Int × Bool) → GO) : RS → List (Int × Bool) → GO := fun ρ ps => match fc ρ with
  | .ok true ρ1 => f ρ1 ps
  | .ok false ρ1 => g ρ1 ps
  | _ => .no
theorem dgs_if {e : Expr} {a b : List Stmt} {fc : RS → Rs Bool} {f g : RS → List (Int × Bool) → GO} (hc : DT X G W e fc) (ha : DGSs X G c a f) (hb : DGSs X G c b g) : DGS X G c (.If e a b pos) (gIf fc f g) := by
  obtain ⟨t, p, l⟩ := hc
  obtain ⟨t1, p1, l1⟩ := ha
  obtain ⟨t2, p2, l2⟩ := hb
  refine ⟨_, fun i => ps_if (p i) (p1 i) (p2 i), fun Dk Fg O ρ ps σ H D r h => ?_⟩
  unfold gIf at h
  cases e : fc ρ with
  | ex a b d => rw [e] at h; exact h.elim
  | no => rw [e] at h; exact h.elim
  | ok q ρ1 =>
    rw [e] at h
    refine l Fg O ρ σ H _ r.r (gp_at q ρ1 e fun H1 e1 r1 => ?_)
    cases q with
    | true => exact ite_tt (l1 Dk Fg O ρ1 ps σ H1 D (r.ext e1 r1) (SPG.shift h e1.toD))
    | false => exact ite_ff (l2 Dk Fg O ρ1 ps σ H1 D (r.ext e1 r1) (SPG.shift h e1.toD))
def gForL (g : PyData → RS → Option RS) (fb : RS → List (Int × Bool) → GO) : List PyData → RS → List (Int × Bool) → GO
  | [], ρ, ps => .nx ρ ps
  | x :: xs, ρ, ps => match g x ρ with
    | none => .no
    | some ρ1 => (match fb ρ1 ps with
      | .nx ρ2 ps2 => gForL g fb xs ρ2 ps2
      | o => o)
def gFor (fi : RS → Option (List PyData × RS)) (g : PyData → RS → Option RS) (fb : RS → List (Int × Bool) → GO) : RS → List (Int × Bool) → GO := fun ρ ps => match fi ρ with
  | some (ds, ρ1) => gForL g fb ds ρ1 ps
  | none => .no
theorem dgs_for {tg iter : Expr} {body : List Stmt} {fi : RS → Option (List PyData × RS)} {vs : List Nat} {g : PyData → RS → Option RS} {fb : RS → List (Int × Bool) → GO} (F : Fam X G W k) (hc : c ∉ vs) (hp : ∀ i, PassesOwn (model (X i).prog (X i).w) (X i).A (X i).env (X i).xe) (hi : DIG X G c tg iter fi) (hg : DG X G tg vs g) (hb : DGSs X G c body fb)
    (hs : ∀ i x, foldedSetIterable iter (X i).env x = pure x := by intro _ _; rfl) : DGS X G c (.For tg iter body [] pos) (gFor fi g fb) := by
  obtain ⟨wi, pi, li⟩ := hi
  obtain ⟨gt, pg, lg⟩ := hg
  obtain ⟨t2, p2, l2⟩ := hb
  refine ⟨_, fun i => ps_for (hp i) (F.calm i) (pi i) (pg i) (p2 i) (hs i), fun Dk Fg O ρ ps σ H D r h => ?_⟩
  unfold gFor at h
  cases e : fi ρ with
  | none => rw [e] at h; exact h.elim
  | some q =>
    obtain ⟨items, ρ1⟩ := q
    rw [e] at h
    refine li Dk Fg O ρ ps σ H _ r ⟨items, ρ1, e, fun H1 e1 r1 J wd => ?_⟩
    refine ⟨fun i m σ' H' => m = items.length - i ∧ i ≤ items.length ∧ ∃ ρ' ps', ExtD Dk (adr O) H1 H' ∧ RGk G Fg O c Dk ρ' ps' σ' H' ∧ SPG G Fg O c Dk H' D (gForL g fb (items.drop i) ρ' ps'),
      ⟨items.length, by simp, Nat.zero_le _, ρ1, ps, .refl, r1, by simpa using SPG.shift h e1.toD⟩, fun i m σ2 H2 hW => ?_⟩
    obtain ⟨hm, hi, ρ2, ps2, ev, r2, k2⟩ := hW
    obtain ⟨w1, w2⟩ := wd H2 ev i
    by_cases hlt : i < items.length
    · obtain ⟨go, yl⟩ := w1 items[i] (List.getElem?_eq_getElem hlt)
      rw [drop_get hlt] at k2
      refine .inr ⟨go, fun σ' H' => (fun i m σ' H' => m = items.length - i ∧ i ≤ items.length ∧ ∃ ρ' ps', ExtD Dk (adr O) H1 H' ∧ RGk G Fg O c Dk ρ' ps' σ' H' ∧ SPG G Fg O c Dk H' D (gForL g fb (items.drop i) ρ' ps')) (i + 1) (items.length - (i + 1)) σ' H',
        fun σ' H' w => ⟨_, by omega, w⟩, fun x H3 y3 => ?_⟩
      obtain ⟨e3, rx⟩ := yl x H3 y3
      have e3' : Ext (adr O) H2 H3 := e3.mono (by simp)
      unfold gForL at k2
      cases q : g items[i] ρ2 with
      | none => rw [q] at k2; exact k2.elim
      | some ρ3 =>
        rw [q] at k2
        refine lg Fg O ρ2 σ2 H3 x items[i] ρ3 _ (r2.r.ext0 e3) rx q fun σ3 r3 hw3 => ?_
        have r3' : RGk G Fg O c Dk ρ3 ps2 σ3 H3 := rg_set (tg := tg) (g := g) hc (r2.ext e3' (r2.r.ext0 e3)) r3 hw3
        refine l2 Dk Fg O ρ3 ps2 σ3 H3 _ r3' ?_
        cases z : fb ρ3 ps2 with
        | nx ρ4 ps4 =>
          simp only [z] at k2
          exact fun σ' H' e' r' => ⟨rfl, hlt, ρ4, ps4, (ev.trans e3'.toD).trans e', r', SPG.shift (SPG.shift k2 e3'.toD) e'⟩
        | rn ρ4 =>
          simp only [z] at k2
          exact SPG.shift (o := .rn ρ4) k2 e3'.toD
        | no => simp only [z] at k2; exact k2.elim
    · have hl : items.length ≤ i := Nat.le_of_not_lt hlt
      rw [List.drop_of_length_le hl] at k2
      exact .inl ⟨w2 hl, k2 σ2 H2 .refl r2⟩
/-- enumerate(e), e a tuple -/
def iEnumG (fs : RS → Rs (List PyData)) : RS → Option (List PyData × RS) := fun ρ => match fs ρ with
  | .ok [.tuple xs] ρ1 => some (enumD xs, ρ1)
  | _ => none
theorem dig_enum {e : Expr} {p tpos : Pos} {elts : List Expr} {kk : Nat} {fs : RS → Rs (List PyData)} (F : Fam X G W k) (hg : ∀ i, Gl (X i) "enumerate") (hm : ∀ i, (X i).mg "enumerate" = none) (ha : DA X G W [e] fs) (hs : ∀ i, starEach [e] (X i).env = [(false, eval e (X i).env)] := by intro _; rfl) :
    DIG X G c (.Tuple elts kk tpos) (.Call (.Name "enumerate" p) [e] [] pos) (iEnumG fs) := by
  obtain ⟨t, pa, la⟩ := ha
  refine ⟨iEnumS G.K t, fun i => by rw [← F.K i]; exact pi_enumS (hg i) (hm i) (pa i) (hs i), fun Dk Fg O ρ ps σ H Q r h => ?_⟩
  obtain ⟨ds, ρ', e, h⟩ := h
  unfold iEnumG at e
  split at e
  case h_2 => cases e
  rename_i xs ρ1 e0
  cases e
  refine la Fg O ρ σ H _ r.r (gp_at _ _ e0 fun H1 e1 r1 vs rv => ?_)
  have r1' := r.ext e1 r1
  match vs, rv with
  | [_], .cons (.tup (xs := us) (a := a) q1 rs1) .nil =>
    refine ⟨a, rfl, .inr ⟨⟨us, q1⟩, h H1 e1 r1' _ fun H' e i => ?_⟩⟩
    have g1 : SqT G.K H' a us := SqT.extD q1 r1'.dk e
    refine ⟨fun d hd => ?_, fun hl => ⟨us, g1, by rw [rs1.length]; simpa [enumD] using hl⟩⟩
    obtain ⟨x, hx, rfl⟩ := enum_get hd
    obtain ⟨v1, hv1, rv1⟩ := (rs1.extD r1'.dk (fun a m => .inl (List.mem_append_left _ m)) e fun _ m => .inl m).get hx
    refine ⟨⟨us, v1, g1, hv1⟩, fun z H'' yy => ?_⟩
    obtain ⟨T, x1, rfl, nT, rfl, f1⟩ := yy
    have z1 := f1 us g1
    rw [hv1] at z1
    cases z1
    exact ⟨ext_new nT, .tup (.inl (.inl upd_same)) (rep_new (.cons (.int _) (.cons rv1 .nil)) nT)⟩
/-! ### found.setdefault(key, value) != value2 -/
def lookI (ps : List (Int × Bool)) (z : Int) : Option Bool := (ps.find? fun p => p.1 == z).map (·.2)
theorem look_dct (z : Int) : ∀ ps : List (Int × Bool), valV (dctV ps) (.inl z) = (lookI ps z).map V.bl
  | [] => rfl
  | p :: ps => by
    have ih := look_dct z ps
    unfold lookI dctV at *
    rw [List.map_cons, List.find?_cons]
    by_cases h : p.1 = z
    · rw [valV_pos (by rw [h])]
      have : (p.1 == z) = true := by simpa using h
      rw [this]
      rfl
    · rw [valV_neg (fun q => h (Sum.inl.inj q)), ih]
      have : (p.1 == z) = false := by simpa using h
      rw [this]
def gSetd (fk f1 f2 : RS → Rs PyData) : RS → List (Int × Bool) → GO := fun ρ ps => match fk ρ with
  | .ok (.int z) ρ1 => (match f1 ρ1 with
    | .ok (.bool b) ρ2 => if Nat.ble ps.length 1000 then (match f2 ρ2 with
      | .ok (.bool b2) ρ3 => (match lookI ps z with
        | some u => if u == b2 then .nx ρ3 ps else .rn ρ3
        | none => if b == b2 then .nx ρ3 (ps ++ [(z, b)]) else .rn ρ3)
      | _ => .no) else .no
    | _ => .no)
  | _ => .no
theorem dgs_setd {y : Str} {ek e1 e2 : Expr} {rr : R2} {fk f1 f2 : RS → Rs PyData} {py apos cpos qpos rpos tpos : Pos} {j : Nat} (F : Fam X G W k) (hN : ∀ i, (X i).N[c]? = some y) (hv : ∀ i, Vis (X i).env.scope y)
    (hk : DE X G W ek fk) (h1 : DE X G W e1 f1) (h2 : DE X G W e2 f2) (m : ∀ i, M2 (X i) (.Name y py) "setdefault" apos ek e1 cpos) (ho : ∀ i, OpR (X i) (compareOp .NotEq) rr) (od : OpD G rr gNe) (hm : behindInMarks .NotEq e2 = false)
    (hd : (y == ("__debug__" : Str)) = false := by decide) (hcd : (y == ("__classdict__" : Str)) = false := by decide) :
    DGS X G c (.If (.Compare (.Call (.Attribute (.Name y py) "setdefault" apos) [ek, e1] [] cpos) [.NotEq] [e2] qpos) [.Return (some (.Constant .none j rpos)) tpos] [] pos) (gSetd fk f1 f2) := by
  obtain ⟨tk, pk, lk⟩ := hk
  obtain ⟨t1, p1, l1⟩ := h1
  obtain ⟨t2, p2, l2⟩ := h2
  refine ⟨_, fun i => ps_if (pt_cmpR (ho i) (pe_dsetd (pe_var (hN i) (hv i) hd hcd) (pk i) (p1 i) (m i)) (p2 i) hm) (pss_one (ps_ret pe_non)) pss_nil, fun Dk Fg O ρ ps σ H D r h => ?_⟩
  unfold gSetd at h
  split at h
  case h_2 => exact h.elim
  rename_i z ρ1 ek
  split at h
  case h_2 => exact h.elim
  rename_i b ρ2 e1
  by_cases hl : Nat.ble ps.length 1000 = true
  case neg => rw [if_neg hl] at h; exact h.elim
  rw [if_pos hl] at h
  have hl : ps.length ≤ 1000 := Nat.le_of_ble_eq_true hl
  split at h
  case h_2 => exact h.elim
  rename_i b2 ρ3 e2
  have tail : ∀ (u : Bool) (ps' : List (Int × Bool)) (H3 : Hp), ExtD Dk (adr O) H H3 → RGk G Fg O c Dk ρ2 ps' σ H3 → (SPG G Fg O c Dk H D (if u == b2 then .nx ρ3 ps' else .rn ρ3)) →
      t2 σ H3 fun y H4 => rr (.bl u) y H4 fun x H5 => ∃ q, x = .bl q ∧ if q = true then D.rt .non H5 else D.nx σ H5 := fun u ps' H3 e3 r3 h => by
    refine l2 Fg O ρ2 σ H3 _ r3.r (gp_at _ _ e2 fun H4 e4 r4 v rv => ?_)
    obtain rfl := rep_bl rv
    have gn : gNe (.bool u) (.bool b2) = some (.bool (!(u == b2))) := by cases u <;> cases b2 <;> rfl
    refine od _ H4 _ _ (.bool u) (.bool b2) _ _ r4.all (.bl u) (.bl b2) gn fun w H5 s rw5 => ?_
    obtain rfl := rep_bl rw5
    have e5 : Ext (adr O) H3 H5 := e4.trans' (.of_same s)
    have r5 := r3.ext e5 (r4.ext0 (.of_same s))
    refine ⟨_, rfl, ?_⟩
    by_cases q : (u == b2) = true
    · rw [if_pos q] at h
      rw [q]
      exact ite_ff (h σ H5 (e3.trans e5.toD) r5)
    · rw [if_neg q] at h
      have q : (u == b2) = false := by simpa using q
      rw [q]
      exact ite_tt (h ps' σ H5 (e3.trans e5.toD) r5)
  refine ⟨_, r.at_, Dk, rfl, .inl ⟨_, .inl r.dk⟩, ?_⟩
  refine lk Fg O ρ σ H _ r.r (gp_at _ _ ek fun H1 e1' r1 v rv => ?_)
  obtain rfl := rep_int rv
  refine l1 Fg O ρ1 σ H1 _ r1 (gp_at _ _ e1 fun H2 e2' r2 v rv => ?_)
  obtain rfl := rep_bl rv
  have rg2 := (r.ext e1' r1).ext e2' r2
  have e02 : ExtD Dk (adr O) H H2 := (e1'.trans' e2').toD
  refine ⟨dctV ps, .inl z, rg2.dk, rfl, by rw [sizeLine_eq]; unfold dctV; rw [List.length_map]; omega, fun v hv => ?_, fun hn => ?_⟩
  · rw [look_dct] at hv
    cases q : lookI ps z with
    | none => rw [q] at hv; cases hv
    | some u =>
      rw [q] at hv h
      cases hv
      exact tail u ps H2 e02 rg2 h
  · rw [look_dct] at hn
    cases q : lookI ps z with
    | some u => rw [q] at hn; cases hn
    | none =>
      rw [q] at h
      have en : putK (dctV ps) (.inl z) (.bl b) = dctV (ps ++ [(z, b)]) := by
        rw [putK_new _ (by rw [look_dct, q]; rfl)]
        unfold dctV
        rw [List.map_append]
        rfl
      rw [en]
      exact tail b (ps ++ [(z, b)]) _ (e02.trans (extD_put rg2.dk _)) ⟨rg2.r.putD rg2.dk _, rg2.at_, upd_same⟩ h
/-! ### the def -/
/-- what an expression gives is locked for good -/
def tFrz (t : TE) : TE := fun σ H Q => t σ H fun x H1 => ∃ d u, H1 d = some u ∧ Mut (some u) ∧ ∀ od, Q x (upd H1 d (.frz od u))
theorem pe_frz {X : Cx} {e : Expr} {t : TE} (h : PE X e t) : PE X e (tFrz t) := by
  refine ⟨fun pins s σ H Q I hw => thn (h.run pins s σ H _ I hw) fun v s1 ⟨x, H1, I1, r, d, u, hd, mu, q⟩ => ?_⟩
  obtain ⟨od, I2⟩ := I1.lock hd mu
  exact ⟨x, _, I2, r, q od⟩
def sSteps (i j : Nat) (fa : RS → Rs PyData) (f : RS → List (Int × Bool) → GO) : RS → Out := fun ρ => match fa ρ with
  | .ok d ρ1 => (match setD i d ρ1 with
    | some ρ2 => if noOwn ρ2 j && Nat.blt j ρ2.length then (match f (ρ2.set j Sl.n) [] with
      | .nx ρ3 ps => .rt (dctD ps) ρ3
      | .rn ρ3 => .rt .none ρ3
      | .no => .no) else .no
    | none => .no)
  | _ => .no
theorem dss_steps {i j : Nat} {x y : Str} {a : Expr} {mid : Stmt} {fa : RS → Rs PyData} {f : RS → List (Int × Bool) → GO} {px py pt pt2 dpos rp rq : Pos} {kt k2} (F : Fam X G W k) (hi : ∀ q, (X q).N[i]? = some x) (hj : ∀ q, (X q).N[j]? = some y) (hij : i ≠ j)
    (hx : ∀ q, (X q).env.scope.names.lookup x = some .local) (hy : ∀ q, (X q).env.scope.names.lookup y = some .local) (hv : ∀ q, Vis (X q).env.scope y) (ha : DE X G W a fa) (hb : DGS X G j mid f)
    (hw : ∀ q, swappedStores [.Tuple [.Name x px, .Name y py] kt pt] (.Tuple [a, .Dict [] [] dpos] k2 pt2) (X q).env = pure (some [x, y]) := by intro _; rfl) (hs : ∀ q, swapsWithSole [.Tuple [.Name x px, .Name y py] kt pt] (.Tuple [a, .Dict [] [] dpos] k2 pt2) pos.line (X q).env = pure false := by intro _; rfl)
    (h1 : ∀ q, starEach [a, .Dict [] [] dpos] (X q).env = (false, eval a (X q).env) :: starEach [.Dict [] [] dpos] (X q).env := by intro _; rfl) (h2 : ∀ q, starEach [.Dict [] [] dpos] (X q).env = (false, eval (.Dict [] [] dpos) (X q).env) :: starEach [] (X q).env := by intro _; rfl)
    (hd : (y == ("__debug__" : Str)) = false := by decide) (hcd : (y == ("__classdict__" : Str)) = false := by decide) :
    DSs X G W [.Assign [.Tuple [.Name x px, .Name y py] kt pt] (.Tuple [a, .Dict [] [] dpos] k2 pt2) pos, mid, .Return (some (.Name y rp)) rq] (sSteps i j fa f) := by
  obtain ⟨t, p, l⟩ := ha
  obtain ⟨t2, p2, l2⟩ := hb
  refine ⟨_, fun q => pss_cons (ps_par (F.calm q) (F.nd q) (hi q) (hj q) hij (hx q) (hy q) (pa_cons (p q) (pa_cons pe_dnewK pa_nil (h2 q)) (h1 q)) (hw q) (hs q)) (pss_cons (p2 q) (pss_one (ps_ret (pe_frz (pe_var (hj q) (hv q) hd hcd))))), fun Fg O ρ σ H D r h => ?_⟩
  unfold sSteps at h
  split at h
  case h_2 => exact h.elim
  rename_i d ρ1 e1
  refine l Fg O ρ σ H _ r (gp_at _ _ e1 fun H1 e1' r1 v rv => ?_)
  split at h
  case h_2 => exact h.elim
  rename_i ρ2 e2
  by_cases hn : (noOwn ρ2 j && Nat.blt j ρ2.length) = true
  case neg => rw [if_neg hn] at h; exact h.elim
  rw [if_pos hn] at h
  rw [Bool.and_eq_true] at hn
  obtain ⟨hn, hjl⟩ := hn
  have hjl : j < ρ2.length := Nat.le_of_ble_eq_true hjl
  obtain ⟨n1, rfl⟩ := setD_ok e2
  intro Dk hDk
  refine ⟨v, .ref Dk, rfl, ?_⟩
  have r2 : R G Fg O ((ρ1.set i (Sl.d d)).set j Sl.n) ((σ.set i (some v)).set j (some (V.ref Dk))) H1 := (r1.set n1 rv).unset (noOwn_ok hn)
  have hsl : j < (σ.set i (some v)).length := by
    rw [List.length_set, r1.len]
    simpa using hjl
  have rg : RGk G Fg O j Dk ((ρ1.set i (Sl.d d)).set j Sl.n) [] ((σ.set i (some v)).set j (some (V.ref Dk))) (upd H1 Dk (.dK [])) :=
    ⟨r2.ext0 (ext_new hDk), by rw [List.getElem?_set_self hsl], upd_same⟩
  have e0 : Ext (adr O) H (upd H1 Dk (.dK [])) := e1'.trans' (ext_new hDk)
  have hD0 : H Dk = none := e1'.dom _ hDk
  refine l2 Dk Fg O _ [] _ _ _ rg ?_
  cases z : f ((ρ1.set i (Sl.d d)).set j Sl.n) [] with
  | no => simp only [z] at h; exact h.elim
  | rn ρ3 =>
    simp only [z] at h
    exact fun ps σ' H' e' r' => h O σ' .non H' (e'.ext' e0 hD0).evo r'.r .non
  | nx ρ3 ps =>
    simp only [z] at h
    intro σ' H' e' r'
    refine ⟨_, r'.at_, Dk, _, r'.dk, True.intro, fun od => ?_⟩
    exact h O σ' (.ref Dk) _ ((e'.trans (extD_put r'.dk _)).ext' e0 hD0).evo (r'.r.putD r'.dk _) (.dct upd_same)
/-! ### for a, b in found.items(): a dict that is done -/
def dctL : PyData → Option (List PyData)
  | .dict ps => if ps.all (fun p => match p with
      | (.int _, .bool _) => true
      | _ => false) then some (ps.map fun p => .tuple [p.1, p.2]) else none
  | _ => none
theorem rep_dct {K : PySem.W.Frag} {A : List Addr} {H : Hp} {v : V} {d : PyData} {ds : List PyData} (r : Rep K A H v d) (h : dctL d = some ds) : ∃ (a : Addr) (o : Obj) (ps : List (Int × Bool)), v = .ref a ∧ H a = some (.frz o (.dK (dctV ps))) ∧ ds = ps.map fun p => .tuple [.int p.1, .bool p.2] := by
  cases r with
  | @dct a o ps q =>
    refine ⟨a, o, ps, rfl, q, ?_⟩
    have h : (if (ps.map fun p => ((PyData.int p.1, PyData.bool p.2) : PyData × PyData)).all (fun p => match p with
      | (.int _, .bool _) => true
      | _ => false) then some ((ps.map fun p => ((PyData.int p.1, PyData.bool p.2) : PyData × PyData)).map fun p => .tuple [p.1, p.2]) else none) = some ds := h
    split at h
    · cases h
      rw [List.map_map]
      rfl
    · cases h
  | scr q => cases h
  | _ => cases h
def iItemsD (fe : RS → Rs PyData) : RS → Rs (List PyData) := fun ρ => (fe ρ).bind fun d ρ1 => Rs.of (dctL d) ρ1
theorem di_items {e : Expr} {fe : RS → Rs PyData} {elts : List Expr} {kk : Nat} {tpos apos cpos : Pos} (he : DE X G W e fe) (hbase : ∀ i, attributeBase e "items" (X i).env (eval e (X i).env) = eval e (X i).env := by intro _; rfl) (hline : (apos.endLine == cpos.line) = true := by rfl) :
    DI X G W (.Tuple elts kk tpos) (.Call (.Attribute e "items" apos) [] [] cpos) (iItemsD fe) := by
  obtain ⟨t, p, l⟩ := he
  refine ⟨_, fun i => pi_items (p i) (hbase i) hline, fun Fg O ρ σ H Q r h => ?_⟩
  refine l Fg O ρ σ H _ r ((GP.bind h).imp fun d ρ1 H1 e1 r1 k1 v rv => ?_)
  obtain ⟨ds, e, kk⟩ := k1.of
  obtain ⟨a, o, ps, rfl, hd, rfl⟩ := rep_dct rv e
  refine ⟨a, o, dctV ps, rfl, hd, kk H1 .refl r1 _ fun S A H' e hS hA i => ?_⟩
  have hd' : H' a = some (.frz o (.dK (dctV ps))) := e.keep a _ hd (by intro ps z; cases z) (.inr (by intro xs z; cases z))
  have hl : (dctV ps).length = ps.length := by unfold dctV; rw [List.length_map]
  refine ⟨fun d hd2 => ?_, fun hle => ⟨hd', by rw [hl]; simpa using hle⟩⟩
  rw [List.getElem?_map] at hd2
  obtain ⟨p, hp, rfl⟩ := Option.map_eq_some_iff.mp hd2
  have hi : i < ps.length := (List.getElem?_eq_some_iff.mp hp).1
  refine ⟨⟨hd', by rw [hl]; exact hi⟩, fun x H'' yy => ?_⟩
  obtain ⟨T, k, v, hkv, rfl, nT, rfl⟩ := yy
  have hkv : (ps.map fun p => ((.inl p.1 : Key), V.bl p.2))[i]? = some (k, v) := hkv
  rw [List.getElem?_map, hp] at hkv
  cases hkv
  exact ⟨ext_new nT, .tup (.inl (.inl upd_same)) (.cons (.int _) (.cons (.bl _) .nil))⟩
/-- {} as a value -/
theorem pe_dct0 {X : Cx} {pos : Pos} : PE X (.Dict [] [] pos) (tFrz tDNewK) := pe_frz pe_dnewK
theorem de_dct0 : DE X G W (.Dict [] [] pos) (eC (.dict [])) :=
  ⟨_, fun _ => pe_dct0, fun Fg O ρ σ H Q r h p hp => ⟨p, _, upd_same, True.intro, fun od => by
    have e1 : Ext (adr O) H (upd H p (.dK [])) := ext_new hp
    have rr := r.ext0 (H' := upd H p (.dK [])) (ext_new hp)
    have e2 : ExtD p (adr O) (upd H p (.dK [])) (upd (upd H p (.dK [])) p (.frz od (.dK []))) := extD_put (kvs := []) upd_same _
    exact h _ (e2.ext' e1 hp) (rr.putD (kvs := []) upd_same _) _ (.dct (ps := []) upd_same)⟩⟩
end
end DL

-- text SI
set_option Elab.async false
set_option linter.all false
set_option maxRecDepth 100000
set_option maxHeartbeats 2000000
namespace SI
open PySem PySem.Spec PyProof.Rows L2 NdefX LamX
open PySem.W (ks_superIn kxs_mw)
/-! ### super().__init__(..) of an own exception class (over own ones, over ValueError) -/
abbrev supS (es : List Expr) (p0 p1 p2 p3 p4 : Pos) : Stmt := .Expr (.Call (.Attribute (.Call (.Name "super" p0) [] [] p1) "__init__" p2) es [] p3) p4
/-- what the written part says of the class at C, of its __init__ at f -/
structure SupF (P : Program) (K : PySem.W.Frag) (mg : Str → Option Value) (C cda cc : Addr) : Prop where
  code : ∃ ccl cdd vs ccs file tf, K.lookup cda = some ⟨ccl, cdd, .fields vs, ccs⟩ ∧ vs[2]? = some (.str file tf) ∧ ((P.main.file : Str) == file) = true
  cell : ∃ cl cld csl, K.lookup cc = some ⟨cl, cld, .cell (some (.ref C)), csl⟩
  self : PySem.W.mroIn K C (.ref C) = some true
  cls : ∃ cd, PySem.W.clsIn K C = some cd
  super : mg "super" = none
  top : (P.main.scope.names.lookup ("super" : Str)).isSome = false
  init : ks_superIn K C C "__init__" = some (some (.builtin "ValueError.__init__"))
  opq : PySem.W.nsIn K cStatics "thirdparty.any" = some none
  sub : PySem.W.subIn K (.ref C) (.type "ValueError") = some true
theorem call_mw {prog : Program} {w : World} {A : Around} {E : Value → Shared → Prop} {h : Heap} {g : Array GenState} {d : Drawn} {t : Nat} {os : OsState} {nm q : Str} {C N : Addr} {bs bm : List Value} {hdct : Bool} {sn : List Str} {sub : List Value} {ab : Bool} {col : Option Bool} {dd : Option Addr} {k0 k1 k2 k3 k5 : Option Value}
    {u e t0 : Addr} {rest : List Value} {Q : Value → Shared → Prop}
    (hC : h.get? C = some (excClassObj nm q C N bs bm hdct sn sub ab col dd k0 k1 k2 k3 k5 "ValueError.__new__")) (he : h.get? e = some (PySem.W.excObj C t0 none .none)) (hu : h.get? u = some (kxs_mw "ValueError.__init__" e)) (hrest : rest.length ≤ sizeLine)
    (hq : ∀ h' t1, (∀ b o, b ≠ e → h.get? b = some o → h'.get? b = some o) → h'.get? e = some (PySem.W.excObj C t1 none .none) → Q .none ⟨h', g, d, t, os⟩) :
    wpAny (model prog w) A (call (.ref u) rest) Q E ⟨h, g, d, t, os⟩ := by
  refine wpAny_call (codeAny_of_tree ?_)
  show wpAny _ A.in1 (callAny (.ref u) ⟨rest, []⟩) _ _ _
  simp only [callAny]
  refine wpAny_bind (wpAny_load hu ?_)
  simp only [kxs_mw, show (Value.type "method-wrapper" == Value.type "method" || Value.type "method-wrapper" == Value.type "builtin_function_or_method" || Value.type "method-wrapper" == Value.type "method-wrapper") = true by decide, if_true]
  refine PySem.W.KFB.if_so (by decide) ?_
  refine wpAny_bind (PySem.W.check_bound_init F.excBase_ValueError.toExcCallFacts hC he rfl ?_)
  refine wpAny_bind (wpAny_pure (wpAny_pure ?_))
  refine ⟨plainId_quiet F.excBase_ValueError.init.plain _, codeAny_builtin F.excBase_ValueError.initEntry ?_⟩
  exact PySem.W.exc_init_tree (cls := .ref C) (t0 := t0) (dv := none) (c2 := .none) (c3 := .none) (b4 := .bool false) he hrest fun h' k e' _ => hq h' _ k e'
theorem callWith_mw {M : Model} {A : Around} {E : Value → Shared → Prop} {s : Shared} {u x : Addr} {i : String} {pos : Pos} {env : Env} {e : Expr} {rest : List Expr} {Q : Value → Shared → Prop}
    (h : wpAny M A (spliced (backTo pos (starEach (e :: rest) env))) (fun vs s₁ => PySem.W.KxsAt i u x s₁.heap ∧ wpAny M A (call (.ref u) vs) Q E s₁) E s)
    (he : starEach (e :: rest) env = (false, eval e env) :: starEach rest env) (hplain : (backTo pos (starEach rest env)).any (·.1) = false) :
    wpAny M A (callWith pos (.ref u) [] (backTo pos (starEach (e :: rest) env)) []) Q E s := by
  rw [he] at h ⊢
  refine PySem.W.kxs_callWith (i := i) (x := x) (by show (false || (backTo pos (starEach rest env)).any (·.1)) = false; rw [hplain]; rfl) ?_
  exact Calls.evalArgs_plain h
section
variable {CX : CXT} {P : Program} {w : World} {K : PySem.W.Frag} {mg : Str → Option Value} {base : Heap} {N ps : List Str} {F : NF} {f : Addr} {A : Around} {outer : List Env} {s : Shared} {H : Hp} {E : XK}
/-- the statement, in the context of the __init__ -/
theorem sup_run {C cc a : Addr} {ar : Arg} {e : Expr} {es : List Expr} {ta : TA} {p0 p1 p2 p3 p4 : Pos} {σ : L2.St} {s1 : Shared} {body : List Stmt} {rest : List Stmt} {fd : FuncData} {of : Obj} {pl : Sem Bool} {Q : Flow → Shared → Prop}
    (T : OexC K C) (S : SupF P K mg C F.c cc) (hcl : F.cl = [(("__class__" : Str), cc)])
    (I : Inv (ncx CX P w K mg base N F f A outer s H E) [] σ H s1) (hf : s1.heap.get? f = some of) (hfd : of.data = .func fd) (hp : (fd.params.posonlyargs ++ fd.params.args).head? = some ar)
    (hks : F.scope.names.lookup ("super" : Str) = some .globalImplicit) (hkc : F.scope.names.lookup ("__class__" : Str) = some .free) (hka : F.scope.names.lookup ar.arg = some .local) (hN : N[0]? = some ar.arg) (hσ : σ[0]? = some (some (.ref a))) (ea : H a = some (exo a C none))
    (ha : PA (ncx CX P w K mg base N F f A outer s H E) (e :: es) ta) (hta : ta σ H fun vs H1 => H1 = H ∧ vs.length ≤ 1000)
    (he : starEach (e :: es) (ncx CX P w K mg base N F f A outer s H E).env = (false, eval e (ncx CX P w K mg base N F f A outer s H E).env) :: starEach es (ncx CX P w K mg base N F f A outer s H E).env)
    (hplain : (backTo p3 (starEach es (ncx CX P w K mg base N F f A outer s H E).env)).any (·.1) = false)
    (h : ∀ s2, Inv (ncx CX P w K mg base N F f A outer s H E) [] σ H s2 → wpAny (model P w) (A.deeper (envF F f s.heap.objs.size)) (execs rest (envF F f s.heap.objs.size)) Q (ncx CX P w K mg base N F f A outer s H E).xe s2)
    (hen : eval (.Call (.Attribute (.Call (.Name "super" p0) [] [] p1) "__init__" p2) (e :: es) [] p3) (envF F f s.heap.objs.size) = (do
      let ov ← attributeBase (.Call (.Name "super" p0) [] [] p1) "__init__" (envF F f s.heap.objs.size) (eval (.Call (.Name "super" p0) [] [] p1) (envF F f s.heap.objs.size))
      standAt p2.atName
      let (f', first) ← holding [ov] (getMethod ov "__init__" pl)
      callWith p3 f' first (backTo p3 (starEach (e :: es) (envF F f s.heap.objs.size))) [])) :
    _root_.PySem.wpAt (model P w) (A.deeper (envF F f s.heap.objs.size)) (.func body (envF F f s.heap.objs.size)) (execs (supS (e :: es) p0 p1 p2 p3 p4 :: rest) (envF F f s.heap.objs.size)) Q (ncx CX P w K mg base N F f A outer s H E).xe s1 := by
  have hk : F.scope.kind = .function := I.ok.kind
  obtain ⟨ccl, cdd, vs, ccs, file, tf, c1, c2, c3⟩ := S.code
  obtain ⟨cl, cld, csl, c4⟩ := S.cell
  obtain ⟨cd, hc⟩ := S.cls
  obtain ⟨nm, q, N', bs, bm, sn, sub, ab, col, dd, k0, k1, k2, k3, k5, hC, hbm⟩ := T.cls
  have hcl0 : PySem.W.clsIn K C = some { name := nm, bases := bs, mro := .ref C :: bm, ns := N', qualname := q, hasDict := true, slotNames := sn, subclasses := sub, abstract := ab, collection := col, hasDel := false } := by unfold PySem.W.clsIn; rw [hC] <;> rfl
  obtain ⟨hh, g, d, t, os⟩ := s1
  have X : K.In hh := I.kIn
  obtain ⟨t1, ho⟩ := exo_at I.hok ea
  refine PySem.ks_wpAt_execs_cons (PySem.ks_wpAt_Expr_any (PySem.ks_wpAt_MethodCall (pl := pl) (PySem.ks_wpAt_super_base hks hkc (by decide) rfl hf hfd hp rfl (X _ _ c1) rfl c2 c3 S.top ?_) hen) (by unfold interactive; rw [show (envF F f s.heap.objs.size).scope.kind = _ from hk]; rfl))
  obtain ⟨mb, b1, b2⟩ := I.mod.blt
  refine PySem.W.ks_loadName_global hk hks (Calls.loadGlobal_builtin (env := envF F f s.heap.objs.size) (I.mod.glob.keeps I.bk) S.super (b1.keeps I.bk) ((b2 "super" (by decide)).trans PyProof.Rows.Boot.«super») ⟨rfl, ?_⟩)
  refine wpAny_loadName_free hk hkc (by show F.cl.lookup _ = _; rw [hcl]; rfl) ⟨_, X _ _ c4, rfl⟩ ?_
  obtain ⟨m, hn, hl⟩ := id I.loc
  obtain ⟨u, ru, lk⟩ := hl 0 ar.arg (.ref a) hN hσ (.inl hka)
  obtain rfl : u = Value.ref a := ru
  have lk : m ar.arg = some (.ref a) := by
    rcases lk with ⟨_, z⟩ | ⟨z, _⟩
    · exact z
    · have z : F.scope.names.lookup ar.arg = some .cell ∨ F.scope.names.lookup ar.arg = some .free := z
      rw [hka] at z
      rcases z with z | z <;> cases z
  refine wpAny_loadName_local hk hka hn lk ?_
  refine PySem.ks_wpAny_isType_cls (X _ _ hC) rfl ⟨rfl, ?_⟩
  refine PySem.ks_wpAny_call_super (X _ _ hC) rfl ho rfl (fun c z => by cases z) (PySem.W.looks_mroIn X S.self) (fun h' e1 kk => ?_)
  have I1 : Inv (ncx CX P w K mg base N F f A outer s H E) [] σ H ⟨h', g, d, t, os⟩ := I.kept (t' := t) kk
  have X1 : K.In h' := I1.kIn
  have J : PySem.W.InstAt h' a _ C none := ⟨kk _ _ ho, rfl, rfl, trivial⟩
  have hi : PySem.W.alongIn K "__init__" ((cd.mro.dropWhile (· != .ref C)).drop 1) = some (some (.builtin "ValueError.__init__")) := by
    have z := S.init
    unfold ks_superIn at z
    rw [hc] at z
    exact z
  refine PySem.W.kxs_getMethod PySem.W.kxs_ValueError e1 (PySem.W.looks_opaque X1 S.opq) (fun A Q E s k q => wpAny_bind ((PySem.W.looks_clsIn X1 hc) A _ E s k (wpAny_pure q))) rfl X1 hi (J.type.andThen (PySem.W.looks_subIn X1 S.sub)) (PySem.W.ks_ne X1 J hc) (by decide) ?_
  have I2 : Inv (ncx CX P w K mg base N F f A outer s H E) [] σ H ⟨h'.push (kxs_mw "ValueError.__init__" a), g, d, t + 1, os⟩ := I1.kept (t' := t + 1) fun b o z => Heap.get?_push_of_some _ z
  have hu : (h'.push (kxs_mw "ValueError.__init__" a)).get? h'.objs.size = some (kxs_mw "ValueError.__init__" a) := Heap.get?_push_size _ rfl
  have I3 : Inv (ncx CX P w K mg base N F f A outer s H E) [(h'.objs.size, kxs_mw "ValueError.__init__" a)] σ H ⟨h'.push (kxs_mw "ValueError.__init__" a), g, d, t + 1, os⟩ := I2.pins_of fun p hp => by
    cases List.mem_singleton.mp hp
    exact ⟨hu, I1.hok.fresh (Nat.le_refl _), fun z => Nat.lt_irrefl _ (by have := I1.lt; rw [← z] at this; exact this), I1.nofs (Nat.le_refl _), fun v z => by cases z⟩
  refine callWith_mw (i := "ValueError.__init__") (x := a) (thn (ha.run p3 _ _ σ H _ I3 hta) fun us s2 ⟨vs2, H2, I4, r, e4, hz⟩ => ⟨(I4.pin _ (List.mem_append_right _ (List.mem_singleton.mpr rfl))).1, ?_⟩) he hplain
  subst e4
  obtain ⟨t4, ho4⟩ := exo_at I4.hok ea
  have hu4 := (I4.pin (h'.objs.size, kxs_mw "ValueError.__init__" a) (List.mem_append_right _ (List.mem_singleton.mpr rfl))).1
  obtain ⟨h5, g5, d5, t5, os5⟩ := s2
  refine call_mw (I4.kIn _ _ hC) ho4 hu4 (by rw [← Paired.length r, sizeLine_eq]; omega) fun h6 t6 k6 e6 => ?_
  have I5 := I4.pins_of (pins' := []) (fun p hp => by cases hp)
  have J6 := I5.write (t' := t5) (x := a) (e := a) (o := exo a C none) (by rw [ea]; exact True.intro) (.inl rfl) k6 ⟨_, e6⟩ (exo_ok e6)
  have eu : upd H2 a (exo a C none) = H2 := by
    funext b
    by_cases hb : b = a
    · rw [hb, upd_same, ea]
    · rw [upd_ne hb]
  rw [eu] at J6
  exact wpAt_of_wpAny (h _ J6)
end
end SI

-- text SI2
set_option Elab.async false
set_option linter.all false
set_option maxRecDepth 100000
set_option maxHeartbeats 2000000
namespace SI
open PySem PySem.Spec PyProof.Rows L2 NdefX LamX
open PySem.W (ks_superIn kxs_mw)
/-! ### the __init__ as a def -/
section
variable {CX : CXT} {P : Program} {w : World} {K : PySem.W.Frag} {mg : Str → Option Value} {base : Heap} {N ps : List Str} {f : Addr} {k : Nat}
abbrev nfOf (name qual : Str) (params : Arguments) (body : List Stmt) (scope : Scope) (cc cda : Addr) : NF := ⟨name, qual, params, body, scope, [(("__class__" : Str), cc)], cda⟩
/-- a class's own __init__: super().__init__(e, es), then rest -/
theorem fn_sup {name qual : Str} {params : Arguments} {scope : Scope} {dV kV doc pm ct oc : Value} {an od : Option Addr} {osl : Array (Option Value)} {C cc cda : Addr} {ar : Arg} {e : Expr} {es : List Expr} {ta : TA} {p0 p1 p2 p3 p4 : Pos} {pl : Env → Sem Bool} {rest : List Stmt} {t : TS} {sp : Sp}
    (lk : K.lookup f = some ⟨oc, od, .func (PySem.W.fnX name qual params (supS (e :: es) p0 p1 p2 p3 p4 :: rest) scope [(("__class__" : Str), cc)] dV kV doc pm an (.ref cda) ct), osl⟩) (hcd : PySem.W.codeIn K (.ref cda) qual = true)
    (S : NScope N ps ["__class__"] scope) (T : OexC K C) (SF : SupF P K mg C cda cc) (hp : (params.posonlyargs ++ params.args).head? = some ar) (hp0 : ps[0]? = some ar.arg)
    (hks : scope.names.lookup ("super" : Str) = some .globalImplicit)
    (len : ∀ vs H Q E, sp vs H Q E → vs.length = ps.length)
    (ha : ∀ (A : Around) (outer : List Env) (s : Shared) (H : Hp) (E : XK), PA (ncx CX P w K mg base N (nfOf name qual params (supS (e :: es) p0 p1 p2 p3 p4 :: rest) scope cc cda) f A outer s H E) (e :: es) ta)
    (hr : ∀ (A : Around) (outer : List Env) (s : Shared) (H : Hp) (E : XK), PSs (ncx CX P w K mg base N (nfOf name qual params (supS (e :: es) p0 p1 p2 p3 p4 :: rest) scope cc cda) f A outer s H E) rest t)
    (hsp : ∀ vs H Q E, sp vs H Q E → ∃ a, vs[0]? = some (.ref a) ∧ H a = some (exo a C none) ∧ ta (startF N vs [some (.ref C)]) H (fun us H1 => H1 = H ∧ us.length ≤ 1000) ∧ t { nx := fun _ H' => Q .non H', rt := Q } (startF N vs [some (.ref C)]) H)
    (he : ∀ env : Env, starEach (e :: es) env = (false, eval e env) :: starEach es env := by intro _; rfl)
    (hplain : ∀ env : Env, (backTo p3 (starEach es env)).any (·.1) = false := by intro _; rfl)
    (hen : ∀ env : Env, eval (.Call (.Attribute (.Call (.Name "super" p0) [] [] p1) "__init__" p2) (e :: es) [] p3) env = (do
      let ov ← attributeBase (.Call (.Name "super" p0) [] [] p1) "__init__" env (eval (.Call (.Name "super" p0) [] [] p1) env)
      standAt p2.atName
      let (f', first) ← holding [ov] (getMethod ov "__init__" (pl env))
      callWith p3 f' first (backTo p3 (starEach (e :: es) env)) []) := by intro _; rfl) :
    FnOk P w K mg base CX (k + 1) f (PySem.W.fnX name qual params (supS (e :: es) p0 p1 p2 p3 p4 :: rest) scope [(("__class__" : Str), cc)] dV kV doc pm an (.ref cda) ct) ps sp := by
  refine ⟨len, fun A outer s H args us vs Q E hroom e0 hb r hs => ?_⟩
  have hl := len _ _ _ _ hs
  obtain ⟨a, hv, ea, hta, ht⟩ := hsp vs H Q E hs
  have KX : K.In s.heap := e0.mod.kin.keeps fun b o e => (e0.bs b o e).1
  have lim : s.heap.NoLimit := e0.mod.nolimit.keeps fun b o e => (e0.bs b o e).1
  obtain ⟨cl, cld, csl, c4⟩ := SF.cell
  have C0 : CellsAt [(("__class__" : Str), cc)] ["__class__"] [some (V.ref C)] s.heap H := by
    have base4 := e0.mod.kin _ _ c4
    have look1 : ∀ {y c}, ([(("__class__" : Str), cc)] : List (Str × Addr)).lookup y = some c → y = "__class__" ∧ c = cc := fun {y c} z => by
      have m := PySem.mem_of_lookup z
      cases List.mem_singleton.mp m
      exact ⟨rfl, rfl⟩
    refine ⟨rfl, fun y c z => ?_, fun x y c z1 z2 => ?_, fun i y z => ?_⟩
    · obtain ⟨_, rfl⟩ := look1 z
      exact ⟨(e0.bs _ _ base4).2, some (.ref C), _, (e0.bs _ _ base4).1, rfl⟩
    · rw [(look1 z1).1, (look1 z2).1]
    · match i, z with
      | 0, z =>
        cases z
        refine ⟨cc, rfl, fun v hv => ?_⟩
        cases hv
        exact ⟨.ref C, rfl, _, (e0.bs _ _ base4).1, rfl⟩
  have hN0 : N[0]? = some ar.arg := by
    have q := S.pre
    have h1 : (N.take (ps.length + (["__class__"] : List Str).length))[0]? = some ar.arg := by
      rw [q, List.getElem?_append_left (by rw [← hl]; exact (List.getElem?_eq_some_iff.mp hv).1)]
      exact hp0
    rw [List.getElem?_take_of_lt (by show 0 < _ + 1; omega)] at h1
    exact h1
  have hs0 : (startF N vs [some (V.ref C)])[0]? = some (some (.ref a)) := by
    unfold startF
    rw [List.getElem?_append_left (by rw [List.length_map]; exact (List.getElem?_eq_some_iff.mp hv).1), List.getElem?_map, hv]
    rfl
  refine ks_codeAny_call_defAt (fd := PySem.W.fnX name qual params (supS (e :: es) p0 p1 p2 p3 p4 :: rest) scope [(("__class__" : Str), cc)] dV kV doc pm an (.ref cda) ct) (binds := ps.zip us) hroom.depth (KX _ _ lk) rfl lim (PySem.W.codeRec_of KX hcd) rfl hb (fun x hx => S.nocell x hx) (fun ⟨n, _⟩ hy => S.par n (List.of_mem_zip hy).1) (fun h₁ hns kp => ?_) S.co S.gen S.kind
  have I : Inv (ncx CX P w K mg base N (nfOf name qual params (supS (e :: es) p0 p1 p2 p3 p4 :: rest) scope cc cda) f A outer s H E) [] (startF N vs [some (.ref C)]) H { s with heap := h₁, toks := s.toks + (ps.zip us).length } := inv_startN (F := nfOf name qual params (supS (e :: es) p0 p1 p2 p3 p4 :: rest) scope cc cda) S hroom.hd e0 hl r C0 hns kp
  refine PySem.ks_wpAt_mono (sup_run (F := nfOf name qual params (supS (e :: es) p0 p1 p2 p3 p4 :: rest) scope cc cda) (fd := PySem.W.fnX name qual params (supS (e :: es) p0 p1 p2 p3 p4 :: rest) scope [(("__class__" : Str), cc)] dV kV doc pm an (.ref cda) ct) T SF rfl I (kp _ _ (KX _ _ lk)) rfl hp hks (S.frk _ (List.mem_singleton.mpr rfl)) (S.par _ (List.mem_of_getElem? hp0)) hN0 hs0 ea (ha A outer s H E) hta (he _) (hplain _) (fun s2 I2 => (hr A outer s H E).run [] s2 _ H _ I2 ht) (hen _)) (fun fl s' hs => ?_) fun e s' hs => hs
  have fin : ∀ {σ' : L2.St} {H' : Hp} {v : V} {u : Value}, Inv (ncx CX P w K mg base N (nfOf name qual params (supS (e :: es) p0 p1 p2 p3 p4 :: rest) scope cc cda) f A outer s H E) [] σ' H' s' → L2.RelV v u → Q v H' → CE outer P w H s Q u s' :=
    fun {σ' H' v u} J rv q => ⟨v, H', J.os, J.bare, J.base, J.hok, rv, q⟩
  cases fl with
  | ret u =>
    obtain ⟨v, σ', H', J, rv, q⟩ := hs
    exact fin J rv q
  | next =>
    obtain ⟨σ', H', J, q⟩ := hs
    exact fin (v := V.non) (u := Value.none) J rfl q
  | brk =>
    obtain ⟨_, _, _, q⟩ := hs
    exact False.elim q
  | cont =>
    obtain ⟨_, _, _, q⟩ := hs
    exact False.elim q
end
end SI

-- text DL27
set_option Elab.async false
set_option linter.all false
set_option maxRecDepth 100000
set_option maxHeartbeats 2000000
namespace DL
open PySem PySem.Spec PyProof.Rows L2 GxR NdefX
/-! ### raise of an own error with fields -/
/-- what a class's own __init__ keeps: its fields are its arguments -/
def spX (C : Addr) (ns : List Str) : Sp := fun vs H Q _ => ∃ a us H1, vs = .ref a :: us ∧ us.length = ns.length ∧ H = upd H1 a (exo a C none) ∧ H1 a = none ∧
  ∀ d H2, H1 d = none → d ≠ a → H2 a = some (exo a C (some d)) → H2 d = some (exd d (ns.zip us).reverse) → (∀ b, b ≠ a → b ≠ d → H2 b = H1 b) → Q .non H2
section
variable {P : Program} {w : World} {K : PySem.W.Frag} {mg : Str → Option Value} {base : Heap} {f : Addr}
theorem init1 {name qual : Str} {params : Arguments} {scope : Scope} {dV kV doc pm ct oc : Value} {an od : Option Addr} {osl : Array (Option Value)} {C cc cda : Addr} {ar : Arg} {x0 x1 n1 : Str} {p0 p1 p2 p3 p4 q1 q2 q3 q4 q5 : Pos} {pl : Env → Sem Bool}
    (lk : K.lookup f = some ⟨oc, od, .func (PySem.W.fnX name qual params [SI.supS [.Name x1 q1] p0 p1 p2 p3 p4, .Assign [.Attribute (.Name x0 q2) n1 q3] (.Name x1 q4) q5] scope [(("__class__" : Str), cc)] dV kV doc pm an (.ref cda) ct), osl⟩) (hcd : PySem.W.codeIn K (.ref cda) qual = true)
    (S : NScope [x0, x1, "__class__"] [x0, x1] ["__class__"] scope) (T : OexC K C) (SF : SI.SupF P K mg C cda cc) (hp : (params.posonlyargs ++ params.args).head? = some ar) (hp0 : ar.arg = x0)
    (hks : scope.names.lookup ("super" : Str) = some .globalImplicit) (hn : PySem.W.findIn K (.ref C) n1 = some none)
    (hd0 : (x0 == ("__debug__" : Str)) = false := by decide) (hcd0 : (x0 == ("__classdict__" : Str)) = false := by decide) (hd1 : (x1 == ("__debug__" : Str)) = false := by decide) (hcd1 : (x1 == ("__classdict__" : Str)) = false := by decide)
    (hplain : ∀ env : Env, (backTo p3 (starEach [] env)).any (·.1) = false := by intro _; rfl)
    (hen : ∀ env : Env, eval (.Call (.Attribute (.Call (.Name "super" p0) [] [] p1) "__init__" p2) [.Name x1 q1] [] p3) env = (do
      let ov ← attributeBase (.Call (.Name "super" p0) [] [] p1) "__init__" env (eval (.Call (.Name "super" p0) [] [] p1) env)
      standAt p2.atName
      let (f', first) ← holding [ov] (getMethod ov "__init__" (pl env))
      callWith p3 f' first (backTo p3 (starEach [.Name x1 q1] env)) []) := by intro _; rfl) :
    FnOk P w K mg base CX0 1 f (PySem.W.fnX name qual params [SI.supS [.Name x1 q1] p0 p1 p2 p3 p4, .Assign [.Attribute (.Name x0 q2) n1 q3] (.Name x1 q4) q5] scope [(("__class__" : Str), cc)] dV kV doc pm an (.ref cda) ct) [x0, x1] (spX C [n1]) := by
  have v0 : Vis scope x0 := .inl (S.par _ (by simp))
  have v1 : Vis scope x1 := .inl (S.par _ (by simp))
  refine SI.fn_sup (N := [x0, x1, "__class__"]) (pl := pl) (t := tOst K n1 (tVar 0) (tVar 1)) lk hcd S T SF hp (by rw [hp0]; rfl) hks (fun vs H Q E h => ?_) (fun A outer s H E => pa_cons (pe_var (i := 1) rfl v1 hd1 hcd1) pa_nil rfl) (fun A outer s H E => pss_one (ps_ost (pe_var (i := 0) rfl v0 hd0 hcd0) (pe_var (i := 1) rfl v1 hd1 hcd1))) (fun vs H Q E h => ?_) (fun _ => rfl) hplain hen
  · obtain ⟨a, us, H1, rfl, hl, _⟩ := h
    simp only [List.length_cons] at hl ⊢
    omega
  · obtain ⟨a, us, H1, rfl, hl, eH, hn1, post⟩ := h
    match us, hl with
    | [v], _ =>
    have ea : H a = some (exo a C none) := by rw [eH]; exact upd_same
    refine ⟨a, rfl, ea, ⟨v, rfl, rfl, by simp⟩, v, rfl, _, rfl, a, C, rfl, T, hn, .inl ⟨ea, fun dx h1 h2 => ?_⟩⟩
    have h3 : H1 dx = none := by rw [eH, upd_ne h2] at h1; exact h1
    refine post dx _ h3 h2 upd_same ?_ fun b hb hd => ?_
    · rw [upd_ne h2, upd_same]; rfl
    · rw [upd_ne hb, upd_ne hd, eH, upd_ne hb]
theorem init2 {name qual : Str} {params : Arguments} {scope : Scope} {dV kV doc pm ct oc : Value} {an od : Option Addr} {osl : Array (Option Value)} {C cc cda : Addr} {ar : Arg} {x0 x1 x2 n1 n2 : Str} {p0 p1 p2 p3 p4 q1 q2 q3 q4 q5 q6 q7 q8 q9 q10 : Pos} {pl : Env → Sem Bool}
    (lk : K.lookup f = some ⟨oc, od, .func (PySem.W.fnX name qual params [SI.supS [.Name x1 q1, .Name x2 q6] p0 p1 p2 p3 p4, .Assign [.Attribute (.Name x0 q2) n1 q3] (.Name x1 q4) q5, .Assign [.Attribute (.Name x0 q7) n2 q8] (.Name x2 q9) q10] scope [(("__class__" : Str), cc)] dV kV doc pm an (.ref cda) ct), osl⟩) (hcd : PySem.W.codeIn K (.ref cda) qual = true)
    (S : NScope [x0, x1, x2, "__class__"] [x0, x1, x2] ["__class__"] scope) (T : OexC K C) (SF : SI.SupF P K mg C cda cc) (hp : (params.posonlyargs ++ params.args).head? = some ar) (hp0 : ar.arg = x0)
    (hks : scope.names.lookup ("super" : Str) = some .globalImplicit) (hn : PySem.W.findIn K (.ref C) n1 = some none) (hn2 : PySem.W.findIn K (.ref C) n2 = some none)
    (hd0 : (x0 == ("__debug__" : Str)) = false := by decide) (hcd0 : (x0 == ("__classdict__" : Str)) = false := by decide) (hd1 : (x1 == ("__debug__" : Str)) = false := by decide) (hcd1 : (x1 == ("__classdict__" : Str)) = false := by decide)
    (hd2 : (x2 == ("__debug__" : Str)) = false := by decide) (hcd2 : (x2 == ("__classdict__" : Str)) = false := by decide)
    (hplain : ∀ env : Env, (backTo p3 (starEach [.Name x2 q6] env)).any (·.1) = false := by intro _; rfl)
    (hen : ∀ env : Env, eval (.Call (.Attribute (.Call (.Name "super" p0) [] [] p1) "__init__" p2) [.Name x1 q1, .Name x2 q6] [] p3) env = (do
      let ov ← attributeBase (.Call (.Name "super" p0) [] [] p1) "__init__" env (eval (.Call (.Name "super" p0) [] [] p1) env)
      standAt p2.atName
      let (f', first) ← holding [ov] (getMethod ov "__init__" (pl env))
      callWith p3 f' first (backTo p3 (starEach [.Name x1 q1, .Name x2 q6] env)) []) := by intro _; rfl) :
    FnOk P w K mg base CX0 1 f (PySem.W.fnX name qual params [SI.supS [.Name x1 q1, .Name x2 q6] p0 p1 p2 p3 p4, .Assign [.Attribute (.Name x0 q2) n1 q3] (.Name x1 q4) q5, .Assign [.Attribute (.Name x0 q7) n2 q8] (.Name x2 q9) q10] scope [(("__class__" : Str), cc)] dV kV doc pm an (.ref cda) ct) [x0, x1, x2] (spX C [n1, n2]) := by
  have v0 : Vis scope x0 := .inl (S.par _ (by simp))
  have v1 : Vis scope x1 := .inl (S.par _ (by simp))
  have v2 : Vis scope x2 := .inl (S.par _ (by simp))
  refine SI.fn_sup (N := [x0, x1, x2, "__class__"]) (pl := pl) (t := tSeq (tOst K n1 (tVar 0) (tVar 1)) (tOst K n2 (tVar 0) (tVar 2))) lk hcd S T SF hp (by rw [hp0]; rfl) hks (fun vs H Q E h => ?_) (fun A outer s H E => pa_cons (pe_var (i := 1) rfl v1 hd1 hcd1) (pa_cons (pe_var (i := 2) rfl v2 hd2 hcd2) pa_nil rfl) rfl) (fun A outer s H E => pss_cons (ps_ost (pe_var (i := 0) rfl v0 hd0 hcd0) (pe_var (i := 1) rfl v1 hd1 hcd1)) (pss_one (ps_ost (pe_var (i := 0) rfl v0 hd0 hcd0) (pe_var (i := 2) rfl v2 hd2 hcd2)))) (fun vs H Q E h => ?_) (fun _ => rfl) hplain hen
  · obtain ⟨a, us, H1, rfl, hl, _⟩ := h
    simp only [List.length_cons] at hl ⊢
    omega
  · obtain ⟨a, us, H1, rfl, hl, eH, hn1, post⟩ := h
    match us, hl with
    | [v, w'], _ =>
    have ea : H a = some (exo a C none) := by rw [eH]; exact upd_same
    refine ⟨a, rfl, ea, ⟨v, rfl, w', rfl, rfl, by simp⟩, v, rfl, _, rfl, a, C, rfl, T, hn, .inl ⟨ea, fun dx h1 h2 => ?_⟩⟩
    have h3 : H1 dx = none := by rw [eH, upd_ne h2] at h1; exact h1
    refine ⟨w', rfl, _, rfl, a, C, rfl, T, hn2, .inr ⟨dx, [(n1, v)], upd_same, by rw [upd_ne h2, upd_same], by simp, ?_⟩⟩
    refine post dx _ h3 h2 ?_ upd_same fun b hb hd => ?_
    · rw [upd_ne (Ne.symm h2), upd_same]
    · rw [upd_ne hd, upd_ne hb, upd_ne hd, eH, upd_ne hb]
end
/-- what is known of an own error class with fields -/
structure ErrX (P : Program) (w : World) (K : PySem.W.Frag) (mg : Str → Option Value) (base : Heap) (x : Str) (C : Addr) (ns : List Str) : Prop where
  gl : mg x = some (.ref C)
  oex : OexC K C
  init : ∃ fI fd ps, PySem.W.findIn K (.ref C) "__init__" = some (some (.ref fI)) ∧ PySem.W.typeIn K (.ref fI) = some (.type "function") ∧ FnOk P w K mg base CX0 1 fI fd ps (spX C ns) ∧ Binds K fd ps []
  nd : ns.Nodup
theorem zipV_none : ∀ {ns : List Str} {us : List V} {x : Str}, x ∉ ns → (ns.zip us).reverse.lookup x = none := fun {ns us x} h => by
  cases e : (ns.zip us).reverse.lookup x with
  | none => rfl
  | some v => exact absurd (List.of_mem_zip (List.mem_reverse.mp (PySem.mem_of_lookup e))).1 h
theorem zipV_look : ∀ {ns : List Str} {us : List V} {i : Nat} {x : Str} {u : V}, ns.Nodup → ns[i]? = some x → us[i]? = some u → (ns.zip us).reverse.lookup x = some u
  | [], _, _, _, _, _, h, _ => by simp at h
  | _ :: _, [], _, _, _, _, _, h => by simp at h
  | p :: ps, v :: us, 0, x, u, nd, h1, h2 => by
    simp at h1 h2
    subst h1
    subst h2
    rw [List.zip_cons_cons, List.reverse_cons, List.lookup_append, zipV_none (List.nodup_cons.mp nd).1]
    simp [List.lookup]
  | p :: ps, v :: us, i + 1, x, u, nd, h1, h2 => by
    have e : (ps.zip us).reverse.lookup x = some u := zipV_look (i := i) (List.nodup_cons.mp nd).2 (by simpa using h1) (by simpa using h2)
    rw [List.zip_cons_cons, List.reverse_cons, List.lookup_append, e] <;> rfl
def flt0 : PyData → Bool
  | .none => true
  | .bool _ => true
  | .int _ => true
  | .str _ => true
  | _ => false
theorem rep_flat {K : PySem.W.Frag} {A : List Addr} {H : Hp} {v : V} {d : PyData} (r : Rep K A H v d) (h : flt0 d = true) : v = fv d := by
  cases r with
  | scr _ => cases h
  | dct _ => cases h
  | lst _ _ _ => cases h
  | tup _ _ => cases h
  | _ => rfl
theorem reps_flat {K : PySem.W.Frag} {A : List Addr} {H : Hp} : ∀ {vs : List V} {ds : List PyData}, RepAll K A H vs ds → ds.all flt0 = true → vs = ds.map fv
  | _, _, .nil, _ => rfl
  | _, _, .cons r rs, h => by
    rw [List.all_cons, Bool.and_eq_true] at h
    rw [rep_flat r h.1, reps_flat rs h.2]
    rfl
section
variable {ι : Type} {X : ι → Cx} {G : DL.Ctx} {W : WX} {k : Nat} {pos : Pos}
def sRx (x : Str) (ns : List Str) (fs : RS → Rs (List PyData)) : RS → Out := fun ρ => match fs ρ with
  | .ok ds ρ1 => if ds.length = ns.length ∧ ds.all flt0 = true then .ex x (ns.zip ds) ρ1 else .no
  | _ => .no
theorem exAt_zip {ns : List Str} {ds : List PyData} {d : Addr} {H : Hp} (nd : ns.Nodup) (hl : ds.length = ns.length) (hn : ns ≠ []) (h : H d = some (.xd (ns.zip (ds.map fv)).reverse)) : ExAt (ns.zip ds) (some d) H := by
  unfold ExAt
  split
  · rename_i e
    cases ns with
    | nil => exact (hn rfl).elim
    | cons n ns =>
      cases ds with
      | nil => cases hl
      | cons d ds => cases e
  · refine ⟨d, _, rfl, h, fun p hp => ?_⟩
    obtain ⟨i, hi⟩ := List.mem_iff_getElem?.mp hp
    rw [List.getElem?_zip_eq_some] at hi
    exact zipV_look nd hi.1 (by rw [List.getElem?_map, hi.2]; rfl)
theorem ds_raiseX {P : Program} {w : World} {base : Heap} {mg : Str → Option Value} {x : Str} {ns : List Str} {e : Expr} {es : List Expr} {fs : RS → Rs (List PyData)} {p cpos : Pos} (F : Fam X G W k) (hk : 2 ≤ k) (E : ErrX P w G.K mg base x (G.ec x) ns) (hP : ∀ i, (X i).prog = P) (hw : ∀ i, (X i).w = w) (hb : ∀ i, (X i).base = base) (hm : ∀ i, (X i).mg = mg) (hg : ∀ i, Gl (X i) x) (hns : ns ≠ []) (hl1 : ns.length ≤ 1000)
    (ha : DA X G W (e :: es) fs) (hdb : (x == ("__debug__" : Str)) = false := by decide) (he : ∀ i, starEach (e :: es) (X i).env = (false, eval e (X i).env) :: starEach es (X i).env := by intro _; rfl) (hpl : ∀ i, (backTo cpos (starEach es (X i).env)).any (·.1) = false := by intro _; rfl) :
    DS X G W (.Raise (some (.Call (.Name x p) (e :: es) [] cpos)) none pos) (sRx x ns fs) := by
  obtain ⟨fI, fd, ps, hi, ti, F1, bI⟩ := E.init
  obtain ⟨t, pt, lt⟩ := ha
  refine ⟨_, fun i => ps_raise (F.calm i) (F.takes i) (pmk_oex (CX := CX0) (fI := fI) (ps := ps) (sp := spX (G.ec x) ns) (fd := fd) (ds := []) (dvs := []) (k := 1) (by rw [F.K i]; exact E.oex) (by rw [F.K i]; exact hi) (by rw [F.K i]; exact ti) (by rw [hP i, hw i, F.K i, hm i, hb i]; exact F1) ((F.room i).mono hk) (by rw [F.K i]; exact bI) .nil pass0 (hg i) (by rw [hm i]; exact E.gl) (pt i) hdb (he i) (hpl i)), fun Fg O ρ σ H D r h => ?_⟩
  unfold sRx at h
  split at h
  case h_2 => exact h.elim
  rename_i ds ρ1 e1
  by_cases hc : ds.length = ns.length ∧ ds.all flt0 = true
  case neg => rw [if_neg hc] at h; exact h.elim
  rw [if_pos hc] at h
  refine lt Fg O ρ σ H _ r (gp_at _ _ e1 fun H1 e1' r1 vs rv => ?_)
  have hv := reps_flat rv hc.2
  subst hv
  refine ⟨by rw [List.length_map, hc.1]; exact hl1, fun a hn => ⟨a, ds.map fv, H1, by rw [List.append_nil], by rw [List.length_map]; exact hc.1, rfl, hn, fun d H2 h1 h2 h3 h4 h5 => ⟨rfl, d, _, h3, h4, h1, ?_⟩⟩⟩
  have eH : upd (del H2 a) d (.xd (ns.zip (ds.map fv)).reverse) = upd H1 d (.xd (ns.zip (ds.map fv)).reverse) := by
    funext b
    by_cases hbd : b = d
    · rw [hbd, upd_same, upd_same]
    · rw [upd_ne hbd, upd_ne hbd]
      by_cases hba : b = a
      · rw [hba, del_same, hn]
      · rw [del_ne hba, h5 b hba hbd]
  rw [eH]
  have ex := ext_new (O := adr O) (u := HO.xd (ns.zip (ds.map fv)).reverse) h1
  exact h O σ (some d) _ (e1'.trans' ex).evo (r1.ext0 (ext_new h1)) (exAt_zip E.nd hc.1 hns upd_same)
end
end DL

-- text DL28
set_option Elab.async false
set_option linter.all false
set_option maxRecDepth 100000
set_option maxHeartbeats 2000000
namespace DL
open PySem PySem.Spec PyProof.Rows L2 GxR
/-! ### an object with two lists of its own (Wheel) -/
/-- where it lies -/
structure W8 where
  a : Addr
  dx : Addr
  b : Addr
  c : Addr
  q : Addr
  r : Addr
/-- what it holds: the web (h, ss), its steps, its path -/
structure WSt where
  h : Int
  ss : List Int
  xs : List Int
  ys : List Int
def fsW (w : W8) : List (Str × V) := [("_web", .ref w.q), ("_steps", .ref w.b), ("_path", .ref w.c)]
structure WhO (K : PySem.W.Frag) (C : Addr) (w : W8) (s : WSt) (H : Hp) : Prop where
  ins : H w.a = some (.ins C w.dx (fsW w))
  wq : SqT K H w.q [.int s.h, .ref w.r]
  wr : SqT K H w.r (s.ss.map V.int)
  hb : H w.b = some (.lst (s.xs.map V.int))
  hc : H w.c = some (.lst (s.ys.map V.int))
  ne : w.b ≠ w.c
theorem WhO.ext {K : PySem.W.Frag} {C : Addr} {w : W8} {s : WSt} {H H' : Hp} {O : List Addr} (o : WhO K C w s H) (e : Ext O H H') (nb : w.b ∉ O) (nc : w.c ∉ O) : WhO K C w s H' :=
  ⟨e.keep _ _ o.ins (by intro ps z; cases z) (.inr (by intro xs z; cases z)), SqT.ext o.wq e, SqT.ext o.wr e, e.keep _ _ o.hb (by intro ps z; cases z) (.inl nb), e.keep _ _ o.hc (by intro ps z; cases z) (.inl nc), o.ne⟩
/-- other lists in it -/
theorem WhO.put {K : PySem.W.Frag} {C : Addr} {w : W8} {s : WSt} {H : Hp} (o : WhO K C w s H) (xs ys : List Int) : WhO K C w { s with xs := xs, ys := ys } (upd (upd H w.b (.lst (xs.map V.int))) w.c (.lst (ys.map V.int))) := by
  have e1 : Ext [w.b] H (upd H w.b (.lst (xs.map V.int))) := ext_put o.hb (List.mem_singleton.mpr rfl)
  have hc1 : (upd H w.b (.lst (xs.map V.int))) w.c = some (.lst (s.ys.map V.int)) := by rw [upd_ne (Ne.symm o.ne)]; exact o.hc
  have e2 : Ext [w.c] (upd H w.b (.lst (xs.map V.int))) (upd (upd H w.b (.lst (xs.map V.int))) w.c (.lst (ys.map V.int))) := ext_put hc1 (List.mem_singleton.mpr rfl)
  refine ⟨e2.keep _ _ (e1.keep _ _ o.ins (by intro ps z; cases z) (.inr (by intro xs z; cases z))) (by intro ps z; cases z) (.inr (by intro xs z; cases z)), SqT.ext (SqT.ext o.wq e1) e2, SqT.ext (SqT.ext o.wr e1) e2, ?_, upd_same, o.ne⟩
  rw [upd_ne o.ne, upd_same]
theorem ext_put2 {K : PySem.W.Frag} {C : Addr} {w : W8} {s : WSt} {H : Hp} (o : WhO K C w s H) (xs ys : List V) {O : List Addr} (hb : w.b ∈ O) (hc : w.c ∈ O) : Ext O H (upd (upd H w.b (.lst xs)) w.c (.lst ys)) := by
  have hc1 : (upd H w.b (.lst xs)) w.c = some (.lst (s.ys.map V.int)) := by rw [upd_ne (Ne.symm o.ne)]; exact o.hc
  exact (ext_put o.hb hb).trans' (ext_put hc1 hc)
/-! promises of the methods -/
def goodD (d : PyData) (ss : List Int) : Option Int := match d with
  | .int n => if n ∈ ss then some n else none
  | _ => none
def spGo (K : PySem.W.Frag) (C EB : Addr) : Sp := fun vs H Q E => ∃ w s d, vs = [.ref w.a, fv d] ∧ flatD d = true ∧ WhO K C w s H ∧ 0 < s.h ∧ s.xs.length < 1000 ∧ s.ys.length < 1000 ∧ ∃ l, s.ys.getLast? = some l ∧
  match goodD d s.ss with
  | some n => Q .non (upd (upd H w.b (.lst ((s.xs ++ [n]).map V.int))) w.c (.lst ((s.ys ++ [(l + n) % s.h]).map V.int)))
  | none => E (.ref EB) none H
def spUndo (K : PySem.W.Frag) (C EB : Addr) : Sp := fun vs H Q E => ∃ w s, vs = [.ref w.a] ∧ WhO K C w s H ∧ s.ys ≠ [] ∧
  if s.xs.isEmpty then E (.ref EB) none H else Q .non (upd (upd H w.b (.lst (s.xs.dropLast.map V.int))) w.c (.lst (s.ys.dropLast.map V.int)))
def spTup (K : PySem.W.Frag) (C : Addr) (g : WSt → List Int) : Sp := fun vs H Q _ => ∃ w s, vs = [.ref w.a] ∧ WhO K C w s H ∧ ∀ l, H l = none → Q (.ref l) (upd H l (.tup ((g s).map V.int)))
def spHall (K : PySem.W.Frag) (C : Addr) : Sp := fun vs H Q _ => ∃ w s l, vs = [.ref w.a] ∧ WhO K C w s H ∧ s.ys.getLast? = some l ∧ Q (.int l) H
/-- made: a web, the lists new -/
def spInit (G : DL.Ctx) (C : Addr) (Fn : List PyData → Fr) : Sp := fun vs H Q E => ∃ (a dx : Addr) (v : V) (H1 : Hp) (Fg : List Addr) (d : PyData), vs = [.ref a, v] ∧ H = upd (upd H1 dx (.own a)) a (.ins C dx []) ∧ H1 a = none ∧ H1 dx = none ∧ dx ≠ a ∧
  Rep G.K Fg H1 v d ∧ (∀ P ∈ G.ts, TabG H1 P) ∧ (∀ b ∈ Fg, ∃ zs, H1 b = some (.lst zs)) ∧
  match Fn [d] with
  | .ok _ => ∀ H2 b c v2, Ext [] H1 H2 → H1 b = none → H1 c = none → b ≠ c → H2 a = some (.ins C dx [("_web", v2), ("_steps", .ref b), ("_path", .ref c)]) → H2 b = some (.lst []) → H2 c = some (.lst [.int 0]) → Rep G.K Fg H2 v2 d → Q .non H2
  | .ex c fs => ∀ dd H2, Ext [] H1 H2 → ExAt fs dd H2 → E (.ref (G.ec c)) dd H2
  | .no => False
/-- the class and its methods -/
structure WhC (P : Program) (w : World) (K : PySem.W.Frag) (mg : Str → Option Value) (base : Heap) (G : DL.Ctx) (k : Nat) (C : Addr) (EB EN : Addr) (Fn : List PyData → Fr) : Prop where
  gl : mg "Wheel" = some (.ref C)
  cls : Cls K C
  init : ∃ fI fd ps, Mk K C fI ∧ FnOk P w K mg base (L2.CX P w) k fI fd ps (spInit G C Fn) ∧ Binds K fd ps []
  go : ∃ f fd ps, Meth K C "go" f ∧ FnOk P w K mg base (L2.CX P w) k f fd ps (spGo K C EB) ∧ Binds K fd ps []
  undo : ∃ f fd ps, Meth K C "undo" f ∧ FnOk P w K mg base (L2.CX P w) k f fd ps (spUndo K C EN) ∧ Binds K fd ps []
  steps : ∃ p g fd ps, PropOf K C "steps" p g ∧ FnOk P w K mg base CX0 k g fd ps (spTup K C WSt.xs) ∧ Binds K fd ps []
  path : ∃ p g fd ps, PropOf K C "path" p g ∧ FnOk P w K mg base CX0 k g fd ps (spTup K C WSt.ys) ∧ Binds K fd ps []
  hall : ∃ p g fd ps, PropOf K C "hall" p g ∧ FnOk P w K mg base CX0 k g fd ps (spHall K C) ∧ Binds K fd ps []
/-! ### statements while the object lives -/
structure RW (G : DL.Ctx) (C : Addr) (Fg : List Addr) (O : Own) (j : Nat) (w : W8) (ρ : RS) (s : WSt) (σ : L2.St) (H : Hp) : Prop where
  r : R G (w.b :: w.c :: Fg) O ρ σ H
  o : WhO G.K C w s H
  at_ : ρ[j]? = some (Sl.a w.a)
inductive WO where
  | nx (ρ : RS) (s : WSt)
  | rt (d : PyData)
  | no
structure EvoW (w : W8) (O : Own) (H : Hp) (O' : Own) (H' : Hp) : Prop where
  ext : Ext (w.b :: w.c :: adr O) H H'
  sub : ∀ p ∈ O, p.1 = 0 → p ∈ O'
  grow : ∀ p ∈ O', p ∈ O ∨ H p.2 = none
theorem Evo.w {w : W8} {O O' : Own} {H H' : Hp} (e : Evo O H O' H') : EvoW w O H O' H' := ⟨e.ext.mono fun a m => List.mem_cons_of_mem _ (List.mem_cons_of_mem _ m), e.sub, e.grow⟩
theorem EvoW.refl {w : W8} {O : Own} {H : Hp} : EvoW w O H O H := ⟨.refl, fun _ m _ => m, fun _ m => .inl m⟩
theorem EvoW.trans {w : W8} {O O1 O2 : Own} {H H1 H2 : Hp} (a : EvoW w O H O1 H1) (b : EvoW w O1 H1 O2 H2) : EvoW w O H O2 H2 := by
  refine ⟨a.ext.trans b.ext fun c m => ?_, fun p m z => b.sub p (a.sub p m z) z, fun p m => ?_⟩
  · rcases List.mem_cons.mp m with z | m
    · exact .inl (z ▸ List.mem_cons_self)
    · rcases List.mem_cons.mp m with z | m
      · exact .inl (z ▸ List.mem_cons_of_mem _ List.mem_cons_self)
      · obtain ⟨p, hp, rfl⟩ := List.mem_map.mp m
        rcases a.grow p hp with q | q
        · exact .inl (List.mem_cons_of_mem _ (List.mem_cons_of_mem _ (List.mem_map.mpr ⟨p, q, rfl⟩)))
        · exact .inr q
  · rcases b.grow p m with q | q
    · exact a.grow p q
    · exact .inr (a.ext.dom _ q)
def SPW (G : DL.Ctx) (C : Addr) (Fg : List Addr) (O : Own) (j : Nat) (w : W8) (H : Hp) (D : Ends) : WO → Prop
  | .nx ρ s => ∀ O' σ' H', EvoW w O H O' H' → RW G C Fg O' j w ρ s σ' H' → D.nx σ' H'
  | .rt d => ∀ O' v H', EvoW w O H O' H' → Rep G.K Fg H' v d → D.rt v H'
  | .no => False
section
variable {G : DL.Ctx} {C : Addr} {Fg : List Addr} {O O1 : Own} {j : Nat} {w : W8} {ρ : RS} {s : WSt} {σ : L2.St} {H H' : Hp} {D : Ends}
theorem SPW.shift {o : WO} (h : SPW G C Fg O j w H D o) (e : EvoW w O H O1 H') : SPW G C Fg O1 j w H' D o := by
  cases o with
  | nx ρ s => exact fun O2 σ' H2 e2 r => h O2 σ' H2 (e.trans e2) r
  | rt d => exact fun O2 v H2 e2 r => h O2 v H2 (e.trans e2) r
  | no => exact h
theorem RW.nb (r : RW G C Fg O j w ρ s σ H) : w.b ∉ adr O ∧ w.c ∉ adr O := by
  refine ⟨fun m => ?_, fun m => ?_⟩
  · obtain ⟨p, hp, e⟩ := List.mem_map.mp m
    exact r.r.fg p hp (by rw [e]; exact List.mem_cons_self)
  · obtain ⟨p, hp, e⟩ := List.mem_map.mp m
    exact r.r.fg p hp (by rw [e]; exact List.mem_cons_of_mem _ List.mem_cons_self)
theorem RW.ext (r : RW G C Fg O j w ρ s σ H) (e : Ext (adr O) H H') {O' : Own} {ρ' : RS} {σ' : L2.St} (r' : R G (w.b :: w.c :: Fg) O' ρ' σ' H') (h : ρ'[j]? = some (Sl.a w.a)) : RW G C Fg O' j w ρ' s σ' H' := ⟨r', r.o.ext e r.nb.1 r.nb.2, h⟩
end
def isA (ρ ρ' : RS) (j : Nat) : Bool := match ρ[j]?, ρ'[j]? with
  | some (.a p), some (.a q) => p == q
  | _, _ => false
theorem isA_ok {ρ ρ' : RS} {j : Nat} {p : Addr} (h : isA ρ ρ' j = true) (e : ρ[j]? = some (Sl.a p)) : ρ'[j]? = some (Sl.a p) := by
  unfold isA at h
  rw [e] at h
  split at h
  · rename_i e1 e2
    cases e1
    rw [e2, beq_iff_eq.mp h]
  · cases h
section
variable {ι : Type} (X : ι → Cx) (G : DL.Ctx) (C : Addr) (j : Nat)
structure DWS (st : Stmt) (f : RS → WSt → WO) : Prop where
  ex : ∃ t : TS, (∀ i, PS (X i) st t) ∧ ∀ w Fg O ρ s σ H D, RW G C Fg O j w ρ s σ H → SPW G C Fg O j w H D (f ρ s) → t D σ H
structure DWSs (st : List Stmt) (f : RS → WSt → WO) : Prop where
  ex : ∃ t : TS, (∀ i, PSs (X i) st t) ∧ ∀ w Fg O ρ s σ H D, RW G C Fg O j w ρ s σ H → SPW G C Fg O j w H D (f ρ s) → t D σ H
end
section
variable {ι : Type} {X : ι → Cx} {G : DL.Ctx} {W : WX} {C : Addr} {j k : Nat} {pos : Pos}
def wLift (j : Nat) (f : RS → Out) : RS → WSt → WO := fun ρ s => match f ρ with
  | .nx ρ' => if isA ρ ρ' j then .nx ρ' s else .no
  | .rt d _ => .rt d
  | _ => .no
theorem dws_lift {st : Stmt} {f : RS → Out} (h : DS X G W st f) : DWS X G C j st (wLift j f) := by
  obtain ⟨t, p, l⟩ := h
  refine ⟨t, p, fun w Fg O ρ s σ H D r hp => l (w.b :: w.c :: Fg) O ρ σ H D r.r ?_⟩
  unfold wLift at hp
  cases e : f ρ with
  | nx ρ' =>
    rw [e] at hp
    simp only at hp
    by_cases q : isA ρ ρ' j = true
    · rw [if_pos q] at hp
      exact fun O' σ' H' ev r' => hp O' σ' H' ev.w (r.ext ev.ext r' (isA_ok q r.at_))
    · rw [if_neg q] at hp; exact hp.elim
  | rt d ρ' =>
    rw [e] at hp
    exact fun O' σ' v H' ev r' rv => hp O' v H' ev.w (rv.fewer fun a m => List.mem_append_right _ (List.mem_cons_of_mem _ (List.mem_cons_of_mem _ m)))
  | rto d ρ' => rw [e] at hp; exact hp.elim
  | bk ρ' => rw [e] at hp; exact hp.elim
  | ct ρ' => rw [e] at hp; exact hp.elim
  | ex c fs ρ' => rw [e] at hp; exact hp.elim
  | no => rw [e] at hp; exact hp.elim
def wNil : RS → WSt → WO := fun ρ s => .nx ρ s
def wThen (f g : RS → WSt → WO) : RS → WSt → WO := fun ρ s => match f ρ s with
  | .nx ρ' s' => g ρ' s'
  | o => o
theorem dwss_nil : DWSs X G C j [] wNil := ⟨_, fun _ => pss_nil, fun w Fg O ρ s σ H D r h => h O σ H .refl r⟩
theorem dwss_cons {st : Stmt} {rest : List Stmt} {f g : RS → WSt → WO} (h1 : DWS X G C j st f) (h2 : DWSs X G C j rest g) : DWSs X G C j (st :: rest) (wThen f g) := by
  obtain ⟨t, p, l⟩ := h1
  obtain ⟨t2, p2, l2⟩ := h2
  refine ⟨_, fun i => pss_cons (p i) (p2 i), fun w Fg O ρ s σ H D r h => ?_⟩
  refine l w Fg O ρ s σ H _ r ?_
  unfold wThen at h
  cases e : f ρ s with
  | nx ρ1 s1 => rw [e] at h; exact fun O' σ' H' ev r' => l2 w Fg O' ρ1 s1 σ' H' D r' (SPW.shift h ev)
  | rt d => rw [e] at h; exact h
  | no => rw [e] at h; exact h
theorem dwss_one {st : Stmt} {f : RS → WSt → WO} (h1 : DWS X G C j st f) : DWSs X G C j [st] f := by
  obtain ⟨t, p, l⟩ := h1
  exact ⟨_, fun i => pss_one (p i), fun w Fg O ρ s σ H D r h => l w Fg O ρ s σ H D r h⟩
def wIf (j : Nat) (fc : RS → Rs Bool) (f g : RS → WSt → WO) : RS → WSt → WO := fun ρ s => match fc ρ with
  | .ok b ρ1 => if isA ρ ρ1 j then (if b then f ρ1 s else g ρ1 s) else .no
  | _ => .no
theorem dws_if {e : Expr} {a b : List Stmt} {fc : RS → Rs Bool} {f g : RS → WSt → WO} (hc : DT X G W e fc) (ha : DWSs X G C j a f) (hb : DWSs X G C j b g) : DWS X G C j (.If e a b pos) (wIf j fc f g) := by
  obtain ⟨t, p, l⟩ := hc
  obtain ⟨t1, p1, l1⟩ := ha
  obtain ⟨t2, p2, l2⟩ := hb
  refine ⟨_, fun i => ps_if (p i) (p1 i) (p2 i), fun w Fg O ρ s σ H D r h => ?_⟩
  unfold wIf at h
  cases e : fc ρ with
  | ex a b d => rw [e] at h; exact h.elim
  | no => rw [e] at h; exact h.elim
  | ok q ρ1 =>
    rw [e] at h
    simp only at h
    by_cases qa : isA ρ ρ1 j = true
    case neg => rw [if_neg qa] at h; exact h.elim
    rw [if_pos qa] at h
    refine l (w.b :: w.c :: Fg) O ρ σ H _ r.r (gp_at q ρ1 e fun H1 e1 r1 => ?_)
    have r1' := r.ext e1 r1 (isA_ok qa r.at_)
    cases q with
    | true => exact ite_tt (l1 w Fg O ρ1 s σ H1 D r1' (SPW.shift h (Ext.evo e1).w))
    | false => exact ite_ff (l2 w Fg O ρ1 s σ H1 D r1' (SPW.shift h (Ext.evo e1).w))
def wForL (j : Nat) (g : PyData → RS → Option RS) (fb : RS → WSt → WO) : List PyData → RS → WSt → WO
  | [], ρ, s => .nx ρ s
  | x :: xs, ρ, s => match g x ρ with
    | none => .no
    | some ρ1 => if isA ρ ρ1 j then (match fb ρ1 s with
      | .nx ρ2 s2 => wForL j g fb xs ρ2 s2
      | o => o) else .no
def wFor (j : Nat) (fi : RS → Rs (List PyData)) (g : PyData → RS → Option RS) (fb : RS → WSt → WO) : RS → WSt → WO := fun ρ s => match fi ρ with
  | .ok ds ρ1 => if isA ρ ρ1 j then wForL j g fb ds ρ1 s else .no
  | _ => .no
theorem dws_for {tg iter : Expr} {body : List Stmt} {fi : RS → Rs (List PyData)} {vs : List Nat} {g : PyData → RS → Option RS} {fb : RS → WSt → WO} (F : Fam X G W k) (hp : ∀ i, PassesOwn (model (X i).prog (X i).w) (X i).A (X i).env (X i).xe) (hi : DI X G W tg iter fi) (hg : DG X G tg vs g) (hb : DWSs X G C j body fb)
    (hs : ∀ i x, foldedSetIterable iter (X i).env x = pure x := by intro _ _; rfl) : DWS X G C j (.For tg iter body [] pos) (wFor j fi g fb) := by
  obtain ⟨wi, pi, li⟩ := hi
  obtain ⟨gt, pg, lg⟩ := hg
  obtain ⟨t2, p2, l2⟩ := hb
  refine ⟨_, fun i => ps_for (hp i) (F.calm i) (pi i) (pg i) (p2 i) (hs i), fun w Fg O ρ s σ H D r h => ?_⟩
  unfold wFor at h
  cases e : fi ρ with
  | ex a b d => rw [e] at h; exact h.elim
  | no => rw [e] at h; exact h.elim
  | ok items ρ1 =>
    rw [e] at h
    simp only at h
    by_cases qa : isA ρ ρ1 j = true
    case neg => rw [if_neg qa] at h; exact h.elim
    rw [if_pos qa] at h
    refine li (w.b :: w.c :: Fg) O ρ σ H _ r.r (gp_at items ρ1 e fun H1 e1 r1 J wd => ?_)
    have r1' := r.ext e1 r1 (isA_ok qa r.at_)
    refine ⟨fun i m σ' H' => m = items.length - i ∧ i ≤ items.length ∧ ∃ O' ρ' s', EvoW w O H1 O' H' ∧ RW G C Fg O' j w ρ' s' σ' H' ∧ SPW G C Fg O' j w H' D (wForL j g fb (items.drop i) ρ' s'),
      ⟨items.length, by simp, Nat.zero_le _, O, ρ1, s, .refl, r1', by simpa using SPW.shift h (Ext.evo e1).w⟩, fun i m σ2 H2 hW => ?_⟩
    obtain ⟨hm, hi, O2, ρ2, s2, ev, r2, k2⟩ := hW
    have sub : ∀ a ∈ adr O2 ++ (w.b :: w.c :: Fg), a ∈ adr O ++ (w.b :: w.c :: Fg) ∨ H1 a = none := fun a m => by
      rcases List.mem_append.mp m with z | z
      · obtain ⟨p, hp, rfl⟩ := List.mem_map.mp z
        rcases ev.grow p hp with q | q
        · exact .inl (List.mem_append_left _ (List.mem_map.mpr ⟨p, q, rfl⟩))
        · exact .inr q
      · exact .inl (List.mem_append_right _ z)
    obtain ⟨w1, w2⟩ := wd (w.b :: w.c :: adr O) (adr O2 ++ (w.b :: w.c :: Fg)) H2 ev.ext (fun a m => .inl (by
      rcases List.mem_cons.mp m with z | m
      · exact List.mem_append_right _ (z ▸ List.mem_cons_self)
      · rcases List.mem_cons.mp m with z | m
        · exact List.mem_append_right _ (z ▸ List.mem_cons_of_mem _ List.mem_cons_self)
        · exact List.mem_append_left _ m)) sub i
    by_cases hlt : i < items.length
    · obtain ⟨go, yl⟩ := w1 items[i] (List.getElem?_eq_getElem hlt)
      rw [drop_get hlt] at k2
      refine .inr ⟨go, fun σ' H' => (fun i m σ' H' => m = items.length - i ∧ i ≤ items.length ∧ ∃ O' ρ' s', EvoW w O H1 O' H' ∧ RW G C Fg O' j w ρ' s' σ' H' ∧ SPW G C Fg O' j w H' D (wForL j g fb (items.drop i) ρ' s')) (i + 1) (items.length - (i + 1)) σ' H',
        fun σ' H' w => ⟨_, by omega, w⟩, fun x H3 y3 => ?_⟩
      obtain ⟨e3, rx⟩ := yl x H3 y3
      have e3' : Ext (adr O2) H2 H3 := e3.mono (by simp)
      unfold wForL at k2
      cases q : g items[i] ρ2 with
      | none => rw [q] at k2; exact k2.elim
      | some ρ3 =>
        rw [q] at k2
        simp only at k2
        by_cases qb : isA ρ2 ρ3 j = true
        case neg => rw [if_neg qb] at k2; exact k2.elim
        rw [if_pos qb] at k2
        refine lg (w.b :: w.c :: Fg) O2 ρ2 σ2 H3 x items[i] ρ3 _ (r2.r.ext0 e3) rx q fun σ3 r3 _ => ?_
        have r3' := r2.ext e3' r3 (isA_ok qb r2.at_)
        refine l2 w Fg O2 ρ3 s2 σ3 H3 _ r3' ?_
        cases z : fb ρ3 s2 with
        | nx ρ4 s4 =>
          rw [z] at k2
          exact fun O' σ' H' e' r' => ⟨rfl, hlt, O', ρ4, s4, (ev.trans (Ext.evo e3').w).trans e', r', SPW.shift (SPW.shift k2 (Ext.evo e3').w) e'⟩
        | rt d => rw [z] at k2; exact SPW.shift (o := .rt d) k2 (Ext.evo e3').w
        | no => rw [z] at k2; exact k2.elim
    · have hl : items.length ≤ i := Nat.le_of_not_lt hlt
      rw [List.drop_of_length_le hl] at k2
      exact .inl ⟨w2 hl, k2 O2 σ2 H2 .refl r2⟩
end
end DL

-- text DL29
set_option Elab.async false
set_option linter.all false
set_option maxRecDepth 100000
set_option maxHeartbeats 2000000
namespace DL
open PySem PySem.Spec PyProof.Rows L2 GxR
/-! ### calls of methods, making, where what is raised is wished for at the caller's slots -/
section
variable {X : Cx} {CX : CXT} {k : Nat} {f C : Addr} {fd : FuncData} {ps : List Str} {sp : Sp} {E : L2.St → XK} {x m : Str} {p pos apos : Pos} {e o : Expr} {es : List Expr} {ta : TE} {t : TA}
def tMethS (C : Addr) (m : Str) (sp : Sp) (E : L2.St → XK) (ta : TE) (t : TA) : TE := fun σ H Q => ta σ H fun x H1 => ∃ a dx fs, x = .ref a ∧ H1 a = some (.ins C dx fs) ∧ fs.lookup m = none ∧ t σ H1 fun vs H2 => sp (x :: vs) H2 Q (E σ)
theorem pe_methS {pl : Sem Bool} (he : PE X o ta) (c : Cls X.K C) (hm : Meth X.K C m f) (F : FnOk X.prog X.w X.K X.mg X.base CX k f fd ps sp) (hr : Room k X.A) (hb : Binds X.K fd ps []) (hx : ∀ σ, PassesAt CX X σ (E σ)) (ha : PA X (e :: es) t)
    (hst : starEach (e :: es) X.env = (false, eval e X.env) :: starEach es X.env := by rfl) (hpl : (backTo pos (starEach es X.env)).any (·.1) = false := by rfl)
    (ht : eval (.Call (.Attribute o m apos) (e :: es) [] pos) X.env = (do
      let ov ← eval o X.env
      standAt apos.atName
      let (f, first) ← holding [ov] (getMethod ov m pl)
      callWith pos f first (backTo pos (starEach (e :: es) X.env)) (backToKw pos (keywordEach [] X.env))) := by rfl) :
    PE X (.Call (.Attribute o m apos) (e :: es) [] pos) (tMethS C m sp E ta t) := by
  refine ⟨fun pins s σ H Q I h => ?_⟩
  refine PySem.W.methodCall_KW (pl := pl) (thn (he.run pins s σ H _ I h) fun u s1 ⟨x, H1, I1, rx, a, dx, fs, ex, ea, l, q⟩ => ?_) ht
  subst ex
  obtain rfl : u = Value.ref a := rx
  refine getmeth_ok I1 ea c hm l ?_
  refine PySem.W.callWith_K (first := [.ref a]) (h₀ := X.base) I.ok.mod.kin hm.kp (thn (ha.run pos pins s1 σ H1 _ I1 q) fun us s2 ⟨vs, H2, I2, r, q2⟩ => ⟨I2.kIn, ?_⟩) hst hpl
  exact run_fnS (us := .ref a :: us) (vs := .ref a :: vs) F hr hb (hx σ) I2 (.cons rfl r) q2
theorem pe_methS0 {pl : Sem Bool} (he : PE X o ta) (c : Cls X.K C) (hm : Meth X.K C m f) (F : FnOk X.prog X.w X.K X.mg X.base CX k f fd ps sp) (hr : Room k X.A) (hb : Binds X.K fd ps []) (hx : ∀ σ, PassesAt CX X σ (E σ))
    (ht : eval (.Call (.Attribute o m apos) [] [] pos) X.env = (do
      let ov ← eval o X.env
      standAt apos.atName
      let (f, first) ← holding [ov] (getMethod ov m pl)
      callWith pos f first (backTo pos (starEach [] X.env)) (backToKw pos (keywordEach [] X.env))) := by rfl) :
    PE X (.Call (.Attribute o m apos) [] [] pos) (tMethS C m sp E ta tNil) := by
  refine ⟨fun pins s σ H Q I h => ?_⟩
  refine PySem.W.methodCall_KW (pl := pl) (thn (he.run pins s σ H _ I h) fun u s1 ⟨x, H1, I1, rx, a, dx, fs, ex, ea, l, q⟩ => ?_) ht
  subst ex
  obtain rfl : u = Value.ref a := rx
  refine getmeth_ok I1 ea c hm l ?_
  exact PySem.W.callWith_K0 (first := [.ref a]) I1.kIn hm.kp (run_fnS (us := [.ref a]) (vs := [.ref a]) F hr hb (hx σ) I1 (.cons rfl .nil) q)
def tMakeS (C : Addr) (sp : Sp) (E : L2.St → XK) (t : TA) : TE := fun σ H Q => t σ H fun vs H1 => ∀ x dx, H1 x = none → H1 dx = none → dx ≠ x →
  sp (.ref x :: vs) (upd (upd H1 dx (.own x)) x (.ins C dx [])) (fun v H2 => v = .non ∧ Q (.ref x) H2) (E σ)
theorem pe_makeS (M : Mk X.K C f) (F : FnOk X.prog X.w X.K X.mg X.base CX k f fd ps sp) (hr : Room (k + 1) X.A) (hg : Gl X x) (hm : X.mg x = some (.ref C)) (hb : Binds X.K fd ps []) (hx : ∀ σ, PassesAt CX X σ (E σ))
    (ha : PA X (e :: es) t) (hdb : (x == ("__debug__" : Str)) = false := by decide) (he : starEach (e :: es) X.env = (false, eval e X.env) :: starEach es X.env := by rfl) (hpl : (backTo pos (starEach es X.env)).any (·.1) = false := by rfl) :
    PE X (.Call (.Name x p) (e :: es) [] pos) (tMakeS C sp E t) := by
  refine ⟨fun pins s σ H Q I h => ?_⟩
  refine wpAny_Call_Name_kw (ld_glob I hg hm ?_ hdb)
  refine PySem.W.callWith_K (h₀ := X.base) I.ok.mod.kin M.kp (thn (ha.run pos pins s σ H _ I h) fun us s1 ⟨vs, H1, I1, r, q⟩ => ⟨I1.kIn, ?_⟩) he hpl
  have hq := q (s1.heap.objs.size + 1) s1.heap.objs.size (I1.hok.fresh (Nat.le_succ _)) (I1.hok.fresh (Nat.le_refl _)) (Nat.ne_of_lt (Nat.lt_succ_self _))
  have I2 := Inv.made (C := C) I1
  have r2 : Vals (V.ref (s1.heap.objs.size + 1) :: vs) (Value.ref (s1.heap.objs.size + 1) :: us) := .cons rfl r
  have hl : (Value.ref (s1.heap.objs.size + 1) :: us).length = ps.length := by
    have e := r2.length
    rw [F.len _ _ _ _ hq] at e
    exact e.symm
  have bb := hb _ (Value.ref (s1.heap.objs.size + 1) :: us) I2.kIn (by rw [List.append_nil]; exact hl)
  rw [List.append_nil] at bb
  refine wpAny_call (make_map (f := f) I1.kIn M.makes M.init (beq_iff_eq.mp M.fn) (codeAny_mono (F.run _ X.stack _ _ ⟨Value.ref (s1.heap.objs.size + 1) :: us, []⟩ (Value.ref (s1.heap.objs.size + 1) :: us) _ _ (E σ) (hr.make C us [])
    (I2.env0.make C us []) bb r2 hq) fun r s' hq' => ?_))
  cases r with
  | error er => exact hx σ pins _ _ er s' I2 hq'
  | ok fl =>
    cases fl with
    | ret u =>
      obtain ⟨v, H', I3, rv, ev, q3⟩ := I2.after hq'
      subst ev
      exact ⟨rv, ⟨V.ref (s1.heap.objs.size + 1), H', I3, rfl, q3⟩⟩
    | next => exact False.elim hq'
    | brk => exact False.elim hq'
    | cont => exact False.elim hq'
end
/-! ### lists of an object, new -/
theorem R.more2 {G : DL.Ctx} {Fg : List Addr} {O : Own} {ρ : RS} {σ : L2.St} {H H' : Hp} {b c : Addr} {xs ys : List V} (r : R G Fg O ρ σ H) (e : Ext [] H H') (hb : H b = none) (hc : H c = none) (lb : H' b = some (.lst xs)) (lc : H' c = some (.lst ys)) : R G (b :: c :: Fg) O ρ σ H' := by
  have g : ∀ x ∈ adr O ++ b :: c :: Fg, x ∈ adr O ++ Fg ∨ H x = none := fun x m => by
    rcases List.mem_append.mp m with z | z
    · exact .inl (List.mem_append_left _ z)
    · rcases List.mem_cons.mp z with z | z
      · exact .inr (z ▸ hb)
      · rcases List.mem_cons.mp z with z | z
        · exact .inr (z ▸ hc)
        · exact .inl (List.mem_append_right _ z)
  have kl : ∀ a xs, H a = some (.lst xs) → H' a = some (.lst xs) := fun a xs q => e.keep a _ q (by intro ps z; cases z) (.inl (by simp))
  refine ⟨r.len, fun i x q => ?_, fun i xs q => ?_, r.key, r.inj, fun p hp m => ?_, r.occ, fun P hP => e.tab P (r.tabs P hP), fun x m => ?_, r.raw⟩
  · obtain ⟨v, h1, h2⟩ := r.val i x q
    exact ⟨v, h1, h2.ext (O := []) (by simp) e g⟩
  · obtain ⟨x, ws, h1, h2, h3, h4⟩ := r.own i xs q
    exact ⟨x, ws, h1, h2, kl _ _ h3, h4.ext (O := []) (by simp) e g⟩
  · obtain ⟨zs, q⟩ := r.all p.2 (List.mem_append_left _ (List.mem_map.mpr ⟨p, hp, rfl⟩))
    rcases List.mem_cons.mp m with z | m
    · rw [z, hb] at q; cases q
    · rcases List.mem_cons.mp m with z | m
      · rw [z, hc] at q; cases q
      · exact r.fg p hp m
  · by_cases h1 : x = b
    · exact ⟨xs, h1 ▸ lb⟩
    · by_cases h2 : x = c
      · exact ⟨ys, h2 ▸ lc⟩
      · rcases g x m with z | z
        · obtain ⟨zs, q⟩ := r.all x z
          exact ⟨zs, kl _ _ q⟩
        · rcases List.mem_append.mp m with m | m
          · obtain ⟨zs, q⟩ := r.all x (List.mem_append_left _ m)
            exact ⟨zs, kl _ _ q⟩
          · rcases List.mem_cons.mp m with m | m
            · exact (h1 m).elim
            · rcases List.mem_cons.mp m with m | m
              · exact (h2 m).elim
              · obtain ⟨zs, q⟩ := r.all x (List.mem_append_right _ m)
                exact ⟨zs, kl _ _ q⟩
theorem R.setA {G : DL.Ctx} {Fg : List Addr} {O : Own} {ρ : RS} {σ : L2.St} {H : Hp} {i : Nat} {p : Addr} (r : R G Fg O ρ σ H) (no : NoOwn ρ i) : R G Fg O (ρ.set i (Sl.a p)) (σ.set i (some (V.ref p))) H := by
  refine ⟨by simp [r.len], fun j y h => ?_, fun j ys h => ?_, r.key, r.inj, r.fg, r.occ_set no, r.tabs, r.all, fun j q h => ?_⟩
  · rcases get_set_d h with ⟨rfl, e⟩ | ⟨hj, e⟩
    · cases e
    · rw [List.getElem?_set_ne hj]
      exact r.val j y e
  · rcases get_set_d h with ⟨rfl, e⟩ | ⟨hj, e⟩
    · cases e
    · rw [List.getElem?_set_ne hj]
      exact r.own j ys e
  · rcases get_set_d h with ⟨rfl, e⟩ | ⟨hj, e⟩
    · cases e
      rw [List.getElem?_set_self (r.at_lt h)]
    · rw [List.getElem?_set_ne hj]
      exact r.raw j q e
/-- what was new may be written too -/
theorem Ext.less {O S : List Addr} {H H' : Hp} (e : Ext (S ++ O) H H') (h : ∀ a ∈ S, H a = none) : Ext O H H' :=
  ⟨fun a u e1 e2 e3 => e.keep a u e1 e2 (e3.elim (fun z => .inl fun m => by
    rcases List.mem_append.mp m with m | m
    · rw [h a m] at e1; cases e1
    · exact z m) .inr), e.tab, e.dom⟩
/-! ### a method's call in a try -/
inductive MO where
  | ok (ρ : RS) (s : WSt)
  | ex (ρ : RS)
  | no
section
variable {ι : Type} (X : ι → Cx) (G : DL.Ctx) (W : WX) (C EB : Addr) (j : Nat)
structure DWM (e : Expr) (m : RS → WSt → MO) : Prop where
  ex : ∃ t : TE, (∀ i, PE (X i) e t) ∧ ∀ w Fg O ρ s σ H Q, RW G C Fg O j w ρ s σ H → (match m ρ s with
    | .ok ρ1 s1 => ∀ H', EvoW w O H O H' → RW G C Fg O j w ρ1 s1 σ H' → Q .non H'
    | .ex ρ1 => ∀ H', Ext (adr O) H H' → RW G C Fg O j w ρ1 s σ H' → W (.ref EB) none σ H'
    | .no => False) → t σ H Q
end
section
variable {ι : Type} {X : ι → Cx} {G : DL.Ctx} {W : WX} {C EB EN : Addr} {j k : Nat} {pos : Pos} {P : Program} {w0 : World} {base : Heap} {mg : Str → Option Value} {Fn : List PyData → Fr}
/-- the lists are written -/
theorem RW.put {Fg : List Addr} {O : Own} {w : W8} {ρ : RS} {s : WSt} {σ : L2.St} {H : Hp} (r : RW G C Fg O j w ρ s σ H) (xs ys : List Int) : EvoW w O H O (upd (upd H w.b (.lst (xs.map V.int))) w.c (.lst (ys.map V.int))) ∧ RW G C Fg O j w ρ { s with xs := xs, ys := ys } σ (upd (upd H w.b (.lst (xs.map V.int))) w.c (.lst (ys.map V.int))) := by
  have e : Ext [w.b, w.c] H (upd (upd H w.b (.lst (xs.map V.int))) w.c (.lst (ys.map V.int))) := ext_put2 r.o _ _ List.mem_cons_self (List.mem_cons_of_mem _ List.mem_cons_self)
  refine ⟨⟨e.mono fun a m => ?_, fun _ m _ => m, fun _ m => .inl m⟩, r.r.ext e (fun a m => ?_) (fun a m => ?_), r.o.put xs ys, r.at_⟩
  · rcases List.mem_cons.mp m with z | m
    · exact z ▸ List.mem_cons_self
    · rw [List.mem_singleton.mp m]
      exact List.mem_cons_of_mem _ List.mem_cons_self
  · rcases List.mem_cons.mp m with z | m
    · exact z ▸ List.mem_cons_self
    · rw [List.mem_singleton.mp m]
      exact List.mem_cons_of_mem _ List.mem_cons_self
  · rcases List.mem_cons.mp m with z | m
    · rw [z]; exact ⟨_, (r.o.put xs ys).hb⟩
    · rw [List.mem_singleton.mp m]
      exact ⟨ys.map V.int, upd_same⟩
def mUndo : RS → WSt → MO := fun ρ s => if s.ys.isEmpty then .no else if s.xs.isEmpty then .ex ρ else .ok ρ { s with xs := s.xs.dropLast, ys := s.ys.dropLast }
theorem dwm_undo {x : Str} {p apos cpos : Pos} {pl : ι → Sem Bool} (F : Fam X G W k) (hP : ∀ i, (X i).prog = P) (hw : ∀ i, (X i).w = w0) (hb : ∀ i, (X i).base = base) (hmg : ∀ i, (X i).mg = mg) {q : Nat} (WC : WhC P w0 G.K mg base G q C EB EN Fn) (hq : q ≤ k) (hN : ∀ i, (X i).N[j]? = some x) (hv : ∀ i, Vis (X i).env.scope x)
    (hd : (x == ("__debug__" : Str)) = false := by decide) (hcd : (x == ("__classdict__" : Str)) = false := by decide)
    (ht : ∀ i, eval (.Call (.Attribute (.Name x p) "undo" apos) [] [] cpos) (X i).env = (do
      let ov ← eval (.Name x p) (X i).env
      standAt apos.atName
      let (f, first) ← holding [ov] (getMethod ov "undo" (pl i))
      callWith cpos f first (backTo cpos (starEach [] (X i).env)) (backToKw cpos (keywordEach [] (X i).env))) := by intro _; rfl) :
    DWM X G W C EN j (.Call (.Attribute (.Name x p) "undo" apos) [] [] cpos) mUndo := by
  obtain ⟨f, fd, ps, hm, F1, b1⟩ := WC.undo
  refine ⟨tMethS C "undo" (spUndo G.K C EN) (WE W) (tVar j) tNil, fun i => pe_methS0 (CX := L2.CX (X i).prog (X i).w) (pl := pl i) (pe_var (hN i) (hv i) hd hcd) (by rw [F.K i]; exact WC.cls) (by rw [F.K i]; exact hm) (by rw [hP i, hw i, F.K i, hmg i, hb i]; exact F1) ((F.room i).mono hq) (by rw [F.K i]; exact b1) (fun σ => passAt (F.takes i) σ) (ht i), fun w Fg O ρ s σ H Q r h => ?_⟩
  refine ⟨_, r.r.raw j w.a r.at_, w.a, _, _, rfl, r.o.ins, rfl, w, s, rfl, r.o, ?_⟩
  unfold mUndo at h
  cases hy : s.ys.isEmpty with
  | true => rw [hy] at h; exact h.elim
  | false =>
    rw [hy] at h
    refine ⟨fun z => (by rw [z] at hy; cases hy), ?_⟩
    cases hx : s.xs.isEmpty with
    | true =>
      rw [hx] at h
      exact h H .refl r
    | false =>
      rw [hx] at h
      obtain ⟨e, r'⟩ := r.put s.xs.dropLast s.ys.dropLast
      exact h _ e r'
def mGo (j : Nat) (fs : RS → Rs (List PyData)) : RS → WSt → MO := fun ρ s => match fs ρ with
  | .ok [d] ρ1 => if flatD d && isA ρ ρ1 j && decide (0 < s.h) && decide (s.xs.length < 1000) && decide (s.ys.length < 1000) then (match s.ys.getLast? with
    | some l => (match goodD d s.ss with
      | some n => .ok ρ1 { s with xs := s.xs ++ [n], ys := s.ys ++ [(l + n) % s.h] }
      | none => .ex ρ1)
    | none => .no) else .no
  | _ => .no
theorem dwm_go {x : Str} {e : Expr} {fs : RS → Rs (List PyData)} {p apos cpos : Pos} {pl : ι → Sem Bool} (F : Fam X G W k) (hP : ∀ i, (X i).prog = P) (hw : ∀ i, (X i).w = w0) (hb : ∀ i, (X i).base = base) (hmg : ∀ i, (X i).mg = mg) {q : Nat} (WC : WhC P w0 G.K mg base G q C EB EN Fn) (hq : q ≤ k) (hN : ∀ i, (X i).N[j]? = some x) (hv : ∀ i, Vis (X i).env.scope x)
    (ha : DA X G W [e] fs) (hd : (x == ("__debug__" : Str)) = false := by decide) (hcd : (x == ("__classdict__" : Str)) = false := by decide)
    (hst : ∀ i, starEach [e] (X i).env = (false, eval e (X i).env) :: starEach [] (X i).env := by intro _; rfl) (hpl : ∀ i, (backTo cpos (starEach [] (X i).env)).any (·.1) = false := by intro _; rfl)
    (ht : ∀ i, eval (.Call (.Attribute (.Name x p) "go" apos) [e] [] cpos) (X i).env = (do
      let ov ← eval (.Name x p) (X i).env
      standAt apos.atName
      let (f, first) ← holding [ov] (getMethod ov "go" (pl i))
      callWith cpos f first (backTo cpos (starEach [e] (X i).env)) (backToKw cpos (keywordEach [] (X i).env))) := by intro _; rfl) :
    DWM X G W C EB j (.Call (.Attribute (.Name x p) "go" apos) [e] [] cpos) (mGo j fs) := by
  obtain ⟨f, fd, ps, hm, F1, b1⟩ := WC.go
  obtain ⟨t, pt, lt⟩ := ha
  refine ⟨tMethS C "go" (spGo G.K C EB) (WE W) (tVar j) t, fun i => pe_methS (CX := L2.CX (X i).prog (X i).w) (pl := pl i) (pe_var (hN i) (hv i) hd hcd) (by rw [F.K i]; exact WC.cls) (by rw [F.K i]; exact hm) (by rw [hP i, hw i, F.K i, hmg i, hb i]; exact F1) ((F.room i).mono hq) (by rw [F.K i]; exact b1) (fun σ => passAt (F.takes i) σ) (pt i) (hst i) (hpl i) (ht i), fun w Fg O ρ s σ H Q r h => ?_⟩
  refine ⟨_, r.r.raw j w.a r.at_, w.a, _, _, rfl, r.o.ins, rfl, ?_⟩
  unfold mGo at h
  cases e1 : fs ρ with
  | no => rw [e1] at h; exact h.elim
  | ex _ _ _ => rw [e1] at h; exact h.elim
  | ok ds ρ1 =>
  match ds, e1 with
  | [], e1 => rw [e1] at h; exact h.elim
  | _ :: _ :: _, e1 => rw [e1] at h; exact h.elim
  | [d], e1 =>
  rw [e1] at h
  simp only at h
  by_cases hc : (flatD d && isA ρ ρ1 j && decide (0 < s.h) && decide (s.xs.length < 1000) && decide (s.ys.length < 1000)) = true
  case neg => rw [if_neg hc] at h; exact h.elim
  rw [if_pos hc] at h
  simp only [Bool.and_eq_true, decide_eq_true_eq] at hc
  obtain ⟨⟨⟨⟨c1, c2⟩, c3⟩, c4⟩, c5⟩ := hc
  refine lt (w.b :: w.c :: Fg) O ρ σ H _ r.r (gp_at _ _ e1 fun H1 e1' r1 vs rv => ?_)
  have r1' := r.ext e1' r1 (isA_ok c2 r.at_)
  match vs, rv with
  | [v], .cons rv .nil =>
  cases hl : s.ys.getLast? with
  | none => rw [hl] at h; exact h.elim
  | some l =>
    rw [hl] at h
    simp only at h
    refine ⟨w, s, d, by rw [(flat_fv rv c1).1], c1, r1'.o, c3, c4, c5, l, hl, ?_⟩
    cases hg : goodD d s.ss with
    | none =>
      rw [hg] at h
      exact h H1 e1' r1'
    | some n =>
      rw [hg] at h
      obtain ⟨e, r'⟩ := r1'.put (s.xs ++ [n]) (s.ys ++ [(l + n) % s.h])
      exact h _ ((Ext.evo e1').w.trans e) r'
/-- try: told = w.m(..) except E as e: told = "m" -/
def wTry (j je jt : Nat) (z : Str) (m : RS → WSt → MO) : RS → WSt → WO := fun ρ s => match m ρ s with
  | .ok ρ1 s1 => (match setD jt .none ρ1 with
    | some ρ2 => if isA ρ1 ρ2 j then .nx ρ2 s1 else .no
    | none => .no)
  | .ex ρ1 => (match setD jt (.str z) ρ1 with
    | some ρ2 => if isA ρ1 ρ2 j && isNB ρ1 je && isNB ρ2 je && decide (jt ≠ je) then .nx ρ2 s else .no
    | none => .no)
  | .no => .no
theorem dws_try {jt je : Nat} {c n y z : Str} {e : Expr} {np pos' p1 p2 p3 p4 p5 : Pos} {jc : Nat} {m : RS → WSt → MO} (F : Fam X G W k) (hs : ∀ i, (X i).stack = (X i).env :: (X i).outer) (hf : ∀ i, (X i).env.frame = some (X i).env.locals) (hi : ∀ i, (X i).N[je]? = some n)
    (hl : ∀ i, (X i).env.kindOf n = some .local) (hg : ∀ i, Gl (X i) c) (hm : ∀ i, (X i).mg c = some (.ref EB)) (hx : PySem.W.exmOne G.K (.ref EB) (.ref EB) = some true)
    (hN : ∀ i, (X i).N[jt]? = some y) (hy : ∀ i, Loc (X i).env.scope y) (hfy : ∀ i, (X i).fn y = true ∨ (X i).env.scope.names.lookup y = some .local)
    (hb : ∀ W', DWM (Tx X W') G W' C EB j e m)
    (hs1 : ∀ i, swapsWith e (some (.Name y p1)) p2.line (X i).env = pure false := by intro _; rfl) (hs2 : ∀ i, swapsWith (.Constant (.str z) jc p4) (some (.Name y p3)) p5.line (X i).env = pure false := by intro _; rfl) (hdb : (c == ("__debug__" : Str)) = false := by decide) :
    DWS X G C j (.Try [.Assign [.Name y p1] e p2] [.ExceptHandler (some (.Name c np)) (some n) [.Assign [.Name y p3] (.Constant (.str z) jc p4) p5] pos'] [] [] pos) (wTry j je jt z m) := by
  refine ⟨fun D σ H => tAsg (hb (wAs G.K (.ref EB) je (fun _ _ _ => tAsg (tC (.str z)) (gName jt)) W D)).ex.choose (gName jt) D σ H, fun i => ?_, fun w Fg O ρ s σ H D r h => ?_⟩
  · rw [← F.K i]
    refine ps_try_as (tb := fun W' => tAsg (hb W').ex.choose (gName jt)) (hs i) (hf i) (F.nd i) (hi i) (hl i) ⟨hg i, hdb, .inl (hm i)⟩ (F.takes i) (fun W' pn xe tk po => ?_) fun a oe cls d pn hz hd => ?_
    · exact pss_one (ps_set (X := Tx X W' ⟨(i, pn, xe), tk, po⟩) (F.nd i) (hN i) (hy i) ((hb W').ex.choose_spec.1 ⟨(i, pn, xe), tk, po⟩) (hs1 i) (hfy i))
    · exact pss_one (ps_set (X := (X i).suite a ((a, oe) :: pn)) (F.nd i) (hN i) (hy i) pe_str (hs2 i) (hfy i))
  · refine (hb (wAs G.K (.ref EB) je (fun _ _ _ => tAsg (tC (.str z)) (gName jt)) W D)).ex.choose_spec.2 w Fg O ρ s σ H _ r ?_
    unfold wTry at h
    cases e0 : m ρ s with
    | no => rw [e0] at h; exact h.elim
    | ok ρ1 s1 =>
      rw [e0] at h
      simp only at h
      cases q : setD jt .none ρ1 with
      | none => rw [q] at h; exact h.elim
      | some ρ2 =>
        rw [q] at h
        simp only at h
        by_cases qa : isA ρ1 ρ2 j = true
        case neg => rw [if_neg qa] at h; exact h.elim
        rw [if_pos qa] at h
        obtain ⟨n1, rfl⟩ := setD_ok q
        exact fun H' ev r' => h O _ H' ev ⟨r'.r.set n1 .non, r'.o, isA_ok qa r'.at_⟩
    | ex ρ1 =>
      rw [e0] at h
      simp only at h
      cases q : setD jt (.str z) ρ1 with
      | none => rw [q] at h; exact h.elim
      | some ρ2 =>
        rw [q] at h
        simp only at h
        by_cases qa : (isA ρ1 ρ2 j && isNB ρ1 je && isNB ρ2 je && decide (jt ≠ je)) = true
        case neg => rw [if_neg qa] at h; exact h.elim
        rw [if_pos qa] at h
        simp only [Bool.and_eq_true, decide_eq_true_eq] at qa
        obtain ⟨⟨⟨qa, qb⟩, qc⟩, qd⟩ := qa
        obtain ⟨n1, rfl⟩ := setD_ok q
        intro H' ev r'
        refine ⟨true, hx, fun _ a ha => ?_, fun z => (by cases z)⟩
        have r2 : R G (w.b :: w.c :: Fg) O (ρ1.set jt (Sl.d (.str z))) ((σ.set je (some (V.ref a))).set jt (some (V.str z))) H' := (R.at_n r'.r (isNB_t qb) _).set n1 (.str z)
        exact h O _ H' (Ext.evo ev).w ⟨R.at_n r2 (isNB_t qc) none, r'.o, isA_ok qa r'.at_⟩
end
end DL

-- text DL30
set_option Elab.async false
set_option linter.all false
set_option maxRecDepth 100000
set_option maxHeartbeats 2000000
namespace DL
open PySem PySem.Spec PyProof.Rows L2 GxR
section
variable {ι : Type} {X : ι → Cx} {G : DL.Ctx} {W : WX} {C EB EN : Addr} {j k : Nat} {pos : Pos} {P : Program} {w0 : World} {base : Heap} {mg : Str → Option Value} {Fn : List PyData → Fr}
/-! ### Wheel(e), refused -/
def eMkX (Fn : List PyData → Fr) (fs : RS → Rs (List PyData)) : RS → Rs PyData := fun ρ => match fs ρ with
  | .ok [d] ρ1 => (match Fn [d] with
    | .ex c f => .ex c f ρ1
    | _ => .no)
  | _ => .no
theorem de_mkX {e : Expr} {fs : RS → Rs (List PyData)} {p cpos : Pos} (F : Fam X G W k) (hP : ∀ i, (X i).prog = P) (hw : ∀ i, (X i).w = w0) (hb : ∀ i, (X i).base = base) (hmg : ∀ i, (X i).mg = mg) {q : Nat} (WC : WhC P w0 G.K mg base G q C EB EN Fn) (hq : q + 1 ≤ k) (hg : ∀ i, Gl (X i) "Wheel")
    (ha : DA X G W [e] fs) (he : ∀ i, starEach [e] (X i).env = (false, eval e (X i).env) :: starEach [] (X i).env := by intro _; rfl) (hpl : ∀ i, (backTo cpos (starEach [] (X i).env)).any (·.1) = false := by intro _; rfl) :
    DE X G W (.Call (.Name "Wheel" p) [e] [] cpos) (eMkX Fn fs) := by
  obtain ⟨f, fd, ps, M, F1, b1⟩ := WC.init
  obtain ⟨t, pt, lt⟩ := ha
  refine ⟨tMakeS C (spInit G C Fn) (WE W) t, fun i => pe_makeS (CX := L2.CX (X i).prog (X i).w) (by rw [F.K i]; exact M) (by rw [hP i, hw i, F.K i, hmg i, hb i]; exact F1) ((F.room i).mono hq) (hg i) (by rw [hmg i]; exact WC.gl) (by rw [F.K i]; exact b1) (fun σ => passAt (F.takes i) σ) (pt i) (by decide) (he i) (hpl i), fun Fg O ρ σ H Q r h => ?_⟩
  unfold eMkX at h
  cases e1 : fs ρ with
  | no => rw [e1] at h; exact h.elim
  | ex _ _ _ => rw [e1] at h; exact h.elim
  | ok ds ρ1 =>
  match ds, e1 with
  | [], e1 => rw [e1] at h; exact h.elim
  | _ :: _ :: _, e1 => rw [e1] at h; exact h.elim
  | [d], e1 =>
  rw [e1] at h
  simp only at h
  refine lt Fg O ρ σ H _ r (gp_at _ _ e1 fun H1 e1' r1 vs rv => ?_)
  match vs, rv with
  | [v], .cons rv .nil =>
  intro x dx h1 h2 h3
  refine ⟨x, dx, v, H1, adr O ++ Fg, d, rfl, rfl, h1, h2, h3, rv, r1.tabs, r1.all, ?_⟩
  cases hf : Fn [d] with
  | ok _ => rw [hf] at h; exact h.elim
  | no => rw [hf] at h; exact h.elim
  | ex c f =>
    rw [hf] at h
    exact fun dd H2 e2 x => h dd H2 (e1'.trans' (e2.mono (by simp))) (r1.ext0 e2) x
/-! ### if not alike([w.steps, w.path, w.hall], e): return False -/
def wAlk (j n : Nat) (Fa : List PyData → Fr) (fe : RS → Rs PyData) : RS → WSt → WO := fun ρ s => match s.ys.getLast? with
  | some l => (match fe ρ with
    | .ok d ρ1 => if isA ρ ρ1 j && decide (n = 2) then (match Fa [.list [.tuple (s.xs.map PyData.int), .tuple (s.ys.map PyData.int), .int l], d] with
      | .ok (.bool true) => .nx ρ1 s
      | .ok (.bool false) => .rt (.bool false)
      | _ => .no) else .no
    | _ => .no)
  | none => .no
theorem repI (K : PySem.W.Frag) (A : List Addr) (H : Hp) : ∀ ns : List Int, RepAll K A H (ns.map V.int) (ns.map PyData.int) := fun ns => RepAll.of_ints ns
theorem dws_alk {x y : Str} {e2 : Expr} {fe : RS → Rs PyData} {p p1 p2 p3 p4 p5 p6 lp cpos np rp sp : Pos} {jc : Nat} {q n : Nat} {f : Addr} {fd : FuncData} {ps : List Str} {Fa : List PyData → Fr} (F : Fam X G W k) (hP : ∀ i, (X i).prog = P) (hw : ∀ i, (X i).w = w0) (hb : ∀ i, (X i).base = base) (hmg : ∀ i, (X i).mg = mg) {qw : Nat} (WC : WhC P w0 G.K mg base G qw C EB EN Fn) (hqw : qw + 1 ≤ k)
    (hF : ∀ i, FnOk (X i).prog (X i).w (X i).K (X i).mg (X i).base (L2.CX (X i).prog (X i).w) q f fd ps (spD G n Fa)) (hq : q ≤ k) (hN : ∀ i, (X i).N[j]? = some y) (hv : ∀ i, Vis (X i).env.scope y) (hg : ∀ i, Gl (X i) x) (hm : ∀ i, (X i).mg x = some (.ref f)) (hk : PySem.W.keepIn G.K (.ref f) = true) (hbd : Binds G.K fd ps [])
    (he : DE X G W e2 fe) (hd : (y == ("__debug__" : Str)) = false := by decide) (hcd : (y == ("__classdict__" : Str)) = false := by decide) (hdb : (x == ("__debug__" : Str)) = false := by decide)
    (ha1 : ∀ i, attributeBase (.Name y p1) "steps" (X i).env (eval (.Name y p1) (X i).env) = eval (.Name y p1) (X i).env := by intro _; rfl) (ha2 : ∀ i, attributeBase (.Name y p3) "path" (X i).env (eval (.Name y p3) (X i).env) = eval (.Name y p3) (X i).env := by intro _; rfl) (ha3 : ∀ i, attributeBase (.Name y p5) "hall" (X i).env (eval (.Name y p5) (X i).env) = eval (.Name y p5) (X i).env := by intro _; rfl)
    (s1 : ∀ i, starEach [.Attribute (.Name y p5) "hall" p6] (X i).env = (false, eval (.Attribute (.Name y p5) "hall" p6) (X i).env) :: starEach [] (X i).env := by intro _; rfl)
    (s2 : ∀ i, starEach [.Attribute (.Name y p3) "path" p4, .Attribute (.Name y p5) "hall" p6] (X i).env = (false, eval (.Attribute (.Name y p3) "path" p4) (X i).env) :: starEach [.Attribute (.Name y p5) "hall" p6] (X i).env := by intro _; rfl)
    (s3 : ∀ i, starEach [.Attribute (.Name y p1) "steps" p2, .Attribute (.Name y p3) "path" p4, .Attribute (.Name y p5) "hall" p6] (X i).env = (false, eval (.Attribute (.Name y p1) "steps" p2) (X i).env) :: starEach [.Attribute (.Name y p3) "path" p4, .Attribute (.Name y p5) "hall" p6] (X i).env := by intro _; rfl)
    (s4 : ∀ i, starEach [e2] (X i).env = (false, eval e2 (X i).env) :: starEach [] (X i).env := by intro _; rfl)
    (s5 : ∀ i, starEach [.List [.Attribute (.Name y p1) "steps" p2, .Attribute (.Name y p3) "path" p4, .Attribute (.Name y p5) "hall" p6] lp, e2] (X i).env = (false, eval (.List [.Attribute (.Name y p1) "steps" p2, .Attribute (.Name y p3) "path" p4, .Attribute (.Name y p5) "hall" p6] lp) (X i).env) :: starEach [e2] (X i).env := by intro _; rfl)
    (hpl : ∀ i, (backTo cpos (starEach [e2] (X i).env)).any (·.1) = false := by intro _; rfl) :
    DWS X G C j (.If (.UnaryOp .Not (.Call (.Name x p) [.List [.Attribute (.Name y p1) "steps" p2, .Attribute (.Name y p3) "path" p4, .Attribute (.Name y p5) "hall" p6] lp, e2] [] cpos) np) [.Return (some (.Constant (.bool false) jc rp)) sp] [] pos) (wAlk j n Fa fe) := by
  obtain ⟨pa, ga, fda, psa, ua, va, wa⟩ := WC.steps
  obtain ⟨pb, gb, fdb, psb, ub, vb, wb⟩ := WC.path
  obtain ⟨pc, gc, fdc, psc, uc, vc, wc⟩ := WC.hall
  obtain ⟨t, pt, lt⟩ := he
  refine ⟨_, fun i => ps_if (pt_not (pt_val (pe_callS (CX := L2.CX (X i).prog (X i).w) (E := WE W) (hF i) ((F.room i).mono hq) (hg i) (hm i) (by rw [F.K i]; exact hk) (by rw [F.K i]; exact hbd) (fun σ => passAt (F.takes i) σ)
      (pa_cons (pe_lst (pa_cons (pe_prop (CX := CX0) (E := E0) (ds := []) (dvs := []) (C := C) (sp := spTup G.K C WSt.xs) (k := qw) (pe_var (hN i) (hv i) hd hcd) (by rw [F.K i]; exact WC.cls) (by rw [F.K i]; exact ua) (by rw [hP i, hw i, F.K i, hmg i, hb i]; exact va) ((F.room i).mono hqw) (by rw [F.K i]; exact wa) .nil pass0 (ha1 i))
        (pa_cons (pe_prop (CX := CX0) (E := E0) (ds := []) (dvs := []) (C := C) (sp := spTup G.K C WSt.ys) (k := qw) (pe_var (hN i) (hv i) hd hcd) (by rw [F.K i]; exact WC.cls) (by rw [F.K i]; exact ub) (by rw [hP i, hw i, F.K i, hmg i, hb i]; exact vb) ((F.room i).mono hqw) (by rw [F.K i]; exact wb) .nil pass0 (ha2 i))
          (pa_cons (pe_prop (CX := CX0) (E := E0) (ds := []) (dvs := []) (C := C) (sp := spHall G.K C) (k := qw) (pe_var (hN i) (hv i) hd hcd) (by rw [F.K i]; exact WC.cls) (by rw [F.K i]; exact uc) (by rw [hP i, hw i, F.K i, hmg i, hb i]; exact vc) ((F.room i).mono hqw) (by rw [F.K i]; exact wc) .nil pass0 (ha3 i)) pa_nil (s1 i)) (s2 i)) (s3 i))) (pa_cons (pt i) pa_nil (s4 i)) (s5 i)) hdb (s5 i) (hpl i)))) (pss_one (ps_ret pe_bl)) pss_nil, fun w Fg O ρ s σ H D r h => ?_⟩
  unfold wAlk at h
  cases hl : s.ys.getLast? with
  | none => rw [hl] at h; exact h.elim
  | some l =>
  rw [hl] at h
  simp only at h
  have wat := r.r.raw j w.a r.at_
  refine ⟨_, wat, w.a, _, _, rfl, r.o.ins, w, s, rfl, r.o, fun l1 n1 => ?_⟩
  have e1 : Ext (adr O) H (upd H l1 (.tup (s.xs.map V.int))) := ext_new n1
  have r1 := r.ext e1 (r.r.ext0 (ext_new n1)) r.at_
  refine ⟨_, wat, w.a, _, _, rfl, r1.o.ins, w, s, rfl, r1.o, fun l2 n2 => ?_⟩
  have e2 : Ext (adr O) (upd H l1 (.tup (s.xs.map V.int))) (upd (upd H l1 (.tup (s.xs.map V.int))) l2 (.tup (s.ys.map V.int))) := ext_new n2
  have r2 := r1.ext e2 (r1.r.ext0 (ext_new n2)) r.at_
  refine ⟨_, wat, w.a, _, _, rfl, r2.o.ins, w, s, l, rfl, r2.o, hl, ?_⟩
  refine ⟨by show 3 ≤ sizeLine; decide, fun l3 n3 => ?_⟩
  have e3 : Ext (adr O) (upd (upd H l1 (.tup (s.xs.map V.int))) l2 (.tup (s.ys.map V.int))) (upd (upd (upd H l1 (.tup (s.xs.map V.int))) l2 (.tup (s.ys.map V.int))) l3 (.lst [.ref l1, .ref l2, .int l])) := ext_new n3
  have r3 := r2.ext e3 (r2.r.ext0 (ext_new n3)) r.at_
  have nl2 : l2 ≠ l1 := fun z => by rw [z, upd_same] at n2; cases n2
  have nl3 : l3 ∉ adr O ++ (w.b :: w.c :: Fg) := fun m => by
    obtain ⟨zs, z⟩ := r2.r.all l3 m
    rw [n3] at z; cases z
  have rl1 : Rep G.K (adr O ++ (w.b :: w.c :: Fg)) (upd H l1 (.tup (s.xs.map V.int))) (.ref l1) (.tuple (s.xs.map PyData.int)) := .tup (.inl (.inl upd_same)) (RepAll.of_ints _)
  have rl2 : Rep G.K (adr O ++ (w.b :: w.c :: Fg)) (upd (upd H l1 (.tup (s.xs.map V.int))) l2 (.tup (s.ys.map V.int))) (.ref l2) (.tuple (s.ys.map PyData.int)) := .tup (.inl (.inl upd_same)) (RepAll.of_ints _)
  have rl3 : Rep G.K (adr O ++ (w.b :: w.c :: Fg)) (upd (upd (upd H l1 (.tup (s.xs.map V.int))) l2 (.tup (s.ys.map V.int))) l3 (.lst [.ref l1, .ref l2, .int l])) (.ref l3) (.list [.tuple (s.xs.map PyData.int), .tuple (s.ys.map PyData.int), .int l]) :=
    .lst upd_same nl3 (.cons ((rl1.ext (O := []) (by simp) (ext_new n2) fun _ m => .inl m).ext (O := []) (by simp) (ext_new n3) fun _ m => .inl m) (.cons (rl2.ext (O := []) (by simp) (ext_new n3) fun _ m => .inl m) (.cons (.int l) .nil)))
  have e03 := (e1.trans' e2).trans' e3
  cases ee : fe ρ with
  | no => rw [ee] at h; exact h.elim
  | ex _ _ _ => rw [ee] at h; exact h.elim
  | ok d ρ1 =>
  rw [ee] at h
  simp only at h
  by_cases hc : (isA ρ ρ1 j && decide (n = 2)) = true
  case neg => rw [if_neg hc] at h; exact h.elim
  rw [if_pos hc] at h
  simp only [Bool.and_eq_true, decide_eq_true_eq] at hc
  refine lt (w.b :: w.c :: Fg) O ρ σ _ _ r3.r (gp_at _ _ ee fun H4 e4 r4 v rv => ?_)
  have r4' := r3.ext e4 r4 (isA_ok hc.1 r.at_)
  have rl4 := rl3.ext (fun a m => .inl (List.mem_append_left _ m)) e4 fun _ m => .inl m
  refine ⟨by rw [hc.2]; rfl, adr O ++ (w.b :: w.c :: Fg), [.list [.tuple (s.xs.map PyData.int), .tuple (s.ys.map PyData.int), .int l], d], .cons rl4 (.cons rv .nil), r4.tabs, r4.all, ?_⟩
  cases hfa : Fa [.list [.tuple (s.xs.map PyData.int), .tuple (s.ys.map PyData.int), .int l], d] with
  | no => rw [hfa] at h; exact h.elim
  | ex _ _ => rw [hfa] at h; exact h.elim
  | ok dd =>
    rw [hfa] at h
    intro u H5 e5 ru
    have e5' : Ext (adr O) H4 H5 := e5.mono (by simp)
    have r5 := r4'.ext e5' (r4.ext0 e5) r4'.at_
    have e05 := (e03.trans' e4).trans' e5'
    cases dd with
    | bool b =>
      obtain rfl := rep_bl ru
      refine ⟨b, rfl, ?_⟩
      cases b with
      | true => exact h O σ H5 (Ext.evo e05).w r5
      | false => exact h O _ H5 (Ext.evo e05).w (.bl false)
    | _ => exact h.elim
/-! ### made -/
def intsZ : List PyData → Option (List Int)
  | [] => some []
  | .int i :: r => (intsZ r).map (i :: ·)
  | _ => none
theorem intsZ_ok : ∀ {ds : List PyData} {ns : List Int}, intsZ ds = some ns → ds = ns.map PyData.int
  | [], _, h => by cases h; rfl
  | d :: r, ns, h => by
    cases d with
    | int i =>
      have h : (intsZ r).map (i :: ·) = some ns := h
      obtain ⟨ms, e, rfl⟩ := Option.map_eq_some_iff.mp h
      rw [intsZ_ok e]; rfl
    | _ => cases h
theorem intsZ_map : ∀ ns : List Int, intsZ (ns.map PyData.int) = some ns
  | [] => rfl
  | n :: ns => by
    show (intsZ (ns.map PyData.int)).map (n :: ·) = _
    rw [intsZ_map ns]; rfl
def webOf : PyData → Option (Int × List Int)
  | .tuple [.int h, .tuple ds] => (intsZ ds).map (h, ·)
  | _ => none
theorem webOf_ok {d : PyData} {h : Int} {ss : List Int} (e : webOf d = some (h, ss)) : d = .tuple [.int h, .tuple (ss.map PyData.int)] := by
  unfold webOf at e
  split at e
  · obtain ⟨ms, e1, e2⟩ := Option.map_eq_some_iff.mp e
    cases e2
    rw [intsZ_ok e1]
  · cases e
theorem rep_web {K : PySem.W.Frag} {A : List Addr} {H : Hp} {v : V} {h : Int} {ss : List Int} (r : Rep K A H v (.tuple [.int h, .tuple (ss.map PyData.int)])) : ∃ q1 q2, v = .ref q1 ∧ SqT K H q1 [.int h, .ref q2] ∧ SqT K H q2 (ss.map V.int) := by
  cases r with
  | @tup a xs _ sq rs =>
    cases rs with
    | @cons u us _ _ r1 rs =>
      cases rs with
      | @cons u2 us2 _ _ r2 rs =>
        cases rs
        cases r1
        cases r2 with
        | @tup a2 xs2 _ sq2 rs2 =>
          have e := rs2.ints
          subst e
          exact ⟨a, a2, rfl, sq, sq2⟩
open Classical in
noncomputable def allA (f : Addr → WO) : Option PyData := if h : ∃ d, ∀ a, f a = .rt d then some h.choose else none
theorem allA_eq {f : Addr → WO} {d : PyData} (h : ∀ a, f a = .rt d) : allA f = some d := by
  unfold allA
  have hx : ∃ d, ∀ a, f a = .rt d := ⟨d, h⟩
  rw [dif_pos hx]
  have e := hx.choose_spec 0
  rw [h 0] at e
  cases e
  rfl
theorem allA_ok {f : Addr → WO} {d : PyData} (h : allA f = some d) (a : Addr) : f a = .rt d := by
  unfold allA at h
  split at h
  · rename_i hx
    cases h
    exact hx.choose_spec a
  · cases h
/-- a suite that returns -/
structure DSr {ι : Type} (X : ι → Cx) (G : DL.Ctx) (st : List Stmt) (f : RS → Option PyData) : Prop where
  ex : ∃ t : TS, (∀ i, PSs (X i) st t) ∧ ∀ Fg O ρ σ H D, R G Fg O ρ σ H → (∃ d, f ρ = some d ∧ ∀ v H', Ext (adr O) H H' → Rep G.K Fg H' v d → D.rt v H') → t D σ H
noncomputable def rThen (f : RS → Out) (g : RS → Option PyData) : RS → Option PyData := fun ρ => match f ρ with
  | .nx ρ' => g ρ'
  | _ => none
theorem dsr_cons {st : Stmt} {rest : List Stmt} {f : RS → Out} {g : RS → Option PyData} (h1 : DS X G W st f) (h2 : DSr X G rest g) : DSr X G (st :: rest) (rThen f g) := by
  obtain ⟨t, p, l⟩ := h1
  obtain ⟨t2, p2, l2⟩ := h2
  refine ⟨_, fun i => pss_cons (p i) (p2 i), fun Fg O ρ σ H D r h => ?_⟩
  obtain ⟨d, e, post⟩ := h
  unfold rThen at e
  refine l Fg O ρ σ H _ r ?_
  cases e1 : f ρ with
  | nx ρ' =>
    rw [e1] at e
    exact fun O' σ' H' ev r' => l2 Fg O' ρ' σ' H' D r' ⟨d, e, fun v H2 e2 rv => post v H2 (ev.ext.trans e2 ev.g) rv⟩
  | _ => rw [e1] at e; cases e
noncomputable def rWheel (j j2 : Nat) (Fn : List PyData → Fr) (fs : RS → Rs (List PyData)) (f2 : RS → Rs PyData) (g : RS → WSt → WO) : RS → Option PyData := fun ρ => match fs ρ with
  | .ok [d] ρ1 => (match Fn [d] with
    | .ok _ => (match webOf d with
      | some (h, ss) => (match f2 ρ1 with
        | .ok d2 ρ2 => if noOwn ρ2 j && decide (j < ρ2.length) then allA fun a => (match setD j2 d2 (ρ2.set j (Sl.a a)) with
          | some ρ3 => if isA (ρ2.set j (Sl.a a)) ρ3 j then g ρ3 ⟨h, ss, [], [0]⟩ else .no
          | none => .no) else none
        | _ => none)
      | none => none)
    | _ => none)
  | _ => none
theorem dsr_wheel {j2 : Nat} {x y : Str} {e e2 : Expr} {rest : List Stmt} {fs : RS → Rs (List PyData)} {f2 : RS → Rs PyData} {g : RS → WSt → WO} {p px py pt cpos : Pos} {kt k2 pt2} (F : Fam X G W k) (hP : ∀ i, (X i).prog = P) (hw : ∀ i, (X i).w = w0) (hb : ∀ i, (X i).base = base) (hmg : ∀ i, (X i).mg = mg) {q : Nat} (WC : WhC P w0 G.K mg base G q C EB EN Fn) (hq : q + 1 ≤ k) (hg : ∀ i, Gl (X i) "Wheel")
    (hi : ∀ i, (X i).N[j]? = some x) (hj : ∀ i, (X i).N[j2]? = some y) (hx : ∀ i, Loc (X i).env.scope x) (hy : ∀ i, Loc (X i).env.scope y) (hfx : ∀ i, (X i).fn x = true ∨ (X i).env.scope.names.lookup x = some .local) (hfy : ∀ i, (X i).fn y = true ∨ (X i).env.scope.names.lookup y = some .local)
    (ha : DA X G W [e] fs) (he2 : DE X G W e2 f2) (hr : DWSs X G C j rest g)
    (hs : ∀ i, swapsWithSole [.Tuple [.Name x px, .Name y py] kt pt] (.Tuple [.Call (.Name "Wheel" p) [e] [] cpos, e2] k2 pt2) pos.line (X i).env = pure false := by intro _; rfl) (hsw : ∀ i, swappedStores [.Tuple [.Name x px, .Name y py] kt pt] (.Tuple [.Call (.Name "Wheel" p) [e] [] cpos, e2] k2 pt2) (X i).env = pure none := by intro _; rfl)
    (h1 : ∀ i, starEach [.Call (.Name "Wheel" p) [e] [] cpos, e2] (X i).env = (false, eval (.Call (.Name "Wheel" p) [e] [] cpos) (X i).env) :: starEach [e2] (X i).env := by intro _; rfl) (h2 : ∀ i, starEach [e2] (X i).env = (false, eval e2 (X i).env) :: starEach [] (X i).env := by intro _; rfl)
    (h3 : ∀ i, (assignEach [.Tuple [.Name x px, .Name y py] kt pt] (X i).env).map (·.2) = [assign (.Tuple [.Name x px, .Name y py] kt pt) (X i).env] := by intro _; rfl)
    (he : ∀ i, starEach [e] (X i).env = (false, eval e (X i).env) :: starEach [] (X i).env := by intro _; rfl) (hpl : ∀ i, (backTo cpos (starEach [] (X i).env)).any (·.1) = false := by intro _; rfl) :
    DSr X G (.Assign [.Tuple [.Name x px, .Name y py] kt pt] (.Tuple [.Call (.Name "Wheel" p) [e] [] cpos, e2] k2 pt2) pos :: rest) (rWheel j j2 Fn fs f2 g) := by
  obtain ⟨f, fd, ps, M, F1, b1⟩ := WC.init
  obtain ⟨t, pt', lt⟩ := ha
  obtain ⟨t2, p2, l2⟩ := he2
  obtain ⟨t3, p3, l3⟩ := hr
  refine ⟨_, fun i => pss_cons (ps_asg (pe_tup (pa_cons (pe_makeS (CX := L2.CX (X i).prog (X i).w) (E := WE W) (C := C) (sp := spInit G C Fn) (k := q) (by rw [F.K i]; exact M) (by rw [hP i, hw i, F.K i, hmg i, hb i]; exact F1) ((F.room i).mono hq) (hg i) (by rw [hmg i]; exact WC.gl) (by rw [F.K i]; exact b1) (fun σ => passAt (F.takes i) σ) (pt' i) (by decide) (he i) (hpl i)) (pa_cons (p2 i) pa_nil (h2 i)) (h1 i))) (g := gTup G.K 2 (gCons (gName j) (gCons (gName j2) gNil))) (by rw [← F.K i]; exact pg_tup (F.calm i) (pgs_cons (pg_name (F.nd i) (hi i) (hx i) (hfx i)) (pgs_cons (pg_name (F.nd i) (hj i) (hy i) (hfy i)) pgs_nil))) (hs i) (hsw i) (h3 i)) (p3 i), fun Fg O ρ σ H D r h => ?_⟩
  obtain ⟨dd, h, post⟩ := h
  unfold rWheel at h
  cases e1 : fs ρ with
  | no => rw [e1] at h; cases h
  | ex _ _ _ => rw [e1] at h; cases h
  | ok ds ρ1 =>
  match ds, e1 with
  | [], e1 => rw [e1] at h; cases h
  | _ :: _ :: _, e1 => rw [e1] at h; cases h
  | [d], e1 =>
  rw [e1] at h
  simp only at h
  refine lt Fg O ρ σ H _ r (gp_at _ _ e1 fun H1 e1' r1 vs rv => ?_)
  match vs, rv with
  | [v], .cons rv .nil =>
  intro x' dx hx1 hdx hne
  refine ⟨x', dx, v, H1, adr O ++ Fg, d, rfl, rfl, hx1, hdx, hne, rv, r1.tabs, r1.all, ?_⟩
  cases hf : Fn [d] with
  | ex _ _ => rw [hf] at h; cases h
  | no => rw [hf] at h; cases h
  | ok _ =>
  rw [hf] at h
  simp only at h
  cases hwb : webOf d with
  | none => rw [hwb] at h; cases h
  | some hp =>
  obtain ⟨hh, ss⟩ := hp
  rw [hwb] at h
  simp only at h
  have hd := webOf_ok hwb
  intro H2 b c v2 e2' nb nc nbc i2 lb lc rv2
  refine ⟨rfl, ?_⟩
  obtain ⟨q1, q2, ev2, sq, sq2⟩ := rep_web (by rw [← hd]; exact rv2)
  subst ev2
  have o2 : WhO G.K C ⟨x', dx, b, c, q1, q2⟩ ⟨hh, ss, [], [0]⟩ H2 := ⟨i2, sq, sq2, lb, lc, nbc⟩
  have r2 : R G (b :: c :: Fg) O ρ1 σ H2 := r1.more2 e2' nb nc lb lc
  cases ef : f2 ρ1 with
  | no => rw [ef] at h; cases h
  | ex _ _ _ => rw [ef] at h; cases h
  | ok d2 ρ2 =>
  rw [ef] at h
  simp only at h
  by_cases hc : (noOwn ρ2 j && decide (j < ρ2.length)) = true
  case neg => rw [if_neg hc] at h; cases h
  rw [if_pos hc] at h
  simp only [Bool.and_eq_true, decide_eq_true_eq] at hc
  have ha := allA_ok h x'
  refine l2 (b :: c :: Fg) O ρ1 σ H2 _ r2 (gp_at _ _ ef fun H3 e3 r3 w2 rv3 => ?_)
  refine ⟨by show 2 ≤ sizeLine; decide, fun T hT => ?_⟩
  have en : Ext [] H3 (upd H3 T (.tup [.ref x', w2])) := ext_new hT
  refine ⟨T, _, rfl, .inl (.inl upd_same), rfl, .ref x', [w2], rfl, w2, [], rfl, rfl, ?_⟩
  have r4 := (r3.ext0 en).setA (p := x') (noOwn_ok hc.1)
  cases q : setD j2 d2 (ρ2.set j (Sl.a x')) with
  | none => rw [q] at ha; cases ha
  | some ρ3 =>
    rw [q] at ha
    simp only at ha
    by_cases qa : isA (ρ2.set j (Sl.a x')) ρ3 j = true
    case neg => rw [if_neg qa] at ha; cases ha
    rw [if_pos qa] at ha
    obtain ⟨n1, rfl⟩ := setD_ok q
    have r5 := r4.set n1 (rv3.ext (O := []) (by simp) en fun _ m => .inl m)
    have nbO : b ∉ adr O := fun m => by
      obtain ⟨zs, z⟩ := r1.all b (List.mem_append_left _ m)
      rw [nb] at z; cases z
    have ncO : c ∉ adr O := fun m => by
      obtain ⟨zs, z⟩ := r1.all c (List.mem_append_left _ m)
      rw [nc] at z; cases z
    have o5 := (o2.ext e3 nbO ncO).ext en (by simp) (by simp)
    have rw5 : RW G C Fg O j ⟨x', dx, b, c, q1, q2⟩ _ ⟨hh, ss, [], [0]⟩ _ _ := ⟨r5, o5, isA_ok qa (List.getElem?_set_self hc.2)⟩
    refine l3 ⟨x', dx, b, c, q1, q2⟩ Fg O _ _ _ _ D rw5 ?_
    rw [ha]
    intro O' v' H' ev rv'
    refine post v' H' ?_ rv'
    have e04 : Ext (adr O) H1 (upd H3 T (.tup [.ref x', w2])) := ((e2'.mono (by simp)).trans' e3).trans' (en.mono (by simp))
    have e6 : Ext ([b, c] ++ adr O) H1 H' := (e04.mono fun a m => List.mem_append_right _ m).trans' ev.ext
    exact e1'.trans' (e6.less fun a m => by
      rcases List.mem_cons.mp m with z | m
      · rw [z]; exact nb
      · rw [List.mem_singleton.mp m]; exact nc)
end
/-! ### a def whose body is such a suite -/
section
variable {P : Program} {w : World} {K : PySem.W.Frag} {mg : Str → Option Value} {base : Heap} {G : DL.Ctx} {x qual : Str} {st : Stmt} {f : Addr} {fd : FuncData} {N ps : List Str} {k : Nat}
def fnR (n m : Nat) (fb : RS → Option PyData) (ds : List PyData) : Fr := match fb (ds.map Sl.d ++ List.replicate (m - n) Sl.n) with
  | some d => .ok d
  | none => .no
theorem fnr_ok {fb : RS → Option PyData} (F : Fun K x qual st f fd) (S : FnScope N ps (defScope st)) (hK : K = G.K) (hpl : ps.length ≤ N.length)
    (body : ∀ (A : Around) (outer : List Env) (s : Shared) (H : Hp) (E : XK), Room k (A.deeper (envOfC qual (defScope st) s.heap.objs.size f fd.code)) → DSr (Cf P w K mg base N qual st f fd A outer s H E) G (defBody st) fb) :
    FnOk P w K mg base (L2.CX P w) (k + 1) f fd ps (spD G ps.length (fnR ps.length N.length fb)) := by
  refine fun_okC F S (fun vs H Q E h => h.1) fun A outer s H vs Q E hr hsp => ?_
  obtain ⟨hl, Fg, ds, rv, tabs, all, post⟩ := hsp
  obtain ⟨t, p, l⟩ := body A outer s H E hr
  refine ⟨t, p (), l Fg [] (ds.map Sl.d ++ List.replicate (N.length - ps.length) Sl.n) (L2.start N vs) H _ ?_ ?_⟩
  · have hlen := rv.length
    have noS : ∀ (i : Nat) (s : Sl), (ds.map Sl.d ++ List.replicate (N.length - ps.length) Sl.n)[i]? = some s → (∃ d, s = Sl.d d) ∨ s = Sl.n := fun i s e => by
      rcases List.mem_append.mp (List.mem_of_getElem? e) with m | m
      · obtain ⟨d, _, z⟩ := List.mem_map.mp m
        exact .inl ⟨d, z.symm⟩
      · exact .inr (List.mem_replicate.mp m).2
    refine ⟨?_, fun i d e => ?_, fun i xs e => ?_, fun _ _ _ m => (by cases m), fun _ _ _ m => (by cases m), fun _ m => (by cases m), fun _ _ m => (by cases m), tabs, fun a m => all a m, fun i p e => ?_⟩
    · unfold L2.start
      simp only [List.length_append, List.length_map, List.length_replicate]
      omega
    · by_cases hi : i < ds.length
      · rw [List.getElem?_append_left (by simpa using hi), List.getElem?_map] at e
        cases q : ds[i]? with
        | none => rw [q] at e; cases e
        | some d' =>
          rw [q] at e
          cases e
          obtain ⟨v, h1, h2⟩ := rv.get q
          exact ⟨v, start_get h1, h2⟩
      · rw [List.getElem?_append_right (by simpa using Nat.le_of_not_lt hi)] at e
        have := (List.mem_replicate.mp (List.mem_of_getElem? e)).2
        cases this
    · rcases noS i _ e with ⟨d, z⟩ | z <;> cases z
    · rcases noS i _ e with ⟨d, z⟩ | z <;> cases z
  · unfold fnR at post
    cases z : fb (ds.map Sl.d ++ List.replicate (N.length - ps.length) Sl.n) with
    | none => rw [z] at post; exact post.elim
    | some d =>
      rw [z] at post
      exact ⟨d, rfl, fun v H' e rv => post v H' e rv⟩
end
end DL

-- text DL31
set_option Elab.async false
set_option linter.all false
set_option maxRecDepth 100000
set_option maxHeartbeats 2000000
namespace DL
open PySem PySem.Spec PyProof.Rows L2 GxR
/-! ### sum of a tuple -/
def rSumT (K : PySem.W.Frag) : List V → Hp → VK → Prop := fun vs H Q => ∃ (a : Addr) (ns : List Int), vs = [V.ref a] ∧ SqT K H a (ns.map V.int) ∧ Q (.int ns.sum) H
theorem cr_sumT {X : Cx} (hc : X.calm = true) : CallR X (.builtin "sum") (rSumT X.K) := by
  intro pins s σ H vs us Q I r h
  obtain ⟨a, ns, rfl, hs, q⟩ := h
  obtain ⟨its, rv, hl, _⟩ := I.tuple hs
  rw [Vals.ref1 r]
  have hi := rv.ints
  obtain ⟨xs, e⟩ := hi.allInts.items
  have hn : numsOf (intItems xs).toList = ns := by rw [← e]; exact hi.numsOf
  rw [nums_intItems] at hn
  have hl2 : s.heap.IsTuple a (intItems xs) := by
    rw [← e]; exact hl
  refine PySem.W.ktm_sumG (I.ok.hd hc) hl2 fun h' tk t' hk => ?_
  rw [preSum_eq, List.take_of_length_le (by simp), hn]
  exact ⟨.int _, H, I.kept hk, ⟨_, rfl⟩, q⟩
def gSumT : List PyData → Option PyData
  | [.tuple xs] => (intsOf xs).map fun ns => .int ns.sum
  | _ => none
theorem cr_sumTG {X : Cx} {G : DL.Ctx} (hK : X.K = G.K) (hc : X.calm = true) : CallR X (.builtin "sum") (rSumT G.K) := by
  rw [← hK]
  exact cr_sumT hc
theorem cd_sumT {G : DL.Ctx} : CallD G (rSumT G.K) gSumT := by
  intro A H xs ds d Q all r e q
  unfold gSumT at e
  split at e
  · obtain ⟨ns, e1, e⟩ := Option.map_eq_some_iff.mp e
    cases e
    match xs, r with
    | [_], .cons rx .nil =>
      rw [intsOf_some e1] at rx
      obtain ⟨a, us, rfl, h1, r1⟩ := rep_tup rx
      rw [r1.ints] at h1
      exact ⟨a, ns, rfl, h1, q _ _ (Same.refl _) (.int _)⟩
  · cases e
end DL

-- text ML
set_option Elab.async false
set_option linter.all false
set_option maxRecDepth 100000
set_option maxHeartbeats 2000000
/-! plain laws about the data functions -/
namespace DL
open PySem PySem.Spec

section
variable {g : PyData → RS → Option RS} {ft : RS → Rs Bool} {fe : RS → Rs PyData} {vs : List Nat} {I : RS → Prop}
/-- one turn of a comprehension: the test b, and the item made -/
def LcStep (g : PyData → RS → Option RS) (ft : RS → Rs Bool) (fe : RS → Rs PyData) (vs : List Nat) (I : RS → Prop) (x : PyData) (b : Bool) (y : PyData) (ρ : RS) : Prop :=
  ∃ ρ1 ρ2, g x ρ = some ρ1 ∧ ft ρ1 = .ok b ρ2 ∧ (b = false → allFree ρ2 vs = true ∧ I (rwipe ρ2 vs)) ∧ (b = true → ∃ ρ3, fe ρ2 = .ok y ρ3 ∧ allFree ρ3 vs = true ∧ I (rwipe ρ3 vs))
theorem lcL_cons_t {x : PyData} {xs : List PyData} {ρ : RS} {y : PyData} (h : LcStep g ft fe vs I x true y ρ) : ∃ ρ', I ρ' ∧ lcL g ft fe vs (x :: xs) ρ = (lcL g ft fe vs xs ρ').bind fun r ρ4 => .ok (y :: r) ρ4 := by
  obtain ⟨ρ1, ρ2, h1, h2, _, h3⟩ := h
  obtain ⟨ρ3, h4, h5, h6⟩ := h3 rfl
  refine ⟨rwipe ρ3 vs, h6, ?_⟩
  rw [lcL, h1]
  simp only [h2, noex, Rs.bind, if_true, h4, h5]
theorem lcL_cons_f {x : PyData} {xs : List PyData} {ρ : RS} {y : PyData} (h : LcStep g ft fe vs I x false y ρ) : ∃ ρ', I ρ' ∧ lcL g ft fe vs (x :: xs) ρ = lcL g ft fe vs xs ρ' := by
  obtain ⟨ρ1, ρ2, h1, h2, h3, _⟩ := h
  obtain ⟨h5, h6⟩ := h3 rfl
  refine ⟨rwipe ρ2 vs, h6, ?_⟩
  rw [lcL, h1]
  simp only [h2, noex, Rs.bind, Bool.false_eq_true, if_false, h5, if_true]
/-- a comprehension whose tests and items are known -/
theorem lcL_det (p : PyData → Bool) (f : PyData → PyData) : ∀ (items : List PyData), (∀ x ∈ items, ∀ ρ, I ρ → LcStep g ft fe vs I x (p x) (f x) ρ) → ∀ ρ, I ρ → ∃ ρ', I ρ' ∧ lcL g ft fe vs items ρ = .ok ((items.filter p).map f) ρ'
  | [], _, ρ, h => ⟨ρ, h, rfl⟩
  | x :: xs, st, ρ, h => by
    have ih := lcL_det p f xs fun y m => st y (List.mem_cons_of_mem _ m)
    have s := st x List.mem_cons_self ρ h
    cases e : p x with
    | true =>
      rw [e] at s
      obtain ⟨ρ1, h1, e1⟩ := lcL_cons_t (xs := xs) s
      obtain ⟨ρ2, h2, e2⟩ := ih ρ1 h1
      exact ⟨ρ2, h2, by rw [e1, e2, List.filter_cons_of_pos e]; rfl⟩
    | false =>
      rw [e] at s
      obtain ⟨ρ1, h1, e1⟩ := lcL_cons_f (xs := xs) s
      obtain ⟨ρ2, h2, e2⟩ := ih ρ1 h1
      exact ⟨ρ2, h2, by rw [e1, e2, List.filter_cons_of_neg (by rw [e]; decide)]⟩
/-- .. whose tests are not known -/
theorem lcL_sub (f : PyData → PyData) : ∀ (items : List PyData), (∀ x ∈ items, ∀ ρ, I ρ → ∃ b, LcStep g ft fe vs I x b (f x) ρ) → ∀ ρ, I ρ → ∃ (ys : List PyData) (ρ' : RS), ys.Sublist items ∧ I ρ' ∧ lcL g ft fe vs items ρ = .ok (ys.map f) ρ'
  | [], _, ρ, h => ⟨[], ρ, .slnil, h, rfl⟩
  | x :: xs, st, ρ, h => by
    have ih := lcL_sub f xs fun y m => st y (List.mem_cons_of_mem _ m)
    obtain ⟨b, s⟩ := st x List.mem_cons_self ρ h
    cases b with
    | true =>
      obtain ⟨ρ1, h1, e1⟩ := lcL_cons_t (xs := xs) s
      obtain ⟨ys, ρ2, h0, h2, e2⟩ := ih ρ1 h1
      exact ⟨x :: ys, ρ2, h0.cons₂ x, h2, by rw [e1, e2]; rfl⟩
    | false =>
      obtain ⟨ρ1, h1, e1⟩ := lcL_cons_f (xs := xs) s
      obtain ⟨ys, ρ2, h0, h2, e2⟩ := ih ρ1 h1
      exact ⟨ys, ρ2, h0.cons x, h2, by rw [e1, e2]⟩
/-- the whole comprehension -/
theorem eLc_of {fi : RS → Rs (List PyData)} {ρ ρ1 ρ2 : RS} {items ds : List PyData} (h1 : fi ρ = .ok items ρ1) (hl : items.length ≤ sizeLine) (h2 : allFree ρ1 vs = true) (h3 : lcL g ft fe vs items (rwipe ρ1 vs) = .ok ds ρ2) (h4 : allFree ρ2 vs = true) :
    eLc fi g ft fe vs ρ = .ok (.list ds) (rwipe ρ2 vs) := by
  unfold eLc
  rw [h1]
  simp only [Rs.bind, hl, h2, and_self, if_true, h3, h4]
theorem allL_det (p : PyData → Bool) : ∀ (items : List PyData), (∀ x ∈ items, ∀ ρ, I ρ → ∃ ρ1 d ρ2, g x ρ = some ρ1 ∧ fe ρ1 = .ok d ρ2 ∧ truF d = some (p x) ∧ allFree ρ2 vs = true ∧ I (rwipe ρ2 vs)) → ∀ ρ, I ρ → ∃ ρ', I ρ' ∧ allL g fe vs items ρ = .ok (items.all p) ρ'
  | [], _, ρ, h => ⟨ρ, h, rfl⟩
  | x :: xs, st, ρ, h => by
    obtain ⟨ρ1, d, ρ2, h1, h2, h3, h4, h5⟩ := st x List.mem_cons_self ρ h
    cases e : p x with
    | true =>
      obtain ⟨ρ', h6, h7⟩ := allL_det p xs (fun y m => st y (List.mem_cons_of_mem _ m)) (rwipe ρ2 vs) h5
      refine ⟨ρ', h6, ?_⟩
      rw [allL, h1]
      simp only [h2, noex, Rs.bind, h4, if_true, h3, e, h7, List.all_cons, Bool.true_and]
    | false =>
      refine ⟨rwipe ρ2 vs, h5, ?_⟩
      rw [allL, h1]
      simp only [h2, noex, Rs.bind, h4, if_true, h3, e, List.all_cons, Bool.false_and]
theorem eAll_of {fi : RS → Rs (List PyData)} {ρ ρ1 ρ2 : RS} {items : List PyData} {b : Bool} (h1 : fi ρ = .ok items ρ1) (h2 : allFree ρ1 vs = true) (h3 : allL g fe vs items (rwipe ρ1 vs) = .ok b ρ2) (h4 : allFree ρ2 vs = true) :
    eAll fi g fe vs ρ = .ok (.bool b) (rwipe ρ2 vs) := by
  unfold eAll
  rw [h1]
  simp only [Rs.bind, h2, if_true, h3, noex, h4]
/-- a loop with an invariant of the turn -/
theorem forL_inv {b : RS → Out} (J : Nat → RS → Prop) : ∀ (items : List PyData) (n : Nat), (∀ i x, items[i]? = some x → ∀ ρ, J (n + i) ρ → ∃ ρ1 ρ2, g x ρ = some ρ1 ∧ (b ρ1 = .nx ρ2 ∨ b ρ1 = .ct ρ2) ∧ J (n + i + 1) ρ2) → ∀ ρ, J n ρ → ∃ ρ', J (n + items.length) ρ' ∧ forL g b items ρ = .nx ρ'
  | [], n, _, ρ, h => ⟨ρ, h, rfl⟩
  | x :: xs, n, st, ρ, h => by
    obtain ⟨ρ1, ρ2, h1, h2, h3⟩ := st 0 x rfl ρ h
    obtain ⟨ρ', h4, h5⟩ := forL_inv J xs (n + 1) (fun i y e ρ hj => by
      have := st (i + 1) y (by simpa using e) ρ (by rw [show n + (i + 1) = n + 1 + i by omega]; exact hj)
      rwa [show n + (i + 1) + 1 = n + 1 + i + 1 by omega] at this) ρ2 h3
    refine ⟨ρ', by rw [List.length_cons, show n + (xs.length + 1) = n + 1 + xs.length by omega]; exact h4, ?_⟩
    rw [forL, h1]
    rcases h2 with h2 | h2 <;> simp only [h2, brkTo, h5]
end
/-! ### webs -/
def pis (ns : List Int) : List PyData := ns.map PyData.int
def webD (h : Int) (ss : List Int) : PyData := .tuple [.int h, .tuple (pis ss)]
/-- the row of draws -/
def Row (xs : List PyData) : Prop := ∃ (ns : List Int) (a b c : Int), xs = [scr ns, .int a, .int b, .int c] ∧ 0 ≤ a ∧ 0 ≤ b
/-- a web: steps strictly ascending, from 1 to below the number of halls -/
structure IsWeb (h : Int) (ss : List Int) : Prop where
  lo : 2 ≤ h
  hi : h ≤ 13
  asc : ss.Pairwise (· < ·)
  rng : ∀ s ∈ ss, 1 ≤ s ∧ s ≤ h - 1
theorem ints_all_flat : ∀ ns : List Int, (pis ns).all flatD = true
  | [] => rfl
  | n :: ns => by
    show (flatD (.int n) && (pis ns).all flatD) = true
    rw [ints_all_flat ns]
    rfl
theorem range_ints (lo hi : Int) : rngD lo hi = pis ((List.range (hi - lo).toNat).map fun i => lo + (i : Nat)) := by
  unfold rngD pis
  rw [List.map_map]
  rfl
def rngI (lo hi : Int) : List Int := (List.range (hi - lo).toNat).map fun i => lo + (i : Nat)
theorem rngI_mem {lo hi x : Int} : x ∈ rngI lo hi ↔ lo ≤ x ∧ x < hi := by
  unfold rngI
  simp only [List.mem_map, List.mem_range]
  constructor
  · rintro ⟨i, h, rfl⟩
    omega
  · rintro ⟨h1, h2⟩
    exact ⟨(x - lo).toNat, by omega, by omega⟩
theorem rngI_asc (lo hi : Int) : (rngI lo hi).Pairwise (· < ·) := by
  unfold rngI
  refine List.pairwise_map.mpr (List.pairwise_lt_range.imp fun {a b} h => ?_)
  omega
theorem rngI_len (lo hi : Int) : (rngI lo hi).length = (hi - lo).toNat := by simp [rngI]
theorem rngD_I (lo hi : Int) : rngD lo hi = pis (rngI lo hi) := range_ints lo hi
theorem sub_ints {ys : List PyData} {ns : List Int} (h : ys.Sublist (pis ns)) : ∃ ms, ys = pis ms ∧ ms.Sublist ns := by
  unfold pis at h
  obtain ⟨ms, h1, rfl⟩ := List.sublist_map_iff.mp h
  exact ⟨ms, rfl, h1⟩
theorem web_of_sub {h : Int} {ms : List Int} (h1 : 2 ≤ h) (h2 : h ≤ 13) (hs : ms.Sublist (rngI 1 h)) : IsWeb h ms :=
  ⟨h1, h2, (rngI_asc 1 h).sublist hs, fun s m => by
    have := rngI_mem.mp (hs.subset m)
    omega⟩
theorem intsOf_ints (ns : List Int) : intsOf (pis ns) = some ns := intsOf_map ns
theorem isInts_ints : ∀ ns : List Int, isInts (pis ns) = true
  | [] => rfl
  | n :: ns => isInts_ints ns
theorem ints0_ints (ns : List Int) : ints0 (pis ns) = ns := ints0_map ns
theorem sortOk_ints (ns : List Int) : sortOk (pis ns) = true := by
  cases ns with
  | nil => rfl
  | cons n ns =>
    show (!(kindS (.int n) == 0) && (pis ns).all fun e => kindS e == kindS (.int n)) = true
    simp [kindS, pis]
/-- sorting pis -/
def sortI (ns : List Int) : List Int := isort (fun a b => decide (a ≤ b)) ns
theorem insB_ints (x : Int) : ∀ ns : List Int, insB leK (.int x) (pis ns) = pis (insB (fun a b => decide (a ≤ b)) x ns)
  | [] => rfl
  | n :: ns => by
    have e : leK (.int x) (.int n) = decide (x ≤ n) := by
      show (!lexB [n] [x]) = _
      unfold lexB
      by_cases h : n = x
      · simp [h, lexB]
      · rw [if_neg h]
        by_cases h2 : n < x
        · have : ¬ x ≤ n := by omega
          simp [h2, this]
        · have : x ≤ n := by omega
          simp [h2, this]
    show (if leK (.int x) (.int n) = true then PyData.int x :: .int n :: pis ns else .int n :: insB leK (.int x) (pis ns)) = _
    rw [e, insB_ints x ns]
    show _ = pis (if decide (x ≤ n) = true then x :: n :: ns else n :: insB (fun a b => decide (a ≤ b)) x ns)
    by_cases h : decide (x ≤ n) = true
    · rw [if_pos h, if_pos h]
      rfl
    · rw [if_neg h, if_neg h]
      rfl
theorem isort_ints : ∀ ns : List Int, isort leK (pis ns) = pis (sortI ns)
  | [] => rfl
  | n :: ns => by
    show insB leK (.int n) (isort leK (pis ns)) = pis (insB _ n (sortI ns))
    rw [isort_ints ns, insB_ints]
theorem leI_total : PySem.W.TotalLe fun a b : Int => decide (a ≤ b) := ⟨fun a b c h1 h2 => by simp at *; omega, fun a b => by simp; omega⟩
theorem sortI_perm (ns : List Int) : (sortI ns).Perm ns := isort_perm ns
theorem sortI_pw (ns : List Int) : (sortI ns).Pairwise (· ≤ ·) := (isort_pw leI_total ns).imp fun {a b} h => by simpa using h
theorem sortI_eq {ns ms : List Int} (h : ms.Pairwise (· ≤ ·)) (p : ms.Perm ns) : sortI ns = ms :=
  sorted_eq (le := fun a b : Int => decide (a ≤ b)) (fun a _ b _ h1 h2 => by simp at h1 h2; omega) ((sortI_pw ns).imp fun {a b} h => by simpa using h) (h.imp fun {a b} h => by simpa using h) ((sortI_perm ns).trans p.symm)
theorem le_of_asc {ns : List Int} (h : ns.Pairwise (· < ·)) : ns.Pairwise (· ≤ ·) := h.imp fun {a b} h => Int.le_of_lt h
theorem asc_of {ns : List Int} (h : ns.Pairwise (· ≤ ·)) (nd : ns.Nodup) : ns.Pairwise (· < ·) := by
  have := List.Pairwise.and h nd
  exact this.imp fun {a b} h => by omega
theorem nodup_asc {ns : List Int} (h : ns.Pairwise (· < ·)) : ns.Nodup := h.imp fun {a b} h e => by omega
/-- two ascending lists of the same members -/
theorem asc_ext {ns ms : List Int} (h1 : ns.Pairwise (· < ·)) (h2 : ms.Pairwise (· < ·)) (h : ∀ x, x ∈ ns ↔ x ∈ ms) : ns = ms :=
  sorted_eq (le := fun a b : Int => decide (a ≤ b)) (fun a _ b _ h1 h2 => by simp at h1 h2; omega) ((le_of_asc h1).imp fun {a b} h => by simpa using h) ((le_of_asc h2).imp fun {a b} h => by simpa using h) ((List.perm_ext_iff_of_nodup (nodup_asc h1) (nodup_asc h2)).mpr h)
end DL

-- text MA1
set_option Elab.async false
set_option linter.all false
/-! plain mathematics of nets: no program here -/
namespace MN
abbrev Mat := List (List Bool)
def rel (m : Mat) (i j : Nat) : Bool := (m.getD i []).getD j false
/-! ### lists -/
theorem len_le_of_sub {α : Type} [BEq α] [LawfulBEq α] : ∀ {l m : List α}, l.Nodup → (∀ x ∈ l, x ∈ m) → l.length ≤ m.length
  | [], _, _, _ => Nat.zero_le _
  | x :: l, m, nd, h => by
    obtain ⟨h1, h2⟩ := List.nodup_cons.mp nd
    have hx := h x List.mem_cons_self
    have := len_le_of_sub (m := m.erase x) h2 fun y hy => by
      have hne : y ≠ x := fun z => h1 (z ▸ hy)
      exact (List.mem_erase_of_ne hne).mpr (h y (List.mem_cons_of_mem _ hy))
    have e := List.length_erase_of_mem hx
    have hp : 0 < m.length := List.length_pos_of_mem hx
    rw [List.length_cons]
    omega
theorem len_inj {α β : Type} [BEq β] [LawfulBEq β] {l : List α} {m : List β} (f : α → β) (nd : l.Nodup) (inj : ∀ x ∈ l, ∀ y ∈ l, f x = f y → x = y) (h : ∀ x ∈ l, f x ∈ m) : l.length ≤ m.length := by
  rw [← List.length_map (f := f)]
  refine len_le_of_sub (List.pairwise_map.mpr (List.Pairwise.imp_of_mem (fun {a b} ha hb hab e => hab (inj a ha b hb e)) nd)) fun x hx => ?_
  obtain ⟨a, ha, rfl⟩ := List.mem_map.mp hx
  exact h a ha
/-- a list of unlike numbers below n, as many as n: all of them -/
theorem full_of {n : Nat} {r : List Nat} (nd : r.Nodup) (lt : ∀ x ∈ r, x < n) (hl : r.length = n) : ∀ y, y < n → y ∈ r := fun y hy => by
  refine Classical.byContradiction fun hn => ?_
  have := len_le_of_sub (l := y :: r) (m := List.range n) (List.nodup_cons.mpr ⟨hn, nd⟩) fun x hx => by
    rcases List.mem_cons.mp hx with e | hx
    · rw [e]; exact List.mem_range.mpr hy
    · exact List.mem_range.mpr (lt x hx)
  rw [List.length_cons, List.length_range] at this
  omega
/-! ### rows that lead ways to ways -/
def fitsB (m m' : Mat) (row : List Nat) (h : Nat) : Bool := row.zipIdx.all fun p => rel m p.2 row.length == rel m' p.1 h && rel m row.length p.2 == rel m' h p.1
/-- the row leads the ways between its places to ways, and none else -/
def Good (m m' : Mat) (row : List Nat) : Prop := ∀ i j, i < j → j < row.length → rel m i j = rel m' (row.getD i 0) (row.getD j 0) ∧ rel m j i = rel m' (row.getD j 0) (row.getD i 0)
theorem fits_iff {m m' : Mat} {row : List Nat} {h : Nat} : fitsB m m' row h = true ↔ ∀ i, i < row.length → rel m i row.length = rel m' (row.getD i 0) h ∧ rel m row.length i = rel m' h (row.getD i 0) := by
  unfold fitsB
  rw [List.all_eq_true]
  constructor
  · intro H i hi
    have := H (row[i], i) (List.mem_iff_getElem.mpr ⟨i, by simpa using hi, by simp⟩)
    simp only [Bool.and_eq_true, beq_iff_eq] at this
    rw [List.getD_eq_getElem?_getD, List.getElem?_eq_getElem hi]
    exact this
  · intro H p hp
    obtain ⟨i, hi, e⟩ := List.mem_iff_getElem.mp hp
    have hi' : i < row.length := by simpa using hi
    rw [List.getElem_zipIdx] at e
    have q := H i hi'
    rw [List.getD_eq_getElem?_getD, List.getElem?_eq_getElem hi'] at q
    rw [← e]
    simp only [Bool.and_eq_true, beq_iff_eq, Nat.zero_add]
    exact q
theorem getD_app {row : List Nat} {h i : Nat} (hi : i < row.length) : (row ++ [h]).getD i 0 = row.getD i 0 := by
  rw [List.getD_eq_getElem?_getD, List.getD_eq_getElem?_getD, List.getElem?_append_left hi]
theorem getD_last {row : List Nat} {h : Nat} : (row ++ [h]).getD row.length 0 = h := by
  rw [List.getD_eq_getElem?_getD, List.getElem?_append_right (Nat.le_refl _)]
  simp
theorem good_app {m m' : Mat} {row : List Nat} {h : Nat} : Good m m' (row ++ [h]) ↔ Good m m' row ∧ fitsB m m' row h = true := by
  rw [fits_iff]
  constructor
  · intro H
    refine ⟨fun i j hij hj => ?_, fun i hi => ?_⟩
    · have := H i j hij (by simp; omega)
      rw [getD_app (by omega), getD_app hj] at this
      exact this
    · have := H i row.length hi (by simp)
      rw [getD_app hi, getD_last] at this
      exact this
  · rintro ⟨H1, H2⟩ i j hij hj
    have hj' : j ≤ row.length := by simp at hj; omega
    rcases Nat.lt_or_eq_of_le hj' with z | z
    · rw [getD_app (by omega), getD_app z]
      exact H1 i j hij z
    · subst z
      rw [getD_app hij, getD_last]
      exact H2 i hij
theorem good_pre {m m' : Mat} {row r : List Nat} (h : Good m m' (row ++ r)) : Good m m' row := fun i j hij hj => by
  have := h i j hij (by simp; omega)
  rw [List.getD_eq_getElem?_getD, List.getElem?_append_left (by omega), List.getD_eq_getElem?_getD, List.getElem?_append_left hj] at this
  rw [List.getD_eq_getElem?_getD, List.getD_eq_getElem?_getD]
  exact this
/-- a map of the first halls: unlike halls below n -/
structure PMap (n : Nat) (m m' : Mat) (row : List Nat) : Prop where
  nd : row.Nodup
  lt : ∀ x ∈ row, x < n
  good : Good m m' row
theorem pmap_nil {n : Nat} {m m' : Mat} : PMap n m m' [] := ⟨List.nodup_nil, by simp, fun i j _ h => by simp at h⟩
theorem pmap_app {n : Nat} {m m' : Mat} {row : List Nat} {h : Nat} : PMap n m m' (row ++ [h]) ↔ PMap n m m' row ∧ h < n ∧ h ∉ row ∧ fitsB m m' row h = true := by
  constructor
  · intro P
    have nd := List.nodup_append.mp P.nd
    obtain ⟨g1, g2⟩ := good_app.mp P.good
    exact ⟨⟨nd.1, fun x hx => P.lt x (List.mem_append_left _ hx), g1⟩, P.lt h (by simp), fun hm => nd.2.2 h hm h (by simp) rfl, g2⟩
  · rintro ⟨P, h1, h2, h3⟩
    refine ⟨List.nodup_append.mpr ⟨P.nd, by simp, fun a ha b hb e => ?_⟩, fun x hx => ?_, good_app.mpr ⟨P.good, h3⟩⟩
    · rw [List.mem_singleton.mp hb] at e
      exact h2 (e ▸ ha)
    · rcases List.mem_append.mp hx with z | z
      · exact P.lt x z
      · rw [List.mem_singleton.mp z]; exact h1
theorem pmap_pre {n : Nat} {m m' : Mat} {row r : List Nat} (P : PMap n m m' (row ++ r)) : PMap n m m' row :=
  ⟨(List.nodup_append.mp P.nd).1, fun x hx => P.lt x (List.mem_append_left _ hx), good_pre P.good⟩
theorem pmap_len {n : Nat} {m m' : Mat} {row : List Nat} (P : PMap n m m' row) : row.length ≤ n := by
  have := len_le_of_sub (m := List.range n) P.nd fun x hx => List.mem_range.mpr (P.lt x hx)
  rwa [List.length_range] at this
/-! ### the search -/
def freeL (n : Nat) (m m' : Mat) (row : List Nat) : List Nat := (List.range n).filter fun h => !row.contains h && fitsB m m' row h
theorem mem_freeL {n : Nat} {m m' : Mat} {row : List Nat} {h : Nat} : h ∈ freeL n m m' row ↔ h < n ∧ h ∉ row ∧ fitsB m m' row h = true := by
  unfold freeL
  rw [List.mem_filter, List.mem_range, Bool.and_eq_true, Bool.not_eq_true', List.contains_eq_mem, decide_eq_false_iff_not]
theorem free_pmap {n : Nat} {m m' : Mat} {row : List Nat} {h : Nat} (P : PMap n m m' row) : h ∈ freeL n m m' row ↔ PMap n m m' (row ++ [h]) := by
  rw [mem_freeL, pmap_app]
  exact ⟨fun q => ⟨P, q⟩, fun q => q.2⟩
/-- all maps that go on from a row by k halls, in order -/
def mapsL (n : Nat) (m m' : Mat) : Nat → List Nat → List (List Nat)
  | 0, row => [row]
  | k + 1, row => (freeL n m m' row).flatMap fun h => mapsL n m m' k (row ++ [h])
/-- the first of them -/
def extS (n : Nat) (m m' : Mat) : Nat → List Nat → Option (List Nat)
  | 0, row => some row
  | k + 1, row => (freeL n m m' row).findSome? fun h => extS n m m' k (row ++ [h])
theorem head_flat {α β : Type} (f : α → List β) : ∀ l : List α, (l.flatMap f).head? = l.findSome? fun x => (f x).head?
  | [] => rfl
  | x :: l => by
    rw [List.flatMap_cons, List.head?_append, head_flat f l, List.findSome?_cons]
    cases (f x).head? <;> rfl
theorem ext_head {n : Nat} {m m' : Mat} : ∀ (k : Nat) (row : List Nat), extS n m m' k row = (mapsL n m m' k row).head?
  | 0, _ => rfl
  | k + 1, row => by
    rw [extS, mapsL, head_flat]
    congr 1
    funext h
    exact ext_head k _
theorem mem_maps {n : Nat} {m m' : Mat} : ∀ {k : Nat} {row r : List Nat}, PMap n m m' row → (r ∈ mapsL n m m' k row ↔ row <+: r ∧ r.length = row.length + k ∧ PMap n m m' r)
  | 0, row, r, P => by
    rw [mapsL, List.mem_singleton]
    constructor
    · rintro rfl; exact ⟨List.prefix_refl _, rfl, P⟩
    · rintro ⟨h1, h2, _⟩; exact (List.IsPrefix.eq_of_length h1 (by omega)).symm
  | k + 1, row, r, P => by
    rw [mapsL, List.mem_flatMap]
    constructor
    · rintro ⟨h, hh, hr⟩
      have P2 := (free_pmap P).mp hh
      obtain ⟨a, b, c⟩ := (mem_maps P2).mp hr
      exact ⟨(List.prefix_append _ _).trans a, by simp at b; omega, c⟩
    · rintro ⟨⟨t, rfl⟩, h2, h3⟩
      cases t with
      | nil => simp at h2
      | cons h t =>
        have e : row ++ h :: t = (row ++ [h]) ++ t := by simp
        rw [e] at h3 h2 ⊢
        have P2 := pmap_pre h3
        exact ⟨h, (free_pmap P).mpr P2, (mem_maps P2).mpr ⟨⟨t, rfl⟩, by simp at h2 ⊢; omega, h3⟩⟩
theorem maps_nodup {n : Nat} {m m' : Mat} : ∀ {k : Nat} {row : List Nat}, PMap n m m' row → (mapsL n m m' k row).Nodup
  | 0, _, _ => by simp [mapsL]
  | k + 1, row, P => by
    rw [mapsL]
    have nd : (freeL n m m' row).Nodup := List.Pairwise.filter _ List.nodup_range
    have all : ∀ h ∈ freeL n m m' row, PMap n m m' (row ++ [h]) := fun h hh => (free_pmap P).mp hh
    generalize freeL n m m' row = l at nd all
    induction l with
    | nil => simp
    | cons x l ih =>
      rw [List.flatMap_cons]
      obtain ⟨n1, n2⟩ := List.nodup_cons.mp nd
      refine List.nodup_append.mpr ⟨maps_nodup (all x List.mem_cons_self), ih n2 fun h hh => all h (List.mem_cons_of_mem _ hh), fun a ha b hb e => ?_⟩
      subst e
      obtain ⟨y, hy, hb⟩ := List.mem_flatMap.mp hb
      obtain ⟨⟨t1, e1⟩, _⟩ := (mem_maps (all x List.mem_cons_self)).mp ha
      obtain ⟨⟨t2, e2⟩, _⟩ := (mem_maps (all y (List.mem_cons_of_mem _ hy))).mp hb
      rw [← e1, List.append_assoc, List.append_assoc, List.append_cancel_left_eq] at e2
      simp at e2
      exact n1 (e2.1 ▸ hy)
/-- the first map that begins with a row -/
def grownS (n : Nat) (m m' : Mat) (first : List Nat) : Option (List Nat) := (grownL n m m' first).head?
where
  /-- all maps that begin with a row -/
  grownL (n : Nat) (m m' : Mat) (first : List Nat) : List (List Nat) := if firstOk m m' [] first then mapsL n m m' (n - first.length) first else []
  firstOk (m m' : Mat) : List Nat → List Nat → Bool
    | _, [] => true
    | b, h :: r => !b.contains h && fitsB m m' b h && firstOk m m' (b ++ [h]) r
theorem firstOk_iff {n : Nat} {m m' : Mat} : ∀ {b r : List Nat}, PMap n m m' b → (∀ x ∈ r, x < n) → (grownS.firstOk m m' b r = true ↔ PMap n m m' (b ++ r))
  | b, [], P, _ => by simp [grownS.firstOk, P]
  | b, h :: r, P, lt => by
    rw [grownS.firstOk, Bool.and_eq_true, Bool.and_eq_true, Bool.not_eq_true', List.contains_eq_mem, decide_eq_false_iff_not]
    have e : b ++ h :: r = (b ++ [h]) ++ r := by simp
    rw [e]
    constructor
    · rintro ⟨⟨h1, h2⟩, h3⟩
      exact (firstOk_iff (pmap_app.mpr ⟨P, lt h List.mem_cons_self, h1, h2⟩) fun x hx => lt x (List.mem_cons_of_mem _ hx)).mp h3
    · intro P2
      have P3 := pmap_pre P2
      obtain ⟨_, _, h1, h2⟩ := pmap_app.mp P3
      exact ⟨⟨h1, h2⟩, (firstOk_iff P3 fun x hx => lt x (List.mem_cons_of_mem _ hx)).mpr P2⟩
theorem mem_grown {n : Nat} {m m' : Mat} {first r : List Nat} (lt : ∀ x ∈ first, x < n) : r ∈ grownS.grownL n m m' first ↔ first <+: r ∧ r.length = n ∧ PMap n m m' r := by
  unfold grownS.grownL
  by_cases h : grownS.firstOk m m' [] first = true
  · rw [if_pos h]
    have P : PMap n m m' first := (firstOk_iff pmap_nil lt).mp h
    rw [mem_maps P]
    have := pmap_len P
    constructor
    · rintro ⟨a, b, c⟩; exact ⟨a, by omega, c⟩
    · rintro ⟨a, b, c⟩; exact ⟨a, by omega, c⟩
  · rw [if_neg h]
    constructor
    · intro z; cases z
    · rintro ⟨⟨t, rfl⟩, _, c⟩
      exact (h ((firstOk_iff (b := []) pmap_nil lt).mpr (pmap_pre c))).elim
/-- a likeness of n halls -/
structure IsLike (n : Nat) (m m' : Mat) (r : List Nat) : Prop where
  len : r.length = n
  pm : PMap n m m' r
theorem grown_some {n : Nat} {m m' : Mat} {first r : List Nat} (lt : ∀ x ∈ first, x < n) (h : grownS n m m' first = some r) : first <+: r ∧ IsLike n m m' r := by
  have := (mem_grown lt).mp (List.mem_of_head? h)
  exact ⟨this.1, this.2.1, this.2.2⟩
theorem grown_none {n : Nat} {m m' : Mat} {first : List Nat} (lt : ∀ x ∈ first, x < n) (h : grownS n m m' first = none) : ∀ r, first <+: r → ¬ IsLike n m m' r := fun r hp hl => by
  have := (mem_grown lt).mpr ⟨hp, hl.len, hl.pm⟩
  unfold grownS at h
  rw [List.head?_eq_none_iff] at h
  rw [h] at this
  cases this
theorem grown_iff {n : Nat} {m m' : Mat} {first : List Nat} (lt : ∀ x ∈ first, x < n) : (grownS n m m' first).isSome = true ↔ ∃ r, first <+: r ∧ IsLike n m m' r := by
  cases e : grownS n m m' first with
  | none => simp; exact fun r hp => grown_none lt e r hp
  | some r => simp; exact ⟨r, grown_some lt e⟩
/-! ### likenesses as functions -/
/-- where a row leads a hall -/
abbrev at_ (r : List Nat) (i : Nat) : Nat := r.getD i 0
theorem at_eq {r : List Nat} {i : Nat} (h : i < r.length) : at_ r i = r[i] := by
  unfold at_
  rw [List.getD_eq_getElem?_getD, List.getElem?_eq_getElem h]
  rfl
theorem at_inj {r : List Nat} (nd : r.Nodup) {i j : Nat} (hi : i < r.length) (hj : j < r.length) (e : at_ r i = at_ r j) : i = j := by
  rw [at_eq hi, at_eq hj] at e
  rcases Nat.lt_trichotomy i j with z | z | z
  · exact (List.pairwise_iff_getElem.mp nd i j hi hj z e).elim
  · exact z
  · exact (List.pairwise_iff_getElem.mp nd j i hj hi z e.symm).elim
section
variable {n : Nat} {m m' m'' : Mat} {r s : List Nat}
theorem IsLike.lt (L : IsLike n m m' r) {i : Nat} (hi : i < n) : at_ r i < n := by
  rw [at_eq (by rw [L.len]; exact hi)]
  exact L.pm.lt _ (List.getElem_mem _)
theorem IsLike.inj (L : IsLike n m m' r) {i j : Nat} (hi : i < n) (hj : j < n) (e : at_ r i = at_ r j) : i = j :=
  at_inj L.pm.nd (by rw [L.len]; exact hi) (by rw [L.len]; exact hj) e
theorem IsLike.ne (L : IsLike n m m' r) {i j : Nat} (hi : i < n) (hj : j < n) (h : i ≠ j) : at_ r i ≠ at_ r j := fun e => h (L.inj hi hj e)
theorem IsLike.rel (L : IsLike n m m' r) {i j : Nat} (hi : i < n) (hj : j < n) (h : i ≠ j) : MN.rel m i j = MN.rel m' (at_ r i) (at_ r j) := by
  rcases Nat.lt_or_gt_of_ne h with z | z
  · exact (L.pm.good i j z (by rw [L.len]; exact hj)).1
  · exact (L.pm.good j i z (by rw [L.len]; exact hi)).2
theorem IsLike.onto (L : IsLike n m m' r) {y : Nat} (hy : y < n) : ∃ i, i < n ∧ at_ r i = y := by
  obtain ⟨i, hi, e⟩ := List.mem_iff_getElem.mp (full_of L.pm.nd L.pm.lt L.len y hy)
  exact ⟨i, by rw [← L.len]; exact hi, by rw [at_eq hi]; exact e⟩
/-- a row by a function -/
def rowOf (n : Nat) (f : Nat → Nat) : List Nat := (List.range n).map f
theorem rowOf_len (f : Nat → Nat) : (rowOf n f).length = n := by simp [rowOf]
theorem rowOf_at {f : Nat → Nat} {i : Nat} (hi : i < n) : at_ (rowOf n f) i = f i := by
  rw [at_eq (by rw [rowOf_len]; exact hi)]
  simp [rowOf]
theorem like_of (f : Nat → Nat) (lt : ∀ i, i < n → f i < n) (inj : ∀ i j, i < n → j < n → f i = f j → i = j) (hr : ∀ i j, i < n → j < n → i ≠ j → MN.rel m i j = MN.rel m' (f i) (f j)) : IsLike n m m' (rowOf n f) := by
  refine ⟨rowOf_len f, ?_, fun x hx => ?_, fun i j hij hj => ?_⟩
  · refine List.pairwise_map.mpr (List.Pairwise.imp_of_mem (fun {a b} ha hb hab e => hab (inj a b (List.mem_range.mp ha) (List.mem_range.mp hb) e)) List.nodup_range)
  · obtain ⟨i, hi, rfl⟩ := List.mem_map.mp hx
    exact lt i (List.mem_range.mp hi)
  · rw [rowOf_len] at hj
    have hi : i < n := by omega
    have e1 := rowOf_at (f := f) hi
    have e2 := rowOf_at (f := f) hj
    unfold at_ at e1 e2
    rw [e1, e2]
    exact ⟨hr i j hi hj (by omega), hr j i hj hi (by omega)⟩
theorem row_ext {r s : List Nat} (h1 : r.length = n) (h2 : s.length = n) (h : ∀ i, i < n → at_ r i = at_ s i) : r = s := by
  refine List.ext_getElem (by omega) fun i hi hj => ?_
  have := h i (by omega)
  rwa [at_eq hi, at_eq hj] at this
/-- the one behind the other -/
def comp (n : Nat) (r s : List Nat) : List Nat := rowOf n fun i => at_ s (at_ r i)
theorem IsLike.comp (L : IsLike n m m' r) (M : IsLike n m' m'' s) : IsLike n m m'' (comp n r s) :=
  like_of _ (fun i hi => M.lt (L.lt hi)) (fun i j hi hj e => L.inj hi hj (M.inj (L.lt hi) (L.lt hj) e)) fun i j hi hj h => by
    rw [L.rel hi hj h, M.rel (L.lt hi) (L.lt hj) (L.ne hi hj h)]
theorem comp_at {i : Nat} (hi : i < n) : at_ (MN.comp n r s) i = at_ s (at_ r i) := rowOf_at hi
def ident (n : Nat) : List Nat := List.range n
theorem ident_at {i : Nat} (hi : i < n) : at_ (ident n) i = i := by
  rw [at_eq (by simp [ident]; exact hi)]
  simp [ident]
theorem ident_row : ident n = rowOf n fun i => i := by simp [ident, rowOf]
theorem like_ident : IsLike n m m (ident n) := by
  rw [ident_row]
  exact like_of _ (fun i hi => hi) (fun i j _ _ e => e) fun i j _ _ _ => rfl
/-- the way back -/
def inv (n : Nat) (r : List Nat) : List Nat := rowOf n fun y => r.idxOf y
theorem IsLike.inv_at (L : IsLike n m m' r) {y : Nat} (hy : y < n) : at_ (inv n r) y < n ∧ at_ r (at_ (inv n r) y) = y := by
  unfold inv
  rw [rowOf_at hy]
  have hm := full_of L.pm.nd L.pm.lt L.len y hy
  have hl := List.idxOf_lt_length_of_mem hm
  refine ⟨by rw [← L.len]; exact hl, ?_⟩
  rw [at_eq hl]
  exact List.getElem_idxOf hl
theorem IsLike.inv_of (L : IsLike n m m' r) {i : Nat} (hi : i < n) : at_ (inv n r) (at_ r i) = i := by
  obtain ⟨h1, h2⟩ := L.inv_at (L.lt hi)
  exact L.inj h1 hi h2
theorem IsLike.inv (L : IsLike n m m' r) : IsLike n m' m (inv n r) := by
  unfold MN.inv
  refine like_of _ (fun y hy => ?_) (fun x y hx hy e => ?_) fun x y hx hy h => ?_
  · have := (L.inv_at hy).1; unfold MN.inv at this; rwa [rowOf_at hy] at this
  · have a := (L.inv_at hx).2; have b := (L.inv_at hy).2
    unfold MN.inv at a b
    rw [rowOf_at hx] at a
    rw [rowOf_at hy] at b
    rw [← a, ← b]
    exact congrArg (at_ r) e
  · have a := L.inv_at hx; have b := L.inv_at hy
    unfold MN.inv at a b
    rw [rowOf_at hx] at a
    rw [rowOf_at hy] at b
    have := L.rel a.1 b.1 fun e => h (by rw [← a.2, ← b.2, e])
    rw [a.2, b.2] at this
    exact this.symm
end
end MN

-- text MA2
set_option Elab.async false
set_option linter.all false
/-! how many symmetries -/
namespace MN
section
variable {n : Nat} {m m' m'' : Mat} {r s : List Nat}
def autL (n : Nat) (m : Mat) : List (List Nat) := mapsL n m m n []
theorem mem_aut : r ∈ autL n m ↔ IsLike n m m r := by
  unfold autL
  rw [mem_maps pmap_nil]
  constructor
  · rintro ⟨_, a, b⟩; exact ⟨by simpa using a, b⟩
  · rintro ⟨a, b⟩; exact ⟨List.nil_prefix, by simpa using a, b⟩
theorem aut_nodup : (autL n m).Nodup := maps_nodup pmap_nil
theorem pmap_range {h : Nat} (hh : h ≤ n) : PMap n m m (List.range h) :=
  ⟨List.nodup_range, fun x hx => by have := List.mem_range.mp hx; omega, fun i j hij hj => by
    rw [List.length_range] at hj
    have e : ∀ {k}, k < h → (List.range h).getD k 0 = k := fun {k} hk => by
      rw [List.getD_eq_getElem?_getD, List.getElem?_range hk]; rfl
    rw [e hj, e (by omega)]
    exact ⟨rfl, rfl⟩⟩
/-- where the hall h can be led, those ahead kept -/
def orb (n : Nat) (m : Mat) (h : Nat) : Nat := (((List.range (n - h)).map (h + ·)).filter fun mate => (grownS n m m (List.range h ++ [mate])).isSome).length
def countS (n : Nat) (m : Mat) : Nat := (List.range n).foldl (fun acc h => acc * orb n m h) 1
def cntFrom (n : Nat) (m : Mat) (h : Nat) : Nat := (mapsL n m m (n - h) (List.range h)).length
theorem comp_inj (M : IsLike n m m' s) {r r' : List Nat} (h1 : r.length = n) (h2 : r'.length = n) (l1 : ∀ i, i < n → at_ r i < n) (l2 : ∀ i, i < n → at_ r' i < n) (e : comp n r s = comp n r' s) : r = r' :=
  row_ext h1 h2 fun i hi => M.inj (l1 i hi) (l2 i hi) (by rw [← comp_at hi, ← comp_at hi, e])
theorem prefix_at {p r : List Nat} (h : p <+: r) {i : Nat} (hi : i < p.length) : at_ r i = at_ p i := by
  obtain ⟨t, rfl⟩ := h
  unfold at_
  rw [List.getD_eq_getElem?_getD, List.getElem?_append_left hi, List.getD_eq_getElem?_getD]
theorem prefix_of {p r : List Nat} (hl : p.length ≤ r.length) (h : ∀ i, i < p.length → at_ r i = at_ p i) : p <+: r := by
  refine ⟨r.drop p.length, ?_⟩
  refine List.ext_getElem (by simp; omega) fun i h1 h2 => ?_
  by_cases hi : i < p.length
  · rw [List.getElem_append_left hi]
    have := h i hi
    rw [at_eq h2, at_eq hi] at this
    exact this.symm
  · rw [List.getElem_append_right (by omega)]
    simp only [List.getElem_drop]
    congr 1
    omega
theorem range_at {h i : Nat} (hi : i < h) : at_ (List.range h) i = i := by
  rw [at_eq (by simpa using hi)]
  simp
/-- as many maps lead h to mate as keep it, if any does -/
theorem cnt_mate {h k mate : Nat} (hk : n = h + k + 1) (hm : (mapsL n m m k (List.range h ++ [mate])) ≠ []) (P : PMap n m m (List.range h ++ [mate])) : (mapsL n m m k (List.range h ++ [mate])).length = cntFrom n m (h + 1) := by
  obtain ⟨σ, hσ⟩ := List.exists_mem_of_ne_nil _ hm
  obtain ⟨pσ, lσ, qσ⟩ := (mem_maps P).mp hσ
  have Lσ : IsLike n m m σ := ⟨by rw [lσ]; simp; omega, qσ⟩
  have ek : n - (h + 1) = k := by omega
  have P1 : PMap n m m (List.range (h + 1)) := pmap_range (by omega)
  have eσ : ∀ i, i < h → at_ σ i = i := fun i hi => by
    rw [prefix_at pσ (by simp; omega)]
    unfold at_
    rw [List.getD_eq_getElem?_getD, List.getElem?_append_left (by simpa using hi), List.getElem?_range hi]
    rfl
  have eσh : at_ σ h = mate := by
    rw [prefix_at pσ (by simp)]
    unfold at_
    rw [List.getD_eq_getElem?_getD, List.getElem?_append_right (by simp)]
    simp
  have hhn : h < n := by omega
  have mk1 : ∀ {r : List Nat}, r ∈ mapsL n m m k (List.range (h + 1)) → IsLike n m m r ∧ ∀ i, i < h + 1 → at_ r i = i := fun {r} hr => by
    obtain ⟨a, b, c⟩ := (mem_maps P1).mp hr
    refine ⟨⟨by rw [b]; simp; omega, c⟩, fun i hi => ?_⟩
    rw [prefix_at a (by simpa using hi), range_at hi]
  have mk2 : ∀ {r : List Nat}, r ∈ mapsL n m m k (List.range h ++ [mate]) → IsLike n m m r ∧ (∀ i, i < h → at_ r i = i) ∧ at_ r h = mate := fun {r} hr => by
    obtain ⟨a, b, c⟩ := (mem_maps P).mp hr
    refine ⟨⟨by rw [b]; simp; omega, c⟩, fun i hi => ?_, ?_⟩
    · rw [prefix_at a (by simp; omega)]
      unfold at_
      rw [List.getD_eq_getElem?_getD, List.getElem?_append_left (by simpa using hi), List.getElem?_range hi]
      rfl
    · rw [prefix_at a (by simp)]
      unfold at_
      rw [List.getD_eq_getElem?_getD, List.getElem?_append_right (by simp)]
      simp
  have in1 : ∀ {r : List Nat}, IsLike n m m r → (∀ i, i < h + 1 → at_ r i = i) → r ∈ mapsL n m m k (List.range (h + 1)) := fun {r} L e => by
    refine (mem_maps P1).mpr ⟨prefix_of (by rw [L.len]; simp; omega) fun i hi => ?_, by rw [L.len]; simp; omega, L.pm⟩
    rw [List.length_range] at hi
    rw [e i hi, range_at hi]
  have in2 : ∀ {r : List Nat}, IsLike n m m r → (∀ i, i < h → at_ r i = i) → at_ r h = mate → r ∈ mapsL n m m k (List.range h ++ [mate]) := fun {r} L e e2 => by
    refine (mem_maps P).mpr ⟨prefix_of (by rw [L.len]; simp; omega) fun i hi => ?_, by rw [L.len]; simp; omega, L.pm⟩
    simp at hi
    by_cases z : i < h
    · rw [e i z]
      unfold at_
      rw [List.getD_eq_getElem?_getD, List.getElem?_append_left (by simpa using z), List.getElem?_range z]
      rfl
    · have z : i = h := by omega
      subst z
      rw [e2]
      unfold at_
      rw [List.getD_eq_getElem?_getD, List.getElem?_append_right (by simp)]
      simp
  unfold cntFrom
  rw [ek]
  refine Nat.le_antisymm ?_ ?_
  · refine len_inj (fun r => comp n r (inv n σ)) (maps_nodup P) (fun a ha b hb e => ?_) fun r hr => ?_
    · exact comp_inj Lσ.inv (mk2 ha).1.len (mk2 hb).1.len (fun i hi => (mk2 ha).1.lt hi) (fun i hi => (mk2 hb).1.lt hi) e
    · obtain ⟨L, e1, e2⟩ := mk2 hr
      refine in1 (L.comp Lσ.inv) fun i hi => ?_
      rw [comp_at (by omega)]
      by_cases z : i < h
      · rw [e1 i z]
        have := Lσ.inv_of (i := i) (by omega)
        rwa [eσ i z] at this
      · have z : i = h := by omega
        subst z
        rw [e2]
        have := Lσ.inv_of (i := i) hhn
        rwa [eσh] at this
  · refine len_inj (fun r => comp n r σ) (maps_nodup P1) (fun a ha b hb e => ?_) fun r hr => ?_
    · exact comp_inj Lσ (mk1 ha).1.len (mk1 hb).1.len (fun i hi => (mk1 ha).1.lt hi) (fun i hi => (mk1 hb).1.lt hi) e
    · obtain ⟨L, e1⟩ := mk1 hr
      refine in2 (L.comp Lσ) (fun i hi => ?_) ?_
      · rw [comp_at (by omega), e1 i (by omega), eσ i hi]
      · rw [comp_at hhn, e1 h (by omega), eσh]
theorem flat_len {α : Type} {c : Nat} (f : Nat → List α) : ∀ (l : List Nat), (∀ x ∈ l, f x ≠ [] → (f x).length = c) → (l.flatMap f).length = (l.filter fun x => !(f x).isEmpty).length * c
  | [], _ => by simp
  | x :: l, h => by
    have ih := flat_len f l fun y hy => h y (List.mem_cons_of_mem _ hy)
    rw [List.flatMap_cons, List.length_append, ih]
    cases e : (f x).isEmpty with
    | true =>
      rw [List.filter_cons_of_neg (by simp [e])]
      have : (f x).length = 0 := by rw [List.length_eq_zero_iff]; exact List.isEmpty_iff.mp e
      omega
    | false =>
      rw [List.filter_cons_of_pos (by simp [e]), List.length_cons, Nat.succ_mul, h x List.mem_cons_self (by intro z; rw [z] at e; cases e)]
      omega
theorem cnt_step {h : Nat} (hh : h < n) : cntFrom n m h = orb n m h * cntFrom n m (h + 1) := by
  obtain ⟨k, hk⟩ : ∃ k, n = h + k + 1 := ⟨n - h - 1, by omega⟩
  have P : PMap n m m (List.range h) := pmap_range (by omega)
  have e1 : cntFrom n m h = ((freeL n m m (List.range h)).flatMap fun mate => mapsL n m m k (List.range h ++ [mate])).length := by
    unfold cntFrom
    rw [show n - h = k + 1 by omega]
    rfl
  rw [e1, flat_len (c := cntFrom n m (h + 1)) _ _ fun x hx hne => cnt_mate hk hne ((free_pmap P).mp hx)]
  congr 1
  unfold orb
  congr 1
  -- the same mates
  unfold freeL
  rw [List.filter_filter]
  have er : List.range n = List.range h ++ (List.range (n - h)).map (h + ·) := by
    have := List.range_add (n := h) (m := n - h)
    rwa [show h + (n - h) = n by omega] at this
  rw [er, List.filter_append]
  have e2 : (List.range h).filter (fun a => (!(mapsL n m m k (List.range h ++ [a])).isEmpty) && (!(List.range h).contains a && fitsB m m (List.range h) a)) = [] := by
    rw [List.filter_eq_nil_iff]
    intro a ha
    have : (List.range h).contains a = true := by rw [List.contains_eq_mem]; simpa using ha
    rw [this]
    simp
  rw [e2, List.nil_append]
  refine List.filter_congr fun a ha => ?_
  obtain ⟨i, hi, rfl⟩ := List.mem_map.mp ha
  have hi := List.mem_range.mp hi
  have lt : ∀ x ∈ List.range h ++ [h + i], x < n := fun x hx => by
    rcases List.mem_append.mp hx with z | z
    · have := List.mem_range.mp z; omega
    · have := List.mem_singleton.mp z; omega
  have hf : (!(List.range h).contains (h + i) && fitsB m m (List.range h) (h + i)) = decide (h + i ∈ freeL n m m (List.range h)) := by
    rw [Bool.eq_iff_iff, decide_eq_true_iff, mem_freeL]
    simp
    omega
  rw [hf, Bool.eq_iff_iff, Bool.and_eq_true, decide_eq_true_iff, free_pmap P, grown_iff lt]
  constructor
  · rintro ⟨h1, P2⟩
    obtain ⟨r, hr⟩ := List.exists_mem_of_ne_nil (mapsL n m m k (List.range h ++ [h + i])) (by intro z; rw [z] at h1; simp at h1)
    obtain ⟨a, b, c⟩ := (mem_maps P2).mp hr
    exact ⟨r, a, by rw [b]; simp; omega, c⟩
  · rintro ⟨r, h1, L⟩
    obtain ⟨t, rfl⟩ := h1
    have P2 := pmap_pre L.pm
    refine ⟨?_, P2⟩
    have : _ ∈ mapsL n m m k (List.range h ++ [h + i]) := (mem_maps P2).mpr ⟨⟨t, rfl⟩, by have := L.len; simp at this ⊢; omega, L.pm⟩
    cases e : mapsL n m m k (List.range h ++ [h + i]) with
    | nil => rw [e] at this; cases this
    | cons _ _ => rfl
/-- the product over the halls is how many symmetries there are -/
theorem count_aut : countS n m = (autL n m).length := by
  have step : ∀ k, k ≤ n → (List.range k).foldl (fun acc h => acc * orb n m h) 1 * cntFrom n m k = cntFrom n m 0 := by
    intro k
    induction k with
    | zero => intro _; simp
    | succ k ih =>
      intro hk
      rw [List.range_succ, List.foldl_append, List.foldl_cons, List.foldl_nil, Nat.mul_assoc, ← cnt_step (by omega)]
      exact ih (by omega)
  have e1 : cntFrom n m n = 1 := by
    unfold cntFrom
    rw [Nat.sub_self]
    rfl
  have := step n (Nat.le_refl _)
  rw [e1, Nat.mul_one] at this
  exact this
end
end MN

-- text MA3
set_option Elab.async false
set_option linter.all false
/-! the search by a stack -/
namespace MN
def wgt (n : Nat) : Nat → Nat
  | 0 => 1
  | k + 1 => 1 + n * wgt n k
def stackW (n : Nat) (L : List (List Nat)) : Nat := (L.map fun row => wgt n (n - row.length)).sum
/-- the stack's top is its last row -/
def stackRes (n : Nat) (m m' : Mat) (L : List (List Nat)) : Option (List Nat) := L.reverse.findSome? fun row => extS n m m' (n - row.length) row
/-- the stack behind a row that is not whole -/
def stackNext (n : Nat) (m m' : Mat) (L : List (List Nat)) (row : List Nat) : List (List Nat) := L ++ (freeL n m m' row).reverse.map fun h => row ++ [h]
structure StackOk (n : Nat) (m m' : Mat) (L : List (List Nat)) : Prop where
  pm : ∀ row ∈ L, PMap n m m' row
  pos : ∀ i row, L[i]? = some row → i ≤ n * row.length
theorem stack_len {n : Nat} {m m' : Mat} {L : List (List Nat)} (S : StackOk n m m' L) : L.length ≤ n * n + 1 := by
  cases e : L.length with
  | zero => omega
  | succ k =>
    have hk : k < L.length := by omega
    have := S.pos k L[k] (List.getElem?_eq_getElem hk)
    have hl := pmap_len (S.pm _ (List.getElem_mem hk))
    have : n * L[k].length ≤ n * n := Nat.mul_le_mul_left n hl
    omega
theorem free_len {n : Nat} {m m' : Mat} {row : List Nat} : (freeL n m m' row).length ≤ n := by
  have := List.length_filter_le (fun h => !row.contains h && fitsB m m' row h) (List.range n)
  rw [List.length_range] at this
  exact this
theorem stack_next {n : Nat} {m m' : Mat} {L : List (List Nat)} {row : List Nat} (S : StackOk n m m' (L ++ [row])) : StackOk n m m' (stackNext n m m' L row) := by
  have P := S.pm row (by simp)
  refine ⟨fun r hr => ?_, fun i r hr => ?_⟩
  · rcases List.mem_append.mp hr with z | z
    · exact S.pm r (List.mem_append_left _ z)
    · obtain ⟨h, hh, rfl⟩ := List.mem_map.mp z
      exact (free_pmap P).mp (List.mem_reverse.mp hh)
  · unfold stackNext at hr
    by_cases hi : i < L.length
    · rw [List.getElem?_append_left hi] at hr
      exact S.pos i r (by rw [List.getElem?_append_left hi]; exact hr)
    · rw [List.getElem?_append_right (by omega), List.getElem?_map] at hr
      obtain ⟨h, h1, rfl⟩ := Option.map_eq_some_iff.mp hr
      have b1 := (List.getElem?_eq_some_iff.mp h1).1
      rw [List.length_reverse] at b1
      have b2 := free_len (n := n) (m := m) (m' := m') (row := row)
      have b3 := S.pos L.length row (by simp)
      rw [List.length_append, List.length_singleton, Nat.mul_add, Nat.mul_one]
      omega
theorem stack_res_nil {n : Nat} {m m' : Mat} : stackRes n m m' [] = none := rfl
theorem stack_res_whole {n : Nat} {m m' : Mat} {L : List (List Nat)} {row : List Nat} (h : row.length = n) : stackRes n m m' (L ++ [row]) = some row := by
  unfold stackRes
  rw [List.reverse_append, List.reverse_singleton, List.singleton_append, List.findSome?_cons, h, Nat.sub_self]
  rfl
theorem find_congr {α β : Type} {f g : α → Option β} : ∀ {l : List α}, (∀ x ∈ l, f x = g x) → l.findSome? f = l.findSome? g
  | [], _ => rfl
  | x :: l, h => by
    rw [List.findSome?_cons, List.findSome?_cons, h x List.mem_cons_self, find_congr fun y hy => h y (List.mem_cons_of_mem _ hy)]
theorem stack_res_next {n : Nat} {m m' : Mat} {L : List (List Nat)} {row : List Nat} (h : row.length < n) : stackRes n m m' (L ++ [row]) = stackRes n m m' (stackNext n m m' L row) := by
  unfold stackRes stackNext
  rw [List.reverse_append, List.reverse_singleton, List.singleton_append, List.findSome?_cons, List.reverse_append, List.findSome?_append, ← List.map_reverse, List.reverse_reverse]
  obtain ⟨k, hk⟩ : ∃ k, n - row.length = k + 1 := ⟨n - row.length - 1, by omega⟩
  rw [hk, extS, List.findSome?_map]
  have e : (freeL n m m' row).findSome? ((fun row => extS n m m' (n - row.length) row) ∘ fun h => row ++ [h]) = (freeL n m m' row).findSome? fun h => extS n m m' k (row ++ [h]) := find_congr fun x _ => by
    show extS n m m' (n - (row ++ [x]).length) (row ++ [x]) = _
    rw [List.length_append, List.length_singleton, show n - (row.length + 1) = k by omega]
  rw [e]
  cases (freeL n m m' row).findSome? fun h => extS n m m' k (row ++ [h]) <;> rfl
theorem sum_const (c : Nat) : ∀ (l : List Nat), (∀ x ∈ l, x = c) → l.sum = l.length * c
  | [], _ => by simp
  | x :: l, h => by
    rw [List.sum_cons, sum_const c l fun y hy => h y (List.mem_cons_of_mem _ hy), h x List.mem_cons_self, List.length_cons, Nat.succ_mul]
    omega
theorem stack_w_next {n : Nat} {m m' : Mat} {L : List (List Nat)} {row : List Nat} (h : row.length < n) : stackW n (stackNext n m m' L row) < stackW n (L ++ [row]) := by
  unfold stackW stackNext
  rw [List.map_append, List.map_append, List.sum_append, List.sum_append]
  obtain ⟨k, hk⟩ : ∃ k, n - row.length = k + 1 := ⟨n - row.length - 1, by omega⟩
  have e : ((List.map (fun h => row ++ [h]) (freeL n m m' row).reverse).map fun row => wgt n (n - row.length)).sum = (freeL n m m' row).length * wgt n k := by
    rw [sum_const (wgt n k) _ fun x hx => ?_]
    · simp
    · obtain ⟨r, hr, rfl⟩ := List.mem_map.mp hx
      obtain ⟨y, _, rfl⟩ := List.mem_map.mp hr
      rw [List.length_append, List.length_singleton, show n - (row.length + 1) = k by omega]
  rw [e, List.map_singleton, List.sum_singleton, hk]
  have b := free_len (n := n) (m := m) (m' := m') (row := row)
  have := Nat.mul_le_mul_right (wgt n k) b
  show _ < _ + wgt n (k + 1)
  rw [wgt]
  omega
theorem stack_one {n : Nat} {m m' : Mat} {row : List Nat} (P : PMap n m m' row) : StackOk n m m' [row] :=
  ⟨fun r hr => by rw [List.mem_singleton.mp hr]; exact P, fun i r hr => by
    cases i with
    | zero => exact Nat.zero_le _
    | succ i => simp at hr⟩
theorem stack_w_one {n : Nat} {row : List Nat} (h : n ≤ 13) : stackW n [row] < 10 ^ 17 := by
  unfold stackW
  rw [List.map_singleton, List.sum_singleton]
  have : ∀ k, k ≤ 13 → wgt n k ≤ wgt 13 k := by
    intro k
    induction k with
    | zero => intro _; exact Nat.le_refl _
    | succ k ih =>
      intro hk
      rw [wgt, wgt]
      have := Nat.mul_le_mul h (ih (by omega))
      omega
  have m1 : ∀ k, k ≤ 13 → wgt 13 k ≤ wgt 13 13 := by decide
  have := this (n - row.length) (by omega)
  have := m1 (n - row.length) (by omega)
  have e : wgt 13 13 < 10 ^ 17 := by decide
  omega
theorem stack_res_one {n : Nat} {m m' : Mat} {row : List Nat} : stackRes n m m' [row] = extS n m m' (n - row.length) row := by
  unfold stackRes
  rw [List.reverse_singleton, List.findSome?_cons]
  cases extS n m m' (n - row.length) row <;> rfl
/-- what grown finds, by its first loop and its stack -/
theorem grown_eq {n : Nat} {m m' : Mat} {first : List Nat} : grownS n m m' first = if grownS.firstOk m m' [] first then stackRes n m m' [first] else none := by
  unfold grownS grownS.grownL
  by_cases h : grownS.firstOk m m' [] first = true
  · rw [if_pos h, if_pos h, stack_res_one, ext_head]
  · rw [if_neg h, if_neg h]; rfl
end MN

-- text MA4
set_option Elab.async false
set_option linter.all false
/-! the rows by breadth -/
namespace MN
def extRows (n : Nat) (m m' : Mat) (rows : List (List Nat)) : List (List Nat) := rows.flatMap fun row => (freeL n m m' row).map fun h => row ++ [h]
def bfs (n : Nat) (m m' : Mat) : Nat → List (List Nat) → List (List Nat)
  | 0, rows => rows
  | k + 1, rows => bfs n m m' k (extRows n m m' rows)
theorem flat_flat {α β γ : Type} (f : α → List β) (g : β → List γ) : ∀ l : List α, (l.flatMap f).flatMap g = l.flatMap fun x => (f x).flatMap g
  | [] => rfl
  | x :: l => by rw [List.flatMap_cons, List.flatMap_append, flat_flat f g l, List.flatMap_cons]
theorem flat_congr {α β : Type} {f g : α → List β} : ∀ {l : List α}, (∀ x ∈ l, f x = g x) → l.flatMap f = l.flatMap g
  | [], _ => rfl
  | x :: l, h => by rw [List.flatMap_cons, List.flatMap_cons, h x List.mem_cons_self, flat_congr fun y hy => h y (List.mem_cons_of_mem _ hy)]
theorem flat_map {α β γ : Type} (f : α → β) (g : β → List γ) : ∀ l : List α, (l.map f).flatMap g = l.flatMap fun x => g (f x)
  | [] => rfl
  | x :: l => by rw [List.map_cons, List.flatMap_cons, flat_map f g l, List.flatMap_cons]
theorem bfs_eq {n : Nat} {m m' : Mat} : ∀ (k : Nat) (rows : List (List Nat)), bfs n m m' k rows = rows.flatMap fun row => mapsL n m m' k row
  | 0, rows => by
    show rows = rows.flatMap fun row => [row]
    induction rows with
    | nil => rfl
    | cons x l ih => rw [List.flatMap_cons, ← ih]; rfl
  | k + 1, rows => by
    rw [bfs, bfs_eq k, extRows, flat_flat]
    refine flat_congr fun row _ => ?_
    rw [mapsL, flat_map]
theorem bfs_one {n : Nat} {m m' : Mat} (k : Nat) (row : List Nat) : bfs n m m' k [row] = mapsL n m m' k row := by
  rw [bfs_eq, List.flatMap_cons, List.flatMap_nil, List.append_nil]
theorem flat_len_le {α β : Type} {c : Nat} (f : α → List β) : ∀ {l : List α}, (∀ x ∈ l, (f x).length ≤ c) → (l.flatMap f).length ≤ l.length * c
  | [], _ => by simp
  | x :: l, h => by
    rw [List.flatMap_cons, List.length_append, List.length_cons, Nat.succ_mul]
    have := flat_len_le f (l := l) fun y hy => h y (List.mem_cons_of_mem _ hy)
    have := h x List.mem_cons_self
    omega
theorem ext_len {n : Nat} {m m' : Mat} (rows : List (List Nat)) : (extRows n m m' rows).length ≤ rows.length * n :=
  flat_len_le _ fun row _ => by rw [List.length_map]; exact free_len
theorem mem_ext {n : Nat} {m m' : Mat} {rows : List (List Nat)} {k : Nat} (h : ∀ r ∈ rows, PMap n m m' r ∧ r.length = k) : ∀ r ∈ extRows n m m' rows, PMap n m m' r ∧ r.length = k + 1 := fun r hr => by
  obtain ⟨row, h1, h2⟩ := List.mem_flatMap.mp hr
  obtain ⟨x, hx, rfl⟩ := List.mem_map.mp h2
  obtain ⟨P, l⟩ := h row h1
  exact ⟨(free_pmap P).mp hx, by simp [l]⟩
/-- the rows behind i turns -/
def rowsAt (n : Nat) (m m' : Mat) (first : List Nat) : Nat → List (List Nat)
  | 0 => [first]
  | i + 1 => extRows n m m' (rowsAt n m m' first i)
theorem rowsAt_bfs {n : Nat} {m m' : Mat} {first : List Nat} : ∀ (k i : Nat), bfs n m m' k (rowsAt n m m' first i) = rowsAt n m m' first (i + k)
  | 0, i => rfl
  | k + 1, i => by
    rw [bfs]
    have := rowsAt_bfs (n := n) (m := m) (m' := m') (first := first) k (i + 1)
    rw [show i + (k + 1) = i + 1 + k by omega, ← this]
    rfl
theorem rowsAt_maps {n : Nat} {m m' : Mat} {first : List Nat} (k : Nat) : rowsAt n m m' first k = mapsL n m m' k first := by
  have := rowsAt_bfs (n := n) (m := m) (m' := m') (first := first) k 0
  rw [Nat.zero_add] at this
  rw [← this]
  exact bfs_one k first
theorem rowsAt_len {n : Nat} {m m' : Mat} {first : List Nat} : ∀ i, (rowsAt n m m' first i).length ≤ n ^ i
  | 0 => by simp [rowsAt]
  | i + 1 => by
    have := ext_len (n := n) (m := m) (m' := m') (rowsAt n m m' first i)
    have := Nat.mul_le_mul_right n (rowsAt_len (n := n) (m := m) (m' := m') (first := first) i)
    rw [Nat.pow_succ]
    show (extRows n m m' (rowsAt n m m' first i)).length ≤ _
    omega
theorem rowsAt_mem {n : Nat} {m m' : Mat} {first : List Nat} (P : PMap n m m' first) : ∀ i, ∀ r ∈ rowsAt n m m' first i, PMap n m m' r ∧ r.length = first.length + i
  | 0, r, h => by rw [List.mem_singleton.mp h]; exact ⟨P, rfl⟩
  | i + 1, r, h => mem_ext (rowsAt_mem P i) r h
/-- as many unlike ones: all -/
theorem sub_full {α : Type} [BEq α] [LawfulBEq α] {l m : List α} (nd : l.Nodup) (h : ∀ x ∈ l, x ∈ m) (hl : m.length ≤ l.length) : ∀ x ∈ m, x ∈ l := fun x hx => by
  refine Classical.byContradiction fun hn => ?_
  have := len_le_of_sub (l := x :: l) (m := m) (List.nodup_cons.mpr ⟨hn, nd⟩) fun y hy => by
    rcases List.mem_cons.mp hy with e | hy
    · rw [e]; exact hx
    · exact h y hy
  rw [List.length_cons] at this
  omega
end MN

-- text MA5
set_option Elab.async false
set_option linter.all false
/-! how many maps -/
namespace MN
def fact : Nat → Nat
  | 0 => 1
  | n + 1 => (n + 1) * fact n
theorem free_left {n : Nat} {m m' : Mat} {row : List Nat} (P : PMap n m m' row) : (freeL n m m' row).length + row.length ≤ n := by
  have nd : (row ++ freeL n m m' row).Nodup := List.nodup_append.mpr ⟨P.nd, List.Nodup.sublist List.filter_sublist List.nodup_range, fun a ha b hb e => by
    subst e
    exact (mem_freeL.mp hb).2.1 ha⟩
  have := len_le_of_sub (m := List.range n) nd fun x hx => by
    rcases List.mem_append.mp hx with h | h
    · exact List.mem_range.mpr (P.lt x h)
    · exact List.mem_range.mpr (mem_freeL.mp h).1
  rw [List.length_append, List.length_range] at this
  omega
theorem maps_len {n : Nat} {m m' : Mat} : ∀ (k : Nat) (row : List Nat), PMap n m m' row → row.length + k = n → (mapsL n m m' k row).length ≤ fact k
  | 0, row, _, _ => by simp [mapsL, fact]
  | k + 1, row, P, h => by
    have fl := free_left P
    have := flat_len_le (c := fact k) (fun x => mapsL n m m' k (row ++ [x])) (l := freeL n m m' row) fun x hx =>
      maps_len k (row ++ [x]) ((free_pmap P).mp hx) (by rw [List.length_append, List.length_singleton]; omega)
    rw [mapsL, fact]
    exact Nat.le_trans this (Nat.mul_le_mul_right _ (by omega))
theorem fact_mono {a b : Nat} (h : a ≤ b) : fact a ≤ fact b := by
  induction b with
  | zero => rw [Nat.le_zero.mp h]; exact Nat.le_refl _
  | succ b ih =>
    rcases Nat.lt_or_ge a (b + 1) with z | z
    · exact Nat.le_trans (ih (by omega)) (by rw [fact]; exact Nat.le_mul_of_pos_left _ (by omega))
    · rw [show a = b + 1 by omega]; exact Nat.le_refl _
/-- the likenesses, with as many ways -/
theorem mem_like {n : Nat} {m m' : Mat} {r : List Nat} : r ∈ mapsL n m m' n [] ↔ IsLike n m m' r := by
  rw [mem_maps pmap_nil]
  constructor
  · rintro ⟨_, h1, h2⟩; exact ⟨by simpa using h1, h2⟩
  · rintro ⟨h1, h2⟩; exact ⟨List.nil_prefix, by simpa using h1, h2⟩
/-- a net is even just if the likenesses lead the first hall to every one -/
theorem even_firsts {n : Nat} {m : Mat} (h : 1 ≤ n) : ((List.range n).all fun x => (grownS n m m [x]).isSome) = true ↔ ∀ x, x < n → x ∈ (autL n m).map fun r => r.getD 0 0 := by
  rw [List.all_eq_true]
  refine ⟨fun H x hx => ?_, fun H x hx => ?_⟩
  · obtain ⟨r, hp, L⟩ := (grown_iff (by simpa using hx)).mp (H x (List.mem_range.mpr hx))
    refine List.mem_map.mpr ⟨r, mem_aut.mpr L, ?_⟩
    obtain ⟨t, rfl⟩ := hp
    rfl
  · have hx := List.mem_range.mp hx
    obtain ⟨r, hr, e⟩ := List.mem_map.mp (H x hx)
    have L := mem_aut.mp hr
    refine (grown_iff (by simpa using hx)).mpr ⟨r, ?_, L⟩
    cases r with
    | nil => have := L.len; simp at this; omega
    | cons a r => 
      obtain rfl : a = x := e
      exact ⟨r, rfl⟩
end MN

-- text ML2
set_option Elab.async false
set_option linter.all false
set_option maxRecDepth 100000
set_option maxHeartbeats 2000000
/-! plain laws about the data functions, 2 -/
namespace DL
open PySem PySem.Spec
theorem rwipe_len (ρ : RS) : ∀ vs : List Nat, (rwipe ρ vs).length = ρ.length
  | [] => rfl
  | v :: vs => by
    show ((rwipe ρ vs).set v Sl.n).length = _
    rw [List.length_set, rwipe_len ρ vs]
theorem rwipe_get (ρ : RS) (i : Nat) : ∀ vs : List Nat, (rwipe ρ vs)[i]? = if i ∈ vs ∧ i < ρ.length then some Sl.n else ρ[i]?
  | [] => by simp [rwipe]
  | v :: vs => by
    show ((rwipe ρ vs).set v Sl.n)[i]? = _
    rw [List.getElem?_set, rwipe_len, rwipe_get ρ i vs]
    by_cases hv : v = i
    · subst hv
      by_cases hl : v < ρ.length
      · simp [hl]
      · simp [hl, List.getElem?_eq_none (Nat.le_of_not_lt hl)]
    · have : i ≠ v := fun z => hv z.symm
      simp [hv, this]
theorem rwipe_idem (ρ : RS) (vs : List Nat) : rwipe (rwipe ρ vs) vs = rwipe ρ vs := by
  refine List.ext_getElem? fun i => ?_
  rw [rwipe_get (rwipe ρ vs), rwipe_len, rwipe_get]
  by_cases h : i ∈ vs ∧ i < ρ.length <;> simp [h]
section
variable {g : PyData → RS → Option RS} {ft : RS → Rs Bool} {fe : RS → Rs PyData} {vs : List Nat}
/-- a comprehension that keeps the state -/
theorem lc_pure {fi : RS → Rs (List PyData)} {ρ : RS} (items : List PyData) (p : PyData → Bool) (f : PyData → PyData) (h1 : fi ρ = .ok items ρ) (hl : items.length ≤ sizeLine) (h2 : allFree ρ vs = true)
    (st : ∀ x ∈ items, ∃ ρ1, g x (rwipe ρ vs) = some ρ1 ∧ ft ρ1 = .ok (p x) ρ1 ∧ (p x = true → fe ρ1 = .ok (f x) ρ1) ∧ allFree ρ1 vs = true ∧ rwipe ρ1 vs = rwipe ρ vs) :
    eLc fi g ft fe vs ρ = .ok (.list ((items.filter p).map f)) (rwipe ρ vs) := by
  obtain ⟨ρ', h, e⟩ := lcL_det (g := g) (ft := ft) (fe := fe) (vs := vs) (I := fun ρ1 => ρ1 = rwipe ρ vs) p f items (fun x hx ρ0 e => by
    subst e
    obtain ⟨ρ1, g1, g2, g3, g4, g5⟩ := st x hx
    exact ⟨ρ1, ρ1, g1, g2, fun _ => ⟨g4, g5⟩, fun q => ⟨ρ1, g3 q, g4, g5⟩⟩) (rwipe ρ vs) rfl
  subst h
  have h3 : allFree (rwipe ρ vs) vs = true := by
    unfold allFree at h2 ⊢
    rw [List.all_eq_true] at h2 ⊢
    intro i hi
    have := h2 i hi
    unfold noOwn at this ⊢
    rw [rwipe_get]
    by_cases hc : i ∈ vs ∧ i < ρ.length
    · rw [if_pos hc]
    · rw [if_neg hc]; exact this
  rw [eLc_of h1 hl h2 e h3, rwipe_idem]
/-- all(..) that keeps the state -/
theorem all_pure {fi : RS → Rs (List PyData)} {ρ : RS} (items : List PyData) (p : PyData → Bool) (h1 : fi ρ = .ok items ρ) (h2 : allFree ρ vs = true)
    (st : ∀ x ∈ items, ∃ ρ1 d, g x (rwipe ρ vs) = some ρ1 ∧ fe ρ1 = .ok d ρ1 ∧ truF d = some (p x) ∧ allFree ρ1 vs = true ∧ rwipe ρ1 vs = rwipe ρ vs) :
    eAll fi g fe vs ρ = .ok (.bool (items.all p)) (rwipe ρ vs) := by
  obtain ⟨ρ', h, e⟩ := allL_det (g := g) (fe := fe) (vs := vs) (I := fun ρ1 => ρ1 = rwipe ρ vs) p items (fun x hx ρ0 e => by
    subst e
    obtain ⟨ρ1, d, g1, g2, g3, g4, g5⟩ := st x hx
    exact ⟨ρ1, d, ρ1, g1, g2, g3, g4, g5⟩) (rwipe ρ vs) rfl
  subst h
  have h3 : allFree (rwipe ρ vs) vs = true := by
    unfold allFree at h2 ⊢
    rw [List.all_eq_true] at h2 ⊢
    intro i hi
    have := h2 i hi
    unfold noOwn at this ⊢
    rw [rwipe_get]
    by_cases hc : i ∈ vs ∧ i < ρ.length
    · rw [if_pos hc]
    · rw [if_neg hc]; exact this
  rw [eAll_of h1 h2 e h3, rwipe_idem]
/-- a comprehension whose tests are not known, but imply q -/
theorem lcL_subp {I : RS → Prop} (q : PyData → Prop) (f : PyData → PyData) : ∀ (items : List PyData), (∀ x ∈ items, ∀ ρ, I ρ → ∃ b, (b = true → q x) ∧ LcStep g ft fe vs I x b (f x) ρ) → ∀ ρ, I ρ → ∃ (ys : List PyData) (ρ' : RS), ys.Sublist items ∧ (∀ y ∈ ys, q y) ∧ I ρ' ∧ lcL g ft fe vs items ρ = .ok (ys.map f) ρ'
  | [], _, ρ, h => ⟨[], ρ, .slnil, by simp, h, rfl⟩
  | x :: xs, st, ρ, h => by
    have ih := lcL_subp q f xs fun y m => st y (List.mem_cons_of_mem _ m)
    obtain ⟨b, hb, s⟩ := st x List.mem_cons_self ρ h
    cases b with
    | true =>
      obtain ⟨ρ1, h1, e1⟩ := lcL_cons_t (xs := xs) s
      obtain ⟨ys, ρ2, h0, h3, h2, e2⟩ := ih ρ1 h1
      refine ⟨x :: ys, ρ2, h0.cons₂ x, fun y m => ?_, h2, by rw [e1, e2]; rfl⟩
      rcases List.mem_cons.mp m with e | m
      · rw [e]; exact hb rfl
      · exact h3 y m
    | false =>
      obtain ⟨ρ1, h1, e1⟩ := lcL_cons_f (xs := xs) s
      obtain ⟨ys, ρ2, h0, h3, h2, e2⟩ := ih ρ1 h1
      exact ⟨ys, ρ2, h0.cons x, h3, h2, by rw [e1, e2]⟩
/-- a loop that may return d -/
theorem for_ret {b : RS → Out} (S : RS → Prop) (p : PyData → Bool) (d : PyData) : ∀ items : List PyData, (∀ x ∈ items, ∀ ρ, S ρ → ∃ ρ1, g x ρ = some ρ1 ∧ (p x = true → ∃ ρ2, b ρ1 = .rt d ρ2) ∧ (p x = false → ∃ ρ2, (b ρ1 = .nx ρ2 ∨ b ρ1 = .ct ρ2) ∧ S ρ2)) → ∀ ρ, S ρ →
    (items.any p = true → ∃ ρ2, forL g b items ρ = .rt d ρ2) ∧ (items.any p = false → ∃ ρ2, S ρ2 ∧ forL g b items ρ = .nx ρ2)
  | [], _, ρ, h => ⟨fun z => Bool.noConfusion (show false = true from z), fun _ => ⟨ρ, h, rfl⟩⟩
  | x :: xs, st, ρ, h => by
    obtain ⟨ρ1, h1, h2, h3⟩ := st x List.mem_cons_self ρ h
    rw [List.any_cons, forL, h1]
    cases e : p x with
    | true =>
      obtain ⟨ρ2, q⟩ := h2 e
      exact ⟨fun _ => ⟨ρ2, by simp only [q, brkTo]⟩, fun z => Bool.noConfusion (show true = false from z)⟩
    | false =>
      obtain ⟨ρ2, q, hs⟩ := h3 e
      have ih := for_ret S p d xs (fun y hy => st y (List.mem_cons_of_mem _ hy)) ρ2 hs
      rw [Bool.false_or]
      refine ⟨fun z => ?_, fun z => ?_⟩
      · obtain ⟨ρ3, q3⟩ := ih.1 z
        exact ⟨ρ3, by rcases q with q | q <;> simp only [q, brkTo, q3]⟩
      · obtain ⟨ρ3, q3, q4⟩ := ih.2 z
        exact ⟨ρ3, q3, by rcases q with q | q <;> simp only [q, brkTo, q4]⟩
/-- a loop with a value of its own -/
theorem for_fold {α : Type} {b : RS → Out} (S : α → RS → Prop) (f : α → PyData → α) : ∀ (items : List PyData), (∀ x ∈ items, ∀ a ρ, S a ρ → ∃ ρ1 ρ2, g x ρ = some ρ1 ∧ (b ρ1 = .nx ρ2 ∨ b ρ1 = .ct ρ2) ∧ S (f a x) ρ2) → ∀ a ρ, S a ρ → ∃ ρ2, S (items.foldl f a) ρ2 ∧ forL g b items ρ = .nx ρ2
  | [], _, a, ρ, h => ⟨ρ, h, rfl⟩
  | x :: xs, st, a, ρ, h => by
    obtain ⟨ρ1, ρ2, h1, h2, h3⟩ := st x List.mem_cons_self a ρ h
    obtain ⟨ρ3, h4, h5⟩ := for_fold S f xs (fun y hy => st y (List.mem_cons_of_mem _ hy)) (f a x) ρ2 h3
    refine ⟨ρ3, h4, ?_⟩
    rw [forL, h1]
    rcases h2 with q | q <;> simp only [q, brkTo, h5]
end
/-- a slot that owns no list -/
def Fs (s : Sl) : Prop := s = .n ∨ ∃ d, s = .d d
theorem fs_n : Fs .n := .inl rfl
theorem fs_d {d : PyData} : Fs (.d d) := .inr ⟨d, rfl⟩
/-! ### tables -/
def rowD (r : List Bool) : PyData := .list (r.map .bool)
def nats (row : List Nat) : List PyData := row.map fun x => PyData.int (x : Nat)
structure Sq (n : Nat) (m : MN.Mat) : Prop where
  len : m.length = n
  row : ∀ r ∈ m, r.length = n
theorem tabD_row (m : MN.Mat) : tabD m = .list (m.map rowD) := rfl
theorem gIx_list_nat {xs : List PyData} {i : Nat} {d : PyData} (h : xs[i]? = some d) : gIx (.list xs) (.int (i : Nat)) = some d := by
  show L2.atI xs (i : Int) = some d
  exact L2.atI_nat h
theorem gIx_tup_nat {xs : List PyData} {i : Nat} {d : PyData} (h : xs[i]? = some d) : gIx (.tuple xs) (.int (i : Nat)) = some d := by
  show L2.atI xs (i : Int) = some d
  exact L2.atI_nat h
/-- a row of a table -/
def rowB (m : MN.Mat) (i : Nat) : PyData := rowD (m.getD i [])
theorem gIx_tab {n : Nat} {m : MN.Mat} (q : Sq n m) {i : Nat} (hi : i < n) : gIx (tabD m) (.int (i : Nat)) = some (rowB m i) := by
  rw [tabD_row]
  refine gIx_list_nat ?_
  unfold rowB
  rw [List.getElem?_map, List.getD_eq_getElem?_getD, List.getElem?_eq_getElem (by rw [q.len]; exact hi)]
  rfl
theorem gIx_cell {n : Nat} {m : MN.Mat} (q : Sq n m) {i j : Nat} (hi : i < n) (hj : j < n) : gIx (rowB m i) (.int (j : Nat)) = some (.bool (MN.rel m i j)) := by
  have hr : (m.getD i []).length = n := by
    rw [List.getD_eq_getElem?_getD, List.getElem?_eq_getElem (by rw [q.len]; exact hi)]
    exact q.row _ (List.getElem_mem _)
  unfold rowB rowD
  refine gIx_list_nat ?_
  unfold MN.rel
  rw [List.getElem?_map, List.getD_eq_getElem?_getD (l := m.getD i []), List.getElem?_eq_getElem (by rw [hr]; exact hj)]
  rfl
theorem nats_len (row : List Nat) : (nats row).length = row.length := List.length_map _
theorem nats_flat : ∀ row : List Nat, (nats row).all flatD = true
  | [] => rfl
  | x :: row => by
    show (flatD (.int x) && (nats row).all flatD) = true
    rw [nats_flat row]; rfl
theorem nats_pis (row : List Nat) : nats row = pis (row.map fun x : Nat => (x : Int)) := by
  unfold nats pis
  rw [List.map_map]
  rfl
theorem gLen_tab {n : Nat} {m : MN.Mat} (q : Sq n m) : gLen [tabD m] = some (.int n) := by
  show some (PyData.int ((m.map rowD).length : Nat)) = _
  rw [List.length_map, q.len]
theorem mem_enum {xs : List PyData} {d : PyData} (h : d ∈ enumD xs) : ∃ i x, xs[i]? = some x ∧ d = .tuple [.int (i : Nat), x] := by
  obtain ⟨i, e⟩ := List.getElem?_of_mem h
  obtain ⟨x, h1, h2⟩ := enum_get e
  exact ⟨i, x, h1, h2⟩
end DL

-- text MB
set_option Elab.async false
set_option linter.all false
set_option maxRecDepth 100000
set_option maxHeartbeats 4000000
namespace DL
open PySem PySem.Spec L2
theorem sz0 : (0 ≤ sizeLine) = True := eq_true (by decide)
theorem sz1 : (1 ≤ sizeLine) = True := eq_true (by decide)
theorem sz2 : (2 ≤ sizeLine) = True := eq_true (by decide)
theorem sz3 : (3 ≤ sizeLine) = True := eq_true (by decide)
theorem sz4 : (4 ≤ sizeLine) = True := eq_true (by decide)
theorem sz5 : (5 ≤ sizeLine) = True := eq_true (by decide)
theorem sz6 : (6 ≤ sizeLine) = True := eq_true (by decide)
theorem sz7 : (7 ≤ sizeLine) = True := eq_true (by decide)
theorem sz8 : (8 ≤ sizeLine) = True := eq_true (by decide)
theorem gIx_web0 (h : Int) (ss : List Int) : gIx (webD h ss) (.int 0) = some (.int h) := rfl
theorem gIx_web1 (h : Int) (ss : List Int) : gIx (webD h ss) (.int 1) = some (.tuple (pis ss)) := rfl
theorem gIx_tup (xs : List PyData) (i : Int) : gIx (.tuple xs) (.int i) = atI xs i := rfl
theorem gIx_list (xs : List PyData) (i : Int) : gIx (.list xs) (.int i) = atI xs i := rfl
theorem gIx_scr (xs : List PyData) (i : Int) : gIx (.dict [(.none, .list xs)]) (.int i) = atI xs i := rfl
theorem gSub_int (i j : Int) : gSub (.int i) (.int j) = some (.int (i - j)) := rfl
theorem gMod_int (i j : Int) : gMod (.int i) (.int j) = if 0 < j then some (.int (i % j)) else none := rfl
theorem lim30_in {j : Int} (h1 : 1 ≤ j) (h2 : j < 1073741824) : lim30 j = true := by
  cases j with
  | ofNat n =>
    have h1 : (1 : Int) ≤ n := h1
    have h2 : (n : Int) < 1073741824 := h2
    show (Nat.ble 1 n && Nat.ble n 1073741823) = true
    rw [Nat.ble_eq_true_of_le (n := 1) (m := n) (by omega), Nat.ble_eq_true_of_le (n := n) (m := 1073741823) (by omega)]
    rfl
  | negSucc n => omega
theorem gDiv_int (i j : Int) : gDiv (.int i) (.int j) = if lim30 j = true then some (.int (i / j)) else none := rfl
theorem gLe_int (i j : Int) : gLe (.int i) (.int j) = some (.bool (decide (i ≤ j))) := rfl
theorem gGt_int (i j : Int) : gGt (.int i) (.int j) = some (.bool (decide (j < i))) := rfl
theorem gGe_int (i j : Int) : gGe (.int i) (.int j) = some (.bool (decide (j ≤ i))) := rfl
theorem gEq_int (i j : Int) : gEq (.int i) (.int j) = some (.bool (i == j)) := by simp [gEq, okD, ndd, SeqAt.shaped, PyData.eqv, PyData.canLay0, PyData.depth]
theorem gNe_int (i j : Int) : gNe (.int i) (.int j) = some (.bool (!(i == j))) := by simp [gNe, okD, ndd, SeqAt.shaped, PyData.eqv, PyData.canLay0, PyData.depth]
theorem gEq_bool (i j : Bool) : gEq (.bool i) (.bool j) = some (.bool (i == j)) := by simp [gEq, okD, ndd, SeqAt.shaped, PyData.eqv, PyData.canLay0, PyData.depth]
theorem gNe_bool (i j : Bool) : gNe (.bool i) (.bool j) = some (.bool (!(i == j))) := by simp [gNe, okD, ndd, SeqAt.shaped, PyData.eqv, PyData.canLay0, PyData.depth]
theorem inV_pis (x : Int) : ∀ ms : List Int, inV (fv (.int x)) ((pis ms).map fv) = decide (x ∈ ms)
  | [] => rfl
  | m :: ms => by
    show (eqV (.int m) (.int x) || inV (fv (.int x)) ((pis ms).map fv)) = _
    rw [inV_pis x ms]
    have e : eqV (.int m) (.int x) = decide (x = m) := by
      show (m == x) = _
      by_cases h : x = m <;> simp [h]
      exact fun z => h z.symm
    rw [e]
    simp
theorem in_list (x : Int) (ms : List Int) : gInG false (.int x) (.list (pis ms)) = some (.bool (decide (x ∈ ms))) := by
  unfold gInG gInF
  simp only [seqOf, ints_all_flat, flatD, Bool.and_self, if_true, inV_pis, Bool.false_eq_true, if_false]
theorem in_tup (x : Int) (ms : List Int) : gInG false (.int x) (.tuple (pis ms)) = some (.bool (decide (x ∈ ms))) := by
  unfold gInG gInF
  simp only [seqOf, ints_all_flat, flatD, Bool.and_self, if_true, inV_pis, Bool.false_eq_true, if_false]
theorem in62_small {n : Int} (h : 0 ≤ n) (h2 : n ≤ 100000000) : in62 n = true := by
  cases n with
  | ofNat n =>
    have h2 : (n : Int) ≤ 100000000 := h2
    exact Nat.ble_eq_true_of_le (by omega)
  | negSucc n => omega
theorem rng1_ok {n : Int} (h : 0 ≤ n) (h2 : n ≤ 100000000) : rng1 [.int n] = some (pis (rngI 0 n)) := by
  simp [rng1, in62_small h h2, rngD_I]
theorem rng2_ok {m n : Int} (h : 0 ≤ m) (h2 : m ≤ 100000000) (h3 : 0 ≤ n) (h4 : n ≤ 100000000) : rng2 [.int m, .int n] = some (pis (rngI m n)) := by
  simp [rng2, in62_small h h2, in62_small h3 h4, rngD_I]
theorem pis_len (ns : List Int) : (pis ns).length = ns.length := List.length_map _
theorem size_small {n : Nat} (h : n ≤ 1000000) : n ≤ sizeLine := by
  rw [PySem.sizeLine_eq]
  omega
theorem all_t {α : Type} : ∀ l : List α, (l.all fun _ => true) = true
  | [] => rfl
  | x :: l => by rw [List.all_cons, all_t l]; rfl
theorem cut1 {α : Type} (l : List α) : cutD l (some 1) none = l.drop 1 := by
  unfold cutD
  rw [show HT.sIx l.length 0 (some 1) = min 1 l.length from HT.sIx_nat l.length 0 1, HT.sIx_none]
  cases l with
  | nil => rfl
  | cons x r =>
    rw [show min 1 (x :: r).length = 1 by rw [List.length_cons]; omega]
    simp
theorem zip_pw {R : PyData → PyData → Prop} : ∀ {l : List PyData}, l.Pairwise R → ∀ d ∈ List.zipWith pairD l (l.drop 1), ∃ a b, d = pairD a b ∧ R a b
  | [], _, d, m => by simp at m
  | [x], _, d, m => by simp at m
  | x :: y :: r, h, d, m => by
    obtain ⟨h1, h2⟩ := List.pairwise_cons.mp h
    have m : d ∈ pairD x y :: List.zipWith pairD (y :: r) ((y :: r).drop 1) := by simpa using m
    rcases List.mem_cons.mp m with e | m
    · exact ⟨x, y, e, h1 y List.mem_cons_self⟩
    · exact zip_pw h2 d m
theorem pis_pw {ns : List Int} (h : ns.Pairwise (· < ·)) : (pis ns).Pairwise fun a b => ∃ i j, a = PyData.int i ∧ b = PyData.int j ∧ i < j := List.pairwise_map.mpr (h.imp fun {a b} h => ⟨a, b, rfl, rfl, h⟩)
theorem gLt_int (i j : Int) : gLt (.int i) (.int j) = some (.bool (decide (i < j))) := rfl
theorem asc_len : ∀ (ns : List Int) (a b : Int), a ≤ b → ns.Pairwise (· < ·) → (∀ s ∈ ns, a ≤ s ∧ s < b) → (ns.length : Int) ≤ b - a
  | [], a, b, hab, _, _ => by simp; omega
  | x :: r, a, b, hab, h, hr => by
    obtain ⟨h1, h2⟩ := List.pairwise_cons.mp h
    have hx := hr x List.mem_cons_self
    have := asc_len r (x + 1) b (by omega) h2 fun s m => ⟨by have := h1 s m; omega, (hr s (List.mem_cons_of_mem _ m)).2⟩
    rw [List.length_cons]
    omega
theorem web_len {h : Int} {ss : List Int} (W : IsWeb h ss) : ss.length ≤ 12 := by
  have h1 := W.lo
  have h2 := W.hi
  have := asc_len ss 1 h (by omega) W.asc fun s m => by have := W.rng s m; omega
  omega
theorem gMul_int (i j : Int) : gMul (.int i) (.int j) = if (lim64 i || lim64 j) = true then some (.int (i * j)) else none := rfl
theorem gMulG_int (i j : Int) : gMulG (.int i) (.int j) = if (lim64 i || lim64 j) = true then some (.int (i * j)) else none := by
  unfold gMulG
  rw [gMul_int]
  by_cases h : (lim64 i || lim64 j) = true
  · rw [if_pos h]
  · rw [if_neg h]
theorem lim_small {i : Int} (h : 0 ≤ i) (h2 : i ≤ 1000000) : lim64 i = true := by
  cases i with
  | ofNat n =>
    have h2 : (n : Int) ≤ 1000000 := h2
    exact Nat.ble_eq_true_of_le (by omega)
  | negSucc n => omega
theorem filter_t {α : Type} (l : List α) : (l.filter fun _ => true) = l := by simp
end DL

-- text ME
set_option Elab.async false
set_option linter.all false
set_option maxRecDepth 100000
set_option maxHeartbeats 4000000
namespace DL
open PySem PySem.Spec L2
/-- data of depth n at most, of None, bools, ints, lists, tuples -/
inductive Pl : Nat → PyData → Prop where
  | non {n : Nat} : Pl n .none
  | bl {n : Nat} (b : Bool) : Pl n (.bool b)
  | int {n : Nat} (i : Int) : Pl n (.int i)
  | lst {n : Nat} {xs : List PyData} : (∀ x ∈ xs, Pl n x) → xs.length ≤ 1000 → Pl (n + 1) (.list xs)
  | tup {n : Nat} {xs : List PyData} : (∀ x ∈ xs, Pl n x) → xs.length ≤ 1000 → Pl (n + 1) (.tuple xs)
theorem all_of {n : Nat} : ∀ {xs : List PyData}, (∀ x ∈ xs, ndd x = true ∧ x.canLay0 = true ∧ x.depth ≤ n ∧ PyData.eqv x x = true) → nddAll xs = true ∧ PyData.canLayAll0 xs = true ∧ PyData.depthAll xs ≤ n ∧ PyData.eqvAll xs xs = true
  | [], _ => ⟨rfl, rfl, Nat.zero_le _, rfl⟩
  | x :: xs, h => by
    obtain ⟨a1, a2, a3, a4⟩ := h x List.mem_cons_self
    obtain ⟨b1, b2, b3, b4⟩ := all_of fun y m => h y (List.mem_cons_of_mem _ m)
    refine ⟨by rw [nddAll, a1, b1]; rfl, by rw [PyData.canLayAll0, a2, b2]; rfl, ?_, by rw [PyData.eqvAll, a4, b4]; rfl⟩
    rw [PyData.depthAll]
    omega
theorem Pl.all : ∀ {n : Nat} {d : PyData}, Pl n d → ndd d = true ∧ d.canLay0 = true ∧ d.depth ≤ n ∧ PyData.eqv d d = true
  | _, _, .non => ⟨rfl, rfl, Nat.zero_le _, rfl⟩
  | _, _, .bl b => ⟨rfl, rfl, Nat.zero_le _, by simp [PyData.eqv]⟩
  | _, _, .int i => ⟨rfl, rfl, Nat.zero_le _, by simp [PyData.eqv]⟩
  | _, _, .lst h _ => by
    obtain ⟨b1, b2, b3, b4⟩ := all_of fun x m => (h x m).all
    exact ⟨by rw [ndd]; exact b1, by rw [PyData.canLay0]; exact b2, by rw [PyData.depth]; omega, by rw [PyData.eqv]; exact b4⟩
  | _, _, .tup h _ => by
    obtain ⟨b1, b2, b3, b4⟩ := all_of fun x m => (h x m).all
    exact ⟨by rw [ndd]; exact b1, by rw [PyData.canLay0]; exact b2, by rw [PyData.depth]; omega, by rw [PyData.eqv]; exact b4⟩
theorem Pl.okD {n : Nat} {d : PyData} (h : Pl n d) (hn : n ≤ 64) : DL.okD d = true := by
  obtain ⟨a1, a2, a3, _⟩ := h.all
  unfold DL.okD SeqAt.shaped
  simp only [Bool.and_eq_true, decide_eq_true_eq]
  exact ⟨a1, a2, by omega⟩
theorem Pl.eq {n : Nat} {d : PyData} (h : Pl n d) (hn : n ≤ 64) : gEq d d = some (.bool true) := by
  unfold gEq
  rw [h.okD hn, h.all.2.2.2]
  rfl
theorem eqv_pis : ∀ ns ms : List Int, PyData.eqvAll (pis ns) (pis ms) = decide (ns = ms)
  | [], [] => rfl
  | [], _ :: _ => rfl
  | _ :: _, [] => rfl
  | n :: ns, m :: ms => by
    show PyData.eqvAll (.int n :: pis ns) (.int m :: pis ms) = _
    rw [PyData.eqvAll, eqv_pis ns ms]
    by_cases h : n = m <;> by_cases h2 : ns = ms <;> simp [PyData.eqv, h, h2]
theorem pl_pis {n : Nat} (ns : List Int) : ∀ x ∈ pis ns, Pl n x := fun x m => by
  obtain ⟨i, _, rfl⟩ := List.mem_map.mp m
  exact .int i

/-! data of ints, tuples and lists alone: == is equality -/
inductive PI : Nat → PyData → Prop where
  | int {n : Nat} (i : Int) : PI n (.int i)
  | lst {n : Nat} {xs : List PyData} : (∀ x ∈ xs, PI n x) → xs.length ≤ 1000 → PI (n + 1) (.list xs)
  | tup {n : Nat} {xs : List PyData} : (∀ x ∈ xs, PI n x) → xs.length ≤ 1000 → PI (n + 1) (.tuple xs)
theorem PI.pl : ∀ {n : Nat} {d : PyData}, PI n d → Pl n d
  | _, _, .int i => .int i
  | _, _, .lst h hl => .lst (fun x m => (h x m).pl) hl
  | _, _, .tup h hl => .tup (fun x m => (h x m).pl) hl
mutual
theorem eqv_eq : ∀ {d e : PyData}, PyData.eqv d e = true → ∀ {n m : Nat}, PI n d → PI m e → d = e
  | .int i, .int j, h, _, _, _, _ => by
    have : (i == j) = true := by rw [PyData.eqv] at h; exact h
    rw [beq_iff_eq.mp this]
  | .list xs, .list ys, h, _, _, .lst p _, .lst q _ => by
    rw [PyData.eqv] at h
    rw [eqv_alleq h p q]
  | .tuple xs, .tuple ys, h, _, _, .tup p _, .tup q _ => by
    rw [PyData.eqv] at h
    rw [eqv_alleq h p q]
  | .int _, .list _, h, _, _, _, _ => by simp [PyData.eqv] at h
  | .int _, .tuple _, h, _, _, _, _ => by simp [PyData.eqv] at h
  | .list _, .int _, h, _, _, _, _ => by simp [PyData.eqv] at h
  | .list _, .tuple _, h, _, _, _, _ => by simp [PyData.eqv] at h
  | .tuple _, .int _, h, _, _, _, _ => by simp [PyData.eqv] at h
  | .tuple _, .list _, h, _, _, _, _ => by simp [PyData.eqv] at h
theorem eqv_alleq : ∀ {xs ys : List PyData}, PyData.eqvAll xs ys = true → ∀ {n m : Nat}, (∀ x ∈ xs, PI n x) → (∀ y ∈ ys, PI m y) → xs = ys
  | [], [], _, _, _, _, _ => rfl
  | [], _ :: _, h, _, _, _, _ => by simp [PyData.eqvAll] at h
  | _ :: _, [], h, _, _, _, _ => by simp [PyData.eqvAll] at h
  | x :: xs, y :: ys, h, _, _, p, q => by
    rw [PyData.eqvAll, Bool.and_eq_true] at h
    rw [eqv_eq h.1 (p x List.mem_cons_self) (q y List.mem_cons_self), eqv_alleq h.2 (fun z hz => p z (List.mem_cons_of_mem _ hz)) fun z hz => q z (List.mem_cons_of_mem _ hz)]
end
theorem eqv_iff {d e : PyData} {n m : Nat} (p : PI n d) (q : PI m e) : PyData.eqv d e = true ↔ d = e :=
  ⟨fun h => eqv_eq h p q, fun h => by rw [← h]; exact p.pl.all.2.2.2⟩
theorem gEq_pi {d e : PyData} {n m : Nat} (p : PI n d) (q : PI m e) (hn : n ≤ 64) (hm : m ≤ 64) : ∃ b, gEq d e = some (.bool b) ∧ gNe d e = some (.bool (!b)) ∧ (b = true ↔ d = e) := by
  refine ⟨PyData.eqv d e, ?_, ?_, eqv_iff p q⟩
  · unfold gEq; rw [p.pl.okD hn, q.pl.okD hm]; rfl
  · unfold gNe; rw [p.pl.okD hn, q.pl.okD hm]; rfl
theorem gEq_t {d e : PyData} {n m : Nat} (p : PI n d) (q : PI m e) (hn : n ≤ 64) (hm : m ≤ 64) (h : d = e) : gEq d e = some (.bool true) := by
  obtain ⟨b, h1, _, h2⟩ := gEq_pi p q hn hm
  rw [h1, h2.mpr h]
theorem gEq_f {d e : PyData} {n m : Nat} (p : PI n d) (q : PI m e) (hn : n ≤ 64) (hm : m ≤ 64) (h : d ≠ e) : gEq d e = some (.bool false) := by
  obtain ⟨b, h1, _, h2⟩ := gEq_pi p q hn hm
  cases b with
  | true => exact (h (h2.mp rfl)).elim
  | false => exact h1
theorem gNe_t {d e : PyData} {n m : Nat} (p : PI n d) (q : PI m e) (hn : n ≤ 64) (hm : m ≤ 64) (h : d = e) : gNe d e = some (.bool false) := by
  obtain ⟨b, _, h1, h2⟩ := gEq_pi p q hn hm
  rw [h1, h2.mpr h]; rfl
theorem gNe_f {d e : PyData} {n m : Nat} (p : PI n d) (q : PI m e) (hn : n ≤ 64) (hm : m ≤ 64) (h : d ≠ e) : gNe d e = some (.bool true) := by
  obtain ⟨b, _, h1, h2⟩ := gEq_pi p q hn hm
  cases b with
  | true => exact (h (h2.mp rfl)).elim
  | false => exact h1
theorem pi_nats {n : Nat} (row : List Nat) : ∀ x ∈ nats row, PI n x := fun x m => by
  obtain ⟨i, _, rfl⟩ := List.mem_map.mp m
  exact .int _
theorem pi_pis {n : Nat} (ns : List Int) : ∀ x ∈ pis ns, PI n x := fun x m => by
  obtain ⟨i, _, rfl⟩ := List.mem_map.mp m
  exact .int _
theorem pi_list {α : Type} {f : α → PyData} {n : Nat} {l : List α} (hl : ∀ b ∈ l, PI n (f b)) (len : l.length ≤ 1000) : PI (n + 1) (.list (l.map f)) := .lst (fun x m => by
  obtain ⟨b, hb, rfl⟩ := List.mem_map.mp m
  exact hl b hb) (by rw [List.length_map]; exact len)
theorem pi_tup {α : Type} {f : α → PyData} {n : Nat} {l : List α} (hl : ∀ b ∈ l, PI n (f b)) (len : l.length ≤ 1000) : PI (n + 1) (.tuple (l.map f)) := .tup (fun x m => by
  obtain ⟨b, hb, rfl⟩ := List.mem_map.mp m
  exact hl b hb) (by rw [List.length_map]; exact len)
theorem any_pi {α : Type} {f : α → PyData} (inj : ∀ a b, f a = f b → a = b) {n : Nat} {l : List α} {a : α} [Decidable (a ∈ l)] (hp : PI n (f a)) (hl : ∀ b ∈ l, PI n (f b)) : (l.map f).any (fun z => PyData.eqv z (f a)) = decide (a ∈ l) := by
  rw [Bool.eq_iff_iff, decide_eq_true_iff, List.any_eq_true]
  constructor
  · rintro ⟨z, hz, e⟩
    obtain ⟨b, hb, rfl⟩ := List.mem_map.mp hz
    rw [← inj _ _ ((eqv_iff (hl b hb) hp).mp e)]
    exact hb
  · intro h
    exact ⟨f a, List.mem_map.mpr ⟨a, h, rfl⟩, (eqv_iff hp hp).mpr rfl⟩
theorem inF_none {x y : PyData} {neg : Bool} (nf : flatD x = false) : gInF neg x y = none := by
  unfold gInF
  cases seqOf y with
  | none => rfl
  | some ds => simp only [nf, Bool.false_and, Bool.false_eq_true, if_false]
/-- x in a list, a tuple of tuples of ints -/
theorem in_listH {α : Type} {f : α → PyData} (inj : ∀ a b, f a = f b → a = b) {n : Nat} (hn : n ≤ 63) {l : List α} {a : α} [Decidable (a ∈ l)] (hp : PI n (f a)) (hl : ∀ b ∈ l, PI n (f b)) (len : l.length ≤ 1000) (nf : flatD (f a) = false) (neg : Bool) :
    gInH neg (f a) (.list (l.map f)) = some (.bool (if neg then !decide (a ∈ l) else decide (a ∈ l))) := by
  refine gInH_of ?_
  have o1 := hp.pl.okD (by omega)
  have o2 := (pi_list hl len).pl.okD (by omega)
  unfold gInG gIn
  rw [inF_none nf]
  simp only [o1, o2, Bool.and_self, if_true, any_pi inj hp hl]
theorem in_tupH {α : Type} {f : α → PyData} (inj : ∀ a b, f a = f b → a = b) {n : Nat} (hn : n ≤ 63) {l : List α} {a : α} [Decidable (a ∈ l)] (hp : PI n (f a)) (hl : ∀ b ∈ l, PI n (f b)) (len : l.length ≤ 1000) (nf : flatD (f a) = false) (neg : Bool) :
    gInH neg (f a) (.tuple (l.map f)) = some (.bool (if neg then !decide (a ∈ l) else decide (a ∈ l))) := by
  have o1 := hp.pl.okD (by omega)
  have o2 := (pi_tup hl len).pl.okD (by omega)
  unfold gInH gInG gIn gInDT
  rw [inF_none nf]
  simp only [o1, o2, Bool.and_self, if_true, any_pi inj hp hl]
theorem inH_flat {x : Int} {ms : List Int} : gInH false (.int x) (.list (pis ms)) = some (.bool (decide (x ∈ ms))) ∧ gInH false (.int x) (.tuple (pis ms)) = some (.bool (decide (x ∈ ms))) := ⟨gInH_of (in_list x ms), gInH_of (in_tup x ms)⟩
end DL

-- text GW
set_option Elab.async false
set_option linter.all false
set_option maxRecDepth 100000
set_option maxHeartbeats 4000000
namespace LW
open PySem PySem.Spec PyProof.Rows L2 GxR DL
def topS (i : Nat) : Stmt := PySem.Challenge.pw_stepwebs_k08_whole_wheels.main.body.getD i (.Pass ⟨0, 0, 0, 0⟩)
def xS (i k : Nat) : Stmt := match topS i with
  | .ClassDef _ _ _ body _ _ _ _ _ _ _ => body.getD k (.Pass ⟨0, 0, 0, 0⟩)
  | s => s

def whS (i : Nat) : Stmt := match topS 11 with
  | .ClassDef _ _ _ body _ _ _ _ _ _ _ => body.getD i (.Pass ⟨0, 0, 0, 0⟩)
  | s => s
structure WhK (K : PySem.W.Frag) (C : Addr) : Prop where
  cls : Cls K C
  mkI : ∃ f fd, Fun K "__init__" "Wheel.__init__" (whS 0) f fd ∧ Mk K C f
  go : ∃ f fd, Fun K "go" "Wheel.go" (whS 1) f fd ∧ Meth K C "go" f
  undo : ∃ f fd, Fun K "undo" "Wheel.undo" (whS 2) f fd ∧ Meth K C "undo" f
  steps : ∃ p f fd, Fun K "steps" "Wheel.steps" (whS 3) f fd ∧ PropOf K C "steps" p f
  path : ∃ p f fd, Fun K "path" "Wheel.path" (whS 4) f fd ∧ PropOf K C "path" p f
  hall : ∃ p f fd, Fun K "hall" "Wheel.hall" (whS 5) f fd ∧ PropOf K C "hall" p f
  n_web : NoAttr K C "_web"
  n_steps : NoAttr K C "_steps"
  n_path : NoAttr K C "_path"

structure Top (P : Program) (w : World) (mg : Str → Option Value) (base : Heap) (G : DL.Ctx) : Prop where
  t_is_number : TopF G.K mg "is_number" (topS 7)
  t_wrong_web : TopG G.K mg base G.ts "wrong_web" (topS 8)
  t_need_web : TopF G.K mg "need_web" (topS 9)
  t__law_taken : TopF G.K mg "_law_taken" (topS 13)
  t__law_pick : TopF G.K mg "_law_pick" (topS 14)
  t__law_alike : TopF G.K mg "_law_alike" (topS 15)
  t__law_web : TopF G.K mg "_law_web" (topS 16)
  t_law : TopF G.K mg "law" (topS 17)
  b_all : mg "all" = none
  b_bool : mg "bool" = none
  b_int : mg "int" = none
  b_isinstance : mg "isinstance" = none
  b_len : mg "len" = none
  b_list : mg "list" = none
  b_range : mg "range" = none
  b_str : mg "str" = none
  b_sum : mg "sum" = none
  b_tuple : mg "tuple" = none
  b_zip : mg "zip" = none
  c_MOST_HALLS : ∃ u, mg "MOST_HALLS" = some u ∧ RelV (.int 13) u
  fx_BadWeb : ErrX P w G.K mg base "BadWeb" (G.ec "BadWeb") ["part"]
  x_BadWeb_BadWeb : PySem.W.exmOne G.K (.ref (G.ec "BadWeb")) (.ref (G.ec "BadWeb")) = some true
  wh : ∃ C, mg "Wheel" = some (.ref C) ∧ WhK G.K C
  e_BadStep : ErrC G.K mg "BadStep" (G.ec "BadStep")
  x_BadStep_BadStep : PySem.W.exmOne G.K (.ref (G.ec "BadStep")) (.ref (G.ec "BadStep")) = some true
  e_NoStep : ErrC G.K mg "NoStep" (G.ec "NoStep")
  x_NoStep_NoStep : PySem.W.exmOne G.K (.ref (G.ec "NoStep")) (.ref (G.ec "NoStep")) = some true
section
variable {P : Program} {w : World} {mg : Str → Option Value} {base : Heap} {G : DL.Ctx}
def fb_is_number : RS → Out := (sRet (eAndD (eIsi isIntD (eVar 0)) (eAndD (eNotD (eIsi isBoolD (eVar 0))) (eChain gLe gLe (eVar 1) (eVar 0) (eVar 2)))))
def F_is_number : List PyData → Fr := fnD 3 3 fb_is_number
abbrev st_is_number : Stmt := topS 7
theorem sc_is_number : FnScope ["value", "low", "high"] ["value", "low", "high"] (defScope st_is_number) := ⟨rfl, rfl, rfl, by decide +kernel, rfl, by decide +kernel, by decide +kernel⟩
theorem ok_is_number (T : Top P w mg base G) : HasF P w G.K mg base "is_number" 1 (spD G 3 F_is_number) := by
  obtain ⟨f, fd, F, hm⟩ := (T.t_is_number).ex
  exact ⟨f, fd, ["value", "low", "high"], hm, F.kp, (F.binds (ps := ["value", "low", "high"]) fun _ _ _ _ _ _ us hl => match us, hl with | [_, _, _], _ => rfl), fn_ok (k := 0) F sc_is_number rfl (by decide) fun A outer s H E hr => by
    have F0 : Fam (Cf P w G.K mg base ["value", "low", "high"] "is_number" st_is_number f fd A outer s H E) G (WF E) 0 := fam_of sc_is_number rfl hr
    exact (dss_one (ds_ret (de_and (de_isi F0 kb_int (fun _ => rfl) (fun _ => T.b_isinstance) (fun _ => rfl) (fun _ => T.b_int) (by decide +kernel) (de_var 0 (fun _ => rfl) (fun _ => .inl rfl))) (de_and (de_not (de_isi F0 kb_bool (fun _ => rfl) (fun _ => T.b_isinstance) (fun _ => rfl) (fun _ => T.b_bool) (by decide +kernel) (de_var 0 (fun _ => rfl) (fun _ => .inl rfl)))) (de_one (de_chain (fun _ => op_le) (fun _ => op_le) od_le od_le (de_var 1 (fun _ => rfl) (fun _ => .inl rfl)) (de_var 0 (fun _ => rfl) (fun _ => .inl rfl)) (de_var 2 (fun _ => rfl) (fun _ => .inl rfl))))))))⟩
def fb_wrong_web : RS → Out := (sThen (sIf (tOrD (tNotD (tT (eIsi isTupD (eVar 0)))) (tV (eBin gNe (eCall gLen (aConsD (eVar 0) aNilD)) (eC (.int 2))))) (sRet (eC (.str "whole"))) sNil)
  (sThen (sAsg (eVar 0) (setTup 2 (setCons (setD 1) (setCons (setD 2) setNil))))
  (sThen (sIf (tNotD (tT (eFn 3 F_is_number (aConsD (eVar 1) (aConsD (eC (.int 2)) (aConsD (eC (.int 13)) aNilD)))))) (sRet (eC (.str "halls"))) sNil)
  (sThen (sIf (tOrD (tNotD (tT (eIsi isTupD (eVar 2)))) (tNotD (tT (eAll (iSeq (eVar 2)) (setD 5) (eFn 3 F_is_number (aConsD (eVar 5) (aConsD (eC (.int 1)) (aConsD (eBin gSub (eVar 1) (eC (.int 1))) aNilD)))) [5])))) (sRet (eC (.str "steps"))) sNil)
  (sRet (eIfD (tT (eAll (iRng zipG (aConsD (eVar 2) (aConsD (eSl (eVar 2) (pSome (eC (.int 1))) pNone) aNilD))) (setTup 2 (setCons (setD 3) (setCons (setD 4) setNil))) (eBin gLt (eVar 3) (eVar 4)) [3, 4])) (eC .none) (eC (.str "steps"))))))))
def F_wrong_web : List PyData → Fr := fnD 1 6 fb_wrong_web
abbrev st_wrong_web : Stmt := topS 8
theorem sc_wrong_web : FnScope ["value", "halls", "steps", "one", "other", "step"] ["value"] (defScope st_wrong_web) := ⟨rfl, rfl, rfl, by decide +kernel, rfl, by decide +kernel, by decide +kernel⟩
theorem ok_wrong_web (T : Top P w mg base G) : HasF P w G.K mg base "wrong_web" 3 (spD G 1 F_wrong_web) := by
  obtain ⟨f, fd, c, Pt, F, hm, hcode, hP, TB⟩ := (T.t_wrong_web).ex
  obtain ⟨f_is_number, fd_is_number, ps_is_number, m_is_number, k_is_number, b_is_number, o_is_number⟩ := (ok_is_number T).ex
  obtain ⟨u_MOST_HALLS, mc_MOST_HALLS, rc_MOST_HALLS⟩ := T.c_MOST_HALLS
  exact ⟨f, fd, ["value"], hm, F.kp, (F.binds (ps := ["value"]) fun _ _ _ _ _ _ us hl => match us, hl with | [_], _ => rfl), fn_ok (k := 2) F sc_wrong_web rfl (by decide) fun A outer s H E hr => by
    have F0 : Fam (Cf P w G.K mg base ["value", "halls", "steps", "one", "other", "step"] "wrong_web" st_wrong_web f fd A outer s H E) G (WF E) 2 := fam_of sc_wrong_web rfl hr
    exact (dss_cons (ds_if (DW.dt (dw_or (dt_not (dt_truth F0 (de_isi F0 kb_tup (fun _ => rfl) (fun _ => T.b_isinstance) (fun _ => rfl) (fun _ => T.b_tuple) (by decide +kernel) (de_var 0 (fun _ => rfl) (fun _ => .inl rfl))))) (dw_or1 (dt_cmp (fun i => or_neG (F0.K i) (F0.hu4 i)) od_ne (de_callB (fun i => cr_lenG (F0.K i)) cd_len (fun _ => rfl) (fun _ => T.b_len) (by decide +kernel) (da_cons (de_var 0 (fun _ => rfl) (fun _ => .inl rfl)) da_nil)) de_int (by first | exact nomark _ | with_unfolding_all rfl))))) (dss_one (ds_ret de_str)) dss_nil)
  (dss_cons (ds_asg (de_var 0 (fun _ => rfl) (fun _ => .inl rfl)) (dg_tup F0 (dgs_cons (dg_name F0 (fun _ => rfl) (fun _ => .inr rfl) (fun _ => by first | exact .inl rfl | exact .inr rfl)) (dgs_cons (dg_name F0 (fun _ => rfl) (fun _ => .inl rfl) (fun _ => by first | exact .inl rfl | exact .inr rfl)) dgs_nil))))
  (dss_cons (ds_if (dt_not (dt_truth F0 (de_fn F0 (fun _ => o_is_number) (by decide) (fun _ => rfl) (fun _ => m_is_number) k_is_number b_is_number (da_cons (de_var 1 (fun _ => rfl) (fun _ => .inr (.inl (by kernel_rfl)))) (da_cons de_int (da_cons (de_glob (v := .int 13) (d := .int 13) (fun _ => rfl) (fun _ => mc_MOST_HALLS) rc_MOST_HALLS (fun _ _ => .int _)) da_nil)))))) (dss_one (ds_ret de_str)) dss_nil)
  (dss_cons (ds_if (DW.dt (dw_or (dt_not (dt_truth F0 (de_isi F0 kb_tup (fun _ => rfl) (fun _ => T.b_isinstance) (fun _ => rfl) (fun _ => T.b_tuple) (by decide +kernel) (de_var 2 (fun _ => rfl) (fun _ => .inl rfl))))) (dw_or1 (dt_not (dt_truth F0 (de_all (own := [("step", 5)]) F0 hP (fun _ => rfl) (fun _ => T.b_all) (fun _ => TB) (fun _ => hcode) (di_seq F0 (de_var 2 (fun _ => rfl) (fun _ => .inl rfl))) (fun _ => blkOk_by (by kernel_rfl)) (fun _ => gsc_by (by kernel_rfl)) (dg_name (famG F0) (fun _ => rfl) (fun _ => .inl rfl) (fun _ => by first | exact .inl rfl | exact .inr rfl)) (by decide) (de_fn (famG F0) (fun _ => o_is_number) (by decide) (fun _ => rfl) (fun _ => m_is_number) k_is_number b_is_number (da_cons (de_var 5 (fun _ => rfl) (fun _ => .inl rfl)) (da_cons de_int (da_cons (de_bin (fun _ => op_sub) od_sub (de_var 1 (fun _ => rfl) (fun _ => .inr (.inr (by kernel_rfl)))) de_int) da_nil)))))))))) (dss_one (ds_ret de_str)) dss_nil)
  (dss_one (ds_ret (de_if (dt_truth F0 (de_all (own := [("one", 3), ("other", 4)]) F0 hP (fun _ => rfl) (fun _ => T.b_all) (fun _ => TB) (fun _ => hcode) (di_zip F0 (fun _ => rfl) (fun _ => T.b_zip) (da_cons (de_var 2 (fun _ => rfl) (fun _ => .inl rfl)) (da_cons (de_slice F0 (de_var 2 (fun _ => rfl) (fun _ => .inl rfl)) (dp_some de_int) dp_none) da_nil))) (fun _ => blkOk_by (by kernel_rfl)) (fun _ => gsc_by (by kernel_rfl)) (dg_tup (famG F0) (dgs_cons (dg_name (famG F0) (fun _ => rfl) (fun _ => .inl rfl) (fun _ => by first | exact .inl rfl | exact .inr rfl)) (dgs_cons (dg_name (famG F0) (fun _ => rfl) (fun _ => .inl rfl) (fun _ => by first | exact .inl rfl | exact .inr rfl)) dgs_nil))) (by decide) (de_cmp (fun i => or_ltG ((famG F0).K i) ((famG F0).hu0 i)) od_lt (de_var 3 (fun _ => rfl) (fun _ => .inl rfl)) (de_var 4 (fun _ => rfl) (fun _ => .inl rfl)) (by first | exact nomark _ | with_unfolding_all rfl)))) de_non de_str)))))))⟩
def fb_need_web : RS → Out := (sThen (sAsg (eFn 1 F_wrong_web (aConsD (eVar 0) aNilD)) (setD 1))
  (sIf (tV (eBin (gIsN true) (eVar 1) (eC .none))) (sRx "BadWeb" ["part"] (aConsD (eVar 1) aNilD)) sNil))
def F_need_web : List PyData → Fr := fnD 1 2 fb_need_web
abbrev st_need_web : Stmt := topS 9
theorem sc_need_web : FnScope ["value", "word"] ["value"] (defScope st_need_web) := ⟨rfl, rfl, rfl, by decide +kernel, rfl, by decide +kernel, by decide +kernel⟩
theorem ok_need_web (T : Top P w mg base G) : HasF P w G.K mg base "need_web" 4 (spD G 1 F_need_web) := by
  obtain ⟨f, fd, F, hm⟩ := (T.t_need_web).ex
  obtain ⟨f_wrong_web, fd_wrong_web, ps_wrong_web, m_wrong_web, k_wrong_web, b_wrong_web, o_wrong_web⟩ := (ok_wrong_web T).ex
  exact ⟨f, fd, ["value"], hm, F.kp, (F.binds (ps := ["value"]) fun _ _ _ _ _ _ us hl => match us, hl with | [_], _ => rfl), fn_ok (k := 3) F sc_need_web rfl (by decide) fun A outer s H E hr => by
    have F0 : Fam (Cf P w G.K mg base ["value", "word"] "need_web" st_need_web f fd A outer s H E) G (WF E) 3 := fam_of sc_need_web rfl hr
    exact (dss_cons (ds_set F0 (fun _ => rfl) (fun _ => .inl rfl) (fun _ => by first | exact .inl rfl | exact .inr rfl) (de_fn F0 (fun _ => o_wrong_web) (by decide) (fun _ => rfl) (fun _ => m_wrong_web) k_wrong_web b_wrong_web (da_cons (de_var 0 (fun _ => rfl) (fun _ => .inl rfl)) da_nil)))
  (dss_one (ds_if (dt_cmp (fun _ => op_notN) od_notN (de_var 1 (fun _ => rfl) (fun _ => .inl rfl)) de_non (by first | exact nomark _ | with_unfolding_all rfl)) (dss_one (ds_raiseX F0 (by decide) T.fx_BadWeb (fun _ => rfl) (fun _ => rfl) (fun _ => rfl) (fun _ => rfl) (fun _ => rfl) (by decide) (by decide) (da_cons (de_var 1 (fun _ => rfl) (fun _ => .inl rfl)) da_nil))) dss_nil)))⟩
def fb__law_taken : RS → Out := (sThen (sIf (tV (eBin gGt (eIxO 0 (eC (.int 3))) (eC (.int 0)))) (sThen (sAsg (eBin gMod (eCall gIntOf (aConsD (eIxO 0 (eC (.int 3))) aNilD)) (eVar 1)) (setD 2))
  (sThen (sPutO 0 (eC (.int 3)) (eBin gDiv (eIxO 0 (eC (.int 3))) (eVar 1)))
  (sRet (eVar 2)))) sNil)
  (sThen (sPutO 0 (eC (.int 1)) (eBin gAdd (eIxO 0 (eC (.int 1))) (eC (.int 1))))
  (sThen (sIf (tV (eBin gGt (eIxO 0 (eC (.int 1))) (eCall gLen (aConsD (eIxO 0 (eC (.int 0))) aNilD)))) (sThen (sPutO 0 (eC (.int 2)) (eBin gMod (eCall gIntOf (aConsD (eBin gAdd (eBin gMulG (eIxO 0 (eC (.int 2))) (eC (.int 48271))) (eC (.int 11))) aNilD)) (eC (.int 2147483647))))
  (sRet (eBin gMod (eCall gIntOf (aConsD (eBin gDiv (eIxO 0 (eC (.int 2))) (eC (.int 7))) aNilD)) (eVar 1)))) sNil)
  (sThen (sAsg (eBin gIx (eIxO 0 (eC (.int 0))) (eBin gSub (eIxO 0 (eC (.int 1))) (eC (.int 1)))) (setD 3))
  (sThen (sPutO 0 (eC (.int 2)) (eBin gMod (eCall gIntOf (aConsD (eBin gAdd (eBin gAdd (eBin gMulG (eIxO 0 (eC (.int 2))) (eC (.int 48271))) (eVar 3)) (eC (.int 11))) aNilD)) (eC (.int 2147483647))))
  (sThen (sIf (tV (eBin gGe (eVar 3) (eBin gPow (eC (.int 10)) (eC (.int 18))))) (sPutO 0 (eC (.int 3)) (eBin gDiv (eVar 3) (eVar 1))) sNil)
  (sRet (eBin gMod (eCall gIntOf (aConsD (eVar 3) aNilD)) (eVar 1)))))))))
def F__law_taken : List PyData → List PyData → Fi := fnI 2 4 fb__law_taken
abbrev st__law_taken : Stmt := topS 13
theorem sc__law_taken : FnScope ["_law_row", "_law_many", "_law_found", "_law_cell"] ["_law_row", "_law_many"] (defScope st__law_taken) := ⟨rfl, rfl, rfl, by decide +kernel, rfl, by decide +kernel, by decide +kernel⟩
theorem ok__law_taken (T : Top P w mg base G) : HasF P w G.K mg base "_law_taken" 1 (spI G 2 F__law_taken) := by
  obtain ⟨f, fd, F, hm⟩ := (T.t__law_taken).ex
  exact ⟨f, fd, ["_law_row", "_law_many"], hm, F.kp, (F.binds (ps := ["_law_row", "_law_many"]) fun _ _ _ _ _ _ us hl => match us, hl with | [_, _], _ => rfl), fni_ok (k := 0) F sc__law_taken rfl (by decide) fun A outer s H E hr => by
    have F0 : Fam (Cf P w G.K mg base ["_law_row", "_law_many", "_law_found", "_law_cell"] "_law_taken" st__law_taken f fd A outer s H E) G (WF E) 0 := fam_of sc__law_taken rfl hr
    exact (dss_cons (ds_if (dt_cmp (fun _ => op_gt) od_gt (de_ixO 0 F0 (fun _ => rfl) (fun _ => .inl rfl) de_int) de_int (by first | exact nomark _ | with_unfolding_all rfl)) (dss_cons (ds_set F0 (fun _ => rfl) (fun _ => .inl rfl) (fun _ => by first | exact .inl rfl | exact .inr rfl) (de_bin (fun _ => op_mod) od_mod (de_callTy (fun _ => call_int1) cd_int (fun _ => rfl) (fun _ => T.b_int) (by decide +kernel) (da_cons (de_ixO 0 F0 (fun _ => rfl) (fun _ => .inl rfl) de_int) da_nil)) (de_var 1 (fun _ => rfl) (fun _ => .inl rfl))))
  (dss_cons (ds_putO 0 F0 (fun _ => rfl) (fun _ => .inl rfl) de_int (de_bin (fun _ => op_fdiv) od_div (de_ixO 0 F0 (fun _ => rfl) (fun _ => .inl rfl) de_int) (de_var 1 (fun _ => rfl) (fun _ => .inl rfl))))
  (dss_one (ds_ret (de_var 2 (fun _ => rfl) (fun _ => .inl rfl)))))) dss_nil)
  (dss_cons (ds_putO 0 F0 (fun _ => rfl) (fun _ => .inl rfl) de_int (de_bin (fun i => or_addG (F0.K i)) od_add (de_ixO 0 F0 (fun _ => rfl) (fun _ => .inl rfl) de_int) de_int))
  (dss_cons (ds_if (dt_cmp (fun _ => op_gt) od_gt (de_ixO 0 F0 (fun _ => rfl) (fun _ => .inl rfl) de_int) (de_callB (fun i => cr_lenG (F0.K i)) cd_len (fun _ => rfl) (fun _ => T.b_len) (by decide +kernel) (da_cons (de_ixO 0 F0 (fun _ => rfl) (fun _ => .inl rfl) de_int) da_nil)) (by first | exact nomark _ | with_unfolding_all rfl)) (dss_cons (ds_putO 0 F0 (fun _ => rfl) (fun _ => .inl rfl) de_int (de_bin (fun _ => op_mod) od_mod (de_callTy (fun _ => call_int1) cd_int (fun _ => rfl) (fun _ => T.b_int) (by decide +kernel) (da_cons (de_bin (fun i => or_addG (F0.K i)) od_add (de_bin (fun i => or_mul1 (F0.K i)) od_mul1 (de_ixO 0 F0 (fun _ => rfl) (fun _ => .inl rfl) de_int) de_int) de_int) da_nil)) de_int))
  (dss_one (ds_ret (de_bin (fun _ => op_mod) od_mod (de_callTy (fun _ => call_int1) cd_int (fun _ => rfl) (fun _ => T.b_int) (by decide +kernel) (da_cons (de_bin (fun _ => op_fdiv) od_div (de_ixO 0 F0 (fun _ => rfl) (fun _ => .inl rfl) de_int) de_int) da_nil)) (de_var 1 (fun _ => rfl) (fun _ => .inl rfl)))))) dss_nil)
  (dss_cons (ds_set F0 (fun _ => rfl) (fun _ => .inl rfl) (fun _ => by first | exact .inl rfl | exact .inr rfl) (de_ix (fun i => or_ix (F0.K i)) od_ix (de_ixO 0 F0 (fun _ => rfl) (fun _ => .inl rfl) de_int) (de_bin (fun _ => op_sub) od_sub (de_ixO 0 F0 (fun _ => rfl) (fun _ => .inl rfl) de_int) de_int)))
  (dss_cons (ds_putO 0 F0 (fun _ => rfl) (fun _ => .inl rfl) de_int (de_bin (fun _ => op_mod) od_mod (de_callTy (fun _ => call_int1) cd_int (fun _ => rfl) (fun _ => T.b_int) (by decide +kernel) (da_cons (de_bin (fun i => or_addG (F0.K i)) od_add (de_bin (fun i => or_addG (F0.K i)) od_add (de_bin (fun i => or_mul1 (F0.K i)) od_mul1 (de_ixO 0 F0 (fun _ => rfl) (fun _ => .inl rfl) de_int) de_int) (de_var 3 (fun _ => rfl) (fun _ => .inl rfl))) de_int) da_nil)) de_int))
  (dss_cons (ds_if (dt_cmp (fun _ => op_ge) od_ge (de_var 3 (fun _ => rfl) (fun _ => .inl rfl)) (de_bin (fun _ => op_pow) od_pow de_int de_int) (by first | exact nomark _ | with_unfolding_all rfl)) (dss_one (ds_putO 0 F0 (fun _ => rfl) (fun _ => .inl rfl) de_int (de_bin (fun _ => op_fdiv) od_div (de_var 3 (fun _ => rfl) (fun _ => .inl rfl)) (de_var 1 (fun _ => rfl) (fun _ => .inl rfl))))) dss_nil)
  (dss_one (ds_ret (de_bin (fun _ => op_mod) od_mod (de_callTy (fun _ => call_int1) cd_int (fun _ => rfl) (fun _ => T.b_int) (by decide +kernel) (da_cons (de_var 3 (fun _ => rfl) (fun _ => .inl rfl)) da_nil)) (de_var 1 (fun _ => rfl) (fun _ => .inl rfl)))))))))))⟩
def fb__law_pick : RS → Out := (sRet (eBin gIx (eVar 1) (eFnI 0 2 F__law_taken (aConsD (eCall gLen (aConsD (eVar 1) aNilD)) aNilD))))
def F__law_pick : List PyData → List PyData → Fi := fnI 2 2 fb__law_pick
abbrev st__law_pick : Stmt := topS 14
theorem sc__law_pick : FnScope ["_law_row", "_law_things"] ["_law_row", "_law_things"] (defScope st__law_pick) := ⟨rfl, rfl, rfl, by decide +kernel, rfl, by decide +kernel, by decide +kernel⟩
theorem ok__law_pick (T : Top P w mg base G) : HasF P w G.K mg base "_law_pick" 2 (spI G 2 F__law_pick) := by
  obtain ⟨f, fd, F, hm⟩ := (T.t__law_pick).ex
  obtain ⟨f__law_taken, fd__law_taken, ps__law_taken, m__law_taken, k__law_taken, b__law_taken, o__law_taken⟩ := (ok__law_taken T).ex
  exact ⟨f, fd, ["_law_row", "_law_things"], hm, F.kp, (F.binds (ps := ["_law_row", "_law_things"]) fun _ _ _ _ _ _ us hl => match us, hl with | [_, _], _ => rfl), fni_ok (k := 1) F sc__law_pick rfl (by decide) fun A outer s H E hr => by
    have F0 : Fam (Cf P w G.K mg base ["_law_row", "_law_things"] "_law_pick" st__law_pick f fd A outer s H E) G (WF E) 1 := fam_of sc__law_pick rfl hr
    exact (dss_one (ds_ret (de_ix (fun i => or_ix (F0.K i)) od_ix (de_var 1 (fun _ => rfl) (fun _ => .inl rfl)) (de_fnI F0 (fun _ => o__law_taken) (by decide) (fun _ => rfl) (fun _ => .inl rfl) (fun _ => rfl) (fun _ => m__law_taken) k__law_taken b__law_taken (da_cons (de_callB (fun i => cr_lenG (F0.K i)) cd_len (fun _ => rfl) (fun _ => T.b_len) (by decide +kernel) (da_cons (de_var 1 (fun _ => rfl) (fun _ => .inl rfl)) da_nil)) da_nil)))))⟩
def fb__law_alike (F__law_alike : List PyData → Fr) : RS → Out := (sThen (sIf (tT (eIsi (fun d => isTupD d || isLstD d) (eVar 1))) (sThen (sIf (tOrD (tNotD (tT (eIsi (fun d => isTupD d || isLstD d) (eVar 0)))) (tV (eBin gNe (eIsi isLstD (eVar 0)) (eIsi isLstD (eVar 1))))) (sRet (eC (.bool false))) sNil)
  (sThen (sIf (tV (eBin gNe (eCall gLen (aConsD (eVar 0) aNilD)) (eCall gLen (aConsD (eVar 1) aNilD)))) (sRet (eC (.bool false))) sNil)
  (sRet (eBin gEq (eLc (iRng rng1 (aConsD (eCall gLen (aConsD (eVar 1) aNilD)) aNilD)) (setD 2) (tNotD (tT (eFn 2 F__law_alike (aConsD (eBin gIx (eVar 0) (eVar 2)) (aConsD (eBin gIx (eVar 1) (eVar 2)) aNilD))))) (eVar 2) [2]) (eLstD aNilD))))) sNil)
  (sThen (sIf (tOrD (tV (eBin (gIsN false) (eVar 1) (eC .none))) (tT (eIsi isStrD (eVar 1)))) (sRet (eAndD (eBin gEq (eVar 0) (eVar 1)) (eBin gEq (eIsi isStrD (eVar 0)) (eIsi isStrD (eVar 1))))) sNil)
  (sRet (eAndD (eIsi isIntD (eVar 0)) (eAndD (eBin gEq (eIsi isBoolD (eVar 0)) (eIsi isBoolD (eVar 1))) (eBin gEq (eVar 0) (eVar 1)))))))
def F__law_alike : Nat → List PyData → Fr
  | 0 => fun _ => .no
  | n + 1 => fnD 2 3 (fb__law_alike (F__law_alike n))
abbrev st__law_alike : Stmt := topS 15
theorem sc__law_alike : FnScope ["_law_found", "_law_due", "_law_k"] ["_law_found", "_law_due"] (defScope st__law_alike) := ⟨rfl, rfl, rfl, by decide +kernel, rfl, by decide +kernel, by decide +kernel⟩
theorem okr__law_alike (T : Top P w mg base G) : ∀ n : Nat, HasF P w G.K mg base "_law_alike" (1 + n) (spD G 2 (F__law_alike n)) := by
  obtain ⟨f, fd, F, hm⟩ := (T.t__law_alike).ex
  have b__law_alike : Binds G.K fd ["_law_found", "_law_due"] [] := (F.binds (ps := ["_law_found", "_law_due"]) fun _ _ _ _ _ _ us hl => match us, hl with | [_, _], _ => rfl)
  intro n
  induction n with
  | zero => exact ⟨f, fd, ["_law_found", "_law_due"], hm, F.kp, b__law_alike, fn_none F sc__law_alike⟩
  | succ n ih =>
    obtain ⟨f__law_alike, fd__law_alike, ps__law_alike, m__law_alike, k__law_alike, b2__law_alike, o__law_alike⟩ := ih
    exact ⟨f, fd, ["_law_found", "_law_due"], hm, F.kp, b__law_alike, fn_ok (k := 1 + n) F sc__law_alike rfl (by decide) fun A outer s H E hr => by
      have F0 : Fam (Cf P w G.K mg base ["_law_found", "_law_due", "_law_k"] "_law_alike" st__law_alike f fd A outer s H E) G (WF E) (1 + n) := fam_of sc__law_alike rfl hr
      exact (dss_cons (ds_if (dt_truth F0 (de_isi2 F0 kb_tup kb_lst (fun _ => rfl) (fun _ => T.b_isinstance) (fun _ => rfl) (fun _ => T.b_tuple) (by decide +kernel) (fun _ => rfl) (fun _ => T.b_list) (by decide +kernel) (de_var 1 (fun _ => rfl) (fun _ => .inr (.inl (by kernel_rfl)))))) (dss_cons (ds_if (DW.dt (dw_or (dt_not (dt_truth F0 (de_isi2 F0 kb_tup kb_lst (fun _ => rfl) (fun _ => T.b_isinstance) (fun _ => rfl) (fun _ => T.b_tuple) (by decide +kernel) (fun _ => rfl) (fun _ => T.b_list) (by decide +kernel) (de_var 0 (fun _ => rfl) (fun _ => .inr (.inl (by kernel_rfl))))))) (dw_or1 (dt_cmp (fun i => or_neG (F0.K i) (F0.hu4 i)) od_ne (de_isi F0 kb_lst (fun _ => rfl) (fun _ => T.b_isinstance) (fun _ => rfl) (fun _ => T.b_list) (by decide +kernel) (de_var 0 (fun _ => rfl) (fun _ => .inr (.inl (by kernel_rfl))))) (de_isi F0 kb_lst (fun _ => rfl) (fun _ => T.b_isinstance) (fun _ => rfl) (fun _ => T.b_list) (by decide +kernel) (de_var 1 (fun _ => rfl) (fun _ => .inr (.inl (by kernel_rfl))))) (by first | exact nomark _ | with_unfolding_all rfl))))) (dss_one (ds_ret de_bl)) dss_nil)
  (dss_cons (ds_if (dt_cmp (fun i => or_neG (F0.K i) (F0.hu4 i)) od_ne (de_callB (fun i => cr_lenG (F0.K i)) cd_len (fun _ => rfl) (fun _ => T.b_len) (by decide +kernel) (da_cons (de_var 0 (fun _ => rfl) (fun _ => .inr (.inl (by kernel_rfl)))) da_nil)) (de_callB (fun i => cr_lenG (F0.K i)) cd_len (fun _ => rfl) (fun _ => T.b_len) (by decide +kernel) (da_cons (de_var 1 (fun _ => rfl) (fun _ => .inr (.inl (by kernel_rfl)))) da_nil)) (by first | exact nomark _ | with_unfolding_all rfl)) (dss_one (ds_ret de_bl)) dss_nil)
  (dss_one (ds_ret (de_cmp (fun i => or_eqG (F0.K i) (F0.hu4 i)) od_eq (de_lc (own := [("_law_k", 2)]) F0 (di_rng1 (fun _ => rfl) (fun _ => T.b_range) (da_cons (de_callB (fun i => cr_lenG (F0.K i)) cd_len (fun _ => rfl) (fun _ => T.b_len) (by decide +kernel) (da_cons (de_var 1 (fun _ => rfl) (fun _ => .inr (.inl (by kernel_rfl)))) da_nil)) da_nil)) (fun _ => blkOk_by (by kernel_rfl)) (dg_name (famB F0) (fun _ => rfl) (fun _ => .inl rfl) (fun _ => by first | exact .inl rfl | exact .inr rfl)) (by decide) (dts_one (dt_not (dt_truth (famB F0) (de_fn (famB F0) (fun _ => o__law_alike) (by omega) (fun _ => rfl) (fun _ => m__law_alike) k__law_alike b2__law_alike (da_cons (de_ix (fun i => or_ix ((famB F0).K i)) od_ix (de_var 0 (fun _ => rfl) (fun _ => .inr (.inl (by kernel_rfl)))) (de_var 2 (fun _ => rfl) (fun _ => .inl rfl))) (da_cons (de_ix (fun i => or_ix ((famB F0).K i)) od_ix (de_var 1 (fun _ => rfl) (fun _ => .inr (.inl (by kernel_rfl)))) (de_var 2 (fun _ => rfl) (fun _ => .inl rfl))) da_nil)))))) (de_var 2 (fun _ => rfl) (fun _ => .inl rfl))) (de_lst da_nil) (by first | exact nomark _ | with_unfolding_all rfl)))))) dss_nil)
  (dss_cons (ds_if (DW.dt (dw_or (dt_cmp (fun _ => op_isN) od_isN (de_var 1 (fun _ => rfl) (fun _ => .inr (.inl (by kernel_rfl)))) de_non (by first | exact nomark _ | with_unfolding_all rfl)) (dw_or1 (dt_truth F0 (de_isi F0 kb_str (fun _ => rfl) (fun _ => T.b_isinstance) (fun _ => rfl) (fun _ => T.b_str) (by decide +kernel) (de_var 1 (fun _ => rfl) (fun _ => .inr (.inl (by kernel_rfl))))))))) (dss_one (ds_ret (de_and (de_cmp (fun i => or_eqG (F0.K i) (F0.hu4 i)) od_eq (de_var 0 (fun _ => rfl) (fun _ => .inr (.inl (by kernel_rfl)))) (de_var 1 (fun _ => rfl) (fun _ => .inr (.inl (by kernel_rfl)))) (by first | exact nomark _ | with_unfolding_all rfl)) (de_one (de_cmp (fun i => or_eqG (F0.K i) (F0.hu4 i)) od_eq (de_isi F0 kb_str (fun _ => rfl) (fun _ => T.b_isinstance) (fun _ => rfl) (fun _ => T.b_str) (by decide +kernel) (de_var 0 (fun _ => rfl) (fun _ => .inr (.inl (by kernel_rfl))))) (de_isi F0 kb_str (fun _ => rfl) (fun _ => T.b_isinstance) (fun _ => rfl) (fun _ => T.b_str) (by decide +kernel) (de_var 1 (fun _ => rfl) (fun _ => .inr (.inl (by kernel_rfl))))) (by first | exact nomark _ | with_unfolding_all rfl)))))) dss_nil)
  (dss_one (ds_ret (de_and (de_isi F0 kb_int (fun _ => rfl) (fun _ => T.b_isinstance) (fun _ => rfl) (fun _ => T.b_int) (by decide +kernel) (de_var 0 (fun _ => rfl) (fun _ => .inr (.inl (by kernel_rfl))))) (de_and (de_cmp (fun i => or_eqG (F0.K i) (F0.hu4 i)) od_eq (de_isi F0 kb_bool (fun _ => rfl) (fun _ => T.b_isinstance) (fun _ => rfl) (fun _ => T.b_bool) (by decide +kernel) (de_var 0 (fun _ => rfl) (fun _ => .inr (.inl (by kernel_rfl))))) (de_isi F0 kb_bool (fun _ => rfl) (fun _ => T.b_isinstance) (fun _ => rfl) (fun _ => T.b_bool) (by decide +kernel) (de_var 1 (fun _ => rfl) (fun _ => .inr (.inl (by kernel_rfl))))) (by first | exact nomark _ | with_unfolding_all rfl)) (de_one (de_cmp (fun i => or_eqG (F0.K i) (F0.hu4 i)) od_eq (de_var 0 (fun _ => rfl) (fun _ => .inr (.inl (by kernel_rfl)))) (de_var 1 (fun _ => rfl) (fun _ => .inr (.inl (by kernel_rfl)))) (by first | exact nomark _ | with_unfolding_all rfl)))))))))⟩
theorem ok__law_alike (T : Top P w mg base G) : HasF P w G.K mg base "_law_alike" 7 (spD G 2 (F__law_alike 6)) := okr__law_alike T 6
def fb__law_web : RS → Out := (sThen (sAsg (eBin gAdd (eC (.int 2)) (eFnI 0 2 F__law_taken (aConsD (eBin gSub (eVar 1) (eC (.int 1))) aNilD))) (setD 2))
  (sThen (sAsg (eLc (iRng rng2 (aConsD (eC (.int 1)) (aConsD (eVar 2) aNilD))) (setD 4) (tV (eBin gEq (eFnI 0 2 F__law_taken (aConsD (eC (.int 2)) aNilD)) (eC (.int 0)))) (eVar 4) [4]) (setD 3))
  (sThen (sIf (tV (eBin gEq (eFnI 0 2 F__law_taken (aConsD (eC (.int 3)) aNilD)) (eC (.int 0)))) (sAsg (eLc (iRng rng2 (aConsD (eC (.int 1)) (aConsD (eVar 2) aNilD))) (setD 4) (tOrD (tV (eBin (gInH false) (eVar 4) (eVar 3))) (tV (eBin (gInH false) (eBin gSub (eVar 2) (eVar 4)) (eVar 3)))) (eVar 4) [4]) (setD 3)) sNil)
  (sRet (eTupD (aConsD (eVar 2) (aConsD (eCall gTupOf (aConsD (eVar 3) aNilD)) aNilD)))))))
def F__law_web : List PyData → List PyData → Fi := fnI 2 5 fb__law_web
abbrev st__law_web : Stmt := topS 16
theorem sc__law_web : FnScope ["_law_row", "_law_most", "_law_halls", "_law_steps", "_law_step"] ["_law_row", "_law_most"] (defScope st__law_web) := ⟨rfl, rfl, rfl, by decide +kernel, rfl, by decide +kernel, by decide +kernel⟩
theorem ok__law_web (T : Top P w mg base G) : HasF P w G.K mg base "_law_web" 2 (spI G 2 F__law_web) := by
  obtain ⟨f, fd, F, hm⟩ := (T.t__law_web).ex
  obtain ⟨f__law_taken, fd__law_taken, ps__law_taken, m__law_taken, k__law_taken, b__law_taken, o__law_taken⟩ := (ok__law_taken T).ex
  exact ⟨f, fd, ["_law_row", "_law_most"], hm, F.kp, (F.binds (ps := ["_law_row", "_law_most"]) fun _ _ _ _ _ _ us hl => match us, hl with | [_, _], _ => rfl), fni_ok (k := 1) F sc__law_web rfl (by decide) fun A outer s H E hr => by
    have F0 : Fam (Cf P w G.K mg base ["_law_row", "_law_most", "_law_halls", "_law_steps", "_law_step"] "_law_web" st__law_web f fd A outer s H E) G (WF E) 1 := fam_of sc__law_web rfl hr
    exact (dss_cons (ds_set F0 (fun _ => rfl) (fun _ => .inr rfl) (fun _ => by first | exact .inl rfl | exact .inr rfl) (de_bin (fun i => or_addG (F0.K i)) od_add de_int (de_fnI F0 (fun _ => o__law_taken) (by decide) (fun _ => rfl) (fun _ => .inr (.inl (by kernel_rfl))) (fun _ => rfl) (fun _ => m__law_taken) k__law_taken b__law_taken (da_cons (de_bin (fun _ => op_sub) od_sub (de_var 1 (fun _ => rfl) (fun _ => .inl rfl)) de_int) da_nil))))
  (dss_cons (ds_set F0 (fun _ => rfl) (fun _ => .inr rfl) (fun _ => by first | exact .inl rfl | exact .inr rfl) (de_lc (own := [("_law_step", 4)]) F0 (di_rng2 (fun _ => rfl) (fun _ => T.b_range) (da_cons de_int (da_cons (de_var 2 (fun _ => rfl) (fun _ => .inr (.inl (by kernel_rfl)))) da_nil))) (fun _ => blkOk_by (by kernel_rfl)) (dg_name (famB F0) (fun _ => rfl) (fun _ => .inl rfl) (fun _ => by first | exact .inl rfl | exact .inr rfl)) (by decide) (dts_one (dt_cmp (fun i => or_eqG ((famB F0).K i) ((famB F0).hu4 i)) od_eq (de_fnI (famB F0) (fun _ => o__law_taken) (by decide) (fun _ => rfl) (fun _ => .inr (.inl (by kernel_rfl))) (fun _ => rfl) (fun _ => m__law_taken) k__law_taken b__law_taken (da_cons de_int da_nil)) de_int (by first | exact nomark _ | with_unfolding_all rfl))) (de_var 4 (fun _ => rfl) (fun _ => .inl rfl))))
  (dss_cons (ds_if (dt_cmp (fun i => or_eqG (F0.K i) (F0.hu4 i)) od_eq (de_fnI F0 (fun _ => o__law_taken) (by decide) (fun _ => rfl) (fun _ => .inr (.inl (by kernel_rfl))) (fun _ => rfl) (fun _ => m__law_taken) k__law_taken b__law_taken (da_cons de_int da_nil)) de_int (by first | exact nomark _ | with_unfolding_all rfl)) (dss_one (ds_set F0 (fun _ => rfl) (fun _ => .inr rfl) (fun _ => by first | exact .inl rfl | exact .inr rfl) (de_lc (own := [("_law_step", 4)]) F0 (di_rng2 (fun _ => rfl) (fun _ => T.b_range) (da_cons de_int (da_cons (de_var 2 (fun _ => rfl) (fun _ => .inr (.inl (by kernel_rfl)))) da_nil))) (fun _ => blkOk_by (by kernel_rfl)) (dg_name (famB F0) (fun _ => rfl) (fun _ => .inl rfl) (fun _ => by first | exact .inl rfl | exact .inr rfl)) (by decide) (dts_one (DW.dt (dw_or (dt_cmp (or_inH (famB F0)) od_inH (de_var 4 (fun _ => rfl) (fun _ => .inl rfl)) (de_var 3 (fun _ => rfl) (fun _ => .inr (.inl (by kernel_rfl)))) (by first | exact nomark _ | with_unfolding_all rfl)) (dw_or1 (dt_cmp (or_inH (famB F0)) od_inH (de_bin (fun _ => op_sub) od_sub (de_var 2 (fun _ => rfl) (fun _ => .inr (.inl (by kernel_rfl)))) (de_var 4 (fun _ => rfl) (fun _ => .inl rfl))) (de_var 3 (fun _ => rfl) (fun _ => .inr (.inl (by kernel_rfl)))) (by first | exact nomark _ | with_unfolding_all rfl)))))) (de_var 4 (fun _ => rfl) (fun _ => .inl rfl))))) dss_nil)
  (dss_one (ds_ret (de_tup (da_cons (de_var 2 (fun _ => rfl) (fun _ => .inr (.inl (by kernel_rfl)))) (da_cons (de_callTy (fun i => cr_tupOf (F0.K i)) cd_tupOf (fun _ => rfl) (fun _ => T.b_tuple) (by decide +kernel) (da_cons (de_var 3 (fun _ => rfl) (fun _ => .inr (.inl (by kernel_rfl)))) da_nil)) da_nil))))))))⟩
theorem sc_w0 : FnScope ["self", "web"] ["self", "web"] (defScope (whS 0)) := ⟨rfl, rfl, rfl, by decide +kernel, rfl, by decide +kernel, by decide +kernel⟩
theorem sc_w1 : FnScope ["self", "step"] ["self", "step"] (defScope (whS 1)) := ⟨rfl, rfl, rfl, by decide +kernel, rfl, by decide +kernel, by decide +kernel⟩
theorem sc_w2 : FnScope ["self"] ["self"] (defScope (whS 2)) := ⟨rfl, rfl, rfl, by decide +kernel, rfl, by decide +kernel, by decide +kernel⟩
theorem sc_w3 : FnScope ["self"] ["self"] (defScope (whS 3)) := ⟨rfl, rfl, rfl, by decide +kernel, rfl, by decide +kernel, by decide +kernel⟩
theorem sc_w4 : FnScope ["self"] ["self"] (defScope (whS 4)) := ⟨rfl, rfl, rfl, by decide +kernel, rfl, by decide +kernel, by decide +kernel⟩
theorem sc_w5 : FnScope ["self"] ["self"] (defScope (whS 5)) := ⟨rfl, rfl, rfl, by decide +kernel, rfl, by decide +kernel, by decide +kernel⟩
theorem w_undo (T : Top P w mg base G) {C f : Addr} {fd : FuncData} (F : Fun G.K "undo" "Wheel.undo" (whS 2) f fd) (WK : WhK G.K C) : FnOk P w G.K mg base (L2.CX P w) 2 f fd ["self"] (spUndo G.K C (G.ec "NoStep")) := by
  refine fun_okC (k := 1) F sc_w2 (fun vs H Q E h => by obtain ⟨w, s, rfl, _⟩ := h; rfl) fun A outer s0 H vs Q E hr hsp => ?_
  obtain ⟨wv, s, rfl, o, hy, h⟩ := hsp
  have F0 : Fam (Cf P w G.K mg base ["self"] "Wheel.undo" (whS 2) f fd A outer s0 H E) { G with ts := [] } (WF E) 1 := fam_of sc_w2 rfl hr
  refine ⟨_, pss_cons (ps_if (pt_not (pt_truth (pe_fld (pe_var (i := 0) rfl (.inl rfl)) rfl) (fun _ => rfl))) (pss_one (ps_raise (F0.calm ()) (F0.takes ()) (pmk_own0 PySem.F.excBase_ValueError T.e_NoStep.exc T.e_NoStep.gl T.e_NoStep.keep (raises_own T.e_NoStep.sub T.e_NoStep.ty) rfl))) pss_nil)
    (pss_cons (ps_expr (pe_bm0 PySem.F.plainAttrs_list PySem.F.slot_list_pop PySem.F.type_list_pop mt_pop (pe_fld (pe_var (i := 0) rfl (.inl rfl)) rfl) rfl rfl) rfl)
    (pss_one (ps_expr (pe_bm0 PySem.F.plainAttrs_list PySem.F.slot_list_pop PySem.F.type_list_pop mt_pop (pe_fld (pe_var (i := 0) rfl (.inl rfl)) rfl) rfl rfl) rfl))), ?_⟩
  refine ⟨.ref wv.a, rfl, wv.a, C, wv.dx, fsW wv, .ref wv.b, rfl, o.ins, WK.cls, WK.n_steps, rfl, !(s.xs.map V.int).isEmpty, .inl ⟨_, .inl (.inl o.hb), rfl⟩, ?_⟩
  cases hx : s.xs with
  | nil =>
    rw [hx] at h
    exact h
  | cons z zs =>
    rw [hx] at h
    have e1 : Ext [wv.b] H (upd H wv.b (.lst ((s.xs.map V.int).dropLast))) := ext_put o.hb (List.mem_singleton.mpr rfl)
    have hc1 : (upd H wv.b (.lst ((s.xs.map V.int).dropLast))) wv.c = some (.lst (s.ys.map V.int)) := by rw [upd_ne (Ne.symm o.ne)]; exact o.hc
    have ha1 : (upd H wv.b (.lst ((s.xs.map V.int).dropLast))) wv.a = some (.ins C wv.dx (fsW wv)) := e1.keep _ _ o.ins (by intro ps z; cases z) (.inr (by intro xs z; cases z))
    have last : ∀ ns : List Int, ns ≠ [] → ∃ y, (ns.map V.int)[(ns.map V.int).length - 1]? = some y := fun ns hn => by
      have hl : (ns.map V.int).length - 1 < (ns.map V.int).length := by
        have := List.length_pos_iff.mpr hn
        rw [List.length_map]; omega
      exact ⟨_, List.getElem?_eq_getElem hl⟩
    obtain ⟨y1, h1⟩ := last s.xs (by rw [hx]; simp)
    obtain ⟨y2, h2⟩ := last s.ys hy
    refine ite_ff ?_
    refine ⟨.ref wv.a, rfl, wv.a, C, wv.dx, fsW wv, .ref wv.b, rfl, o.ins, WK.cls, WK.n_steps, rfl, .inl ⟨rfl, _, .inl (.inl o.hb)⟩, wv.b, _, y1, rfl, rfl, o.hb, h1, ?_⟩
    refine ⟨.ref wv.a, rfl, wv.a, C, wv.dx, fsW wv, .ref wv.c, rfl, ha1, WK.cls, WK.n_path, rfl, .inl ⟨rfl, _, .inl (.inl hc1)⟩, wv.c, _, y2, rfl, rfl, hc1, h2, ?_⟩
    have em : ∀ ns : List Int, (ns.map V.int).dropLast = ns.dropLast.map V.int := fun ns => (List.map_dropLast ..).symm
    rw [em, em, hx]
    exact h
theorem w_tup {C f : Addr} {fd : FuncData} (F : Fun G.K "steps" "Wheel.steps" (whS 3) f fd) (T : Top P w mg base G) (WK : WhK G.K C) : FnOk P w G.K mg base CX0 1 f fd ["self"] (spTup G.K C WSt.xs) := by
  refine F.ok sc_w3 (fun vs H Q E h => by obtain ⟨w, s, rfl, _⟩ := h; rfl) fun cdv A outer s0 H vs Q E hr hsp => ?_
  obtain ⟨wv, s, rfl, o, h⟩ := hsp
  refine ⟨_, pss_one (ps_ret (pe_callTy (cr_tupOf (G := G) rfl) rfl T.b_tuple (by decide +kernel) (pa_cons (pe_fld (pe_var (i := 0) rfl (.inl rfl)) rfl) pa_nil rfl) (by decide) (by decide) rfl rfl)), ?_⟩
  exact ⟨.ref wv.a, rfl, wv.a, C, wv.dx, fsW wv, .ref wv.b, rfl, o.ins, WK.cls, WK.n_steps, rfl, wv.b, _, rfl, .inl ⟨.inl (.inl o.hb), h⟩⟩
theorem w_tup2 {C f : Addr} {fd : FuncData} (F : Fun G.K "path" "Wheel.path" (whS 4) f fd) (T : Top P w mg base G) (WK : WhK G.K C) : FnOk P w G.K mg base CX0 1 f fd ["self"] (spTup G.K C WSt.ys) := by
  refine F.ok sc_w4 (fun vs H Q E h => by obtain ⟨w, s, rfl, _⟩ := h; rfl) fun cdv A outer s0 H vs Q E hr hsp => ?_
  obtain ⟨wv, s, rfl, o, h⟩ := hsp
  refine ⟨_, pss_one (ps_ret (pe_callTy (cr_tupOf (G := G) rfl) rfl T.b_tuple (by decide +kernel) (pa_cons (pe_fld (pe_var (i := 0) rfl (.inl rfl)) rfl) pa_nil rfl) (by decide) (by decide) rfl rfl)), ?_⟩
  exact ⟨.ref wv.a, rfl, wv.a, C, wv.dx, fsW wv, .ref wv.c, rfl, o.ins, WK.cls, WK.n_path, rfl, wv.c, _, rfl, .inl ⟨.inl (.inl o.hc), h⟩⟩
theorem last_at {ns : List Int} {l : Int} (h : ns.getLast? = some l) : atI (ns.map V.int) (-1) = some (.int l) := by
  have hn : ns ≠ [] := fun z => by rw [z] at h; cases h
  have hp := List.length_pos_iff.mpr hn
  have e2 : (-1 : Int) + (ns.length : Int) = ((ns.length - 1 : Nat) : Int) := by omega
  rw [List.getLast?_eq_getElem?] at h
  have e3 : ixN (ns.map V.int).length (-1) = some (ns.length - 1) := by
    unfold ixN
    rw [List.length_map, if_neg (by omega), if_pos (by omega), e2]
    rfl
  unfold atI
  rw [e3]
  show (ns.map V.int)[ns.length - 1]? = _
  rw [List.getElem?_map, h]
  rfl
theorem w_hall {C f : Addr} {fd : FuncData} (F : Fun G.K "hall" "Wheel.hall" (whS 5) f fd) (T : Top P w mg base G) (WK : WhK G.K C) : FnOk P w G.K mg base CX0 1 f fd ["self"] (spHall G.K C) := by
  refine F.ok sc_w5 (fun vs H Q E h => by obtain ⟨w, s, l, rfl, _⟩ := h; rfl) fun cdv A outer s0 H vs Q E hr hsp => ?_
  obtain ⟨wv, s, l, rfl, o, hl, h⟩ := hsp
  refine ⟨_, pss_one (ps_ret (pe_ix ix_list (pe_fld (pe_var (i := 0) rfl (.inl rfl)) rfl) (pe_un un_neg pe_int) fun _ _ => rfl)), ?_⟩
  exact ⟨.ref wv.a, rfl, wv.a, C, wv.dx, fsW wv, .ref wv.c, rfl, o.ins, WK.cls, WK.n_path, rfl, _, rfl, _, _, _, _, rfl, rfl, .inl (.inl o.hc), last_at hl, h⟩

theorem goodD_ok {d : PyData} {ss : List Int} {n : Int} (h : goodD d ss = some n) : d = .int n := by
  cases d with
  | int m =>
    have h : (if m ∈ ss then some m else none) = some n := h
    by_cases hm : m ∈ ss
    · rw [if_pos hm] at h; cases h; rfl
    · rw [if_neg hm] at h; cases h
  | _ => cases h
theorem w_go (T : Top P w mg base G) {C f : Addr} {fd : FuncData} (F : Fun G.K "go" "Wheel.go" (whS 1) f fd) (WK : WhK G.K C) : FnOk P w G.K mg base (L2.CX P w) 2 f fd ["self", "step"] (spGo G.K C (G.ec "BadStep")) := by
  refine fun_okC (k := 1) F sc_w1 (fun vs H Q E h => by obtain ⟨w, s, d, rfl, _⟩ := h; rfl) fun A outer s0 H vs Q E hr hsp => ?_
  obtain ⟨wv, s, d, rfl, fl, o, hpos, lx, ly, l, hl, h⟩ := hsp
  have F0 : Fam (Cf P w G.K mg base ["self", "step"] "Wheel.go" (whS 1) f fd A outer s0 H E) { G with ts := [] } (WF E) 1 := fam_of sc_w1 rfl hr
  have v1 : (L2.start ["self", "step"] [V.ref wv.a, fv d])[1]? = some (some (fv d)) := rfl
  have rd : ∀ H', Rep G.K [] H' (fv d) d := fun H' => by
    cases d <;> first | exact .non | exact .bl _ | exact .int _ | exact .str _ | (simp [flatD] at fl)
  refine ⟨_, pss_cons (ps_if (PW.pt (pw_or (pt_val (pe_callB (call_isi (X := Cf P w G.K mg base ["self", "step"] "Wheel.go" (whS 1) f fd A outer s0 H E ())) rfl T.b_isinstance (by decide +kernel) (pa_cons (pe_var (i := 1) rfl (.inl rfl)) (pa_cons (pe_bltn rfl T.b_bool (by decide +kernel) (v := .ty "bool") rfl (by decide) (by decide)) pa_nil rfl) rfl) (by decide) (by decide) rfl rfl) (fun _ => rfl))
      (pw_or (pt_not (pt_val (pe_callB (call_isi (X := Cf P w G.K mg base ["self", "step"] "Wheel.go" (whS 1) f fd A outer s0 H E ())) rfl T.b_isinstance (by decide +kernel) (pa_cons (pe_var (i := 1) rfl (.inl rfl)) (pa_cons (pe_bltn rfl T.b_int (by decide +kernel) (v := .ty "int") rfl (by decide) (by decide)) pa_nil rfl) rfl) (by decide) (by decide) rfl rfl) (fun _ => rfl)))
        (pw_or1 (pt_cmpR op_notIn_seq (pe_var (i := 1) rfl (.inl rfl)) (pe_ix ix_tup (pe_fld (pe_var (i := 0) rfl (.inl rfl)) rfl) pe_int fun _ _ => rfl) (by first | exact nomark _ | with_unfolding_all rfl))))))
      (pss_one (ps_raise (F0.calm ()) (F0.takes ()) (pmk_own0 PySem.F.excBase_ValueError T.e_BadStep.exc T.e_BadStep.gl T.e_BadStep.keep (raises_own T.e_BadStep.sub T.e_BadStep.ty) rfl))) pss_nil)
    (pss_cons (ps_expr (pe_bm PySem.F.plainAttrs_list PySem.F.slot_list_append PySem.F.type_list_append mt_append (pe_fld (pe_var (i := 0) rfl (.inl rfl)) rfl) (pa_cons (pe_var (i := 1) rfl (.inl rfl)) pa_nil rfl) rfl rfl rfl rfl rfl) rfl)
    (pss_one (ps_expr (pe_bm PySem.F.plainAttrs_list PySem.F.slot_list_append PySem.F.type_list_append mt_append (pe_fld (pe_var (i := 0) rfl (.inl rfl)) rfl) (pa_cons (pe_op op_mod (pe_op op_add (pe_ix ix_list (pe_fld (pe_var (i := 0) rfl (.inl rfl)) rfl) (pe_un un_neg pe_int) fun _ _ => rfl) (pe_var (i := 1) rfl (.inl rfl))) (pe_ix ix_tup (pe_fld (pe_var (i := 0) rfl (.inl rfl)) rfl) pe_int fun _ _ => rfl)) pa_nil rfl) rfl rfl rfl rfl rfl) rfl))), ?_⟩
  refine ⟨_, v1, fv d, .ty "bool", _, _, isBoolD d, rfl, .ty "bool", tyX_of (G := G) (rd H), kit_ty (kb_bool d), _, rfl, ?_⟩
  have second : isBoolD d = false → ∀ Q' : Bool → Hp → Prop, Q' (!(goodD d s.ss).isSome) H → (tOr (tNot (tB (tCB (rIsi G.K) (tCons (tVar 1) (tCons (tC (.ty "int")) tNil))))) (tTest (tOp (rIn G.K true) (tVar 1) (tOp (rIxT G.K) (tFld G.K (tVar 0) "_web") (tC (.int 1)))))) (L2.start ["self", "step"] [V.ref wv.a, fv d]) H Q' := fun hb Q' k => by
    refine ⟨_, v1, fv d, .ty "int", _, _, isIntD d, rfl, .ty "int", tyX_of (G := G) (rd H), kit_ty (kb_int d), _, rfl, ?_⟩
    cases d with
    | int n =>
      refine ite_ff ?_
      refine ⟨_, v1, .ref wv.a, rfl, wv.a, C, wv.dx, fsW wv, .ref wv.q, rfl, o.ins, WK.cls, WK.n_web, rfl, wv.q, _, 1, .ref wv.r, rfl, rfl, o.wq, rfl, wv.r, _, rfl, .inr o.wr, rfl, ?_, _, rfl, ?_⟩
      · rw [List.all_map]
        exact List.all_eq_true.mpr fun _ _ => rfl
      · have e : inV (.int n) (s.ss.map V.int) = decide (n ∈ s.ss) := by
          unfold inV
          rw [List.any_map]
          by_cases hm : n ∈ s.ss
          · rw [decide_eq_true hm]
            exact List.any_eq_true.mpr ⟨n, hm, by show (n == n) = true; simp⟩
          · rw [decide_eq_false hm]
            refine List.any_eq_false.mpr fun y hy => ?_
            show ¬ (y == n) = true
            simp only [beq_iff_eq]
            exact fun z => hm (z ▸ hy)
        have e2 : (if true = true then !inV (.int n) (s.ss.map V.int) else inV (.int n) (s.ss.map V.int)) = !(goodD (.int n) s.ss).isSome := by
          rw [if_pos rfl, e]
          unfold goodD
          by_cases hm : n ∈ s.ss
          · simp [hm]
          · simp [hm]
        rw [← e2] at k
        exact k
    | bool b => cases hb
    | none => exact ite_tt k
    | str x => exact ite_tt k
    | _ => cases fl
  cases hb : isBoolD d with
  | true =>
    refine ite_tt (ite_tt ?_)
    cases d with
    | bool b => exact h
    | _ => cases hb
  | false =>
    refine ite_ff (second hb _ ?_)
    cases hg : goodD d s.ss with
    | none =>
      rw [hg] at h
      exact ite_tt h
    | some n =>
      rw [hg] at h
      refine ite_ff ?_
      have hd : d = .int n := goodD_ok hg
      subst hd
      have e1 : Ext [wv.b] H (upd H wv.b (.lst (s.xs.map V.int ++ [.int n]))) := ext_put o.hb (List.mem_singleton.mpr rfl)
      have hc1 : (upd H wv.b (.lst (s.xs.map V.int ++ [.int n]))) wv.c = some (.lst (s.ys.map V.int)) := by rw [upd_ne (Ne.symm o.ne)]; exact o.hc
      have ha1 : (upd H wv.b (.lst (s.xs.map V.int ++ [.int n]))) wv.a = some (.ins C wv.dx (fsW wv)) := e1.keep _ _ o.ins (by intro ps z; cases z) (.inr (by intro xs z; cases z))
      have wq1 := SqT.ext o.wq e1
      have sz : ∀ ns : List Int, ns.length < 1000 → (ns.map V.int).length < sizeLine := fun ns hn => by rw [List.length_map, sizeLine_eq]; omega
      refine ⟨.ref wv.a, rfl, wv.a, C, wv.dx, fsW wv, .ref wv.b, rfl, o.ins, WK.cls, WK.n_steps, rfl, .inl ⟨rfl, _, .inl (.inl o.hb)⟩, _, v1, wv.b, _, .int n, rfl, rfl, o.hb, sz _ lx, ?_⟩
      refine ⟨.ref wv.a, rfl, wv.a, C, wv.dx, fsW wv, .ref wv.c, rfl, ha1, WK.cls, WK.n_path, rfl, .inl ⟨rfl, _, .inl (.inl hc1)⟩, ?_⟩
      refine ⟨.ref wv.a, rfl, wv.a, C, wv.dx, fsW wv, .ref wv.c, rfl, ha1, WK.cls, WK.n_path, rfl, 1, rfl, wv.c, _, -1, .int l, rfl, rfl, .inl (.inl hc1), last_at hl, _, v1, l, n, rfl, rfl, ?_⟩
      refine ⟨.ref wv.a, rfl, wv.a, C, wv.dx, fsW wv, .ref wv.q, rfl, ha1, WK.cls, WK.n_web, rfl, wv.q, _, 0, .int s.h, rfl, rfl, wq1, rfl, l + n, s.h, rfl, rfl, hpos, ?_⟩
      refine ⟨wv.c, _, _, rfl, rfl, hc1, sz _ ly, ?_⟩
      have e5 : ∀ (ns : List Int) (m : Int), ns.map V.int ++ [V.int m] = (ns ++ [m]).map V.int := fun ns m => by rw [List.map_append]; rfl
      rw [e5, e5]
      exact h
theorem ext_newer {O : List Addr} {H H' : Hp} {a : Addr} {u : HO} (e : Ext O H H') (h : H a = none) : Ext O H (upd H' a u) := by
  refine ⟨fun x w e1 e2 e3 => ?_, fun P t => ?_, fun x z => ?_⟩
  · rw [upd_ne (ne_of_none e1 h)]
    exact e.keep x w e1 e2 e3
  · obtain ⟨ps0, q0, _⟩ := id t
    obtain ⟨ps, q, r⟩ := e.tab P t
    exact ⟨ps, by rw [upd_ne (ne_of_none q0 h)]; exact q, r⟩
  · by_cases hx : x = a
    · rw [hx]; exact h
    · rw [upd_ne hx] at z
      exact e.dom x z
def exprOf (s : Stmt) : Expr := match s with
  | .Expr e _ => e
  | _ => .Constant .none 0 ⟨0, 0, 0, 0⟩
theorem w_init (T : Top P w mg base G) {C f : Addr} {fd : FuncData} (F : Fun G.K "__init__" "Wheel.__init__" (whS 0) f fd) (WK : WhK G.K C) : FnOk P w G.K mg base (L2.CX P w) (4 + 1) f fd ["self", "web"] (spInit G C F_need_web) := by
  obtain ⟨f_nw, fd_nw, ps_nw, m_nw, k_nw, b_nw, o_nw⟩ := (ok_need_web T).ex
  refine fun_okC (k := 4) F sc_w0 (fun vs H Q E h => by obtain ⟨a, dx, v, H1, Fg, d, rfl, _⟩ := h; rfl) fun A outer s0 H vs Q E hr hsp => ?_
  obtain ⟨a, dx, v, H1, Fg, d, rfl, rfl, ha, hdx, hne, rv, tabs, all, h⟩ := hsp
  have F0 : Fam (Cf P w G.K mg base ["self", "web"] "Wheel.__init__" (whS 0) f fd A outer s0 (upd (upd H1 dx (.own a)) a (.ins C dx [])) E) G (WF E) 4 := fam_of sc_w0 rfl hr
  have D1 : DE (Cf P w G.K mg base ["self", "web"] "Wheel.__init__" (whS 0) f fd A outer s0 (upd (upd H1 dx (.own a)) a (.ins C dx [])) E) G (WF E) (exprOf ((defBody (whS 0)).getD 0 (.Pass ⟨0, 0, 0, 0⟩))) (eFn 1 F_need_web (aConsD (eVar 1) aNilD)) :=
    de_fn F0 (fun _ => o_nw) (by decide) (fun _ => rfl) (fun _ => m_nw) k_nw b_nw (da_cons (de_var 1 (fun _ => rfl) (fun _ => .inl rfl)) da_nil)
  obtain ⟨t1, p1, l1⟩ := D1
  refine ⟨_, pss_cons (ps_expr (p1 ()) rfl) (pss_cons (ps_fld (pe_var (i := 0) rfl (.inl rfl)) (pe_var (i := 1) rfl (.inl rfl)) rfl) (pss_cons (ps_fld (pe_var (i := 0) rfl (.inl rfl)) (pe_lst pa_nil) rfl) (pss_one (ps_fld (pe_var (i := 0) rfl (.inl rfl)) (pe_lst (pa_cons pe_int pa_nil rfl)) rfl)))), ?_⟩
  have e0 : Ext [] H1 (upd (upd H1 dx (.own a)) a (.ins C dx [])) := ext_newer (ext_newer .refl hdx) ha
  have r0 : R G Fg [] [Sl.a a, Sl.d d] (L2.start ["self", "web"] [V.ref a, v]) (upd (upd H1 dx (.own a)) a (.ins C dx [])) := by
    refine ⟨rfl, fun i x q => ?_, fun i xs q => ?_, fun _ _ _ m => (by cases m), fun _ _ _ m => (by cases m), fun _ m => (by cases m), fun _ _ m => (by cases m), fun P hP => e0.tab P (tabs P hP), fun b m => ?_, fun i p q => ?_⟩
    · rcases i with _ | _ | i
      · cases q
      · cases q; exact ⟨v, rfl, rv.ext (O := []) (by simp) e0 fun _ m => .inl m⟩
      · simp at q
    · rcases i with _ | _ | i
      · cases q
      · cases q
      · simp at q
    · obtain ⟨zs, z⟩ := all b m
      exact ⟨zs, e0.keep _ _ z (by intro ps z; cases z) (.inl (by simp))⟩
    · rcases i with _ | _ | i
      · cases q; rfl
      · cases q
      · simp at q
  have eb : eFn 1 F_need_web (aConsD (eVar 1) aNilD) [Sl.a a, Sl.d d] = (match F_need_web [d] with | .ok r => .ok r [Sl.a a, Sl.d d] | .ex c f => .ex c f [Sl.a a, Sl.d d] | .no => .no) := by
    cases hf : F_need_web [d] <;> simp [eFn, aConsD, aNilD, eVar, Rs.bind, frRs, hf]
  refine l1 Fg [] [Sl.a a, Sl.d d] _ _ _ r0 ?_
  rw [eb]
  cases hf : F_need_web [d] with
  | no => rw [hf] at h; exact h.elim
  | ex c fs =>
    rw [hf] at h
    exact fun dd H' ev r' x => h dd H' (e0.trans' ev) x
  | ok _ =>
    rw [hf] at h
    intro H2 ev r' _ _
    have e2 : Ext [] H1 H2 := e0.trans' ev
    have ia : H2 a = some (.ins C dx []) := ev.keep _ _ (by rw [upd_same]) (by intro ps z; cases z) (.inl (by simp [adr]))
    refine ⟨v, rfl, .ref a, rfl, a, C, dx, [], rfl, ia, WK.cls, WK.n_web, by decide, ?_⟩
    have e3 : Ext [] H1 (upd H2 a (.ins C dx [("_web", v)])) := ext_newer e2 ha
    refine ⟨by decide, fun b nb => ?_⟩
    have nb : upd H2 a (.ins C dx [("_web", v)]) b = none := nb
    have nab : a ≠ b := fun z => by rw [← z, upd_same] at nb; cases nb
    have nb1 : H1 b = none := e3.dom b nb
    have e4 := ext_newer (u := .lst []) e3 nb1
    have e5 := ext_newer (u := .ins C dx [("_web", v), ("_steps", .ref b)]) e4 ha
    refine ⟨.ref a, rfl, a, C, dx, [("_web", v)], rfl, by rw [upd_ne nab]; exact upd_same, WK.cls, WK.n_steps, by show 1 < 1000; decide, ?_⟩
    refine ⟨by decide, fun c nc => ?_⟩
    have nc : upd (upd (upd H2 a (.ins C dx [("_web", v)])) b (.lst [])) a (.ins C dx [("_web", v), ("_steps", .ref b)]) c = none := nc
    have nac : a ≠ c := fun z => by rw [← z, upd_same] at nc; cases nc
    have nbc : b ≠ c := fun z => by rw [← z, upd_ne (Ne.symm nab), upd_same] at nc; cases nc
    have nc1 : H1 c = none := e5.dom c nc
    have e6 := ext_newer (u := .lst [.int 0]) e5 nc1
    have e7 := ext_newer (u := .ins C dx [("_web", v), ("_steps", .ref b), ("_path", .ref c)]) e6 ha
    refine ⟨.ref a, rfl, a, C, dx, [("_web", v), ("_steps", .ref b)], rfl, by rw [upd_ne nac]; exact upd_same, WK.cls, WK.n_path, by show 2 < 1000; decide, ?_⟩
    refine h _ b c v e7 nb1 nc1 nbc upd_same ?_ ?_ (rv.ext (O := []) (by simp) e7 fun _ m => .inl m)
    · rw [upd_ne (Ne.symm nab), upd_ne nbc, upd_ne (Ne.symm nab), upd_same]
    · rw [upd_ne (Ne.symm nac), upd_same]
theorem wh_ok (T : Top P w mg base G) : ∃ C, WhC P w G.K mg base G (4 + 1) C (G.ec "BadStep") (G.ec "NoStep") F_need_web := by
  obtain ⟨C, hC, WK⟩ := T.wh
  obtain ⟨f0, fd0, F0, M0⟩ := WK.mkI
  obtain ⟨f1, fd1, F1, M1⟩ := WK.go
  obtain ⟨f2, fd2, F2, M2⟩ := WK.undo
  obtain ⟨p3, f3, fd3, F3, M3⟩ := WK.steps
  obtain ⟨p4, f4, fd4, F4, M4⟩ := WK.path
  obtain ⟨p5, f5, fd5, F5, M5⟩ := WK.hall
  exact ⟨C, hC, WK.cls, ⟨f0, fd0, _, M0, w_init T F0 WK, F0.binds (ps := ["self", "web"]) fun _ _ _ _ _ _ us hl => match us, hl with | [_, _], _ => rfl⟩,
    ⟨f1, fd1, _, M1, (w_go T F1 WK).mono (by decide), F1.binds (ps := ["self", "step"]) fun _ _ _ _ _ _ us hl => match us, hl with | [_, _], _ => rfl⟩,
    ⟨f2, fd2, _, M2, (w_undo T F2 WK).mono (by decide), F2.binds (ps := ["self"]) fun _ _ _ _ _ _ us hl => match us, hl with | [_], _ => rfl⟩,
    ⟨p3, f3, fd3, _, M3, (w_tup F3 T WK).mono (by decide), F3.binds (ps := ["self"]) fun _ _ _ _ _ _ us hl => match us, hl with | [_], _ => rfl⟩,
    ⟨p4, f4, fd4, _, M4, (w_tup2 F4 T WK).mono (by decide), F4.binds (ps := ["self"]) fun _ _ _ _ _ _ us hl => match us, hl with | [_], _ => rfl⟩,
    ⟨p5, f5, fd5, _, M5, (w_hall F5 T WK).mono (by decide), F5.binds (ps := ["self"]) fun _ _ _ _ _ _ us hl => match us, hl with | [_], _ => rfl⟩⟩

noncomputable def fb_law : RS → Option PyData := (rThen (sOwnL 1 (aConsD (eVar 0) (aConsD (eC (.int 0)) (aConsD (eC (.int 5808)) (aConsD (eC (.int 0)) aNilD)))))
  (rThen (sAsg (eFnI 1 2 F__law_web (aConsD (eC (.int 13)) aNilD)) (setD 2))
  (rWheel 3 4 F_need_web (aConsD (eVar 2) aNilD) (eTupD aNilD) (wThen (wFor 3 (iRng rng1 (aConsD (eFnI 1 2 F__law_taken (aConsD (eC (.int 20)) aNilD)) aNilD)) (setD 5) (wThen (wIf 3 (tV (eBin gEq (eFnI 1 2 F__law_taken (aConsD (eC (.int 4)) aNilD)) (eC (.int 0)))) (wThen (wTry 3 7 6 "none" mUndo)
  (wThen (wLift 3 (sIf (tV (eBin gNe (eVar 6) (eIfD (tV (eBin gNe (eVar 4) (eTupD aNilD))) (eC .none) (eC (.str "none"))))) (sRet (eC (.bool false))) sNil))
  (wLift 3 (sAsg (eSl (eVar 4) pNone (pSome (eNegD (eC (.int 1))))) (setD 4))))) (wThen (wLift 3 (sAsg (eLstD (aConsD (eC .none) (aConsD (eC (.int 0)) (aConsD (eBin gIx (eVar 2) (eC (.int 0))) (aConsD (eBin gSub (eC (.int 0)) (eC (.int 1))) (aConsD (eC (.bool true)) (aConsD (eC (.str "1")) (aConsD (eBin gAdd (eC (.int 1)) (eFnI 1 2 F__law_taken (aConsD (eBin gSub (eBin gIx (eVar 2) (eC (.int 0))) (eC (.int 1))) aNilD))) aNilD)))))))) (setD 8)))
  (wThen (wLift 3 (sAsg (eFnI 1 2 F__law_pick (aConsD (eBin gAdd (eBin gMulG (eCall gLstOf (aConsD (eBin gIx (eVar 2) (eC (.int 1))) aNilD)) (eC (.int 3))) (eVar 8)) aNilD)) (setD 9)))
  (wThen (wLift 3 (sAsg (eAndD (eIsi isIntD (eVar 9)) (eAndD (eNotD (eIsi isBoolD (eVar 9))) (eBin (gInH false) (eVar 9) (eBin gIx (eVar 2) (eC (.int 1)))))) (setD 10)))
  (wThen (wTry 3 7 6 "bad" (mGo 3 (aConsD (eVar 9) aNilD)))
  (wThen (wLift 3 (sIf (tV (eBin gNe (eVar 6) (eIfD (tT (eVar 10)) (eC .none) (eC (.str "bad"))))) (sRet (eC (.bool false))) sNil))
  (wLift 3 (sAsg (eIfD (tT (eVar 10)) (eBin gAdd (eVar 4) (eTupD (aConsD (eVar 9) aNilD))) (eVar 4)) (setD 4)))))))))
  (wThen (wLift 3 (sAsg (eCall gTupOf (aConsD (eLc (iRng rng1 (aConsD (eBin gAdd (eCall gLen (aConsD (eVar 4) aNilD)) (eC (.int 1))) aNilD)) (setD 12) tYesD (eBin gMod (eCall gSumT (aConsD (eSl (eVar 4) pNone (pSome (eVar 12))) aNilD)) (eBin gIx (eVar 2) (eC (.int 0)))) [12]) aNilD)) (setD 11)))
  (wAlk 3 2 (F__law_alike 6) (eLstD (aConsD (eVar 4) (aConsD (eVar 11) (aConsD (eBin gIx (eVar 11) (eNegD (eC (.int 1)))) aNilD))))))))
  (wThen (wLift 3 (sTryAs ["BadWeb"] 7 (sExpr (eMkX F_need_web (aConsD (eFnI 1 2 F__law_pick (aConsD (eLstD (aConsD (eC .none) (aConsD (eTupD aNilD) (aConsD (eTupD (aConsD (eC (.int 1)) (aConsD (eTupD aNilD) aNilD))) (aConsD (eTupD (aConsD (eC (.int 3)) (aConsD (eTupD (aConsD (eC (.int 2)) (aConsD (eC (.int 1)) aNilD))) aNilD))) (aConsD (eTupD (aConsD (eC (.int 3)) (aConsD (eLstD (aConsD (eC (.int 1)) aNilD)) aNilD))) aNilD)))))) aNilD)) aNilD))) (sRet (eC (.bool true)))))
  (wLift 3 (sRet (eC (.bool false)))))))))
noncomputable def F_law : List PyData → Fr := fnR 1 13 fb_law
abbrev st_law : Stmt := topS 17
theorem sc_law : FnScope ["_law_script", "_law_row", "_law_web_here", "_law_wheel", "_law_line", "_law_turn", "_law_told", "e", "_law_odd", "_law_step", "_law_good", "_law_path", "_law_at"] ["_law_script"] (defScope st_law) := ⟨rfl, rfl, rfl, by decide +kernel, rfl, by decide +kernel, by decide +kernel⟩
theorem okf_law (T : Top P w mg base G) {f : Addr} {fd : FuncData} (F : Fun G.K "law" "law" st_law f fd) : FnOk P w G.K mg base (L2.CX P w) 8 f fd ["_law_script"] (spD G 1 F_law) := by
  obtain ⟨f__law_taken, fd__law_taken, ps__law_taken, m__law_taken, k__law_taken, b__law_taken, o__law_taken⟩ := (ok__law_taken T).ex
  obtain ⟨f__law_pick, fd__law_pick, ps__law_pick, m__law_pick, k__law_pick, b__law_pick, o__law_pick⟩ := (ok__law_pick T).ex
  obtain ⟨f__law_alike, fd__law_alike, ps__law_alike, m__law_alike, k__law_alike, b__law_alike, o__law_alike⟩ := (ok__law_alike T).ex
  obtain ⟨f__law_web, fd__law_web, ps__law_web, m__law_web, k__law_web, b__law_web, o__law_web⟩ := (ok__law_web T).ex
  obtain ⟨C, WC⟩ := wh_ok T
  exact fnr_ok (k := 7) F sc_law rfl (by decide) fun A outer s H E hr => by
    have F0 : Fam (Cf P w G.K mg base ["_law_script", "_law_row", "_law_web_here", "_law_wheel", "_law_line", "_law_turn", "_law_told", "e", "_law_odd", "_law_step", "_law_good", "_law_path", "_law_at"] "law" st_law f fd A outer s H E) G (WF E) 7 := fam_of sc_law rfl hr
    exact (dsr_cons (W := WF E) (ds_ownL F0 (fun _ => rfl) (fun _ => .inl rfl) (fun _ => by first | exact .inl rfl | exact .inr rfl) (da_cons (de_var 0 (fun _ => rfl) (fun _ => .inl rfl)) (da_cons de_int (da_cons de_int (da_cons de_int da_nil)))))
  (dsr_cons (W := WF E) (ds_set F0 (fun _ => rfl) (fun _ => .inr rfl) (fun _ => by first | exact .inl rfl | exact .inr rfl) (de_fnI F0 (fun _ => o__law_web) (by decide) (fun _ => rfl) (fun _ => .inl rfl) (fun _ => rfl) (fun _ => m__law_web) k__law_web b__law_web (da_cons de_int da_nil)))
  (dsr_wheel (W := WF E) F0 (fun _ => rfl) (fun _ => rfl) (fun _ => rfl) (fun _ => rfl) WC (by decide) (fun _ => rfl) (fun _ => rfl) (fun _ => rfl) (fun _ => .inl rfl) (fun _ => .inr rfl) (fun _ => by first | exact .inl rfl | exact .inr rfl) (fun _ => by first | exact .inl rfl | exact .inr rfl) (da_cons (de_var 2 (fun _ => rfl) (fun _ => .inr (.inl (by kernel_rfl)))) da_nil) (de_tup da_nil)
  (dwss_cons (dws_for (W := WF E) F0 owns_of (di_rng1 (fun _ => rfl) (fun _ => T.b_range) (da_cons (de_fnI F0 (fun _ => o__law_taken) (by decide) (fun _ => rfl) (fun _ => .inl rfl) (fun _ => rfl) (fun _ => m__law_taken) k__law_taken b__law_taken (da_cons de_int da_nil)) da_nil)) (dg_name F0 (fun _ => rfl) (fun _ => .inl rfl) (fun _ => by first | exact .inl rfl | exact .inr rfl)) (dwss_cons (dws_if (W := WF E) (dt_cmp (fun i => or_eqG (F0.K i) (F0.hu4 i)) od_eq (de_fnI F0 (fun _ => o__law_taken) (by decide) (fun _ => rfl) (fun _ => .inl rfl) (fun _ => rfl) (fun _ => m__law_taken) k__law_taken b__law_taken (da_cons de_int da_nil)) de_int (by first | exact nomark _ | with_unfolding_all rfl)) (dwss_cons (dws_try (W := WF E) (jt := 6) (je := 7) F0 (fun _ => rfl) (fun _ => rfl) (fun _ => rfl) (fun _ => rfl) (fun _ => rfl) (fun _ => T.e_NoStep.gl) T.x_NoStep_NoStep (fun _ => rfl) (fun _ => .inl rfl) (fun _ => by first | exact .inl rfl | exact .inr rfl) (fun _ => (dwm_undo (famT F0) (fun _ => rfl) (fun _ => rfl) (fun _ => rfl) (fun _ => rfl) WC (by decide) (fun _ => rfl) (fun _ => .inl rfl))))
  (dwss_cons (dws_lift (W := WF E) (ds_if (dt_cmp (fun i => or_neG (F0.K i) (F0.hu4 i)) od_ne (de_var 6 (fun _ => rfl) (fun _ => .inl rfl)) (de_if (dt_cmp (fun i => or_neG (F0.K i) (F0.hu4 i)) od_ne (de_var 4 (fun _ => rfl) (fun _ => .inr (.inl (by kernel_rfl)))) (de_tup da_nil) (by first | exact nomark _ | with_unfolding_all rfl)) de_non de_str) (by first | exact nomark _ | with_unfolding_all rfl)) (dss_one (ds_ret de_bl)) dss_nil))
  (dwss_one (dws_lift (W := WF E) (ds_set F0 (fun _ => rfl) (fun _ => .inr rfl) (fun _ => by first | exact .inl rfl | exact .inr rfl) (de_slice F0 (de_var 4 (fun _ => rfl) (fun _ => .inr (.inl (by kernel_rfl)))) dp_none (dp_some (de_neg de_int)))))))) (dwss_cons (dws_lift (W := WF E) (ds_set F0 (fun _ => rfl) (fun _ => .inl rfl) (fun _ => by first | exact .inl rfl | exact .inr rfl) (de_lst (da_cons de_non (da_cons de_int (da_cons (de_ix (fun i => or_ix (F0.K i)) od_ix (de_var 2 (fun _ => rfl) (fun _ => .inr (.inl (by kernel_rfl)))) de_int) (da_cons (de_bin (fun _ => op_sub) od_sub de_int de_int) (da_cons de_bl (da_cons de_str (da_cons (de_bin (fun i => or_addG (F0.K i)) od_add de_int (de_fnI F0 (fun _ => o__law_taken) (by decide) (fun _ => rfl) (fun _ => .inl rfl) (fun _ => rfl) (fun _ => m__law_taken) k__law_taken b__law_taken (da_cons (de_bin (fun _ => op_sub) od_sub (de_ix (fun i => or_ix (F0.K i)) od_ix (de_var 2 (fun _ => rfl) (fun _ => .inr (.inl (by kernel_rfl)))) de_int) de_int) da_nil))) da_nil))))))))))
  (dwss_cons (dws_lift (W := WF E) (ds_set F0 (fun _ => rfl) (fun _ => .inl rfl) (fun _ => by first | exact .inl rfl | exact .inr rfl) (de_fnI F0 (fun _ => o__law_pick) (by decide) (fun _ => rfl) (fun _ => .inl rfl) (fun _ => rfl) (fun _ => m__law_pick) k__law_pick b__law_pick (da_cons (de_bin (fun i => or_addG (F0.K i)) od_add (de_bin (fun i => or_mul1 (F0.K i)) od_mul1 (de_callTy (fun i => cr_lstOf (F0.K i)) cd_lstOf (fun _ => rfl) (fun _ => T.b_list) (by decide +kernel) (da_cons (de_ix (fun i => or_ix (F0.K i)) od_ix (de_var 2 (fun _ => rfl) (fun _ => .inr (.inl (by kernel_rfl)))) de_int) da_nil)) de_int) (de_var 8 (fun _ => rfl) (fun _ => .inl rfl))) da_nil))))
  (dwss_cons (dws_lift (W := WF E) (ds_set F0 (fun _ => rfl) (fun _ => .inl rfl) (fun _ => by first | exact .inl rfl | exact .inr rfl) (de_and (de_isi F0 kb_int (fun _ => rfl) (fun _ => T.b_isinstance) (fun _ => rfl) (fun _ => T.b_int) (by decide +kernel) (de_var 9 (fun _ => rfl) (fun _ => .inl rfl))) (de_and (de_not (de_isi F0 kb_bool (fun _ => rfl) (fun _ => T.b_isinstance) (fun _ => rfl) (fun _ => T.b_bool) (by decide +kernel) (de_var 9 (fun _ => rfl) (fun _ => .inl rfl)))) (de_one (de_cmp (or_inH F0) od_inH (de_var 9 (fun _ => rfl) (fun _ => .inl rfl)) (de_ix (fun i => or_ix (F0.K i)) od_ix (de_var 2 (fun _ => rfl) (fun _ => .inr (.inl (by kernel_rfl)))) de_int) (by first | exact nomark _ | with_unfolding_all rfl)))))))
  (dwss_cons (dws_try (W := WF E) (jt := 6) (je := 7) F0 (fun _ => rfl) (fun _ => rfl) (fun _ => rfl) (fun _ => rfl) (fun _ => rfl) (fun _ => T.e_BadStep.gl) T.x_BadStep_BadStep (fun _ => rfl) (fun _ => .inl rfl) (fun _ => by first | exact .inl rfl | exact .inr rfl) (fun _ => (dwm_go (famT F0) (fun _ => rfl) (fun _ => rfl) (fun _ => rfl) (fun _ => rfl) WC (by decide) (fun _ => rfl) (fun _ => .inl rfl) (da_cons (de_var 9 (fun _ => rfl) (fun _ => .inl rfl)) da_nil))))
  (dwss_cons (dws_lift (W := WF E) (ds_if (dt_cmp (fun i => or_neG (F0.K i) (F0.hu4 i)) od_ne (de_var 6 (fun _ => rfl) (fun _ => .inl rfl)) (de_if (dt_truth F0 (de_var 10 (fun _ => rfl) (fun _ => .inl rfl))) de_non de_str) (by first | exact nomark _ | with_unfolding_all rfl)) (dss_one (ds_ret de_bl)) dss_nil))
  (dwss_one (dws_lift (W := WF E) (ds_set F0 (fun _ => rfl) (fun _ => .inr rfl) (fun _ => by first | exact .inl rfl | exact .inr rfl) (de_if (dt_truth F0 (de_var 10 (fun _ => rfl) (fun _ => .inl rfl))) (de_bin (fun i => or_addG (F0.K i)) od_add (de_var 4 (fun _ => rfl) (fun _ => .inr (.inl (by kernel_rfl)))) (de_tup (da_cons (de_var 9 (fun _ => rfl) (fun _ => .inl rfl)) da_nil))) (de_var 4 (fun _ => rfl) (fun _ => .inr (.inl (by kernel_rfl))))))))))))))
  (dwss_cons (dws_lift (W := WF E) (ds_set F0 (fun _ => rfl) (fun _ => .inl rfl) (fun _ => by first | exact .inl rfl | exact .inr rfl) (de_callTy (fun i => cr_tupOf (F0.K i)) cd_tupOf (fun _ => rfl) (fun _ => T.b_tuple) (by decide +kernel) (da_cons (de_lc (own := [("_law_at", 12)]) F0 (di_rng1 (fun _ => rfl) (fun _ => T.b_range) (da_cons (de_bin (fun i => or_addG (F0.K i)) od_add (de_callB (fun i => cr_lenG (F0.K i)) cd_len (fun _ => rfl) (fun _ => T.b_len) (by decide +kernel) (da_cons (de_var 4 (fun _ => rfl) (fun _ => .inr (.inl (by kernel_rfl)))) da_nil)) de_int) da_nil)) (fun _ => blkOk_by (by kernel_rfl)) (dg_name (famB F0) (fun _ => rfl) (fun _ => .inl rfl) (fun _ => by first | exact .inl rfl | exact .inr rfl)) (by decide) dts_nil (de_bin (fun _ => op_mod) od_mod (de_callB (fun i => cr_sumTG ((famB F0).K i) ((famB F0).calm i)) cd_sumT (fun _ => rfl) (fun _ => T.b_sum) (by decide +kernel) (da_cons (de_slice (famB F0) (de_var 4 (fun _ => rfl) (fun _ => .inr (.inl (by kernel_rfl)))) dp_none (dp_some (de_var 12 (fun _ => rfl) (fun _ => .inl rfl)))) da_nil)) (de_ix (fun i => or_ix ((famB F0).K i)) od_ix (de_var 2 (fun _ => rfl) (fun _ => .inr (.inl (by kernel_rfl)))) de_int))) da_nil))))
  (dwss_one (dws_alk (W := WF E) F0 (fun _ => rfl) (fun _ => rfl) (fun _ => rfl) (fun _ => rfl) WC (by decide) (fun _ => o__law_alike) (by decide) (fun _ => rfl) (fun _ => .inl rfl) (fun _ => rfl) (fun _ => m__law_alike) k__law_alike b__law_alike (de_lst (da_cons (de_var 4 (fun _ => rfl) (fun _ => .inr (.inl (by kernel_rfl)))) (da_cons (de_var 11 (fun _ => rfl) (fun _ => .inl rfl)) (da_cons (de_ix (fun i => or_ix (F0.K i)) od_ix (de_var 11 (fun _ => rfl) (fun _ => .inl rfl)) (de_neg de_int)) da_nil)))))))))
  (dwss_cons (dws_lift (W := WF E) (ds_try_as (j := 7) (cs := ["BadWeb"]) F0 (fun _ => rfl) (fun _ => rfl) (fun _ => rfl) (fun _ => rfl) (fun _ => rfl) (fun _ => rfl) T.fx_BadWeb.gl (List.forall_mem_cons.mpr ⟨T.x_BadWeb_BadWeb, fun _ h => nomatch h⟩) (fun _ => (dss_one (ds_expr (de_mkX (famT F0) (fun _ => rfl) (fun _ => rfl) (fun _ => rfl) (fun _ => rfl) WC (by decide) (fun _ => rfl) (da_cons (de_fnI (famT F0) (fun _ => o__law_pick) (by decide) (fun _ => rfl) (fun _ => .inl rfl) (fun _ => rfl) (fun _ => m__law_pick) k__law_pick b__law_pick (da_cons (de_lst (da_cons de_non (da_cons (de_tup da_nil) (da_cons (de_tup (da_cons de_int (da_cons (de_tup da_nil) da_nil))) (da_cons (de_tup (da_cons de_int (da_cons (de_tup (da_cons de_int (da_cons de_int da_nil))) da_nil))) (da_cons (de_tup (da_cons de_int (da_cons (de_lst (da_cons de_int da_nil)) da_nil))) da_nil)))))) da_nil)) da_nil))))) (dss_one (ds_ret de_bl))))
  (dwss_one (dws_lift (W := WF E) (ds_ret de_bl))))))))
end
end LW

-- text MPD
set_option Elab.async false
set_option linter.all false
set_option maxRecDepth 100000
set_option maxHeartbeats 4000000
namespace LW
open PySem PySem.Spec L2 DL
theorem is_number_int (i a b : Int) : F_is_number [.int i, .int a, .int b] = .ok (.bool (decide (a ≤ i) && decide (i ≤ b))) := by
  by_cases h : a ≤ i <;> simp [F_is_number, fb_is_number, fnD, fnI, outFr, outFi, sThen, sIf, sAsg, sOpt, sRet, sExpr, sPutO, sOwnL, sRetO, sPar, sNil, sFor, iSeq, iRng, eVar, eC, eBin, eChain, eIxO, eLenO, eIsi, eCall, eTupD, eLstD, eFn, eFnI, eFnO, aOwn, sAppO, sExtO, ePopO, eInO, sOwnN, nDisp, nLst, sParDO, sParOO, eTupRg, eLstRg, r1Rg, r2Rg, eRevL, putO, sAug, eIfD, eNotD, eAndD, eOrD, eNegD, eSl, pNone, pSome, aNilD, aConsD, tV, tT, tOwn, tNotD, tAndD, tOrD, tYesD, asB, truD, Rs.bind, Rs.of, Rs.out, frRs, ownAt, setD, noOwn, setNil, setCons, setTup, seqOf, sz0, sz1, sz2, sz3, sz4, sz5, sz6, sz7, sz8, gAdd, gSub_int, gMod_int, gDiv_int, gLe_int, gLt, gGt_int, gGe_int, gIsN, gIsB, isNone, gIx_web0, gIx_web1, gIx_tup, gIx_list, gIx_scr, gLen, gTupOf, gLstOf, gIntOf, isIntD, isBoolD, isStrD, isTupD, isLstD, zipG, h]
theorem taken_ok {xs : List PyData} (h : Row xs) {m : Int} (h1 : 1 ≤ m) (h2 : m < 1073741824) : ∃ r xs', F__law_taken xs [.int m] = .ok (.int r) xs' ∧ 0 ≤ r ∧ r < m ∧ Row xs' := by
  obtain ⟨ns, a, b, c, rfl, ha, hb⟩ := h
  have m0 : (0 : Int) < m := by omega
  have lim : lim64 48271 = true := by decide
  have l30 := lim30_in h1 h2
  have l7 : lim30 7 = true := by decide
  by_cases hc : 0 < c
  · refine ⟨c % m, [scr ns, .int a, .int b, .int (c / m)], ?_, Int.emod_nonneg _ (by omega), Int.emod_lt_of_pos _ m0, ns, a, b, c / m, rfl, ha, hb⟩
    simp [F__law_taken, fb__law_taken, fnD, fnI, outFr, outFi, sThen, sIf, sAsg, sOpt, sRet, sExpr, sPutO, sOwnL, sRetO, sPar, sNil, sFor, iSeq, iRng, eVar, eC, eBin, eChain, eIxO, eLenO, eIsi, eCall, eTupD, eLstD, eFn, eFnI, eFnO, aOwn, sAppO, sExtO, ePopO, eInO, sOwnN, nDisp, nLst, sParDO, sParOO, eTupRg, eLstRg, r1Rg, r2Rg, eRevL, putO, sAug, eIfD, eNotD, eAndD, eOrD, eNegD, eSl, pNone, pSome, aNilD, aConsD, tV, tT, tOwn, tNotD, tAndD, tOrD, tYesD, asB, truD, Rs.bind, Rs.of, Rs.out, frRs, ownAt, setD, noOwn, setNil, setCons, setTup, seqOf, sz0, sz1, sz2, sz3, sz4, sz5, sz6, sz7, sz8, gAdd, gSub_int, gMod_int, gDiv_int, gLe_int, gLt, gGt_int, gGe_int, gIsN, gIsB, isNone, gIx_web0, gIx_web1, gIx_tup, gIx_list, gIx_scr, gLen, gTupOf, gLstOf, gIntOf, isIntD, isBoolD, isStrD, isTupD, isLstD, zipG, atI, ixN, hc, m0, h2, l30]
  · by_cases hl : (ns.length : Int) < a + 1
    · refine ⟨(b * 48271 + 11) % 2147483647 / 7 % m, [scr ns, .int (a + 1), .int ((b * 48271 + 11) % 2147483647), .int c], ?_, Int.emod_nonneg _ (by omega), Int.emod_lt_of_pos _ m0, ns, a + 1, _, c, rfl, by omega, Int.emod_nonneg _ (by decide)⟩
      simp [F__law_taken, fb__law_taken, fnD, fnI, outFr, outFi, sThen, sIf, sAsg, sOpt, sRet, sExpr, sPutO, sOwnL, sRetO, sPar, sNil, sFor, iSeq, iRng, eVar, eC, eBin, eChain, eIxO, eLenO, eIsi, eCall, eTupD, eLstD, eFn, eFnI, eFnO, aOwn, sAppO, sExtO, ePopO, eInO, sOwnN, nDisp, nLst, sParDO, sParOO, eTupRg, eLstRg, r1Rg, r2Rg, eRevL, putO, sAug, eIfD, eNotD, eAndD, eOrD, eNegD, eSl, pNone, pSome, aNilD, aConsD, tV, tT, tOwn, tNotD, tAndD, tOrD, tYesD, asB, truD, Rs.bind, Rs.of, Rs.out, frRs, ownAt, setD, noOwn, setNil, setCons, setTup, seqOf, sz0, sz1, sz2, sz3, sz4, sz5, sz6, sz7, sz8, gAdd, gSub_int, gMod_int, gDiv_int, gLe_int, gLt, gGt_int, gGe_int, gIsN, gIsB, isNone, gIx_web0, gIx_web1, gIx_tup, gIx_list, gIx_scr, gLen, gTupOf, gLstOf, gIntOf, isIntD, isBoolD, isStrD, isTupD, isLstD, zipG, atI, ixN, hc, m0, h2, l30, l7, scr, hl, gMulG_int, lim]
    · obtain ⟨n, rfl⟩ := Int.eq_ofNat_of_zero_le ha
      have hn : n < ns.length := by omega
      have hn' : (n : Int) < ns.length := by omega
      have h3 : ns[n]? = some ns[n] := List.getElem?_eq_getElem hn
      have e1 : ((n : Int) + 1 - 1) = n := by omega
      have pw : gPow (.int 10) (.int 18) = some (.int 1000000000000000000) := by rfl
      by_cases hg : (1000000000000000000 : Int) ≤ ns[n]
      · refine ⟨ns[n] % m, [scr ns, .int (n + 1), .int ((b * 48271 + ns[n] + 11) % 2147483647), .int (ns[n] / m)], ?_, Int.emod_nonneg _ (by omega), Int.emod_lt_of_pos _ m0, ns, _, _, _, rfl, by omega, Int.emod_nonneg _ (by decide)⟩
        simp [F__law_taken, fb__law_taken, fnD, fnI, outFr, outFi, sThen, sIf, sAsg, sOpt, sRet, sExpr, sPutO, sOwnL, sRetO, sPar, sNil, sFor, iSeq, iRng, eVar, eC, eBin, eChain, eIxO, eLenO, eIsi, eCall, eTupD, eLstD, eFn, eFnI, eFnO, aOwn, sAppO, sExtO, ePopO, eInO, sOwnN, nDisp, nLst, sParDO, sParOO, eTupRg, eLstRg, r1Rg, r2Rg, eRevL, putO, sAug, eIfD, eNotD, eAndD, eOrD, eNegD, eSl, pNone, pSome, aNilD, aConsD, tV, tT, tOwn, tNotD, tAndD, tOrD, tYesD, asB, truD, Rs.bind, Rs.of, Rs.out, frRs, ownAt, setD, noOwn, setNil, setCons, setTup, seqOf, sz0, sz1, sz2, sz3, sz4, sz5, sz6, sz7, sz8, gAdd, gSub_int, gMod_int, gDiv_int, gLe_int, gLt, gGt_int, gGe_int, gIsN, gIsB, isNone, gIx_web0, gIx_web1, gIx_tup, gIx_list, gIx_scr, gLen, gTupOf, gLstOf, gIntOf, isIntD, isBoolD, isStrD, isTupD, isLstD, zipG, atI, ixN, hc, m0, h2, l30, l7, scr, hl, gMulG_int, lim, pw, hg, hn', hn, h3]
      · refine ⟨ns[n] % m, [scr ns, .int (n + 1), .int ((b * 48271 + ns[n] + 11) % 2147483647), .int c], ?_, Int.emod_nonneg _ (by omega), Int.emod_lt_of_pos _ m0, ns, _, _, _, rfl, by omega, Int.emod_nonneg _ (by decide)⟩
        simp [F__law_taken, fb__law_taken, fnD, fnI, outFr, outFi, sThen, sIf, sAsg, sOpt, sRet, sExpr, sPutO, sOwnL, sRetO, sPar, sNil, sFor, iSeq, iRng, eVar, eC, eBin, eChain, eIxO, eLenO, eIsi, eCall, eTupD, eLstD, eFn, eFnI, eFnO, aOwn, sAppO, sExtO, ePopO, eInO, sOwnN, nDisp, nLst, sParDO, sParOO, eTupRg, eLstRg, r1Rg, r2Rg, eRevL, putO, sAug, eIfD, eNotD, eAndD, eOrD, eNegD, eSl, pNone, pSome, aNilD, aConsD, tV, tT, tOwn, tNotD, tAndD, tOrD, tYesD, asB, truD, Rs.bind, Rs.of, Rs.out, frRs, ownAt, setD, noOwn, setNil, setCons, setTup, seqOf, sz0, sz1, sz2, sz3, sz4, sz5, sz6, sz7, sz8, gAdd, gSub_int, gMod_int, gDiv_int, gLe_int, gLt, gGt_int, gGe_int, gIsN, gIsB, isNone, gIx_web0, gIx_web1, gIx_tup, gIx_list, gIx_scr, gLen, gTupOf, gLstOf, gIntOf, isIntD, isBoolD, isStrD, isTupD, isLstD, zipG, atI, ixN, hc, m0, h2, l30, l7, scr, hl, gMulG_int, lim, pw, hg, hn', hn, h3]
theorem pick_ok {xs : List PyData} (h : Row xs) {ts : List PyData} (h1 : ts ≠ []) (h2 : ts.length < 1000000) : ∃ x xs', F__law_pick xs [.list ts] = .ok x xs' ∧ x ∈ ts ∧ Row xs' := by
  have hl : 1 ≤ (ts.length : Int) := by
    have := List.length_pos_iff.mpr h1
    omega
  obtain ⟨r, xs', e, g1, g2, g3⟩ := taken_ok h hl (by omega)
  obtain ⟨n, rfl⟩ := Int.eq_ofNat_of_zero_le g1
  have hn : n < ts.length := by omega
  refine ⟨ts[n], xs', ?_, List.getElem_mem hn, g3⟩
  simp [F__law_pick, fb__law_pick, fnD, fnI, outFr, outFi, sThen, sIf, sAsg, sOpt, sRet, sExpr, sPutO, sOwnL, sRetO, sPar, sNil, sFor, iSeq, iRng, eVar, eC, eBin, eChain, eIxO, eLenO, eIsi, eCall, eTupD, eLstD, eFn, eFnI, eFnO, aOwn, sAppO, sExtO, ePopO, eInO, sOwnN, nDisp, nLst, sParDO, sParOO, eTupRg, eLstRg, r1Rg, r2Rg, eRevL, putO, sAug, eIfD, eNotD, eAndD, eOrD, eNegD, eSl, pNone, pSome, aNilD, aConsD, tV, tT, tOwn, tNotD, tAndD, tOrD, tYesD, asB, truD, Rs.bind, Rs.of, Rs.out, frRs, ownAt, setD, noOwn, setNil, setCons, setTup, seqOf, sz0, sz1, sz2, sz3, sz4, sz5, sz6, sz7, sz8, gAdd, gSub_int, gMod_int, gDiv_int, gLe_int, gLt, gGt_int, gGe_int, gIsN, gIsB, isNone, gIx_web0, gIx_web1, gIx_tup, gIx_list, gIx_scr, gLen, gTupOf, gLstOf, gIntOf, isIntD, isBoolD, isStrD, isTupD, isLstD, zipG, e, atI, ixN, hn, g2]
theorem web_draw {most : Int} (m1 : 2 ≤ most) (m2 : most ≤ 13) {xs : List PyData} (h : Row xs) : ∃ hh ss xs', F__law_web xs [.int most] = .ok (webD hh ss) xs' ∧ IsWeb hh ss ∧ hh ≤ most ∧ Row xs' := by
  obtain ⟨r, x1, e1, g1, g2, g3⟩ := taken_ok h (m := most - 1) (by omega) (by omega)
  have hr0 : (2 + r) ≤ most := by omega
  generalize hh : 2 + r = hal at hr0
  have hr : hal ≤ 13 := by omega
  have h2 : 2 ≤ hal := by omega
  -- the steps
  have st : ∀ x ∈ pis (rngI 1 hal), ∀ ρ : RS, (∃ xs, Row xs ∧ ρ = [.o xs, .d (.int most), .d (.int hal), .n, .n]) → ∃ b, LcStep (setD 4) (tV (eBin gEq (eFnI 0 2 F__law_taken (aConsD (eC (.int 2)) aNilD)) (eC (.int 0)))) (eVar 4) [4] (fun ρ => ∃ xs, Row xs ∧ ρ = [.o xs, .d (.int most), .d (.int hal), .n, .n]) x b x ρ := by
    rintro x _ ρ ⟨xs, hx, rfl⟩
    obtain ⟨q, x2, e2, q1, q2, q3⟩ := taken_ok hx (m := 2) (by decide) (by decide)
    refine ⟨q == 0, [.o xs, .d (.int most), .d (.int hal), .n, .d x], [.o x2, .d (.int most), .d (.int hal), .n, .d x], rfl, ?_, fun _ => ⟨rfl, x2, q3, rfl⟩, fun _ => ⟨_, rfl, rfl, x2, q3, rfl⟩⟩
    simp [fnD, fnI, outFr, outFi, sThen, sIf, sAsg, sOpt, sRet, sExpr, sPutO, sOwnL, sRetO, sPar, sNil, sFor, iSeq, iRng, eVar, eC, eBin, eChain, eIxO, eLenO, eIsi, eCall, eTupD, eLstD, eFn, eFnI, eFnO, aOwn, sAppO, sExtO, ePopO, eInO, sOwnN, nDisp, nLst, sParDO, sParOO, eTupRg, eLstRg, r1Rg, r2Rg, eRevL, putO, sAug, eIfD, eNotD, eAndD, eOrD, eNegD, eSl, pNone, pSome, aNilD, aConsD, tV, tT, tOwn, tNotD, tAndD, tOrD, tYesD, asB, truD, Rs.bind, Rs.of, Rs.out, frRs, ownAt, setD, noOwn, setNil, setCons, setTup, seqOf, sz0, sz1, sz2, sz3, sz4, sz5, sz6, sz7, sz8, gAdd, gSub_int, gMod_int, gDiv_int, gLe_int, gLt, gGt_int, gGe_int, gIsN, gIsB, isNone, gIx_web0, gIx_web1, gIx_tup, gIx_list, gIx_scr, gLen, gTupOf, gLstOf, gIntOf, isIntD, isBoolD, isStrD, isTupD, isLstD, zipG, e2, gEq_int]
  obtain ⟨ys, ρ', s1, ⟨x2, hx2, rfl⟩, s2⟩ := lcL_sub (fun x => x) _ st [.o x1, .d (.int most), .d (.int hal), .n, .n] ⟨x1, g3, rfl⟩
  obtain ⟨ms, rfl, s3⟩ := sub_ints s1
  rw [List.map_id'] at s2
  have lc1 := eLc_of (fi := iRng rng2 (aConsD (eC (.int 1)) (aConsD (eVar 2) aNilD))) (ρ := [.o x1, .d (.int most), .d (.int hal), .n, .n]) (ρ1 := [.o x1, .d (.int most), .d (.int hal), .n, .n]) (items := pis (rngI 1 hal)) (by
    simp [fnD, fnI, outFr, outFi, sThen, sIf, sAsg, sOpt, sRet, sExpr, sPutO, sOwnL, sRetO, sPar, sNil, sFor, iSeq, iRng, eVar, eC, eBin, eChain, eIxO, eLenO, eIsi, eCall, eTupD, eLstD, eFn, eFnI, eFnO, aOwn, sAppO, sExtO, ePopO, eInO, sOwnN, nDisp, nLst, sParDO, sParOO, eTupRg, eLstRg, r1Rg, r2Rg, eRevL, putO, sAug, eIfD, eNotD, eAndD, eOrD, eNegD, eSl, pNone, pSome, aNilD, aConsD, tV, tT, tOwn, tNotD, tAndD, tOrD, tYesD, asB, truD, Rs.bind, Rs.of, Rs.out, frRs, ownAt, setD, noOwn, setNil, setCons, setTup, seqOf, sz0, sz1, sz2, sz3, sz4, sz5, sz6, sz7, sz8, gAdd, gSub_int, gMod_int, gDiv_int, gLe_int, gLt, gGt_int, gGe_int, gIsN, gIsB, isNone, gIx_web0, gIx_web1, gIx_tup, gIx_list, gIx_scr, gLen, gTupOf, gLstOf, gIntOf, isIntD, isBoolD, isStrD, isTupD, isLstD, zipG, rng2_ok (m := 1) (n := hal) (by omega) (by omega) (by omega) (by omega)]) (by rw [pis_len, rngI_len]; exact size_small (by omega)) rfl s2 rfl
  obtain ⟨q, x3, e3, q1, q2, q3⟩ := taken_ok hx2 (m := 3) (by decide) (by decide)
  by_cases hq : q = 0
  · subst hq
    -- two-way
    have st2 : ∀ x ∈ pis (rngI 1 hal), ∀ ρ : RS, ρ = [.o x3, .d (.int most), .d (.int hal), .d (.list (pis ms)), .n] → ∃ b, LcStep (setD 4) (tOrD (tV (eBin (gInH false) (eVar 4) (eVar 3))) (tV (eBin (gInH false) (eBin gSub (eVar 2) (eVar 4)) (eVar 3)))) (eVar 4) [4] (fun ρ => ρ = [.o x3, .d (.int most), .d (.int hal), .d (.list (pis ms)), .n]) x b x ρ := by
      rintro x hx ρ rfl
      obtain ⟨i, _, rfl⟩ := List.mem_map.mp hx
      refine ⟨decide (i ∈ ms) || decide (hal - i ∈ ms), [.o x3, .d (.int most), .d (.int hal), .d (.list (pis ms)), .d (.int i)], [.o x3, .d (.int most), .d (.int hal), .d (.list (pis ms)), .d (.int i)], rfl, ?_, fun _ => ⟨rfl, rfl⟩, fun _ => ⟨_, rfl, rfl, rfl⟩⟩
      by_cases hm : i ∈ ms <;> simp [fnD, fnI, outFr, outFi, sThen, sIf, sAsg, sOpt, sRet, sExpr, sPutO, sOwnL, sRetO, sPar, sNil, sFor, iSeq, iRng, eVar, eC, eBin, eChain, eIxO, eLenO, eIsi, eCall, eTupD, eLstD, eFn, eFnI, eFnO, aOwn, sAppO, sExtO, ePopO, eInO, sOwnN, nDisp, nLst, sParDO, sParOO, eTupRg, eLstRg, r1Rg, r2Rg, eRevL, putO, sAug, eIfD, eNotD, eAndD, eOrD, eNegD, eSl, pNone, pSome, aNilD, aConsD, tV, tT, tOwn, tNotD, tAndD, tOrD, tYesD, asB, truD, Rs.bind, Rs.of, Rs.out, frRs, ownAt, setD, noOwn, setNil, setCons, setTup, seqOf, sz0, sz1, sz2, sz3, sz4, sz5, sz6, sz7, sz8, gAdd, gSub_int, gMod_int, gDiv_int, gLe_int, gLt, gGt_int, gGe_int, gIsN, gIsB, isNone, gIx_web0, gIx_web1, gIx_tup, gIx_list, gIx_scr, gLen, gTupOf, gLstOf, gIntOf, isIntD, isBoolD, isStrD, isTupD, isLstD, zipG, inH_flat.1, hm]
    obtain ⟨zs, ρ2, t1, rfl, t2⟩ := lcL_sub (fun x => x) _ st2 _ rfl
    obtain ⟨ks, rfl, t3⟩ := sub_ints t1
    rw [List.map_id'] at t2
    have lc2 := eLc_of (fi := iRng rng2 (aConsD (eC (.int 1)) (aConsD (eVar 2) aNilD))) (ρ := [.o x3, .d (.int most), .d (.int hal), .d (.list (pis ms)), .n]) (ρ1 := [.o x3, .d (.int most), .d (.int hal), .d (.list (pis ms)), .n]) (items := pis (rngI 1 hal)) (by
      simp [fnD, fnI, outFr, outFi, sThen, sIf, sAsg, sOpt, sRet, sExpr, sPutO, sOwnL, sRetO, sPar, sNil, sFor, iSeq, iRng, eVar, eC, eBin, eChain, eIxO, eLenO, eIsi, eCall, eTupD, eLstD, eFn, eFnI, eFnO, aOwn, sAppO, sExtO, ePopO, eInO, sOwnN, nDisp, nLst, sParDO, sParOO, eTupRg, eLstRg, r1Rg, r2Rg, eRevL, putO, sAug, eIfD, eNotD, eAndD, eOrD, eNegD, eSl, pNone, pSome, aNilD, aConsD, tV, tT, tOwn, tNotD, tAndD, tOrD, tYesD, asB, truD, Rs.bind, Rs.of, Rs.out, frRs, ownAt, setD, noOwn, setNil, setCons, setTup, seqOf, sz0, sz1, sz2, sz3, sz4, sz5, sz6, sz7, sz8, gAdd, gSub_int, gMod_int, gDiv_int, gLe_int, gLt, gGt_int, gGe_int, gIsN, gIsB, isNone, gIx_web0, gIx_web1, gIx_tup, gIx_list, gIx_scr, gLen, gTupOf, gLstOf, gIntOf, isIntD, isBoolD, isStrD, isTupD, isLstD, zipG, rng2_ok (m := 1) (n := hal) (by omega) (by omega) (by omega) (by omega)]) (by rw [pis_len, rngI_len]; exact size_small (by omega)) rfl t2 rfl
    refine ⟨hal, ks, x3, ?_, web_of_sub h2 hr t3, hr0, q3⟩
    simp only [rwipe, List.set] at lc1 lc2
    simp [F__law_web, fb__law_web, fnD, fnI, outFr, outFi, sThen, sIf, sAsg, sOpt, sRet, sExpr, sPutO, sOwnL, sRetO, sPar, sNil, sFor, iSeq, iRng, eVar, eC, eBin, eChain, eIxO, eLenO, eIsi, eCall, eTupD, eLstD, eFn, eFnI, eFnO, aOwn, sAppO, sExtO, ePopO, eInO, sOwnN, nDisp, nLst, sParDO, sParOO, eTupRg, eLstRg, r1Rg, r2Rg, eRevL, putO, sAug, eIfD, eNotD, eAndD, eOrD, eNegD, eSl, pNone, pSome, aNilD, aConsD, tV, tT, tOwn, tNotD, tAndD, tOrD, tYesD, asB, truD, Rs.bind, Rs.of, Rs.out, frRs, ownAt, setD, noOwn, setNil, setCons, setTup, seqOf, sz0, sz1, sz2, sz3, sz4, sz5, sz6, sz7, sz8, gAdd, gSub_int, gMod_int, gDiv_int, gLe_int, gLt, gGt_int, gGe_int, gIsN, gIsB, isNone, gIx_web0, gIx_web1, gIx_tup, gIx_list, gIx_scr, gLen, gTupOf, gLstOf, gIntOf, isIntD, isBoolD, isStrD, isTupD, isLstD, zipG, e1, e3, hh, lc1, lc2, gEq_int, webD]
  · refine ⟨hal, ms, x3, ?_, web_of_sub h2 hr s3, hr0, q3⟩
    simp only [rwipe, List.set] at lc1
    simp [F__law_web, fb__law_web, fnD, fnI, outFr, outFi, sThen, sIf, sAsg, sOpt, sRet, sExpr, sPutO, sOwnL, sRetO, sPar, sNil, sFor, iSeq, iRng, eVar, eC, eBin, eChain, eIxO, eLenO, eIsi, eCall, eTupD, eLstD, eFn, eFnI, eFnO, aOwn, sAppO, sExtO, ePopO, eInO, sOwnN, nDisp, nLst, sParDO, sParOO, eTupRg, eLstRg, r1Rg, r2Rg, eRevL, putO, sAug, eIfD, eNotD, eAndD, eOrD, eNegD, eSl, pNone, pSome, aNilD, aConsD, tV, tT, tOwn, tNotD, tAndD, tOrD, tYesD, asB, truD, Rs.bind, Rs.of, Rs.out, frRs, ownAt, setD, noOwn, setNil, setCons, setTup, seqOf, sz0, sz1, sz2, sz3, sz4, sz5, sz6, sz7, sz8, gAdd, gSub_int, gMod_int, gDiv_int, gLe_int, gLt, gGt_int, gGe_int, gIsN, gIsB, isNone, gIx_web0, gIx_web1, gIx_tup, gIx_list, gIx_scr, gLen, gTupOf, gLstOf, gIntOf, isIntD, isBoolD, isStrD, isTupD, isLstD, zipG, e1, e3, hh, lc1, gEq_int, webD, hq]
end LW

-- text MPW
set_option Elab.async false
set_option linter.all false
set_option maxRecDepth 100000
set_option maxHeartbeats 4000000
namespace LW
open PySem PySem.Spec L2 DL
theorem wrong_web_ok {h : Int} {ss : List Int} (W : IsWeb h ss) : F_wrong_web [webD h ss] = .ok .none := by
  have h1 := W.lo
  have h2 := W.hi
  obtain ⟨ρ1, rfl, e1⟩ := allL_det (g := setD 5) (fe := eFn 3 F_is_number (aConsD (eVar 5) (aConsD (eC (.int 1)) (aConsD (eBin DL.gSub (eVar 1) (eC (.int 1))) aNilD)))) (vs := [5]) (I := fun ρ => ρ = [.d (webD h ss), .d (.int h), .d (.tuple (pis ss)), .n, .n, .n]) (fun _ => true) (pis ss) (fun x hx ρ e => by
    subst e
    obtain ⟨i, hi, rfl⟩ := List.mem_map.mp hx
    have := W.rng i hi
    refine ⟨[.d (webD h ss), .d (.int h), .d (.tuple (pis ss)), .n, .n, .d (.int i)], .bool true, [.d (webD h ss), .d (.int h), .d (.tuple (pis ss)), .n, .n, .d (.int i)], rfl, ?_, rfl, rfl, rfl⟩
    simp [fnD, fnI, outFr, outFi, sThen, sIf, sAsg, sOpt, sRet, sExpr, sPutO, sOwnL, sRetO, sPar, sNil, sFor, iSeq, iRng, eVar, eC, eBin, eChain, eIxO, eLenO, eIsi, eCall, eTupD, eLstD, eFn, eFnI, eFnO, aOwn, sAppO, sExtO, ePopO, eInO, sOwnN, nDisp, nLst, sParDO, sParOO, eTupRg, eLstRg, r1Rg, r2Rg, eRevL, putO, sAug, eIfD, eNotD, eAndD, eOrD, eNegD, eSl, pNone, pSome, aNilD, aConsD, tV, tT, tOwn, tNotD, tAndD, tOrD, tYesD, asB, truD, Rs.bind, Rs.of, Rs.out, frRs, ownAt, setD, noOwn, setNil, setCons, setTup, seqOf, sz0, sz1, sz2, sz3, sz4, sz5, sz6, sz7, sz8, gAdd, gSub_int, gMod_int, gDiv_int, gLe_int, gLt, gGt_int, gGe_int, gIsN, gIsB, isNone, gIx_web0, gIx_web1, gIx_tup, gIx_list, gIx_scr, gLen, gTupOf, gLstOf, gIntOf, isIntD, isBoolD, isStrD, isTupD, isLstD, zipG, is_number_int, this]) _ rfl
  have a1 := eAll_of (fi := iSeq (eVar 2)) (ρ := [.d (webD h ss), .d (.int h), .d (.tuple (pis ss)), .n, .n, .n]) (ρ1 := [.d (webD h ss), .d (.int h), .d (.tuple (pis ss)), .n, .n, .n]) (items := pis ss) rfl rfl e1 rfl
  obtain ⟨ρ2, rfl, e2⟩ := allL_det (g := setTup 2 (setCons (setD 3) (setCons (setD 4) setNil))) (fe := eBin gLt (eVar 3) (eVar 4)) (vs := [3, 4]) (I := fun ρ => ρ = [.d (webD h ss), .d (.int h), .d (.tuple (pis ss)), .n, .n, .n]) (fun _ => true) (List.zipWith pairD (pis ss) ((pis ss).drop 1)) (fun x hx ρ e => by
    subst e
    obtain ⟨_, _, rfl, i, j, rfl, rfl, hij⟩ := zip_pw (pis_pw W.asc) x hx
    refine ⟨[.d (webD h ss), .d (.int h), .d (.tuple (pis ss)), .d (.int i), .d (.int j), .n], .bool true, [.d (webD h ss), .d (.int h), .d (.tuple (pis ss)), .d (.int i), .d (.int j), .n], rfl, ?_, rfl, rfl, rfl⟩
    simp [fnD, fnI, outFr, outFi, sThen, sIf, sAsg, sOpt, sRet, sExpr, sPutO, sOwnL, sRetO, sPar, sNil, sFor, iSeq, iRng, eVar, eC, eBin, eChain, eIxO, eLenO, eIsi, eCall, eTupD, eLstD, eFn, eFnI, eFnO, aOwn, sAppO, sExtO, ePopO, eInO, sOwnN, nDisp, nLst, sParDO, sParOO, eTupRg, eLstRg, r1Rg, r2Rg, eRevL, putO, sAug, eIfD, eNotD, eAndD, eOrD, eNegD, eSl, pNone, pSome, aNilD, aConsD, tV, tT, tOwn, tNotD, tAndD, tOrD, tYesD, asB, truD, Rs.bind, Rs.of, Rs.out, frRs, ownAt, setD, noOwn, setNil, setCons, setTup, seqOf, sz0, sz1, sz2, sz3, sz4, sz5, sz6, sz7, sz8, gAdd, gSub_int, gMod_int, gDiv_int, gLe_int, gLt, gGt_int, gGe_int, gIsN, gIsB, isNone, gIx_web0, gIx_web1, gIx_tup, gIx_list, gIx_scr, gLen, gTupOf, gLstOf, gIntOf, isIntD, isBoolD, isStrD, isTupD, isLstD, zipG, gLt_int, hij]) _ rfl
  have a2 := eAll_of (fi := iRng zipG (aConsD (eVar 2) (aConsD (eSl (eVar 2) (pSome (eC (.int 1))) pNone) aNilD))) (ρ := [.d (webD h ss), .d (.int h), .d (.tuple (pis ss)), .n, .n, .n]) (ρ1 := [.d (webD h ss), .d (.int h), .d (.tuple (pis ss)), .n, .n, .n]) (items := List.zipWith pairD (pis ss) ((pis ss).drop 1)) (by
    simp [fnD, fnI, outFr, outFi, sThen, sIf, sAsg, sOpt, sRet, sExpr, sPutO, sOwnL, sRetO, sPar, sNil, sFor, iSeq, iRng, eVar, eC, eBin, eChain, eIxO, eLenO, eIsi, eCall, eTupD, eLstD, eFn, eFnI, eFnO, aOwn, sAppO, sExtO, ePopO, eInO, sOwnN, nDisp, nLst, sParDO, sParOO, eTupRg, eLstRg, r1Rg, r2Rg, eRevL, putO, sAug, eIfD, eNotD, eAndD, eOrD, eNegD, eSl, pNone, pSome, aNilD, aConsD, tV, tT, tOwn, tNotD, tAndD, tOrD, tYesD, asB, truD, Rs.bind, Rs.of, Rs.out, frRs, ownAt, setD, noOwn, setNil, setCons, setTup, seqOf, sz0, sz1, sz2, sz3, sz4, sz5, sz6, sz7, sz8, gAdd, gSub_int, gMod_int, gDiv_int, gLe_int, gLt, gGt_int, gGe_int, gIsN, gIsB, isNone, gIx_web0, gIx_web1, gIx_tup, gIx_list, gIx_scr, gLen, gTupOf, gLstOf, gIntOf, isIntD, isBoolD, isStrD, isTupD, isLstD, zipG, gSl, cut1]) rfl e2 rfl
  simp only [rwipe, List.set, all_t] at a1 a2
  simp [F_wrong_web, fb_wrong_web, fnD, fnI, outFr, outFi, sThen, sIf, sAsg, sOpt, sRet, sExpr, sPutO, sOwnL, sRetO, sPar, sNil, sFor, iSeq, iRng, eVar, eC, eBin, eChain, eIxO, eLenO, eIsi, eCall, eTupD, eLstD, eFn, eFnI, eFnO, aOwn, sAppO, sExtO, ePopO, eInO, sOwnN, nDisp, nLst, sParDO, sParOO, eTupRg, eLstRg, r1Rg, r2Rg, eRevL, putO, sAug, eIfD, eNotD, eAndD, eOrD, eNegD, eSl, pNone, pSome, aNilD, aConsD, tV, tT, tOwn, tNotD, tAndD, tOrD, tYesD, asB, truD, Rs.bind, Rs.of, Rs.out, frRs, ownAt, setD, noOwn, setNil, setCons, setTup, seqOf, sz0, sz1, sz2, sz3, sz4, sz5, sz6, sz7, sz8, gAdd, gSub_int, gMod_int, gDiv_int, gLe_int, gLt, gGt_int, gGe_int, gIsN, gIsB, isNone, gIx_web0, gIx_web1, gIx_tup, gIx_list, gIx_scr, gLen, gTupOf, gLstOf, gIntOf, isIntD, isBoolD, isStrD, isTupD, isLstD, zipG, webD, gNe_int, is_number_int, h1, h2] at a1 a2 ⊢
  simp [fnD, fnI, outFr, outFi, sThen, sIf, sAsg, sOpt, sRet, sExpr, sPutO, sOwnL, sRetO, sPar, sNil, sFor, iSeq, iRng, eVar, eC, eBin, eChain, eIxO, eLenO, eIsi, eCall, eTupD, eLstD, eFn, eFnI, eFnO, aOwn, sAppO, sExtO, ePopO, eInO, sOwnN, nDisp, nLst, sParDO, sParOO, eTupRg, eLstRg, r1Rg, r2Rg, eRevL, putO, sAug, eIfD, eNotD, eAndD, eOrD, eNegD, eSl, pNone, pSome, aNilD, aConsD, tV, tT, tOwn, tNotD, tAndD, tOrD, tYesD, asB, truD, Rs.bind, Rs.of, Rs.out, frRs, ownAt, setD, noOwn, setNil, setCons, setTup, seqOf, sz0, sz1, sz2, sz3, sz4, sz5, sz6, sz7, sz8, gAdd, gSub_int, gMod_int, gDiv_int, gLe_int, gLt, gGt_int, gGe_int, gIsN, gIsB, isNone, gIx_web0, gIx_web1, gIx_tup, gIx_list, gIx_scr, gLen, gTupOf, gLstOf, gIntOf, isIntD, isBoolD, isStrD, isTupD, isLstD, zipG, a1, a2]
theorem need_web_ok {h : Int} {ss : List Int} (W : IsWeb h ss) : F_need_web [webD h ss] = .ok .none := by
  simp [F_need_web, fb_need_web, fnD, fnI, outFr, outFi, sThen, sIf, sAsg, sOpt, sRet, sExpr, sPutO, sOwnL, sRetO, sPar, sNil, sFor, iSeq, iRng, eVar, eC, eBin, eChain, eIxO, eLenO, eIsi, eCall, eTupD, eLstD, eFn, eFnI, eFnO, aOwn, sAppO, sExtO, ePopO, eInO, sOwnN, nDisp, nLst, sParDO, sParOO, eTupRg, eLstRg, r1Rg, r2Rg, eRevL, putO, sAug, eIfD, eNotD, eAndD, eOrD, eNegD, eSl, pNone, pSome, aNilD, aConsD, tV, tT, tOwn, tNotD, tAndD, tOrD, tYesD, asB, truD, Rs.bind, Rs.of, Rs.out, frRs, ownAt, setD, noOwn, setNil, setCons, setTup, seqOf, sz0, sz1, sz2, sz3, sz4, sz5, sz6, sz7, sz8, gAdd, gSub_int, gMod_int, gDiv_int, gLe_int, gLt, gGt_int, gGe_int, gIsN, gIsB, isNone, gIx_web0, gIx_web1, gIx_tup, gIx_list, gIx_scr, gLen, gTupOf, gLstOf, gIntOf, isIntD, isBoolD, isStrD, isTupD, isLstD, zipG, wrong_web_ok W]
end LW

-- text MQ
set_option Elab.async false
set_option linter.all false
set_option maxRecDepth 100000
set_option maxHeartbeats 4000000
namespace LW
open PySem PySem.Spec L2 DL
theorem gAdd_lst {xs ys : List PyData} (h : xs.length + ys.length ≤ sizeLine) : gAdd (.list xs) (.list ys) = some (.list (xs ++ ys)) := by
  show (if _ then _ else _) = _
  rw [if_pos h]
theorem bind_ok {α β} {a : α} {ρ : RS} {f : α → RS → Rs β} : (Rs.ok a ρ).bind f = f a ρ := rfl
theorem of_s {α} {a : α} {ρ : RS} : Rs.of (some a) ρ = Rs.ok a ρ := rfl
theorem out_ok {α} {a : α} {ρ : RS} {f : α → RS → Out} : (Rs.ok a ρ).out f = f a ρ := rfl
theorem then1 {f g : RS → Out} {ρ ρ1 : RS} (h : f ρ = .nx ρ1) : sThen f g ρ = g ρ1 := by simp only [sThen, h]
theorem pis_inj {xs ys : List Int} (h : pis xs = pis ys) : xs = ys := List.map_inj_right (fun a b e => PyData.int.inj e) |>.mp h
end LW

-- text MLA
set_option Elab.async false
set_option linter.all false
set_option maxRecDepth 100000
set_option maxHeartbeats 4000000
namespace LW
open PySem PySem.Spec L2 DL
theorem at_of {xs : List PyData} {n : Nat} (h : n < xs.length) : atI xs (n : Int) = some xs[n] := by
  unfold atI ixN
  rw [if_pos (by omega), if_pos (by omega)]
  simp [h]
theorem alike_un (n : Nat) : F__law_alike (n + 1) = fnD 2 3 (fb__law_alike (F__law_alike n)) := by rw [F__law_alike]
theorem itA (N : Int) (xs : List PyData) (ρ : RS) (hr : ρ[1]? = some (.d (.list xs))) (hg : gLen [.list xs] = some (.int N)) (h0 : 0 ≤ N) (h1 : N ≤ 100000000) : iRng rng1 (aConsD (eCall gLen (aConsD (eVar 1) aNilD)) aNilD) ρ = .ok (pis (rngI 0 N)) ρ := by
  have e0 : eVar 1 ρ = .ok (.list xs) ρ := by unfold eVar; rw [hr]
  have e1 : aConsD (eVar 1) aNilD ρ = .ok [.list xs] ρ := by unfold aConsD; rw [e0]; rfl
  have e2 : eCall gLen (aConsD (eVar 1) aNilD) ρ = .ok (.int N) ρ := by
    unfold eCall
    rw [e1]
    simp only [Rs.bind]
    rw [hg]
    rfl
  have e3 : aConsD (eCall gLen (aConsD (eVar 1) aNilD)) aNilD ρ = .ok [.int N] ρ := by
    rw [aConsD, e2]
    rfl
  unfold iRng
  rw [e3]
  simp only [Rs.bind]
  rw [rng1_ok h0 h1]
  rfl
theorem alike_list {FF : List PyData → Fr} {xs : List PyData} (hl : xs.length ≤ 1000) (ihs : ∀ m : Nat, (hm : m < xs.length) → FF [xs[m], xs[m]] = .ok (.bool true)) : fnD 2 3 (fb__law_alike FF) [.list xs, .list xs] = .ok (.bool true) := by
  obtain ⟨N, hN⟩ : ∃ N : Int, N = xs.length := ⟨_, rfl⟩
  obtain ⟨ρ1, rfl, e1⟩ := lcL_det (g := setD 2) (ft := tNotD (tT (eFn 2 FF (aConsD (eBin gIx (eVar 0) (eVar 2)) (aConsD (eBin gIx (eVar 1) (eVar 2)) aNilD))))) (fe := eVar 2) (vs := [2]) (I := fun ρ => ρ = [.d (.list xs), .d (.list xs), .n]) (fun _ => false) (fun x => x) (pis (rngI 0 N)) (fun x hx ρ e => by
    subst e
    obtain ⟨i, hi, rfl⟩ := List.mem_map.mp hx
    obtain ⟨i1, i2⟩ := rngI_mem.mp hi
    obtain ⟨m, rfl⟩ := Int.eq_ofNat_of_zero_le i1
    have hm : m < xs.length := by omega
    refine ⟨[.d (.list xs), .d (.list xs), .d (.int m)], [.d (.list xs), .d (.list xs), .d (.int m)], rfl, ?_, fun _ => ⟨rfl, rfl⟩, fun z => (by cases z)⟩
    simp [fnD, fnI, outFr, outFi, sThen, sIf, sAsg, sOpt, sRet, sExpr, sPutO, sOwnL, sRetO, sPar, sNil, sFor, iSeq, iRng, eVar, eC, eBin, eChain, eIxO, eLenO, eIsi, eCall, eTupD, eLstD, eFn, eFnI, eFnO, aOwn, sAppO, sExtO, ePopO, eInO, sOwnN, nDisp, nLst, sParDO, sParOO, eTupRg, eLstRg, r1Rg, r2Rg, eRevL, putO, sAug, eIfD, eNotD, eAndD, eOrD, eNegD, eSl, pNone, pSome, aNilD, aConsD, tV, tT, tOwn, tNotD, tAndD, tOrD, tYesD, asB, truD, Rs.bind, Rs.of, Rs.out, frRs, ownAt, setD, noOwn, setNil, setCons, setTup, seqOf, sz0, sz1, sz2, sz3, sz4, sz5, sz6, sz7, sz8, gAdd, gSub_int, gMod_int, gDiv_int, gLe_int, gLt, gGt_int, gGe_int, gIsN, gIsB, isNone, gIx_web0, gIx_web1, gIx_tup, gIx_list, gIx_scr, gLen, gTupOf, gLstOf, gIntOf, isIntD, isBoolD, isStrD, isTupD, isLstD, zipG, at_of hm, ihs m hm]) _ rfl
  have hg : gLen [.list xs] = some (.int N) := by rw [hN]; rfl
  have c1 := eLc_of (fi := iRng rng1 (aConsD (eCall gLen (aConsD (eVar 1) aNilD)) aNilD)) (ρ := [.d (.list xs), .d (.list xs), .n]) (ρ1 := [.d (.list xs), .d (.list xs), .n]) (items := pis (rngI 0 N)) (itA N xs _ rfl hg (by omega) (by omega)) (by rw [pis_len, rngI_len]; exact size_small (by omega)) rfl e1 rfl
  have e2 : ((pis (rngI 0 N)).filter fun _ => false).map (fun x => x) = [] := by simp
  rw [e2] at c1
  simp only [rwipe, List.set] at c1
  have e0 : gEq (.list []) (.list []) = some (.bool true) := by rfl
  simp [fb__law_alike, fnD, fnI, outFr, outFi, sThen, sIf, sAsg, sOpt, sRet, sExpr, sPutO, sOwnL, sRetO, sPar, sNil, sFor, iSeq, iRng, eVar, eC, eBin, eChain, eIxO, eLenO, eIsi, eCall, eTupD, eLstD, eFn, eFnI, eFnO, aOwn, sAppO, sExtO, ePopO, eInO, sOwnN, nDisp, nLst, sParDO, sParOO, eTupRg, eLstRg, r1Rg, r2Rg, eRevL, putO, sAug, eIfD, eNotD, eAndD, eOrD, eNegD, eSl, pNone, pSome, aNilD, aConsD, tV, tT, tOwn, tNotD, tAndD, tOrD, tYesD, asB, truD, Rs.bind, Rs.of, Rs.out, frRs, ownAt, setD, noOwn, setNil, setCons, setTup, seqOf, sz0, sz1, sz2, sz3, sz4, sz5, sz6, sz7, sz8, gAdd, gSub_int, gMod_int, gDiv_int, gLe_int, gLt, gGt_int, gGe_int, gIsN, gIsB, isNone, gIx_web0, gIx_web1, gIx_tup, gIx_list, gIx_scr, gLen, gTupOf, gLstOf, gIntOf, isIntD, isBoolD, isStrD, isTupD, isLstD, zipG, gNe_bool, gNe_int, c1, e0]
theorem itB (N : Int) (xs : List PyData) (ρ : RS) (hr : ρ[1]? = some (.d (.tuple xs))) (hg : gLen [.tuple xs] = some (.int N)) (h0 : 0 ≤ N) (h1 : N ≤ 100000000) : iRng rng1 (aConsD (eCall gLen (aConsD (eVar 1) aNilD)) aNilD) ρ = .ok (pis (rngI 0 N)) ρ := by
  have e0 : eVar 1 ρ = .ok (.tuple xs) ρ := by unfold eVar; rw [hr]
  have e1 : aConsD (eVar 1) aNilD ρ = .ok [.tuple xs] ρ := by unfold aConsD; rw [e0]; rfl
  have e2 : eCall gLen (aConsD (eVar 1) aNilD) ρ = .ok (.int N) ρ := by
    unfold eCall
    rw [e1]
    simp only [Rs.bind]
    rw [hg]
    rfl
  have e3 : aConsD (eCall gLen (aConsD (eVar 1) aNilD)) aNilD ρ = .ok [.int N] ρ := by
    rw [aConsD, e2]
    rfl
  unfold iRng
  rw [e3]
  simp only [Rs.bind]
  rw [rng1_ok h0 h1]
  rfl
theorem alike_tuple {FF : List PyData → Fr} {xs : List PyData} (hl : xs.length ≤ 1000) (ihs : ∀ m : Nat, (hm : m < xs.length) → FF [xs[m], xs[m]] = .ok (.bool true)) : fnD 2 3 (fb__law_alike FF) [.tuple xs, .tuple xs] = .ok (.bool true) := by
  obtain ⟨N, hN⟩ : ∃ N : Int, N = xs.length := ⟨_, rfl⟩
  obtain ⟨ρ1, rfl, e1⟩ := lcL_det (g := setD 2) (ft := tNotD (tT (eFn 2 FF (aConsD (eBin gIx (eVar 0) (eVar 2)) (aConsD (eBin gIx (eVar 1) (eVar 2)) aNilD))))) (fe := eVar 2) (vs := [2]) (I := fun ρ => ρ = [.d (.tuple xs), .d (.tuple xs), .n]) (fun _ => false) (fun x => x) (pis (rngI 0 N)) (fun x hx ρ e => by
    subst e
    obtain ⟨i, hi, rfl⟩ := List.mem_map.mp hx
    obtain ⟨i1, i2⟩ := rngI_mem.mp hi
    obtain ⟨m, rfl⟩ := Int.eq_ofNat_of_zero_le i1
    have hm : m < xs.length := by omega
    refine ⟨[.d (.tuple xs), .d (.tuple xs), .d (.int m)], [.d (.tuple xs), .d (.tuple xs), .d (.int m)], rfl, ?_, fun _ => ⟨rfl, rfl⟩, fun z => (by cases z)⟩
    simp [fnD, fnI, outFr, outFi, sThen, sIf, sAsg, sOpt, sRet, sExpr, sPutO, sOwnL, sRetO, sPar, sNil, sFor, iSeq, iRng, eVar, eC, eBin, eChain, eIxO, eLenO, eIsi, eCall, eTupD, eLstD, eFn, eFnI, eFnO, aOwn, sAppO, sExtO, ePopO, eInO, sOwnN, nDisp, nLst, sParDO, sParOO, eTupRg, eLstRg, r1Rg, r2Rg, eRevL, putO, sAug, eIfD, eNotD, eAndD, eOrD, eNegD, eSl, pNone, pSome, aNilD, aConsD, tV, tT, tOwn, tNotD, tAndD, tOrD, tYesD, asB, truD, Rs.bind, Rs.of, Rs.out, frRs, ownAt, setD, noOwn, setNil, setCons, setTup, seqOf, sz0, sz1, sz2, sz3, sz4, sz5, sz6, sz7, sz8, gAdd, gSub_int, gMod_int, gDiv_int, gLe_int, gLt, gGt_int, gGe_int, gIsN, gIsB, isNone, gIx_web0, gIx_web1, gIx_tup, gIx_list, gIx_scr, gLen, gTupOf, gLstOf, gIntOf, isIntD, isBoolD, isStrD, isTupD, isLstD, zipG, at_of hm, ihs m hm]) _ rfl
  have hg : gLen [.tuple xs] = some (.int N) := by rw [hN]; rfl
  have c1 := eLc_of (fi := iRng rng1 (aConsD (eCall gLen (aConsD (eVar 1) aNilD)) aNilD)) (ρ := [.d (.tuple xs), .d (.tuple xs), .n]) (ρ1 := [.d (.tuple xs), .d (.tuple xs), .n]) (items := pis (rngI 0 N)) (itB N xs _ rfl hg (by omega) (by omega)) (by rw [pis_len, rngI_len]; exact size_small (by omega)) rfl e1 rfl
  have e2 : ((pis (rngI 0 N)).filter fun _ => false).map (fun x => x) = [] := by simp
  rw [e2] at c1
  simp only [rwipe, List.set] at c1
  have e0 : gEq (.list []) (.list []) = some (.bool true) := by rfl
  simp [fb__law_alike, fnD, fnI, outFr, outFi, sThen, sIf, sAsg, sOpt, sRet, sExpr, sPutO, sOwnL, sRetO, sPar, sNil, sFor, iSeq, iRng, eVar, eC, eBin, eChain, eIxO, eLenO, eIsi, eCall, eTupD, eLstD, eFn, eFnI, eFnO, aOwn, sAppO, sExtO, ePopO, eInO, sOwnN, nDisp, nLst, sParDO, sParOO, eTupRg, eLstRg, r1Rg, r2Rg, eRevL, putO, sAug, eIfD, eNotD, eAndD, eOrD, eNegD, eSl, pNone, pSome, aNilD, aConsD, tV, tT, tOwn, tNotD, tAndD, tOrD, tYesD, asB, truD, Rs.bind, Rs.of, Rs.out, frRs, ownAt, setD, noOwn, setNil, setCons, setTup, seqOf, sz0, sz1, sz2, sz3, sz4, sz5, sz6, sz7, sz8, gAdd, gSub_int, gMod_int, gDiv_int, gLe_int, gLt, gGt_int, gGe_int, gIsN, gIsB, isNone, gIx_web0, gIx_web1, gIx_tup, gIx_list, gIx_scr, gLen, gTupOf, gLstOf, gIntOf, isIntD, isBoolD, isStrD, isTupD, isLstD, zipG, gNe_bool, gNe_int, c1, e0]
theorem alike_flat {FF : List PyData → Fr} {d : PyData} (hd : d = .none ∨ (∃ b, d = .bool b) ∨ ∃ i, d = .int i) : fnD 2 3 (fb__law_alike FF) [d, d] = .ok (.bool true) := by
  rcases hd with rfl | ⟨b, rfl⟩ | ⟨i, rfl⟩
  · simp [fb__law_alike, fnD, fnI, outFr, outFi, sThen, sIf, sAsg, sOpt, sRet, sExpr, sPutO, sOwnL, sRetO, sPar, sNil, sFor, iSeq, iRng, eVar, eC, eBin, eChain, eIxO, eLenO, eIsi, eCall, eTupD, eLstD, eFn, eFnI, eFnO, aOwn, sAppO, sExtO, ePopO, eInO, sOwnN, nDisp, nLst, sParDO, sParOO, eTupRg, eLstRg, r1Rg, r2Rg, eRevL, putO, sAug, eIfD, eNotD, eAndD, eOrD, eNegD, eSl, pNone, pSome, aNilD, aConsD, tV, tT, tOwn, tNotD, tAndD, tOrD, tYesD, asB, truD, Rs.bind, Rs.of, Rs.out, frRs, ownAt, setD, noOwn, setNil, setCons, setTup, seqOf, sz0, sz1, sz2, sz3, sz4, sz5, sz6, sz7, sz8, gAdd, gSub_int, gMod_int, gDiv_int, gLe_int, gLt, gGt_int, gGe_int, gIsN, gIsB, isNone, gIx_web0, gIx_web1, gIx_tup, gIx_list, gIx_scr, gLen, gTupOf, gLstOf, gIntOf, isIntD, isBoolD, isStrD, isTupD, isLstD, zipG, gEq_bool, (Pl.non (n := 0)).eq]
  · simp [fb__law_alike, fnD, fnI, outFr, outFi, sThen, sIf, sAsg, sOpt, sRet, sExpr, sPutO, sOwnL, sRetO, sPar, sNil, sFor, iSeq, iRng, eVar, eC, eBin, eChain, eIxO, eLenO, eIsi, eCall, eTupD, eLstD, eFn, eFnI, eFnO, aOwn, sAppO, sExtO, ePopO, eInO, sOwnN, nDisp, nLst, sParDO, sParOO, eTupRg, eLstRg, r1Rg, r2Rg, eRevL, putO, sAug, eIfD, eNotD, eAndD, eOrD, eNegD, eSl, pNone, pSome, aNilD, aConsD, tV, tT, tOwn, tNotD, tAndD, tOrD, tYesD, asB, truD, Rs.bind, Rs.of, Rs.out, frRs, ownAt, setD, noOwn, setNil, setCons, setTup, seqOf, sz0, sz1, sz2, sz3, sz4, sz5, sz6, sz7, sz8, gAdd, gSub_int, gMod_int, gDiv_int, gLe_int, gLt, gGt_int, gGe_int, gIsN, gIsB, isNone, gIx_web0, gIx_web1, gIx_tup, gIx_list, gIx_scr, gLen, gTupOf, gLstOf, gIntOf, isIntD, isBoolD, isStrD, isTupD, isLstD, zipG, gEq_bool]
  · simp [fb__law_alike, fnD, fnI, outFr, outFi, sThen, sIf, sAsg, sOpt, sRet, sExpr, sPutO, sOwnL, sRetO, sPar, sNil, sFor, iSeq, iRng, eVar, eC, eBin, eChain, eIxO, eLenO, eIsi, eCall, eTupD, eLstD, eFn, eFnI, eFnO, aOwn, sAppO, sExtO, ePopO, eInO, sOwnN, nDisp, nLst, sParDO, sParOO, eTupRg, eLstRg, r1Rg, r2Rg, eRevL, putO, sAug, eIfD, eNotD, eAndD, eOrD, eNegD, eSl, pNone, pSome, aNilD, aConsD, tV, tT, tOwn, tNotD, tAndD, tOrD, tYesD, asB, truD, Rs.bind, Rs.of, Rs.out, frRs, ownAt, setD, noOwn, setNil, setCons, setTup, seqOf, sz0, sz1, sz2, sz3, sz4, sz5, sz6, sz7, sz8, gAdd, gSub_int, gMod_int, gDiv_int, gLe_int, gLt, gGt_int, gGe_int, gIsN, gIsB, isNone, gIx_web0, gIx_web1, gIx_tup, gIx_list, gIx_scr, gLen, gTupOf, gLstOf, gIntOf, isIntD, isBoolD, isStrD, isTupD, isLstD, zipG, gEq_bool, gEq_int]
theorem alike_self : ∀ {n : Nat} {d : PyData}, Pl n d → n ≤ 60 → F__law_alike (n + 1) [d, d] = .ok (.bool true) := by
  intro n
  induction n with
  | zero =>
    intro d p _
    rw [alike_un]
    cases p with
    | non => exact alike_flat (.inl rfl)
    | bl b => exact alike_flat (.inr (.inl ⟨b, rfl⟩))
    | int i => exact alike_flat (.inr (.inr ⟨i, rfl⟩))
  | succ n ih =>
    intro d p hn
    rw [alike_un]
    cases p with
    | non => exact alike_flat (.inl rfl)
    | bl b => exact alike_flat (.inr (.inl ⟨b, rfl⟩))
    | int i => exact alike_flat (.inr (.inr ⟨i, rfl⟩))
    | lst h hl => exact alike_list hl fun m hm => ih (h _ (List.getElem_mem hm)) (by omega)
    | tup h hl => exact alike_tuple hl fun m hm => ih (h _ (List.getElem_mem hm)) (by omega)
end LW

-- text MK08
set_option Elab.async false
set_option linter.all false
set_option maxRecDepth 100000
set_option maxHeartbeats 4000000
namespace LW
open PySem PySem.Spec L2 DL
/-! ### plain -/
theorem cut_init (xs : List Int) : cutD (pis xs) none (some (-1)) = pis xs.dropLast := by
  unfold cutD
  rw [show HT.sIx (pis xs).length 0 none = 0 from rfl, show HT.sIx (pis xs).length (pis xs).length (some (-1)) = (pis xs).length - 1 from by
    have e : HT.sIx (pis xs).length (pis xs).length (some (-1)) = ((-1 : Int) + ((pis xs).length : Int)).toNat := rfl
    rw [e]
    omega]
  simp only [List.drop_zero, Nat.sub_zero, pis, List.length_map]
  rw [← List.map_take, List.dropLast_eq_take]
theorem cut_take (xs : List Int) {k : Nat} (h : k ≤ xs.length) : cutD (pis xs) none (some (k : Int)) = pis (xs.take k) := by
  unfold cutD
  rw [show HT.sIx (pis xs).length 0 none = 0 from rfl, HT.sIx_nat]
  simp only [List.drop_zero, Nat.sub_zero, pis, List.length_map]
  rw [Nat.min_eq_left h, List.map_take]
/-- the halls come through -/
def pathL (h : Int) (xs : List Int) : List Int := (List.range (xs.length + 1)).map fun k => (xs.take k).sum % h
theorem path_len (h : Int) (xs : List Int) : (pathL h xs).length = xs.length + 1 := by simp [pathL]
theorem path_last (h : Int) (xs : List Int) : (pathL h xs).getLast? = some (xs.sum % h) := by
  unfold pathL
  rw [List.range_succ, List.map_append]
  simp
theorem path_app (h : Int) (xs : List Int) (n : Int) : pathL h (xs ++ [n]) = pathL h xs ++ [(xs.sum % h + n) % h] := by
  unfold pathL
  rw [List.length_append, List.length_singleton, List.range_succ, List.map_append]
  congr 1
  · refine List.map_congr_left fun k hk => ?_
    have : k < xs.length + 1 := List.mem_range.mp hk
    rw [List.take_append_of_le_length (by omega)]
  · simp [List.take_of_length_le]
theorem path_drop (h : Int) {xs : List Int} (hx : xs ≠ []) : pathL h xs.dropLast = (pathL h xs).dropLast := by
  have e := List.dropLast_concat_getLast hx
  have e2 := path_app h xs.dropLast (xs.getLast hx)
  rw [e] at e2
  rw [e2, List.dropLast_concat]
theorem pi_line {line : List Int} (hl : line.length ≤ 1000) : PI 1 (.tuple (pis line)) := .tup (fun x hx => by
  obtain ⟨i, _, rfl⟩ := List.mem_map.mp hx
  exact .int i) (by rw [pis_len]; exact hl)
theorem ne_nil {line : List Int} (hl : line.length ≤ 1000) : gNe (.tuple (pis line)) (.tuple []) = some (.bool (!decide (line = []))) := by
  by_cases h : line = []
  · subst h
    exact gNe_t (pi_line (line := []) (by simp)) (pi_line (line := []) (by simp)) (by decide) (by decide) rfl
  · have e := gNe_f (pi_line hl) (pi_line (line := []) (by simp)) (by decide) (by decide) (fun z => h (by
      injection z with z
      cases line with
      | nil => rfl
      | cons x xs => cases z))
    rw [decide_eq_false h]
    exact e
theorem ne_c : gNe .none .none = some (.bool false) ∧ gNe (.str "none") (.str "none") = some (.bool false) ∧ gNe (.str "bad") (.str "bad") = some (.bool false) := ⟨by kernel_rfl, by kernel_rfl, by kernel_rfl⟩
abbrev st8 (sc : PyData) (row : List PyData) (h : Int) (ss : List Int) (a : Addr) (line : List Int) (t5 t6 t8 t9 t10 t11 : Sl) : RS := [.d sc, .o row, .d (webD h ss), .a a, .d (.tuple (pis line)), t5, t6, .n, t8, t9, t10, t11, .n]
def Fre (t : Sl) : Prop := t = .n ∨ ∃ d, t = .d d
theorem path_ok {sc : PyData} {row : List PyData} {h : Int} {ss : List Int} {a : Addr} {line : List Int} {t5 t6 t8 t9 t10 t11 : Sl} {s : WSt} (hh : 2 ≤ h) (hl : line.length ≤ 100) (f : Fre t11) :
    (wLift 3 (sAsg (eCall gTupOf (aConsD (eLc (iRng rng1 (aConsD (eBin gAdd (eCall gLen (aConsD (eVar 4) aNilD)) (eC (.int 1))) aNilD)) (setD 12) tYesD (eBin gMod (eCall gSumT (aConsD (eSl (eVar 4) pNone (pSome (eVar 12))) aNilD)) (eBin gIx (eVar 2) (eC (.int 0)))) [12]) aNilD)) (setD 11))) (st8 sc row h ss a line t5 t6 t8 t9 t10 t11) s = .nx (st8 sc row h ss a line t5 t6 t8 t9 t10 (.d (.tuple (pis (pathL h line))))) s := by
  obtain ⟨ρ1, rfl, e1⟩ := lcL_det (g := setD 12) (ft := tYesD) (fe := eBin gMod (eCall gSumT (aConsD (eSl (eVar 4) pNone (pSome (eVar 12))) aNilD)) (eBin gIx (eVar 2) (eC (.int 0)))) (vs := [12]) (I := fun ρ => ρ = st8 sc row h ss a line t5 t6 t8 t9 t10 t11) (fun _ => true) (fun x => match x with | .int k => .int ((line.take k.toNat).sum % h) | d => d) (pis (rngI 0 ((line.length : Int) + 1))) (fun x hx ρ e => by
    subst e
    obtain ⟨k, hk, rfl⟩ := List.mem_map.mp hx
    obtain ⟨k0, k1⟩ := rngI_mem.mp hk
    obtain ⟨n, rfl⟩ := Int.eq_ofNat_of_zero_le k0
    refine ⟨st8 sc row h ss a line t5 t6 t8 t9 t10 t11 |>.set 12 (.d (.int n)), _, rfl, rfl, fun z => (by cases z), fun _ => ⟨st8 sc row h ss a line t5 t6 t8 t9 t10 t11 |>.set 12 (.d (.int n)), ?_, rfl, rfl⟩⟩
    have g1 : gSumT [.tuple (pis (line.take n))] = some (.int (line.take n).sum) := by
      show (intsOf (pis (line.take n))).map _ = _
      rw [show pis (line.take n) = (line.take n).map PyData.int from rfl, intsOf_map]
      rfl
    have g2 : gSl (.tuple (pis line)) none (some (n : Int)) = some (.tuple (pis (line.take n))) := by
      show some (PyData.tuple (cutD (pis line) none (some (n : Int)))) = _
      rw [cut_take line (by omega)]
    simp [fnD, fnI, outFr, outFi, sThen, sIf, sAsg, sOpt, sRet, sExpr, sPutO, sOwnL, sRetO, sPar, sNil, sFor, iSeq, iRng, eVar, eC, eBin, eChain, eIxO, eLenO, eIsi, eCall, eTupD, eLstD, eFn, eFnI, eFnO, aOwn, sAppO, sExtO, ePopO, eInO, sOwnN, nDisp, nLst, sParDO, sParOO, eTupRg, eLstRg, r1Rg, r2Rg, eRevL, putO, sAug, eIfD, eNotD, eAndD, eOrD, eNegD, eSl, pNone, pSome, aNilD, aConsD, tV, tT, tOwn, tNotD, tAndD, tOrD, tYesD, asB, truD, Rs.bind, Rs.of, Rs.out, frRs, ownAt, setD, noOwn, setNil, setCons, setTup, seqOf, sz0, sz1, sz2, sz3, sz4, sz5, sz6, sz7, sz8, gAdd, gSub_int, gMod_int, gDiv_int, gLe_int, gLt, gGt_int, gGe_int, gIsN, gIsB, isNone, gIx_web0, gIx_web1, gIx_tup, gIx_list, gIx_scr, gLen, gTupOf, gLstOf, gIntOf, isIntD, isBoolD, isStrD, isTupD, isLstD, zipG, g1, g2, show (0 : Int) < h by omega]) _ rfl
  have lc1 := eLc_of (fi := iRng rng1 (aConsD (eBin gAdd (eCall gLen (aConsD (eVar 4) aNilD)) (eC (.int 1))) aNilD)) (ρ := st8 sc row h ss a line t5 t6 t8 t9 t10 t11) (ρ1 := st8 sc row h ss a line t5 t6 t8 t9 t10 t11) (items := pis (rngI 0 ((line.length : Int) + 1))) (by
    have gl : gLen [.tuple (pis line)] = some (.int line.length) := by simp [gLen, pis, sizeLine_eq, show line.length ≤ 1000 by omega]
    simp [fnD, fnI, outFr, outFi, sThen, sIf, sAsg, sOpt, sRet, sExpr, sPutO, sOwnL, sRetO, sPar, sNil, sFor, iSeq, iRng, eVar, eC, eBin, eChain, eIxO, eLenO, eIsi, eCall, eTupD, eLstD, eFn, eFnI, eFnO, aOwn, sAppO, sExtO, ePopO, eInO, sOwnN, nDisp, nLst, sParDO, sParOO, eTupRg, eLstRg, r1Rg, r2Rg, eRevL, putO, sAug, eIfD, eNotD, eAndD, eOrD, eNegD, eSl, pNone, pSome, aNilD, aConsD, tV, tT, tOwn, tNotD, tAndD, tOrD, tYesD, asB, truD, Rs.bind, Rs.of, Rs.out, frRs, ownAt, setD, noOwn, setNil, setCons, setTup, seqOf, sz0, sz1, sz2, sz3, sz4, sz5, sz6, sz7, sz8, gAdd, gSub_int, gMod_int, gDiv_int, gLe_int, gLt, gGt_int, gGe_int, gIsN, gIsB, isNone, gIx_web0, gIx_web1, gIx_tup, gIx_list, gIx_scr, gTupOf, gLstOf, gIntOf, isIntD, isBoolD, isStrD, isTupD, isLstD, zipG, gl, rng1_ok (n := (line.length : Int) + 1) (by omega) (by omega)]) (by rw [pis_len, rngI_len]; exact size_small (by omega)) rfl e1 rfl
  have e2 : ((pis (rngI 0 ((line.length : Int) + 1))).filter (fun _ => true)).map (fun x => match x with | .int k => .int ((line.take k.toNat).sum % h) | d => d) = pis (pathL h line) := by
    have ef : (pis (rngI 0 ((line.length : Int) + 1))).filter (fun _ => true) = pis (rngI 0 ((line.length : Int) + 1)) := List.filter_eq_self.mpr fun _ _ => rfl
    rw [ef]
    unfold pis rngI pathL
    rw [List.map_map, List.map_map, List.map_map]
    rw [show (((line.length : Int) + 1) - 0).toNat = line.length + 1 by omega]
    refine List.map_congr_left fun k _ => ?_
    simp
  rw [e2] at lc1
  simp only [rwipe, List.set] at lc1
  have gt : gTupOf [.list (pis (pathL h line))] = some (.tuple (pis (pathL h line))) := rfl
  rcases f with rfl | ⟨d, rfl⟩ <;> simp [wLift, fnD, fnI, outFr, outFi, sThen, sIf, sAsg, sOpt, sRet, sExpr, sPutO, sOwnL, sRetO, sPar, sNil, sFor, iSeq, iRng, eVar, eC, eBin, eChain, eIxO, eLenO, eIsi, eCall, eTupD, eLstD, eFn, eFnI, eFnO, aOwn, sAppO, sExtO, ePopO, eInO, sOwnN, nDisp, nLst, sParDO, sParOO, eTupRg, eLstRg, r1Rg, r2Rg, eRevL, putO, sAug, eIfD, eNotD, eAndD, eOrD, eNegD, eSl, pNone, pSome, aNilD, aConsD, tV, tT, tOwn, tNotD, tAndD, tOrD, tYesD, asB, truD, Rs.bind, Rs.of, Rs.out, frRs, ownAt, setD, noOwn, setNil, setCons, setTup, seqOf, sz0, sz1, sz2, sz3, sz4, sz5, sz6, sz7, sz8, gAdd, gSub_int, gMod_int, gDiv_int, gLe_int, gLt, gGt_int, gGe_int, gIsN, gIsB, isNone, gIx_web0, gIx_web1, gIx_tup, gIx_list, gIx_scr, gLen, gTupOf, gLstOf, gIntOf, isIntD, isBoolD, isStrD, isTupD, isLstD, zipG, lc1, gt, isA]
section
variable {sc : PyData} {row : List PyData} {h : Int} {ss : List Int} {a : Addr} {line : List Int} {t5 t6 t8 t9 t10 t11 : Sl} {s : WSt}
theorem chkU (hl : line.length ≤ 100) : (wLift 3 (sIf (tV (eBin gNe (eVar 6) (eIfD (tV (eBin gNe (eVar 4) (eTupD aNilD))) (eC .none) (eC (.str "none"))))) (sRet (eC (.bool false))) sNil)) (st8 sc row h ss a line t5 (.d (if line = [] then .str "none" else .none)) t8 t9 t10 t11) s = .nx (st8 sc row h ss a line t5 (.d (if line = [] then .str "none" else .none)) t8 t9 t10 t11) s := by
  have e := ne_nil (line := line) (by omega)
  obtain ⟨c1, c2, c3⟩ := ne_c
  by_cases hn : line = []
  · simp [wLift, fnD, fnI, outFr, outFi, sThen, sIf, sAsg, sOpt, sRet, sExpr, sPutO, sOwnL, sRetO, sPar, sNil, sFor, iSeq, iRng, eVar, eC, eBin, eChain, eIxO, eLenO, eIsi, eCall, eTupD, eLstD, eFn, eFnI, eFnO, aOwn, sAppO, sExtO, ePopO, eInO, sOwnN, nDisp, nLst, sParDO, sParOO, eTupRg, eLstRg, r1Rg, r2Rg, eRevL, putO, sAug, eIfD, eNotD, eAndD, eOrD, eNegD, eSl, pNone, pSome, aNilD, aConsD, tV, tT, tOwn, tNotD, tAndD, tOrD, tYesD, asB, truD, Rs.bind, Rs.of, Rs.out, frRs, ownAt, setD, noOwn, setNil, setCons, setTup, seqOf, sz0, sz1, sz2, sz3, sz4, sz5, sz6, sz7, sz8, gAdd, gSub_int, gMod_int, gDiv_int, gLe_int, gLt, gGt_int, gGe_int, gIsN, gIsB, isNone, gIx_web0, gIx_web1, gIx_tup, gIx_list, gIx_scr, gLen, gTupOf, gLstOf, gIntOf, isIntD, isBoolD, isStrD, isTupD, isLstD, zipG, e, hn, c1, c2, isA]
    simp [hn] at e
    simp [e, c2, isA]
  · simp [wLift, fnD, fnI, outFr, outFi, sThen, sIf, sAsg, sOpt, sRet, sExpr, sPutO, sOwnL, sRetO, sPar, sNil, sFor, iSeq, iRng, eVar, eC, eBin, eChain, eIxO, eLenO, eIsi, eCall, eTupD, eLstD, eFn, eFnI, eFnO, aOwn, sAppO, sExtO, ePopO, eInO, sOwnN, nDisp, nLst, sParDO, sParOO, eTupRg, eLstRg, r1Rg, r2Rg, eRevL, putO, sAug, eIfD, eNotD, eAndD, eOrD, eNegD, eSl, pNone, pSome, aNilD, aConsD, tV, tT, tOwn, tNotD, tAndD, tOrD, tYesD, asB, truD, Rs.bind, Rs.of, Rs.out, frRs, ownAt, setD, noOwn, setNil, setCons, setTup, seqOf, sz0, sz1, sz2, sz3, sz4, sz5, sz6, sz7, sz8, gAdd, gSub_int, gMod_int, gDiv_int, gLe_int, gLt, gGt_int, gGe_int, gIsN, gIsB, isNone, gIx_web0, gIx_web1, gIx_tup, gIx_list, gIx_scr, gLen, gTupOf, gLstOf, gIntOf, isIntD, isBoolD, isStrD, isTupD, isLstD, zipG, e, hn, c1, c2, isA]
theorem lineU : (wLift 3 (sAsg (eSl (eVar 4) pNone (pSome (eNegD (eC (.int 1))))) (setD 4))) (st8 sc row h ss a line t5 t6 t8 t9 t10 t11) s = .nx (st8 sc row h ss a line.dropLast t5 t6 t8 t9 t10 t11) s := by
  have g2 : gSl (.tuple (pis line)) none (some (-1)) = some (.tuple (pis line.dropLast)) := by
    show some (PyData.tuple (cutD (pis line) none (some (-1)))) = _
    rw [cut_init]
  simp [wLift, fnD, fnI, outFr, outFi, sThen, sIf, sAsg, sOpt, sRet, sExpr, sPutO, sOwnL, sRetO, sPar, sNil, sFor, iSeq, iRng, eVar, eC, eBin, eChain, eIxO, eLenO, eIsi, eCall, eTupD, eLstD, eFn, eFnI, eFnO, aOwn, sAppO, sExtO, ePopO, eInO, sOwnN, nDisp, nLst, sParDO, sParOO, eTupRg, eLstRg, r1Rg, r2Rg, eRevL, putO, sAug, eIfD, eNotD, eAndD, eOrD, eNegD, eSl, pNone, pSome, aNilD, aConsD, tV, tT, tOwn, tNotD, tAndD, tOrD, tYesD, asB, truD, Rs.bind, Rs.of, Rs.out, frRs, ownAt, setD, noOwn, setNil, setCons, setTup, seqOf, sz0, sz1, sz2, sz3, sz4, sz5, sz6, sz7, sz8, gAdd, gSub_int, gMod_int, gDiv_int, gLe_int, gLt, gGt_int, gGe_int, gIsN, gIsB, isNone, gIx_web0, gIx_web1, gIx_tup, gIx_list, gIx_scr, gLen, gTupOf, gLstOf, gIntOf, isIntD, isBoolD, isStrD, isTupD, isLstD, zipG, g2, isA]
theorem tryU (hs : s = ⟨h, ss, line, pathL h line⟩) (f : Fre t6) : (wTry 3 7 6 "none" mUndo) (st8 sc row h ss a line t5 t6 t8 t9 t10 t11) s = .nx (st8 sc row h ss a line t5 (.d (if line = [] then .str "none" else .none)) t8 t9 t10 t11) ⟨h, ss, line.dropLast, pathL h line.dropLast⟩ := by
  subst hs
  have hp : (pathL h line).isEmpty = false := by
    rw [List.isEmpty_eq_false_iff]
    intro z
    have := path_len h line
    rw [z] at this
    simp at this
  cases line with
  | nil => rcases f with rfl | ⟨d, rfl⟩ <;> simp [wTry, mUndo, hp, setD, noOwn, isA, isNB]
  | cons x xs =>
    have e := path_drop h (xs := x :: xs) (by simp)
    rcases f with rfl | ⟨d, rfl⟩ <;> simp [wTry, mUndo, hp, setD, noOwn, isA, isNB, e]
theorem undU (hl : line.length ≤ 100) (f : Fre t6) : ∃ d, (wThen (wTry 3 7 6 "none" mUndo)
  (wThen (wLift 3 (sIf (tV (eBin gNe (eVar 6) (eIfD (tV (eBin gNe (eVar 4) (eTupD aNilD))) (eC .none) (eC (.str "none"))))) (sRet (eC (.bool false))) sNil))
  (wLift 3 (sAsg (eSl (eVar 4) pNone (pSome (eNegD (eC (.int 1))))) (setD 4))))) (st8 sc row h ss a line t5 t6 t8 t9 t10 t11) ⟨h, ss, line, pathL h line⟩ = .nx (st8 sc row h ss a line.dropLast t5 (.d d) t8 t9 t10 t11) ⟨h, ss, line.dropLast, pathL h line.dropLast⟩ := by
  refine ⟨if line = [] then .str "none" else .none, ?_⟩
  rw [wThen, tryU rfl f]
  simp only
  rw [wThen, chkU hl]
  simp only
  exact lineU
/-! ### a step -/
theorem rep3 {xs : List PyData} (h : xs.length ≤ 100) : gMulG (.list xs) (.int 3) = some (.list (xs ++ (xs ++ xs))) := by
  unfold gMulG gMul
  have e : (decide (-(2 ^ 63) ≤ (3 : Int)) && decide ((3 : Int) < 2 ^ 63) && decide (xs.length * (3 : Int).toNat ≤ sizeLine)) = true := by
    simp only [Bool.and_eq_true, decide_eq_true_eq]
    refine ⟨⟨by decide, by decide⟩, ?_⟩
    rw [sizeLine_eq, show (3 : Int).toNat = 3 from rfl]
    omega
  simp only [e, if_true]
  simp [repN]
/-- what is drawn as a step -/
def Odd8 (x : PyData) : Prop := x = .none ∨ x = .bool true ∨ x = .str "1" ∨ ∃ m, x = .int m
theorem oddG (hr : Row row) (h2 : 2 ≤ h) (h3 : h ≤ 13) (f : Fre t8) : ∃ row' r, Row row' ∧ (wLift 3 (sAsg (eLstD (aConsD (eC .none) (aConsD (eC (.int 0)) (aConsD (eBin gIx (eVar 2) (eC (.int 0))) (aConsD (eBin gSub (eC (.int 0)) (eC (.int 1))) (aConsD (eC (.bool true)) (aConsD (eC (.str "1")) (aConsD (eBin gAdd (eC (.int 1)) (eFnI 1 2 F__law_taken (aConsD (eBin gSub (eBin gIx (eVar 2) (eC (.int 0))) (eC (.int 1))) aNilD))) aNilD)))))))) (setD 8))) (st8 sc row h ss a line t5 t6 t8 t9 t10 t11) s = .nx (st8 sc row' h ss a line t5 t6 (.d (.list [.none, .int 0, .int h, .int (-1), .bool true, .str "1", .int (1 + r)])) t9 t10 t11) s := by
  obtain ⟨r, row', e, r0, r1, hr'⟩ := taken_ok hr (m := h - 1) (by omega) (by omega)
  refine ⟨row', r, hr', ?_⟩
  rcases f with rfl | ⟨d, rfl⟩ <;> simp [wLift, fnD, fnI, outFr, outFi, sThen, sIf, sAsg, sOpt, sRet, sExpr, sPutO, sOwnL, sRetO, sPar, sNil, sFor, iSeq, iRng, eVar, eC, eBin, eChain, eIxO, eLenO, eIsi, eCall, eTupD, eLstD, eFn, eFnI, eFnO, aOwn, sAppO, sExtO, ePopO, eInO, sOwnN, nDisp, nLst, sParDO, sParOO, eTupRg, eLstRg, r1Rg, r2Rg, eRevL, putO, sAug, eIfD, eNotD, eAndD, eOrD, eNegD, eSl, pNone, pSome, aNilD, aConsD, tV, tT, tOwn, tNotD, tAndD, tOrD, tYesD, asB, truD, Rs.bind, Rs.of, Rs.out, frRs, ownAt, setD, noOwn, setNil, setCons, setTup, seqOf, sz0, sz1, sz2, sz3, sz4, sz5, sz6, sz7, sz8, gAdd, gSub_int, gMod_int, gDiv_int, gLe_int, gLt, gGt_int, gGe_int, gIsN, gIsB, isNone, gIx_web0, gIx_web1, gIx_tup, gIx_list, gIx_scr, gLen, gTupOf, gLstOf, gIntOf, isIntD, isBoolD, isStrD, isTupD, isLstD, zipG, e, isA]
theorem pickG (hr : Row row) (W : IsWeb h ss) {r : Int} (f : Fre t9) : ∃ row' x, Row row' ∧ Odd8 x ∧ (wLift 3 (sAsg (eFnI 1 2 F__law_pick (aConsD (eBin gAdd (eBin gMulG (eCall gLstOf (aConsD (eBin gIx (eVar 2) (eC (.int 1))) aNilD)) (eC (.int 3))) (eVar 8)) aNilD)) (setD 9))) (st8 sc row h ss a line t5 t6 (.d (.list [.none, .int 0, .int h, .int (-1), .bool true, .str "1", .int (1 + r)])) t9 t10 t11) s = .nx (st8 sc row' h ss a line t5 t6 (.d (.list [.none, .int 0, .int h, .int (-1), .bool true, .str "1", .int (1 + r)])) (.d x) t10 t11) s := by
  have hs : (pis ss).length ≤ 100 := by
    have := web_len W
    rw [pis_len]
    omega
  obtain ⟨x, row', e, hx, hr'⟩ := pick_ok hr (ts := (pis ss ++ (pis ss ++ pis ss)) ++ [.none, .int 0, .int h, .int (-1), .bool true, .str "1", .int (1 + r)]) (by simp) (by simp; omega)
  have hadd : gAdd (.list (pis ss ++ (pis ss ++ pis ss))) (.list [.none, .int 0, .int h, .int (-1), .bool true, .str "1", .int (1 + r)]) = some (.list ((pis ss ++ (pis ss ++ pis ss)) ++ [.none, .int 0, .int h, .int (-1), .bool true, .str "1", .int (1 + r)])) := gAdd_lst (by simp [sizeLine_eq]; omega)
  have hl : gLstOf [.tuple (pis ss)] = some (.list (pis ss)) := rfl
  have ho : Odd8 x := by
    have insD : ∀ y ∈ pis ss, Odd8 y := fun y hy => by
      obtain ⟨i, _, rfl⟩ := List.mem_map.mp hy
      exact .inr (.inr (.inr ⟨i, rfl⟩))
    rcases List.mem_append.mp hx with m | m
    · rcases List.mem_append.mp m with m | m
      · exact insD x m
      · rcases List.mem_append.mp m with m | m <;> exact insD x m
    · simp only [List.mem_cons, List.not_mem_nil, or_false] at m
      rcases m with rfl | rfl | rfl | rfl | rfl | rfl | rfl
      · exact .inl rfl
      · exact .inr (.inr (.inr ⟨_, rfl⟩))
      · exact .inr (.inr (.inr ⟨_, rfl⟩))
      · exact .inr (.inr (.inr ⟨_, rfl⟩))
      · exact .inr (.inl rfl)
      · exact .inr (.inr (.inl rfl))
      · exact .inr (.inr (.inr ⟨_, rfl⟩))
  refine ⟨row', x, hr', ho, ?_⟩
  have ix := gIx_web1 h ss
  rcases f with rfl | ⟨d, rfl⟩ <;> simp only [wLift, sAsg, eFnI, aConsD, aNilD, eBin, eCall, eVar, eC, Rs.bind, Rs.of, Rs.out, List.getElem?_cons_succ, List.getElem?_cons_zero, ix, hl, rep3 hs, hadd, e, bind_ok, of_s, out_ok, List.length_cons, List.length_nil, if_true, List.set, sOpt, setD, noOwn, isA] <;> simp
theorem odd_flat {x : PyData} (o : Odd8 x) : flatD x = true := by
  rcases o with rfl | rfl | rfl | ⟨m, rfl⟩ <;> rfl
theorem goodG {x : PyData} (o : Odd8 x) (f : Fre t10) : (wLift 3 (sAsg (eAndD (eIsi isIntD (eVar 9)) (eAndD (eNotD (eIsi isBoolD (eVar 9))) (eBin (gInH false) (eVar 9) (eBin gIx (eVar 2) (eC (.int 1)))))) (setD 10))) (st8 sc row h ss a line t5 t6 t8 (.d x) t10 t11) s = .nx (st8 sc row h ss a line t5 t6 t8 (.d x) (.d (.bool (goodD x ss).isSome)) t11) s := by
  have ix := gIx_web1 h ss
  rcases o with rfl | rfl | rfl | ⟨m, rfl⟩
  · rcases f with rfl | ⟨d, rfl⟩ <;> simp [wLift, fnD, fnI, outFr, outFi, sThen, sIf, sAsg, sOpt, sRet, sExpr, sPutO, sOwnL, sRetO, sPar, sNil, sFor, iSeq, iRng, eVar, eC, eBin, eChain, eIxO, eLenO, eIsi, eCall, eTupD, eLstD, eFn, eFnI, eFnO, aOwn, sAppO, sExtO, ePopO, eInO, sOwnN, nDisp, nLst, sParDO, sParOO, eTupRg, eLstRg, r1Rg, r2Rg, eRevL, putO, sAug, eIfD, eNotD, eAndD, eOrD, eNegD, eSl, pNone, pSome, aNilD, aConsD, tV, tT, tOwn, tNotD, tAndD, tOrD, tYesD, asB, truD, Rs.bind, Rs.of, Rs.out, frRs, ownAt, setD, noOwn, setNil, setCons, setTup, seqOf, sz0, sz1, sz2, sz3, sz4, sz5, sz6, sz7, sz8, gAdd, gSub_int, gMod_int, gDiv_int, gLe_int, gLt, gGt_int, gGe_int, gIsN, gIsB, isNone, gIx_web0, gIx_web1, gIx_tup, gIx_list, gIx_scr, gLen, gTupOf, gLstOf, gIntOf, isIntD, isBoolD, isStrD, isTupD, isLstD, zipG, isA, goodD]
  · rcases f with rfl | ⟨d, rfl⟩ <;> simp [wLift, fnD, fnI, outFr, outFi, sThen, sIf, sAsg, sOpt, sRet, sExpr, sPutO, sOwnL, sRetO, sPar, sNil, sFor, iSeq, iRng, eVar, eC, eBin, eChain, eIxO, eLenO, eIsi, eCall, eTupD, eLstD, eFn, eFnI, eFnO, aOwn, sAppO, sExtO, ePopO, eInO, sOwnN, nDisp, nLst, sParDO, sParOO, eTupRg, eLstRg, r1Rg, r2Rg, eRevL, putO, sAug, eIfD, eNotD, eAndD, eOrD, eNegD, eSl, pNone, pSome, aNilD, aConsD, tV, tT, tOwn, tNotD, tAndD, tOrD, tYesD, asB, truD, Rs.bind, Rs.of, Rs.out, frRs, ownAt, setD, noOwn, setNil, setCons, setTup, seqOf, sz0, sz1, sz2, sz3, sz4, sz5, sz6, sz7, sz8, gAdd, gSub_int, gMod_int, gDiv_int, gLe_int, gLt, gGt_int, gGe_int, gIsN, gIsB, isNone, gIx_web0, gIx_web1, gIx_tup, gIx_list, gIx_scr, gLen, gTupOf, gLstOf, gIntOf, isIntD, isBoolD, isStrD, isTupD, isLstD, zipG, isA, goodD]
  · rcases f with rfl | ⟨d, rfl⟩ <;> simp [wLift, fnD, fnI, outFr, outFi, sThen, sIf, sAsg, sOpt, sRet, sExpr, sPutO, sOwnL, sRetO, sPar, sNil, sFor, iSeq, iRng, eVar, eC, eBin, eChain, eIxO, eLenO, eIsi, eCall, eTupD, eLstD, eFn, eFnI, eFnO, aOwn, sAppO, sExtO, ePopO, eInO, sOwnN, nDisp, nLst, sParDO, sParOO, eTupRg, eLstRg, r1Rg, r2Rg, eRevL, putO, sAug, eIfD, eNotD, eAndD, eOrD, eNegD, eSl, pNone, pSome, aNilD, aConsD, tV, tT, tOwn, tNotD, tAndD, tOrD, tYesD, asB, truD, Rs.bind, Rs.of, Rs.out, frRs, ownAt, setD, noOwn, setNil, setCons, setTup, seqOf, sz0, sz1, sz2, sz3, sz4, sz5, sz6, sz7, sz8, gAdd, gSub_int, gMod_int, gDiv_int, gLe_int, gLt, gGt_int, gGe_int, gIsN, gIsB, isNone, gIx_web0, gIx_web1, gIx_tup, gIx_list, gIx_scr, gLen, gTupOf, gLstOf, gIntOf, isIntD, isBoolD, isStrD, isTupD, isLstD, zipG, isA, goodD]
  · have e := (inH_flat (x := m) (ms := ss)).2
    have g : (goodD (.int m) ss).isSome = decide (m ∈ ss) := by
      unfold goodD
      by_cases hm : m ∈ ss <;> simp [hm]
    rw [g]
    rcases f with rfl | ⟨d, rfl⟩ <;> simp [wLift, fnD, fnI, outFr, outFi, sThen, sIf, sAsg, sOpt, sRet, sExpr, sPutO, sOwnL, sRetO, sPar, sNil, sFor, iSeq, iRng, eVar, eC, eBin, eChain, eIxO, eLenO, eIsi, eCall, eTupD, eLstD, eFn, eFnI, eFnO, aOwn, sAppO, sExtO, ePopO, eInO, sOwnN, nDisp, nLst, sParDO, sParOO, eTupRg, eLstRg, r1Rg, r2Rg, eRevL, putO, sAug, eIfD, eNotD, eAndD, eOrD, eNegD, eSl, pNone, pSome, aNilD, aConsD, tV, tT, tOwn, tNotD, tAndD, tOrD, tYesD, asB, truD, Rs.bind, Rs.of, Rs.out, frRs, ownAt, setD, noOwn, setNil, setCons, setTup, seqOf, sz0, sz1, sz2, sz3, sz4, sz5, sz6, sz7, sz8, gAdd, gSub_int, gMod_int, gDiv_int, gLe_int, gLt, gGt_int, gGe_int, gIsN, gIsB, isNone, gIx_web0, gIx_web1, gIx_tup, gIx_list, gIx_scr, gLen, gTupOf, gLstOf, gIntOf, isIntD, isBoolD, isStrD, isTupD, isLstD, zipG, isA, e]
def stepD (x : PyData) (ss line : List Int) : List Int := match goodD x ss with
  | some n => line ++ [n]
  | none => line
theorem tryG {x : PyData} (o : Odd8 x) (h2 : 2 ≤ h) (hl : line.length ≤ 100) (f : Fre t6) : (wTry 3 7 6 "bad" (mGo 3 (aConsD (eVar 9) aNilD))) (st8 sc row h ss a line t5 t6 t8 (.d x) t10 t11) ⟨h, ss, line, pathL h line⟩ = .nx (st8 sc row h ss a line t5 (.d (if (goodD x ss).isSome then .none else .str "bad")) t8 (.d x) t10 t11) ⟨h, ss, stepD x ss line, pathL h (stepD x ss line)⟩ := by
  have ff := odd_flat o
  have hp := path_len h line
  have hc : (flatD x && isA (st8 sc row h ss a line t5 t6 t8 (.d x) t10 t11) (st8 sc row h ss a line t5 t6 t8 (.d x) t10 t11) 3 && decide (0 < h) && decide (line.length < 1000) && decide ((pathL h line).length < 1000)) = true := by
    rw [ff, hp]
    simp only [Bool.and_eq_true, decide_eq_true_eq]
    refine ⟨⟨⟨⟨trivial, by simp [isA]⟩, by omega⟩, by omega⟩, by omega⟩
  have m : mGo 3 (aConsD (eVar 9) aNilD) (st8 sc row h ss a line t5 t6 t8 (.d x) t10 t11) ⟨h, ss, line, pathL h line⟩ = (match goodD x ss with
      | some n => .ok (st8 sc row h ss a line t5 t6 t8 (.d x) t10 t11) ⟨h, ss, line ++ [n], pathL h line ++ [(line.sum % h + n) % h]⟩
      | none => .ex (st8 sc row h ss a line t5 t6 t8 (.d x) t10 t11)) := by
    have e0 : aConsD (eVar 9) aNilD (st8 sc row h ss a line t5 t6 t8 (.d x) t10 t11) = .ok [x] (st8 sc row h ss a line t5 t6 t8 (.d x) t10 t11) := by simp [aConsD, aNilD, eVar, Rs.bind]
    unfold mGo
    rw [e0]
    simp only
    rw [if_pos hc]
    simp only [path_last]
    all_goals (cases goodD x ss <;> rfl)
  unfold wTry
  rw [m]
  unfold stepD
  cases hg : goodD x ss with
  | none => rcases f with rfl | ⟨d, rfl⟩ <;> simp [setD, noOwn, isA, isNB]
  | some n => rcases f with rfl | ⟨d, rfl⟩ <;> simp [setD, noOwn, isA, isNB, path_app]
theorem chkG {x : PyData} (b : Bool) : (wLift 3 (sIf (tV (eBin gNe (eVar 6) (eIfD (tT (eVar 10)) (eC .none) (eC (.str "bad"))))) (sRet (eC (.bool false))) sNil)) (st8 sc row h ss a line t5 (.d (if b then .none else .str "bad")) t8 (.d x) (.d (.bool b)) t11) s = .nx (st8 sc row h ss a line t5 (.d (if b then .none else .str "bad")) t8 (.d x) (.d (.bool b)) t11) s := by
  obtain ⟨c1, c2, c3⟩ := ne_c
  cases b <;> simp [wLift, fnD, fnI, outFr, outFi, sThen, sIf, sAsg, sOpt, sRet, sExpr, sPutO, sOwnL, sRetO, sPar, sNil, sFor, iSeq, iRng, eVar, eC, eBin, eChain, eIxO, eLenO, eIsi, eCall, eTupD, eLstD, eFn, eFnI, eFnO, aOwn, sAppO, sExtO, ePopO, eInO, sOwnN, nDisp, nLst, sParDO, sParOO, eTupRg, eLstRg, r1Rg, r2Rg, eRevL, putO, sAug, eIfD, eNotD, eAndD, eOrD, eNegD, eSl, pNone, pSome, aNilD, aConsD, tV, tT, tOwn, tNotD, tAndD, tOrD, tYesD, asB, truD, Rs.bind, Rs.of, Rs.out, frRs, ownAt, setD, noOwn, setNil, setCons, setTup, seqOf, sz0, sz1, sz2, sz3, sz4, sz5, sz6, sz7, sz8, gAdd, gSub_int, gMod_int, gDiv_int, gLe_int, gLt, gGt_int, gGe_int, gIsN, gIsB, isNone, gIx_web0, gIx_web1, gIx_tup, gIx_list, gIx_scr, gLen, gTupOf, gLstOf, gIntOf, isIntD, isBoolD, isStrD, isTupD, isLstD, zipG, c1, c3, isA]
theorem lineG {x : PyData} (hl : line.length ≤ 100) : (wLift 3 (sAsg (eIfD (tT (eVar 10)) (eBin gAdd (eVar 4) (eTupD (aConsD (eVar 9) aNilD))) (eVar 4)) (setD 4))) (st8 sc row h ss a line t5 t6 t8 (.d x) (.d (.bool (goodD x ss).isSome)) t11) s = .nx (st8 sc row h ss a (stepD x ss line) t5 t6 t8 (.d x) (.d (.bool (goodD x ss).isSome)) t11) s := by
  unfold stepD
  cases hg : goodD x ss with
  | none => simp [wLift, fnD, fnI, outFr, outFi, sThen, sIf, sAsg, sOpt, sRet, sExpr, sPutO, sOwnL, sRetO, sPar, sNil, sFor, iSeq, iRng, eVar, eC, eBin, eChain, eIxO, eLenO, eIsi, eCall, eTupD, eLstD, eFn, eFnI, eFnO, aOwn, sAppO, sExtO, ePopO, eInO, sOwnN, nDisp, nLst, sParDO, sParOO, eTupRg, eLstRg, r1Rg, r2Rg, eRevL, putO, sAug, eIfD, eNotD, eAndD, eOrD, eNegD, eSl, pNone, pSome, aNilD, aConsD, tV, tT, tOwn, tNotD, tAndD, tOrD, tYesD, asB, truD, Rs.bind, Rs.of, Rs.out, frRs, ownAt, setD, noOwn, setNil, setCons, setTup, seqOf, sz0, sz1, sz2, sz3, sz4, sz5, sz6, sz7, sz8, gAdd, gSub_int, gMod_int, gDiv_int, gLe_int, gLt, gGt_int, gGe_int, gIsN, gIsB, isNone, gIx_web0, gIx_web1, gIx_tup, gIx_list, gIx_scr, gLen, gTupOf, gLstOf, gIntOf, isIntD, isBoolD, isStrD, isTupD, isLstD, zipG, isA]
  | some n =>
    obtain rfl := goodD_ok hg
    have e : gAdd (.tuple (pis line)) (.tuple [.int n]) = some (.tuple (pis (line ++ [n]))) := by
      have e2 : pis (line ++ [n]) = pis line ++ [.int n] := by unfold pis; rw [List.map_append]; rfl
      rw [e2]
      show (if _ then _ else _) = _
      rw [if_pos (by rw [pis_len, sizeLine_eq]; simp; omega)]
    simp [wLift, sAsg, eIfD, tT, truD, eBin, eTupD, aConsD, aNilD, eVar, Rs.bind, Rs.of, Rs.out, sz1, e, setD, noOwn, sOpt, isA]
theorem goG (hr : Row row) (W : IsWeb h ss) (hl : line.length ≤ 100) (f6 : Fre t6) (f8 : Fre t8) (f9 : Fre t9) (f10 : Fre t10) : ∃ row' line' d6 d8 d9 d10, Row row' ∧ line'.length ≤ line.length + 1 ∧
    (wThen (wLift 3 (sAsg (eLstD (aConsD (eC .none) (aConsD (eC (.int 0)) (aConsD (eBin gIx (eVar 2) (eC (.int 0))) (aConsD (eBin gSub (eC (.int 0)) (eC (.int 1))) (aConsD (eC (.bool true)) (aConsD (eC (.str "1")) (aConsD (eBin gAdd (eC (.int 1)) (eFnI 1 2 F__law_taken (aConsD (eBin gSub (eBin gIx (eVar 2) (eC (.int 0))) (eC (.int 1))) aNilD))) aNilD)))))))) (setD 8)))
  (wThen (wLift 3 (sAsg (eFnI 1 2 F__law_pick (aConsD (eBin gAdd (eBin gMulG (eCall gLstOf (aConsD (eBin gIx (eVar 2) (eC (.int 1))) aNilD)) (eC (.int 3))) (eVar 8)) aNilD)) (setD 9)))
  (wThen (wLift 3 (sAsg (eAndD (eIsi isIntD (eVar 9)) (eAndD (eNotD (eIsi isBoolD (eVar 9))) (eBin (gInH false) (eVar 9) (eBin gIx (eVar 2) (eC (.int 1)))))) (setD 10)))
  (wThen (wTry 3 7 6 "bad" (mGo 3 (aConsD (eVar 9) aNilD)))
  (wThen (wLift 3 (sIf (tV (eBin gNe (eVar 6) (eIfD (tT (eVar 10)) (eC .none) (eC (.str "bad"))))) (sRet (eC (.bool false))) sNil))
  (wLift 3 (sAsg (eIfD (tT (eVar 10)) (eBin gAdd (eVar 4) (eTupD (aConsD (eVar 9) aNilD))) (eVar 4)) (setD 4)))))))) (st8 sc row h ss a line t5 t6 t8 t9 t10 t11) ⟨h, ss, line, pathL h line⟩ = .nx (st8 sc row' h ss a line' t5 (.d d6) (.d d8) (.d d9) (.d d10) t11) ⟨h, ss, line', pathL h line'⟩ := by
  obtain ⟨row1, r, hr1, e1⟩ := oddG (sc := sc) (ss := ss) (a := a) (line := line) (t5 := t5) (t6 := t6) (t9 := t9) (t10 := t10) (t11 := t11) (s := ⟨h, ss, line, pathL h line⟩) hr W.lo W.hi f8
  obtain ⟨row2, x, hr2, ho, e2⟩ := pickG (sc := sc) (a := a) (line := line) (t5 := t5) (t6 := t6) (t10 := t10) (t11 := t11) (s := ⟨h, ss, line, pathL h line⟩) hr1 W (r := r) f9
  refine ⟨row2, stepD x ss line, if (goodD x ss).isSome then .none else .str "bad", .list [.none, .int 0, .int h, .int (-1), .bool true, .str "1", .int (1 + r)], x, .bool (goodD x ss).isSome, hr2, ?_, ?_⟩
  · unfold stepD
    cases goodD x ss <;> simp
  · rw [wThen, e1]
    simp only
    rw [wThen, e2]
    simp only
    rw [wThen, goodG ho f10]
    simp only
    rw [wThen, tryG ho W.lo hl f6]
    simp only
    rw [wThen, chkG]
    simp only
    exact lineG hl
theorem alkG (hl : line.length ≤ 100) : (wAlk 3 2 (F__law_alike 6) (eLstD (aConsD (eVar 4) (aConsD (eVar 11) (aConsD (eBin gIx (eVar 11) (eNegD (eC (.int 1)))) aNilD))))) (st8 sc row h ss a line t5 t6 t8 t9 t10 (.d (.tuple (pis (pathL h line))))) ⟨h, ss, line, pathL h line⟩ = .nx (st8 sc row h ss a line t5 t6 t8 t9 t10 (.d (.tuple (pis (pathL h line))))) ⟨h, ss, line, pathL h line⟩ := by
  have hp := path_len h line
  have pt : ∀ ns : List Int, ns.length ≤ 1000 → Pl 4 (.tuple (pis ns)) := fun ns hn => .tup (fun x hx => by
    obtain ⟨i, _, rfl⟩ := List.mem_map.mp hx
    exact .int i) (by rw [pis_len]; exact hn)
  have al := alike_self (n := 5) (d := .list [.tuple (pis line), .tuple (pis (pathL h line)), .int (line.sum % h)]) (.lst (fun x hx => by
    simp only [List.mem_cons, List.not_mem_nil, or_false] at hx
    rcases hx with rfl | rfl | rfl
    · exact pt _ (by omega)
    · exact pt _ (by omega)
    · exact .int _) (by simp)) (by decide)
  have ixl : gIx (.tuple (pis (pathL h line))) (.int (-1)) = some (.int (line.sum % h)) := by
    have e := path_last h line
    show atI (pis (pathL h line)) (-1) = _
    have e3 : ixN (pis (pathL h line)).length (-1) = some ((pathL h line).length - 1) := by
      unfold ixN
      rw [pis_len, if_neg (by omega), if_pos (by omega)]
      congr 1
      omega
    unfold atI
    rw [e3]
    show (pis (pathL h line))[(pathL h line).length - 1]? = _
    rw [List.getLast?_eq_getElem?] at e
    unfold pis
    rw [List.getElem?_map, e]
    rfl
  have ev : eLstD (aConsD (eVar 4) (aConsD (eVar 11) (aConsD (eBin gIx (eVar 11) (eNegD (eC (.int 1)))) aNilD))) (st8 sc row h ss a line t5 t6 t8 t9 t10 (.d (.tuple (pis (pathL h line))))) = .ok (.list [.tuple (pis line), .tuple (pis (pathL h line)), .int (line.sum % h)]) (st8 sc row h ss a line t5 t6 t8 t9 t10 (.d (.tuple (pis (pathL h line))))) := by
    simp [eLstD, aConsD, aNilD, eBin, eNegD, eC, eVar, Rs.bind, Rs.of, ixl, sz3]
  unfold wAlk
  simp only [path_last]
  rw [ev]
  simp only
  rw [if_pos (by simp [isA])]
  show (match F__law_alike 6 [.list [.tuple (pis line), .tuple (pis (pathL h line)), .int (line.sum % h)], .list [.tuple (pis line), .tuple (pis (pathL h line)), .int (line.sum % h)]] with | .ok (.bool true) => _ | .ok (.bool false) => _ | _ => _) = _
  rw [al]
/-- the loop's states -/
def In8 (sc : PyData) (h : Int) (ss : List Int) (a : Addr) (n : Nat) (ρ : RS) (s : WSt) : Prop := ∃ row line t5 t6 t8 t9 t10 t11, DL.Row row ∧ line.length ≤ n ∧ Fre t5 ∧ Fre t6 ∧ Fre t8 ∧ Fre t9 ∧ Fre t10 ∧ Fre t11 ∧ ρ = st8 sc row h ss a line t5 t6 t8 t9 t10 t11 ∧ s = ⟨h, ss, line, pathL h line⟩
theorem fre_d (d : PyData) : Fre (.d d) := .inr ⟨d, rfl⟩
theorem bodyF (W : IsWeb h ss) {n : Nat} (hn : n ≤ 60) {ρ : RS} {s : WSt} (i8 : In8 sc h ss a n ρ s) : ∃ ρ' s', (wThen (wIf 3 (tV (eBin gEq (eFnI 1 2 F__law_taken (aConsD (eC (.int 4)) aNilD)) (eC (.int 0)))) (wThen (wTry 3 7 6 "none" mUndo)
  (wThen (wLift 3 (sIf (tV (eBin gNe (eVar 6) (eIfD (tV (eBin gNe (eVar 4) (eTupD aNilD))) (eC .none) (eC (.str "none"))))) (sRet (eC (.bool false))) sNil))
  (wLift 3 (sAsg (eSl (eVar 4) pNone (pSome (eNegD (eC (.int 1))))) (setD 4))))) (wThen (wLift 3 (sAsg (eLstD (aConsD (eC .none) (aConsD (eC (.int 0)) (aConsD (eBin gIx (eVar 2) (eC (.int 0))) (aConsD (eBin gSub (eC (.int 0)) (eC (.int 1))) (aConsD (eC (.bool true)) (aConsD (eC (.str "1")) (aConsD (eBin gAdd (eC (.int 1)) (eFnI 1 2 F__law_taken (aConsD (eBin gSub (eBin gIx (eVar 2) (eC (.int 0))) (eC (.int 1))) aNilD))) aNilD)))))))) (setD 8)))
  (wThen (wLift 3 (sAsg (eFnI 1 2 F__law_pick (aConsD (eBin gAdd (eBin gMulG (eCall gLstOf (aConsD (eBin gIx (eVar 2) (eC (.int 1))) aNilD)) (eC (.int 3))) (eVar 8)) aNilD)) (setD 9)))
  (wThen (wLift 3 (sAsg (eAndD (eIsi isIntD (eVar 9)) (eAndD (eNotD (eIsi isBoolD (eVar 9))) (eBin (gInH false) (eVar 9) (eBin gIx (eVar 2) (eC (.int 1)))))) (setD 10)))
  (wThen (wTry 3 7 6 "bad" (mGo 3 (aConsD (eVar 9) aNilD)))
  (wThen (wLift 3 (sIf (tV (eBin gNe (eVar 6) (eIfD (tT (eVar 10)) (eC .none) (eC (.str "bad"))))) (sRet (eC (.bool false))) sNil))
  (wLift 3 (sAsg (eIfD (tT (eVar 10)) (eBin gAdd (eVar 4) (eTupD (aConsD (eVar 9) aNilD))) (eVar 4)) (setD 4)))))))))
  (wThen (wLift 3 (sAsg (eCall gTupOf (aConsD (eLc (iRng rng1 (aConsD (eBin gAdd (eCall gLen (aConsD (eVar 4) aNilD)) (eC (.int 1))) aNilD)) (setD 12) tYesD (eBin gMod (eCall gSumT (aConsD (eSl (eVar 4) pNone (pSome (eVar 12))) aNilD)) (eBin gIx (eVar 2) (eC (.int 0)))) [12]) aNilD)) (setD 11)))
  (wAlk 3 2 (F__law_alike 6) (eLstD (aConsD (eVar 4) (aConsD (eVar 11) (aConsD (eBin gIx (eVar 11) (eNegD (eC (.int 1)))) aNilD))))))) ρ s = .nx ρ' s' ∧ In8 sc h ss a (n + 1) ρ' s' := by
  obtain ⟨row, line, t5, t6, t8, t9, t10, t11, hr, hl, f5, f6, f8, f9, f10, f11, rfl, rfl⟩ := i8
  obtain ⟨r, row1, e, r0, r1, hr1⟩ := taken_ok hr (m := 4) (by decide) (by decide)
  have et : (tV (eBin gEq (eFnI 1 2 F__law_taken (aConsD (eC (.int 4)) aNilD)) (eC (.int 0)))) (st8 sc row h ss a line t5 t6 t8 t9 t10 t11) = .ok (r == 0) (st8 sc row1 h ss a line t5 t6 t8 t9 t10 t11) := by
    simp [fnD, fnI, outFr, outFi, sThen, sIf, sAsg, sOpt, sRet, sExpr, sPutO, sOwnL, sRetO, sPar, sNil, sFor, iSeq, iRng, eVar, eC, eBin, eChain, eIxO, eLenO, eIsi, eCall, eTupD, eLstD, eFn, eFnI, eFnO, aOwn, sAppO, sExtO, ePopO, eInO, sOwnN, nDisp, nLst, sParDO, sParOO, eTupRg, eLstRg, r1Rg, r2Rg, eRevL, putO, sAug, eIfD, eNotD, eAndD, eOrD, eNegD, eSl, pNone, pSome, aNilD, aConsD, tV, tT, tOwn, tNotD, tAndD, tOrD, tYesD, asB, truD, Rs.bind, Rs.of, Rs.out, frRs, ownAt, setD, noOwn, setNil, setCons, setTup, seqOf, sz0, sz1, sz2, sz3, sz4, sz5, sz6, sz7, sz8, gAdd, gSub_int, gMod_int, gDiv_int, gLe_int, gLt, gGt_int, gGe_int, gIsN, gIsB, isNone, gIx_web0, gIx_web1, gIx_tup, gIx_list, gIx_scr, gLen, gTupOf, gLstOf, gIntOf, isIntD, isBoolD, isStrD, isTupD, isLstD, zipG, e, gEq_int]
  have fin : ∀ {row' line' : _} {u5 u6 u8 u9 u10 : Sl}, DL.Row row' → line'.length ≤ n + 1 → Fre u5 → Fre u6 → Fre u8 → Fre u9 → Fre u10 →
      ∃ ρ' s', (wThen (wLift 3 (sAsg (eCall gTupOf (aConsD (eLc (iRng rng1 (aConsD (eBin gAdd (eCall gLen (aConsD (eVar 4) aNilD)) (eC (.int 1))) aNilD)) (setD 12) tYesD (eBin gMod (eCall gSumT (aConsD (eSl (eVar 4) pNone (pSome (eVar 12))) aNilD)) (eBin gIx (eVar 2) (eC (.int 0)))) [12]) aNilD)) (setD 11))) (wAlk 3 2 (F__law_alike 6) (eLstD (aConsD (eVar 4) (aConsD (eVar 11) (aConsD (eBin gIx (eVar 11) (eNegD (eC (.int 1)))) aNilD))))) ) (st8 sc row' h ss a line' u5 u6 u8 u9 u10 t11) ⟨h, ss, line', pathL h line'⟩ = .nx ρ' s' ∧ In8 sc h ss a (n + 1) ρ' s' := fun {row' line' u5 u6 u8 u9 u10} hr' hl' g5 g6 g8 g9 g10 => by
    refine ⟨_, _, ?_, row', line', u5, u6, u8, u9, u10, .d (.tuple (pis (pathL h line'))), hr', hl', g5, g6, g8, g9, g10, fre_d _, rfl, rfl⟩
    rw [wThen, path_ok W.lo (by omega) f11]
    simp only
    exact alkG (by omega)
  rw [wThen, wIf, et]
  simp only
  rw [if_pos (by simp [isA])]
  by_cases hq : r = 0
  · subst hq
    rw [if_pos (by decide)]
    obtain ⟨d, eu⟩ := undU (sc := sc) (row := row1) (h := h) (ss := ss) (a := a) (t5 := t5) (t8 := t8) (t9 := t9) (t10 := t10) (t11 := t11) (line := line) (by omega) f6
    rw [eu]
    simp only
    exact fin hr1 (by rw [List.length_dropLast]; omega) f5 (fre_d _) f8 f9 f10
  · rw [if_neg (by simpa using hq)]
    obtain ⟨row', line', d6, d8, d9, d10, hr', hl', eg⟩ := goG (sc := sc) (a := a) (t5 := t5) (t11 := t11) hr1 W (line := line) (by omega) f6 f8 f9 f10
    rw [eg]
    simp only
    exact fin hr' (by omega) f5 (fre_d _) (fre_d _) (fre_d _) (fre_d _)
theorem loopF (W : IsWeb h ss) : ∀ (items : List PyData) {n : Nat} {ρ : RS} {s : WSt}, n + items.length ≤ 60 → In8 sc h ss a n ρ s → ∃ ρ' s', wForL 3 (setD 5) (wThen (wIf 3 (tV (eBin gEq (eFnI 1 2 F__law_taken (aConsD (eC (.int 4)) aNilD)) (eC (.int 0)))) (wThen (wTry 3 7 6 "none" mUndo)
  (wThen (wLift 3 (sIf (tV (eBin gNe (eVar 6) (eIfD (tV (eBin gNe (eVar 4) (eTupD aNilD))) (eC .none) (eC (.str "none"))))) (sRet (eC (.bool false))) sNil))
  (wLift 3 (sAsg (eSl (eVar 4) pNone (pSome (eNegD (eC (.int 1))))) (setD 4))))) (wThen (wLift 3 (sAsg (eLstD (aConsD (eC .none) (aConsD (eC (.int 0)) (aConsD (eBin gIx (eVar 2) (eC (.int 0))) (aConsD (eBin gSub (eC (.int 0)) (eC (.int 1))) (aConsD (eC (.bool true)) (aConsD (eC (.str "1")) (aConsD (eBin gAdd (eC (.int 1)) (eFnI 1 2 F__law_taken (aConsD (eBin gSub (eBin gIx (eVar 2) (eC (.int 0))) (eC (.int 1))) aNilD))) aNilD)))))))) (setD 8)))
  (wThen (wLift 3 (sAsg (eFnI 1 2 F__law_pick (aConsD (eBin gAdd (eBin gMulG (eCall gLstOf (aConsD (eBin gIx (eVar 2) (eC (.int 1))) aNilD)) (eC (.int 3))) (eVar 8)) aNilD)) (setD 9)))
  (wThen (wLift 3 (sAsg (eAndD (eIsi isIntD (eVar 9)) (eAndD (eNotD (eIsi isBoolD (eVar 9))) (eBin (gInH false) (eVar 9) (eBin gIx (eVar 2) (eC (.int 1)))))) (setD 10)))
  (wThen (wTry 3 7 6 "bad" (mGo 3 (aConsD (eVar 9) aNilD)))
  (wThen (wLift 3 (sIf (tV (eBin gNe (eVar 6) (eIfD (tT (eVar 10)) (eC .none) (eC (.str "bad"))))) (sRet (eC (.bool false))) sNil))
  (wLift 3 (sAsg (eIfD (tT (eVar 10)) (eBin gAdd (eVar 4) (eTupD (aConsD (eVar 9) aNilD))) (eVar 4)) (setD 4)))))))))
  (wThen (wLift 3 (sAsg (eCall gTupOf (aConsD (eLc (iRng rng1 (aConsD (eBin gAdd (eCall gLen (aConsD (eVar 4) aNilD)) (eC (.int 1))) aNilD)) (setD 12) tYesD (eBin gMod (eCall gSumT (aConsD (eSl (eVar 4) pNone (pSome (eVar 12))) aNilD)) (eBin gIx (eVar 2) (eC (.int 0)))) [12]) aNilD)) (setD 11)))
  (wAlk 3 2 (F__law_alike 6) (eLstD (aConsD (eVar 4) (aConsD (eVar 11) (aConsD (eBin gIx (eVar 11) (eNegD (eC (.int 1)))) aNilD))))))) items ρ s = .nx ρ' s' ∧ In8 sc h ss a (n + items.length) ρ' s'
  | [], n, ρ, s, hn, i8 => ⟨ρ, s, rfl, i8⟩
  | x :: xs, n, ρ, s, hn, i8 => by
    have hn : n + (xs.length + 1) ≤ 60 := hn
    obtain ⟨row, line, t5, t6, t8, t9, t10, t11, hr, hl, f5, f6, f8, f9, f10, f11, rfl, rfl⟩ := i8
    have es : setD 5 x (st8 sc row h ss a line t5 t6 t8 t9 t10 t11) = some (st8 sc row h ss a line (.d x) t6 t8 t9 t10 t11) := by
      rcases f5 with rfl | ⟨d, rfl⟩ <;> simp [setD, noOwn]
    obtain ⟨ρ1, s1, e1, i1⟩ := bodyF W (n := n) (by omega) ⟨row, line, .d x, t6, t8, t9, t10, t11, hr, hl, fre_d _, f6, f8, f9, f10, f11, rfl, rfl⟩
    obtain ⟨ρ2, s2, e2, i2⟩ := loopF W xs (n := n + 1) (by omega) i1
    refine ⟨ρ2, s2, ?_, by rw [List.length_cons, show n + (xs.length + 1) = n + 1 + xs.length by omega]; exact i2⟩
    rw [wForL, es]
    simp only
    rw [if_pos (by simp [isA]), e1]
    exact e2
theorem badF : ∀ x ∈ ([.none, .tuple [], .tuple [.int 1, .tuple []], .tuple [.int 3, .tuple [.int 2, .int 1]], .tuple [.int 3, .list [.int 1]]] : List PyData), ∃ z, F_need_web [x] = .ex "BadWeb" [("part", .str z)] := fun x hx => by
  simp only [List.mem_cons, List.not_mem_nil, or_false] at hx
  rcases hx with rfl | rfl | rfl | rfl | rfl
  · exact ⟨"whole", by kernel_rfl⟩
  · exact ⟨"whole", by kernel_rfl⟩
  · exact ⟨"halls", by kernel_rfl⟩
  · exact ⟨"steps", by kernel_rfl⟩
  · exact ⟨"steps", by kernel_rfl⟩
theorem tailF {n : Nat} {ρ : RS} {s : WSt} (i8 : In8 sc h ss a n ρ s) : (wThen (wLift 3 (sTryAs ["BadWeb"] 7 (sExpr (eMkX F_need_web (aConsD (eFnI 1 2 F__law_pick (aConsD (eLstD (aConsD (eC .none) (aConsD (eTupD aNilD) (aConsD (eTupD (aConsD (eC (.int 1)) (aConsD (eTupD aNilD) aNilD))) (aConsD (eTupD (aConsD (eC (.int 3)) (aConsD (eTupD (aConsD (eC (.int 2)) (aConsD (eC (.int 1)) aNilD))) aNilD))) (aConsD (eTupD (aConsD (eC (.int 3)) (aConsD (eLstD (aConsD (eC (.int 1)) aNilD)) aNilD))) aNilD)))))) aNilD)) aNilD))) (sRet (eC (.bool true)))))
  (wLift 3 (sRet (eC (.bool false))))) ρ s = .rt (.bool true) := by
  obtain ⟨row, line, t5, t6, t8, t9, t10, t11, hr, hl, f5, f6, f8, f9, f10, f11, rfl, rfl⟩ := i8
  obtain ⟨x, row', e, hx, hr'⟩ := pick_ok hr (ts := [.none, .tuple [], .tuple [.int 1, .tuple []], .tuple [.int 3, .tuple [.int 2, .int 1]], .tuple [.int 3, .list [.int 1]]]) (by simp) (by simp)
  obtain ⟨z, eb⟩ := badF x hx
  simp [wThen, wLift, sTryAs, eMkX, fnD, fnI, outFr, outFi, sThen, sIf, sAsg, sOpt, sRet, sExpr, sPutO, sOwnL, sRetO, sPar, sNil, sFor, iSeq, iRng, eVar, eC, eBin, eChain, eIxO, eLenO, eIsi, eCall, eTupD, eLstD, eFn, eFnI, eFnO, aOwn, sAppO, sExtO, ePopO, eInO, sOwnN, nDisp, nLst, sParDO, sParOO, eTupRg, eLstRg, r1Rg, r2Rg, eRevL, putO, sAug, eIfD, eNotD, eAndD, eOrD, eNegD, eSl, pNone, pSome, aNilD, aConsD, tV, tT, tOwn, tNotD, tAndD, tOrD, tYesD, asB, truD, Rs.bind, Rs.of, Rs.out, frRs, ownAt, setD, noOwn, setNil, setCons, setTup, seqOf, sz0, sz1, sz2, sz3, sz4, sz5, sz6, sz7, sz8, gAdd, gSub_int, gMod_int, gDiv_int, gLe_int, gLt, gGt_int, gGe_int, gIsN, gIsB, isNone, gIx_web0, gIx_web1, gIx_tup, gIx_list, gIx_scr, gLen, gTupOf, gLstOf, gIntOf, isIntD, isBoolD, isStrD, isTupD, isLstD, zipG, e, eb, isNB, goneO]
theorem forF (W : IsWeb h ss) {ρ : RS} {s : WSt} (i8 : In8 sc h ss a 0 ρ s) : ∃ ρ' s' n, (wFor 3 (iRng rng1 (aConsD (eFnI 1 2 F__law_taken (aConsD (eC (.int 20)) aNilD)) aNilD)) (setD 5) (wThen (wIf 3 (tV (eBin gEq (eFnI 1 2 F__law_taken (aConsD (eC (.int 4)) aNilD)) (eC (.int 0)))) (wThen (wTry 3 7 6 "none" mUndo)
  (wThen (wLift 3 (sIf (tV (eBin gNe (eVar 6) (eIfD (tV (eBin gNe (eVar 4) (eTupD aNilD))) (eC .none) (eC (.str "none"))))) (sRet (eC (.bool false))) sNil))
  (wLift 3 (sAsg (eSl (eVar 4) pNone (pSome (eNegD (eC (.int 1))))) (setD 4))))) (wThen (wLift 3 (sAsg (eLstD (aConsD (eC .none) (aConsD (eC (.int 0)) (aConsD (eBin gIx (eVar 2) (eC (.int 0))) (aConsD (eBin gSub (eC (.int 0)) (eC (.int 1))) (aConsD (eC (.bool true)) (aConsD (eC (.str "1")) (aConsD (eBin gAdd (eC (.int 1)) (eFnI 1 2 F__law_taken (aConsD (eBin gSub (eBin gIx (eVar 2) (eC (.int 0))) (eC (.int 1))) aNilD))) aNilD)))))))) (setD 8)))
  (wThen (wLift 3 (sAsg (eFnI 1 2 F__law_pick (aConsD (eBin gAdd (eBin gMulG (eCall gLstOf (aConsD (eBin gIx (eVar 2) (eC (.int 1))) aNilD)) (eC (.int 3))) (eVar 8)) aNilD)) (setD 9)))
  (wThen (wLift 3 (sAsg (eAndD (eIsi isIntD (eVar 9)) (eAndD (eNotD (eIsi isBoolD (eVar 9))) (eBin (gInH false) (eVar 9) (eBin gIx (eVar 2) (eC (.int 1)))))) (setD 10)))
  (wThen (wTry 3 7 6 "bad" (mGo 3 (aConsD (eVar 9) aNilD)))
  (wThen (wLift 3 (sIf (tV (eBin gNe (eVar 6) (eIfD (tT (eVar 10)) (eC .none) (eC (.str "bad"))))) (sRet (eC (.bool false))) sNil))
  (wLift 3 (sAsg (eIfD (tT (eVar 10)) (eBin gAdd (eVar 4) (eTupD (aConsD (eVar 9) aNilD))) (eVar 4)) (setD 4)))))))))
  (wThen (wLift 3 (sAsg (eCall gTupOf (aConsD (eLc (iRng rng1 (aConsD (eBin gAdd (eCall gLen (aConsD (eVar 4) aNilD)) (eC (.int 1))) aNilD)) (setD 12) tYesD (eBin gMod (eCall gSumT (aConsD (eSl (eVar 4) pNone (pSome (eVar 12))) aNilD)) (eBin gIx (eVar 2) (eC (.int 0)))) [12]) aNilD)) (setD 11)))
  (wAlk 3 2 (F__law_alike 6) (eLstD (aConsD (eVar 4) (aConsD (eVar 11) (aConsD (eBin gIx (eVar 11) (eNegD (eC (.int 1)))) aNilD)))))))) ρ s = .nx ρ' s' ∧ In8 sc h ss a n ρ' s' := by
  obtain ⟨row, line, t5, t6, t8, t9, t10, t11, hr, hl, f5, f6, f8, f9, f10, f11, rfl, rfl⟩ := i8
  obtain ⟨r, row1, e, r0, r1, hr1⟩ := taken_ok hr (m := 20) (by decide) (by decide)
  have ei : (iRng rng1 (aConsD (eFnI 1 2 F__law_taken (aConsD (eC (.int 20)) aNilD)) aNilD)) (st8 sc row h ss a line t5 t6 t8 t9 t10 t11) = .ok (pis (rngI 0 r)) (st8 sc row1 h ss a line t5 t6 t8 t9 t10 t11) := by
    simp [fnD, fnI, outFr, outFi, sThen, sIf, sAsg, sOpt, sRet, sExpr, sPutO, sOwnL, sRetO, sPar, sNil, sFor, iSeq, iRng, eVar, eC, eBin, eChain, eIxO, eLenO, eIsi, eCall, eTupD, eLstD, eFn, eFnI, eFnO, aOwn, sAppO, sExtO, ePopO, eInO, sOwnN, nDisp, nLst, sParDO, sParOO, eTupRg, eLstRg, r1Rg, r2Rg, eRevL, putO, sAug, eIfD, eNotD, eAndD, eOrD, eNegD, eSl, pNone, pSome, aNilD, aConsD, tV, tT, tOwn, tNotD, tAndD, tOrD, tYesD, asB, truD, Rs.bind, Rs.of, Rs.out, frRs, ownAt, setD, noOwn, setNil, setCons, setTup, seqOf, sz0, sz1, sz2, sz3, sz4, sz5, sz6, sz7, sz8, gAdd, gSub_int, gMod_int, gDiv_int, gLe_int, gLt, gGt_int, gGe_int, gIsN, gIsB, isNone, gIx_web0, gIx_web1, gIx_tup, gIx_list, gIx_scr, gLen, gTupOf, gLstOf, gIntOf, isIntD, isBoolD, isStrD, isTupD, isLstD, zipG, e, rng1_ok r0 (by omega)]
  obtain ⟨ρ', s', e2, i2⟩ := loopF W (pis (rngI 0 r)) (n := 0) (by rw [pis_len, rngI_len]; omega) ⟨row1, line, t5, t6, t8, t9, t10, t11, hr1, hl, f5, f6, f8, f9, f10, f11, rfl, rfl⟩
  refine ⟨ρ', s', _, ?_, i2⟩
  rw [wFor, ei]
  simp only
  rw [if_pos (by simp [isA])]
  exact e2
end
theorem main_law (ns : List Int) (_ : ns.length ≤ 63) (_ : ∀ z ∈ ns, Builtin.Int.intBits z ≤ 1048576) : F_law [scr ns] = .ok (.bool true) := by
  obtain ⟨h, ss, row, e, W, hh, hr⟩ := web_draw (most := 13) (by decide) (by decide) (xs := [scr ns, .int 0, .int 5808, .int 0]) ⟨ns, 0, 5808, 0, rfl, by decide, by decide⟩
  have nw := need_web_ok W
  have wo : webOf (webD h ss) = some (h, ss) := by
    show (intsZ (pis ss)).map (h, ·) = _
    rw [show pis ss = ss.map PyData.int from rfl, intsZ_map]
    rfl
  have e1 : (sOwnL 1 (aConsD (eVar 0) (aConsD (eC (.int 0)) (aConsD (eC (.int 5808)) (aConsD (eC (.int 0)) aNilD))))) [.d (scr ns), .n, .n, .n, .n, .n, .n, .n, .n, .n, .n, .n, .n] = .nx [.d (scr ns), .o [scr ns, .int 0, .int 5808, .int 0], .n, .n, .n, .n, .n, .n, .n, .n, .n, .n, .n] := by simp [fnD, fnI, outFr, outFi, sThen, sIf, sAsg, sOpt, sRet, sExpr, sPutO, sOwnL, sRetO, sPar, sNil, sFor, iSeq, iRng, eVar, eC, eBin, eChain, eIxO, eLenO, eIsi, eCall, eTupD, eLstD, eFn, eFnI, eFnO, aOwn, sAppO, sExtO, ePopO, eInO, sOwnN, nDisp, nLst, sParDO, sParOO, eTupRg, eLstRg, r1Rg, r2Rg, eRevL, putO, sAug, eIfD, eNotD, eAndD, eOrD, eNegD, eSl, pNone, pSome, aNilD, aConsD, tV, tT, tOwn, tNotD, tAndD, tOrD, tYesD, asB, truD, Rs.bind, Rs.of, Rs.out, frRs, ownAt, setD, noOwn, setNil, setCons, setTup, seqOf, sz0, sz1, sz2, sz3, sz4, sz5, sz6, sz7, sz8, gAdd, gSub_int, gMod_int, gDiv_int, gLe_int, gLt, gGt_int, gGe_int, gIsN, gIsB, isNone, gIx_web0, gIx_web1, gIx_tup, gIx_list, gIx_scr, gLen, gTupOf, gLstOf, gIntOf, isIntD, isBoolD, isStrD, isTupD, isLstD, zipG]
  have e2 : (sAsg (eFnI 1 2 F__law_web (aConsD (eC (.int 13)) aNilD)) (setD 2)) [.d (scr ns), .o [scr ns, .int 0, .int 5808, .int 0], .n, .n, .n, .n, .n, .n, .n, .n, .n, .n, .n] = .nx [.d (scr ns), .o row, .d (webD h ss), .n, .n, .n, .n, .n, .n, .n, .n, .n, .n] := by simp [fnD, fnI, outFr, outFi, sThen, sIf, sAsg, sOpt, sRet, sExpr, sPutO, sOwnL, sRetO, sPar, sNil, sFor, iSeq, iRng, eVar, eC, eBin, eChain, eIxO, eLenO, eIsi, eCall, eTupD, eLstD, eFn, eFnI, eFnO, aOwn, sAppO, sExtO, ePopO, eInO, sOwnN, nDisp, nLst, sParDO, sParOO, eTupRg, eLstRg, r1Rg, r2Rg, eRevL, putO, sAug, eIfD, eNotD, eAndD, eOrD, eNegD, eSl, pNone, pSome, aNilD, aConsD, tV, tT, tOwn, tNotD, tAndD, tOrD, tYesD, asB, truD, Rs.bind, Rs.of, Rs.out, frRs, ownAt, setD, noOwn, setNil, setCons, setTup, seqOf, sz0, sz1, sz2, sz3, sz4, sz5, sz6, sz7, sz8, gAdd, gSub_int, gMod_int, gDiv_int, gLe_int, gLt, gGt_int, gGe_int, gIsN, gIsB, isNone, gIx_web0, gIx_web1, gIx_tup, gIx_list, gIx_scr, gLen, gTupOf, gLstOf, gIntOf, isIntD, isBoolD, isStrD, isTupD, isLstD, zipG, e]
  have fin : ∀ a : Addr, (wThen (wFor 3 (iRng rng1 (aConsD (eFnI 1 2 F__law_taken (aConsD (eC (.int 20)) aNilD)) aNilD)) (setD 5) (wThen (wIf 3 (tV (eBin gEq (eFnI 1 2 F__law_taken (aConsD (eC (.int 4)) aNilD)) (eC (.int 0)))) (wThen (wTry 3 7 6 "none" mUndo)
  (wThen (wLift 3 (sIf (tV (eBin gNe (eVar 6) (eIfD (tV (eBin gNe (eVar 4) (eTupD aNilD))) (eC .none) (eC (.str "none"))))) (sRet (eC (.bool false))) sNil))
  (wLift 3 (sAsg (eSl (eVar 4) pNone (pSome (eNegD (eC (.int 1))))) (setD 4))))) (wThen (wLift 3 (sAsg (eLstD (aConsD (eC .none) (aConsD (eC (.int 0)) (aConsD (eBin gIx (eVar 2) (eC (.int 0))) (aConsD (eBin gSub (eC (.int 0)) (eC (.int 1))) (aConsD (eC (.bool true)) (aConsD (eC (.str "1")) (aConsD (eBin gAdd (eC (.int 1)) (eFnI 1 2 F__law_taken (aConsD (eBin gSub (eBin gIx (eVar 2) (eC (.int 0))) (eC (.int 1))) aNilD))) aNilD)))))))) (setD 8)))
  (wThen (wLift 3 (sAsg (eFnI 1 2 F__law_pick (aConsD (eBin gAdd (eBin gMulG (eCall gLstOf (aConsD (eBin gIx (eVar 2) (eC (.int 1))) aNilD)) (eC (.int 3))) (eVar 8)) aNilD)) (setD 9)))
  (wThen (wLift 3 (sAsg (eAndD (eIsi isIntD (eVar 9)) (eAndD (eNotD (eIsi isBoolD (eVar 9))) (eBin (gInH false) (eVar 9) (eBin gIx (eVar 2) (eC (.int 1)))))) (setD 10)))
  (wThen (wTry 3 7 6 "bad" (mGo 3 (aConsD (eVar 9) aNilD)))
  (wThen (wLift 3 (sIf (tV (eBin gNe (eVar 6) (eIfD (tT (eVar 10)) (eC .none) (eC (.str "bad"))))) (sRet (eC (.bool false))) sNil))
  (wLift 3 (sAsg (eIfD (tT (eVar 10)) (eBin gAdd (eVar 4) (eTupD (aConsD (eVar 9) aNilD))) (eVar 4)) (setD 4)))))))))
  (wThen (wLift 3 (sAsg (eCall gTupOf (aConsD (eLc (iRng rng1 (aConsD (eBin gAdd (eCall gLen (aConsD (eVar 4) aNilD)) (eC (.int 1))) aNilD)) (setD 12) tYesD (eBin gMod (eCall gSumT (aConsD (eSl (eVar 4) pNone (pSome (eVar 12))) aNilD)) (eBin gIx (eVar 2) (eC (.int 0)))) [12]) aNilD)) (setD 11)))
  (wAlk 3 2 (F__law_alike 6) (eLstD (aConsD (eVar 4) (aConsD (eVar 11) (aConsD (eBin gIx (eVar 11) (eNegD (eC (.int 1)))) aNilD))))))))
  (wThen (wLift 3 (sTryAs ["BadWeb"] 7 (sExpr (eMkX F_need_web (aConsD (eFnI 1 2 F__law_pick (aConsD (eLstD (aConsD (eC .none) (aConsD (eTupD aNilD) (aConsD (eTupD (aConsD (eC (.int 1)) (aConsD (eTupD aNilD) aNilD))) (aConsD (eTupD (aConsD (eC (.int 3)) (aConsD (eTupD (aConsD (eC (.int 2)) (aConsD (eC (.int 1)) aNilD))) aNilD))) (aConsD (eTupD (aConsD (eC (.int 3)) (aConsD (eLstD (aConsD (eC (.int 1)) aNilD)) aNilD))) aNilD)))))) aNilD)) aNilD))) (sRet (eC (.bool true)))))
  (wLift 3 (sRet (eC (.bool false)))))) (st8 (scr ns) row h ss a [] .n .n .n .n .n .n) ⟨h, ss, [], [0]⟩ = .rt (.bool true) := fun a => by
    have fn : Fre .n := .inl rfl
    have hp : pathL h [] = [0] := by simp [pathL]
    obtain ⟨ρ', s', n, e3, i3⟩ := forF (sc := scr ns) (a := a) W ⟨row, [], .n, .n, .n, .n, .n, .n, hr, by simp, fn, fn, fn, fn, fn, fn, rfl, by rw [hp]⟩
    rw [wThen, e3]
    exact tailF i3
  have ew : fb_law [.d (scr ns), .n, .n, .n, .n, .n, .n, .n, .n, .n, .n, .n, .n] = some (.bool true) := by
    unfold fb_law
    rw [rThen, e1]
    simp only
    rw [rThen, e2]
    simp only
    have ea : aConsD (eVar 2) aNilD [.d (scr ns), .o row, .d (webD h ss), .n, .n, .n, .n, .n, .n, .n, .n, .n, .n] = .ok [webD h ss] [.d (scr ns), .o row, .d (webD h ss), .n, .n, .n, .n, .n, .n, .n, .n, .n, .n] := by simp [aConsD, aNilD, eVar, Rs.bind]
    have eb : eTupD aNilD [.d (scr ns), .o row, .d (webD h ss), .n, .n, .n, .n, .n, .n, .n, .n, .n, .n] = .ok (.tuple []) [.d (scr ns), .o row, .d (webD h ss), .n, .n, .n, .n, .n, .n, .n, .n, .n, .n] := by simp [eTupD, aNilD, Rs.bind]
    rw [rWheel, ea]
    simp only
    rw [nw]
    simp only
    rw [wo]
    simp only
    rw [eb]
    simp only
    rw [if_pos (by simp [noOwn])]
    refine allA_eq fun a => ?_
    have es : setD 4 (.tuple []) (([.d (scr ns), .o row, .d (webD h ss), .n, .n, .n, .n, .n, .n, .n, .n, .n, .n] : RS).set 3 (Sl.a a)) = some (st8 (scr ns) row h ss a [] .n .n .n .n .n .n) := by simp [setD, noOwn, pis]
    rw [es]
    simp only
    rw [if_pos (by simp [isA])]
    exact fin a
  show (match fb_law _ with | some d => Fr.ok d | none => .no) = _
  have ew2 : fb_law ([scr ns].map Sl.d ++ List.replicate (13 - 1) Sl.n) = some (.bool true) := ew
  rw [ew2]
end LW

-- text EK08
set_option Elab.async false
set_option linter.all false
set_option maxRecDepth 100000
set_option maxHeartbeats 4000000
namespace LW
open PySem PySem.Spec PyProof.Rows L2 GxR DL
def gnames : List Str := ["wrong_web"]
theorem exm_own {K : PySem.W.Frag} {C : Addr} (h1 : PySem.W.subIn K (.ref C) (.type "BaseException") = some true) (hc : PySem.W.isClsIn K C = true) (ht : PySem.W.typeIn K (.ref C) = some (.type "type")) (h4 : PySem.W.subIn K (.ref C) (.ref C) = some true) : PySem.W.exmOne K (.ref C) (.ref C) = some true := by
  have e1 : (PySem.W.subIn K (.ref C) (.type "BaseException") == some true) = true := by rw [h1] <;> rfl
  have hc : (PySem.W.clsIn K C).isSome = true := hc
  have e2 : ((PySem.W.clsIn K C).isSome && PySem.W.typeIn K (.ref C) == some (.type "type")) = true := by rw [hc, ht] <;> rfl
  show (if (PySem.W.subIn K (.ref C) (.type "BaseException") == some true) = true then (if ((PySem.W.clsIn K C).isSome && PySem.W.typeIn K (.ref C) == some (.type "type")) = true then PySem.W.subIn K (.ref C) (.ref C) else none) else none) = some true
  rw [if_pos e1, if_pos e2]
  exact h4
theorem all_mk {w : World} {K : PySem.W.Frag} {h : Heap} {mg : Str → Option Value} {fa : Addr} (KX : K.In h) (N : h.Ns mainGlobals mg) (hfa : mg "law" = some (.ref fa)) (tabs : ∀ nm ∈ gnames, ∀ f, mg nm = some (.ref f) → LamX.OwnTab K f h)
    {f_is_number : Addr} {oc_is_number kV_is_number dc_is_number pm_is_number ct_is_number : Value} {od_is_number an_is_number : Option Addr} {sl_is_number : Array (Option Value)} {cd_is_number : Value}
    (a_is_number : PySem.W.nsIn K mainGlobals "is_number" = some (some (.ref f_is_number)))
    (l_is_number : K.lookup f_is_number = some ⟨oc_is_number, od_is_number, .func (PySem.W.fnOf "is_number" "is_number" (defArgs st_is_number) (defBody st_is_number) (defScope st_is_number) .none kV_is_number dc_is_number pm_is_number an_is_number cd_is_number ct_is_number), sl_is_number⟩)
    (cc_is_number : PySem.W.codeIn K cd_is_number "is_number" = true)
    (k_is_number : PySem.W.keepIn K (.ref f_is_number) = true)
    {f_wrong_web : Addr} {oc_wrong_web kV_wrong_web dc_wrong_web pm_wrong_web ct_wrong_web : Value} {od_wrong_web an_wrong_web : Option Addr} {sl_wrong_web : Array (Option Value)} {c_wrong_web P_wrong_web : Addr} {e_wrong_web : Value} {dd_wrong_web : Option Addr} {vs_wrong_web : Array Value} {sm_wrong_web : Array (Option Value)}
    (a_wrong_web : PySem.W.nsIn K mainGlobals "wrong_web" = some (some (.ref f_wrong_web)))
    (l_wrong_web : K.lookup f_wrong_web = some ⟨oc_wrong_web, od_wrong_web, .func (PySem.W.fnOf "wrong_web" "wrong_web" (defArgs st_wrong_web) (defBody st_wrong_web) (defScope st_wrong_web) .none kV_wrong_web dc_wrong_web pm_wrong_web an_wrong_web (.ref c_wrong_web) ct_wrong_web), sl_wrong_web⟩)
    (cc_wrong_web : PySem.W.codeIn K (.ref c_wrong_web) "wrong_web" = true)
    (k_wrong_web : PySem.W.keepIn K (.ref f_wrong_web) = true)
    (lc_wrong_web : K.lookup c_wrong_web = some ⟨e_wrong_web, dd_wrong_web, .fields vs_wrong_web, sm_wrong_web⟩)
    (p_wrong_web : vs_wrong_web[11]? = some (.ref P_wrong_web))
    (n_wrong_web : K.lookup P_wrong_web = none)
    (hd_wrong_web : PySem.W.codeHdIn K c_wrong_web P_wrong_web = true)
    {f_need_web : Addr} {oc_need_web kV_need_web dc_need_web pm_need_web ct_need_web : Value} {od_need_web an_need_web : Option Addr} {sl_need_web : Array (Option Value)} {cd_need_web : Value}
    (a_need_web : PySem.W.nsIn K mainGlobals "need_web" = some (some (.ref f_need_web)))
    (l_need_web : K.lookup f_need_web = some ⟨oc_need_web, od_need_web, .func (PySem.W.fnOf "need_web" "need_web" (defArgs st_need_web) (defBody st_need_web) (defScope st_need_web) .none kV_need_web dc_need_web pm_need_web an_need_web cd_need_web ct_need_web), sl_need_web⟩)
    (cc_need_web : PySem.W.codeIn K cd_need_web "need_web" = true)
    (k_need_web : PySem.W.keepIn K (.ref f_need_web) = true)
    {f__law_taken : Addr} {oc__law_taken kV__law_taken dc__law_taken pm__law_taken ct__law_taken : Value} {od__law_taken an__law_taken : Option Addr} {sl__law_taken : Array (Option Value)} {cd__law_taken : Value}
    (a__law_taken : PySem.W.nsIn K mainGlobals "_law_taken" = some (some (.ref f__law_taken)))
    (l__law_taken : K.lookup f__law_taken = some ⟨oc__law_taken, od__law_taken, .func (PySem.W.fnOf "_law_taken" "_law_taken" (defArgs st__law_taken) (defBody st__law_taken) (defScope st__law_taken) .none kV__law_taken dc__law_taken pm__law_taken an__law_taken cd__law_taken ct__law_taken), sl__law_taken⟩)
    (cc__law_taken : PySem.W.codeIn K cd__law_taken "_law_taken" = true)
    (k__law_taken : PySem.W.keepIn K (.ref f__law_taken) = true)
    {f__law_pick : Addr} {oc__law_pick kV__law_pick dc__law_pick pm__law_pick ct__law_pick : Value} {od__law_pick an__law_pick : Option Addr} {sl__law_pick : Array (Option Value)} {cd__law_pick : Value}
    (a__law_pick : PySem.W.nsIn K mainGlobals "_law_pick" = some (some (.ref f__law_pick)))
    (l__law_pick : K.lookup f__law_pick = some ⟨oc__law_pick, od__law_pick, .func (PySem.W.fnOf "_law_pick" "_law_pick" (defArgs st__law_pick) (defBody st__law_pick) (defScope st__law_pick) .none kV__law_pick dc__law_pick pm__law_pick an__law_pick cd__law_pick ct__law_pick), sl__law_pick⟩)
    (cc__law_pick : PySem.W.codeIn K cd__law_pick "_law_pick" = true)
    (k__law_pick : PySem.W.keepIn K (.ref f__law_pick) = true)
    {f__law_alike : Addr} {oc__law_alike kV__law_alike dc__law_alike pm__law_alike ct__law_alike : Value} {od__law_alike an__law_alike : Option Addr} {sl__law_alike : Array (Option Value)} {cd__law_alike : Value}
    (a__law_alike : PySem.W.nsIn K mainGlobals "_law_alike" = some (some (.ref f__law_alike)))
    (l__law_alike : K.lookup f__law_alike = some ⟨oc__law_alike, od__law_alike, .func (PySem.W.fnOf "_law_alike" "_law_alike" (defArgs st__law_alike) (defBody st__law_alike) (defScope st__law_alike) .none kV__law_alike dc__law_alike pm__law_alike an__law_alike cd__law_alike ct__law_alike), sl__law_alike⟩)
    (cc__law_alike : PySem.W.codeIn K cd__law_alike "_law_alike" = true)
    (k__law_alike : PySem.W.keepIn K (.ref f__law_alike) = true)
    {f__law_web : Addr} {oc__law_web kV__law_web dc__law_web pm__law_web ct__law_web : Value} {od__law_web an__law_web : Option Addr} {sl__law_web : Array (Option Value)} {cd__law_web : Value}
    (a__law_web : PySem.W.nsIn K mainGlobals "_law_web" = some (some (.ref f__law_web)))
    (l__law_web : K.lookup f__law_web = some ⟨oc__law_web, od__law_web, .func (PySem.W.fnOf "_law_web" "_law_web" (defArgs st__law_web) (defBody st__law_web) (defScope st__law_web) .none kV__law_web dc__law_web pm__law_web an__law_web cd__law_web ct__law_web), sl__law_web⟩)
    (cc__law_web : PySem.W.codeIn K cd__law_web "_law_web" = true)
    (k__law_web : PySem.W.keepIn K (.ref f__law_web) = true)
    {f_law : Addr} {oc_law kV_law dc_law pm_law ct_law : Value} {od_law an_law : Option Addr} {sl_law : Array (Option Value)} {cd_law : Value}
    (a_law : PySem.W.nsIn K mainGlobals "law" = some (some (.ref f_law)))
    (l_law : K.lookup f_law = some ⟨oc_law, od_law, .func (PySem.W.fnOf "law" "law" (defArgs st_law) (defBody st_law) (defScope st_law) .none kV_law dc_law pm_law an_law cd_law ct_law), sl_law⟩)
    (cc_law : PySem.W.codeIn K cd_law "law" = true)
    (k_law : PySem.W.keepIn K (.ref f_law) = true)
    (z_all : PySem.W.nsIn K mainGlobals "all" = some none)
    (z_bool : PySem.W.nsIn K mainGlobals "bool" = some none)
    (z_int : PySem.W.nsIn K mainGlobals "int" = some none)
    (z_isinstance : PySem.W.nsIn K mainGlobals "isinstance" = some none)
    (z_len : PySem.W.nsIn K mainGlobals "len" = some none)
    (z_list : PySem.W.nsIn K mainGlobals "list" = some none)
    (z_range : PySem.W.nsIn K mainGlobals "range" = some none)
    (z_str : PySem.W.nsIn K mainGlobals "str" = some none)
    (z_sum : PySem.W.nsIn K mainGlobals "sum" = some none)
    (z_tuple : PySem.W.nsIn K mainGlobals "tuple" = some none)
    (z_zip : PySem.W.nsIn K mainGlobals "zip" = some none)
    {t_MOST_HALLS : Tok}
    (v_MOST_HALLS : PySem.W.nsIn K mainGlobals "MOST_HALLS" = some (some (.int 13 t_MOST_HALLS)))
    {C_BadWeb f_BadWeb cc_BadWeb cd_BadWeb N_BadWeb : Addr} {nm_BadWeb q_BadWeb : Str} {bs_BadWeb bm_BadWeb sb_BadWeb : List Value} {sn_BadWeb : List Str} {ab_BadWeb : Bool} {cl_BadWeb : Option Bool} {dd_BadWeb : Option Addr} {k0_BadWeb k1_BadWeb k2_BadWeb k3_BadWeb k5_BadWeb : Option Value}
    {oc_BadWeb kV_BadWeb dc_BadWeb pm_BadWeb ct_BadWeb e_BadWeb ce_BadWeb : Value} {od_BadWeb an_BadWeb dx_BadWeb cx_BadWeb : Option Addr} {sl_BadWeb sm_BadWeb cs_BadWeb : Array (Option Value)} {vs_BadWeb : Array Value} {fi_BadWeb : Str} {tf_BadWeb : Tok}
    (ea_BadWeb : PySem.W.nsIn K mainGlobals "BadWeb" = some (some (.ref C_BadWeb)))
    (ek_BadWeb : PySem.W.keepIn K (.ref C_BadWeb) = true)
    (es_BadWeb : PySem.W.subIn K (.ref C_BadWeb) (.type "BaseException") = some true)
    (et_BadWeb : PySem.W.typeIn K (.ref C_BadWeb) = some (.type "type"))
    (ei_BadWeb : PySem.W.isClsIn K C_BadWeb = true)
    (er_BadWeb : PySem.W.subIn K (.ref C_BadWeb) (.ref C_BadWeb) = some true)
    (xl_BadWeb : K.lookup C_BadWeb = some (excClassObj nm_BadWeb q_BadWeb C_BadWeb N_BadWeb bs_BadWeb bm_BadWeb true sn_BadWeb sb_BadWeb ab_BadWeb cl_BadWeb dd_BadWeb k0_BadWeb k1_BadWeb k2_BadWeb k3_BadWeb k5_BadWeb "ValueError.__new__"))
    (xr_BadWeb : PySem.HandSPX.refsVE bm_BadWeb = true)
    (xs_BadWeb : PySem.W.findIn K (.ref C_BadWeb) "__setattr__" = some (some (.builtin "object.__setattr__")))
    (xi_BadWeb : PySem.W.findIn K (.ref C_BadWeb) "__init__" = some (some (.ref f_BadWeb)))
    (xt_BadWeb : PySem.W.typeIn K (.ref f_BadWeb) = some (.type "function"))
    (xf_BadWeb : K.lookup f_BadWeb = some ⟨oc_BadWeb, od_BadWeb, .func (PySem.W.fnX "__init__" "BadWeb.__init__" (defArgs (xS 2 0)) (defBody (xS 2 0)) (defScope (xS 2 0)) [(("__class__" : Str), cc_BadWeb)] .none kV_BadWeb dc_BadWeb pm_BadWeb an_BadWeb (.ref cd_BadWeb) ct_BadWeb), sl_BadWeb⟩)
    (xc_BadWeb : PySem.W.codeIn K (.ref cd_BadWeb) "BadWeb.__init__" = true)
    (xv_BadWeb : K.lookup cd_BadWeb = some ⟨e_BadWeb, dx_BadWeb, .fields vs_BadWeb, sm_BadWeb⟩)
    (xp_BadWeb : vs_BadWeb[2]? = some (.str fi_BadWeb tf_BadWeb))
    (xm_BadWeb : ((PySem.Challenge.rw_stepwebs_k08_whole_wheels.prog.main.file : Str) == fi_BadWeb) = true)
    (xe_BadWeb : K.lookup cc_BadWeb = some ⟨ce_BadWeb, cx_BadWeb, .cell (some (.ref C_BadWeb)), cs_BadWeb⟩)
    (xq_BadWeb : PySem.W.mroIn K C_BadWeb (.ref C_BadWeb) = some true)
    (xu_BadWeb : PySem.W.ks_superIn K C_BadWeb C_BadWeb "__init__" = some (some (.builtin "ValueError.__init__")))
    (xw_BadWeb : PySem.W.subIn K (.ref C_BadWeb) (.type "ValueError") = some true)
    (xn_BadWeb_part : PySem.W.findIn K (.ref C_BadWeb) "part" = some none)
    (z_super : PySem.W.nsIn K mainGlobals "super" = some none)
    (xo : PySem.W.nsIn K cStatics "thirdparty.any" = some none)
    (xz : (PySem.Challenge.rw_stepwebs_k08_whole_wheels.prog.main.scope.names.lookup ("super" : Str)).isSome = false)
    {C_w f_init f_go f_undo f_steps f_path f_hall p_steps p_path p_hall : Addr} {rr_steps rr_path rr_hall : List Value}
    (wa : PySem.W.nsIn K mainGlobals "Wheel" = some (some (.ref C_w)))
    (w1 : PySem.W.plainGet K C_w Str.empty = true)
    (w2 : PySem.W.hasDictIn K C_w = true)
    (w3 : PySem.W.plainOver K C_w = true)
    (w4 : PySem.W.findIn K (.ref C_w) "__setattr__" = some (some (.builtin "object.__setattr__")))
    (w5 : PySem.W.makesIn K C_w = true)
    (w6 : PySem.W.findIn K (.ref C_w) "__init__" = some (some (.ref f_init)))
    (w7 : PySem.W.isFn K (.ref f_init) = true)
    (w8 : PySem.W.keepIn K (.ref C_w) = true)
    (wf_go : PySem.W.findIn K (.ref C_w) "go" = some (some (.ref f_go)))
    (wn_go : PySem.W.isFn K (.ref f_go) = true)
    (wf_undo : PySem.W.findIn K (.ref C_w) "undo" = some (some (.ref f_undo)))
    (wn_undo : PySem.W.isFn K (.ref f_undo) = true)
    (wf_steps : PySem.W.findIn K (.ref C_w) "steps" = some (some (.ref p_steps)))
    (wg_steps : PySem.W.specialIn K (.ref p_steps) "__get__" = some (some (.builtin "property.__get__")))
    (wt_steps : PySem.W.takesIn K (.ref p_steps) = some true)
    (wr_steps : PySem.W.recIn K p_steps "property" = some (.ref f_steps :: rr_steps))
    (wf_path : PySem.W.findIn K (.ref C_w) "path" = some (some (.ref p_path)))
    (wg_path : PySem.W.specialIn K (.ref p_path) "__get__" = some (some (.builtin "property.__get__")))
    (wt_path : PySem.W.takesIn K (.ref p_path) = some true)
    (wr_path : PySem.W.recIn K p_path "property" = some (.ref f_path :: rr_path))
    (wf_hall : PySem.W.findIn K (.ref C_w) "hall" = some (some (.ref p_hall)))
    (wg_hall : PySem.W.specialIn K (.ref p_hall) "__get__" = some (some (.builtin "property.__get__")))
    (wt_hall : PySem.W.takesIn K (.ref p_hall) = some true)
    (wr_hall : PySem.W.recIn K p_hall "property" = some (.ref f_hall :: rr_hall))
    {oc_winit kV_winit dc_winit pm_winit ct_winit cd_winit : Value} {od_winit an_winit : Option Addr} {sl_winit : Array (Option Value)}
    (wl_init : K.lookup f_init = some ⟨oc_winit, od_winit, .func (PySem.W.fnOf "__init__" "Wheel.__init__" (defArgs (whS 0)) (defBody (whS 0)) (defScope (whS 0)) .none kV_winit dc_winit pm_winit an_winit cd_winit ct_winit), sl_winit⟩)
    (wc_init : PySem.W.codeIn K cd_winit "Wheel.__init__" = true)
    (wk_init : PySem.W.keepIn K (.ref f_init) = true)
    {oc_wgo kV_wgo dc_wgo pm_wgo ct_wgo cd_wgo : Value} {od_wgo an_wgo : Option Addr} {sl_wgo : Array (Option Value)}
    (wl_go : K.lookup f_go = some ⟨oc_wgo, od_wgo, .func (PySem.W.fnOf "go" "Wheel.go" (defArgs (whS 1)) (defBody (whS 1)) (defScope (whS 1)) .none kV_wgo dc_wgo pm_wgo an_wgo cd_wgo ct_wgo), sl_wgo⟩)
    (wc_go : PySem.W.codeIn K cd_wgo "Wheel.go" = true)
    (wk_go : PySem.W.keepIn K (.ref f_go) = true)
    {oc_wundo kV_wundo dc_wundo pm_wundo ct_wundo cd_wundo : Value} {od_wundo an_wundo : Option Addr} {sl_wundo : Array (Option Value)}
    (wl_undo : K.lookup f_undo = some ⟨oc_wundo, od_wundo, .func (PySem.W.fnOf "undo" "Wheel.undo" (defArgs (whS 2)) (defBody (whS 2)) (defScope (whS 2)) .none kV_wundo dc_wundo pm_wundo an_wundo cd_wundo ct_wundo), sl_wundo⟩)
    (wc_undo : PySem.W.codeIn K cd_wundo "Wheel.undo" = true)
    (wk_undo : PySem.W.keepIn K (.ref f_undo) = true)
    {oc_wsteps kV_wsteps dc_wsteps pm_wsteps ct_wsteps cd_wsteps : Value} {od_wsteps an_wsteps : Option Addr} {sl_wsteps : Array (Option Value)}
    (wl_steps : K.lookup f_steps = some ⟨oc_wsteps, od_wsteps, .func (PySem.W.fnOf "steps" "Wheel.steps" (defArgs (whS 3)) (defBody (whS 3)) (defScope (whS 3)) .none kV_wsteps dc_wsteps pm_wsteps an_wsteps cd_wsteps ct_wsteps), sl_wsteps⟩)
    (wc_steps : PySem.W.codeIn K cd_wsteps "Wheel.steps" = true)
    (wk_steps : PySem.W.keepIn K (.ref f_steps) = true)
    {oc_wpath kV_wpath dc_wpath pm_wpath ct_wpath cd_wpath : Value} {od_wpath an_wpath : Option Addr} {sl_wpath : Array (Option Value)}
    (wl_path : K.lookup f_path = some ⟨oc_wpath, od_wpath, .func (PySem.W.fnOf "path" "Wheel.path" (defArgs (whS 4)) (defBody (whS 4)) (defScope (whS 4)) .none kV_wpath dc_wpath pm_wpath an_wpath cd_wpath ct_wpath), sl_wpath⟩)
    (wc_path : PySem.W.codeIn K cd_wpath "Wheel.path" = true)
    (wk_path : PySem.W.keepIn K (.ref f_path) = true)
    {oc_whall kV_whall dc_whall pm_whall ct_whall cd_whall : Value} {od_whall an_whall : Option Addr} {sl_whall : Array (Option Value)}
    (wl_hall : K.lookup f_hall = some ⟨oc_whall, od_whall, .func (PySem.W.fnOf "hall" "Wheel.hall" (defArgs (whS 5)) (defBody (whS 5)) (defScope (whS 5)) .none kV_whall dc_whall pm_whall an_whall cd_whall ct_whall), sl_whall⟩)
    (wc_hall : PySem.W.codeIn K cd_whall "Wheel.hall" = true)
    (wk_hall : PySem.W.keepIn K (.ref f_hall) = true)
    (wq_web : PySem.W.findIn K (.ref C_w) "_web" = some none)
    (wq_steps : PySem.W.findIn K (.ref C_w) "_steps" = some none)
    (wq_path : PySem.W.findIn K (.ref C_w) "_path" = some none)
    {C_BadStep : Addr}
    (ea_BadStep : PySem.W.nsIn K mainGlobals "BadStep" = some (some (.ref C_BadStep)))
    (ee_BadStep : PySem.W.excIn K C_BadStep [.type "ValueError", .type "Exception", .type "BaseException", .type "object"] "ValueError.__new__" = true)
    (ek_BadStep : PySem.W.keepIn K (.ref C_BadStep) = true)
    (es_BadStep : PySem.W.subIn K (.ref C_BadStep) (.type "BaseException") = some true)
    (et_BadStep : PySem.W.typeIn K (.ref C_BadStep) = some (.type "type"))
    (ei_BadStep : PySem.W.isClsIn K C_BadStep = true)
    (er_BadStep : PySem.W.subIn K (.ref C_BadStep) (.ref C_BadStep) = some true)
    {C_NoStep : Addr}
    (ea_NoStep : PySem.W.nsIn K mainGlobals "NoStep" = some (some (.ref C_NoStep)))
    (ee_NoStep : PySem.W.excIn K C_NoStep [.type "ValueError", .type "Exception", .type "BaseException", .type "object"] "ValueError.__new__" = true)
    (ek_NoStep : PySem.W.keepIn K (.ref C_NoStep) = true)
    (es_NoStep : PySem.W.subIn K (.ref C_NoStep) (.type "BaseException") = some true)
    (et_NoStep : PySem.W.typeIn K (.ref C_NoStep) = some (.type "type"))
    (ei_NoStep : PySem.W.isClsIn K C_NoStep = true)
    (er_NoStep : PySem.W.subIn K (.ref C_NoStep) (.ref C_NoStep) = some true)
    : LamX.LawAtS PySem.Challenge.rw_stepwebs_k08_whole_wheels w K (L2.CX PySem.Challenge.rw_stepwebs_k08_whole_wheels.prog w) 8 63 "_law_script" mg fa h := by
  have e := hfa.symm.trans (PySem.W.mg_of KX N a_law)
  cases e
  refine law_at (G := ⟨K, [P_wrong_web], fun x => if x = ("NoStep" : Str) then C_NoStep else (fun x => if x = ("BadWeb" : Str) then C_BadWeb else (fun x => if x = ("BadStep" : Str) then C_BadStep else (fun _ => 0) x) x) x⟩) (F := F_law) [(c_wrong_web, P_wrong_web)] KX rfl rfl (List.forall_mem_cons.mpr ⟨ownTab_of (tabs _ (List.mem_cons_self) _ (PySem.W.mg_of KX N a_wrong_web)) l_wrong_web lc_wrong_web p_wrong_web, (fun _ h => nomatch h)⟩) (List.forall_mem_cons.mpr ⟨n_wrong_web, (fun _ h => nomatch h)⟩) (List.forall_mem_cons.mpr ⟨hd_wrong_web, (fun _ h => nomatch h)⟩) (fun s v => .of_eq rfl) (fun base KB NB TB => okf_law (G := ⟨K, [P_wrong_web], fun x => if x = ("NoStep" : Str) then C_NoStep else (fun x => if x = ("BadWeb" : Str) then C_BadWeb else (fun x => if x = ("BadStep" : Str) then C_BadStep else (fun _ => 0) x) x) x⟩) ?_ (fun_mk l_law cc_law k_law)) main_law
  exact {
    t_is_number := topF_of KX N a_is_number l_is_number cc_is_number k_is_number
    t_wrong_web := topG_of KX N a_wrong_web l_wrong_web cc_wrong_web k_wrong_web (List.mem_cons_self) (TB _ (List.mem_cons_self))
    t_need_web := topF_of KX N a_need_web l_need_web cc_need_web k_need_web
    t__law_taken := topF_of KX N a__law_taken l__law_taken cc__law_taken k__law_taken
    t__law_pick := topF_of KX N a__law_pick l__law_pick cc__law_pick k__law_pick
    t__law_alike := topF_of KX N a__law_alike l__law_alike cc__law_alike k__law_alike
    t__law_web := topF_of KX N a__law_web l__law_web cc__law_web k__law_web
    t_law := topF_of KX N a_law l_law cc_law k_law
    b_all := PySem.W.mg_none_of KX N z_all
    b_bool := PySem.W.mg_none_of KX N z_bool
    b_int := PySem.W.mg_none_of KX N z_int
    b_isinstance := PySem.W.mg_none_of KX N z_isinstance
    b_len := PySem.W.mg_none_of KX N z_len
    b_list := PySem.W.mg_none_of KX N z_list
    b_range := PySem.W.mg_none_of KX N z_range
    b_str := PySem.W.mg_none_of KX N z_str
    b_sum := PySem.W.mg_none_of KX N z_sum
    b_tuple := PySem.W.mg_none_of KX N z_tuple
    b_zip := PySem.W.mg_none_of KX N z_zip
    c_MOST_HALLS := ⟨_, PySem.W.mg_of KX N v_MOST_HALLS, ⟨_, rfl⟩⟩
    e_BadStep := by
      have q : (fun x => if x = ("NoStep" : Str) then C_NoStep else (fun x => if x = ("BadWeb" : Str) then C_BadWeb else (fun x => if x = ("BadStep" : Str) then C_BadStep else (fun _ => 0) x) x) x) ("BadStep" : Str) = C_BadStep := by rfl
      show ErrC K mg "BadStep" ((fun x => if x = ("NoStep" : Str) then C_NoStep else (fun x => if x = ("BadWeb" : Str) then C_BadWeb else (fun x => if x = ("BadStep" : Str) then C_BadStep else (fun _ => 0) x) x) x) ("BadStep" : Str))
      rw [q]
      exact ⟨PySem.W.mg_of KX N ea_BadStep, ee_BadStep, ek_BadStep, es_BadStep, et_BadStep⟩
    x_BadStep_BadStep := by
      have q : (fun x => if x = ("NoStep" : Str) then C_NoStep else (fun x => if x = ("BadWeb" : Str) then C_BadWeb else (fun x => if x = ("BadStep" : Str) then C_BadStep else (fun _ => 0) x) x) x) ("BadStep" : Str) = C_BadStep := by rfl
      show PySem.W.exmOne K (.ref ((fun x => if x = ("NoStep" : Str) then C_NoStep else (fun x => if x = ("BadWeb" : Str) then C_BadWeb else (fun x => if x = ("BadStep" : Str) then C_BadStep else (fun _ => 0) x) x) x) ("BadStep" : Str))) (.ref ((fun x => if x = ("NoStep" : Str) then C_NoStep else (fun x => if x = ("BadWeb" : Str) then C_BadWeb else (fun x => if x = ("BadStep" : Str) then C_BadStep else (fun _ => 0) x) x) x) ("BadStep" : Str))) = some true
      rw [q]
      exact exm_own es_BadStep ei_BadStep et_BadStep er_BadStep
    e_NoStep := by
      have q : (fun x => if x = ("NoStep" : Str) then C_NoStep else (fun x => if x = ("BadWeb" : Str) then C_BadWeb else (fun x => if x = ("BadStep" : Str) then C_BadStep else (fun _ => 0) x) x) x) ("NoStep" : Str) = C_NoStep := by rfl
      show ErrC K mg "NoStep" ((fun x => if x = ("NoStep" : Str) then C_NoStep else (fun x => if x = ("BadWeb" : Str) then C_BadWeb else (fun x => if x = ("BadStep" : Str) then C_BadStep else (fun _ => 0) x) x) x) ("NoStep" : Str))
      rw [q]
      exact ⟨PySem.W.mg_of KX N ea_NoStep, ee_NoStep, ek_NoStep, es_NoStep, et_NoStep⟩
    x_NoStep_NoStep := by
      have q : (fun x => if x = ("NoStep" : Str) then C_NoStep else (fun x => if x = ("BadWeb" : Str) then C_BadWeb else (fun x => if x = ("BadStep" : Str) then C_BadStep else (fun _ => 0) x) x) x) ("NoStep" : Str) = C_NoStep := by rfl
      show PySem.W.exmOne K (.ref ((fun x => if x = ("NoStep" : Str) then C_NoStep else (fun x => if x = ("BadWeb" : Str) then C_BadWeb else (fun x => if x = ("BadStep" : Str) then C_BadStep else (fun _ => 0) x) x) x) ("NoStep" : Str))) (.ref ((fun x => if x = ("NoStep" : Str) then C_NoStep else (fun x => if x = ("BadWeb" : Str) then C_BadWeb else (fun x => if x = ("BadStep" : Str) then C_BadStep else (fun _ => 0) x) x) x) ("NoStep" : Str))) = some true
      rw [q]
      exact exm_own es_NoStep ei_NoStep et_NoStep er_NoStep
    fx_BadWeb := by
      have q : (fun x => if x = ("NoStep" : Str) then C_NoStep else (fun x => if x = ("BadWeb" : Str) then C_BadWeb else (fun x => if x = ("BadStep" : Str) then C_BadStep else (fun _ => 0) x) x) x) ("BadWeb" : Str) = C_BadWeb := by rfl
      show ErrX PySem.Challenge.rw_stepwebs_k08_whole_wheels.prog w K mg base "BadWeb" ((fun x => if x = ("NoStep" : Str) then C_NoStep else (fun x => if x = ("BadWeb" : Str) then C_BadWeb else (fun x => if x = ("BadStep" : Str) then C_BadStep else (fun _ => 0) x) x) x) ("BadWeb" : Str)) ["part"]
      rw [q]
      have TT : OexC K C_BadWeb := ⟨⟨_, _, _, _, _, _, _, _, _, _, _, _, _, _, _, xl_BadWeb, xr_BadWeb⟩, xs_BadWeb, es_BadWeb, et_BadWeb, ek_BadWeb⟩
      have SF : SI.SupF PySem.Challenge.rw_stepwebs_k08_whole_wheels.prog K mg C_BadWeb cd_BadWeb cc_BadWeb := ⟨⟨_, _, _, _, _, _, xv_BadWeb, xp_BadWeb, xm_BadWeb⟩, ⟨_, _, _, xe_BadWeb⟩, xq_BadWeb, Option.isSome_iff_exists.mp ei_BadWeb, PySem.W.mg_none_of KX N z_super, xz, xu_BadWeb, xo, xw_BadWeb⟩
      exact ⟨PySem.W.mg_of KX N ea_BadWeb, TT, ⟨f_BadWeb, _, _, xi_BadWeb, xt_BadWeb, init1 xf_BadWeb xc_BadWeb (NdefX.nscope_by (by kernel_rfl)) TT SF rfl rfl (by kernel_rfl) xn_BadWeb_part, Binds.all fun us hl => match us, hl with | [_, _], _ => rfl⟩, by decide⟩
    x_BadWeb_BadWeb := by
      have q : (fun x => if x = ("NoStep" : Str) then C_NoStep else (fun x => if x = ("BadWeb" : Str) then C_BadWeb else (fun x => if x = ("BadStep" : Str) then C_BadStep else (fun _ => 0) x) x) x) ("BadWeb" : Str) = C_BadWeb := by rfl
      show PySem.W.exmOne K (.ref ((fun x => if x = ("NoStep" : Str) then C_NoStep else (fun x => if x = ("BadWeb" : Str) then C_BadWeb else (fun x => if x = ("BadStep" : Str) then C_BadStep else (fun _ => 0) x) x) x) ("BadWeb" : Str))) (.ref ((fun x => if x = ("NoStep" : Str) then C_NoStep else (fun x => if x = ("BadWeb" : Str) then C_BadWeb else (fun x => if x = ("BadStep" : Str) then C_BadStep else (fun _ => 0) x) x) x) ("BadWeb" : Str))) = some true
      rw [q]
      exact exm_own es_BadWeb ei_BadWeb et_BadWeb er_BadWeb
    wh := ⟨C_w, PySem.W.mg_of KX N wa, ⟨w1, w2, w3, w4⟩, ⟨_, _, fun_mk wl_init wc_init wk_init, ⟨w5, w6, w7, w8⟩⟩, ⟨_, _, fun_mk wl_go wc_go wk_go, ⟨wf_go, wn_go, wk_go⟩⟩, ⟨_, _, fun_mk wl_undo wc_undo wk_undo, ⟨wf_undo, wn_undo, wk_undo⟩⟩,
      ⟨_, _, _, fun_mk wl_steps wc_steps wk_steps, ⟨wf_steps, wg_steps, wt_steps, ⟨_, wr_steps⟩⟩⟩, ⟨_, _, _, fun_mk wl_path wc_path wk_path, ⟨wf_path, wg_path, wt_path, ⟨_, wr_path⟩⟩⟩, ⟨_, _, _, fun_mk wl_hall wc_hall wk_hall, ⟨wf_hall, wg_hall, wt_hall, ⟨_, wr_hall⟩⟩⟩, wq_web, wq_steps, wq_path⟩
  }
end LW
open PySem PySem.W PyProof.Rows
set_option maxRecDepth 100000 in
set_option maxHeartbeats 0 in
theorem PySem.Challenge.cw_stepwebs_k08_whole_wheels_holds : PySem.Challenge.rw_stepwebs_k08_whole_wheels.Holds := by
  w_on; o_law; k_head; (case hw => w_witness2)
  k_fill
  refine DL.walk_all (l := PySem.Challenge.rw_stepwebs_k08_whole_wheels) (n := 63) (k := 8) (x := "_law_script") (CX := fun w => L2.CX PySem.Challenge.rw_stepwebs_k08_whole_wheels.prog w) LW.gnames rfl (by decide) rfl ⟨rfl, by decide, by decide⟩ (by decide +kernel) (fun w h Y => PySem.W.kIn_of Y) ?F (fun _ _ _ _ _ h => DL.cx_none h)
  case F =>
    intro w mg fa h Y KX N hmg tabs
    refine' LW.all_mk KX N hmg tabs ?a_is_number ?l_is_number ?cc_is_number ?k_is_number ?a_wrong_web ?l_wrong_web ?cc_wrong_web ?k_wrong_web ?lc_wrong_web ?p_wrong_web ?n_wrong_web ?hd_wrong_web ?a_need_web ?l_need_web ?cc_need_web ?k_need_web ?a__law_taken ?l__law_taken ?cc__law_taken ?k__law_taken ?a__law_pick ?l__law_pick ?cc__law_pick ?k__law_pick ?a__law_alike ?l__law_alike ?cc__law_alike ?k__law_alike ?a__law_web ?l__law_web ?cc__law_web ?k__law_web ?a_law ?l_law ?cc_law ?k_law ?z_all ?z_bool ?z_int ?z_isinstance ?z_len ?z_list ?z_range ?z_str ?z_sum ?z_tuple ?z_zip ?v_MOST_HALLS ?ea_BadWeb ?ek_BadWeb ?es_BadWeb ?et_BadWeb ?ei_BadWeb ?er_BadWeb ?xl_BadWeb ?xr_BadWeb ?xs_BadWeb ?xi_BadWeb ?xt_BadWeb ?xf_BadWeb ?xc_BadWeb ?xv_BadWeb ?xp_BadWeb ?xm_BadWeb ?xe_BadWeb ?xq_BadWeb ?xu_BadWeb ?xw_BadWeb ?xn_BadWeb_part ?z_super ?xo ?xz ?wa ?w1 ?w2 ?w3 ?w4 ?w5 ?w6 ?w7 ?w8 ?wf_go ?wn_go ?wf_undo ?wn_undo ?wf_steps ?wg_steps ?wt_steps ?wr_steps ?wf_path ?wg_path ?wt_path ?wr_path ?wf_hall ?wg_hall ?wt_hall ?wr_hall ?wl_init ?wc_init ?wk_init ?wl_go ?wc_go ?wk_go ?wl_undo ?wc_undo ?wk_undo ?wl_steps ?wc_steps ?wk_steps ?wl_path ?wc_path ?wk_path ?wl_hall ?wc_hall ?wk_hall ?wq_web ?wq_steps ?wq_path ?ea_BadStep ?ee_BadStep ?ek_BadStep ?es_BadStep ?et_BadStep ?ei_BadStep ?er_BadStep ?ea_NoStep ?ee_NoStep ?ek_NoStep ?es_NoStep ?et_NoStep ?ei_NoStep ?er_NoStep
    (case a_is_number => k_is)
    (case l_is_number => k_is)
    (case cc_is_number => k_is)
    (case k_is_number => k_is)
    (case a_wrong_web => k_is)
    (case l_wrong_web => k_is)
    (case cc_wrong_web => k_is)
    (case k_wrong_web => k_is)
    (case lc_wrong_web => k_is)
    (case p_wrong_web => rfl)
    (case n_wrong_web => first | k_is | kernel_rfl)
    (case hd_wrong_web => first | k_is | kernel_rfl)
    (case a_need_web => k_is)
    (case l_need_web => k_is)
    (case cc_need_web => k_is)
    (case k_need_web => k_is)
    (case a__law_taken => k_is)
    (case l__law_taken => k_is)
    (case cc__law_taken => k_is)
    (case k__law_taken => k_is)
    (case a__law_pick => k_is)
    (case l__law_pick => k_is)
    (case cc__law_pick => k_is)
    (case k__law_pick => k_is)
    (case a__law_alike => k_is)
    (case l__law_alike => k_is)
    (case cc__law_alike => k_is)
    (case k__law_alike => k_is)
    (case a__law_web => k_is)
    (case l__law_web => k_is)
    (case cc__law_web => k_is)
    (case k__law_web => k_is)
    (case a_law => k_is)
    (case l_law => k_is)
    (case cc_law => k_is)
    (case k_law => k_is)
    (case z_all => k_is)
    (case z_bool => k_is)
    (case z_int => k_is)
    (case z_isinstance => k_is)
    (case z_len => k_is)
    (case z_list => k_is)
    (case z_range => k_is)
    (case z_str => k_is)
    (case z_sum => k_is)
    (case z_tuple => k_is)
    (case z_zip => k_is)
    (case v_MOST_HALLS => k_is)
    (case ea_BadWeb => k_is)
    (case ek_BadWeb => k_is)
    (case es_BadWeb => k_is)
    (case et_BadWeb => k_is)
    (case ei_BadWeb => k_is)
    (case er_BadWeb => k_is)
    (case xl_BadWeb => first | k_is | kernel_rfl)
    (case xr_BadWeb => kernel_rfl)
    (case xs_BadWeb => k_is)
    (case xi_BadWeb => k_is)
    (case xt_BadWeb => k_is)
    (case xf_BadWeb => first | k_is | kernel_rfl)
    (case xc_BadWeb => k_is)
    (case xv_BadWeb => first | k_is | kernel_rfl)
    (case xp_BadWeb => rfl)
    (case xm_BadWeb => kernel_rfl)
    (case xe_BadWeb => first | k_is | kernel_rfl)
    (case xq_BadWeb => first | k_is | kernel_rfl)
    (case xu_BadWeb => first | ks_is | kernel_rfl)
    (case xw_BadWeb => k_is)
    (case xn_BadWeb_part => k_is)
    (case z_super => k_is)
    (case xo => k_is)
    (case xz => kernel_rfl)
    (case wa => k_is)
    (case w1 => first | k_is | kernel_rfl)
    (case w2 => first | k_is | kernel_rfl)
    (case w3 => first | k_is | kernel_rfl)
    (case w4 => k_is)
    (case w5 => first | k_is | kernel_rfl)
    (case w6 => k_is)
    (case w7 => k_is)
    (case w8 => k_is)
    (case wf_go => k_is)
    (case wn_go => k_is)
    (case wf_undo => k_is)
    (case wn_undo => k_is)
    (case wf_steps => k_is)
    (case wg_steps => first | k_is | kernel_rfl)
    (case wt_steps => first | k_is | kernel_rfl)
    (case wr_steps => first | k_is | kernel_rfl)
    (case wf_path => k_is)
    (case wg_path => first | k_is | kernel_rfl)
    (case wt_path => first | k_is | kernel_rfl)
    (case wr_path => first | k_is | kernel_rfl)
    (case wf_hall => k_is)
    (case wg_hall => first | k_is | kernel_rfl)
    (case wt_hall => first | k_is | kernel_rfl)
    (case wr_hall => first | k_is | kernel_rfl)
    (case wl_init => k_is)
    (case wc_init => k_is)
    (case wk_init => k_is)
    (case wl_go => k_is)
    (case wc_go => k_is)
    (case wk_go => k_is)
    (case wl_undo => k_is)
    (case wc_undo => k_is)
    (case wk_undo => k_is)
    (case wl_steps => k_is)
    (case wc_steps => k_is)
    (case wk_steps => k_is)
    (case wl_path => k_is)
    (case wc_path => k_is)
    (case wk_path => k_is)
    (case wl_hall => k_is)
    (case wc_hall => k_is)
    (case wk_hall => k_is)
    (case wq_web => k_is)
    (case wq_steps => k_is)
    (case wq_path => k_is)
    (case ea_BadStep => k_is)
    (case ee_BadStep => k_exc)
    (case ek_BadStep => k_is)
    (case es_BadStep => k_is)
    (case et_BadStep => k_is)
    (case ei_BadStep => k_is)
    (case er_BadStep => k_is)
    (case ea_NoStep => k_is)
    (case ee_NoStep => k_exc)
    (case ek_NoStep => k_is)
    (case es_NoStep => k_is)
    (case et_NoStep => k_is)
    (case ei_NoStep => k_is)
    (case er_NoStep => k_is)