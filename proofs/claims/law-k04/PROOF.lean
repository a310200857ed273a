import PyProof.Rows.All
import Wide.All
import OpenK.AllK
import Wide.FinOn
import HandS.ForMost
import HandS.AnyAll
import HandS.GenOver
import HandS.GenList
import PyProof.GenQ
import HandS.Deep
import HandS.TupAny
import HandS.TupSets
import HandS.IsInst
import HandS.Flow
import HandS.Style
import HandS.Conv
import HandS.Defaults
import KE.SortData
import KE.GoesMore
import PySem.Challenge.RW_onelife_k04_whole_rows
import HandS.Small
import HandS.WordsExc
import HandS.Head0
import HandS.Head1
import HandS.Head2
import HandS.HeadEnd
import HandS.HeadHook1
import HandS.HeadHook2
import HandS.HeadHook3
import HandS.HeadHook4
import HandS.HeadWalk
import HandS.NestedK
set_option Elab.async false
set_option linter.all false
set_option maxRecDepth 100000
set_option maxHeartbeats 2000000
/-! all(elt for target in iter): any walk, an element that may call defs (which may themselves run such expressions). -/
namespace K4
open PySem PySem.Spec PyProof.Rows L2 GxR
open GenW (wpAny_gsz setGen_size)

theorem over_gl {A : Around} {elt : Expr} {gs : List Comprehension} {scope : Scope} {pos : Pos} {it acc : Value} {env : Env} : A.over (.compLoop (.GeneratorExp elt gs scope pos) 0 it acc env) [] = A.deeper env := by
  first
    | rfl
    | (obtain ⟨hd, d, fr, gs, u⟩ := A; simp [Around.over, Around.deeper, marksOver, frameCount, unitsOf, envsOf, guardsOf, pushEnvs, pushGuards, Code.envs, Code.env?, Code.isFrame, Code.guards, Code.isGuard, Code.weight, Code.frames, Code.isCreation, Code.isCaller, Code.cUnits])
theorem over_gs {A : Around} {elt : Expr} {gs : List Comprehension} {scope : Scope} {pos : Pos} {it acc : Value} {env : Env} : A.over (.compStart (.GeneratorExp elt gs scope pos) 0 it acc env) [] = A.deeper env := by
  first
    | rfl
    | (obtain ⟨hd, d, fr, gs, u⟩ := A; simp [Around.over, Around.deeper, marksOver, frameCount, unitsOf, envsOf, guardsOf, pushEnvs, pushGuards, Code.envs, Code.env?, Code.isFrame, Code.guards, Code.isGuard, Code.weight, Code.frames, Code.isCreation, Code.isCaller, Code.cUnits])

/-- the context of a generator expression's frame, made at s; its iterator's objects at fp -/
abbrev gen (X : Cx) (s : Shared) (H : Hp) (cenv : Env) (fp : List Addr) : Cx :=
  { X with A := X.A.in1.in1.deeper cenv, s_0 := s, H_0 := H, env := cenv, outer := X.stack, stack := cenv :: X.stack, ex := fp, fn := fun _ => false, pn := [], xe := fun _ _ => False }

/-- the scope of a generator expression -/
structure GSc (scope : Scope) : Prop where
  co : scope.isCoroutine = false
  cell : ∀ y ∈ scope.names, y.2 ≠ .cell
  dot : scope.names.lookup (".0" : Str) = some NameKind.local

section
variable {X : Cx} {pins : List (Addr × Obj)} {σ : L2.St} {H : Hp} {s : Shared}

theorem gen_start {scope : Scope} {own : List (Str × Nat)} {fp : List Addr} {code : Value} {bi : Addr} {it : Value} {h' : Heap} {g' : Array GenState} {t' : Nat}
    (I : Inv X pins σ H s) (ok : BlkOk X.N X.env.scope scope own) (S : GSc scope) (hN : X.N.Nodup) (hbi : bi = builtinsNs) (hd : X.A.handled = none)
    (hfp : ∀ b ∈ fp, FpOk X pins H b ∧ b < s.heap.objs.size)
    (hn : h'.Ns s.heap.objs.size (fun y => if y = ".0" then some it else none)) (hk : ∀ b o, s.heap.get? b = some o → h'.get? b = some o) (hg : AllBare g') :
    Inv (gen X s H (genEnv scope (cloFrom X.env.cells scope.names []) s.heap.objs.size code bi X.env) fp) [] (wipe σ (own.map (·.2))) H { s with heap := h', gens := g', toks := t' } := by
  have hfree : ∀ y ∈ scope.names, y.2 = .free → ∃ c, X.env.cells.lookup y.1 = some c := fun y hy e => by
    rcases ok.free y hy e with k | k
    · exact I.ok.has _ (.inl k)
    · exact I.ok.has _ (.inr k)
  have cm : ∀ {y c}, (y, c) ∈ cloFrom X.env.cells scope.names [] → X.env.cells.lookup y = some c ∧ c < s.heap.objs.size := fun {y c} hm => by
    rcases cloFrom_mem hm with hm | ⟨h1, rfl⟩
    · cases hm
    · obtain ⟨c, hc⟩ := hfree _ h1 rfl
      rw [hc]
      obtain ⟨w, z⟩ := I.cell _ _ hc
      exact ⟨rfl, z.lt⟩
  have mem : ∀ {y c}, (cloFrom X.env.cells scope.names []).lookup y = some c → X.env.cells.lookup y = some c ∧ c < s.heap.objs.size := fun {y c} e => cm (PySem.mem_of_lookup e)
  have look : ∀ {y}, scope.names.lookup y = some .free → ∃ c, (cloFrom X.env.cells scope.names []).lookup y = some c ∧ X.env.cells.lookup y = some c := fun {y} hl => by
    have hy : (y, NameKind.free) ∈ scope.names := PySem.mem_of_lookup hl
    obtain ⟨c', e'⟩ := mem_lookup (cloFrom_has (cells := X.env.cells) (acc := []) hy)
    exact ⟨c', e', (mem e').1⟩
  have okB : (gen X s H (genEnv scope (cloFrom X.env.cells scope.names []) s.heap.objs.size code bi X.env) fp).Ok := by
    refine ⟨I.ok.mod, ok.kind, I.ok.glob, hbi, Nat.le_refl _, fun y z c e1 e2 => ?_, fun y hy => ?_, fun y c z e => ?_, fun _ => hd, ?_, .inr ⟨rfl, rfl⟩, fun b hb => ⟨?_, fun y c e z => ?_⟩, I.bs, Nat.le_trans I.ok.bsz I.sz, fun b o e hb => ?_, fun b hb z => ?_, I.stack, I.stkFree⟩
    · exact I.ok.inj y z c (mem e1).1 (mem e2).1
    · show ∃ c, (cloFrom X.env.cells scope.names []).lookup y = some c
      rcases hy with hy | hy
      · have hy : scope.names.lookup y = some .cell := hy
        exact absurd rfl (S.cell _ (PySem.mem_of_lookup hy))
      · have hy : scope.names.lookup y = some .free := hy
        obtain ⟨c, h1, _⟩ := look hy
        exact ⟨c, h1⟩
    · cases z
    · show Option.map _ X.A.frames = some (_ :: X.stack)
      rw [I.ok.frames] <;> rfl
    · exact Nat.ne_of_lt (hfp b hb).2
    · exact (hfp b hb).1.2.2.2.2.1 y c (mem e).1 z
    · rcases (hfp b hb).1.2.2.2.1 with z | z
      · exact I.ok.noex b o e z
      · exact absurd (Nat.lt_of_lt_of_le (Heap.lt_size e) (Nat.le_trans I.ok.bsz z)) (Nat.lt_irrefl _)
    · rcases List.mem_cons.mp (I.stkSub b z) with z | z
      · exact (hfp b hb).1.2.1 z
      · exact (hfp b hb).1.2.2.1 z
  refine ⟨okB, rfl, hg, Un.kept hk, ⟨_, hn, fun i y av e1 e2 e3 => ?_⟩, fun y c e => ?_, I.hok.fresh (Nat.le_refl _), fun y c e => ?_, fun p hp => ?_, I.hok.kept hk, by rw [wipe_length]; exact I.len⟩
  · obtain ⟨e2, hne⟩ := wipe_some e2
    have no : ∀ k', scope.names.lookup y = some k' → ¬ (k' = .local ∨ k' = .cell) := fun k' e hh => by
      rcases ok.own _ (PySem.mem_of_lookup e) hh with e' | e'
      · obtain ⟨p, hp, hpy⟩ := List.mem_map.mp e'
        have e3 := ok.ix p hp
        have : p.1 = y := hpy
        rw [this] at e3
        exact hne (List.mem_map.mpr ⟨p, hp, nodup_ix hN e3 e1⟩)
      · exact e' (List.mem_of_getElem? e1)
    have hfr : scope.names.lookup y = some .free := by
      have e3 : Vis scope y := e3
      rcases e3 with e3 | e3 | e3
      · exact absurd (.inl rfl) (no _ e3)
      · exact absurd (.inr rfl) (no _ e3)
      · exact e3
    obtain ⟨m, hn', hl⟩ := I.loc
    have hvis : Vis X.env.scope y := (ok.free _ (PySem.mem_of_lookup hfr) rfl).elim (fun k => .inr (.inl k)) (fun k => .inr (.inr k))
    obtain ⟨w, r, q⟩ := hl i y av e1 e2 hvis
    refine ⟨w, r, .inr ⟨.inr hfr, ?_⟩⟩
    obtain ⟨c, h1, h2⟩ := look hfr
    rcases q with ⟨k, _⟩ | ⟨_, c', e', z⟩
    · have k : X.env.scope.names.lookup y = some .local := k
      rcases ok.free _ (PySem.mem_of_lookup hfr) rfl with k' | k' <;> rw [show X.env.scope.names.lookup y = _ from k'] at k <;> cases k
    · rw [h2] at e'; cases e'
      exact ⟨c, h1, z.keeps hk⟩
  · obtain ⟨w, z⟩ := I.cell y c (mem e).1
    exact ⟨w, z.keeps hk⟩
  · exact I.freeC y c (mem e).1
  · exact absurd (show p ∈ ([] : List (Addr × Obj)) ++ [] from hp) (by simp)

/-- W by the turn and a measure -/
def AllW (J : It) (g : TG) (te : TE) (vs : List Nat) (σ : L2.St) (Q : VK) (H1 : Hp) : Prop := ∃ W : Nat → Nat → Hp → Prop, (∃ m, W 0 m H1) ∧ ∀ i m H, W i m H →
  (J.stop i H ∧ Q (.bl true) H) ∨ (J.go i H ∧ ∃ Nx : Hp → Prop, (∀ H', Nx H' → ∃ m', m' < m ∧ W (i + 1) m' H') ∧ ∀ x H', J.yld i H x H' → g x (wipe σ vs) H' fun σ2 H2 => wipe σ2 vs = wipe σ vs ∧ te σ2 H2 fun y H3 => ∃ b, y = .bl b ∧ if b = true then Nx H3 else Q (.bl false) H3)
/-- the reading; the def's table at P may have grown -/
def tAllG (P : Addr) (wi : TI) (g : TG) (te : TE) (vs : List Nat) : TE := fun σ H Q => wi σ H fun J H1 => TabG H1 P ∧ ∀ H1', Tabbed P H1 H1' → AllW J g te vs σ Q H1'

end
end K4
set_option Elab.async false
set_option linter.all false
set_option maxRecDepth 100000
set_option maxHeartbeats 2000000
namespace K4
open PySem PySem.Spec PyProof.Rows L2 GxR
open GenW (wpAny_gsz setGen_size)

theorem sameHeap {X : Cx} {pins : List (Addr × Obj)} {σ : L2.St} {H : Hp} {s s' : Shared} (I : Inv X pins σ H s) (h : s'.heap = s.heap) (ho : s'.os = s.os) (hb : AllBare s'.gens) : Inv X pins σ H s' := by
  have k : ∀ b u, s.heap.get? b = some u → s'.heap.get? b = some u := fun b u e => by rw [h]; exact e
  exact I.call' (ch := []) ho (Un.kept k) (I.hok.kept k) hb fun b z => absurd z (by simp)

/-- what is handed out -/
def Yg (Xg : Cx) (pn : List (Addr × Obj)) (Q : VK) : Protocol := fun n s₀ v s kap => ∃ (b : Bool) (σ' : L2.St) (H' : Hp), v = .bool b ∧ Inv Xg pn σ' H' s ∧
  (if b = true then ∀ s'' : Shared, s''.heap = s.heap → s''.os = s.os → AllBare s''.gens → kap (.send .none) s'' else Q (.bl false) H')
def Pg (Xg : Cx) (pn : List (Addr × Obj)) (Q : VK) : Nat → Shared → Shared → Prop := fun _ _ s₁ => ∃ σ' H', Inv Xg pn σ' H' s₁ ∧ Q (.bl true) H'

section
variable {X : Cx} {s4 : Shared} {H4 : Hp} {cenv : Env} {fp : List Addr} {a : Addr} {go : Obj} {elt tg iter : Expr} {scope : Scope} {gpos : Pos} {it : Addr} {tn : Nat → Heap → Prop} {J : It} {g : TG} {te : TE} {σ0 : L2.St} {vs : List Nat} {Q : VK} {W : Nat → Nat → Hp → Prop}
theorem seg_gl (hc : X.calm = true) (hco : cenv.scope.isCoroutine = false) (T : Turn X.prog X.w X.K tg J fp it tn) (hafp : ∀ b ∈ fp, a ≠ b) (pg : PG (gen X s4 H4 cenv fp) tg g) (pe : PE (gen X s4 H4 cenv fp) elt te)
    (turn : ∀ i m H, W i m H → (J.stop i H ∧ Q (.bl true) H) ∨ (J.go i H ∧ ∃ Nx : Hp → Prop, (∀ H', Nx H' → ∃ m', m' < m ∧ W (i + 1) m' H') ∧ ∀ x H', J.yld i H x H' → g x (wipe σ0 vs) H' fun σ2 H2 => wipe σ2 vs = wipe σ0 vs ∧ te σ2 H2 fun y H3 => ∃ b, y = .bl b ∧ if b = true then Nx H3 else Q (.bl false) H3)) :
    ∀ (m n i : Nat) (s₀ s : Shared) (H : Hp), m < n → Inv (gen X s4 H4 cenv fp) [(a, go)] (wipe σ0 vs) H s → tn i s.heap → (∀ b ∈ fp, H b = none) → W i m H →
      Seg (model X.prog X.w) X.A.in1.in1 (fun n s₀ r s₁ => r = .ok .next ∧ Pg (gen X s4 H4 cenv fp) [(a, go)] Q n s₀ s₁) (Yg (gen X s4 H4 cenv fp) [(a, go)] Q) n s₀
        (.compLoop (.GeneratorExp elt [⟨tg, iter, [], 0⟩] scope gpos) 0 (.ref it) .none cenv) ((model X.prog X.w).den (.compLoop (.GeneratorExp elt [⟨tg, iter, [], 0⟩] scope gpos) 0 (.ref it) .none cenv)) [] s := by
  have stat : ∀ {σ' : L2.St} {H' : Hp} {s' : Shared} {pins : List (Addr × Obj)}, Inv (gen X s4 H4 cenv fp) pins σ' H' s' → (∀ b ∈ fp, H' b = none) → ∀ b ∈ fp, FpOk (gen X s4 H4 cenv fp) [(a, go)] H' b := fun {σ' H' s' pins} I' hn b hb =>
    ⟨hn b hb, (I'.ok.exf b hb).1, I'.ok.exfs b hb, .inl hb, fun x c e => (I'.ok.exf b hb).2 x c e, fun p hp => by
      have hp : p ∈ ([] : List (Addr × Obj)) ++ [(a, go)] := hp
      rw [List.nil_append, List.mem_singleton] at hp
      rw [hp]
      exact hafp b hb⟩
  intro m
  induction m using Nat.strongRecOn with
  | ind m ih =>
    intro n i s₀ s H hmn I st nfp w
    show Seg _ _ _ _ _ s₀ _ ((compTurn (.GeneratorExp elt [⟨tg, iter, [], 0⟩] scope gpos) 0 (.ref it) .none cenv).onRaise (leaving cenv)) [] s
    rw [compTurn_gen, Sem.onRaise_eq_wrap]
    refine seg_bind_wrap (wpAny_standAt ?_)
    rcases turn i m H w with ⟨stop, qq⟩ | ⟨hgo, Nx, hNx, step⟩
    · have td := T.done (gen X s4 H4 cenv fp) rfl rfl rfl hc i [(a, go)] s _ H (fun _ _ => False) I (stat I nfp) st stop
      refine seg_bind_wrap ?_
      rw [over_gl]
      refine thnF td fun r s6 ⟨hr, I6⟩ => ?_
      subst hr
      exact seg_end (.ok .next) ⟨rfl, _, _, I6, qq⟩
    · have ti := T.item (gen X s4 H4 cenv fp) rfl rfl rfl hc i [(a, go)] s _ H (fun _ _ => False) I (stat I nfp) st hgo
      refine seg_bind_wrap ?_
      rw [over_gl]
      refine thnF ti fun r s6 ⟨u, hr, h6⟩ => ?_
      subst hr
      refine seg_bind_wrap ?_
      rw [over_gl]
      refine thnF h6 fun _ s7 ⟨x, H7, I7, r7, y7, st7, n7⟩ => ?_
      have I7' := I7.pinned (stat I7 n7) (T.obj _ _ st7)
      refine seg_bind_wrap ?_
      rw [over_gl]
      refine thnF (pg.run _ s7 _ H7 x u _ I7' r7 (step x H7 y7)) fun _ s8 ⟨σ8, H8, I8, hw8, q8⟩ => ?_
      refine seg_bind_wrap (wpAny_tests_nil ?_)
      simp only [if_true]
      have hy : ∀ v, yieldOut cenv v = yieldValue v := fun v => by simp only [yieldOut, hco, Bool.false_eq_true, if_false]
      simp only [hy]
      rw [Sem.bind_eq_wrap', Sem.bind_eq_wrap', Sem.wrap_wrap, Sem.wrap_wrap]
      refine seg_wrap ?_
      rw [over_gl]
      refine thnF (pe.run _ s8 σ8 H8 _ I8 q8) fun z s10 ⟨yv, H10, I10, r10, b, eb, nx⟩ => ?_
      subst eb
      obtain rfl : z = Value.bool b := r10
      obtain ⟨k, rfl⟩ : ∃ k, n = k + 1 := ⟨n - 1, by omega⟩
      refine seg_at (seg_yield rfl rfl rfl ?_)
      cases b with
      | false => exact ⟨false, _, H10, rfl, I10.unpinned, nx⟩
      | true =>
        obtain ⟨m', hm', w'⟩ := hNx _ nx
        refine ⟨true, _, H10, rfl, I10.unpinned, fun s'' hhp hos hbr => ?_⟩
        have pin' : ∀ b ∈ fp, ∀ o, s7.heap.get? b = some o → s10.heap.get? b = some o ∧ H10 b = none := fun b hb o e =>
          let z := I10.pin (b, o) (List.mem_append_right _ (List.mem_append_right _ (mem_pinsAt hb e)))
          ⟨z.1, z.2.1⟩
        have hl : (wipe σ0 vs).length = σ8.length := by rw [← hw8, wipe_length]
        have J1 : Inv (gen X s4 H4 cenv fp) [(a, go)] (wipe σ0 vs) H10 s'' := sameHeap ((I10.unpinned).weak hl fun j v e => by
          rw [← hw8] at e
          exact (wipe_some e).1) hhp hos hbr
        refine seg_again rfl (ih m' hm' k (i + 1) s'' s'' H10 (by omega) J1 ?_ (fun b hb => ?_) w')
        · rw [hhp]
          exact T.keep _ _ _ st7 fun b hb o e => (pin' b hb o e).1
        · obtain ⟨o, e, _⟩ := T.obj _ _ st7 b hb
          exact (pin' b hb o e).2

theorem seg_gs (hc : X.calm = true) (hco : cenv.scope.isCoroutine = false) (T : Turn X.prog X.w X.K tg J fp it tn) (hafp : ∀ b ∈ fp, a ≠ b) (pg : PG (gen X s4 H4 cenv fp) tg g) (pe : PE (gen X s4 H4 cenv fp) elt te)
    (turn : ∀ i m H, W i m H → (J.stop i H ∧ Q (.bl true) H) ∨ (J.go i H ∧ ∃ Nx : Hp → Prop, (∀ H', Nx H' → ∃ m', m' < m ∧ W (i + 1) m' H') ∧ ∀ x H', J.yld i H x H' → g x (wipe σ0 vs) H' fun σ2 H2 => wipe σ2 vs = wipe σ0 vs ∧ te σ2 H2 fun y H3 => ∃ b, y = .bl b ∧ if b = true then Nx H3 else Q (.bl false) H3))
    (m n : Nat) (s₀ s : Shared) (H : Hp) (hmn : m < n) (I : Inv (gen X s4 H4 cenv fp) [(a, go)] (wipe σ0 vs) H s) (st : tn 0 s.heap) (nfp : ∀ b ∈ fp, H b = none) (w : W 0 m H) :
      Seg (model X.prog X.w) X.A.in1.in1 (fun n s₀ r s₁ => r = .ok .next ∧ Pg (gen X s4 H4 cenv fp) [(a, go)] Q n s₀ s₁) (Yg (gen X s4 H4 cenv fp) [(a, go)] Q) n s₀
        (.compStart (.GeneratorExp elt [⟨tg, iter, [], 0⟩] scope gpos) 0 (.ref it) .none cenv) ((model X.prog X.w).den (.compStart (.GeneratorExp elt [⟨tg, iter, [], 0⟩] scope gpos) 0 (.ref it) .none cenv)) [] s := by
  have loop := seg_gl (iter := iter) (scope := scope) (gpos := gpos) hc hco T hafp pg pe turn m n 0 s₀ s H hmn I st nfp w
  show Seg _ _ _ _ _ s₀ _ ((compStart (.GeneratorExp elt [⟨tg, iter, [], 0⟩] scope gpos) 0 (.ref it) .none cenv).onRaise (leaving cenv)) [] s
  unfold compStart
  rw [Sem.onRaise_eq_wrap]
  show Seg _ _ _ _ _ s₀ _ ((ask >>= _).wrap _ _ _ _) [] s
  refine seg_bind_wrap (wpAny_askSetting ?_)
  split
  · exact seg_again rfl loop
  · first
      | exact seg_bind_wrap (wpAny_rule (seg_bind_wrap (wpAny_standAt (seg_bind_wrap (T.self _ 0 s _ _ st (seg_again rfl loop))))))
      | (refine seg_bind_wrap (wpAny_rule ?_); show Seg _ _ _ _ _ s₀ _ ((standAt iter.pos >>= _).wrap _ _ _ _) [] s; exact seg_bind_wrap (wpAny_standAt (seg_bind_wrap (T.self _ 0 s _ _ st (seg_again rfl loop)))))
end
end K4
set_option Elab.async false
set_option linter.all false
set_option maxRecDepth 100000
set_option maxHeartbeats 2000000
namespace K4
open PySem PySem.Spec PyProof.Rows L2 GxR
open GenW (wpAny_gsz setGen_size)

theorem setGen_at {s : Shared} {g : Nat} {x : GenState} (h : g < s.gens.size) : (s.setGen g x).gens[g]? = some x := by
  show (s.gens.setIfInBounds g x)[g]? = some x
  rw [Array.getElem?_setIfInBounds_self_of_lt h]

theorem codeAny_allG {X Xg : Cx} {a : Addr} {g : Nat} {go : Obj} {Q : VK} {R : Result → Shared → Prop} (hh : X.A.handled = none) (hroom : X.A.depth < recursionLimit)
    (hgo : ∀ h : Heap, h.get? a = some go → h.IsGen a g) (hR : ∀ b σ' H' s', Inv Xg [(a, go)] σ' H' s' → Q (.bl b) H' → R (.ok (.ret (.bool b))) s') :
    ∀ (n : Nat) (s : Shared), s.heap.IsGen a g → s.heap.NoLimit → (∃ gs, s.gens[g]? = some gs ∧ gs.Goes (model X.prog X.w) X.A.in1.in1 (fun n s₀ r s₁ => r = .ok .next ∧ Pg Xg [(a, go)] Q n s₀ s₁) (Yg Xg [(a, go)] Q) n (.send .none) (s.setGen g .running)) →
      codeAny (model X.prog X.w) X.A (.builtin "all.loop" ⟨[.ref a], []⟩) R s := by
  have pinned : ∀ {σ' : L2.St} {H' : Hp} {s' : Shared}, Inv Xg [(a, go)] σ' H' s' → s'.heap.IsGen a g := fun {σ' H' s'} I' =>
    hgo _ (I'.pin (a, go) (List.mem_append_right _ (List.mem_singleton.mpr rfl))).1
  intro n
  induction n with
  | zero =>
    intro s hg hl ⟨gs, hgs, hgoes⟩
    have hlt : g < s.gens.size := (Array.getElem?_eq_some_iff.mp hgs).1
    refine codeAny_builtin F.entry_all_loop ?_
    rw [Around.under_plainId F.plain_all_loop _]
    show wpAny _ X.A.in1 (pyNext (.ref a) >>= _) _ _ s
    refine wpAny_bind (wpAny_gsz (n := g + 1) hlt (wpAny_pyNext_genexpQ (A := X.A.in1) (n := 0) hh hl hroom hg hgs hgoes (fun v s₁ gs' hb hv hsz => ?_) fun s₁ hp h' hk hsz => ?_))
    · obtain ⟨b, σ', H', rfl, I1, q⟩ := hv
      refine wpAny_bind (wpAny_holding (wpAny_truthy_bool ?_))
      refine wpAny_bind (wpAny_letGo ?_)
      cases b with
      | true => exact False.elim (q s₁ rfl rfl I1.bare)
      | false =>
        simp only [Bool.false_eq_true, if_false]
        exact wpAny_bind (wpAny_rule (wpAny_pure (hR false σ' H' _ (sameHeap I1 rfl rfl (L2.allBare_setGen I1.bare hb)) q)))
    · obtain ⟨σ', H', I1, q⟩ := hp
      refine wpAny_bind (wpAny_rule (wpAny_pure (hR true σ' H' _ (sameHeap (I1.kept (h' := h') (t' := s₁.toks) hk) rfl rfl (L2.allBare_setGen I1.bare rfl)) q)))
  | succ n ih =>
    intro s hg hl ⟨gs, hgs, hgoes⟩
    have hlt : g < s.gens.size := (Array.getElem?_eq_some_iff.mp hgs).1
    refine codeAny_builtin F.entry_all_loop ?_
    rw [Around.under_plainId F.plain_all_loop _]
    show wpAny _ X.A.in1 (pyNext (.ref a) >>= _) _ _ s
    refine wpAny_bind (wpAny_gsz (n := g + 1) hlt (wpAny_pyNext_genexpQ (A := X.A.in1) (n := n + 1) hh hl hroom hg hgs hgoes (fun v s₁ gs' hb hv hsz => ?_) fun s₁ hp h' hk hsz => ?_))
    · obtain ⟨b, σ', H', rfl, I1, q⟩ := hv
      refine wpAny_bind (wpAny_holding (wpAny_truthy_bool ?_))
      refine wpAny_bind (wpAny_letGo ?_)
      cases b with
      | true =>
        simp only [if_true]
        have hsz1 : g < s₁.gens.size := by
          have hsz : g + 1 ≤ (s₁.setGen g gs').gens.size := hsz
          rw [setGen_size] at hsz
          exact hsz
        have hp1 : s₁.heap.IsGen a g := pinned I1
        have hl1 : s₁.heap.NoLimit := I1.nolimit
        refine wpAny_pure ⟨plainId_quiet F.plain_all_loop _, ih (s₁.setGen g gs') hp1 hl1 ⟨gs', setGen_at hsz1, q _ rfl rfl (L2.allBare_setGen (L2.allBare_setGen I1.bare hb) rfl)⟩⟩
      | false =>
        simp only [Bool.false_eq_true, if_false]
        exact wpAny_bind (wpAny_rule (wpAny_pure (hR false σ' H' _ (sameHeap I1 rfl rfl (L2.allBare_setGen I1.bare hb)) q)))
    · obtain ⟨σ', H', I1, q⟩ := hp
      refine wpAny_bind (wpAny_rule (wpAny_pure (hR true σ' H' _ (sameHeap (I1.kept (h' := h') (t' := s₁.toks) hk) rfl rfl (L2.allBare_setGen I1.bare rfl)) q)))

section
variable {X : Cx}
/-- THE RULE -/
theorem pe_allG {c P : Addr} {elt tg iter : Expr} {scope : Scope} {own : List (Str × Nat)} {p pos gpos : Pos} {wi : TI} {g : TG} {te : TE} {k : Nat}
    (hr : Room (k + 1) X.A) (hc : X.calm = true) (hN : X.N.Nodup) (hg : Gl X "all") (hm : X.mg "all" = none) (TB : TabB X.base X.mg c P) (hcode : X.env.code = .ref c) (hi : PI X tg iter wi) (ok : BlkOk X.N X.env.scope scope own) (S : GSc scope)
    (hgt : ∀ (s : Shared) (H : Hp) (C : Addr) (cl : List (Str × Addr)) (code : Value) (bi : Addr) (fp : List Addr), PG (gen X s H (genEnv scope cl C code bi X.env) fp) tg g)
    (he : ∀ (s : Shared) (H : Hp) (C : Addr) (cl : List (Str × Addr)) (code : Value) (bi : Addr) (fp : List Addr), Room k (gen X s H (genEnv scope cl C code bi X.env) fp).A → PE (gen X s H (genEnv scope cl C code bi X.env) fp) elt te)
    (hs : ∀ v, genFold iter X.env v = pure v := by intro _; rfl) (hb : bootBuiltins "all" = some (.builtin "all") := by decide +kernel)
    (hst : starEach [.GeneratorExp elt [⟨tg, iter, [], 0⟩] scope gpos] X.env = (false, eval (.GeneratorExp elt [⟨tg, iter, [], 0⟩] scope gpos) X.env) :: starEach [] X.env := by rfl) :
    PE X (.Call (.Name "all" p) [.GeneratorExp elt [⟨tg, iter, [], 0⟩] scope gpos] [] pos) (tAllG P wi g te (own.map (·.2))) := by
  refine ⟨fun pins s σ H Q I h => ?_⟩
  refine wpAny_Call_Name_kw (ld_blt I hg hm hb ?_)
  refine PyProof.Rows.callWith_builtin1 ?_ hst (by rfl)
  rw [hst]
  show wpAny _ _ (spliced ((false, eval (.GeneratorExp elt [⟨tg, iter, [], 0⟩] scope gpos) X.env) :: backTo pos (starEach [] X.env))) _ _ s
  refine Calls.spliced_cons ?_
  have hfree : ∀ y ∈ scope.names, y.2 = .free → ∃ c, X.env.cells.lookup y.1 = some c := fun y hy e => by
    rcases ok.free y hy e with k | k
    · exact I.ok.has _ (.inl k)
    · exact I.ok.has _ (.inr k)
  refine wpAny_GeneratorExp_make S.co (closure_ok hfree) S.cell S.dot ok.kind hr.depth ?_ hs
  refine thn (hi.run pins s σ H _ I h) fun xv s1 hx => thn hx fun itv s2 h2 => ?_
  obtain ⟨it, fp, tn, J, H2, rfl, I2, T, st2, f2, ⟨ps, hP, ht⟩, q⟩ := h2
  refine ⟨I2.nolimit, ?_⟩
  have hPs : s2.heap.get? P = some { cls := .none, data := .fields ps } := I2.hok P _ hP
  have hPlt : P < s2.heap.objs.size := Heap.lt_size hPs
  have cd : PySem.W.CodeHd s2.heap c P := TB.code.keeps I2.bk
  have nfP : ∀ b ∈ fp, b ≠ P := fun b hb z => by
    have e := (f2 b hb).1
    rw [z, hP] at e
    cases e
  have cont : ∀ (code : Value) (s3 : Shared) (H3 : Hp), Inv X pins σ H3 s3 → Tabbed P H2 H3 → (∀ b o, b ≠ P → s2.heap.get? b = some o → s3.heap.get? b = some o) →
      wpAny (model X.prog X.w) X.A (builtinsFor X.env.globals X.env.builtins) (fun bi s₄ =>
        ∀ h', h'.Ns s₄.heap.objs.size (fun y => if y = ".0" then some (.ref it) else none) → Heap.SameBut s₄.heap.objs.size (s₄.heap.push { cls := .type "frame", data := .dict #[] }) h' →
          (fun u s' => wpAny (model X.prog X.w) X.A (spliced (backTo pos (starEach [] X.env))) (fun us s'' => wpAny (model X.prog X.w) X.A (call (.builtin "all") (u :: us)) (EP X pins σ Q) X.xe s'') X.xe s') (.ref h'.objs.size) { s₄ with
            gens := s₄.gens.push (.fresh (.compStart (.GeneratorExp elt [⟨tg, iter, [], 0⟩] scope gpos) 0 (.ref it) .none (genEnv scope (cloFrom X.env.cells scope.names []) s₄.heap.objs.size code bi X.env))),
            toks := s₄.toks + 1 + 1 + 1,
            heap := h'.push { cls := .type "generator", data := .fields #[.int s₄.gens.size 0, .str "<genexpr>" (s₄.toks + 1), .str (X.env.qual ++ "<genexpr>") (s₄.toks + 1 + 1)] } }) X.xe s3 := by
    intro code s3 H3 I3 hT hk3
    obtain ⟨bm, ob, e1, e2, e3, e4, e5, e6, e7, e8⟩ := TB.bm
    refine wpAny_builtinsFor (m := X.mg) (by rw [I3.ok.glob]; exact I3.mod.glob.keeps I3.bk) e1 e2 (I3.bk _ _ e5) e6 e7 e8 ?_
    intro h' hn' hs'
    refine Calls.spliced_nil ?_
    obtain ⟨W, ⟨m0, w0⟩, turn⟩ := q H3 hT
    have st3 : tn 0 s3.heap := T.keep _ _ _ st2 fun b hb o e => hk3 b o (nfP b hb) e
    have f3 : ∀ b ∈ fp, FpOk X pins H3 b ∧ b < s3.heap.objs.size := fun b hb => by
      obtain ⟨o, e, _⟩ := T.obj _ _ st3 b hb
      refine ⟨⟨?_, (f2 b hb).2⟩, Heap.lt_size e⟩
      rw [hT.2 b (nfP b hb)]
      exact (f2 b hb).1
    have hkp : ∀ b o, s3.heap.get? b = some o → h'.get? b = some o := fun b o e => hs'.extBut b o (Nat.ne_of_lt (Heap.lt_size e)) (Heap.get?_push_of_some _ e)
    have hsz : h'.objs.size = s3.heap.objs.size + 1 := by rw [hs'.1, Heap.size_push]
    generalize hgo : ({ cls := .type "generator", data := .fields #[.int s3.gens.size 0, .str "<genexpr>" (s3.toks + 1), .str (X.env.qual ++ "<genexpr>") (s3.toks + 1 + 1)] } : Obj) = go
    have hisg : ∀ h : Heap, h.get? h'.objs.size = some go → h.IsGen h'.objs.size s3.gens.size := fun h e => ⟨go, _, _, e, by rw [← hgo], by rw [← hgo], by rw [← hgo]⟩
    have hgoc : ∀ v, go.data ≠ .cell v := fun v z => by rw [← hgo] at z; cases z
    have hpu : (h'.push go).get? h'.objs.size = some go := Heap.get?_push_size _ (by rw [← hgo]; rfl)
    generalize hgn : s3.gens.push (.fresh (.compStart (.GeneratorExp elt [⟨tg, iter, [], 0⟩] scope gpos) 0 (.ref it) .none (genEnv scope (cloFrom X.env.cells scope.names []) s3.heap.objs.size code builtinsNs X.env))) = gn
    have hgb : AllBare gn := by
      rw [← hgn]
      exact I3.bare.push rfl
    have Ig : Inv (gen X s3 H3 (genEnv scope (cloFrom X.env.cells scope.names []) s3.heap.objs.size code builtinsNs X.env) fp) [] (wipe σ (own.map (·.2))) H3 { s3 with heap := h'.push go, gens := gn, toks := s3.toks + 1 + 1 + 1 } :=
      gen_start I3 ok S hN rfl hr.hd f3 (hn'.push _) (fun b o e => Heap.get?_push_of_some _ (hkp b o e)) hgb
    have nH3 : H3 h'.objs.size = none := I3.hok.fresh (by rw [hsz]; exact Nat.le_succ _)
    have Ig2 : Inv (gen X s3 H3 (genEnv scope (cloFrom X.env.cells scope.names []) s3.heap.objs.size code builtinsNs X.env) fp) [(h'.objs.size, go)] (wipe σ (own.map (·.2))) H3 { s3 with heap := h'.push go, gens := gn, toks := s3.toks + 1 + 1 + 1 } :=
      Ig.pins_of fun pp hp => by
        rw [List.mem_singleton.mp hp]
        refine ⟨hpu, nH3, ?_, fun z => ?_, hgoc⟩
        · show h'.objs.size ≠ s3.heap.objs.size
          omega
        · rcases List.mem_cons.mp (I3.stkSub _ z) with z | z
          · have h1 : X.env.locals < s3.heap.objs.size := I3.lt
            have z : h'.objs.size = X.env.locals := z
            rw [← z, hsz] at h1
            exact Nat.not_succ_lt_self h1
          · exact I3.nofs (by rw [hsz]; exact Nat.le_succ _) z
    have hafp : ∀ b ∈ fp, h'.objs.size ≠ b := fun b hb z => by
      have h1 : b < s3.heap.objs.size := (f3 b hb).2
      rw [← z, hsz] at h1
      exact Nat.not_succ_lt_self h1
    have stg : tn 0 (h'.push go) := T.keep _ _ _ st3 fun b hb o e => Heap.get?_push_of_some _ (hkp b o e)
    have hgs : gn[s3.gens.size]? = some (.fresh (.compStart (.GeneratorExp elt [⟨tg, iter, [], 0⟩] scope gpos) 0 (.ref it) .none (genEnv scope (cloFrom X.env.cells scope.names []) s3.heap.objs.size code builtinsNs X.env))) := by
      rw [← hgn]
      exact Array.getElem?_push_size ..
    refine call_function_tree F.kind_all F.plain_all F.entry_all (F.args_all1 _) ?_
    unfold Builtin.«all»
    refine wpAny_bind (m := oneArg "all" _) (wpAny_pure ?_)
    refine wpAny_bind (wpAny_pyIter_gen (s := { s3 with heap := h'.push go, gens := gn, toks := s3.toks + 1 + 1 + 1 }) (hisg _ hpu) ?_)
    have hA : Room k (gen X s3 H3 (genEnv scope (cloFrom X.env.cells scope.names []) s3.heap.objs.size code builtinsNs X.env) fp).A := by
      refine ⟨hr.hd, ?_, ?_⟩
      · have := hr.dp
        show X.A.depth + 1 + 3 * k + 5 < _
        omega
      · have := hr.un
        show X.A.units + 1 + 1 + 3 + 16 * k + 200 < _
        omega
    refine wpAny_pure ⟨plainId_quiet F.plain_all_loop _, codeAny_allG (X := X) (Xg := gen X s3 H3 (genEnv scope (cloFrom X.env.cells scope.names []) s3.heap.objs.size code builtinsNs X.env) fp) (a := h'.objs.size) (g := s3.gens.size) (go := go) (Q := Q) hr.hd hr.depth hisg (fun b σ' H' s' Ie qe => ?_) (m0 + 1) _ (hisg _ hpu) Ig.nolimit ⟨_, hgs, rfl, ?_⟩⟩
    · exact ⟨.bl b, H', I3.call' (ch := fp) Ie.os Ie.base Ie.hok Ie.bare fun b hb => ⟨(f3 b hb).1.2.2.2.1, (f3 b hb).1.2.1, (f3 b hb).1.2.2.2.2.1, (f3 b hb).1.2.2.2.2.2⟩, rfl, qe⟩
    · refine seg_gs hc S.co T hafp (hgt ..) (he _ _ _ _ _ _ _ hA) turn m0 (m0 + 1) _ _ H3 (Nat.lt_succ_self _) (sameHeap Ig2 rfl rfl (L2.allBare_setGen (s := { s3 with heap := h'.push go, gens := gn, toks := s3.toks + 1 + 1 + 1 }) hgb rfl)) stg (fun b hb => (f3 b hb).1.1) w0
  cases hf : codeAmong gpos ps.toList with
  | none =>
    refine wpAny_genexprCodeX hcode (cd.code hPs ht) (cd.tab hPs) hf fun c' h' tk hx hge hlt hco' _ htab' _ => ?_
    obtain ⟨o1, vs, f1, tf, fl, tgg, inF, tx, tt, op, _, _, _, _, _, _, _, _, _, htr, _⟩ := hco'
    have I3 := inv_tab (more := #[rawInt gpos.line, rawInt gpos.col, .ref c']) (h' := h') (g' := s2.gens) (d' := s2.drawn) (t' := tk) I2 hP (fun b u hb e => hx b u hb e) htab'.2 I2.bare
    exact cont _ _ _ I3 ⟨⟨_, upd_same, htr⟩, fun b hb => upd_ne hb⟩ fun b o hb e => hx b o hb e
  | some cv =>
    refine wpAny_genexprCode_hit hcode (cd.code hPs ht) hf ?_
    exact cont cv s2 H2 I2 ⟨⟨ps, hP, ht⟩, fun b _ => rfl⟩ fun b o _ e => e
end
end K4
set_option Elab.async false
set_option linter.all false
set_option maxRecDepth 100000
set_option maxHeartbeats 2000000
namespace K4
open PySem PySem.Spec PyProof.Rows L2 GxR

/-! ### what stays: all but what stands at bad; tables may grow -/
structure Ex (bad : List Addr) (H H' : Hp) : Prop where
  keep : ∀ b o, b ∉ bad → H b = some o → (∀ ps, o ≠ .tbl ps) → H' b = some o
  tup : ∀ b xs, H b = some (.tup xs) → H' b = some (.tup xs)
  tab : ∀ P, TabG H P → TabG H' P
  there : ∀ b, H' b = none → H b = none
theorem Ex.refl (bad : List Addr) (H : Hp) : Ex bad H H := ⟨fun _ _ _ h _ => h, fun _ _ h => h, fun _ h => h, fun _ h => h⟩
theorem Ex.trans {bad : List Addr} {H H1 H2 : Hp} (a : Ex bad H H1) (b : Ex bad H1 H2) : Ex bad H H2 :=
  ⟨fun c o n h t => b.keep c o n (a.keep c o n h t) t, fun c xs h => b.tup c xs (a.tup c xs h), fun P h => b.tab P (a.tab P h), fun c h => a.there c (b.there c h)⟩
theorem Ex.mono {bad bad' : List Addr} {H H' : Hp} (a : Ex bad H H') (h : ∀ b ∈ bad, b ∈ bad') : Ex bad' H H' :=
  ⟨fun c o n q t => a.keep c o (fun z => n (h c z)) q t, a.tup, a.tab, a.there⟩
theorem Ex.any {bad : List Addr} {H H' : Hp} (a : Ex [] H H') : Ex bad H H' := a.mono fun b h => absurd h (by simp)
theorem tabG_some {H : Hp} {P : Addr} (h : TabG H P) : H P ≠ none := by
  obtain ⟨ps, e, _⟩ := h
  rw [e]
  exact fun z => by cases z
theorem Ex.upd_new {bad : List Addr} {H H1 : Hp} {p : Addr} {o : HO} (a : Ex bad H H1) (h : H p = none) : Ex bad H (upd H1 p o) where
  keep := fun b u n q t => by rw [upd_ne (ne_of_none q h)]; exact a.keep b u n q t
  tup := fun b xs q => by rw [upd_ne (ne_of_none q h)]; exact a.tup b xs q
  tab := fun P q => by
    obtain ⟨ps, e, t⟩ := a.tab P q
    refine ⟨ps, ?_, t⟩
    rw [upd_ne (fun z => tabG_some q (by rw [z]; exact h))]
    exact e
  there := fun b q => by
    by_cases hb : b = p
    · rw [hb]; exact h
    · rw [upd_ne hb] at q
      exact a.there b q
theorem Ex.new {bad : List Addr} {H : Hp} {p : Addr} {o : HO} (h : H p = none) : Ex bad H (upd H p o) := (Ex.refl bad H).upd_new h
theorem Ex.wr {bad : List Addr} {H H1 : Hp} {p : Addr} {o : HO} {xs : List V} (a : Ex bad H H1) (hp : p ∈ bad) (h : H1 p = some (.lst xs)) : Ex bad H (upd H1 p o) where
  keep := fun b u n q t => by
    have hb : b ≠ p := fun z => n (by rw [z]; exact hp)
    rw [upd_ne hb]
    exact a.keep b u n q t
  tup := fun b xs q => by
    have q1 := a.tup b xs q
    have hb : b ≠ p := fun z => by rw [z, h] at q1; cases q1
    rw [upd_ne hb]
    exact q1
  tab := fun P q => by
    obtain ⟨ps, e, t⟩ := a.tab P q
    refine ⟨ps, ?_, t⟩
    rw [upd_ne (fun z => by rw [z, h] at e; cases e)]
    exact e
  there := fun b q => by
    by_cases hb : b = p
    · rw [hb, upd_same] at q; cases q
    · rw [upd_ne hb] at q
      exact a.there b q
theorem Ex.tabbed {bad : List Addr} {H H1 : Hp} {P : Addr} (h : TabG H P) (t : Tabbed P H H1) : Ex bad H H1 where
  keep := fun b u n q z => by
    have hb : b ≠ P := fun w => by
      obtain ⟨ps, e, _⟩ := h
      rw [w, e] at q
      exact z ps (Option.some.inj q).symm
    rw [t.2 b hb]
    exact q
  tup := fun b xs q => by
    have hb : b ≠ P := fun w => by
      obtain ⟨ps, e, _⟩ := h
      rw [w, e] at q
      cases q
    rw [t.2 b hb]
    exact q
  tab := fun P' q => by
    by_cases hb : P' = P
    · rw [hb]; exact t.1
    · obtain ⟨ps, e, z⟩ := q
      exact ⟨ps, by rw [t.2 P' hb]; exact e, z⟩
  there := fun b q => by
    by_cases hb : b = P
    · rw [hb] at q
      exact absurd q (tabG_some t.1)
    · rw [t.2 b hb] at q
      exact q
theorem Ex.lst {H H' : Hp} {b : Addr} {xs : List V} {bad : List Addr} (a : Ex bad H H') (n : b ∉ bad) (h : H b = some (.lst xs)) : H' b = some (.lst xs) := a.keep b _ n h fun ps z => by cases z
theorem Ex.lst0 {H H' : Hp} {b : Addr} {xs : List V} (a : Ex [] H H') (h : H b = some (.lst xs)) : H' b = some (.lst xs) := a.lst (by simp) h
/-- the tables of the defs at Ts stand -/
def Tbs (Ts : List Addr) (H : Hp) : Prop := ∀ P ∈ Ts, TabG H P
theorem Tbs.ex {Ts bad : List Addr} {H H' : Hp} (t : Tbs Ts H) (a : Ex bad H H') : Tbs Ts H' := fun P h => a.tab P (t P h)

/-! ### rows of ints, tuples of things -/
def Row (H : Hp) (v : V) (r : List Int) : Prop := ∃ a, v = .ref a ∧ H a = some (.tup (r.map V.int))
/-- a tuple of things -/
def TupOf {α : Type} (R : V → α → Prop) (H : Hp) (v : V) (xs : List α) : Prop := ∃ a vs, v = .ref a ∧ H a = some (.tup vs) ∧ Paired R vs xs
/-- the list at a -/
def LstOf {α : Type} (R : V → α → Prop) (H : Hp) (a : Addr) (xs : List α) : Prop := ∃ vs, H a = some (.lst vs) ∧ Paired R vs xs
abbrev Rows (H : Hp) : V → List (List Int) → Prop := TupOf (Row H) H
abbrev RowL (H : Hp) : Addr → List (List Int) → Prop := LstOf (Row H) H
theorem Row.ex {bad : List Addr} {H H' : Hp} {v : V} {r : List Int} (a : Ex bad H H') (h : Row H v r) : Row H' v r := by
  obtain ⟨p, e, q⟩ := h
  exact ⟨p, e, a.tup p _ q⟩
theorem TupOf.ex {α : Type} {R R' : V → α → Prop} {bad : List Addr} {H H' : Hp} {v : V} {xs : List α} (a : Ex bad H H') (m : ∀ v x, R v x → R' v x) (h : TupOf R H v xs) : TupOf R' H' v xs := by
  obtain ⟨p, vs, e, q, r⟩ := h
  exact ⟨p, vs, e, a.tup p _ q, L2.Paired.mapP r m⟩
theorem Rows.ex {bad : List Addr} {H H' : Hp} {v : V} {rs : List (List Int)} (a : Ex bad H H') (h : Rows H v rs) : Rows H' v rs := TupOf.ex a (fun _ _ => Row.ex a) h
theorem RowL.ex {bad : List Addr} {H H' : Hp} {p : Addr} {rs : List (List Int)} (a : Ex bad H H') (n : p ∉ bad) (h : RowL H p rs) : RowL H' p rs := by
  obtain ⟨vs, q, r⟩ := h
  exact ⟨vs, a.lst n q, L2.Paired.mapP r fun _ _ => Row.ex a⟩
/-- the i-th thing -/
theorem paired_get {α β : Type} {R : α → β → Prop} : ∀ {vs : List α} {xs : List β} {i : Nat} {x : β}, Paired R vs xs → xs[i]? = some x → ∃ v, vs[i]? = some v ∧ R v x
  | _, _, _, _, .nil, e => by simp at e
  | _, _, 0, _, .cons r _, e => by simp at e; subst e; exact ⟨_, rfl, r⟩
  | _, _, i + 1, x, .cons _ t, e => by
    obtain ⟨u, h1, h2⟩ := paired_get (i := i) (x := x) t (by simpa using e)
    exact ⟨u, by simpa using h1, h2⟩
theorem paired_getL {α β : Type} {R : α → β → Prop} : ∀ {vs : List α} {xs : List β} {i : Nat} {v : α}, Paired R vs xs → vs[i]? = some v → ∃ x, xs[i]? = some x ∧ R v x
  | _, _, _, _, .nil, e => by simp at e
  | _, _, 0, _, .cons r _, e => by simp at e; subst e; exact ⟨_, rfl, r⟩
  | _, _, i + 1, x, .cons _ t, e => by
    obtain ⟨u, h1, h2⟩ := paired_getL (i := i) (v := x) t (by simpa using e)
    exact ⟨u, by simpa using h1, h2⟩
theorem paired_append {α β : Type} {R : α → β → Prop} : ∀ {vs ws : List α} {xs ys : List β}, Paired R vs xs → Paired R ws ys → Paired R (vs ++ ws) (xs ++ ys)
  | _, _, _, _, .nil, s => s
  | _, _, _, _, .cons r t, s => .cons r (paired_append t s)
theorem paired_take {α β : Type} {R : α → β → Prop} : ∀ {vs : List α} {xs : List β} (n : Nat), Paired R vs xs → Paired R (vs.take n) (xs.take n)
  | _, _, 0, _ => .nil
  | _, _, _ + 1, .nil => .nil
  | _, _, n + 1, .cons r t => .cons r (paired_take n t)
theorem paired_drop {α β : Type} {R : α → β → Prop} : ∀ {vs : List α} {xs : List β} (n : Nat), Paired R vs xs → Paired R (vs.drop n) (xs.drop n)
  | _, _, 0, r => r
  | _, _, _ + 1, .nil => .nil
  | _, _, n + 1, .cons _ t => paired_drop n t
theorem paired_erase {α β : Type} {R : α → β → Prop} : ∀ {vs : List α} {xs : List β} (n : Nat), Paired R vs xs → Paired R (vs.eraseIdx n) (xs.eraseIdx n)
  | _, _, _, .nil => .nil
  | _, _, 0, .cons _ t => t
  | _, _, n + 1, .cons r t => .cons r (paired_erase n t)
theorem paired_set {α β : Type} {R : α → β → Prop} {v : α} {x : β} (h : R v x) : ∀ {vs : List α} {xs : List β} (n : Nat), Paired R vs xs → Paired R (vs.set n v) (xs.set n x)
  | _, _, _, .nil => .nil
  | _, _, 0, .cons _ t => .cons h t
  | _, _, n + 1, .cons r t => .cons r (paired_set h n t)

/-! ### as data -/
abbrev rowD (r : List Int) : PyData := .tuple (r.map .int)
theorem dp_ints (K : PySem.W.Frag) (H : Hp) : ∀ r : List Int, DpAll K H (r.map V.int) (r.map .int)
  | [] => .nil
  | x :: r => .cons (.int x) (dp_ints K H r)
theorem Row.dp {K : PySem.W.Frag} {H : Hp} {v : V} {r : List Int} (h : Row H v r) : Dp K H v (rowD r) := by
  obtain ⟨a, rfl, e⟩ := h
  exact .tup (.of e) (dp_ints K H r)
theorem dp_rows {K : PySem.W.Frag} {H : Hp} : ∀ {vs : List V} {rs : List (List Int)}, Paired (Row H) vs rs → DpAll K H vs (rs.map rowD)
  | _, _, .nil => .nil
  | _, _, .cons h t => .cons h.dp (dp_rows t)
theorem Rows.dp {K : PySem.W.Frag} {H : Hp} {v : V} {rs : List (List Int)} (h : Rows H v rs) : Dp K H v (.tuple (rs.map rowD)) := by
  obtain ⟨a, vs, rfl, e, p⟩ := h
  exact .tup (.of e) (dp_rows p)
theorem RowL.dp {K : PySem.W.Frag} {H : Hp} {a : Addr} {rs : List (List Int)} (h : RowL H a rs) : Dp K H (.ref a) (.list (rs.map rowD)) := by
  obtain ⟨vs, e, p⟩ := h
  exact .lst (.of e) (dp_rows p)
theorem depth_ints : ∀ r : List Int, PyData.depthAll (r.map .int) = 0 := PySem.W.depth_ints
theorem rowD_depth (r : List Int) : (rowD r).depth ≤ 1 := by
  simp only [rowD, PyData.depth, depth_ints]
  omega
theorem lay_ints : ∀ r : List Int, PyData.canLayAll0 (r.map .int) = true
  | [] => by simp [PyData.canLayAll0]
  | x :: r => by
    have h := lay_ints r
    simp only [List.map_cons, PyData.canLayAll0, h, PyData.canLay0, Bool.and_self]
theorem rowD_lay (r : List Int) : (rowD r).canLay0 = true := by
  simp only [rowD, PyData.canLay0, lay_ints]
theorem rows_depth : ∀ rs : List (List Int), PyData.depthAll (rs.map rowD) ≤ 1
  | [] => by simp [PyData.depthAll]
  | r :: rs => by
    have h1 := rows_depth rs
    have h2 := rowD_depth r
    simp only [List.map_cons, PyData.depthAll]
    omega
theorem rows_lay : ∀ rs : List (List Int), PyData.canLayAll0 (rs.map rowD) = true
  | [] => by simp [PyData.canLayAll0]
  | r :: rs => by
    have h1 := rows_lay rs
    have h2 := rowD_lay r
    simp only [List.map_cons, PyData.canLayAll0, h1, h2, Bool.and_self]
theorem rowD_shaped (r : List Int) : SeqAt.shaped (rowD r) = true := by
  have h := rowD_depth r
  show ((rowD r).canLay0 && decide ((rowD r).depth ≤ 64)) = true
  rw [Bool.and_eq_true]
  exact ⟨rowD_lay r, decide_eq_true (by omega)⟩
theorem rows_shapedL (rs : List (List Int)) : SeqAt.shaped (.list (rs.map rowD)) = true := by
  have h := rows_depth rs
  show (PyData.canLay0 (.list (rs.map rowD)) && decide (PyData.depth (.list (rs.map rowD)) ≤ 64)) = true
  rw [Bool.and_eq_true]
  exact ⟨by simp only [PyData.canLay0]; exact rows_lay rs, decide_eq_true (by simp only [PyData.depth]; omega)⟩
theorem rows_shapedT (rs : List (List Int)) : SeqAt.shaped (.tuple (rs.map rowD)) = true := by
  have h := rows_depth rs
  show (PyData.canLay0 (.tuple (rs.map rowD)) && decide (PyData.depth (.tuple (rs.map rowD)) ≤ 64)) = true
  rw [Bool.and_eq_true]
  exact ⟨by simp only [PyData.canLay0]; exact rows_lay rs, decide_eq_true (by simp only [PyData.depth]; omega)⟩
theorem ints_eqv : ∀ r s : List Int, PyData.eqvAll (r.map .int) (s.map .int) = decide (r = s)
  | [], [] => by simp [PyData.eqvAll]
  | [], _ :: _ => by simp [PyData.eqvAll]
  | _ :: _, [] => by simp [PyData.eqvAll]
  | x :: r, y :: s => by
    have h := ints_eqv r s
    simp only [List.map_cons, PyData.eqvAll, PyData.eqv, h]
    by_cases e : x = y
    · subst e
      simp
    · have q : (x == y) = false := beq_eq_false_iff_ne.mpr e
      rw [q, Bool.false_and, decide_eq_false (fun z => e (List.cons.inj z).1)]
theorem rowD_eqv (r s : List Int) : PyData.eqv (rowD r) (rowD s) = decide (r = s) := by
  simp only [rowD, PyData.eqv]
  exact ints_eqv r s
theorem any_eqv (rs : List (List Int)) (r : List Int) : ((rs.map rowD).any fun z => PyData.eqv z (rowD r)) = decide (r ∈ rs) := by
  rw [Bool.eq_iff_iff, List.any_eq_true, decide_eq_true_iff]
  constructor
  · rintro ⟨z, hz, e⟩
    obtain ⟨s, hs, rfl⟩ := List.mem_map.mp hz
    rw [rowD_eqv] at e
    rw [← of_decide_eq_true e]
    exact hs
  · intro h
    exact ⟨rowD r, List.mem_map.mpr ⟨r, h, rfl⟩, by rw [rowD_eqv]; exact decide_eq_true rfl⟩

/-! ### in, not in a tuple | a list of rows -/
section
variable {X : Cx}
theorem op_notInT (hu : X.A.units + 65 < cLine) : OpR X (compareOp .NotIn) (fun x y H Q => ∃ d ds, Dp X.K H x d ∧ Dp X.K H y (.tuple ds) ∧ SeqAt.shaped d = true ∧ SeqAt.shaped (.tuple ds) = true ∧ Q (.bl (!ds.any fun z => PyData.eqv z d)) H) := by
  intro pins s σ H x y v u Q I rx ry h
  obtain ⟨d, ds, hd, he, sd, se, q⟩ := h
  obtain ⟨as, r1⟩ := Dp.reads I d x v hd rx
  obtain ⟨bs, r2⟩ := Dp.reads I (.tuple ds) y u he ry
  exact SeqAt.notIn_tuple_reads r2 r1 (SeqAt.canLay_of_shaped se) (SeqAt.canLay_of_shaped sd) (room_in_shaped sd hu) ⟨.bl _, H, I, rfl, q⟩
def rNotRow : R2 := fun x y H Q => ∃ r rs, Row H x r ∧ ((∃ a, y = .ref a ∧ RowL H a rs) ∨ Rows H y rs) ∧ Q (.bl (!decide (r ∈ rs))) H
theorem op_notRow {k : Nat} (hr : Room k X.A) : OpR X (compareOp .NotIn) rNotRow := by
  intro pins s σ H x y v u Q I rx ry h
  have hu : X.A.units + 65 < cLine := by have := hr.un; omega
  obtain ⟨r, rs, hx, hy, q⟩ := h
  rcases hy with ⟨a, rfl, hy⟩ | hy
  · refine op_notInD hu pins s σ H _ _ v u Q I rx ry ⟨rowD r, rs.map rowD, hx.dp, hy.dp, rowD_shaped r, rows_shapedL rs, ?_⟩
    rw [any_eqv]
    exact q
  · refine op_notInT hu pins s σ H _ _ v u Q I rx ry ⟨rowD r, rs.map rowD, hx.dp, hy.dp, rowD_shaped r, rows_shapedT rs, ?_⟩
    rw [any_eqv]
    exact q
def rEqRow : R2 := fun x y H Q => ∃ r s, Row H x r ∧ Row H y s ∧ Q (.bl (decide (r = s))) H
theorem op_eqRow {k : Nat} (hr : Room k X.A) : OpR X (compareOp .Eq) rEqRow := by
  intro pins s σ H x y v u Q I rx ry h
  obtain ⟨r, t, hx, hy, q⟩ := h
  refine op_eqD hr.units pins s σ H _ _ v u Q I rx ry ⟨rowD r, rowD t, hx.dp, hy.dp, rowD_shaped r, rowD_shaped t, ?_⟩
  rw [rowD_eqv]
  exact q

/-! ### sorted of rows, none empty: so many things -/
theorem alike_rows (r s : List Int) : PySem.W.alike (rowD r) (rowD s) = true := by
  have h := PySem.W.alike_ints r s
  simpa [rowD, PySem.W.alike] using h
theorem vals_each {H : Hp} {pins : List (Addr × Obj)} {σ : L2.St} {s : Shared} (I : Inv X pins σ H s) : ∀ {vs : List V} {us : List Value} {rs : List (List Int)}, Paired (Row H) vs rs → Vals vs us →
    PySem.W.EachIs (fun v r => (∃ x, RelV x v ∧ Row H x r)) us rs ∧ PySem.W.EachIs (fun v r => ∃ as, Reads s.heap v (rowD r) as) us rs
  | _, _, _, .nil, .nil => ⟨.nil, .nil⟩
  | _, _, _, .cons h t, .cons r q => by
    obtain ⟨h1, h2⟩ := vals_each I t q
    exact ⟨.cons ⟨_, r, h⟩ h1, .cons (Dp.reads I _ _ _ h.dp r) h2⟩
theorem each_vals {H : Hp} : ∀ {us : List Value} {rs : List (List Int)}, PySem.W.EachIs (fun v r => (∃ x, RelV x v ∧ Row H x r)) us rs → ∃ vs, Vals vs us ∧ Paired (Row H) vs rs
  | _, _, .nil => ⟨[], .nil, .nil⟩
  | _, _, .cons ⟨x, r, h⟩ t => by
    obtain ⟨vs, h1, h2⟩ := each_vals t
    exact ⟨x :: vs, .cons r h1, .cons h h2⟩
def rSortR : List V → Hp → VK → Prop := fun vs H Q => ∃ (a : Addr) (rs : List (List Int)), vs = [V.ref a] ∧ RowL H a rs ∧ (∀ r ∈ rs, r ≠ []) ∧ ∀ p ys, ys.length = rs.length → H p = none → Q (.ref p) (upd H p (.lst ys))
theorem cr_sortR {k : Nat} (hr : Room k X.A) : CallR X (.builtin "sorted") rSortR := by
  intro pins s σ H vs us Q I r h
  obtain ⟨a, rs, rfl, ⟨ws, hw, pw⟩, hne, q⟩ := h
  obtain ⟨its, rv, hl, hz⟩ := I.list (SqL.of hw)
  rw [Vals.ref1 r]
  obtain ⟨e1, e2⟩ := vals_each I pw rv
  have hlen : rs.length = its.length := by rw [← pw.length, rv.length]
  have hun := hr.un
  refine PySem.W.sorted_data (enc := rowD) hl.isList e1 e2 (PySem.W.AllAlike.of alike_rows) ?_ (by rw [hlen, ← rv.length]; exact hz) (fun b _ => ?_) fun out ho hout => ?_
  · refine .inl fun d hd => ?_
    obtain ⟨b, hb, rfl⟩ := List.mem_map.mp hd
    cases b with
    | nil => exact absurd rfl (hne _ hb)
    | cons x r => exact ⟨.int x, r.map .int, rfl⟩
  · have := rowD_depth b
    omega
  · obtain ⟨zs, h1, h2⟩ := each_vals hout
    obtain ⟨ep, he'⟩ := PyProof.Rows.sortedAll_at s.heap its out.toArray
    have hzl : zs.length = rs.length := by rw [h1.length, ho]
    have hzz : zs.length ≤ sizeLine := by
      rw [hzl, hlen, ← rv.length]
      exact hz
    exact ⟨.ref _, upd H (s.heap.objs.size + 1) (.lst zs), I.laid (t' := s.toks) (fun _ _ => PyProof.Rows.sortedAll_old) (Nat.le_succ _) ⟨hzz, out, ep, h1, he'⟩, rfl, q _ _ hzl (I.hok.fresh (Nat.le_succ _))⟩
end
end K4
set_option Elab.async false
set_option linter.all false
set_option maxRecDepth 100000
set_option maxHeartbeats 2000000
namespace K4
open PySem PySem.Spec PyProof.Rows L2 GxR
open AutoSeq1 (wpAny_loadPart')

/-! ### enumerate(tuple) -/
theorem meets_enumerate_newT (l : Addr) (items : Array Value) (n : Nat) (dct : Option Addr) (sl : Array (Option Value)) :
    Meets (Builtin.«enumerate.__new__» ⟨[.type "enumerate", .ref l], []⟩) (fun _ R s => s.heap.get? l = some { cls := .type "tuple", dict := dct, data := .seq items n, slots := sl } ∧
      R (.ok (.ret (.ref (s.heap.push { cls := .type "tuple_iterator", data := .fields #[.ref l, .int 0 0] }).objs.size)))
        { s with heap := (s.heap.push { cls := .type "tuple_iterator", data := .fields #[.ref l, .int 0 0] }).push { cls := .type "enumerate", data := .fields #[.none, .bool false, .ref s.heap.objs.size, rawInt 0, .none, .none] } }) :=
  .of_wp fun prog w A R s h => by
    obtain ⟨hp, g, d, tk, os⟩ := s; obtain ⟨hl, h⟩ := h
    have hsub := sub_enumerate
    have hL : Heap.IsTuple (Shared.heap ⟨hp, g, d, tk, os⟩) l items := ⟨_, hl, rfl, n, rfl⟩
    wp_walk using wpAny_loadPart' hl
    refine wpAny_stack_any fun st => wpAny_pure ?_
    split
    · rename_i c _ _ _ _ _
      cases (c == Value.type "enumerate")
      · wp_walk using wpAny_loadPart' hl, wpAny_pyIter_tuple hL
        exact ⟨_, rfl, h⟩
      · wp_walk using wpAny_loadPart' hl, wpAny_pyIter_tuple hL
        exact ⟨_, rfl, h⟩
    · wp_walk using wpAny_loadPart' hl, wpAny_pyIter_tuple hL
      exact ⟨_, rfl, h⟩
section
variable {prog : Program} {w : World} {A : Around} {E : Value → Shared → Prop} {s : Shared}
theorem call_enumerate_tuple {l : Addr} {items : Array Value} {Q : Value → Shared → Prop} (hL : s.heap.IsTuple l items)
    (h : ∀ h', IsEnum h' (s.heap.objs.size + 1) s.heap.objs.size 0 .none → h'.IsTupleIter s.heap.objs.size l 0 → h'.objs.size = s.heap.objs.size + 2 →
      (∀ b o, s.heap.get? b = some o → h'.get? b = some o) → Q (.ref (s.heap.objs.size + 1)) { s with heap := h' }) :
    wpAny (model prog w) A (call (.type "enumerate") [.ref l]) Q E s := by
  obtain ⟨⟨c, dct, dt, sl⟩, hl, hc, n, hd⟩ := hL
  replace hc : c = .type "tuple" := hc
  replace hd : dt = .seq items n := hd
  subst hc hd
  refine callType_new F.called_enumerate (by decide) (F.typeCall_enumerate_1 _) (F.newCall_enumerate_1 _) (fun obj => F.args_object_init_2 obj _) F.entry_enumerate_new
    (meets_enumerate_newT l items n dct sl) ⟨hl, ?_⟩
  have hz : (s.heap.push { cls := .type "tuple_iterator", data := .fields #[.ref l, .int 0 0] }).objs.size = s.heap.objs.size + 1 := Heap.size_push ..
  show _ ∧ _
  rw [hz]
  have he : IsEnum ((s.heap.push { cls := .type "tuple_iterator", data := .fields #[.ref l, .int 0 0] }).push
      { cls := .type "enumerate", data := .fields #[.none, .bool false, .ref s.heap.objs.size, rawInt 0, .none, .none] }) (s.heap.objs.size + 1) s.heap.objs.size 0 .none := by
    have := Heap.get?_push_size (s.heap.push { cls := .type "tuple_iterator", data := .fields #[.ref l, .int 0 0] })
      (o := { cls := .type "enumerate", data := .fields #[.none, .bool false, .ref s.heap.objs.size, rawInt 0, .none, .none] }) rfl
    rw [hz] at this; exact this
  refine ⟨⟨_, he, rfl⟩, h _ he ⟨_, Heap.get?_push_of_some _ (Heap.get?_push_size _ rfl), rfl, rfl⟩ (by rw [Heap.size_push, hz]) fun b o x => Heap.get?_push_of_some _ (Heap.get?_push_of_some _ x)⟩
theorem wpAny_pyNext_enum_endT {e it l : Addr} {i : Nat} {items : Array Value} {old : Value} {Q : Option Value → Shared → Prop} (hh : A.handled = none)
    (he : IsEnum s.heap e it i old) (hit : s.heap.IsTupleIter it l i) (hl : s.heap.IsTuple l items) (hx : items[i]? = none)
    (hQ : ∀ h', Heap.ExtBut it s.heap h' → Q none { s with heap := h' }) : wpAny (model prog w) A (pyNext (.ref e)) Q E s := by
  have hT : s.TypeIs (.ref e) "enumerate" := ⟨_, he, rfl⟩
  unfold pyNext
  refine wpAny_bind (wpAny_attempt (wpAny_callSpecial?_slot (name := Str.ofString "__next__") hT F.slot_enumerate_next
    (wpAny_call_entry F.slot_enumerate_next hT F.entry_enumerate_next ?_ (F.args_enumerate_next_1 _))))
  show wpAny _ _ (field (.ref e) 2 >>= _) _ _ _
  refine wpAny_bind (wpAny_field he rfl (x := .ref it) rfl ?_)
  refine wpAny_bind (wpAny_nextOf_tuple_end hh hit hl hx fun h' x he' hx' => ?_)
  obtain ⟨o, ho, hc⟩ := hx'
  refine wpAny_bind (wpAny_isInstance (T := "StopIteration") (b := true) ⟨o, ho, hc⟩ isSubtype_stop ?_)
  exact wpAny_pure (hQ _ he')
end
/-- the tuple at a, each item in a new pair -/
def IteT (K : PySem.W.Frag) (a : Addr) : It :=
  ⟨fun i H => ∃ (xs : List V) (x : V), SqT K H a xs ∧ xs[i]? = some x, fun i H v H' => ∃ T x, v = .ref T ∧ H T = none ∧ H' = upd H T (.tup [.int (i : Nat), x]) ∧ ∀ xs, SqT K H a xs → xs[i]? = some x, fun i H => ∃ xs : List V, SqT K H a xs ∧ xs.length ≤ i⟩
theorem turn_enumT {P : Program} {w : World} {K : PySem.W.Frag} {elts : List Expr} {kk : Nat} {tpos : Pos} (a e it : Addr) (hei : e ≠ it) (hae : a ≠ e) (hai : a ≠ it) :
    Turn P w K (.Tuple elts kk tpos) (IteT K a) [e, it] e (fun i h => (∃ old, IsEnum h e it ((i : Nat) : Int) old) ∧ h.IsTupleIter it a i) where
  mem := by simp
  obj := fun i h st b hb => by
    obtain ⟨⟨old, he⟩, ⟨o, ho, hc, hd⟩⟩ := st
    have e' : b = e ∨ b = it := by simpa using hb
    rcases e' with z | z
    · rw [z]; exact ⟨_, he, fun v q => nomatch q⟩
    · rw [z]; exact ⟨o, ho, fun v q => by rw [hd] at q; cases q⟩
  keep := fun i h h' st k => let ⟨⟨old, he⟩, hi⟩ := st; ⟨⟨old, k e (by simp) _ he⟩, hi.at fun o q => k it (by simp) o q⟩
  item := by
    intro X hP hw hK hc i pins s σ H E I hf st hg
    subst hP hw hK
    obtain ⟨⟨old, he⟩, hit⟩ := st
    obtain ⟨xs, x, hq, hx⟩ := hg
    obtain ⟨its, rv, p, hz⟩ := I.tuple hq
    obtain ⟨u, hu, ru⟩ := rv.get hx
    have hel : e < s.heap.objs.size := Heap.lt_size he
    have hil : it < s.heap.objs.size := by obtain ⟨_, q, _⟩ := hit; exact Heap.lt_size q
    have D := Draws.tuple (prog := X.prog) (w := X.w) (A := X.A.in1) (show X.A.in1.handled = none from I.ok.hd hc) it a hai its.toArray
    have hlt : i < its.toArray.size := by
      obtain ⟨h1, _⟩ := List.getElem?_eq_some_iff.mp hu
      simpa using h1
    refine wpAny_pyNext_enum_itemD D he ⟨hit, p⟩ hlt hei (by simp [hei, Ne.symm hae]) fun y h' tk hy ho hit' hT hsz hk => ?_
    have ey : y = u := by
      have hy : its.toArray[i]? = some y := hy
      have hu' : its.toArray[i]? = some u := by simpa using hu
      rw [hu'] at hy
      exact (Option.some.inj hy).symm
    subst ey
    refine ⟨_, rfl, wpAny_letOwnedTupleGo_enum (s := { s with heap := h', toks := tk + 1 }) ho fun h'' he' sb => ?_⟩
    have hT2 : h''.get? s.heap.objs.size = some { cls := .type "tuple", data := .seq #[.int i tk, y] } := (sb.2 _ (Nat.ne_of_gt hel)).trans hT
    have new : ObjOk X.prog X.w (upd H s.heap.objs.size (.tup [.int (i : Nat), x])) h'' s.heap.objs.size (.tup [.int (i : Nat), x]) :=
      ⟨by show 2 ≤ sizeLine; decide, [.int i tk, y], .cons ⟨_, rfl⟩ (.cons ru .nil), ⟨_, hT2, rfl, _, rfl⟩⟩
    have I1 : Inv X pins σ (upd H s.heap.objs.size (.tup [.int (i : Nat), x])) { s with heap := h'', toks := tk + 1 } :=
      I.turnedNew (ch := [e, it]) (fun b ob hb q => (sb.2 b (fun z => hb (by simp [z]))).trans (hk b ob (fun z => hb (by simp [z])) (fun z => hb (by simp [z])) q)) hf (Nat.le_refl _) new
    refine ⟨.ref s.heap.objs.size, _, I1, rfl, ⟨_, x, rfl, I.hok.fresh (Nat.le_refl _), rfl, fun ys hy => by rw [I.tuple_inj hy hq]; exact hx⟩, ⟨⟨y, ?_⟩, hit'.1.at fun o q => (sb.2 it (Ne.symm hei)).trans q⟩, fun b hb => ?_⟩
    · have e1 : ((i + 1 : Nat) : Int) = (i : Int) + 1 := by omega
      rw [e1]; exact he'
    · have hb' : b < s.heap.objs.size := by
        have e' : b = e ∨ b = it := by simpa using hb
        rcases e' with z | z
        · rw [z]; exact hel
        · rw [z]; exact hil
      rw [upd_ne (Nat.ne_of_lt hb')]
      exact (hf b hb).1
  done := by
    intro X hP hw hK hc i pins s σ H E I hf st hg
    subst hP hw hK
    obtain ⟨⟨old, he⟩, hit⟩ := st
    obtain ⟨xs, hq, hx⟩ := hg
    obtain ⟨its, rv, p, hz⟩ := I.tuple hq
    obtain ⟨f0, f1, f2, f3, f4, f5⟩ := hf it (by simp)
    have hl := rv.length
    refine wpAny_pyNext_enum_endT (I.ok.hd hc) he hit p (by simp; omega) fun h' eb => ⟨rfl, I.turned (t' := s.toks) (fun b o hb q => eb b o hb q) f0 f1 f3 f4 f5⟩
  self := fun A i s Q E st h => let ⟨⟨_, he⟩, _⟩ := st; wpAny_pyIter_enum he h
def iEnumT (K : PySem.W.Frag) (ta : TA) : TI := fun σ H R => ta σ H fun vs H1 => ∃ a xs, vs = [.ref a] ∧ SqT K H1 a xs ∧ R (IteT K a) H1
theorem pi_enumT {X : Cx} {e : Expr} {ta : TA} {p pos tpos : Pos} {elts : List Expr} {kk : Nat} (hg : Gl X "enumerate") (hm : X.mg "enumerate" = none) (ha : PA X [e] ta) (hs : starEach [e] X.env = [(false, eval e X.env)] := by rfl) :
    PI X (.Tuple elts kk tpos) (.Call (.Name "enumerate" p) [e] [] pos) (iEnumT X.K ta) := by
  refine ⟨fun pins s σ H R I h => ?_⟩
  refine Call_ (ld_blt I hg hm boot_enumerate (PyProof.Rows.callWith_type1 (thn (ha.run pos pins s σ H _ I h) fun us s1 ⟨vs, H1, I1, r1, q1⟩ => ?_) hs rfl))
  obtain ⟨a, xs, ex, hq, q⟩ := q1
  subst ex
  cases r1 with
  | cons r rr =>
    cases rr
    cases r
    obtain ⟨its, rv, p', hz⟩ := I1.tuple hq
    have hal : a < s1.heap.objs.size := p'.lt
    refine call_enumerate_tuple p' fun h' he hit hsz hk => wpAny_pyIter_enum he ?_
    have I2 : Inv X pins σ H1 { s1 with heap := h' } := I1.kept (t' := s1.toks) hk
    refine ⟨s1.heap.objs.size + 1, [s1.heap.objs.size + 1, s1.heap.objs.size], _, _, H1, rfl, I2, turn_enumT a (s1.heap.objs.size + 1) s1.heap.objs.size (Nat.succ_ne_self _) (Nat.ne_of_lt (Nat.lt_succ_of_lt hal)) (Nat.ne_of_lt hal), ⟨⟨.none, he⟩, hit⟩, fun b hb => ?_, q⟩
    have e' : b = s1.heap.objs.size + 1 ∨ b = s1.heap.objs.size := by simpa using hb
    have hle : s1.heap.objs.size ≤ b := by
      rcases e' with z | z
      · rw [z]; exact Nat.le_add_right _ _
      · rw [z]; exact Nat.le_refl _
    exact I1.fpOk hle (I1.hok.fresh hle)

/-! ### isinstance -/
section
variable {K : PySem.W.Frag} {H : Hp} {Q : VK}
theorem isi_int {i : Int} {n : String} {b : Bool} (h : kitB "int" n = some b) (q : Q (.bl b) H) : rIsi K [.int i, .ty n] H Q := ⟨_, _, _, _, b, rfl, .ty n, .base (.int i), kit_ty h, q⟩
theorem isi_bl {c : Bool} {n : String} {b : Bool} (h : kitB "bool" n = some b) (q : Q (.bl b) H) : rIsi K [.bl c, .ty n] H Q := ⟨_, _, _, _, b, rfl, .ty n, .base (.bl c), kit_ty h, q⟩
theorem isi_non {n : String} {b : Bool} (h : kitB "NoneType" n = some b) (q : Q (.bl b) H) : rIsi K [.non, .ty n] H Q := ⟨_, _, _, _, b, rfl, .ty n, .base .non, kit_ty h, q⟩
theorem isi_str {x : Str} {n : String} {b : Bool} (h : kitB "str" n = some b) (q : Q (.bl b) H) : rIsi K [.str x, .ty n] H Q := ⟨_, _, _, _, b, rfl, .ty n, .base (.str x), kit_ty h, q⟩
theorem isi_tup {a : Addr} {xs : List V} {n : String} {b : Bool} (e : H a = some (.tup xs)) (h : kitB "tuple" n = some b) (q : Q (.bl b) H) : rIsi K [.ref a, .ty n] H Q := ⟨_, _, _, _, b, rfl, .ty n, .base (.tup e), kit_ty h, q⟩
theorem kit_int_int : kitB "int" "int" = some true := by decide +kernel
theorem kit_int_bool : kitB "int" "bool" = some false := by decide +kernel
theorem kit_bool_bool : kitB "bool" "bool" = some true := by decide +kernel
theorem kit_bool_int : kitB "bool" "int" = some true := by decide +kernel
theorem kit_str_str : kitB "str" "str" = some true := by decide +kernel
theorem kit_int_str : kitB "int" "str" = some false := by decide +kernel
theorem kit_bool_str : kitB "bool" "str" = some false := by decide +kernel
theorem kit_non_str : kitB "NoneType" "str" = some false := by decide +kernel
theorem kit_tup_tup : kitB "tuple" "tuple" = some true := by decide +kernel
theorem kit_tup_list : kitB "tuple" "list" = some false := by decide +kernel
theorem kit_int_tup : kitB "int" "tuple" = some false := by decide +kernel
theorem kit_int_list : kitB "int" "list" = some false := by decide +kernel
theorem kit_bool_tup : kitB "bool" "tuple" = some false := by decide +kernel
theorem kit_bool_list : kitB "bool" "list" = some false := by decide +kernel
theorem kit_non_tup : kitB "NoneType" "tuple" = some false := by decide +kernel
theorem kit_non_list : kitB "NoneType" "list" = some false := by decide +kernel
end

/-! ### a def, its promise -/
/-- a def's body -/
abbrev Bd (P : Program) (w : World) (K : PySem.W.Frag) (mg : Str → Option Value) (base : Heap) (N : List Str) (qual : Str) (scope : Scope) (f : Addr) (cdv : Value) (A : Around) (outer : List Env) (s : Shared) (H : Hp) (E : XK) : Cx :=
  (cxOf CX0 P w K mg base N qual scope f cdv A outer s H E).nox
section
variable {P : Program} {w : World} {K : PySem.W.Frag} {mg : Str → Option Value} {base : Heap} {x qual : Str} {params : Arguments} {body : List Stmt} {scope : Scope} {dvs : List V} {f : Addr} {fd : FuncData}
theorem okD {N ps : List Str} {k : Nat} {sp : Sp} (F : FunD K x qual params body scope dvs [] f fd) (S : FnScope N ps scope) (len : ∀ vs H Q E, sp vs H Q E → vs.length = ps.length)
    (hbody : ∀ (cdv : Value) (A : Around) (outer : List Env) (s : Shared) (H : Hp) (vs : List V) (Q : VK) (E : XK), fd.code = cdv → Room k (A.deeper (envOfC qual scope s.heap.objs.size f cdv)) → sp vs H Q E →
      ∃ t, PSs (Bd P w K mg base N qual scope f cdv A outer s H E) body t ∧ t { nx := fun _ H' => Q .non H', rt := Q } (start N vs) H) : FnOk P w K mg base CX0 (k + 1) f fd ps sp := by
  obtain ⟨oc, od, dV, kV, doc, pm, an, cdv, ct, osl, rfl, lk, hcd, _, _⟩ := F.ex
  refine fn_of lk hcd S len fun A outer s H vs Q E hr hsp => ?_
  obtain ⟨t, h, q⟩ := hbody cdv A outer s H vs Q E rfl hr hsp
  exact ⟨t, h.nox, q⟩
/-- what a caller knows of a def: its promise, how it is found and bound -/
structure Cal (P : Program) (w : World) (K : PySem.W.Frag) (mg : Str → Option Value) (base : Heap) (k : Nat) (x : Str) (ps : List Str) (dvs : List V) (sp : Sp) : Prop where
  ex : ∃ (f : Addr) (fd : FuncData) (ds : List Value), FnOk P w K mg base CX0 k f fd ps sp ∧ mg x = some (.ref f) ∧ PySem.W.keepIn K (.ref f) = true ∧ Binds K fd ps ds ∧ Vals dvs ds
theorem Cal.imp {k : Nat} {ps : List Str} {sp sp' : Sp} (c : Cal P w K mg base k x ps dvs sp) (h : ∀ vs H Q E, sp' vs H Q E → sp vs H Q E) : Cal P w K mg base k x ps dvs sp' := by
  obtain ⟨f, fd, ds, F, a, b, c, d⟩ := c.ex
  exact ⟨f, fd, ds, F.imp h, a, b, c, d⟩
end
section
variable {X : Cx} {k : Nat} {x : Str} {ps : List Str} {dvs : List V} {sp : Sp} {p pos : Pos} {e : Expr} {es : List Expr} {t : TA}
theorem pe_cal (c : Cal X.prog X.w X.K X.mg X.base k x ps dvs sp) (hr : Room k X.A) (hg : Gl X x) (ha : PA X (e :: es) t)
    (hdb : (x == ("__debug__" : Str)) = false := by decide) (he : starEach (e :: es) X.env = (false, eval e X.env) :: starEach es X.env := by rfl) (hpl : (backTo pos (starEach es X.env)).any (·.1) = false := by rfl) :
    PE X (.Call (.Name x p) (e :: es) [] pos) (tCall sp dvs E0 t) := by
  obtain ⟨f, fd, ds, F, hm, hk, hb, hd⟩ := c.ex
  exact pe_call F hr hg hm hk hb hd pass0 ha hdb he hpl
end
end K4
set_option Elab.async false
set_option linter.all false
set_option maxRecDepth 100000
set_option maxHeartbeats 2000000
namespace K4
open PySem PySem.Spec PyProof.Rows L2 GxR

/-! ### all(..) over a tuple, over a text -/
section
variable {K : PySem.W.Frag} {a : Addr} {xs : List V} {g : TG} {te : TE} {vs : List Nat} {σ : L2.St} {H1 : Hp} {Q : VK}
theorem all_tup (Pv : Nat → Hp → Prop) (h0 : Pv 0 H1) (hl : ∀ i H, i ≤ xs.length → Pv i H → SqT K H a xs)
    (hs : ∀ i x H, xs[i]? = some x → Pv i H → g x (wipe σ vs) H fun σ2 H2 => wipe σ2 vs = wipe σ vs ∧ te σ2 H2 fun y H3 => ∃ b, y = .bl b ∧ if b = true then Pv (i + 1) H3 else Q (.bl false) H3) (hd : ∀ H, Pv xs.length H → Q (.bl true) H) :
    AllW (Itt K a) g te vs σ Q H1 := by
  refine ⟨fun i m H => m = xs.length - i ∧ i ≤ xs.length ∧ Pv i H, ⟨xs.length, by simp, Nat.zero_le _, h0⟩, ?_⟩
  rintro i m H ⟨rfl, hi, p⟩
  have q := hl i H hi p
  by_cases hlt : i < xs.length
  · refine .inr ⟨⟨xs, xs[i], q, by simp [hlt]⟩, Pv (i + 1), fun H' p' => ⟨xs.length - (i + 1), by omega, rfl, hlt, p'⟩, fun x H' y => ?_⟩
    obtain ⟨e, y⟩ := y
    subst e
    exact hs i x _ (y xs q) p
  · have e : i = xs.length := by omega
    subst e
    exact .inl ⟨⟨xs, q, Nat.le_refl _⟩, hd H p⟩
theorem all_str {x : Str} (Pv : Nat → Hp → Prop) (h0 : Pv 0 H1)
    (hs : ∀ i c H, x.cps[i]? = some c → Pv i H → g (.str ⟨#[c]⟩) (wipe σ vs) H fun σ2 H2 => wipe σ2 vs = wipe σ vs ∧ te σ2 H2 fun y H3 => ∃ b, y = .bl b ∧ if b = true then Pv (i + 1) H3 else Q (.bl false) H3) (hd : ∀ H, Pv x.cps.size H → Q (.bl true) H) :
    AllW (Its x) g te vs σ Q H1 := by
  refine ⟨fun i m H => m = x.cps.size - i ∧ i ≤ x.cps.size ∧ Pv i H, ⟨x.cps.size, by simp, Nat.zero_le _, h0⟩, ?_⟩
  rintro i m H ⟨rfl, hi, p⟩
  by_cases hlt : i < x.cps.size
  · refine .inr ⟨hlt, Pv (i + 1), fun H' p' => ⟨x.cps.size - (i + 1), by omega, rfl, hlt, p'⟩, fun y H' h => ?_⟩
    obtain ⟨e, c, hc, rfl⟩ := h
    subst e
    exact hs i c _ hc p
  · have e : i = x.cps.size := by omega
    subst e
    exact .inl ⟨Nat.le_refl _, hd H p⟩
end

/-! ### the text -/
def top (i : Nat) : Stmt := PySem.Challenge.pw_onelife_k04_whole_rows.main.body.getD i (.Pass ⟨0, 0, 0, 0⟩)
abbrev FnP (K : PySem.W.Frag) (x : Str) (i : Nat) (dvs : List V) (f : Addr) (fd : FuncData) : Prop := FunD K x x (defArgs (top i)) (defBody (top i)) (defScope (top i)) dvs [] f fd
/-- what the module's names hold -/
structure Txt (mg : Str → Option Value) : Prop where
  isi : mg "isinstance" = none
  int_ : mg "int" = none
  bool_ : mg "bool" = none
  str_ : mg "str" = none
  tuple_ : mg "tuple" = none
  list_ : mg "list" = none
  len_ : mg "len" = none
  all_ : mg "all" = none
  range_ : mg "range" = none
  enum_ : mg "enumerate" = none
  sorted_ : mg "sorted" = none
  sum_ : mg "sum" = none
  states : ∃ t, mg "MOST_STATES" = some (.int 40 t)
  options : ∃ t, mg "MOST_OPTIONS" = some (.int 6 t)
  letters : ∃ t, mg "MOST_LETTERS" = some (.int 8 t)
  abc : ∃ t, mg "LETTERS" = some (.str "abcdefghijklmnopqrstuvwxyz" t)
  marks : ∃ t, mg "MOST_MARKS" = some (.int 4 t)
  row : ∃ t, mg "MOST_ROW" = some (.int 8 t)
  rows : ∃ t, mg "MOST_ROWS" = some (.int 40 t)

/-- a value's type -/
inductive TyN (H : Hp) : V → String → Prop where
  | non : TyN H .non "NoneType"
  | bl (b : Bool) : TyN H (.bl b) "bool"
  | int (i : Int) : TyN H (.int i) "int"
  | str (x : Str) : TyN H (.str x) "str"
  | tup {a : Addr} {xs : List V} (e : H a = some (.tup xs)) : TyN H (.ref a) "tuple"
  | lst {a : Addr} {xs : List V} (e : H a = some (.lst xs)) : TyN H (.ref a) "list"
theorem TyN.x {K : PySem.W.Frag} {H : Hp} {v : V} {m : String} (h : TyN H v m) : TyX K H v (.type m) := by
  cases h with
  | non => exact .base .non
  | bl b => exact .base (.bl b)
  | int i => exact .base (.int i)
  | str x => exact .base (.str x)
  | tup e => exact .base (.tup e)
  | lst e => exact .base (.lst e)
def rTy : List V → Hp → VK → Prop := fun xs H Q => ∃ (x : V) (n m : String) (b : Bool), xs = [x, .ty n] ∧ TyN H x m ∧ kitB m n = some b ∧ Q (.bl b) H
theorem call_ty {X : Cx} : CallR X (.builtin "isinstance") rTy := by
  intro pins s σ H xs us Q I r h
  obtain ⟨x, n, m, b, rfl, ty, e, q⟩ := h
  exact call_isi pins s σ H _ us Q I r ⟨x, .ty n, .type m, .type n, b, rfl, .ty n, ty.x, kit_ty e, q⟩
section
variable {X : Cx} {e : Expr} {te : TE} {p q pos : Pos} {x : Str} {n : String}
theorem pe_isi (hv : bootBuiltins x = some (.type n)) (hm : X.mg "isinstance" = none) (hm2 : X.mg x = none) (he : PE X e te) (hg : Gl X "isinstance" := by rfl) (hg2 : Gl X x := by rfl) (hn : x ≠ "__name__" := by decide) (hdb : (x == ("__debug__" : Str)) = false := by decide)
    (h1 : starEach (e :: [.Name x q]) X.env = (false, eval e X.env) :: starEach [.Name x q] X.env := by rfl) :
    PE X (.Call (.Name "isinstance" p) [e, .Name x q] [] pos) (tCB rTy (tCons te (tCons (tC (.ty n)) tNil))) :=
  pe_callB call_ty hg hm boot_isinstance (pa_cons he (pa_cons (pe_bltn hg2 hm2 hv rfl hn hdb) pa_nil) h1) (he := h1)
theorem bt_int : bootBuiltins "int" = some (.type "int") := by decide +kernel
theorem bt_bool : bootBuiltins "bool" = some (.type "bool") := by decide +kernel
theorem bt_str : bootBuiltins "str" = some (.type "str") := by decide +kernel
theorem bt_list : bootBuiltins "list" = some (.type "list") := by decide +kernel
theorem bt_tuple : bootBuiltins "tuple" = some (.type "tuple") := by decide +kernel
/-- a number of the module's -/
theorem pe_num {x : Str} {i : Int} {pos : Pos} (h : ∃ t, X.mg x = some (.int i t)) (hg : Gl X x := by rfl) (hd : (x == ("__debug__" : Str)) = false := by decide) : PE X (.Name x pos) (tC (.int i)) := by
  obtain ⟨t, h⟩ := h
  exact pe_glob hg h ⟨t, rfl⟩ hd
end

section
variable {P : Program} {w : World} {K : PySem.W.Frag} {mg : Str → Option Value} {base : Heap}

/-! ### is_number -/
theorem sc11 : FnScope ["value", "low", "high"] ["value", "low", "high"] (defScope (top 11)) := ⟨rfl, rfl, rfl, by decide +kernel, rfl, by decide +kernel, by decide +kernel⟩
def spNum : Sp := fun vs H Q _ => ∃ i lo hi : Int, vs = [.int i, .int lo, .int hi] ∧ Q (.bl (decide (lo ≤ i) && decide (i ≤ hi))) H
theorem ok11 {f : Addr} {fd : FuncData} (F : FnP K "is_number" 11 [] f fd) (T : Txt mg) : FnOk P w K mg base CX0 1 f fd ["value", "low", "high"] spNum := by
  refine okD F sc11 (fun vs H Q E h => ?_) (fun cdv A outer s H vs Q E hcd hr h => ?_)
  · obtain ⟨i, lo, hi, rfl, _⟩ := h
    rfl
  · obtain ⟨i, lo, hi, rfl, q⟩ := h
    refine ⟨_, pss_one (ps_ret (pe_and (pe_isi bt_int T.isi T.int_ (pv 0)) (pe_and (pe_not (pe_isi bt_bool T.isi T.bool_ (pv 0))) (pe_one (pe_chain op_le op_le (pv 1) (pv 0) (pv 2)))))), ?_⟩
    refine ⟨_, rfl, _, _, _, _, rfl, .int i, kit_int_int, true, rfl, iteT ⟨_, rfl, _, _, _, _, rfl, .int i, kit_int_bool, false, rfl, true, rfl, iteT ?_⟩⟩
    refine ⟨_, rfl, _, rfl, lo, i, rfl, rfl, _, rfl, ite2 (fun e => ?_) (fun e => ?_)⟩
    · refine ⟨_, rfl, i, hi, rfl, rfl, ?_⟩
      rw [e, Bool.true_and] at q
      exact q
    · have e : decide (lo ≤ i) = false := by
        cases h : decide (lo ≤ i)
        · rfl
        · exact absurd h e
      rw [e, Bool.false_and] at q
      exact q

/-! ### need_marks -/
theorem sc20 : FnScope ["value"] ["value"] (defScope (top 20)) := ⟨rfl, rfl, rfl, by decide +kernel, rfl, by decide +kernel, by decide +kernel⟩
def spMarks : Sp := fun vs H Q _ => ∃ i : Int, vs = [.int i] ∧ 1 ≤ i ∧ i ≤ 4 ∧ Q .non H
theorem ok20 {f : Addr} {fd : FuncData} (F : FnP K "need_marks" 20 [] f fd) (T : Txt mg) (cN : Cal P w K mg base 1 "is_number" ["value", "low", "high"] [] spNum) : FnOk P w K mg base CX0 2 f fd ["value"] spMarks := by
  refine okD F sc20 (fun vs H Q E h => ?_) (fun cdv A outer s H vs Q E hcd hr h => ?_)
  · obtain ⟨i, rfl, _⟩ := h
    rfl
  · obtain ⟨i, rfl, h1, h2, q⟩ := h
    refine ⟨_, pss_one (ps_if (pt_not (pt_val (pe_cal cN hr rfl (pa_cons (pv 0) (pa_cons pe_int (pa_cons (pe_num T.marks) pa_nil)))))) (pss_one ps_never) pss_nil), ?_⟩
    refine ⟨_, rfl, i, 1, 4, rfl, true, ?_, iteF q⟩
    rw [decide_eq_true h1, decide_eq_true h2] <;> rfl

/-! ### is_row -/
abbrev n21 : List Str := ["value", "marks", "most", "mark"]
theorem sc21 : FnScope n21 ["value", "marks", "most"] (defScope (top 21)) := ⟨rfl, rfl, rfl, by decide +kernel, rfl, by decide +kernel, by decide +kernel⟩
/-- a good row -/
def GoodRow (m most : Int) (r : List Int) : Prop := 1 ≤ r.length ∧ (r.length : Int) ≤ most ∧ ∀ i ∈ r, 0 ≤ i ∧ i < m
def spIsRow (Pt : Addr) : Sp := fun vs H Q _ => ∃ (v : V) (m most : Int) (r : List Int), vs = [v, .int m, .int most] ∧ Row H v r ∧ TabG H Pt ∧ GoodRow m most r ∧ ∀ H', Ex [] H H' → Q (.bl true) H'
theorem iteD {c : Prop} [Decidable c] {A B : Prop} (hc : c) (h : A) : if decide c = true then A else B := by
  rw [decide_eq_true hc]
  exact iteT h
theorem iteDn {c : Prop} [Decidable c] {A B : Prop} (hc : ¬ c) (h : B) : if decide c = true then A else B := by
  rw [decide_eq_false hc]
  exact iteF h
theorem row_at {r : List Int} {i : Nat} {x : V} (h : (r.map V.int)[i]? = some x) : ∃ z, z ∈ r ∧ r[i]? = some z ∧ x = V.int z := by
  rw [List.getElem?_map] at h
  cases e : r[i]? with
  | none => rw [e] at h; cases h
  | some z =>
    rw [e] at h
    exact ⟨z, List.mem_of_getElem? e, rfl, (Option.some.inj h).symm⟩
theorem ok21 {f : Addr} {fd : FuncData} {c Pt : Addr} (F : FnP K "is_row" 21 [.int 8] f fd) (T : Txt mg) (TB : TabB base mg c Pt) (hc : fd.code = .ref c) (cN : Cal P w K mg base 1 "is_number" ["value", "low", "high"] [] spNum) :
    FnOk P w K mg base CX0 3 f fd ["value", "marks", "most"] (spIsRow Pt) := by
  refine okD F sc21 (fun vs H Q E h => ?_) (fun cdv A outer s H vs Q E hcd hr h => ?_)
  · obtain ⟨v, m, most, r, rfl, _⟩ := h
    rfl
  · obtain rfl : cdv = .ref c := hcd.symm.trans hc
    obtain ⟨v, m, most, r, rfl, ⟨a, rfl, e⟩, hT, ⟨g1, g2, g3⟩, q⟩ := h
    refine ⟨_, pss_cons (ps_if (PW.pt (pw_or (pt_not (pt_val (pe_isi bt_tuple T.isi T.tuple_ (pv 0)))) (pw_or1 (pt_not (pt_chain op_le op_le pe_int (pe_callB call_len_seq rfl T.len_ boot_len (pa_cons (pv 0) pa_nil)) (pv 2)))))) (pss_one (ps_ret pe_bl)) pss_nil)
      (pss_one (ps_ret (pe_allG (k := 1) hr rfl sc21.nd rfl T.all_ TB rfl (pi_tup (pv 0)) (blkOk_by (N := n21) (sc := defScope (top 21)) (own := [("mark", 3)]) (by decide +kernel)) ⟨rfl, by decide +kernel, by decide +kernel⟩ (fun _ _ _ _ _ _ _ => pg_name (i := 3) sc21.nd rfl (Or.inl rfl))
        (fun _ _ _ _ _ _ _ hr' => pe_cal cN hr' rfl (pa_cons (pv 3) (pa_cons pe_int (pa_cons (pe_op op_sub (pv 1) pe_int) pa_nil))))))), ?_⟩
    refine ⟨_, rfl, _, _, _, _, rfl, .tup e, kit_tup_tup, true, rfl, iteF ?_⟩
    refine ⟨_, rfl, _, _, rfl, .inr (SqT.of e), _, _, rfl, rfl, _, rfl, iteD (by rw [List.length_map]; omega) ?_⟩
    refine ⟨_, rfl, _, _, rfl, rfl, _, rfl, iteNS (by rw [List.length_map]; exact g2) ?_⟩
    refine ⟨_, rfl, a, rfl, ⟨_, SqT.of e⟩, hT, fun H1 hT1 => ?_⟩
    have x1 : Ex [] H H1 := .tabbed hT hT1
    refine all_tup (xs := r.map V.int) (fun i H' => Ex [] H H') x1 (fun i H' _ x => SqT.of (x.tup _ _ e)) (fun i x H' hx p => ?_) (fun H' p => q H' p)
    obtain ⟨z, hz, _, rfl⟩ := row_at hx
    refine ⟨rfl, ?_⟩
    refine ⟨_, rfl, _, rfl, m, 1, rfl, rfl, z, 0, m - 1, rfl, _, rfl, ?_⟩
    obtain ⟨h1, h2⟩ := g3 z hz
    rw [decide_eq_true h1, decide_eq_true (show z ≤ m - 1 by omega)]
    exact iteT p
end
end K4
set_option Elab.async false
set_option linter.all false
set_option maxRecDepth 100000
set_option maxHeartbeats 2000000
namespace K4
open PySem PySem.Spec PyProof.Rows L2 GxR

/-! ### prefixes, suffixes of tuples -/
section
variable {X : Cx}
def rPre : V → Option Int → Option Int → Hp → VK → Prop := fun x lo hi H Q => ∃ (a : Addr) (xs : List V) (k : Nat), x = .ref a ∧ H a = some (.tup xs) ∧ lo = none ∧ hi = some (k : Int) ∧ ∀ b H', Ex [] H H' → H' b = some (.tup (xs.take k)) → Q (.ref b) H'
theorem sl_pre : SlR X rPre := by
  intro pins s σ H x v vl vu lo hi sl Q I rx hs pl pu h
  obtain ⟨a, xs, k, rfl, e, rfl, rfl, q⟩ := h
  refine sl_tupA pins s σ H _ v vl vu _ _ sl Q I rx hs pl pu ⟨a, xs, rfl, SqT.of e, fun hw => ?_, fun hw p hp => ?_⟩
  · refine q a H (Ex.refl _ _) ?_
    rw [e, List.take_of_length_le]
    obtain ⟨_, h2⟩ := hw
    rw [HT.sIx_nat] at h2
    omega
  · refine q p _ (Ex.new hp) ?_
    rw [upd_same]
    have e2 : cutV xs none (some (k : Int)) = xs.take k := by
      unfold cutV
      rw [HT.sIx_none, HT.sIx_nat]
      simp [List.take_eq_take_iff]
    rw [e2]
def rSuf : V → Option Int → Option Int → Hp → VK → Prop := fun x lo hi H Q => ∃ (a : Addr) (xs : List V) (k : Nat), x = .ref a ∧ H a = some (.tup xs) ∧ lo = some (k : Int) ∧ hi = none ∧ ∀ b H', Ex [] H H' → H' b = some (.tup (xs.drop k)) → Q (.ref b) H'
theorem sl_suf : SlR X rSuf := by
  intro pins s σ H x v vl vu lo hi sl Q I rx hs pl pu h
  obtain ⟨a, xs, k, rfl, e, rfl, rfl, q⟩ := h
  refine sl_tupA pins s σ H _ v vl vu _ _ sl Q I rx hs pl pu ⟨a, xs, rfl, SqT.of e, fun hw => ?_, fun hw p hp => ?_⟩
  · refine q a H (Ex.refl _ _) ?_
    obtain ⟨h2, _⟩ := hw
    rw [HT.sIx_nat] at h2
    have h3 : k = 0 ∨ xs.length = 0 := by omega
    rcases h3 with h3 | h3
    · subst h3
      exact e
    · have : xs = [] := List.length_eq_zero_iff.mp h3
      subst this
      simpa using e
  · refine q p _ (Ex.new hp) ?_
    rw [upd_same]
    have e2 : cutV xs (some (k : Int)) none = xs.drop k := by
      unfold cutV
      rw [HT.sIx_none, HT.sIx_nat]
      by_cases hk : k ≤ xs.length
      · rw [Nat.min_eq_left hk, List.take_of_length_le]
        rw [List.length_drop]
        omega
      · rw [Nat.min_eq_right (by omega), List.drop_of_length_le (Nat.le_refl _), List.drop_of_length_le (by omega)]
        simp
    rw [e2]
end

/-! ### len, items of what is tracked -/
section
variable {X : Cx}
def rLenH : List V → Hp → VK → Prop := fun xs H Q => ∃ p ys, xs = [.ref p] ∧ (H p = some (.lst ys) ∨ H p = some (.tup ys)) ∧ Q (.int ys.length) H
theorem call_lenH : CallR X (.builtin "len") rLenH := by
  intro pins s σ H xs us Q I r h
  obtain ⟨p, ys, rfl, e, q⟩ := h
  exact call_len_seq pins s σ H _ us Q I r ⟨p, ys, rfl, e.elim (fun e => .inl (SqL.of e)) (fun e => .inr (SqT.of e)), q⟩
def rIxTH : R2 := fun x y H Q => ∃ p xs i v, x = .ref p ∧ y = .int i ∧ H p = some (.tup xs) ∧ atI xs i = some v ∧ Q v H
theorem ix_tupH : IxR X rIxTH := by
  intro ev es pins s σ H x y v u Q I rx ry h hs
  obtain ⟨p, xs, i, z, rfl, rfl, e, a, q⟩ := h
  exact ix_tup ev es pins s σ H _ _ v u Q I rx ry ⟨p, xs, i, z, rfl, rfl, SqT.of e, a, q⟩ hs
def rIxLH : R2 := fun x y H Q => ∃ p xs i v, x = .ref p ∧ y = .int i ∧ H p = some (.lst xs) ∧ atI xs i = some v ∧ Q v H
theorem ix_lstH : IxR X rIxLH := by
  intro ev es pins s σ H x y v u Q I rx ry h hs
  obtain ⟨p, xs, i, z, rfl, rfl, e, a, q⟩ := h
  exact ix_list ev es pins s σ H _ _ v u Q I rx ry ⟨p, xs, i, z, rfl, rfl, SqL.of e, a, q⟩ hs
end

theorem lcY {σ : L2.St} {H : Hp} {A B : Hp → Prop} (h : A H) : tYes σ H fun b H3 => if b = true then A H3 else B H3 := by
  show (if true = true then A H else B H)
  exact iteT h

/-! ### loops over range(n) -/
theorem for_rng {n : Nat} {g : TG} {tb : TS} {D : Ends} {σ : L2.St} {H : Hp} (Pv : Nat → L2.St → Hp → Prop) (h0 : Pv 0 σ H)
    (hs : ∀ i σ H, i < n → Pv i σ H → g (.int (i : Nat)) σ H fun σ2 H2 => tb { D with nx := Pv (i + 1), ct := Pv (i + 1), bk := D.nx } σ2 H2) (hd : ∀ σ H, Pv n σ H → D.nx σ H) :
    ∃ W : Nat → Nat → L2.St → Hp → Prop, (∃ m, W 0 m σ H) ∧ ∀ i m σ H, W i m σ H →
      ((Itr 0 n).stop i H ∧ D.nx σ H) ∨ ((Itr 0 n).go i H ∧ ∃ N : L2.St → Hp → Prop, (∀ σ' H', N σ' H' → ∃ m', m' < m ∧ W (i + 1) m' σ' H') ∧ ∀ x H', (Itr 0 n).yld i H x H' → g x σ H' fun σ2 H2 => tb { D with nx := N, ct := N, bk := D.nx } σ2 H2) :=
  for_range (lo := 0) (n := n) Pv h0 (fun i σ H h p => by rw [Int.zero_add]; exact hs i σ H h p) hd
theorem lc_rng {n : Nat} {g : TG} {tt : TT} {te : TE} {vs : List Nat} {σ : L2.St} {H1 : Hp} {D : Addr} {Qd : Hp → Prop} (Pv : Nat → Hp → Prop) (h0 : Pv 0 (upd H1 D (.lst [])))
    (hs : ∀ i H, i < n → Pv i H → g (.int (i : Nat)) (wipe σ vs) H fun σ2 H2 => wipe σ2 vs = wipe σ vs ∧ tt σ2 H2 fun b H3 =>
      if b = true then te σ2 H3 fun y H4 => ∃ acc, H4 D = some (.lst acc) ∧ acc.length < sizeLine ∧ Pv (i + 1) (upd H4 D (.lst (acc ++ [y]))) else Pv (i + 1) H3) (hd : ∀ H, Pv n H → Qd H) :
    ∃ W : Nat → Nat → Hp → Prop, (∃ m, W 0 m (upd H1 D (.lst []))) ∧ ∀ i m H, W i m H →
      ((Itr 0 n).stop i H ∧ Qd H) ∨ ((Itr 0 n).go i H ∧ ∃ Nx : Hp → Prop, (∀ H', Nx H' → ∃ m', m' < m ∧ W (i + 1) m' H') ∧ ∀ x H', (Itr 0 n).yld i H x H' → g x (wipe σ vs) H' fun σ2 H2 => wipe σ2 vs = wipe σ vs ∧ tt σ2 H2 fun b H3 =>
        if b = true then te σ2 H3 fun y H4 => ∃ acc, H4 D = some (.lst acc) ∧ acc.length < sizeLine ∧ Nx (upd H4 D (.lst (acc ++ [y]))) else Nx H3) :=
  lc_range (lo := 0) (n := n) Pv h0 (fun i H h p => by rw [Int.zero_add]; exact hs i H h p) hd

/-! ### the mathematics of clashes -/
def Beg (x y : List Int) : Prop := y.take x.length = x
instance (x y : List Int) : Decidable (Beg x y) := inferInstanceAs (Decidable (y.take x.length = x))
/-- i, j are a clash -/
def Cl (rs : List (List Int)) (i j : Nat) : Prop := i ≠ j ∧ ∃ x y, rs[i]? = some x ∧ rs[j]? = some y ∧ Beg x y
def IsFC (rs : List (List Int)) : Option (Nat × Nat) → Prop
  | none => ∀ i j, ¬ Cl rs i j
  | some (i, j) => Cl rs i j ∧ ∀ i' j', (i' < i ∨ (i' = i ∧ j' < j)) → ¬ Cl rs i' j'
theorem IsFC.inj {rs : List (List Int)} {o o' : Option (Nat × Nat)} (a : IsFC rs o) (b : IsFC rs o') : o = o' := by
  cases o with
  | none =>
    cases o' with
    | none => rfl
    | some p => exact absurd b.1 (a _ _)
  | some p =>
    obtain ⟨i, j⟩ := p
    cases o' with
    | none => exact absurd a.1 (b _ _)
    | some q =>
      obtain ⟨k, l⟩ := q
      have h1 : ¬ (k < i ∨ (k = i ∧ l < j)) := fun z => a.2 k l z b.1
      have h2 : ¬ (i < k ∨ (i = k ∧ j < l)) := fun z => b.2 i j z a.1
      have e1 : i = k := by omega
      have e2 : j = l := by omega
      rw [e1, e2]
theorem IsFC.none_iff {rs : List (List Int)} {o : Option (Nat × Nat)} (a : IsFC rs o) : o = none ↔ ∀ i j, ¬ Cl rs i j := by
  cases o with
  | none => exact ⟨fun _ => a, fun _ => rfl⟩
  | some p => exact ⟨fun z => (by cases z), fun z => absurd a.1 (z _ _)⟩
/-- how it stands -/
def ClashV (H : Hp) (v : V) : Option (Nat × Nat) → Prop
  | none => v = .non
  | some (i, j) => ∃ a, v = .ref a ∧ H a = some (.tup [.int (i : Nat), .int (j : Nat)])

section
variable {P : Program} {w : World} {K : PySem.W.Frag} {mg : Str → Option Value} {base : Heap}

/-! ### begins -/
theorem sc24 : FnScope ["one", "other"] ["one", "other"] (defScope (top 24)) := ⟨rfl, rfl, rfl, by decide +kernel, rfl, by decide +kernel, by decide +kernel⟩
def spBeg : Sp := fun vs H Q _ => ∃ (u v : V) (x y : List Int), vs = [u, v] ∧ Row H u x ∧ Row H v y ∧ ∀ H', Ex [] H H' → Q (.bl (decide (Beg x y))) H'
theorem ok24 {f : Addr} {fd : FuncData} (F : FnP K "begins" 24 [] f fd) (T : Txt mg) : FnOk P w K mg base CX0 1 f fd ["one", "other"] spBeg := by
  refine okD F sc24 (fun vs H Q E h => ?_) (fun cdv A outer s H vs Q E hcd hr h => ?_)
  · obtain ⟨u, v, x, y, rfl, _⟩ := h
    rfl
  · obtain ⟨u, v, x, y, rfl, ⟨a, rfl, ea⟩, ⟨b, rfl, eb⟩, q⟩ := h
    refine ⟨_, pss_one (ps_ret (pe_cmpR (op_eqRow hr) (pe_slice sl_pre (pv 1) po_none (po_some (pe_callB call_len_seq rfl T.len_ boot_len (pa_cons (pv 0) pa_nil)))) (pv 0) (nomark _))), ?_⟩
    refine ⟨_, rfl, _, rfl, _, _, rfl, .inr (SqT.of ea), _, rfl, b, y.map V.int, x.length, rfl, eb, rfl, by rw [List.length_map], fun c H1 x1 e1 => ?_⟩
    refine ⟨_, rfl, y.take x.length, x, ⟨c, rfl, by rw [e1, List.map_take]⟩, ⟨a, rfl, x1.tup _ _ ea⟩, q H1 x1⟩

/-! ### first_clash -/
theorem sc25 : FnScope ["rows", "one", "other"] ["rows"] (defScope (top 25)) := ⟨rfl, rfl, rfl, by decide +kernel, rfl, by decide +kernel, by decide +kernel⟩
def spClash : Sp := fun vs H Q _ => ∃ (v : V) (rs : List (List Int)), vs = [v] ∧ Rows H v rs ∧ rs.length ≤ 1000 ∧ ∀ o u H', Ex [] H H' → IsFC rs o → ClashV H' u o → Q u H'
theorem small62 {n : Nat} (h : n ≤ 1000) : -(2 ^ 62) ≤ (n : Int) ∧ (n : Int) < 2 ^ 62 := by omega
theorem ok25 {f : Addr} {fd : FuncData} (F : FnP K "first_clash" 25 [] f fd) (T : Txt mg) (cB : Cal P w K mg base 1 "begins" ["one", "other"] [] spBeg) : FnOk P w K mg base CX0 2 f fd ["rows"] spClash := by
  refine okD F sc25 (fun vs H Q E h => ?_) (fun cdv A outer s H vs Q E hcd hr h => ?_)
  · obtain ⟨v, rs, rfl, _⟩ := h
    rfl
  · obtain ⟨v, rs, rfl, hR, hlen, q⟩ := h
    obtain ⟨a, vs, rfl, ea, pr⟩ := id hR
    have hl : vs.length = rs.length := pr.length
    obtain ⟨b1, b2⟩ := small62 (n := vs.length) (by omega)
    have hN : (vs.length : Int).toNat = rs.length := by omega
    refine ⟨_, pss_cons (ps_for PassesOwn.never rfl (pi_range1 (by rfl) T.range_ (pa_cons (pe_callB call_len_seq rfl T.len_ boot_len (pa_cons (pv 0) pa_nil)) pa_nil)) (pg_name (i := 1) sc25.nd rfl (.inl rfl))
        (pss_one (ps_for PassesOwn.never rfl (pi_range1 (by rfl) T.range_ (pa_cons (pe_callB call_len_seq rfl T.len_ boot_len (pa_cons (pv 0) pa_nil)) pa_nil)) (pg_name (i := 2) sc25.nd rfl (.inl rfl))
          (pss_one (ps_if (PW.pt (pw_and (pt_cmpR op_ne (pv 1) (pv 2) (nomark _)) (pw_and1 (pt_val (pe_cal cB hr rfl (pa_cons (pe_ix ix_tup (pv 0) (pv 1) (fun _ _ => rfl)) (pa_cons (pe_ix ix_tup (pv 0) (pv 2) (fun _ _ => rfl)) pa_nil)))))))
            (pss_one (ps_ret (pe_tup (pa_cons (pv 1) (pa_cons (pv 2) pa_nil))))) pss_nil)))))
      (pss_one (ps_ret pe_non)), ?_⟩
    refine ⟨_, rfl, _, _, rfl, .inr (SqT.of ea), _, rfl, b1, b2, ?_⟩
    rw [hN]
    refine for_rng (fun i σ H1 => ∃ y1 y2, σ = [some (.ref a), y1, y2] ∧ Ex [] H H1 ∧ ∀ i' j', i' < i → ¬ Cl rs i' j') ⟨none, none, rfl, Ex.refl _ _, fun i' j' h => absurd h (by omega)⟩ ?_ ?_
    · rintro i σ H1 hi ⟨y1, y2, rfl, x1, no⟩
      have ea1 := x1.tup _ _ ea
      refine ⟨_, rfl, _, _, rfl, .inr (SqT.of ea1), _, rfl, b1, b2, ?_⟩
      rw [hN]
      refine for_rng (fun j σ H2 => ∃ y2, σ = [some (.ref a), some (.int (i : Nat)), y2] ∧ Ex [] H H2 ∧ ∀ j', j' < j → ¬ Cl rs i j') ⟨y2, rfl, x1, fun j' h => absurd h (by omega)⟩ ?_ ?_
      · rintro j σ H2 hj ⟨y2, rfl, x2, noj⟩
        have ea2 := x2.tup _ _ ea
        have R2 : Rows H2 (.ref a) rs := hR.ex x2
        have pr2 : Paired (Row H2) vs rs := L2.Paired.mapP pr fun _ _ => Row.ex x2
        have next : ¬ Cl rs i j → ∃ y2', ([some (.ref a), some (.int (i : Nat)), some (.int (j : Nat))] : L2.St) = [some (.ref a), some (.int (i : Nat)), y2'] ∧ Ex [] H H2 ∧ ∀ j', j' < j + 1 → ¬ Cl rs i j' := fun hn => ⟨_, rfl, x2, fun j' h => by
          by_cases e : j' = j
          · rw [e]; exact hn
          · exact noj j' (by omega)⟩
        refine ⟨_, rfl, _, rfl, rfl, _, rfl, ite2 (fun e => ?_) (fun e => ?_)⟩
        · have hij : i ≠ j := fun z => by
            rw [z] at e
            simp at e
          obtain ⟨ui, hui, hi'⟩ := paired_get pr2 (List.getElem?_eq_getElem hi)
          obtain ⟨uj, huj, hj'⟩ := paired_get pr2 (List.getElem?_eq_getElem hj)
          refine ⟨_, rfl, _, rfl, a, vs, (i : Int), ui, rfl, rfl, SqT.of ea2, atI_nat hui, _, rfl, _, rfl, a, vs, (j : Int), uj, rfl, rfl, SqT.of ea2, atI_nat huj, ui, uj, _, _, rfl, hi', hj', fun H3 x3 => ⟨_, rfl, ite2 (fun e2 => ?_) (fun e2 => ?_)⟩⟩
          · have hb := of_decide_eq_true e2
            refine ⟨_, rfl, _, rfl, (by show 2 ≤ sizeLine; decide), fun p hp => ?_⟩
            refine q (some (i, j)) _ _ ((x2.trans x3).upd_new ((x2.trans x3).there _ hp)) ⟨⟨hij, _, _, List.getElem?_eq_getElem hi, List.getElem?_eq_getElem hj, hb⟩, fun i' j' h => ?_⟩ ⟨p, rfl, upd_same⟩
            rcases h with h | ⟨rfl, h⟩
            · exact no i' j' h
            · exact noj j' h
          · have hb : ¬ Beg rs[i] rs[j] := fun z => e2 (decide_eq_true z)
            have hn : ¬ Cl rs i j := by
              rintro ⟨_, x, y, h1, h2, h3⟩
              rw [List.getElem?_eq_getElem hi] at h1
              rw [List.getElem?_eq_getElem hj] at h2
              rw [← Option.some.inj h1, ← Option.some.inj h2] at h3
              exact hb h3
            obtain ⟨y2', e1, e2, e3⟩ := next hn
            exact ⟨_, e1, e2.trans x3, e3⟩
        · have hij : i = j := by
            by_cases z : i = j
            · exact z
            · exact absurd (by
                have : ¬ (V.int (i : Int) = V.int (j : Int)) := fun q => z (by injection q with q; omega)
                rw [decide_eq_false this] <;> rfl) e
          exact next fun h => h.1 hij
      · rintro σ H2 ⟨y2, rfl, x2, noj⟩
        refine ⟨_, y2, rfl, x2, fun i' j' h => ?_⟩
        by_cases e : i' = i
        · subst e
          by_cases hj : j' < rs.length
          · exact noj j' hj
          · rintro ⟨_, x, y, h1, h2, h3⟩
            rw [List.getElem?_eq_none (by omega)] at h2
            cases h2
        · exact no i' j' (by omega)
    · rintro σ H1 ⟨y1, y2, rfl, x1, no⟩
      refine q none _ _ x1 (fun i j => ?_) rfl
      by_cases hi : i < rs.length
      · exact no i j hi
      · rintro ⟨_, x, y, h1, h2, h3⟩
        rw [List.getElem?_eq_none (by omega)] at h1
        cases h1
end
end K4
set_option Elab.async false
set_option linter.all false
set_option maxRecDepth 100000
set_option maxHeartbeats 2000000
namespace K4
open PySem PySem.Spec PyProof.Rows L2 GxR

/-- the tables of the five defs that hold a generator expression -/
structure Tab5 where
  t12 : Addr
  t14 : Addr
  t21 : Addr
  t22 : Addr
  t28 : Addr
structure TbOk (B : Tab5) (H : Hp) : Prop where
  h12 : TabG H B.t12
  h14 : TabG H B.t14
  h21 : TabG H B.t21
  h22 : TabG H B.t22
  h28 : TabG H B.t28
theorem TbOk.ex {B : Tab5} {bad : List Addr} {H H' : Hp} (t : TbOk B H) (a : Ex bad H H') : TbOk B H' :=
  ⟨a.tab _ t.h12, a.tab _ t.h14, a.tab _ t.h21, a.tab _ t.h22, a.tab _ t.h28⟩

section
variable {P : Program} {w : World} {K : PySem.W.Frag} {mg : Str → Option Value} {base : Heap}

/-! ### need_rows -/
abbrev n28 : List Str := ["value", "marks", "row"]
theorem sc28 : FnScope n28 ["value", "marks"] (defScope (top 28)) := ⟨rfl, rfl, rfl, by decide +kernel, rfl, by decide +kernel, by decide +kernel⟩
def spNeedRows (B : Tab5) : Sp := fun vs H Q _ => ∃ (v : V) (m : Int) (rs : List (List Int)), vs = [v, .int m] ∧ Rows H v rs ∧ TbOk B H ∧ rs.length ≤ 40 ∧ (∀ r ∈ rs, GoodRow m 8 r) ∧ ∀ H', Ex [] H H' → Q .non H'
theorem ok28 {f : Addr} {fd : FuncData} {c : Addr} {B : Tab5} (F : FnP K "need_rows" 28 [.int 4] f fd) (T : Txt mg) (TB : TabB base mg c B.t28) (hc : fd.code = .ref c) (cR : Cal P w K mg base 3 "is_row" ["value", "marks", "most"] [.int 8] (spIsRow B.t21)) :
    FnOk P w K mg base CX0 5 f fd ["value", "marks"] (spNeedRows B) := by
  refine okD F sc28 (fun vs H Q E h => ?_) (fun cdv A outer s H vs Q E hcd hr h => ?_)
  · obtain ⟨v, m, rs, rfl, _⟩ := h
    rfl
  · obtain rfl : cdv = .ref c := hcd.symm.trans hc
    obtain ⟨v, m, rs, rfl, hR, tb, hlen, good, q⟩ := h
    obtain ⟨a, vs, rfl, ea, pr⟩ := id hR
    have hl : vs.length = rs.length := pr.length
    refine ⟨_, pss_one (ps_if (PW.pt (pw_or (pt_not (pt_val (pe_isi bt_tuple T.isi T.tuple_ (pv 0)))) (pw_or (pt_cmpR op_gt (pe_callB call_len_seq rfl T.len_ boot_len (pa_cons (pv 0) pa_nil)) (pe_num T.rows) (nomark _))
      (pw_or1 (pt_not (pt_val (pe_allG (k := 3) hr rfl sc28.nd rfl T.all_ TB rfl (pi_tup (pv 0)) (blkOk_by (N := n28) (sc := defScope (top 28)) (own := [("row", 2)]) (by decide +kernel)) ⟨rfl, by decide +kernel, by decide +kernel⟩ (fun _ _ _ _ _ _ _ => pg_name (i := 2) sc28.nd rfl (Or.inl rfl))
        (fun _ _ _ _ _ _ _ hr' => pe_cal cR hr' rfl (pa_cons (pv 2) (pa_cons (pv 1) pa_nil)))))))))) (pss_one ps_never) pss_nil), ?_⟩
    refine ⟨_, rfl, _, _, _, _, rfl, .tup ea, kit_tup_tup, true, rfl, iteF ?_⟩
    refine ⟨_, rfl, _, _, rfl, .inr (SqT.of ea), _, _, rfl, rfl, _, rfl, iteDn (by omega) ?_⟩
    refine ⟨_, rfl, a, rfl, ⟨_, SqT.of ea⟩, tb.h28, fun H1 hT1 => ?_⟩
    have x1 : Ex [] H H1 := .tabbed tb.h28 hT1
    refine all_tup (xs := vs) (fun i H' => Ex [] H H') x1 (fun i H' _ x => SqT.of (x.tup _ _ ea)) (fun i x H' hx p => ?_) (fun H' p => ⟨_, rfl, iteF (q H' p)⟩)
    refine ⟨rfl, ?_⟩
    obtain ⟨r, hr1, hr2⟩ := paired_getL pr hx
    refine ⟨_, rfl, _, rfl, x, m, 8, r, rfl, hr2.ex p, p.tab _ tb.h21, good r (List.mem_of_getElem? hr1), fun H2 x2 => ⟨true, rfl, iteT (p.trans x2)⟩⟩

/-! ### clash_of -/
theorem sc29 : FnScope ["rows"] ["rows"] (defScope (top 29)) := ⟨rfl, rfl, rfl, by decide +kernel, rfl, by decide +kernel, by decide +kernel⟩
def spClashOf (B : Tab5) : Sp := fun vs H Q _ => ∃ (v : V) (rs : List (List Int)), vs = [v] ∧ Rows H v rs ∧ TbOk B H ∧ rs.length ≤ 40 ∧ (∀ r ∈ rs, GoodRow 4 8 r) ∧ ∀ o u H', Ex [] H H' → IsFC rs o → ClashV H' u o → Q u H'
theorem ok29 {f : Addr} {fd : FuncData} {B : Tab5} (F : FnP K "clash_of" 29 [] f fd) (c1 : Cal P w K mg base 5 "need_rows" ["value", "marks"] [.int 4] (spNeedRows B)) (c2 : Cal P w K mg base 2 "first_clash" ["rows"] [] spClash) :
    FnOk P w K mg base CX0 6 f fd ["rows"] (spClashOf B) := by
  refine okD F sc29 (fun vs H Q E h => ?_) (fun cdv A outer s H vs Q E hcd hr h => ?_)
  · obtain ⟨v, rs, rfl, _⟩ := h
    rfl
  · obtain ⟨v, rs, rfl, hR, tb, hlen, good, q⟩ := h
    refine ⟨_, pss_cons (ps_expr (pe_cal c1 hr rfl (pa_cons (pv 0) pa_nil))) (pss_one (ps_ret (pe_cal c2 (hr.mono (by decide)) rfl (pa_cons (pv 0) pa_nil)))), ?_⟩
    refine ⟨_, rfl, v, 4, rs, rfl, hR, tb, hlen, good, fun H1 x1 => ?_⟩
    refine ⟨_, rfl, v, rs, rfl, hR.ex x1, by omega, fun o u H2 x2 hf hv => ?_⟩
    exact q o u H2 (x1.trans x2) hf hv

/-! ### power -/
theorem sc33 : FnScope ["number", "times", "found", "_"] ["number", "times"] (defScope (top 33)) := ⟨rfl, rfl, rfl, by decide +kernel, rfl, by decide +kernel, by decide +kernel⟩
def spPower : Sp := fun vs H Q _ => ∃ (m t : Nat), vs = [.int (m : Int), .int (t : Int)] ∧ m ≤ 4 ∧ t ≤ 1000 ∧ Q (.int ((m ^ t : Nat) : Int)) H
theorem ok33 {f : Addr} {fd : FuncData} (F : FnP K "power" 33 [] f fd) (T : Txt mg) : FnOk P w K mg base CX0 1 f fd ["number", "times"] spPower := by
  refine okD F sc33 (fun vs H Q E h => ?_) (fun cdv A outer s H vs Q E hcd hr h => ?_)
  · obtain ⟨m, t, rfl, _⟩ := h
    rfl
  · obtain ⟨m, t, rfl, hm, ht, q⟩ := h
    obtain ⟨b1, b2⟩ := small62 ht
    refine ⟨_, pss_cons (ps_set (i := 2) sc33.nd rfl (.inl rfl) pe_int)
      (pss_cons (ps_for PassesOwn.never rfl (pi_range1 (by rfl) T.range_ (pa_cons (pv 1) pa_nil)) (pg_name (i := 3) sc33.nd rfl (.inl rfl)) (pss_one (ps_aug (i := 2) sc33.nd rfl (.inl rfl) (pv 0) iop_mul)))
      (pss_one (ps_ret (pv 2)))), ?_⟩
    refine ⟨_, rfl, _, rfl, b1, b2, ?_⟩
    rw [Int.toNat_natCast]
    refine for_rng (fun i σ H1 => ∃ y3, σ = [some (.int (m : Int)), some (.int (t : Int)), some (.int ((m ^ i : Nat) : Int)), y3] ∧ H1 = H) ⟨none, rfl, rfl⟩ ?_ ?_
    · rintro i σ H1 hi ⟨y3, rfl, rfl⟩
      refine ⟨_, rfl, _, rfl, _, _, rfl, rfl, .inr ⟨by omega, by omega⟩, ?_⟩
      refine ⟨some (.int (i : Int)), ?_, rfl⟩
      rw [Nat.pow_succ, Int.natCast_mul]
      rfl
    · rintro σ H1 ⟨y3, rfl, rfl⟩
      exact ⟨_, rfl, q⟩

/-! ### common -/
theorem sc32 : FnScope ["one", "other"] ["one", "other"] (defScope (top 32)) := ⟨rfl, rfl, rfl, by decide +kernel, rfl, by decide +kernel, by decide +kernel⟩
def spCommon : Sp := fun vs H Q _ => ∃ (a b : Nat), vs = [.int (a : Int), .int (b : Int)] ∧ Q (.int (Nat.gcd a b : Int)) H
theorem ok32 {f : Addr} {fd : FuncData} (F : FnP K "common" 32 [] f fd) : FnOk P w K mg base CX0 1 f fd ["one", "other"] spCommon := by
  refine okD F sc32 (fun vs H Q E h => ?_) (fun cdv A outer s H vs Q E hcd hr h => ?_)
  · obtain ⟨a, b, rfl, _⟩ := h
    rfl
  · obtain ⟨a, b, rfl, q⟩ := h
    refine ⟨_, pss_cons (ps_while PassesOwn.never (pt_truth (pv 1) (fun _ => rfl)) (pss_one (ps_par (i := 0) (j := 1) rfl sc32.nd rfl rfl (by decide) rfl rfl (pa_cons (pv 1) (pa_cons (pe_op op_mod (pv 0) (pv 1)) pa_nil)) (by rfl))))
      (pss_one (ps_ret (pv 0))), ?_⟩
    refine ⟨fun m σ H1 => ∃ x y : Nat, σ = [some (.int (x : Int)), some (.int (y : Int))] ∧ m = y ∧ Nat.gcd x y = Nat.gcd a b ∧ H1 = H, ⟨b, a, b, rfl, rfl, rfl, rfl⟩, ?_⟩
    rintro m σ H1 ⟨x, y, rfl, rfl, hg, rfl⟩
    refine ⟨_, rfl, _, rfl, ?_⟩
    by_cases hy : m = 0
    · subst hy
      refine iteF ⟨_, rfl, ?_⟩
      rw [Nat.gcd_zero_right] at hg
      rw [hg]
      exact q
    · have hb : ((m : Int) != 0) = true := by
        rw [bne_iff_ne]
        omega
      rw [hb]
      refine iteT ⟨fun σ' H' => ∃ x y : Nat, σ' = [some (.int (x : Int)), some (.int (y : Int))] ∧ y < m ∧ Nat.gcd x y = Nat.gcd a b ∧ H' = H1, fun σ' H' ⟨x', y', e1, e2, e3, e4⟩ => ⟨y', e2, x', y', e1, rfl, e3, e4⟩, ?_⟩
      refine ⟨_, rfl, _, rfl, _, rfl, _, _, rfl, rfl, (by omega), _, _, rfl, m, x % m, ?_, Nat.mod_lt _ (by omega), ?_, rfl⟩
      · rw [Int.natCast_emod]
        rfl
      · rw [← hg, Nat.gcd_comm m, ← Nat.gcd_rec, Nat.gcd_comm]
end
end K4
set_option Elab.async false
set_option linter.all false
set_option maxRecDepth 100000
set_option maxHeartbeats 2000000
namespace K4
open PySem PySem.Spec PyProof.Rows L2 GxR

/-! ### shares -/
/-- the sum of the shares, times M ^ n -/
def above (M n : Nat) (rs : List (List Int)) : Nat := (rs.map fun r => M ^ (n - r.length)).sum
theorem sum_cast (f : List Int → Nat) : ∀ rs : List (List Int), (rs.map fun r => ((f r : Nat) : Int)).sum = (((rs.map f).sum : Nat) : Int)
  | [] => rfl
  | r :: rs => by
    have h := sum_cast f rs
    rw [List.map_cons, List.sum_cons, List.map_cons, List.sum_cons, h]
    omega
theorem take_snoc {α : Type} {l : List α} {i : Nat} {x : α} (h : l[i]? = some x) : l.take (i + 1) = l.take i ++ [x] := by
  rw [List.take_add_one, h]
  rfl
theorem p48 {M : Nat} (h1 : 1 ≤ M) (h4 : M ≤ 4) : 0 < M ^ 8 ∧ M ^ 8 ≤ 65536 := by
  constructor
  · exact Nat.pow_pos h1
  · calc M ^ 8 ≤ 4 ^ 8 := Nat.pow_le_pow_left h4 8
      _ = 65536 := by decide
theorem gcd_small {M A : Nat} (h1 : 1 ≤ M) (h4 : M ≤ 4) : 0 < Nat.gcd A (M ^ 8) ∧ Nat.gcd A (M ^ 8) < 1073741824 := by
  obtain ⟨a, b⟩ := p48 h1 h4
  have h := Nat.gcd_le_right A a
  exact ⟨Nat.gcd_pos_of_pos_right A a, by omega⟩

section
variable {P : Program} {w : World} {K : PySem.W.Frag} {mg : Str → Option Value} {base : Heap}
abbrev n34 : List Str := ["marks", "rows", "beneath", "above", "shared", "row"]
theorem sc34 : FnScope n34 ["marks", "rows"] (defScope (top 34)) := ⟨rfl, rfl, rfl, by decide +kernel, rfl, by decide +kernel, by decide +kernel⟩
def spShare (B : Tab5) : Sp := fun vs H Q _ => ∃ (M : Nat) (v : V) (rs : List (List Int)), vs = [.int (M : Int), v] ∧ 1 ≤ M ∧ M ≤ 4 ∧ Rows H v rs ∧ TbOk B H ∧ rs.length ≤ 40 ∧ (∀ r ∈ rs, GoodRow (M : Int) 8 r) ∧
  ∀ p H', Ex [] H H' → H' p = some (.tup [.int ((above M 8 rs / Nat.gcd (above M 8 rs) (M ^ 8) : Nat) : Int), .int ((M ^ 8 / Nat.gcd (above M 8 rs) (M ^ 8) : Nat) : Int)]) → Q (.ref p) H'
theorem ok34 {f : Addr} {fd : FuncData} {B : Tab5} (F : FnP K "share" 34 [] f fd) (T : Txt mg) (c20 : Cal P w K mg base 2 "need_marks" ["value"] [] spMarks) (c28 : Cal P w K mg base 5 "need_rows" ["value", "marks"] [] (spNeedRows B))
    (c33 : Cal P w K mg base 1 "power" ["number", "times"] [] spPower) (c32 : Cal P w K mg base 1 "common" ["one", "other"] [] spCommon) : FnOk P w K mg base CX0 6 f fd ["marks", "rows"] (spShare B) := by
  refine okD F sc34 (fun vs H Q E h => ?_) (fun cdv A outer s H vs Q E hcd hr h => ?_)
  · obtain ⟨M, v, rs, rfl, _⟩ := h
    rfl
  · obtain ⟨M, v, rs, rfl, m1, m4, hR, tb, hlen, good, q⟩ := h
    obtain ⟨a, vs, rfl, ea, pr⟩ := id hR
    have hl : vs.length = rs.length := pr.length
    have hr1 : Room 1 (A.deeper (envOfC "share" (defScope (top 34)) s.heap.objs.size f cdv)) := hr.mono (by decide)
    refine ⟨_, pss_cons (ps_expr (pe_cal c20 (hr.mono (by decide)) rfl (pa_cons (pv 0) pa_nil)))
      (pss_cons (ps_expr (pe_cal c28 hr rfl (pa_cons (pv 1) (pa_cons (pv 0) pa_nil))))
      (pss_cons (ps_set (i := 2) sc34.nd rfl (.inl rfl) (pe_cal c33 hr1 rfl (pa_cons (pv 0) (pa_cons (pe_num T.row) pa_nil))))
      (pss_cons (ps_set (i := 3) sc34.nd rfl (.inl rfl) (pe_callB (cr_sum rfl) rfl T.sum_ boot_sum (pa_cons (pe_lc (own := [("row", 5)]) (g := gName 5) (tt := tYes) rfl sc34.nd (pi_tup (pv 1)) (blkOk_by (N := n34) (sc := defScope (top 34)) (by decide +kernel)) (fun _ _ _ _ _ => pg_name (i := 5) sc34.nd rfl (Or.inl rfl)) (fun _ _ _ _ _ => pts_nil)
        (fun _ _ _ _ _ => pe_cal c33 hr1 rfl (pa_cons (pv 0) (pa_cons (pe_op op_sub (pe_num T.row) (pe_callB call_lenH rfl T.len_ boot_len (pa_cons (pv 5) pa_nil))) pa_nil)))) pa_nil)))
      (pss_cons (ps_set (i := 4) sc34.nd rfl (.inl rfl) (pe_cal c32 hr1 rfl (pa_cons (pv 3) (pa_cons (pv 2) pa_nil))))
      (pss_one (ps_ret (pe_tup (pa_cons (pe_op op_fdiv (pv 3) (pv 4)) (pa_cons (pe_op op_fdiv (pv 2) (pv 4)) pa_nil))))))))), ?_⟩
    refine ⟨_, rfl, (M : Int), rfl, by omega, by omega, ?_⟩
    refine ⟨_, rfl, _, rfl, .ref a, (M : Int), rs, rfl, hR, tb, hlen, good, fun H1 x1 => ?_⟩
    refine ⟨_, rfl, M, 8, rfl, m4, by decide, ?_⟩
    have ea1 := x1.tup _ _ ea
    have pr1 : Paired (Row H1) vs rs := L2.Paired.mapP pr fun _ _ => Row.ex x1
    refine ⟨_, rfl, a, rfl, ⟨_, SqT.of ea1⟩, fun D hD => ?_⟩
    refine lc_tup (K := K) (a := a) (xs := vs) (fun i H2 => Ex [] H1 H2 ∧ H2 D = some (.lst (((rs.take i).map fun r => ((M ^ (8 - r.length) : Nat) : Int)).map V.int))) ⟨Ex.new hD, upd_same⟩ (fun i H2 _ p => SqT.of (p.1.tup _ _ ea1)) ?_ ?_
    · rintro i x H2 hx ⟨x2, e2⟩
      obtain ⟨r, hr1', b, rfl, eb⟩ := paired_getL pr1 hx
      have g := good r (List.mem_of_getElem? hr1')
      have eb2 := x2.tup _ _ eb
      have hz : (rs.take i).length ≤ 40 := by
        rw [List.length_take]
        omega
      refine ⟨rfl, lcY ⟨_, rfl, _, rfl, _, _, rfl, .inr eb2, _, _, rfl, rfl, M, 8 - r.length, ?_, m4, by omega, _, e2, ?_, x2.upd_new hD, ?_⟩⟩
      · have h8 := g.2.1
        have e : (8 : Int) - ((r.map V.int).length : Int) = ((8 - r.length : Nat) : Int) := by
          rw [List.length_map]
          omega
        show [V.int (M : Int), V.int ((8 : Int) - ((r.map V.int).length : Int))] = _
        rw [e]
      · rw [List.length_map, List.length_map]
        exact small1000 (by omega)
      · rw [upd_same, take_snoc hr1', List.map_append, List.map_append]
        rfl
    · rintro H2 ⟨x2, e2⟩
      have hfull : rs.take vs.length = rs := List.take_of_length_le (by omega)
      rw [hfull] at e2
      refine ⟨D, _, rfl, SqL.of e2, ?_⟩
      rw [sum_cast]
      show tSeq _ _ _ _ _
      refine ⟨_, rfl, _, rfl, above M 8 rs, M ^ 8, rfl, ?_⟩
      obtain ⟨g1, g2⟩ := gcd_small (A := above M 8 rs) m1 m4
      refine ⟨_, rfl, _, rfl, _, _, rfl, rfl, ⟨by omega, by omega⟩, _, rfl, _, rfl, _, _, rfl, rfl, ⟨by omega, by omega⟩, (by show 2 ≤ sizeLine; decide), fun p hp => ?_⟩
      refine q p _ ((x1.trans x2).upd_new ((x1.trans x2).there _ hp)) ?_
      rw [upd_same, Int.natCast_ediv, Int.natCast_ediv]
      rfl
end
end K4
set_option Elab.async false
set_option linter.all false
set_option maxRecDepth 100000
set_option maxHeartbeats 2000000
namespace K4
open PySem PySem.Spec PyProof.Rows L2 GxR

/-! ### t + u -/
section
variable {X : Cx}
def rCatN : R2 := fun x y H Q => ∃ (a b : Addr) (xs ys : List V), x = .ref a ∧ y = .ref b ∧ H a = some (.tup xs) ∧ H b = some (.tup ys) ∧ xs.length + ys.length ≤ 100000 ∧ ∀ c H', Ex [] H H' → H' c = some (.tup (xs ++ ys)) → Q (.ref c) H'
theorem op_catN : OpR X (binaryOp .Add) rCatN := by
  intro pins s σ H x y v u Q I rx ry h
  obtain ⟨a, b, xs, ys, rfl, rfl, ha, hb, hz, q⟩ := h
  refine op_catA pins s σ H _ _ v u Q I rx ry ⟨a, b, xs, ys, rfl, rfl, SqT.of ha, SqT.of hb, ?_, fun e => ?_, fun _ e => ?_, fun _ _ p hp => ?_⟩
  · have : (100000 : Nat) ≤ sizeLine := by decide
    omega
  · subst e
    exact q b H (Ex.refl _ _) hb
  · subst e
    exact q a H (Ex.refl _ _) (by rw [List.append_nil]; exact ha)
  · exact q p _ (Ex.new hp) upd_same
end

theorem RowL.snoc {H : Hp} {l : Addr} {vs : List V} {rs : List (List Int)} {v : V} {r : List Int} (e : H l = some (.lst vs)) (p : Paired (Row H) vs rs) (h : Row H v r) : RowL (upd H l (.lst (vs ++ [v]))) l (rs ++ [r]) := by
  have x : Ex [l] H (upd H l (.lst (vs ++ [v]))) := (Ex.refl [l] H).wr (by simp) e
  exact ⟨_, upd_same, paired_append (L2.Paired.mapP p fun _ _ => Row.ex x) (.cons (h.ex x) .nil)⟩

/-! ### beginnings -/
def Pb (rs : List (List Int)) (i : Nat) (x : List Int) : Prop := ∃ i', i' < i ∧ ∃ r, rs[i']? = some r ∧ ∃ k, k < r.length ∧ x = r.take k
def IsBeg (rs : List (List Int)) (x : List Int) : Prop := x ∉ rs ∧ Pb rs rs.length x
theorem Pb.succ {rs : List (List Int)} {i : Nat} {x r : List Int} (h : rs[i]? = some r) : Pb rs (i + 1) x ↔ Pb rs i x ∨ ∃ k, k < r.length ∧ x = r.take k := by
  constructor
  · rintro ⟨i', hi, r', hr, k, hk, e⟩
    by_cases z : i' = i
    · subst z
      rw [h] at hr
      rw [← Option.some.inj hr] at hk e
      exact .inr ⟨k, hk, e⟩
    · exact .inl ⟨i', by omega, r', hr, k, hk, e⟩
  · rintro (⟨i', hi, q⟩ | ⟨k, hk, e⟩)
    · exact ⟨i', by omega, q⟩
    · exact ⟨i, by omega, r, h, k, hk, e⟩

section
variable {P : Program} {w : World} {K : PySem.W.Frag} {mg : Str → Option Value} {base : Heap}
theorem sc26 : FnScope ["rows", "found", "row", "many"] ["rows"] (defScope (top 26)) := ⟨rfl, rfl, rfl, by decide +kernel, rfl, by decide +kernel, by decide +kernel⟩
def spBegs : Sp := fun vs H Q _ => ∃ (v : V) (rs : List (List Int)), vs = [v] ∧ Rows H v rs ∧ rs.length ≤ 40 ∧ (∀ r ∈ rs, r.length ≤ 8) ∧
  ∀ l st H', Ex [] H H' → RowL H' l st → (∀ x, x ∈ st ↔ IsBeg rs x) → st.length ≤ 8 * rs.length → Q (.ref l) H'
theorem ok26 {f : Addr} {fd : FuncData} (F : FnP K "beginnings_of" 26 [] f fd) (T : Txt mg) : FnOk P w K mg base CX0 1 f fd ["rows"] spBegs := by
  refine okD F sc26 (fun vs H Q E h => ?_) (fun cdv A outer s H vs Q E hcd hr h => ?_)
  · obtain ⟨v, rs, rfl, _⟩ := h
    rfl
  · obtain ⟨v, rs, rfl, hR, hlen, h8, q⟩ := h
    obtain ⟨a, vs, rfl, ea, pr⟩ := id hR
    have hl : vs.length = rs.length := pr.length
    refine ⟨_, pss_cons (ps_set (i := 1) sc26.nd rfl (.inl rfl) (pe_lst pa_nil))
      (pss_cons (ps_for PassesOwn.never rfl (pi_tup (pv 0)) (pg_name (i := 2) sc26.nd rfl (.inl rfl))
        (pss_one (ps_for PassesOwn.never rfl (pi_range1 (by rfl) T.range_ (pa_cons (pe_callB call_lenH rfl T.len_ boot_len (pa_cons (pv 2) pa_nil)) pa_nil)) (pg_name (i := 3) sc26.nd rfl (.inl rfl))
          (pss_one (ps_if (PW.pt (pw_and (pt_cmpR (op_notRow hr) (pe_slice sl_pre (pv 2) po_none (po_some (pv 3))) (pv 1) (by rfl)) (pw_and1 (pt_cmpR (op_notRow hr) (pe_slice sl_pre (pv 2) po_none (po_some (pv 3))) (pv 0) (by rfl)))))
            (pss_one (ps_expr (pe_bm PySem.F.plainAttrs_list PySem.F.slot_list_append PySem.F.type_list_append mt_append (pv 1) (pa_cons (pe_slice sl_pre (pv 2) po_none (po_some (pv 3))) pa_nil)))) pss_nil)))))
      (pss_one (ps_ret (pv 1)))), ?_⟩
    refine ⟨Nat.zero_le _, fun l hl0 => ?_⟩
    refine ⟨_, rfl, a, rfl, ⟨vs, SqT.of (by rw [upd_ne (ne_of_none ea hl0)]; exact ea)⟩, ?_⟩
    refine for_tup (xs := vs) (fun i σ H1 => ∃ y2 y3 st, σ = [some (.ref a), some (.ref l), y2, y3] ∧ Ex [] H H1 ∧ RowL H1 l st ∧ (∀ x, x ∈ st ↔ x ∉ rs ∧ Pb rs i x) ∧ st.length ≤ 8 * i)
      ⟨none, none, [], rfl, Ex.new hl0, ⟨[], upd_same, .nil⟩, fun x => ⟨fun z => absurd z (by simp), fun ⟨_, i', hi, _⟩ => absurd hi (by omega)⟩, by simp⟩ ?_ ?_ ?_
    · rintro i σ H1 _ ⟨y2, y3, st, rfl, x1, _⟩
      exact SqT.of (x1.tup _ _ ea)
    · rintro i x σ H1 hx ⟨y2, y3, st, rfl, x1, hL, hst, hsz⟩
      obtain ⟨r, hri, b, rfl, eb⟩ := paired_getL pr hx
      have hrl := h8 r (List.mem_of_getElem? hri)
      have hi : i < rs.length := (List.getElem?_eq_some_iff.mp hri).1
      have eb1 := x1.tup _ _ eb
      obtain ⟨b1, b2⟩ := small62 (n := (r.map V.int).length) (by rw [List.length_map]; omega)
      refine ⟨_, rfl, _, _, rfl, .inr eb1, _, rfl, b1, b2, ?_⟩
      have hN : ((r.map V.int).length : Int).toNat = r.length := by rw [List.length_map]; omega
      rw [hN]
      refine for_rng (fun j σ H2 => ∃ y3 st, σ = [some (.ref a), some (.ref l), some (.ref b), y3] ∧ Ex [] H H2 ∧ RowL H2 l st ∧ (∀ x, x ∈ st ↔ x ∉ rs ∧ (Pb rs i x ∨ ∃ k, k < j ∧ x = r.take k)) ∧ st.length ≤ 8 * i + j)
        ⟨y3, st, rfl, x1, hL, fun x => by rw [hst x]; exact ⟨fun ⟨h1, h2⟩ => ⟨h1, .inl h2⟩, fun ⟨h1, h2⟩ => ⟨h1, h2.elim id fun ⟨k, hk, _⟩ => absurd hk (by omega)⟩⟩, by omega⟩ ?_ ?_
      · rintro j σ H2 hj ⟨y3, st, rfl, x2, hL2, hst2, hsz2⟩
        have eb2 := x2.tup _ _ eb
        -- row[:many] not in found
        refine ⟨_, rfl, _, rfl, _, rfl, b, _, j, rfl, eb2, rfl, rfl, fun c1 H3 x3 e3 => ?_⟩
        have hL3 : RowL H3 l st := hL2.ex x3 (by simp)
        refine ⟨_, rfl, r.take j, st, ⟨c1, rfl, by rw [e3, List.map_take]⟩, .inl ⟨l, rfl, hL3⟩, _, rfl, ?_⟩
        have same : ∀ H', Ex [] H H' → RowL H' l st → r.take j ∈ st ∨ r.take j ∈ rs → ∃ y3' st', ([some (.ref a), some (.ref l), some (.ref b), some (.int (j : Nat))] : L2.St) = [some (.ref a), some (.ref l), some (.ref b), y3'] ∧ Ex [] H H' ∧ RowL H' l st' ∧ (∀ x, x ∈ st' ↔ x ∉ rs ∧ (Pb rs i x ∨ ∃ k, k < j + 1 ∧ x = r.take k)) ∧ st'.length ≤ 8 * i + (j + 1) := fun H' xx hLL hm => by
          refine ⟨_, st, rfl, xx, hLL, fun x => ?_, by omega⟩
          rw [hst2 x]
          constructor
          · rintro ⟨h1, h2 | ⟨k, hk, e⟩⟩
            · exact ⟨h1, .inl h2⟩
            · exact ⟨h1, .inr ⟨k, by omega, e⟩⟩
          · rintro ⟨h1, h2 | ⟨k, hk, e⟩⟩
            · exact ⟨h1, .inl h2⟩
            · by_cases hkj : k = j
              · subst hkj
                rcases hm with hm | hm
                · rw [← e] at hm
                  exact (hst2 x).mp hm
                · rw [← e] at hm
                  exact absurd hm h1
              · exact ⟨h1, .inr ⟨k, by omega, e⟩⟩
        refine ite2 (fun e => ?_) (fun e => ?_)
        · have n1 : r.take j ∉ st := fun z => by rw [decide_eq_true z] at e; cases e
          have x23 := x2.trans x3
          have eb3 := x23.tup _ _ eb
          refine ⟨_, rfl, _, rfl, _, rfl, b, _, j, rfl, eb3, rfl, rfl, fun c2 H4 x4 e4 => ?_⟩
          have x24 := x23.trans x4
          refine ⟨_, rfl, r.take j, rs, ⟨c2, rfl, by rw [e4, List.map_take]⟩, .inr (hR.ex x24), _, rfl, ite2 (fun e5 => ?_) (fun e5 => ?_)⟩
          · have n2 : r.take j ∉ rs := fun z => by rw [decide_eq_true z] at e5; cases e5
            have hL4 : RowL H4 l st := hL3.ex x4 (by simp)
            have eb4 := x24.tup _ _ eb
            refine ⟨.ref l, rfl, .inl ⟨rfl, _, SqL.of hL4.choose_spec.1⟩, _, rfl, _, rfl, _, rfl, b, _, j, rfl, eb4, rfl, rfl, fun c3 H5 x5 e6 => ?_⟩
            have x25 := x24.trans x5
            obtain ⟨ws, hw, pw⟩ := hL4.ex x5 (by simp)
            refine ⟨l, ws, .ref c3, rfl, rfl, hw, ?_, ?_⟩
            · rw [pw.length]
              exact small1000 (by omega)
            · refine ⟨_, st ++ [r.take j], rfl, x25.upd_new hl0, RowL.snoc hw pw ⟨c3, rfl, by rw [e6, List.map_take]⟩, fun x => ?_, by rw [List.length_append]; simp; omega⟩
              rw [List.mem_append, List.mem_singleton, hst2 x]
              constructor
              · rintro (⟨h1, h2 | ⟨k, hk, ee⟩⟩ | ee)
                · exact ⟨h1, .inl h2⟩
                · exact ⟨h1, .inr ⟨k, by omega, ee⟩⟩
                · exact ⟨by rw [ee]; exact n2, .inr ⟨j, by omega, ee⟩⟩
              · rintro ⟨h1, h2 | ⟨k, hk, ee⟩⟩
                · exact .inl ⟨h1, .inl h2⟩
                · by_cases hkj : k = j
                  · subst hkj
                    exact .inr ee
                  · exact .inl ⟨h1, .inr ⟨k, by omega, ee⟩⟩
          · have n2 : r.take j ∈ rs := by
              by_cases z : r.take j ∈ rs
              · exact z
              · exact absurd (by rw [decide_eq_false z] <;> rfl) e5
            exact same H4 x24 (hL3.ex x4 (by simp)) (.inr n2)
        · have n1 : r.take j ∈ st := by
            by_cases z : r.take j ∈ st
            · exact z
            · exact absurd (by rw [decide_eq_false z] <;> rfl) e
          exact same H3 (x2.trans x3) hL3 (.inl n1)
      · rintro σ H2 ⟨y3, st, rfl, x2, hL2, hst2, hsz2⟩
        refine ⟨_, y3, st, rfl, x2, hL2, fun x => ?_, by omega⟩
        rw [hst2 x, Pb.succ hri]
    · rintro σ H1 ⟨y2, y3, st, rfl, x1, hL, hst, hsz⟩
      rw [hl] at hst hsz
      exact ⟨_, rfl, q l st H1 x1 hL hst hsz⟩
end
end K4
set_option Elab.async false
set_option linter.all false
set_option maxRecDepth 100000
set_option maxHeartbeats 2000000
namespace K4
open PySem PySem.Spec PyProof.Rows L2 GxR

/-- each mark behind a beginning leads on -/
def Full (M : Nat) (rs : List (List Int)) : Prop := ∀ x, IsBeg rs x → ∀ m : Nat, m < M → IsBeg rs (x ++ [(m : Int)]) ∨ x ++ [(m : Int)] ∈ rs
/-- what leads nowhere behind the first i of the beginnings st -/
def Lost (M : Nat) (rs st : List (List Int)) (i : Nat) (y : List Int) : Prop := ∃ i', i' < i ∧ ∃ x, st[i']? = some x ∧ ∃ m : Nat, m < M ∧ y = x ++ [(m : Int)] ∧ y ∉ st ∧ y ∉ rs
theorem Lost.succ {M : Nat} {rs st : List (List Int)} {i : Nat} {x y : List Int} (h : st[i]? = some x) : Lost M rs st (i + 1) y ↔ Lost M rs st i y ∨ ∃ m : Nat, m < M ∧ y = x ++ [(m : Int)] ∧ y ∉ st ∧ y ∉ rs := by
  constructor
  · rintro ⟨i', hi, x', hx, q⟩
    by_cases z : i' = i
    · subst z
      rw [h] at hx
      rw [← Option.some.inj hx] at q
      exact .inr q
    · exact .inl ⟨i', by omega, x', hx, q⟩
  · rintro (⟨i', hi, q⟩ | q)
    · exact ⟨i', by omega, q⟩
    · exact ⟨i, by omega, x, h, q⟩
theorem full_iff {M : Nat} {rs st fd : List (List Int)} (hst : ∀ x, x ∈ st ↔ IsBeg rs x) (hfd : ∀ y, y ∈ fd ↔ Lost M rs st st.length y) : fd = [] ↔ Full M rs := by
  constructor
  · intro e x hx m hm
    by_cases h1 : x ++ [(m : Int)] ∈ st
    · exact .inl ((hst _).mp h1)
    · by_cases h2 : x ++ [(m : Int)] ∈ rs
      · exact .inr h2
      · obtain ⟨i, hi⟩ := List.getElem?_of_mem ((hst x).mpr hx)
        have : x ++ [(m : Int)] ∈ fd := (hfd _).mpr ⟨i, (List.getElem?_eq_some_iff.mp hi).1, x, hi, m, hm, rfl, h1, h2⟩
        rw [e] at this
        exact absurd this (by simp)
  · intro F
    rw [List.eq_nil_iff_forall_not_mem]
    intro y hy
    obtain ⟨i, hi, x, hx, m, hm, rfl, h1, h2⟩ := (hfd y).mp hy
    rcases F x ((hst x).mp (List.mem_of_getElem? hx)) m hm with h | h
    · exact h1 ((hst _).mpr h)
    · exact h2 h

section
variable {P : Program} {w : World} {K : PySem.W.Frag} {mg : Str → Option Value} {base : Heap}
abbrev n27 : List Str := ["marks", "rows", "starts", "found", "start", "longer", "mark", "row"]
theorem sc27 : FnScope n27 ["marks", "rows"] (defScope (top 27)) := ⟨rfl, rfl, rfl, by decide +kernel, rfl, by decide +kernel, by decide +kernel⟩
def spLack : Sp := fun vs H Q _ => ∃ (M : Nat) (v : V) (rs : List (List Int)), vs = [.int (M : Int), v] ∧ M ≤ 4 ∧ Rows H v rs ∧ rs.length ≤ 40 ∧ (∀ r ∈ rs, r.length ≤ 8) ∧
  ∀ p ys H', Ex [] H H' → H' p = some (.lst ys) → (ys = [] ↔ Full M rs) → Q (.ref p) H'
theorem ok27 {f : Addr} {fd : FuncData} (F : FnP K "lacking" 27 [] f fd) (T : Txt mg) (c26 : Cal P w K mg base 1 "beginnings_of" ["rows"] [] spBegs) : FnOk P w K mg base CX0 2 f fd ["marks", "rows"] spLack := by
  refine okD F sc27 (fun vs H Q E h => ?_) (fun cdv A outer s H vs Q E hcd hr h => ?_)
  · obtain ⟨M, v, rs, rfl, _⟩ := h
    rfl
  · obtain ⟨M, v, rs, rfl, m4, hR, hlen, h8, q⟩ := h
    refine ⟨_, pss_cons (ps_set (i := 2) sc27.nd rfl (.inr rfl) (pe_cal c26 hr rfl (pa_cons (pv 1) pa_nil)))
      (pss_cons (ps_set (i := 3) sc27.nd rfl (.inl rfl) (pe_lst pa_nil))
      (pss_cons (ps_for PassesOwn.never rfl (pi_list (pv 2)) (pg_name (i := 4) sc27.nd rfl (.inr rfl))
        (pss_cons (ps_setLc (i := 5) (own := [("mark", 6)]) (g := gName 6) (tt := tYes) rfl sc27.nd rfl rfl (sw_true rfl rfl rfl (by decide +kernel)) (pi_range1 (by rfl) T.range_ (pa_cons (pv 0) pa_nil)) (blkOk_by (N := n27) (sc := defScope (top 27)) (by decide +kernel)) (fun _ _ _ _ _ => pg_name (i := 6) sc27.nd rfl (Or.inl rfl)) (fun _ _ _ _ _ => pts_nil)
            (fun _ _ _ _ _ => pe_op op_catN (pv 4) (pe_tup (pa_cons (pv 6) pa_nil))))
        (pss_one (ps_aug (i := 3) sc27.nd rfl (.inl rfl) (pe_lc (own := [("row", 7)]) (g := gName 7) rfl sc27.nd (pi_list (pv 5)) (blkOk_by (N := n27) (sc := defScope (top 27)) (by decide +kernel)) (fun _ _ _ _ _ => pg_name (i := 7) sc27.nd rfl (Or.inl rfl))
            (fun _ _ _ _ _ => pts_one (PW.pt (pw_and (pt_cmpR (op_notRow hr) (pv 7) (pv 2) (by rfl)) (pw_and1 (pt_cmpR (op_notRow hr) (pv 7) (pv 1) (by rfl)))))) (fun _ _ _ _ _ => pv 7)) iop_ext))))
      (pss_one (ps_ret (pe_callB (cr_sortR hr) rfl T.sorted_ boot_sorted (pa_cons (pv 3) pa_nil)))))), ?_⟩
    refine ⟨_, rfl, v, rs, rfl, hR, hlen, h8, fun ls st H1 x1 hS hst hsz => ⟨Nat.zero_le _, fun lf hf0 => ?_⟩⟩
    have hR1 := hR.ex x1
    obtain ⟨ws, hw, pw⟩ := id hS
    have hwl : ws.length = st.length := pw.length
    have x2 : Ex [] H1 (upd H1 lf (.lst [])) := Ex.new hf0
    refine ⟨_, rfl, ls, rfl, ⟨ws, SqL.of (x2.lst0 hw)⟩, ?_⟩
    refine for_list (xs := ws) (fun i σ H2 => ∃ y4 y5 fd, σ = [some (.int (M : Int)), some v, some (.ref ls), some (.ref lf), y4, y5, none, none] ∧ Ex [] H1 H2 ∧ RowL H2 lf fd ∧ (∀ y, y ∈ fd ↔ Lost M rs st i y) ∧ fd.length ≤ 4 * i)
      ⟨none, none, [], rfl, x2, ⟨[], upd_same, .nil⟩, fun y => ⟨fun z => absurd z (by simp), fun ⟨i', hi, _⟩ => absurd hi (by omega)⟩, by simp⟩ ?_ ?_ ?_
    · rintro i σ H2 _ ⟨y4, y5, fd, rfl, x3, _⟩
      exact SqL.of (x3.lst0 hw)
    · rintro i y σ H2 hy ⟨y4, y5, fd, rfl, x3, hL, hfd, hfz⟩
      obtain ⟨x, hxi, b, rfl, eb⟩ := paired_getL pw hy
      have hi : i < st.length := (List.getElem?_eq_some_iff.mp hxi).1
      have eb3 := x3.tup _ _ eb
      have xlen : x.length ≤ 8 := by
        obtain ⟨_, i', _, r, hr', k, hk, rfl⟩ := (hst x).mp (List.mem_of_getElem? hxi)
        have := h8 r (List.mem_of_getElem? hr')
        rw [List.length_take]
        omega
      obtain ⟨b1, b2⟩ := small62 (n := M) (by omega)
      -- longer
      refine ⟨_, rfl, _, rfl, b1, b2, fun D hD => ?_⟩
      rw [Int.toNat_natCast]
      refine lc_rng (fun j H3 => Ex [] H2 H3 ∧ RowL H3 D ((List.range j).map fun m => x ++ [((m : Nat) : Int)])) ⟨Ex.new hD, ⟨[], upd_same, .nil⟩⟩ ?_ ?_
      · rintro j H3 hj ⟨x4, ws3, hw3, pw3⟩
        have eb4 := x4.tup _ _ eb3
        refine ⟨rfl, lcY ⟨_, rfl, _, rfl, (by show 1 ≤ sizeLine; decide), fun p hp => ?_⟩⟩
        have x5 : Ex [] H3 (upd H3 p (.tup [.int (j : Nat)])) := Ex.new hp
        refine ⟨b, p, x.map V.int, [.int (j : Nat)], rfl, rfl, x5.tup _ _ eb4, upd_same, by rw [List.length_map]; simp; omega, fun c H4 x6 e6 => ?_⟩
        have x56 := x5.trans x6
        have hw4 := x56.lst0 hw3
        refine ⟨ws3, hw4, ?_, (x4.trans x56).upd_new hD, ?_⟩
        · rw [pw3.length, List.length_map, List.length_range]
          exact small1000 (by omega)
        · rw [List.range_succ, List.map_append]
          exact RowL.snoc hw4 (L2.Paired.mapP pw3 fun _ _ => Row.ex x56) ⟨c, rfl, by rw [e6, List.map_append]; rfl⟩
      · rintro H3 ⟨x4, hD3⟩
        obtain ⟨ws3, hw3, pw3⟩ := id hD3
        have hwl3 : ws3.length = M := by rw [pw3.length, List.length_map, List.length_range]
        have hL3 : RowL H3 lf fd := hL.ex x4 (by simp)
        have x34 := x3.trans x4
        -- found +=
        refine ⟨.ref lf, rfl, _, rfl, D, rfl, ⟨ws3, SqL.of hw3⟩, fun D2 hD2 => ?_⟩
        generalize hlg : ((List.range M).map fun m => x ++ [((m : Nat) : Int)]) = lg at hD3 pw3
        have hlgl : lg.length = M := by rw [← hlg, List.length_map, List.length_range]
        refine lc_list (K := K) (a := D) (xs := ws3) (fun j H4 => Ex [] H3 H4 ∧ RowL H4 D2 ((lg.take j).filter fun y => !decide (y ∈ st) && !decide (y ∈ rs))) ⟨Ex.new hD2, ⟨[], upd_same, .nil⟩⟩ (fun j H4 _ p => SqL.of (p.1.lst0 hw3)) ?_ ?_
        · rintro j z H4 hz ⟨x5, ws4, hw4, pw4⟩
          obtain ⟨y, hyj, hyr⟩ := paired_getL pw3 hz
          have x345 := x34.trans x5
          have hy4 : Row H4 z y := hyr.ex x5
          have step : (lg.take (j + 1)).filter (fun y => !decide (y ∈ st) && !decide (y ∈ rs)) = (lg.take j).filter (fun y => !decide (y ∈ st) && !decide (y ∈ rs)) ++ [y].filter (fun y => !decide (y ∈ st) && !decide (y ∈ rs)) := by
            rw [take_snoc hyj, List.filter_append]
          refine ⟨rfl, ?_⟩
          refine ⟨_, rfl, _, rfl, y, st, hy4, .inl ⟨ls, rfl, hS.ex x345 (by simp)⟩, _, rfl, ite2 (fun e => ?_) (fun e => ?_)⟩
          · refine ⟨_, rfl, _, rfl, y, rs, hy4, .inr (hR1.ex x345), _, rfl, ite2 (fun e5 => ?_) (fun e5 => ?_)⟩
            · refine ⟨z, rfl, ws4, hw4, ?_, x5.upd_new hD2, ?_⟩
              · have h1 := pw4.length
                have h2 := List.length_filter_le (fun y => !decide (y ∈ st) && !decide (y ∈ rs)) (lg.take j)
                rw [List.length_take] at h2
                exact small1000 (by omega)
              · rw [step, List.filter_cons_of_pos (by rw [e, e5]; rfl)]
                exact RowL.snoc hw4 pw4 hy4
            · rw [step, List.filter_cons_of_neg (by
                intro z
                rw [Bool.and_eq_true] at z
                exact e5 z.2), List.filter_nil, List.append_nil]
              exact ⟨x5, ws4, hw4, pw4⟩
          · refine iteF ?_
            rw [step, List.filter_cons_of_neg (by
                intro z
                rw [Bool.and_eq_true] at z
                exact e z.1), List.filter_nil, List.append_nil]
            exact ⟨x5, ws4, hw4, pw4⟩
        · rintro H4 ⟨x5, ws4, hw4, pw4⟩
          have hL4 : RowL H4 lf fd := hL3.ex x5 (by simp)
          obtain ⟨wf, hwf, pf⟩ := id hL4
          have htk : lg.take ws3.length = lg := List.take_of_length_le (by omega)
          rw [htk] at pw4
          have h1 := pw4.length
          have h2 := List.length_filter_le (fun y => !decide (y ∈ st) && !decide (y ∈ rs)) lg
          have h3 := pf.length
          refine ⟨lf, D2, wf, ws4, rfl, rfl, hwf, hw4, ?_, ?_⟩
          · have : wf.length + ws4.length ≤ 1000 * 1000 := by
              have : st.length ≤ 8 * 40 := by omega
              omega
            have : (1000 * 1000 : Nat) ≤ sizeLine := by decide
            omega
          · have xw : Ex [lf] H4 (upd H4 lf (.lst (wf ++ ws4))) := (Ex.refl [lf] H4).wr (by simp) hwf
            refine ⟨_, _, fd ++ lg.filter fun y => !decide (y ∈ st) && !decide (y ∈ rs), rfl, (x34.trans x5).upd_new hf0, ⟨_, upd_same, paired_append (L2.Paired.mapP pf fun _ _ => Row.ex xw) (L2.Paired.mapP pw4 fun _ _ => Row.ex xw)⟩, fun y => ?_, ?_⟩
            · rw [List.mem_append, hfd y, Lost.succ hxi, List.mem_filter, ← hlg, List.mem_map]
              constructor
              · rintro (h | ⟨⟨m, hm, rfl⟩, h⟩)
                · exact .inl h
                · rw [Bool.and_eq_true] at h
                  simp only [Bool.not_eq_true', decide_eq_false_iff_not] at h
                  exact .inr ⟨m, List.mem_range.mp hm, rfl, h.1, h.2⟩
              · rintro (h | ⟨m, hm, rfl, h4, h5⟩)
                · exact .inl h
                · exact .inr ⟨⟨m, List.mem_range.mpr hm, rfl⟩, by rw [decide_eq_false h4, decide_eq_false h5]; rfl⟩
            · rw [List.length_append]
              omega
    · rintro σ H2 ⟨y4, y5, fd, rfl, x3, hL, hfd, hfz⟩
      rw [hwl] at hfd
      refine ⟨_, rfl, lf, fd, rfl, hL, fun r hr => ?_, fun p ys hy hp => ?_⟩
      · obtain ⟨i, _, x, _, m, _, rfl, _⟩ := (hfd r).mp hr
        simp
      · refine q p ys _ (x1.trans (x3.upd_new (x3.there _ hp))) upd_same ?_
        rw [← full_iff hst hfd]
        constructor
        · intro e
          rw [e] at hy
          exact List.length_eq_zero_iff.mp hy.symm
        · intro e
          rw [e] at hy
          exact List.length_eq_zero_iff.mp hy

/-! ### is_full -/
theorem sc35 : FnScope ["marks", "rows"] ["marks", "rows"] (defScope (top 35)) := ⟨rfl, rfl, rfl, by decide +kernel, rfl, by decide +kernel, by decide +kernel⟩
def spFull (B : Tab5) : Sp := fun vs H Q _ => ∃ (M : Nat) (v : V) (rs : List (List Int)), vs = [.int (M : Int), v] ∧ 1 ≤ M ∧ M ≤ 4 ∧ Rows H v rs ∧ TbOk B H ∧ rs.length ≤ 40 ∧ (∀ r ∈ rs, GoodRow (M : Int) 8 r) ∧
  ∀ b H', Ex [] H H' → (b = true ↔ Full M rs) → Q (.bl b) H'
theorem ok35 {f : Addr} {fd : FuncData} {B : Tab5} (F : FnP K "is_full" 35 [] f fd) (c20 : Cal P w K mg base 2 "need_marks" ["value"] [] spMarks) (c28 : Cal P w K mg base 5 "need_rows" ["value", "marks"] [] (spNeedRows B))
    (c27 : Cal P w K mg base 2 "lacking" ["marks", "rows"] [] spLack) : FnOk P w K mg base CX0 6 f fd ["marks", "rows"] (spFull B) := by
  refine okD F sc35 (fun vs H Q E h => ?_) (fun cdv A outer s H vs Q E hcd hr h => ?_)
  · obtain ⟨M, v, rs, rfl, _⟩ := h
    rfl
  · obtain ⟨M, v, rs, rfl, m1, m4, hR, tb, hlen, good, q⟩ := h
    refine ⟨_, pss_cons (ps_expr (pe_cal c20 (hr.mono (by decide)) rfl (pa_cons (pv 0) pa_nil)))
      (pss_cons (ps_expr (pe_cal c28 hr rfl (pa_cons (pv 1) (pa_cons (pv 0) pa_nil))))
      (pss_one (ps_ret (pe_notT (pe_cal c27 (hr.mono (by decide)) rfl (pa_cons (pv 0) (pa_cons (pv 1) pa_nil))))))), ?_⟩
    refine ⟨_, rfl, (M : Int), rfl, by omega, by omega, ?_⟩
    refine ⟨_, rfl, _, rfl, v, (M : Int), rs, rfl, hR, tb, hlen, good, fun H1 x1 => ?_⟩
    refine ⟨_, rfl, _, rfl, M, v, rs, rfl, m4, hR.ex x1, hlen, fun r hr => ?_, fun p ys H2 x2 e2 hF => ?_⟩
    · have := (good r hr).2.1
      omega
    · refine ⟨_, .inl ⟨ys, SqL.of e2, rfl⟩, q _ H2 (x1.trans x2) ?_⟩
      rw [← hF]
      cases ys <;> simp
end
end K4
set_option Elab.async false
set_option linter.all false
set_option maxRecDepth 100000
set_option maxHeartbeats 2000000
namespace K4
open PySem PySem.Spec PyProof.Rows L2 GxR

/-! ### words, options, machines -/
def abc : Str := "abcdefghijklmnopqrstuvwxyz"
def GoodWord (x : Str) : Prop := 1 ≤ x.length ∧ x.length ≤ 8 ∧ ∀ c ∈ x.cps.toList, c ∈ abc.cps.toList
def GoodW (v : V) : Prop := v = .non ∨ ∃ x, v = .str x ∧ GoodWord x
/-- an option that leads to n -/
def Opt (H : Hp) (v : V) (n : Nat) : Prop := ∃ a u, v = .ref a ∧ H a = some (.tup [.int (n : Int), u]) ∧ GoodW u
theorem Opt.ex {bad : List Addr} {H H' : Hp} {v : V} {n : Nat} (a : Ex bad H H') (h : Opt H v n) : Opt H' v n := by
  obtain ⟨p, u, e, q, g⟩ := h
  exact ⟨p, u, e, a.tup p _ q, g⟩
abbrev State (H : Hp) : V → List Nat → Prop := TupOf (Opt H) H
abbrev Mac (H : Hp) : V → List (List Nat) → Prop := TupOf (State H) H
theorem State.ex {bad : List Addr} {H H' : Hp} {v : V} {n : List Nat} (a : Ex bad H H') (h : State H v n) : State H' v n := TupOf.ex a (fun _ _ => Opt.ex a) h
theorem Mac.ex {bad : List Addr} {H H' : Hp} {v : V} {n : List (List Nat)} (a : Ex bad H H') (h : Mac H v n) : Mac H' v n := TupOf.ex a (fun _ _ => State.ex a) h
def GoodMac (m : List (List Nat)) : Prop := 1 ≤ m.length ∧ m.length ≤ 40 ∧ ∀ s ∈ m, s.length ≤ 6 ∧ ∀ n ∈ s, n < m.length

section
variable {X : Cx}
theorem pe_txt {x : Str} {y : Str} {pos : Pos} (h : ∃ t, X.mg x = some (.str y t)) (hg : Gl X x := by rfl) (hd : (x == ("__debug__" : Str)) = false := by decide) : PE X (.Name x pos) (tC (.str y)) := by
  obtain ⟨t, h⟩ := h
  exact pe_glob hg h ⟨t, rfl⟩ hd
end
theorem nat_at {s : List Nat} {i : Nat} {x : V} (h : (s.map fun n : Nat => V.int (n : Int))[i]? = some x) : ∃ z, z ∈ s ∧ s[i]? = some z ∧ x = V.int (z : Nat) := by
  rw [List.getElem?_map] at h
  cases e : s[i]? with
  | none => rw [e] at h; cases h
  | some z =>
    rw [e] at h
    exact ⟨z, List.mem_of_getElem? e, rfl, (Option.some.inj h).symm⟩

section
variable {P : Program} {w : World} {K : PySem.W.Frag} {mg : Str → Option Value} {base : Heap}

/-! ### is_word -/
abbrev n12 : List Str := ["value", "sign"]
theorem sc12 : FnScope n12 ["value"] (defScope (top 12)) := ⟨rfl, rfl, rfl, by decide +kernel, rfl, by decide +kernel, by decide +kernel⟩
def spWord (Pt : Addr) : Sp := fun vs H Q _ => ∃ x : Str, vs = [.str x] ∧ GoodWord x ∧ TabG H Pt ∧ ∀ H', Ex [] H H' → Q (.bl true) H'
theorem ok12 {f : Addr} {fd : FuncData} {c Pt : Addr} (F : FnP K "is_word" 12 [] f fd) (T : Txt mg) (TB : TabB base mg c Pt) (hc : fd.code = .ref c) :
    FnOk P w K mg base CX0 2 f fd ["value"] (spWord Pt) := by
  refine okD F sc12 (fun vs H Q E h => ?_) (fun cdv A outer s H vs Q E hcd hr h => ?_)
  · obtain ⟨x, rfl, _⟩ := h
    rfl
  · obtain rfl : cdv = .ref c := hcd.symm.trans hc
    obtain ⟨x, rfl, ⟨g1, g2, g3⟩, hT, q⟩ := h
    refine ⟨_, pss_one (ps_ret (pe_and (pe_isi bt_str T.isi T.str_ (pv 0)) (pe_and (pe_chain op_le op_le pe_int (pe_callB call_len_str rfl T.len_ boot_len (pa_cons (pv 0) pa_nil)) (pe_num T.letters))
      (pe_one (pe_allG (k := 0) hr rfl sc12.nd rfl T.all_ TB rfl (pi_str (pv 0)) (blkOk_by (N := n12) (sc := defScope (top 12)) (own := [("sign", 1)]) (by decide +kernel)) ⟨rfl, by decide +kernel, by decide +kernel⟩ (fun _ _ _ _ _ _ _ => pg_name (i := 1) sc12.nd rfl (Or.inl rfl))
        (fun _ _ _ _ _ _ _ _ => pe_cmpR op_in_sign (pv 1) (pe_txt T.abc) (by rfl))))))), ?_⟩
    refine ⟨_, rfl, _, _, _, _, rfl, .str x, kit_str_str, true, rfl, iteT ?_⟩
    refine ⟨_, rfl, x, rfl, ?_, _, _, rfl, rfl, _, rfl, iteD (by omega) ⟨_, _, rfl, rfl, _, rfl, iteD (by omega) ?_⟩⟩
    · exact small64 (by omega)
    refine ⟨_, rfl, x, rfl, hT, fun H1 hT1 => ?_⟩
    refine all_str (fun i H' => Ex [] H H') (.tabbed hT hT1) (fun i d H' hx p => ?_) (fun H' p => q H' p)
    refine ⟨rfl, ?_⟩
    refine ⟨_, rfl, d, _, rfl, rfl, _, rfl, iteD (g3 d ?_) p⟩
    exact List.mem_of_getElem? (by rw [Array.getElem?_toList]; exact hx)

/-! ### is_option -/
theorem sc13 : FnScope ["value", "many"] ["value", "many"] (defScope (top 13)) := ⟨rfl, rfl, rfl, by decide +kernel, rfl, by decide +kernel, by decide +kernel⟩
def spOption (Pt : Addr) : Sp := fun vs H Q _ => ∃ (v : V) (n many : Nat), vs = [v, .int (many : Int)] ∧ Opt H v n ∧ n < many ∧ TabG H Pt ∧ ∀ H', Ex [] H H' → Q (.bl true) H'
theorem ok13 {f : Addr} {fd : FuncData} {Pt : Addr} (F : FnP K "is_option" 13 [] f fd) (T : Txt mg) (cN : Cal P w K mg base 1 "is_number" ["value", "low", "high"] [] spNum) (cW : Cal P w K mg base 2 "is_word" ["value"] [] (spWord Pt)) :
    FnOk P w K mg base CX0 3 f fd ["value", "many"] (spOption Pt) := by
  refine okD F sc13 (fun vs H Q E h => ?_) (fun cdv A outer s H vs Q E hcd hr h => ?_)
  · obtain ⟨v, n, many, rfl, _⟩ := h
    rfl
  · obtain ⟨v, n, many, rfl, ⟨a, u, rfl, ea, gu⟩, hn, hT, q⟩ := h
    refine ⟨_, pss_cons (ps_if (PW.pt (pw_or (pt_not (pt_val (pe_isi bt_tuple T.isi T.tuple_ (pv 0)))) (pw_or (pt_cmpR op_ne (pe_callB call_lenH rfl T.len_ boot_len (pa_cons (pv 0) pa_nil)) pe_int (nomark _))
        (pw_or1 (pt_not (pt_val (pe_cal cN (hr.mono (by decide)) rfl (pa_cons (pe_ix ix_tupH (pv 0) pe_int (fun _ _ => rfl)) (pa_cons pe_int (pa_cons (pe_op op_sub (pv 1) pe_int) pa_nil)))))))))) (pss_one (ps_ret pe_bl)) pss_nil)
      (pss_one (ps_ret (pe_or (pe_cmpR op_isN (pe_ix ix_tupH (pv 0) pe_int (fun _ _ => rfl)) pe_non (nomark _)) (pe_one (pe_cal cW hr rfl (pa_cons (pe_ix ix_tupH (pv 0) pe_int (fun _ _ => rfl)) pa_nil)))))), ?_⟩
    refine ⟨_, rfl, _, _, _, _, rfl, .tup ea, kit_tup_tup, true, rfl, iteF ?_⟩
    refine ⟨_, rfl, a, _, rfl, .inr ea, rfl, _, rfl, iteF ?_⟩
    refine ⟨_, rfl, a, _, 0, _, rfl, rfl, ea, rfl, _, rfl, _, _, rfl, rfl, (n : Int), 0, (many : Int) - 1, rfl, true, ?_, iteF ?_⟩
    · rw [decide_eq_true (show (0 : Int) ≤ n by omega), decide_eq_true (show (n : Int) ≤ many - 1 by omega)] <;> rfl
    rcases gu with rfl | ⟨x, rfl, gx⟩
    · refine ⟨_, rfl, a, _, 1, _, rfl, rfl, ea, rfl, rfl, true, rfl, iteT (q H (Ex.refl _ _))⟩
    · refine ⟨_, rfl, a, _, 1, _, rfl, rfl, ea, rfl, rfl, false, rfl, iteF ?_⟩
      exact ⟨_, rfl, a, _, 1, _, rfl, rfl, ea, rfl, x, rfl, gx, hT, q⟩
end
end K4
set_option Elab.async false
set_option linter.all false
set_option maxRecDepth 100000
set_option maxHeartbeats 2000000
namespace K4
open PySem PySem.Spec PyProof.Rows L2 GxR

theorem for_enumT {K : PySem.W.Frag} {a : Addr} {xs : List V} {g : TG} {tb : TS} {D : Ends} {σ : L2.St} {H : Hp} (Pv : Nat → L2.St → Hp → Prop) (h0 : Pv 0 σ H) (hl : ∀ i σ H, i ≤ xs.length → Pv i σ H → SqT K H a xs)
    (hs : ∀ i x σ H T, xs[i]? = some x → Pv i σ H → H T = none → g (.ref T) σ (upd H T (.tup [.int (i : Nat), x])) fun σ2 H2 => tb { D with nx := Pv (i + 1), ct := Pv (i + 1), bk := D.nx } σ2 H2) (hd : ∀ σ H, Pv xs.length σ H → D.nx σ H) :
    ∃ W : Nat → Nat → L2.St → Hp → Prop, (∃ m, W 0 m σ H) ∧ ∀ i m σ H, W i m σ H →
      ((IteT K a).stop i H ∧ D.nx σ H) ∨ ((IteT K a).go i H ∧ ∃ N : L2.St → Hp → Prop, (∀ σ' H', N σ' H' → ∃ m', m' < m ∧ W (i + 1) m' σ' H') ∧ ∀ x H', (IteT K a).yld i H x H' → g x σ H' fun σ2 H2 => tb { D with nx := N, ct := N, bk := D.nx } σ2 H2) := by
  refine ⟨fun i m σ H => m = xs.length - i ∧ i ≤ xs.length ∧ Pv i σ H, ⟨xs.length, by simp, Nat.zero_le _, h0⟩, ?_⟩
  rintro i m σ H ⟨rfl, hi, p⟩
  have q := hl i σ H hi p
  by_cases hlt : i < xs.length
  · refine .inr ⟨⟨xs, xs[i], q, by simp [hlt]⟩, Pv (i + 1), fun σ' H' p' => ⟨xs.length - (i + 1), by omega, rfl, hlt, p'⟩, fun x H' y => ?_⟩
    obtain ⟨T, z, rfl, hT, rfl, hz⟩ := y
    exact hs i z σ _ T (hz xs q) p hT
  · have e : i = xs.length := by omega
    subst e
    exact .inl ⟨⟨xs, q, Nat.le_refl _⟩, hd σ H p⟩

section
variable {P : Program} {w : World} {K : PySem.W.Frag} {mg : Str → Option Value} {base : Heap}

/-! ### need_machine -/
abbrev n14 : List Str := ["value", "index", "state", "option"]
theorem sc14 : FnScope n14 ["value"] (defScope (top 14)) := ⟨rfl, rfl, rfl, by decide +kernel, rfl, by decide +kernel, by decide +kernel⟩
def spNeedMac (B : Tab5) : Sp := fun vs H Q _ => ∃ (v : V) (m : List (List Nat)), vs = [v] ∧ Mac H v m ∧ GoodMac m ∧ TbOk B H ∧ ∀ H', Ex [] H H' → Q .non H'
theorem ok14 {f : Addr} {fd : FuncData} {c : Addr} {B : Tab5} (F : FnP K "need_machine" 14 [] f fd) (T : Txt mg) (TB : TabB base mg c B.t14) (hc : fd.code = .ref c) (cO : Cal P w K mg base 3 "is_option" ["value", "many"] [] (spOption B.t12)) :
    FnOk P w K mg base CX0 5 f fd ["value"] (spNeedMac B) := by
  refine okD F sc14 (fun vs H Q E h => ?_) (fun cdv A outer s H vs Q E hcd hr h => ?_)
  · obtain ⟨v, m, rfl, _⟩ := h
    rfl
  · obtain rfl : cdv = .ref c := hcd.symm.trans hc
    obtain ⟨v, m, rfl, hM, ⟨g1, g2, g3⟩, tb, q⟩ := h
    obtain ⟨a, vs, rfl, ea, pr⟩ := id hM
    have hl : vs.length = m.length := pr.length
    refine ⟨_, pss_cons (ps_if (PW.pt (pw_or (pt_not (pt_val (pe_isi bt_tuple T.isi T.tuple_ (pv 0)))) (pw_or1 (pt_not (pt_chain op_le op_le pe_int (pe_callB call_lenH rfl T.len_ boot_len (pa_cons (pv 0) pa_nil)) (pe_num T.states)))))) (pss_one ps_never) pss_nil)
      (pss_one (ps_for PassesOwn.never rfl (pi_enumT rfl T.enum_ (pa_cons (pv 0) pa_nil)) (pg_tup rfl (pgs_cons (pg_name (i := 1) sc14.nd rfl (.inl rfl)) (pgs_cons (pg_name (i := 2) sc14.nd rfl (.inl rfl)) pgs_nil)))
        (pss_cons (ps_if (PW.pt (pw_or (pt_not (pt_val (pe_isi bt_tuple T.isi T.tuple_ (pv 2)))) (pw_or1 (pt_cmpR op_gt (pe_callB call_lenH rfl T.len_ boot_len (pa_cons (pv 2) pa_nil)) (pe_num T.options) (nomark _))))) (pss_one ps_never) pss_nil)
        (pss_one (ps_if (pt_not (pt_val (pe_allG (k := 3) hr rfl sc14.nd rfl T.all_ TB rfl (pi_tup (pv 2)) (blkOk_by (N := n14) (sc := defScope (top 14)) (own := [("option", 3)]) (by decide +kernel)) ⟨rfl, by decide +kernel, by decide +kernel⟩ (fun _ _ _ _ _ _ _ => pg_name (i := 3) sc14.nd rfl (Or.inl rfl))
          (fun _ _ _ _ _ _ _ hr' => pe_cal cO hr' rfl (pa_cons (pv 3) (pa_cons (pe_callB call_lenH rfl T.len_ boot_len (pa_cons (pv 0) pa_nil)) pa_nil)))))) (pss_one ps_never) pss_nil))))), ?_⟩
    refine ⟨_, rfl, _, _, _, _, rfl, .tup ea, kit_tup_tup, true, rfl, iteF ?_⟩
    refine ⟨_, rfl, a, _, rfl, .inr ea, _, _, rfl, rfl, _, rfl, iteD (by omega) ?_⟩
    refine ⟨_, _, rfl, rfl, _, rfl, iteNS (by omega) ?_⟩
    refine ⟨_, rfl, a, vs, rfl, SqT.of ea, ?_⟩
    refine for_enumT (xs := vs) (fun i σ H1 => ∃ y1 y2, σ = [some (.ref a), y1, y2, none] ∧ Ex [] H H1) ⟨none, none, rfl, Ex.refl _ _⟩ ?_ ?_ ?_
    · rintro i σ H1 _ ⟨y1, y2, rfl, x1⟩
      exact SqT.of (x1.tup _ _ ea)
    · rintro i x σ H1 U hx ⟨y1, y2, rfl, x1⟩ hU
      obtain ⟨st, hst, b, ws, rfl, eb, pb⟩ := paired_getL pr hx
      obtain ⟨g4, g5⟩ := g3 st (List.mem_of_getElem? hst)
      have hwl : ws.length = st.length := pb.length
      have x2 : Ex [] H (upd H1 U (.tup [.int (i : Nat), .ref b])) := x1.upd_new (x1.there _ hU)
      have eb2 := x2.tup _ _ eb
      have tb2 := tb.ex x2
      refine ⟨U, _, rfl, SqT.of upd_same, rfl, _, _, rfl, _, _, rfl, rfl, ?_⟩
      refine ⟨_, rfl, _, _, _, _, rfl, .tup eb2, kit_tup_tup, true, rfl, iteF ?_⟩
      refine ⟨_, rfl, b, _, rfl, .inr eb2, _, _, rfl, rfl, _, rfl, iteDn (by omega) ?_⟩
      refine ⟨_, rfl, b, rfl, ⟨ws, SqT.of eb2⟩, tb2.h14, fun H3 hT3 => ?_⟩
      have x3 : Ex [] (upd H1 U (.tup [.int (i : Nat), .ref b])) H3 := .tabbed tb2.h14 hT3
      refine all_tup (xs := ws) (fun i H' => Ex [] H H') (x2.trans x3) (fun i H' _ x => SqT.of (x.tup _ _ eb)) (fun j y H' hy p => ?_) (fun H' p => ⟨_, rfl, iteF ⟨_, _, rfl, p⟩⟩)
      refine ⟨rfl, ?_⟩
      obtain ⟨n, hn, hO⟩ := paired_getL pb hy
      refine ⟨_, rfl, _, rfl, a, vs, rfl, .inr (p.tup _ _ ea), y, n, vs.length, rfl, hO.ex p, ?_, p.tab _ tb.h12, fun H4 x4 => ⟨true, rfl, iteT (p.trans x4)⟩⟩
      have := g5 n (List.mem_of_getElem? hn)
      omega
    · rintro σ H1 ⟨y1, y2, rfl, x1⟩
      exact q H1 x1

/-! ### need_table -/
abbrev Tab (H : Hp) : V → List (List (List Int)) → Prop := TupOf (Rows H) H
theorem Tab.ex {bad : List Addr} {H H' : Hp} {v : V} {ts : List (List (List Int))} (a : Ex bad H H') (h : Tab H v ts) : Tab H' v ts := TupOf.ex a (fun _ _ => Rows.ex a) h
def GoodTab (M : Int) (m : List (List Nat)) (ts : List (List (List Int))) : Prop := ts.map List.length = m.map List.length ∧ ∀ rs ∈ ts, ∀ r ∈ rs, GoodRow M 8 r
abbrev n22 : List Str := ["machine", "marks", "value", "index", "rows", "row"]
theorem sc22 : FnScope n22 ["machine", "marks", "value"] (defScope (top 22)) := ⟨rfl, rfl, rfl, by decide +kernel, rfl, by decide +kernel, by decide +kernel⟩
def spNeedTab (B : Tab5) : Sp := fun vs H Q _ => ∃ (v u : V) (M : Int) (m : List (List Nat)) (ts : List (List (List Int))), vs = [v, .int M, u] ∧ Mac H v m ∧ Tab H u ts ∧ GoodTab M m ts ∧ TbOk B H ∧ ∀ H', Ex [] H H' → Q .non H'
theorem ok22 {f : Addr} {fd : FuncData} {c : Addr} {B : Tab5} (F : FnP K "need_table" 22 [] f fd) (T : Txt mg) (TB : TabB base mg c B.t22) (hc : fd.code = .ref c) (cR : Cal P w K mg base 3 "is_row" ["value", "marks", "most"] [.int 8] (spIsRow B.t21)) :
    FnOk P w K mg base CX0 5 f fd ["machine", "marks", "value"] (spNeedTab B) := by
  refine okD F sc22 (fun vs H Q E h => ?_) (fun cdv A outer s H vs Q E hcd hr h => ?_)
  · obtain ⟨v, u, M, m, ts, rfl, _⟩ := h
    rfl
  · obtain rfl : cdv = .ref c := hcd.symm.trans hc
    obtain ⟨v, u, M, m, ts, rfl, hM, hT, ⟨g1, g2⟩, tb, q⟩ := h
    obtain ⟨a, vs, rfl, ea, pr⟩ := id hM
    obtain ⟨a2, vs2, rfl, ea2, pr2⟩ := id hT
    have hl : vs.length = m.length := pr.length
    have hl2 : vs2.length = ts.length := pr2.length
    have hlm : ts.length = m.length := by
      have := congrArg List.length g1
      rwa [List.length_map, List.length_map] at this
    refine ⟨_, pss_cons (ps_if (PW.pt (pw_or (pt_not (pt_val (pe_isi bt_tuple T.isi T.tuple_ (pv 2)))) (pw_or1 (pt_cmpR op_ne (pe_callB call_lenH rfl T.len_ boot_len (pa_cons (pv 2) pa_nil)) (pe_callB call_lenH rfl T.len_ boot_len (pa_cons (pv 0) pa_nil)) (nomark _))))) (pss_one ps_never) pss_nil)
      (pss_one (ps_for PassesOwn.never rfl (pi_enumT rfl T.enum_ (pa_cons (pv 2) pa_nil)) (pg_tup rfl (pgs_cons (pg_name (i := 3) sc22.nd rfl (.inl rfl)) (pgs_cons (pg_name (i := 4) sc22.nd rfl (.inl rfl)) pgs_nil)))
        (pss_cons (ps_if (PW.pt (pw_or (pt_not (pt_val (pe_isi bt_tuple T.isi T.tuple_ (pv 4)))) (pw_or1 (pt_cmpR op_ne (pe_callB call_lenH rfl T.len_ boot_len (pa_cons (pv 4) pa_nil)) (pe_callB call_lenH rfl T.len_ boot_len (pa_cons (pe_ix ix_tupH (pv 0) (pv 3) (fun _ _ => rfl)) pa_nil)) (nomark _))))) (pss_one ps_never) pss_nil)
        (pss_one (ps_if (pt_not (pt_val (pe_allG (k := 3) hr rfl sc22.nd rfl T.all_ TB rfl (pi_tup (pv 4)) (blkOk_by (N := n22) (sc := defScope (top 22)) (own := [("row", 5)]) (by decide +kernel)) ⟨rfl, by decide +kernel, by decide +kernel⟩ (fun _ _ _ _ _ _ _ => pg_name (i := 5) sc22.nd rfl (Or.inl rfl))
          (fun _ _ _ _ _ _ _ hr' => pe_cal cR hr' rfl (pa_cons (pv 5) (pa_cons (pv 1) pa_nil)))))) (pss_one ps_never) pss_nil))))), ?_⟩
    refine ⟨_, rfl, _, _, _, _, rfl, .tup ea2, kit_tup_tup, true, rfl, iteF ?_⟩
    refine ⟨_, rfl, a2, _, rfl, .inr ea2, _, rfl, a, _, rfl, .inr ea, rfl, _, rfl, iteNS (by rw [hl2, hl, hlm]) ?_⟩
    refine ⟨_, rfl, a2, vs2, rfl, SqT.of ea2, ?_⟩
    refine for_enumT (xs := vs2) (fun i σ H1 => ∃ y1 y2, σ = [some (.ref a), some (.int M), some (.ref a2), y1, y2, none] ∧ Ex [] H H1) ⟨none, none, rfl, Ex.refl _ _⟩ ?_ ?_ ?_
    · rintro i σ H1 _ ⟨y1, y2, rfl, x1⟩
      exact SqT.of (x1.tup _ _ ea2)
    · rintro i x σ H1 U hx ⟨y1, y2, rfl, x1⟩ hU
      obtain ⟨rs, hrs, b, ws, rfl, eb, pb⟩ := paired_getL pr2 hx
      have hi : i < m.length := by
        have := (List.getElem?_eq_some_iff.mp hrs).1
        omega
      obtain ⟨z, hz, d, ds, rfl, ed, pd⟩ := paired_get pr (List.getElem?_eq_getElem hi)
      have hwl : ws.length = rs.length := pb.length
      have hdl : ds.length = m[i].length := pd.length
      have hlen : rs.length = m[i].length := by
        have h1 : (ts.map List.length)[i]? = (m.map List.length)[i]? := by rw [g1]
        rw [List.getElem?_map, List.getElem?_map, hrs, List.getElem?_eq_getElem hi] at h1
        exact Option.some.inj h1
      have x2 : Ex [] H (upd H1 U (.tup [.int (i : Nat), .ref b])) := x1.upd_new (x1.there _ hU)
      have eb2 := x2.tup _ _ eb
      have tb2 := tb.ex x2
      refine ⟨U, _, rfl, SqT.of upd_same, rfl, _, _, rfl, _, _, rfl, rfl, ?_⟩
      refine ⟨_, rfl, _, _, _, _, rfl, .tup eb2, kit_tup_tup, true, rfl, iteF ?_⟩
      refine ⟨_, rfl, b, _, rfl, .inr eb2, _, rfl, _, rfl, a, vs, (i : Int), _, rfl, rfl, x2.tup _ _ ea, atI_nat hz, d, ds, rfl, .inr (x2.tup _ _ ed), rfl, _, rfl, iteNS (by rw [hwl, hdl, hlen]) ?_⟩
      refine ⟨_, rfl, b, rfl, ⟨ws, SqT.of eb2⟩, tb2.h22, fun H3 hT3 => ?_⟩
      have x3 : Ex [] (upd H1 U (.tup [.int (i : Nat), .ref b])) H3 := .tabbed tb2.h22 hT3
      refine all_tup (xs := ws) (fun i H' => Ex [] H H') (x2.trans x3) (fun i H' _ x => SqT.of (x.tup _ _ eb)) (fun j y H' hy p => ?_) (fun H' p => ⟨_, rfl, iteF ⟨_, _, rfl, p⟩⟩)
      refine ⟨rfl, ?_⟩
      obtain ⟨r, hn, hO⟩ := paired_getL pb hy
      refine ⟨_, rfl, _, rfl, y, M, 8, r, rfl, hO.ex p, p.tab _ tb.h21, g2 rs (List.mem_of_getElem? hrs) r (List.mem_of_getElem? hn), fun H4 x4 => ⟨true, rfl, iteT (p.trans x4)⟩⟩
    · rintro σ H1 ⟨y1, y2, rfl, x1⟩
      exact q H1 x1

/-! ### need_house -/
theorem sc23 : FnScope ["machine", "marks", "table"] ["machine", "marks", "table"] (defScope (top 23)) := ⟨rfl, rfl, rfl, by decide +kernel, rfl, by decide +kernel, by decide +kernel⟩
def spHouse (B : Tab5) : Sp := fun vs H Q _ => ∃ (v u : V) (M : Nat) (m : List (List Nat)) (ts : List (List (List Int))), vs = [v, .int (M : Int), u] ∧ 1 ≤ M ∧ M ≤ 4 ∧ Mac H v m ∧ GoodMac m ∧ Tab H u ts ∧ GoodTab (M : Int) m ts ∧ TbOk B H ∧ ∀ H', Ex [] H H' → Q .non H'
theorem ok23 {f : Addr} {fd : FuncData} {B : Tab5} (F : FnP K "need_house" 23 [] f fd) (c14 : Cal P w K mg base 5 "need_machine" ["value"] [] (spNeedMac B)) (c20 : Cal P w K mg base 2 "need_marks" ["value"] [] spMarks) (c22 : Cal P w K mg base 5 "need_table" ["machine", "marks", "value"] [] (spNeedTab B)) :
    FnOk P w K mg base CX0 6 f fd ["machine", "marks", "table"] (spHouse B) := by
  refine okD F sc23 (fun vs H Q E h => ?_) (fun cdv A outer s H vs Q E hcd hr h => ?_)
  · obtain ⟨v, u, M, m, ts, rfl, _⟩ := h
    rfl
  · obtain ⟨v, u, M, m, ts, rfl, m1, m4, hM, gM, hT, gT, tb, q⟩ := h
    refine ⟨_, pss_cons (ps_expr (pe_cal c14 hr rfl (pa_cons (pv 0) pa_nil))) (pss_cons (ps_expr (pe_cal c20 (hr.mono (by decide)) rfl (pa_cons (pv 1) pa_nil))) (pss_one (ps_expr (pe_cal c22 hr rfl (pa_cons (pv 0) (pa_cons (pv 1) (pa_cons (pv 2) pa_nil))))))), ?_⟩
    refine ⟨_, rfl, v, m, rfl, hM, gM, tb, fun H1 x1 => ?_⟩
    refine ⟨_, rfl, (M : Int), rfl, by omega, by omega, ?_⟩
    refine ⟨_, rfl, _, rfl, _, rfl, v, u, M, m, ts, rfl, hM.ex x1, hT.ex x1, gT, tb.ex x1, fun H2 x2 => q H2 (x1.trans x2)⟩
end
end K4
set_option Elab.async false
set_option linter.all false
set_option maxRecDepth 100000
set_option maxHeartbeats 2000000
namespace K4
open PySem PySem.Spec PyProof.Rows L2 GxR

/-! ### what a machine comes to -/
inductive Reach (m : List (List Nat)) : Nat → Prop
  | zero : Reach m 0
  | step {s n : Nat} {st : List Nat} (h : Reach m s) (e : m[s]? = some st) (hn : n ∈ st) : Reach m n
theorem Reach.lt {m : List (List Nat)} (g : GoodMac m) {s : Nat} (h : Reach m s) : s < m.length := by
  induction h with
  | zero => exact g.1
  | step h e hn _ => exact (g.2.2 _ (List.mem_of_getElem? e)).2 _ hn
theorem reach_sub {m : List (List Nat)} {fs : List Nat} (h0 : 0 ∈ fs) (hc : ∀ s ∈ fs, ∀ st, m[s]? = some st → ∀ n ∈ st, n ∈ fs) {s : Nat} (h : Reach m s) : s ∈ fs := by
  induction h with
  | zero => exact h0
  | step h e hn ih => exact hc _ ih _ e _ hn
theorem nodup_len : ∀ (n : Nat) (fs : List Nat), fs.Nodup → (∀ x ∈ fs, x < n) → fs.length ≤ n
  | 0, fs, _, h => by
    cases fs with
    | nil => exact Nat.le_refl _
    | cons x r => exact absurd (h x (by simp)) (by omega)
  | n + 1, fs, hd, h => by
    have h1 := nodup_len n (fs.erase n) (hd.erase n) fun x hx => by
      have h2 := h x (List.mem_of_mem_erase hx)
      have h3 : x ≠ n := ((List.Nodup.mem_erase_iff hd).mp hx).1
      omega
    rw [List.length_erase] at h1
    split at h1 <;> omega
abbrev natV (fs : List Nat) : List V := fs.map fun n : Nat => V.int (n : Int)
theorem flat_nat : ∀ fs : List Nat, (natV fs).all flatV = true
  | [] => rfl
  | x :: fs => by
    rw [natV, List.map_cons, List.all_cons, flat_nat fs]
    rfl
theorem inV_nat (n : Nat) : ∀ fs : List Nat, inV (.int (n : Int)) (natV fs) = decide (n ∈ fs)
  | [] => rfl
  | x :: fs => by
    have h := inV_nat n fs
    unfold inV at h ⊢
    rw [natV, List.map_cons, List.any_cons, h]
    have e : eqV (.int (x : Int)) (.int (n : Int)) = decide (n = x) := by
      show ((x : Int) == (n : Int)) = _
      by_cases z : n = x
      · subst z
        simp
      · rw [decide_eq_false z, beq_eq_false_iff_ne]
        omega
    rw [e]
    by_cases z : n = x
    · subst z
      simp
    · simp [z]

theorem natV_snoc (fs : List Nat) (n : Nat) : natV (fs ++ [n]) = natV fs ++ [.int (n : Int)] := by simp [natV]
theorem natV_back : ∀ {ns : List Int}, (∀ z ∈ ns, 0 ≤ z) → natV (ns.map Int.toNat) = ns.map V.int
  | [], _ => rfl
  | z :: ns, h => by
    have h1 := natV_back (ns := ns) fun y hy => h y (List.mem_cons_of_mem _ hy)
    have h2 := h z (by simp)
    rw [natV] at h1
    rw [natV, List.map_cons, List.map_cons, List.map_cons, h1, Int.toNat_of_nonneg h2]

section
variable {P : Program} {w : World} {K : PySem.W.Frag} {mg : Str → Option Value} {base : Heap}

/-! ### states_that_come -/
abbrev n15 : List Str := ["machine", "found", "at", "after", "_"]
theorem sc15 : FnScope n15 ["machine"] (defScope (top 15)) := ⟨rfl, rfl, rfl, by decide +kernel, rfl, by decide +kernel, by decide +kernel⟩
def spCome : Sp := fun vs H Q _ => ∃ (v : V) (m : List (List Nat)), vs = [v] ∧ Mac H v m ∧ GoodMac m ∧ ∀ p (ns : List Nat) H', Ex [] H H' → H' p = some (.lst (natV ns)) → ns.length ≤ m.length → (∀ s, s ∈ ns ↔ Reach m s) → Q (.ref p) H'
theorem ok15 {f : Addr} {fd : FuncData} (F : FnP K "states_that_come" 15 [] f fd) (T : Txt mg) : FnOk P w K mg base CX0 1 f fd ["machine"] spCome := by
  refine okD F sc15 (fun vs H Q E h => ?_) (fun cdv A outer s H vs Q E hcd hr h => ?_)
  · obtain ⟨v, m, rfl, _⟩ := h
    rfl
  · obtain ⟨v, m, rfl, hM, gM, q⟩ := h
    obtain ⟨a, vs, rfl, ea, pr⟩ := id hM
    have hl : vs.length = m.length := pr.length
    refine ⟨_, pss_cons (ps_par (i := 1) (j := 2) rfl sc15.nd rfl rfl (by decide) rfl rfl (pa_cons (pe_lst (pa_cons pe_int pa_nil)) (pa_cons pe_int pa_nil)) (by rfl))
      (pss_cons (ps_while PassesOwn.never (pt_cmpR op_lt (pv 2) (pe_callB call_lenH rfl T.len_ boot_len (pa_cons (pv 1) pa_nil)) (nomark _))
        (pss_cons (ps_for PassesOwn.never rfl (pi_tup (pe_ix ix_tupH (pv 0) (pe_ix ix_lstH (pv 1) (pv 2) (fun _ _ => rfl)) (fun _ _ => rfl))) (pg_tup rfl (pgs_cons (pg_name (i := 3) sc15.nd rfl (.inl rfl)) (pgs_cons (pg_name (i := 4) sc15.nd rfl (.inl rfl)) pgs_nil)))
            (pss_one (ps_if (pt_cmpR op_notIn_seq (pv 3) (pv 1) (by rfl)) (pss_one (ps_expr (pe_bm PySem.F.plainAttrs_list PySem.F.slot_list_append PySem.F.type_list_append mt_append (pv 1) (pa_cons (pv 3) pa_nil)))) pss_nil)))
          (pss_one (ps_aug (i := 2) sc15.nd rfl (.inl rfl) pe_int iop_add))))
      (pss_one (ps_ret (pe_callB cr_sorted rfl T.sorted_ boot_sorted (pa_cons (pv 1) pa_nil))))), ?_⟩
    refine ⟨by decide, fun l hl0 => ⟨_, _, rfl, ?_⟩⟩
    have x0 : Ex [] H (upd H l (.lst [.int 0])) := Ex.new hl0
    -- the walk
    let inv : Nat → List Nat → Hp → Prop := fun at_ fs H1 => Ex [] H H1 ∧ H1 l = some (.lst (natV fs)) ∧ fs.Nodup ∧ (∀ s ∈ fs, Reach m s) ∧ 0 ∈ fs
    refine ⟨fun k σ H1 => ∃ (at_ : Nat) (fs : List Nat) (y3 y4 : Option V), σ = [some (.ref a), some (.ref l), some (.int (at_ : Int)), y3, y4] ∧ k = m.length - at_ ∧ inv at_ fs H1 ∧ (∀ i, i < at_ → ∀ s, fs[i]? = some s → ∀ st, m[s]? = some st → ∀ n ∈ st, n ∈ fs) ∧ at_ ≤ fs.length,
      ⟨m.length, 0, [0], none, none, rfl, rfl, ⟨x0, upd_same, by simp, fun s hs => (by rw [List.mem_singleton.mp hs]; exact .zero), by simp⟩, fun i hi => absurd hi (by omega), Nat.zero_le _⟩, ?_⟩
    rintro k σ H1 ⟨at_, fs, y3, y4, rfl, rfl, ⟨x1, el, nd, hre, h0⟩, hcl, hat⟩
    have hfl : fs.length ≤ m.length := nodup_len _ _ nd fun s hs => (hre s hs).lt gM
    refine ⟨_, rfl, _, rfl, l, _, rfl, .inl el, _, _, rfl, rfl, _, rfl, ite2 (fun e => ?_) (fun e => ?_)⟩
    · have hlt : at_ < fs.length := by
        have := of_decide_eq_true e
        rw [List.length_map] at this
        omega
      obtain ⟨s, hs⟩ : ∃ s, fs[at_]? = some s := ⟨_, List.getElem?_eq_getElem hlt⟩
      have hsr : Reach m s := hre s (List.mem_of_getElem? hs)
      obtain ⟨st, hst⟩ : ∃ st, m[s]? = some st := ⟨_, List.getElem?_eq_getElem (hsr.lt gM)⟩
      obtain ⟨u, hu, b, ws, rfl, eb, pb⟩ := paired_get pr hst
      have hwl : ws.length = st.length := pb.length
      refine ⟨fun σ' H' => ∃ (fs' : List Nat) (y3 y4 : Option V), σ' = [some (.ref a), some (.ref l), some (.int ((at_ + 1 : Nat) : Int)), y3, y4] ∧ inv (at_ + 1) fs' H' ∧ (∀ i, i < at_ + 1 → ∀ s, fs'[i]? = some s → ∀ st, m[s]? = some st → ∀ n ∈ st, n ∈ fs') ∧ at_ + 1 ≤ fs'.length,
        fun σ' H' ⟨fs', y3, y4, e1, e2, e3, e4⟩ => ⟨m.length - (at_ + 1), by omega, at_ + 1, fs', y3, y4, e1, rfl, e2, e3, e4⟩, ?_⟩
      refine ⟨_, rfl, _, rfl, _, rfl, l, natV fs, (at_ : Int), .int (s : Int), rfl, rfl, el, atI_nat (by rw [List.getElem?_map, hs]; rfl), a, vs, (s : Int), .ref b, rfl, rfl, x1.tup _ _ ea, atI_nat hu, b, rfl, ⟨ws, SqT.of (x1.tup _ _ eb)⟩, ?_⟩
      refine for_tup (xs := ws) (fun i σ H2 => ∃ (ext : List Nat) (y3 y4 : Option V), σ = [some (.ref a), some (.ref l), some (.int (at_ : Int)), y3, y4] ∧ inv at_ (fs ++ ext) H2 ∧ (∀ n ∈ st.take i, n ∈ fs ++ ext))
        ⟨[], y3, y4, rfl, by rw [List.append_nil]; exact ⟨x1, el, nd, hre, h0⟩, fun n hn => absurd hn (by simp)⟩ ?_ ?_ ?_
      · rintro i σ H2 _ ⟨ext, y3, y4, rfl, ⟨x2, _⟩, _⟩
        exact SqT.of (x2.tup _ _ eb)
      · rintro i x σ H2 hx ⟨ext, y3, y4, rfl, ⟨x2, el2, nd2, hre2, h02⟩, hin⟩
        obtain ⟨n, hn, c, wv, rfl, ec, gw⟩ := paired_getL pb hx
        have hnr : Reach m n := .step hsr hst (List.mem_of_getElem? hn)
        have hfl2 : (fs ++ ext).length ≤ m.length := nodup_len _ _ nd2 fun s hs => (hre2 s hs).lt gM
        have tk : st.take (i + 1) = st.take i ++ [n] := take_snoc hn
        refine ⟨c, _, rfl, SqT.of (x2.tup _ _ ec), rfl, _, _, rfl, _, _, rfl, rfl, ?_⟩
        refine ⟨_, rfl, _, rfl, l, _, rfl, .inl (SqL.of el2), rfl, flat_nat _, _, rfl, ?_⟩
        rw [if_pos rfl, inV_nat]
        refine ite2 (fun e2 => ?_) (fun e2 => ?_)
        · have hni : n ∉ fs ++ ext := fun z => by rw [decide_eq_true z] at e2; cases e2
          refine ⟨.ref l, rfl, .inl ⟨rfl, _, SqL.of el2⟩, _, rfl, l, natV (fs ++ ext), .int (n : Int), rfl, rfl, el2, ?_, ?_⟩
          · rw [List.length_map]
            have := gM.2.1
            exact small1000 (by omega)
          · refine ⟨ext ++ [n], _, _, rfl, ⟨x2.upd_new hl0, ?_, ?_, ?_, ?_⟩, ?_⟩
            · rw [upd_same, ← List.append_assoc, natV_snoc]
            · rw [← List.append_assoc]
              exact List.nodup_append.mpr ⟨nd2, by simp, fun x hx y hy => by
                rw [List.mem_singleton.mp hy]
                exact fun z => hni (by rw [← z]; exact hx)⟩
            · intro s hs
              rw [← List.append_assoc] at hs
              rcases List.mem_append.mp hs with h | h
              · exact hre2 s h
              · rw [List.mem_singleton.mp h]
                exact hnr
            · rw [← List.append_assoc]
              exact List.mem_append_left _ h02
            · intro z hz
              rw [tk] at hz
              rw [← List.append_assoc]
              rcases List.mem_append.mp hz with h | h
              · exact List.mem_append_left _ (hin z h)
              · exact List.mem_append_right _ h
        · have hni : n ∈ fs ++ ext := by
            by_cases z : n ∈ fs ++ ext
            · exact z
            · exact absurd (by rw [decide_eq_false z] <;> rfl) e2
          refine ⟨ext, _, _, rfl, ⟨x2, el2, nd2, hre2, h02⟩, fun z hz => ?_⟩
          rw [tk] at hz
          rcases List.mem_append.mp hz with h | h
          · exact hin z h
          · rw [List.mem_singleton.mp h]
            exact hni
      · rintro σ H2 ⟨ext, y3, y4, rfl, ⟨x2, el2, nd2, hre2, h02⟩, hin⟩
        rw [hwl, List.take_length] at hin
        refine ⟨_, rfl, _, _, rfl, rfl, fs ++ ext, y3, y4, rfl, ⟨x2, el2, nd2, hre2, h02⟩, fun i hi s' hs' st' hst' n hn => ?_, by rw [List.length_append]; omega⟩
        rw [List.getElem?_append_left (by omega)] at hs'
        by_cases hia : i = at_
        · subst hia
          rw [hs] at hs'
          obtain rfl := Option.some.inj hs'
          rw [hst] at hst'
          obtain rfl := Option.some.inj hst'
          exact hin n hn
        · exact List.mem_append_left _ (hcl i (by omega) s' hs' st' hst' n hn)
    · have hge : fs.length ≤ at_ := by
        have e : ¬ ((at_ : Int) < ((natV fs).length : Int)) := fun z => e (decide_eq_true z)
        rw [List.length_map] at e
        omega
      refine ⟨_, rfl, l, fs.map fun n : Nat => (n : Int), rfl, SqL.of (by rw [el, List.map_map]; rfl), ?_, fun ns p hp _ hn => ?_⟩
      · rw [List.length_map]
        have := gM.2.1
        omega
      · have hall : ∀ z ∈ ns, ∃ n : Nat, n ∈ fs ∧ z = (n : Int) := fun z hz => by
          obtain ⟨n, h1, h2⟩ := List.mem_map.mp (hp.mem_iff.mp hz)
          exact ⟨n, h1, h2.symm⟩
        refine q p (ns.map Int.toNat) _ (x1.upd_new (x1.there _ hn)) ?_ (by rw [List.length_map, hp.length_eq, List.length_map]; exact hfl) ?_
        · rw [upd_same, natV_back fun z hz => by
            obtain ⟨n, _, e⟩ := hall z hz
            omega]
        · intro s
          constructor
          · intro hs
            obtain ⟨z, hz, rfl⟩ := List.mem_map.mp hs
            obtain ⟨n, h1, rfl⟩ := hall z hz
            exact hre _ h1
          · intro hs
            have h1 : s ∈ fs := reach_sub h0 (fun s' hs' st hst n hn => by
              obtain ⟨i, hi⟩ := List.getElem?_of_mem hs'
              have := (List.getElem?_eq_some_iff.mp hi).1
              exact hcl i (by omega) s' hi st hst n hn) hs
            exact List.mem_map.mpr ⟨(s : Int), hp.mem_iff.mpr (List.mem_map.mpr ⟨s, h1, rfl⟩), by omega⟩
end
end K4
set_option Elab.async false
set_option linter.all false
set_option maxRecDepth 100000
set_option maxHeartbeats 2000000
namespace K4
open PySem PySem.Spec PyProof.Rows L2 GxR

/-- no row of a table that is come to begins another of the same table -/
def Apart (m : List (List Nat)) (ts : List (List (List Int))) : Prop := ∀ s, Reach m s → ∀ rs, ts[s]? = some rs → ∀ i j, ¬ Cl rs i j
theorem GoodTab.len {M : Int} {m : List (List Nat)} {ts : List (List (List Int))} (g : GoodTab M m ts) : ts.length = m.length := by
  have := congrArg List.length g.1
  rwa [List.length_map, List.length_map] at this
theorem GoodTab.small {M : Int} {m : List (List Nat)} {ts : List (List (List Int))} (g : GoodTab M m ts) (gm : GoodMac m) {s : Nat} {rs : List (List Int)} (h : ts[s]? = some rs) : rs.length ≤ 6 := by
  have hi : s < m.length := by
    have := (List.getElem?_eq_some_iff.mp h).1
    have := g.len
    omega
  have h1 : (ts.map List.length)[s]? = (m.map List.length)[s]? := by rw [g.1]
  rw [List.getElem?_map, List.getElem?_map, h, List.getElem?_eq_getElem hi] at h1
  have h2 := (gm.2.2 _ (List.getElem_mem hi)).1
  have h3 : rs.length = m[s].length := Option.some.inj h1
  omega

section
variable {P : Program} {w : World} {K : PySem.W.Frag} {mg : Str → Option Value} {base : Heap}

/-! ### apart_at -/
theorem sc30 : FnScope ["machine", "table", "state"] ["machine", "table"] (defScope (top 30)) := ⟨rfl, rfl, rfl, by decide +kernel, rfl, by decide +kernel, by decide +kernel⟩
def spApartAt : Sp := fun vs H Q _ => ∃ (v u : V) (M : Int) (m : List (List Nat)) (ts : List (List (List Int))), vs = [v, u] ∧ Mac H v m ∧ GoodMac m ∧ Tab H u ts ∧ GoodTab M m ts ∧ ∀ z H', Ex [] H H' → (z = .non ↔ Apart m ts) → Q z H'
theorem ok30 {f : Addr} {fd : FuncData} (F : FnP K "apart_at" 30 [] f fd) (c15 : Cal P w K mg base 1 "states_that_come" ["machine"] [] spCome) (c25 : Cal P w K mg base 2 "first_clash" ["rows"] [] spClash) :
    FnOk P w K mg base CX0 3 f fd ["machine", "table"] spApartAt := by
  refine okD F sc30 (fun vs H Q E h => ?_) (fun cdv A outer s H vs Q E hcd hr h => ?_)
  · obtain ⟨v, u, M, m, ts, rfl, _⟩ := h
    rfl
  · obtain ⟨v, u, M, m, ts, rfl, hM, gM, hT, gT, q⟩ := h
    obtain ⟨a2, vs2, rfl, ea2, pr2⟩ := id hT
    have hl2 : vs2.length = ts.length := pr2.length
    refine ⟨_, pss_cons (ps_for PassesOwn.never rfl (pi_list (pe_cal c15 (hr.mono (by decide)) rfl (pa_cons (pv 0) pa_nil))) (pg_name (i := 2) sc30.nd rfl (.inl rfl))
        (pss_one (ps_if (pt_cmpR op_notN (pe_cal c25 hr rfl (pa_cons (pe_ix ix_tupH (pv 1) (pv 2) (fun _ _ => rfl)) pa_nil)) pe_non (nomark _)) (pss_one (ps_ret (pv 2))) pss_nil)))
      (pss_one (ps_ret pe_non)), ?_⟩
    refine ⟨_, rfl, v, m, rfl, hM, gM, fun p ns H1 x1 e1 _ hR => ⟨p, rfl, ⟨_, SqL.of e1⟩, ?_⟩⟩
    refine for_list (xs := natV ns) (fun i σ H2 => ∃ y2, σ = [some v, some (.ref a2), y2] ∧ Ex [] H1 H2 ∧ ∀ s ∈ ns.take i, ∀ rs, ts[s]? = some rs → ∀ i j, ¬ Cl rs i j)
      ⟨none, rfl, Ex.refl _ _, fun s hs => absurd hs (by simp)⟩ ?_ ?_ ?_
    · rintro i σ H2 _ ⟨y2, rfl, x2, _⟩
      exact SqL.of (x2.lst0 e1)
    · rintro i x σ H2 hx ⟨y2, rfl, x2, hno⟩
      obtain ⟨s, hs, hsi, rfl⟩ := nat_at hx
      have hsr := (hR s).mp hs
      obtain ⟨rs, hrs⟩ : ∃ rs, ts[s]? = some rs := ⟨_, List.getElem?_eq_getElem (by rw [gT.len]; exact hsr.lt gM)⟩
      obtain ⟨z, hz, hRows⟩ := paired_get pr2 hrs
      have x12 := x1.trans x2
      refine ⟨_, rfl, _, rfl, a2, vs2, (s : Int), z, rfl, rfl, x12.tup _ _ ea2, atI_nat hz, z, rs, rfl, hRows.ex x12, ?_, fun o u H3 x3 hF hV => ?_⟩
      · have := gT.small gM hrs
        omega
      · cases o with
        | none =>
          obtain rfl : u = .non := hV
          refine ⟨rfl, _, rfl, iteF ⟨_, rfl, x2.trans x3, fun s' hs' rs' hrs' => ?_⟩⟩
          rw [take_snoc hsi] at hs'
          rcases List.mem_append.mp hs' with h | h
          · exact hno s' h rs' hrs'
          · obtain rfl := List.mem_singleton.mp h
            rw [hrs] at hrs'
            obtain rfl := Option.some.inj hrs'
            exact hF
        | some ij =>
          obtain ⟨i', j'⟩ := ij
          obtain ⟨b, rfl, eb⟩ := hV
          refine ⟨rfl, _, rfl, iteT ⟨_, rfl, ?_⟩⟩
          refine q _ H3 (x12.trans x3) ⟨fun z => (by cases z), fun z => ?_⟩
          exact absurd hF.1 (z s hsr rs hrs i' j')
    · rintro σ H2 ⟨y2, rfl, x2, hno⟩
      refine q .non H2 (x1.trans x2) ⟨fun _ s hs rs hrs => ?_, fun _ => rfl⟩
      rw [List.length_map, List.take_length] at hno
      exact hno s ((hR s).mpr hs) rs hrs

/-! ### is_apart -/
theorem sc31 : FnScope ["machine", "marks", "table"] ["machine", "marks", "table"] (defScope (top 31)) := ⟨rfl, rfl, rfl, by decide +kernel, rfl, by decide +kernel, by decide +kernel⟩
def spApart (B : Tab5) : Sp := fun vs H Q _ => ∃ (v u : V) (M : Nat) (m : List (List Nat)) (ts : List (List (List Int))), vs = [v, .int (M : Int), u] ∧ 1 ≤ M ∧ M ≤ 4 ∧ Mac H v m ∧ GoodMac m ∧ Tab H u ts ∧ GoodTab (M : Int) m ts ∧ TbOk B H ∧
  ∀ b H', Ex [] H H' → (b = true ↔ Apart m ts) → Q (.bl b) H'
theorem ok31 {f : Addr} {fd : FuncData} {B : Tab5} (F : FnP K "is_apart" 31 [] f fd) (c23 : Cal P w K mg base 6 "need_house" ["machine", "marks", "table"] [] (spHouse B)) (c30 : Cal P w K mg base 3 "apart_at" ["machine", "table"] [] spApartAt) :
    FnOk P w K mg base CX0 7 f fd ["machine", "marks", "table"] (spApart B) := by
  refine okD F sc31 (fun vs H Q E h => ?_) (fun cdv A outer s H vs Q E hcd hr h => ?_)
  · obtain ⟨v, u, M, m, ts, rfl, _⟩ := h
    rfl
  · obtain ⟨v, u, M, m, ts, rfl, m1, m4, hM, gM, hT, gT, tb, q⟩ := h
    refine ⟨_, pss_cons (ps_expr (pe_cal c23 hr rfl (pa_cons (pv 0) (pa_cons (pv 1) (pa_cons (pv 2) pa_nil))))) (pss_one (ps_ret (pe_cmpR op_isN (pe_cal c30 (hr.mono (by decide)) rfl (pa_cons (pv 0) (pa_cons (pv 2) pa_nil))) pe_non (nomark _)))), ?_⟩
    refine ⟨_, rfl, _, rfl, _, rfl, v, u, M, m, ts, rfl, m1, m4, hM, gM, hT, gT, tb, fun H1 x1 => ?_⟩
    refine ⟨_, rfl, _, rfl, v, u, (M : Int), m, ts, rfl, hM.ex x1, gM, hT.ex x1, gT, fun z H2 x2 hz => ⟨rfl, q _ H2 (x1.trans x2) ?_⟩⟩
    rw [decide_eq_true_iff]
    exact hz
end
end K4
set_option Elab.async false
set_option linter.all false
set_option maxRecDepth 100000
set_option maxHeartbeats 2000000
namespace K4
open PySem PySem.Spec PyProof.Rows L2 GxR

/-! ### the law's own drawing of numbers -/
/-- the script at sc is read at any time -/
def Scr (K : PySem.W.Frag) (H : Hp) (ar sc : Addr) (xs : List V) : Prop := (sc ≠ ar ∧ Rd H sc (.lst xs)) ∨
  ∃ (o : Obj) (its : Array Value) (n : Nat), K.lookup sc = some o ∧ o.cls = .type "list" ∧ o.dict = none ∧ o.data = .seq its n ∧ its.size ≤ sizeLine ∧ Vals xs its.toList
theorem Scr.sq {K : PySem.W.Frag} {H : Hp} {ar sc : Addr} {xs : List V} (h : Scr K H ar sc xs) : SqL K H sc xs := h.elim (fun h => .inl h.2) .inr
theorem Scr.ex {K : PySem.W.Frag} {H H' : Hp} {ar sc : Addr} {xs : List V} (a : Ex [ar] H H') (h : Scr K H ar sc xs) : Scr K H' ar sc xs := by
  rcases h with ⟨n, h⟩ | h
  · refine .inl ⟨n, ?_⟩
    rcases h with h | ⟨o, h⟩
    · exact .inl (a.lst (by simpa using n) h)
    · exact .inr ⟨o, a.keep sc _ (by simpa using n) h fun ps z => by cases z⟩
  · exact .inr h
/-- the row of the law's state: the script, where it stands, two numbers -/
def RowOk (K : PySem.W.Frag) (sc : Addr) (xs : List Int) (H : Hp) (ar : Addr) : Prop := ∃ (p : Nat) (s r : Int), H ar = some (.lst [.ref sc, .int (p : Int), .int s, .int r]) ∧ Scr K H ar sc (xs.map V.int)
section
variable {K : PySem.W.Frag} {sc : Addr} {xs : List Int}
theorem RowOk.here {H : Hp} {ar : Addr} (h : RowOk K sc xs H ar) : H ar ≠ none := by
  obtain ⟨p, s, r, e, _⟩ := h
  rw [e]
  exact fun z => by cases z
/-- other changes leave it -/
theorem RowOk.ex {H H' : Hp} {ar : Addr} (h : RowOk K sc xs H ar) (x : Ex [] H H') : RowOk K sc xs H' ar := by
  obtain ⟨p, s, r, e, t⟩ := h
  exact ⟨p, s, r, x.lst0 e, t.ex x.any⟩
theorem RowOk.new {H : Hp} {ar b : Addr} {o : HO} (h : RowOk K sc xs H ar) (hb : H b = none) : RowOk K sc xs (upd H b o) ar := h.ex (Ex.new hb)
/-- a list that came later is written -/
theorem RowOk.later {H H' : Hp} {ar b : Addr} {o : HO} (h : RowOk K sc xs H ar) (x : Ex [ar] H H') (h' : RowOk K sc xs H' ar) (hb : H b = none) : RowOk K sc xs (upd H' b o) ar := by
  obtain ⟨p, s, r, e, t⟩ := h
  obtain ⟨p', s', r', e', t'⟩ := h'
  refine ⟨p', s', r', ?_, t.ex (x.upd_new hb)⟩
  rw [upd_ne (fun z => by rw [z, hb] at e; cases e)]
  exact e'
end

section
variable {P : Program} {w : World} {K : PySem.W.Frag} {mg : Str → Option Value} {base : Heap}
abbrev n37 : List Str := ["_law_row_here", "_law_many", "_law_found", "_law_cell"]
theorem sc37 : FnScope n37 ["_law_row_here", "_law_many"] (defScope (top 37)) := ⟨rfl, rfl, rfl, by decide +kernel, rfl, by decide +kernel, by decide +kernel⟩
/-- some number below n -/
def spTaken (K : PySem.W.Frag) : Sp := fun vs H Q _ => ∃ (ar sc : Addr) (xs : List Int) (n : Nat), vs = [.ref ar, .int (n : Int)] ∧ 1 ≤ n ∧ n ≤ 1000 ∧ RowOk K sc xs H ar ∧ ∀ (v : Nat) H', v < n → Ex [ar] H H' → RowOk K sc xs H' ar → Q (.int (v : Int)) H'
theorem rest_lt {i : Int} {n : Nat} (h : 1 ≤ n) : ∃ v : Nat, v < n ∧ i % (n : Int) = (v : Int) := by
  have h1 : 0 ≤ i % (n : Int) := Int.emod_nonneg _ (by omega)
  have h2 : i % (n : Int) < (n : Int) := Int.emod_lt_of_pos _ (by omega)
  exact ⟨(i % (n : Int)).toNat, by omega, by omega⟩
theorem ok37 {f : Addr} {fd : FuncData} (F : FnP K "_law_taken" 37 [] f fd) (T : Txt mg) : FnOk P w K mg base CX0 1 f fd ["_law_row_here", "_law_many"] (spTaken K) := by
  refine okD F sc37 (fun vs H Q E h => ?_) (fun cdv A outer s H vs Q E hcd hr h => ?_)
  · obtain ⟨ar, sc, xs, n, rfl, _⟩ := h
    rfl
  · obtain ⟨ar, sc, xs, n, rfl, h1, h2, ⟨p, sd, r, ear, hsc⟩, q⟩ := h
    refine ⟨_, pss_cons (ps_if (pt_cmpR op_gt (pe_ix ix_lstH (pv 0) pe_int (fun _ _ => rfl)) pe_int (nomark _))
          (pss_cons (ps_set (i := 2) sc37.nd rfl (.inl rfl) (pe_op op_mod (pe_callTy call_int1 rfl T.int_ bt_int (pa_cons (pe_ix ix_lstH (pv 0) pe_int (fun _ _ => rfl)) pa_nil)) (pv 1)))
          (pss_cons (ps_asg (pe_op op_fdiv (pe_ix ix_lstH (pv 0) pe_int (fun _ _ => rfl)) (pv 1)) (pg_sub (pv 0) pe_int set_list (fun _ => rfl)))
          (pss_one (ps_ret (pv 2))))) pss_nil)
      (pss_cons (ps_asg (pe_op op_add (pe_ix ix_lstH (pv 0) pe_int (fun _ _ => rfl)) pe_int) (pg_sub (pv 0) pe_int set_list (fun _ => rfl)))
      (pss_cons (ps_if (pt_cmpR op_gt (pe_ix ix_lstH (pv 0) pe_int (fun _ _ => rfl)) (pe_callB call_len_seq rfl T.len_ boot_len (pa_cons (pe_ix ix_lstH (pv 0) pe_int (fun _ _ => rfl)) pa_nil)) (nomark _))
          (pss_cons (ps_asg (pe_op op_mod (pe_callTy call_int1 rfl T.int_ bt_int (pa_cons (pe_op op_add (pe_op op_mul (pe_ix ix_lstH (pv 0) pe_int (fun _ _ => rfl)) pe_int) pe_int) pa_nil)) pe_int) (pg_sub (pv 0) pe_int set_list (fun _ => rfl)))
          (pss_one (ps_ret (pe_op op_mod (pe_callTy call_int1 rfl T.int_ bt_int (pa_cons (pe_op op_fdiv (pe_ix ix_lstH (pv 0) pe_int (fun _ _ => rfl)) pe_int) pa_nil)) (pv 1))))) pss_nil)
      (pss_cons (ps_set (i := 3) sc37.nd rfl (.inl rfl) (pe_ix ix_list (pe_ix ix_lstH (pv 0) pe_int (fun _ _ => rfl)) (pe_op op_sub (pe_ix ix_lstH (pv 0) pe_int (fun _ _ => rfl)) pe_int) (fun _ _ => rfl)))
      (pss_cons (ps_asg (pe_op op_mod (pe_callTy call_int1 rfl T.int_ bt_int (pa_cons (pe_op op_add (pe_op op_add (pe_op op_mul (pe_ix ix_lstH (pv 0) pe_int (fun _ _ => rfl)) pe_int) (pv 3)) pe_int) pa_nil)) pe_int) (pg_sub (pv 0) pe_int set_list (fun _ => rfl)))
      (pss_cons (ps_if (pt_cmpR op_ge (pv 3) (pe_op op_pow pe_int pe_int) (nomark _))
          (pss_one (ps_asg (pe_op op_fdiv (pv 3) (pv 1)) (pg_sub (pv 0) pe_int set_list (fun _ => rfl)))) pss_nil)
      (pss_one (ps_ret (pe_op op_mod (pe_callTy call_int1 rfl T.int_ bt_int (pa_cons (pv 3) pa_nil)) (pv 1))))))))), ?_⟩
    have cd : CDiv r (n : Int) := ⟨by omega, by omega⟩
    have wr : ∀ {H1 : Hp} {ys : List V} {p' : Nat} {s' r' : Int}, Ex [ar] H H1 → H1 ar = some (.lst ys) → Ex [ar] H (upd H1 ar (.lst [.ref sc, .int (p' : Int), .int s', .int r'])) ∧ RowOk K sc xs (upd H1 ar (.lst [.ref sc, .int (p' : Int), .int s', .int r'])) ar := fun {H1 ys p' s' r'} x e => by
      have x' := x.wr (o := .lst [.ref sc, .int (p' : Int), .int s', .int r']) (by simp) e
      exact ⟨x', p', s', r', upd_same, hsc.ex x'⟩
    have fin : ∀ (i : Int) H', Ex [ar] H H' → RowOk K sc xs H' ar → Q (.int (i % (n : Int))) H' := fun i H' x o => by
      obtain ⟨v, hv, ev⟩ := rest_lt (i := i) h1
      rw [ev]
      exact q v _ hv x o
    refine ⟨_, rfl, ar, _, 3, _, rfl, rfl, ear, rfl, _, _, rfl, rfl, _, rfl, ite2 (fun e => ?_) (fun e => ?_)⟩
    · obtain ⟨x1, ok1⟩ := wr (p' := p) (s' := sd) (r' := r / (n : Int)) (Ex.refl _ H) ear
      refine ⟨_, rfl, ar, _, 3, _, rfl, rfl, ear, rfl, .inl ⟨r, rfl, ?_⟩⟩
      refine ⟨_, rfl, r, n, rfl, rfl, by omega, ?_⟩
      refine ⟨_, rfl, ar, _, 3, _, rfl, rfl, ear, rfl, _, rfl, r, n, rfl, rfl, cd, ?_⟩
      refine ⟨_, rfl, ar, _, 3, 3, rfl, rfl, ear, rfl, ?_⟩
      exact ⟨_, rfl, fin r _ x1 ok1⟩
    · refine ⟨_, rfl, ar, _, 1, _, rfl, rfl, ear, rfl, _, _, rfl, rfl, _, rfl, ar, _, 1, 1, rfl, rfl, ear, rfl, ?_⟩
      obtain ⟨x1, ok1⟩ := wr (p' := p + 1) (s' := sd) (r' := r) (Ex.refl _ H) ear
      have e1 : upd H ar (.lst [.ref sc, .int ((p + 1 : Nat) : Int), .int sd, .int r]) ar = some (.lst [.ref sc, .int ((p + 1 : Nat) : Int), .int sd, .int r]) := upd_same
      have hsc1 := hsc.ex x1
      show tSeq _ _ _ _ (upd H ar (.lst [.ref sc, .int ((p + 1 : Nat) : Int), .int sd, .int r]))
      generalize upd H ar (.lst [.ref sc, .int ((p + 1 : Nat) : Int), .int sd, .int r]) = H1 at x1 ok1 e1 hsc1
      refine ⟨_, rfl, ar, _, 1, _, rfl, rfl, e1, rfl, _, rfl, ar, _, 0, _, rfl, rfl, e1, rfl, sc, _, rfl, .inl hsc1.sq, _, _, rfl, rfl, _, rfl, ite2 (fun e => ?_) (fun e => ?_)⟩
      · obtain ⟨x2, ok2⟩ := wr (p' := p + 1) (s' := (sd * 48271 + 11) % 2147483647) (r' := r) x1 e1
        refine ⟨_, rfl, ar, _, 2, _, rfl, rfl, e1, rfl, _, _, rfl, rfl, .inr ⟨by omega, by omega⟩, _, _, rfl, rfl, .inl ⟨_, rfl, _, _, rfl, rfl, by omega, ?_⟩⟩
        refine ⟨_, rfl, ar, _, 2, 2, rfl, rfl, e1, rfl, ?_⟩
        refine ⟨_, rfl, ar, _, 2, _, rfl, rfl, upd_same, rfl, _, _, rfl, rfl, ⟨by omega, by omega⟩, .inl ⟨_, rfl, ?_⟩⟩
        refine ⟨_, rfl, _, _, rfl, rfl, by omega, ?_⟩
        exact fin _ _ x2 ok2
      · have hp : p < xs.length := by
          have e : ¬ (((xs.map V.int).length : Int) < ((p + 1 : Nat) : Int)) := fun z => e (decide_eq_true z)
          rw [List.length_map] at e
          omega
        have hat : atI (xs.map V.int) (((p + 1 : Nat) : Int) - 1) = some (V.int xs[p]) := by
          rw [show ((p + 1 : Nat) : Int) - 1 = (p : Int) by omega]
          exact atI_nat (by rw [List.getElem?_map, List.getElem?_eq_getElem hp]; rfl)
        generalize xs[p] = cell at hat
        refine ⟨_, rfl, ar, _, 0, _, rfl, rfl, e1, rfl, _, rfl, ar, _, 1, _, rfl, rfl, e1, rfl, _, _, rfl, rfl, sc, _, _, _, rfl, rfl, hsc1.sq, hat, ?_⟩
        obtain ⟨x2, ok2⟩ := wr (p' := p + 1) (s' := (sd * 48271 + cell + 11) % 2147483647) (r' := r) x1 e1
        refine ⟨_, rfl, ar, _, 2, _, rfl, rfl, e1, rfl, _, _, rfl, rfl, .inr ⟨by omega, by omega⟩, _, rfl, _, _, rfl, rfl, _, _, rfl, rfl, .inl ⟨_, rfl, _, _, rfl, rfl, by omega, ?_⟩⟩
        refine ⟨_, rfl, ar, _, 2, 2, rfl, rfl, e1, rfl, ?_⟩
        have e2 : upd H1 ar (.lst [.ref sc, .int ((p + 1 : Nat) : Int), .int ((sd * 48271 + cell + 11) % 2147483647), .int r]) ar = some (.lst [.ref sc, .int ((p + 1 : Nat) : Int), .int ((sd * 48271 + cell + 11) % 2147483647), .int r]) := upd_same
        show tSeq _ _ _ _ (upd H1 ar (.lst [.ref sc, .int ((p + 1 : Nat) : Int), .int ((sd * 48271 + cell + 11) % 2147483647), .int r]))
        generalize upd H1 ar (.lst [.ref sc, .int ((p + 1 : Nat) : Int), .int ((sd * 48271 + cell + 11) % 2147483647), .int r]) = H2 at x2 ok2 e2
        refine ⟨_, rfl, _, _, rfl, rfl, ⟨by omega, by omega, by decide⟩, _, _, rfl, rfl, _, rfl, ite2 (fun e => ?_) (fun e => ?_)⟩
        · obtain ⟨x3, ok3⟩ := wr (p' := p + 1) (s' := (sd * 48271 + cell + 11) % 2147483647) (r' := cell / (n : Int)) x2 e2
          refine ⟨_, rfl, _, rfl, _, _, rfl, rfl, ⟨by omega, by omega⟩, ?_⟩
          refine ⟨_, rfl, ar, _, 3, 3, rfl, rfl, e2, rfl, ?_⟩
          refine ⟨_, rfl, .inl ⟨_, rfl, _, rfl, _, _, rfl, rfl, by omega, ?_⟩⟩
          exact fin _ _ x3 ok3
        · refine ⟨_, rfl, .inl ⟨_, rfl, _, rfl, _, _, rfl, rfl, by omega, ?_⟩⟩
          exact fin _ _ x2 ok2
end
end K4
set_option Elab.async false
set_option linter.all false
set_option maxRecDepth 100000
set_option maxHeartbeats 2000000
namespace K4
open PySem PySem.Spec PyProof.Rows L2 GxR

section
variable {P : Program} {w : World} {K : PySem.W.Frag} {mg : Str → Option Value} {base : Heap}

/-! ### _law_row -/
abbrev n38 : List Str := ["_law_row_here", "_law_marks", "_law_most", "_law_place"]
theorem sc38 : FnScope n38 ["_law_row_here", "_law_marks", "_law_most"] (defScope (top 38)) := ⟨rfl, rfl, rfl, by decide +kernel, rfl, by decide +kernel, by decide +kernel⟩
def spRow (K : PySem.W.Frag) : Sp := fun vs H Q _ => ∃ (ar sc : Addr) (xs : List Int) (M most : Nat), vs = [.ref ar, .int (M : Int), .int (most : Int)] ∧ 1 ≤ M ∧ M ≤ 4 ∧ 1 ≤ most ∧ most ≤ 8 ∧ RowOk K sc xs H ar ∧
  ∀ u r H', Ex [ar] H H' → RowOk K sc xs H' ar → Row H' u r → GoodRow (M : Int) (most : Int) r → Q u H'
theorem ok38 {f : Addr} {fd : FuncData} (F : FnP K "_law_row" 38 [] f fd) (T : Txt mg) (cT : Cal P w K mg base 1 "_law_taken" ["_law_row_here", "_law_many"] [] (spTaken K)) : FnOk P w K mg base CX0 2 f fd ["_law_row_here", "_law_marks", "_law_most"] (spRow K) := by
  refine okD F sc38 (fun vs H Q E h => ?_) (fun cdv A outer s H vs Q E hcd hr h => ?_)
  · obtain ⟨ar, sc, xs, M, most, rfl, _⟩ := h
    rfl
  · obtain ⟨ar, sc, xs, M, most, rfl, m1, m4, t1, t8, hok, q⟩ := h
    refine ⟨_, pss_one (ps_ret (pe_callTy call_tuple_of rfl T.tuple_ bt_tuple (pa_cons (pe_lc (own := [("_law_place", 3)]) (g := gName 3) (tt := tYes) rfl sc38.nd (pi_range1 (by rfl) T.range_ (pa_cons (pe_op op_add pe_int (pe_cal cT hr rfl (pa_cons (pv 0) (pa_cons (pv 2) pa_nil)))) pa_nil)) (blkOk_by (N := n38) (sc := defScope (top 38)) (by decide +kernel)) (fun _ _ _ _ _ => pg_name (i := 3) sc38.nd rfl (Or.inl rfl)) (fun _ _ _ _ _ => pts_nil)
      (fun _ _ _ _ _ => pe_cal cT hr rfl (pa_cons (pv 0) (pa_cons (pv 1) pa_nil)))) pa_nil))), ?_⟩
    refine ⟨_, rfl, _, rfl, ar, sc, xs, most, rfl, t1, by omega, hok, fun n H1 hn x1 ok1 => ⟨1, n, rfl, rfl, ?_⟩⟩
    obtain ⟨b1, b2⟩ := small62 (n := 1 + n) (by omega)
    refine ⟨_, rfl, by omega, by omega, fun D hD => ?_⟩
    rw [show ((1 : Int) + (n : Int)).toNat = 1 + n by omega]
    refine lc_rng (n := 1 + n) (fun j H2 => Ex [ar] H1 H2 ∧ RowOk K sc xs H2 ar ∧ ∃ r : List Int, H2 D = some (.lst (r.map V.int)) ∧ r.length = j ∧ ∀ i ∈ r, 0 ≤ i ∧ i < (M : Int)) ⟨Ex.new hD, ok1.new hD, [], upd_same, rfl, fun i hi => absurd hi (by simp)⟩ ?_ ?_
    · rintro j H2 hj ⟨x2, ok2, r, e2, hl, hr2⟩
      have hne : D ≠ ar := fun z => ok1.here (by rw [← z]; exact hD)
      refine ⟨rfl, lcY ⟨_, rfl, _, rfl, ar, sc, xs, M, rfl, m1, by omega, ok2, fun v H3 hv x3 ok3 => ?_⟩⟩
      refine ⟨_, x3.lst (by simpa using hne) e2, ?_, (x2.trans x3).upd_new hD, ok1.later (x2.trans x3) ok3 hD, r ++ [(v : Int)], ?_, by rw [List.length_append, hl]; rfl, fun i hi => ?_⟩
      · rw [List.length_map]
        exact small1000 (by omega)
      · rw [upd_same, List.map_append]
        rfl
      · rcases List.mem_append.mp hi with h | h
        · exact hr2 i h
        · rw [List.mem_singleton.mp h]
          omega
    · rintro H2 ⟨x2, ok2, r, e2, hl, hr2⟩
      refine ⟨D, _, rfl, .inl ⟨SqL.of e2, fun l hl0 => ?_⟩⟩
      refine q _ r _ ((x1.trans x2).upd_new ((x1.trans x2).there _ hl0)) (ok2.new hl0) ⟨l, rfl, upd_same⟩ ⟨by omega, by omega, hr2⟩

/-! ### _law_pick -/
theorem sc43 : FnScope ["_law_row_here", "_law_things"] ["_law_row_here", "_law_things"] (defScope (top 43)) := ⟨rfl, rfl, rfl, by decide +kernel, rfl, by decide +kernel, by decide +kernel⟩
def spPick (K : PySem.W.Frag) : Sp := fun vs H Q _ => ∃ (ar sc l : Addr) (xs : List Int) (ys : List V), vs = [.ref ar, .ref l] ∧ 1 ≤ ys.length ∧ ys.length ≤ 1000 ∧ H l = some (.lst ys) ∧ l ≠ ar ∧ RowOk K sc xs H ar ∧
  ∀ u H', Ex [ar] H H' → RowOk K sc xs H' ar → u ∈ ys → Q u H'
theorem ok43 {f : Addr} {fd : FuncData} (F : FnP K "_law_pick" 43 [] f fd) (T : Txt mg) (cT : Cal P w K mg base 1 "_law_taken" ["_law_row_here", "_law_many"] [] (spTaken K)) : FnOk P w K mg base CX0 2 f fd ["_law_row_here", "_law_things"] (spPick K) := by
  refine okD F sc43 (fun vs H Q E h => ?_) (fun cdv A outer s H vs Q E hcd hr h => ?_)
  · obtain ⟨ar, sc, l, xs, ys, rfl, _⟩ := h
    rfl
  · obtain ⟨ar, sc, l, xs, ys, rfl, y1, y2, el, hne, hok, q⟩ := h
    refine ⟨_, pss_one (ps_ret (pe_ix ix_lstH (pv 1) (pe_cal cT hr rfl (pa_cons (pv 0) (pa_cons (pe_callB call_lenH rfl T.len_ boot_len (pa_cons (pv 1) pa_nil)) pa_nil))) (fun _ _ => rfl))), ?_⟩
    refine ⟨_, rfl, _, rfl, _, rfl, l, ys, rfl, .inl el, ar, sc, xs, ys.length, rfl, y1, y2, hok, fun v H1 hv x1 ok1 => ?_⟩
    exact ⟨l, ys, (v : Int), ys[v], rfl, rfl, x1.lst (by simpa using hne) el, atI_nat (List.getElem?_eq_getElem hv), q _ H1 x1 ok1 (List.getElem_mem hv)⟩

/-! ### _law_low -/
abbrev n42 : List Str := ["_law_above", "_law_beneath", "_law_one", "_law_other"]
theorem sc42 : FnScope n42 ["_law_above", "_law_beneath"] (defScope (top 42)) := ⟨rfl, rfl, rfl, by decide +kernel, rfl, by decide +kernel, by decide +kernel⟩
def spLow : Sp := fun vs H Q _ => ∃ (a b : Nat), vs = [.int (a : Int), .int (b : Int)] ∧ 1 ≤ b ∧ b < 1073741824 ∧ ∀ p H', Ex [] H H' → H' p = some (.tup [.int ((a / Nat.gcd a b : Nat) : Int), .int ((b / Nat.gcd a b : Nat) : Int)]) → Q (.ref p) H'
theorem ok42 {f : Addr} {fd : FuncData} (F : FnP K "_law_low" 42 [] f fd) (T : Txt mg) : FnOk P w K mg base CX0 1 f fd ["_law_above", "_law_beneath"] spLow := by
  refine okD F sc42 (fun vs H Q E h => ?_) (fun cdv A outer s H vs Q E hcd hr h => ?_)
  · obtain ⟨a, b, rfl, _⟩ := h
    rfl
  · obtain ⟨a, b, rfl, b1, b2, q⟩ := h
    refine ⟨_, pss_cons (ps_par (i := 2) (j := 3) rfl sc42.nd rfl rfl (by decide) rfl rfl (pa_cons (pv 0) (pa_cons (pv 1) pa_nil)) (by rfl))
      (pss_cons (ps_while PassesOwn.never (pt_cmpR op_gt (pv 3) pe_int (nomark _)) (pss_one (ps_par (i := 2) (j := 3) rfl sc42.nd rfl rfl (by decide) rfl rfl (pa_cons (pv 3) (pa_cons (pe_op op_mod (pe_callTy call_int1 rfl T.int_ bt_int (pa_cons (pv 2) pa_nil)) (pv 3)) pa_nil)) (by rfl))))
      (pss_one (ps_ret (pe_tup (pa_cons (pe_op op_fdiv (pv 0) (pv 2)) (pa_cons (pe_op op_fdiv (pv 1) (pv 2)) pa_nil)))))), ?_⟩
    refine ⟨_, rfl, _, rfl, _, _, rfl, ?_⟩
    refine ⟨fun m σ H1 => ∃ x y : Nat, σ = [some (.int (a : Int)), some (.int (b : Int)), some (.int (x : Int)), some (.int (y : Int))] ∧ m = y ∧ Nat.gcd x y = Nat.gcd a b ∧ H1 = H, ⟨b, a, b, rfl, rfl, rfl, rfl⟩, ?_⟩
    rintro m σ H1 ⟨x, y, rfl, rfl, hg, rfl⟩
    refine ⟨_, rfl, _, _, rfl, rfl, _, rfl, ?_⟩
    by_cases hy : m = 0
    · subst hy
      rw [Nat.gcd_zero_right] at hg
      have g1 : 0 < Nat.gcd a b := Nat.gcd_pos_of_pos_right a b1
      have g2 := Nat.gcd_le_right a b1
      refine iteF ?_
      refine ⟨_, rfl, _, rfl, _, _, rfl, rfl, ⟨by omega, by omega⟩, _, rfl, _, rfl, _, _, rfl, rfl, ⟨by omega, by omega⟩, (by show 2 ≤ sizeLine; decide), fun p hp => ?_⟩
      refine q p _ (Ex.new hp) ?_
      rw [upd_same, hg, Int.natCast_ediv, Int.natCast_ediv]
    · rw [decide_eq_true (show (0 : Int) < (m : Int) by omega)]
      refine iteT ⟨fun σ' H' => ∃ x y : Nat, σ' = [some (.int (a : Int)), some (.int (b : Int)), some (.int (x : Int)), some (.int (y : Int))] ∧ y < m ∧ Nat.gcd x y = Nat.gcd a b ∧ H' = H1, fun σ' H' ⟨x', y', e1, e2, e3, e4⟩ => ⟨y', e2, x', y', e1, rfl, e3, e4⟩, ?_⟩
      refine ⟨_, rfl, _, rfl, .inl ⟨_, rfl, _, rfl, _, _, rfl, rfl, by omega, _, _, rfl, m, x % m, ?_, Nat.mod_lt _ (by omega), ?_, rfl⟩⟩
      · rw [Int.natCast_emod]
        rfl
      · rw [← hg, Nat.gcd_comm m, ← Nat.gcd_rec, Nat.gcd_comm]
end
end K4
set_option Elab.async false
set_option linter.all false
set_option maxRecDepth 100000
set_option maxHeartbeats 2000000
namespace K4
open PySem PySem.Spec PyProof.Rows L2 GxR

/-! ### isinstance(x, (T, U)) -/
def rTyT : List V → Hp → VK → Prop := fun xs H Q => ∃ (x : V) (tp : Addr) (n1 n2 m : String) (b1 b2 : Bool), xs = [x, .ref tp] ∧ H tp = some (.tup [.ty n1, .ty n2]) ∧ TyN H x m ∧ kitB m n1 = some b1 ∧ kitB m n2 = some b2 ∧ Q (.bl (b1 || b2)) H
theorem call_tyT {X : Cx} : CallR X (.builtin "isinstance") rTyT := by
  intro pins s σ H xs us Q I r h
  obtain ⟨x, tp, n1, n2, m, b1, b2, rfl, e, ty, k1, k2, q⟩ := h
  refine call_isiT pins s σ H _ us Q I r ⟨x, tp, _, .type m, [.type n1, .type n2], b1 || b2, rfl, e, .cons (.ty n1) (.cons (.ty n2) .nil), ty.x, ?_, q⟩
  refine kitAny_cons (kit_ty k1) (fun h1 => ?_) (fun h1 => by rw [h1]; rfl)
  refine kitAny_cons (kit_ty k2) (fun h2 => ?_) (fun h2 => by rw [h2, Bool.or_true])
  rw [h1, h2]
  rfl
section
variable {X : Cx} {e : Expr} {te : TE} {p q1 q2 pos : Pos} {tk : Nat} {tpos : Pos} {x y : Str} {n m : String}
theorem pe_isi2 (hv : bootBuiltins x = some (.type n)) (hv2 : bootBuiltins y = some (.type m)) (hm : X.mg "isinstance" = none) (hm1 : X.mg x = none) (hm2 : X.mg y = none) (he : PE X e te) (hg : Gl X "isinstance" := by rfl) (hg1 : Gl X x := by rfl) (hg2 : Gl X y := by rfl)
    (hn : x ≠ "__name__" := by decide) (hdb : (x == ("__debug__" : Str)) = false := by decide) (hn2 : y ≠ "__name__" := by decide) (hdb2 : (y == ("__debug__" : Str)) = false := by decide)
    (h1 : starEach (e :: [.Tuple [.Name x q1, .Name y q2] tk tpos]) X.env = (false, eval e X.env) :: starEach [.Tuple [.Name x q1, .Name y q2] tk tpos] X.env := by rfl) :
    PE X (.Call (.Name "isinstance" p) [e, .Tuple [.Name x q1, .Name y q2] tk tpos] [] pos) (tCB rTyT (tCons te (tCons (tTup (tCons (tC (.ty n)) (tCons (tC (.ty m)) tNil))) tNil))) :=
  pe_callB call_tyT hg hm boot_isinstance (pa_cons he (pa_cons (pe_tup (pa_cons (pe_bltn hg1 hm1 hv rfl hn hdb) (pa_cons (pe_bltn hg2 hm2 hv2 rfl hn2 hdb2) pa_nil))) pa_nil) h1) (he := h1)
end

section
variable {P : Program} {w : World} {K : PySem.W.Frag} {mg : Str → Option Value} {base : Heap}
/-! ### _law_alike -/
abbrev n40 : List Str := ["_law_found", "_law_due", "_law_k"]
theorem sc40 : FnScope n40 ["_law_found", "_law_due"] (defScope (top 40)) := ⟨rfl, rfl, rfl, by decide +kernel, rfl, by decide +kernel, by decide +kernel⟩
def Scal (v : V) : Prop := v = .non ∨ (∃ b, v = .bl b) ∨ ∃ i, v = .int i
def spAlike1 : Sp := fun vs H Q _ => ∃ v, vs = [v, v] ∧ Scal v ∧ ∀ H', Ex [] H H' → Q (.bl true) H'
theorem ok40a {f : Addr} {fd : FuncData} (F : FnP K "_law_alike" 40 [] f fd) (T : Txt mg) : FnOk P w K mg base CX0 1 f fd ["_law_found", "_law_due"] spAlike1 := by
  refine okD F sc40 (fun vs H Q E h => ?_) (fun cdv A outer s H vs Q E hcd hr h => ?_)
  · obtain ⟨v, rfl, _⟩ := h
    rfl
  · obtain ⟨v, rfl, sv, q⟩ := h
    refine ⟨_, pss_cons (ps_if (pt_val (pe_isi2 bt_tuple bt_list T.isi T.tuple_ T.list_ (pv 1))) pss_never pss_nil)
      (pss_cons (ps_if (PW.pt (pw_or (pt_cmpR op_isN (pv 1) pe_non (nomark _)) (pw_or1 (pt_val (pe_isi bt_str T.isi T.str_ (pv 1))))))
          (pss_one (ps_ret (pe_and (pe_cmpR op_eq (pv 0) (pv 1) (nomark _)) (pe_one (pe_cmpR op_eq (pe_isi bt_str T.isi T.str_ (pv 0)) (pe_isi bt_str T.isi T.str_ (pv 1)) (nomark _)))))) pss_nil)
      (pss_one (ps_ret (pe_and (pe_isi bt_int T.isi T.int_ (pv 0)) (pe_and (pe_cmpR op_eq (pe_isi bt_bool T.isi T.bool_ (pv 0)) (pe_isi bt_bool T.isi T.bool_ (pv 1)) (nomark _)) (pe_one (pe_cmpR op_eq (pv 0) (pv 1) (nomark _)))))))), ?_⟩
    refine ⟨_, rfl, (by show 2 ≤ sizeLine; decide), fun t ht => ?_⟩
    have x1 : Ex [] H (upd H t (.tup [.ty "tuple", .ty "list"])) := Ex.new ht
    rcases sv with rfl | ⟨b, rfl⟩ | ⟨i, rfl⟩
    · refine ⟨_, t, _, _, _, false, false, rfl, upd_same, .non, kit_non_tup, kit_non_list, false, rfl, iteF ?_⟩
      refine ⟨_, rfl, rfl, _, rfl, iteT ?_⟩
      refine ⟨_, rfl, _, rfl, rfl, true, rfl, iteT ?_⟩
      exact ⟨_, rfl, _, _, _, _, rfl, .non, kit_non_str, _, rfl, _, _, _, _, rfl, .non, kit_non_str, rfl, q _ x1⟩
    · refine ⟨_, t, _, _, _, false, false, rfl, upd_same, .bl b, kit_bool_tup, kit_bool_list, false, rfl, iteF ?_⟩
      refine ⟨_, rfl, rfl, false, rfl, iteF ⟨_, rfl, _, _, _, _, rfl, .bl b, kit_bool_str, false, rfl, iteF ?_⟩⟩
      refine ⟨_, rfl, _, _, _, _, rfl, .bl b, kit_bool_int, true, rfl, iteT ?_⟩
      refine ⟨_, rfl, _, _, _, _, rfl, .bl b, kit_bool_bool, _, rfl, _, _, _, _, rfl, .bl b, kit_bool_bool, rfl, true, rfl, iteT ?_⟩
      refine ⟨_, rfl, _, rfl, rfl, ?_⟩
      rw [decide_eq_true rfl]
      exact q _ x1
    · refine ⟨_, t, _, _, _, false, false, rfl, upd_same, .int i, kit_int_tup, kit_int_list, false, rfl, iteF ?_⟩
      refine ⟨_, rfl, rfl, false, rfl, iteF ⟨_, rfl, _, _, _, _, rfl, .int i, kit_int_str, false, rfl, iteF ?_⟩⟩
      refine ⟨_, rfl, _, _, _, _, rfl, .int i, kit_int_int, true, rfl, iteT ?_⟩
      refine ⟨_, rfl, _, _, _, _, rfl, .int i, kit_int_bool, _, rfl, _, _, _, _, rfl, .int i, kit_int_bool, rfl, true, rfl, iteT ?_⟩
      refine ⟨_, rfl, _, rfl, rfl, ?_⟩
      rw [decide_eq_true rfl]
      exact q _ x1
/-- equal scalars, equal tuples of ints -/
def spAlike : Sp := fun vs H Q _ => ∃ u v, vs = [u, v] ∧ ((u = v ∧ Scal v) ∨ ∃ r, r.length ≤ 1000 ∧ Row H u r ∧ Row H v r) ∧ ∀ H', Ex [] H H' → Q (.bl true) H'
theorem ok40 {f : Addr} {fd : FuncData} (F : FnP K "_law_alike" 40 [] f fd) (T : Txt mg) (cA : Cal P w K mg base 1 "_law_alike" ["_law_found", "_law_due"] [] spAlike1) : FnOk P w K mg base CX0 2 f fd ["_law_found", "_law_due"] spAlike := by
  refine okD F sc40 (fun vs H Q E h => ?_) (fun cdv A outer s H vs Q E hcd hr h => ?_)
  · obtain ⟨u, v, rfl, _⟩ := h
    rfl
  · obtain ⟨u, v, rfl, huv, q⟩ := h
    refine ⟨_, pss_cons (ps_if (pt_val (pe_isi2 bt_tuple bt_list T.isi T.tuple_ T.list_ (pv 1)))
          (pss_cons (ps_if (PW.pt (pw_or (pt_not (pt_val (pe_isi2 bt_tuple bt_list T.isi T.tuple_ T.list_ (pv 0)))) (pw_or1 (pt_cmpR op_ne (pe_isi bt_list T.isi T.list_ (pv 0)) (pe_isi bt_list T.isi T.list_ (pv 1)) (nomark _))))) (pss_one (ps_ret pe_bl)) pss_nil)
          (pss_cons (ps_if (pt_cmpR op_ne (pe_callB call_lenH rfl T.len_ boot_len (pa_cons (pv 0) pa_nil)) (pe_callB call_lenH rfl T.len_ boot_len (pa_cons (pv 1) pa_nil)) (nomark _)) (pss_one (ps_ret pe_bl)) pss_nil)
          (pss_one (ps_ret (pe_cmpR (op_eqD hr.units) (pe_lc (own := [("_law_k", 2)]) (g := gName 2) rfl sc40.nd (pi_range1 (by rfl) T.range_ (pa_cons (pe_callB call_lenH rfl T.len_ boot_len (pa_cons (pv 1) pa_nil)) pa_nil)) (blkOk_by (N := n40) (sc := defScope (top 40)) (by decide +kernel)) (fun _ _ _ _ _ => pg_name (i := 2) sc40.nd rfl (Or.inl rfl))
              (fun _ _ _ _ _ => pts_one (pt_not (pt_val (pe_cal cA hr rfl (pa_cons (pe_ix ix_tupH (pv 0) (pv 2) (fun _ _ => rfl)) (pa_cons (pe_ix ix_tupH (pv 1) (pv 2) (fun _ _ => rfl)) pa_nil)))))) (fun _ _ _ _ _ => pv 2)) (pe_lst pa_nil) (nomark _)))))) pss_nil)
      (pss_cons (ps_if (PW.pt (pw_or (pt_cmpR op_isN (pv 1) pe_non (nomark _)) (pw_or1 (pt_val (pe_isi bt_str T.isi T.str_ (pv 1))))))
          (pss_one (ps_ret (pe_and (pe_cmpR op_eq (pv 0) (pv 1) (nomark _)) (pe_one (pe_cmpR op_eq (pe_isi bt_str T.isi T.str_ (pv 0)) (pe_isi bt_str T.isi T.str_ (pv 1)) (nomark _)))))) pss_nil)
      (pss_one (ps_ret (pe_and (pe_isi bt_int T.isi T.int_ (pv 0)) (pe_and (pe_cmpR op_eq (pe_isi bt_bool T.isi T.bool_ (pv 0)) (pe_isi bt_bool T.isi T.bool_ (pv 1)) (nomark _)) (pe_one (pe_cmpR op_eq (pv 0) (pv 1) (nomark _)))))))), ?_⟩
    refine ⟨_, rfl, (by show 2 ≤ sizeLine; decide), fun t ht => ?_⟩
    have x1 : Ex [] H (upd H t (.tup [.ty "tuple", .ty "list"])) := Ex.new ht
    rcases huv with ⟨rfl, sv⟩ | ⟨r, hrl, ⟨a, rfl, ea⟩, ⟨b, rfl, eb⟩⟩
    · rcases sv with rfl | ⟨b, rfl⟩ | ⟨i, rfl⟩
      · refine ⟨_, t, _, _, _, false, false, rfl, upd_same, .non, kit_non_tup, kit_non_list, false, rfl, iteF ?_⟩
        refine ⟨_, rfl, rfl, _, rfl, iteT ?_⟩
        refine ⟨_, rfl, _, rfl, rfl, true, rfl, iteT ?_⟩
        exact ⟨_, rfl, _, _, _, _, rfl, .non, kit_non_str, _, rfl, _, _, _, _, rfl, .non, kit_non_str, rfl, q _ x1⟩
      · refine ⟨_, t, _, _, _, false, false, rfl, upd_same, .bl b, kit_bool_tup, kit_bool_list, false, rfl, iteF ?_⟩
        refine ⟨_, rfl, rfl, false, rfl, iteF ⟨_, rfl, _, _, _, _, rfl, .bl b, kit_bool_str, false, rfl, iteF ?_⟩⟩
        refine ⟨_, rfl, _, _, _, _, rfl, .bl b, kit_bool_int, true, rfl, iteT ?_⟩
        refine ⟨_, rfl, _, _, _, _, rfl, .bl b, kit_bool_bool, _, rfl, _, _, _, _, rfl, .bl b, kit_bool_bool, rfl, true, rfl, iteT ?_⟩
        refine ⟨_, rfl, _, rfl, rfl, ?_⟩
        rw [decide_eq_true rfl]
        exact q _ x1
      · refine ⟨_, t, _, _, _, false, false, rfl, upd_same, .int i, kit_int_tup, kit_int_list, false, rfl, iteF ?_⟩
        refine ⟨_, rfl, rfl, false, rfl, iteF ⟨_, rfl, _, _, _, _, rfl, .int i, kit_int_str, false, rfl, iteF ?_⟩⟩
        refine ⟨_, rfl, _, _, _, _, rfl, .int i, kit_int_int, true, rfl, iteT ?_⟩
        refine ⟨_, rfl, _, _, _, _, rfl, .int i, kit_int_bool, _, rfl, _, _, _, _, rfl, .int i, kit_int_bool, rfl, true, rfl, iteT ?_⟩
        refine ⟨_, rfl, _, rfl, rfl, ?_⟩
        rw [decide_eq_true rfl]
        exact q _ x1
    · refine ⟨_, t, _, _, _, true, false, rfl, upd_same, .tup (x1.tup _ _ eb), kit_tup_tup, kit_tup_list, true, rfl, iteT ?_⟩
      refine ⟨_, rfl, (by show 2 ≤ sizeLine; decide), fun t2 ht2 => ?_⟩
      have x2 := x1.upd_new (o := .tup [.ty "tuple", .ty "list"]) (x1.there _ ht2)
      have ea2 := x2.tup _ _ ea
      have eb2 := x2.tup _ _ eb
      refine ⟨_, t2, _, _, _, true, false, rfl, upd_same, .tup ea2, kit_tup_tup, kit_tup_list, true, rfl, iteF ?_⟩
      refine ⟨_, rfl, _, _, _, _, rfl, .tup ea2, kit_tup_list, _, rfl, _, _, _, _, rfl, .tup eb2, kit_tup_list, rfl, _, rfl, iteF ?_⟩
      refine ⟨_, rfl, a, _, rfl, .inr ea2, _, rfl, b, _, rfl, .inr eb2, rfl, _, rfl, iteNS rfl ?_⟩
      obtain ⟨b1, b2⟩ := small62 (n := (r.map V.int).length) (by rw [List.length_map]; omega)
      refine ⟨_, rfl, b, _, rfl, .inr eb2, _, rfl, b1, b2, fun D hD => ?_⟩
      rw [Int.toNat_natCast]
      refine lc_rng (fun j H2 => Ex [] H H2 ∧ H2 D = some (.lst [])) ⟨x2.upd_new (x2.there _ hD), upd_same⟩ ?_ ?_
      · rintro j H2 hj ⟨x3, e3⟩
        rw [List.length_map] at hj
        have hat : atI (r.map V.int) ((j : Nat) : Int) = some (V.int r[j]) := atI_nat (by rw [List.getElem?_map, List.getElem?_eq_getElem hj]; rfl)
        refine ⟨rfl, ?_⟩
        refine ⟨_, rfl, _, rfl, a, _, _, _, rfl, rfl, x3.tup _ _ ea, hat, _, rfl, _, rfl, b, _, _, _, rfl, rfl, x3.tup _ _ eb, hat, _, rfl, .inr (.inr ⟨_, rfl⟩), fun H3 x4 => ⟨true, rfl, iteF ⟨x3.trans x4, x4.lst0 e3⟩⟩⟩
      · rintro H2 ⟨x3, e3⟩
        refine ⟨Nat.zero_le _, fun D2 hD2 => ?_⟩
        have x4 := x3.upd_new (o := .lst []) (x3.there _ hD2)
        refine ⟨.list [], .list [], .lst (.of (by rw [upd_ne (fun z => by rw [z, hD2] at e3; cases e3)]; exact e3)) .nil, .lst (.of upd_same) .nil, by decide, by decide, ?_⟩
        exact q _ x4
end
end K4
set_option Elab.async false
set_option linter.all false
set_option maxRecDepth 100000
set_option maxHeartbeats 2000000
namespace K4
open PySem PySem.Spec PyProof.Rows L2 GxR

section
variable {P : Program} {w : World} {K : PySem.W.Frag} {mg : Str → Option Value} {base : Heap}
/-! ### _law_clash -/
theorem sc41 : FnScope ["_law_rows", "_law_one", "_law_other"] ["_law_rows"] (defScope (top 41)) := ⟨rfl, rfl, rfl, by decide +kernel, rfl, by decide +kernel, by decide +kernel⟩
theorem ok41 {f : Addr} {fd : FuncData} (F : FnP K "_law_clash" 41 [] f fd) (T : Txt mg) : FnOk P w K mg base CX0 1 f fd ["_law_rows"] spClash := by
  refine okD F sc41 (fun vs H Q E h => ?_) (fun cdv A outer s H vs Q E hcd hr h => ?_)
  · obtain ⟨v, rs, rfl, _⟩ := h
    rfl
  · obtain ⟨v, rs, rfl, hR, hlen, q⟩ := h
    obtain ⟨a, vs, rfl, ea, pr⟩ := id hR
    have hl : vs.length = rs.length := pr.length
    obtain ⟨b1, b2⟩ := small62 (n := vs.length) (by omega)
    have hN : (vs.length : Int).toNat = rs.length := by omega
    refine ⟨_, pss_cons (ps_for PassesOwn.never rfl (pi_range1 (by rfl) T.range_ (pa_cons (pe_callB call_lenH rfl T.len_ boot_len (pa_cons (pv 0) pa_nil)) pa_nil)) (pg_name (i := 1) sc41.nd rfl (.inl rfl))
        (pss_one (ps_for PassesOwn.never rfl (pi_range1 (by rfl) T.range_ (pa_cons (pe_callB call_lenH rfl T.len_ boot_len (pa_cons (pv 0) pa_nil)) pa_nil)) (pg_name (i := 2) sc41.nd rfl (.inl rfl))
          (pss_one (ps_if (PW.pt (pw_and (pt_cmpR op_ne (pv 1) (pv 2) (nomark _)) (pw_and1 (pt_cmpR (op_eqRow hr) (pe_slice sl_pre (pe_ix ix_tupH (pv 0) (pv 2) (fun _ _ => rfl)) po_none (po_some (pe_callB call_lenH rfl T.len_ boot_len (pa_cons (pe_ix ix_tupH (pv 0) (pv 1) (fun _ _ => rfl)) pa_nil)))) (pe_ix ix_tupH (pv 0) (pv 1) (fun _ _ => rfl)) (by rfl)))))
            (pss_one (ps_ret (pe_tup (pa_cons (pv 1) (pa_cons (pv 2) pa_nil))))) pss_nil)))))
      (pss_one (ps_ret pe_non)), ?_⟩
    refine ⟨_, rfl, _, _, rfl, .inr ea, _, rfl, b1, b2, ?_⟩
    rw [hN]
    refine for_rng (fun i σ H1 => ∃ y1 y2, σ = [some (.ref a), y1, y2] ∧ Ex [] H H1 ∧ ∀ i' j', i' < i → ¬ Cl rs i' j') ⟨none, none, rfl, Ex.refl _ _, fun i' j' h => absurd h (by omega)⟩ ?_ ?_
    · rintro i σ H1 hi ⟨y1, y2, rfl, x1, no⟩
      have ea1 := x1.tup _ _ ea
      refine ⟨_, rfl, _, _, rfl, .inr ea1, _, rfl, b1, b2, ?_⟩
      rw [hN]
      refine for_rng (fun j σ H2 => ∃ y2, σ = [some (.ref a), some (.int (i : Nat)), y2] ∧ Ex [] H H2 ∧ ∀ j', j' < j → ¬ Cl rs i j') ⟨y2, rfl, x1, fun j' h => absurd h (by omega)⟩ ?_ ?_
      · rintro j σ H2 hj ⟨y2, rfl, x2, noj⟩
        have ea2 := x2.tup _ _ ea
        have next : ∀ H3, Ex [] H2 H3 → ¬ Cl rs i j → ∃ y2', ([some (.ref a), some (.int (i : Nat)), some (.int (j : Nat))] : L2.St) = [some (.ref a), some (.int (i : Nat)), y2'] ∧ Ex [] H H3 ∧ ∀ j', j' < j + 1 → ¬ Cl rs i j' := fun H3 x3 hn => ⟨_, rfl, x2.trans x3, fun j' h => by
          by_cases e : j' = j
          · rw [e]; exact hn
          · exact noj j' (by omega)⟩
        refine ⟨_, rfl, _, rfl, rfl, _, rfl, ite2 (fun e => ?_) (fun e => ?_)⟩
        · have hij : i ≠ j := fun z => by
            rw [z] at e
            simp at e
          obtain ⟨ui, hui, bi, rfl, ebi⟩ := paired_get pr (List.getElem?_eq_getElem hi)
          obtain ⟨uj, huj, bj, rfl, ebj⟩ := paired_get pr (List.getElem?_eq_getElem hj)
          refine ⟨_, rfl, _, rfl, a, vs, (j : Int), _, rfl, rfl, ea2, atI_nat huj, _, rfl, _, rfl, a, vs, (i : Int), _, rfl, rfl, ea2, atI_nat hui, bi, _, rfl, .inr (x2.tup _ _ ebi), _, rfl, bj, _, rs[i].length, rfl, x2.tup _ _ ebj, rfl, by rw [List.length_map], fun c H3 x3 e3 => ?_⟩
          have x23 := x2.trans x3
          refine ⟨_, rfl, _, rfl, a, vs, (i : Int), _, rfl, rfl, x23.tup _ _ ea, atI_nat hui, rs[j].take rs[i].length, rs[i], ⟨c, rfl, by rw [e3, List.map_take]⟩, ⟨bi, rfl, x23.tup _ _ ebi⟩, _, rfl, ite2 (fun e2 => ?_) (fun e2 => ?_)⟩
          · have hb : Beg rs[i] rs[j] := of_decide_eq_true e2
            refine ⟨_, rfl, _, rfl, (by show 2 ≤ sizeLine; decide), fun p hp => ?_⟩
            refine q (some (i, j)) _ _ (x23.upd_new (x23.there _ hp)) ⟨⟨hij, _, _, List.getElem?_eq_getElem hi, List.getElem?_eq_getElem hj, hb⟩, fun i' j' h => ?_⟩ ⟨p, rfl, upd_same⟩
            rcases h with h | ⟨rfl, h⟩
            · exact no i' j' h
            · exact noj j' h
          · have hb : ¬ Beg rs[i] rs[j] := fun z => e2 (decide_eq_true z)
            refine next H3 x3 ?_
            rintro ⟨_, x, y, h1, h2, h3⟩
            rw [List.getElem?_eq_getElem hi] at h1
            rw [List.getElem?_eq_getElem hj] at h2
            rw [← Option.some.inj h1, ← Option.some.inj h2] at h3
            exact hb h3
        · have hij : i = j := by
            by_cases z : i = j
            · exact z
            · exact absurd (by
                have : ¬ (V.int (i : Int) = V.int (j : Int)) := fun q => z (by injection q with q; omega)
                rw [decide_eq_false this] <;> rfl) e
          exact next H2 (Ex.refl _ _) fun h => h.1 hij
      · rintro σ H2 ⟨y2, rfl, x2, noj⟩
        refine ⟨_, y2, rfl, x2, fun i' j' h => ?_⟩
        by_cases e : i' = i
        · subst e
          by_cases hj : j' < rs.length
          · exact noj j' hj
          · rintro ⟨_, x, y, h1, h2, h3⟩
            rw [List.getElem?_eq_none (by omega)] at h2
            cases h2
        · exact no i' j' (by omega)
    · rintro σ H1 ⟨y1, y2, rfl, x1, no⟩
      refine q none _ _ x1 (fun i j => ?_) rfl
      by_cases hi : i < rs.length
      · exact no i j hi
      · rintro ⟨_, x, y, h1, h2, h3⟩
        rw [List.getElem?_eq_none (by omega)] at h1
        cases h1

/-! ### _law_every -/
abbrev n39 : List Str := ["_law_marks", "_law_length", "_law_found", "_law_place", "_law_longer", "_law_one", "_law_mark"]
theorem sc39 : FnScope n39 ["_law_marks", "_law_length"] (defScope (top 39)) := ⟨rfl, rfl, rfl, by decide +kernel, rfl, by decide +kernel, by decide +kernel⟩
def InM (M : Nat) (n : Nat) (rs : List (List Int)) : Prop := ∀ r ∈ rs, r.length = n ∧ ∀ i ∈ r, 0 ≤ i ∧ i < (M : Int)
def spEvery : Sp := fun vs H Q _ => ∃ (M n : Nat), vs = [.int (M : Int), .int (n : Int)] ∧ 1 ≤ M ∧ M ≤ 4 ∧ n ≤ 3 ∧ ∀ p rs H', Ex [] H H' → H p = none → RowL H' p rs → rs.length = M ^ n → InM M n rs → Q (.ref p) H'
theorem pow_mul_small {M : Nat} (m1 : 1 ≤ M) (m4 : M ≤ 4) {n : Nat} (h : n ≤ 3) : 1 ≤ M ^ n ∧ M ^ n ≤ 64 := by
  constructor
  · exact Nat.pow_pos m1
  · calc M ^ n ≤ 4 ^ n := Nat.pow_le_pow_left m4 n
      _ ≤ 4 ^ 3 := Nat.pow_le_pow_right (by decide) h
      _ = 64 := by decide
theorem ok39 {f : Addr} {fd : FuncData} (F : FnP K "_law_every" 39 [] f fd) (T : Txt mg) : FnOk P w K mg base CX0 1 f fd ["_law_marks", "_law_length"] spEvery := by
  refine okD F sc39 (fun vs H Q E h => ?_) (fun cdv A outer s H vs Q E hcd hr h => ?_)
  · obtain ⟨M, n, rfl, _⟩ := h
    rfl
  · obtain ⟨M, n, rfl, m1, m4, n3, q⟩ := h
    refine ⟨_, pss_cons (ps_set (i := 2) sc39.nd rfl (.inl rfl) (pe_lst (pa_cons (pe_tup pa_nil) pa_nil)))
      (pss_cons (ps_for PassesOwn.never rfl (pi_range1 (by rfl) T.range_ (pa_cons (pv 1) pa_nil)) (pg_name (i := 3) sc39.nd rfl (.inl rfl))
        (pss_cons (ps_set (i := 4) sc39.nd rfl (.inl rfl) (pe_lst pa_nil))
        (pss_cons (ps_for PassesOwn.never rfl (pi_list (pv 2)) (pg_name (i := 5) sc39.nd rfl (.inr rfl))
            (pss_one (ps_set (i := 4) sc39.nd rfl (.inl rfl) (pe_op op_cat (pv 4) (pe_lc (own := [("_law_mark", 6)]) (g := gName 6) (tt := tYes) rfl sc39.nd (pi_range1 (by rfl) T.range_ (pa_cons (pv 0) pa_nil)) (blkOk_by (N := n39) (sc := defScope (top 39)) (by decide +kernel)) (fun _ _ _ _ _ => pg_name (i := 6) sc39.nd rfl (Or.inl rfl)) (fun _ _ _ _ _ => pts_nil)
              (fun _ _ _ _ _ => pe_op op_catN (pv 5) (pe_tup (pa_cons (pv 6) pa_nil))))))))
        (pss_one (ps_set (i := 2) sc39.nd rfl (.inl rfl) (pv 4))))))
      (pss_one (ps_ret (pv 2)))), ?_⟩
    refine ⟨Nat.zero_le _, fun t ht => ⟨(by show 1 ≤ sizeLine; decide), fun l hl0 => ?_⟩⟩
    have x0 : Ex [] H (upd H t (.tup [])) := Ex.new ht
    have hl00 := x0.there _ hl0
    have x1 := x0.upd_new (o := .lst [.ref t]) hl00
    have htl : t ≠ l := fun z => by rw [z, upd_same] at hl0; cases hl0
    obtain ⟨b1, b2⟩ := small62 (n := n) (by omega)
    refine ⟨_, rfl, _, rfl, b1, b2, ?_⟩
    rw [Int.toNat_natCast]
    refine for_rng (fun i σ H1 => ∃ l y3 y4 y5 rs, σ = [some (.int (M : Int)), some (.int (n : Int)), some (.ref l), y3, y4, y5, none] ∧ H l = none ∧ Ex [] H H1 ∧ RowL H1 l rs ∧ rs.length = M ^ i ∧ InM M i rs)
      ⟨l, none, none, none, [[]], rfl, hl00, x1, ⟨[.ref t], upd_same, .cons ⟨t, rfl, by rw [upd_ne htl]; exact upd_same⟩ .nil⟩, by rw [Nat.pow_zero]; rfl, fun r hr => by
        rw [List.mem_singleton.mp hr]
        exact ⟨rfl, fun i hi => absurd hi (by simp)⟩⟩ ?_ ?_
    · rintro i σ H1 hi ⟨l, y3, y4, y5, rs, rfl, hl0, x1, hL, hlen, hin⟩
      obtain ⟨q1, q2⟩ := pow_mul_small m1 m4 (n := i) (by omega)
      obtain ⟨ws, hw, pw⟩ := id hL
      have hwl : ws.length = rs.length := pw.length
      refine ⟨Nat.zero_le _, fun g hg => ?_⟩
      have x2 : Ex [] H1 (upd H1 g (.lst [])) := Ex.new hg
      refine ⟨_, rfl, l, rfl, ⟨ws, SqL.of (x2.lst0 hw)⟩, ?_⟩
      refine for_list (xs := ws) (fun j σ H2 => ∃ g y5 gs, σ = [some (.int (M : Int)), some (.int (n : Int)), some (.ref l), some (.int (i : Nat)), some (.ref g), y5, none] ∧ H1 g = none ∧ Ex [] H1 H2 ∧ RowL H2 g gs ∧ gs.length = j * M ∧ InM M (i + 1) gs)
        ⟨g, y5, [], rfl, hg, x2, ⟨[], upd_same, .nil⟩, by simp, fun r hr => absurd hr (by simp)⟩ ?_ ?_ ?_
      · rintro j σ H2 _ ⟨g, y5, gs, rfl, _, x3, _⟩
        exact SqL.of (x3.lst0 hw)
      · rintro j x σ H2 hx ⟨g, y5, gs, rfl, hg0, x3, hG, hgl, hgi⟩
        obtain ⟨r, hrj, b, rfl, eb⟩ := paired_getL pw hx
        have hj : j < rs.length := (List.getElem?_eq_some_iff.mp hrj).1
        obtain ⟨hrl, hri⟩ := hin r (List.mem_of_getElem? hrj)
        have eb2 := x3.tup _ _ eb
        obtain ⟨c1, c2⟩ := small62 (n := M) (by omega)
        refine ⟨_, rfl, _, rfl, _, rfl, c1, c2, fun D hD => ?_⟩
        rw [Int.toNat_natCast]
        refine lc_rng (fun k H3 => Ex [] H2 H3 ∧ ∃ ds, RowL H3 D ds ∧ ds.length = k ∧ InM M (i + 1) ds) ⟨Ex.new hD, [], ⟨[], upd_same, .nil⟩, rfl, fun r hr => absurd hr (by simp)⟩ ?_ ?_
        · rintro k H3 hk ⟨x4, ds, ⟨wd, hwd, pd⟩, hdl, hdi⟩
          have eb3 := x4.tup _ _ eb2
          refine ⟨rfl, lcY ⟨_, rfl, _, rfl, (by show 1 ≤ sizeLine; decide), fun p hp => ?_⟩⟩
          have x5 : Ex [] H3 (upd H3 p (.tup [.int (k : Nat)])) := Ex.new hp
          refine ⟨b, p, r.map V.int, [.int (k : Nat)], rfl, rfl, x5.tup _ _ eb3, upd_same, by rw [List.length_map]; simp; omega, fun c H4 x6 e6 => ?_⟩
          have x56 := x5.trans x6
          have hw4 := x56.lst0 hwd
          refine ⟨wd, hw4, ?_, (x4.trans x56).upd_new hD, ds ++ [r ++ [((k : Nat) : Int)]], ?_, by rw [List.length_append, hdl]; rfl, fun z hz => ?_⟩
          · rw [pd.length]
            exact small1000 (by omega)
          · exact RowL.snoc hw4 (L2.Paired.mapP pd fun _ _ => Row.ex x56) ⟨c, rfl, by rw [e6, List.map_append]; rfl⟩
          · rcases List.mem_append.mp hz with h | h
            · exact hdi z h
            · rw [List.mem_singleton.mp h]
              refine ⟨by rw [List.length_append, hrl]; rfl, fun y hy => ?_⟩
              rcases List.mem_append.mp hy with h | h
              · exact hri y h
              · rw [List.mem_singleton.mp h]
                omega
        · rintro H3 ⟨x4, ds, ⟨wd, hwd, pd⟩, hdl, hdi⟩
          obtain ⟨wg, hwg, pg⟩ := hG.ex x4 (by simp)
          have z1 := pg.length
          have z2 := pd.length
          refine ⟨g, D, wg, wd, rfl, rfl, hwg, hwd, ?_, fun p hp => ?_⟩
          · have : j * M ≤ 64 * 4 := Nat.mul_le_mul (by omega) m4
            have h9 : wg.length + wd.length ≤ 1000 := by omega
            have : (1000 : Nat) ≤ sizeLine := by decide
            omega
          · have x5 : Ex [] H3 (upd H3 p (.lst (wg ++ wd))) := Ex.new hp
            have x34 := x3.trans x4
            refine ⟨p, some (.ref b), gs ++ ds, rfl, x34.there _ hp, x34.trans x5, ⟨_, upd_same, paired_append (L2.Paired.mapP pg fun _ _ => Row.ex x5) (L2.Paired.mapP pd fun _ _ => Row.ex x5)⟩, ?_, fun z hz => ?_⟩
            · rw [List.length_append, hgl, hdl, Nat.succ_mul]
            · exact (List.mem_append.mp hz).elim (hgi z) (hdi z)
      · rintro σ H2 ⟨g, y5, gs, rfl, hg0, x3, hG, hgl, hgi⟩
        refine ⟨_, rfl, ?_⟩
        refine ⟨g, _, _, y5, gs, rfl, x1.there _ hg0, x1.trans x3, hG, ?_, hgi⟩
        rw [hgl, hwl, hlen, Nat.pow_succ]
    · rintro σ H1 ⟨l, y3, y4, y5, rs, rfl, hl0, x1, hL, hlen, hin⟩
      exact ⟨_, rfl, q l rs H1 x1 hl0 hL hlen hin⟩
end
end K4
set_option Elab.async false
set_option linter.all false
set_option maxRecDepth 100000
set_option maxHeartbeats 2000000
namespace K4
open PySem PySem.Spec PyProof.Rows L2 GxR

/-! ### one branching, told at once -/
def tWk (Φ : Hp → V → Hp → Prop) (te : TE) : TE := fun σ H Q => te σ H (Φ H) ∧ ∀ v H1, Φ H v H1 → Q v H1
theorem pe_wk {X : Cx} {e : Expr} {te : TE} (Φ : Hp → V → Hp → Prop) (he : PE X e te) : PE X e (tWk Φ te) := by
  refine ⟨fun pins s σ H Q I h => ?_⟩
  exact thn (he.run pins s σ H _ I h.1) fun v s1 ⟨y, H1, I1, r1, q1⟩ => ⟨y, H1, I1, r1, h.2 y H1 q1⟩

/-! ### lists that grow -/
theorem lst_snoc {α : Type} {R : Hp → V → α → Prop} (mono : ∀ {bad H H'} (v x), Ex bad H H' → R H v x → R H' v x) {H : Hp} {l : Addr} {vs : List V} {xs : List α} {v : V} {x : α} (e : H l = some (.lst vs)) (p : Paired (R H) vs xs) (h : R H v x) :
    LstOf (R (upd H l (.lst (vs ++ [v])))) (upd H l (.lst (vs ++ [v]))) l (xs ++ [x]) := by
  have z : Ex [l] H (upd H l (.lst (vs ++ [v]))) := (Ex.refl [l] H).wr (by simp) e
  exact ⟨_, upd_same, paired_append (L2.Paired.mapP p fun _ _ => mono _ _ z) (.cons (mono _ _ z h) .nil)⟩
theorem lst_ex {α : Type} {R : Hp → V → α → Prop} (mono : ∀ {bad H H'} (v x), Ex bad H H' → R H v x → R H' v x) {bad : List Addr} {H H' : Hp} {l : Addr} {xs : List α} (a : Ex bad H H') (n : l ∉ bad) (h : LstOf (R H) H l xs) : LstOf (R H') H' l xs := by
  obtain ⟨vs, e, p⟩ := h
  exact ⟨vs, a.lst n e, L2.Paired.mapP p fun _ _ => mono _ _ a⟩

def words : List V := [.non, .str "a", .str "b", .str "yes", .str "no", .str "ab"]
theorem good_a : GoodWord "a" := ⟨by decide +kernel, by decide +kernel, by decide +kernel⟩
theorem good_b : GoodWord "b" := ⟨by decide +kernel, by decide +kernel, by decide +kernel⟩
theorem good_yes : GoodWord "yes" := ⟨by decide +kernel, by decide +kernel, by decide +kernel⟩
theorem good_no : GoodWord "no" := ⟨by decide +kernel, by decide +kernel, by decide +kernel⟩
theorem good_ab : GoodWord "ab" := ⟨by decide +kernel, by decide +kernel, by decide +kernel⟩
theorem good_words : ∀ v ∈ words, GoodW v := by
  intro v h
  rcases List.mem_cons.mp h with rfl | h
  · exact .inl rfl
  rcases List.mem_cons.mp h with rfl | h
  · exact .inr ⟨_, rfl, good_a⟩
  rcases List.mem_cons.mp h with rfl | h
  · exact .inr ⟨_, rfl, good_b⟩
  rcases List.mem_cons.mp h with rfl | h
  · exact .inr ⟨_, rfl, good_yes⟩
  rcases List.mem_cons.mp h with rfl | h
  · exact .inr ⟨_, rfl, good_no⟩
  rcases List.mem_cons.mp h with rfl | h
  · exact .inr ⟨_, rfl, good_ab⟩
  · cases h

section
variable {P : Program} {w : World} {K : PySem.W.Frag} {mg : Str → Option Value} {base : Heap}
/-! ### _law_machine -/
abbrev n44 : List Str := ["_law_row_here", "_law_most", "_law_options", "_law_many", "_law_found", "_law_words", "_law_way", "_law_state", "_law_lot", "_law_least", "_law_option", "_law_word"]
theorem sc44 : FnScope n44 ["_law_row_here", "_law_most", "_law_options"] (defScope (top 44)) := ⟨rfl, rfl, rfl, by decide +kernel, rfl, by decide +kernel, by decide +kernel⟩
def spMachine (K : PySem.W.Frag) : Sp := fun vs H Q _ => ∃ (ar sc : Addr) (xs : List Int) (most opts : Nat), vs = [.ref ar, .int (most : Int), .int (opts : Int)] ∧ 1 ≤ most ∧ most ≤ 39 ∧ 1 ≤ opts ∧ opts ≤ 6 ∧ RowOk K sc xs H ar ∧
  ∀ u m H', Ex [ar] H H' → RowOk K sc xs H' ar → Mac H' u m → 1 ≤ m.length → m.length ≤ most → (∀ s ∈ m, s.length ≤ opts ∧ ∀ n ∈ s, n < m.length) → Q u H'
theorem ok44 {f : Addr} {fd : FuncData} (F : FnP K "_law_machine" 44 [] f fd) (T : Txt mg) (cT : Cal P w K mg base 1 "_law_taken" ["_law_row_here", "_law_many"] [] (spTaken K)) (cP : Cal P w K mg base 2 "_law_pick" ["_law_row_here", "_law_things"] [] (spPick K)) :
    FnOk P w K mg base CX0 3 f fd ["_law_row_here", "_law_most", "_law_options"] (spMachine K) := by
  refine okD F sc44 (fun vs H Q E h => ?_) (fun cdv A outer s H vs Q E hcd hr h => ?_)
  · obtain ⟨ar, sc, xs, most, opts, rfl, _⟩ := h
    rfl
  · obtain ⟨ar, sc, xs, most, opts, rfl, t1, t2, o1, o2, hok, q⟩ := h
    have hr1 : Room 1 (A.deeper (envOfC "_law_machine" (defScope (top 44)) s.heap.objs.size f cdv)) := hr.mono (by decide)
    refine ⟨_, pss_cons (ps_par (i := 3) (j := 4) rfl sc44.nd rfl rfl (by decide) rfl rfl (pa_cons (pe_op op_add pe_int (pe_cal cT hr1 rfl (pa_cons (pv 0) (pa_cons (pv 1) pa_nil)))) (pa_cons (pe_lst pa_nil) pa_nil)) (by rfl))
      (pss_cons (ps_set (i := 5) sc44.nd rfl (.inl rfl) (pe_lst (pa_cons pe_non (pa_cons pe_str (pa_cons pe_str (pa_cons pe_str (pa_cons pe_str (pa_cons pe_str pa_nil))))))))
      (pss_cons (ps_set (i := 6) sc44.nd rfl (.inl rfl) (pe_cal cT hr1 rfl (pa_cons (pv 0) (pa_cons pe_int pa_nil))))
      (pss_cons (ps_for PassesOwn.never rfl (pi_range1 (by rfl) T.range_ (pa_cons (pv 3) pa_nil)) (pg_name (i := 7) sc44.nd rfl (.inl rfl))
        (pss_cons (ps_set (i := 8) sc44.nd rfl (.inl rfl) (pe_lst pa_nil))
        (pss_cons (ps_set (i := 9) sc44.nd rfl (.inl rfl) (pe_wk (fun H v H1 => H1 = H ∧ ∃ ls : Nat, ls ≤ 1 ∧ v = .int (ls : Int)) (pe_callTy call_int1 rfl T.int_ bt_int (pa_cons (pe_and (pe_cmpR op_eq (pv 7) pe_int (nomark _)) (pe_one (pe_cmpR op_gt (pv 6) pe_int (nomark _)))) pa_nil))))
        (pss_cons (ps_for PassesOwn.never rfl (pi_range1 (by rfl) T.range_ (pa_cons (pe_op op_add (pv 9) (pe_cal cT hr1 rfl (pa_cons (pv 0) (pa_cons (pe_op op_sub (pe_op op_add (pv 2) pe_int) (pv 9)) pa_nil)))) pa_nil)) (pg_name (i := 10) sc44.nd rfl (.inl rfl))
          (pss_cons (ps_set (i := 11) sc44.nd rfl (.inl rfl) (pe_wk (fun H v H1 => GoodW v ∧ Ex [ar] H H1 ∧ RowOk K sc xs H1 ar) (pe_cal cP hr rfl (pa_cons (pv 0) (pa_cons (pe_ifExp (pt_cmpR op_lt (pv 6) pe_int (nomark _)) (pv 5) (pe_slice sl_list (pv 5) (po_some pe_int) po_none)) pa_nil)))))
          (pss_one (ps_expr (pe_bm PySem.F.plainAttrs_list PySem.F.slot_list_append PySem.F.type_list_append mt_append (pv 8) (pa_cons (pe_tup (pa_cons (pe_cal cT hr1 rfl (pa_cons (pv 0) (pa_cons (pv 3) pa_nil))) (pa_cons (pv 11) pa_nil))) pa_nil))))))
        (pss_one (ps_expr (pe_bm PySem.F.plainAttrs_list PySem.F.slot_list_append PySem.F.type_list_append mt_append (pv 4) (pa_cons (pe_callTy call_tuple_of rfl T.tuple_ bt_tuple (pa_cons (pv 8) pa_nil)) pa_nil))))))))
      (pss_one (ps_ret (pe_callTy call_tuple_of rfl T.tuple_ bt_tuple (pa_cons (pv 4) pa_nil))))))), ?_⟩
    refine ⟨_, rfl, _, rfl, ar, sc, xs, most, rfl, t1, by omega, hok, fun n H1 hn x1 ok1 => ⟨1, n, rfl, rfl, ⟨Nat.zero_le _, fun fl hfl => ⟨_, _, rfl, ?_⟩⟩⟩⟩
    refine ⟨(by show 6 ≤ sizeLine; decide), fun wl hwl => ?_⟩
    have hfl0 := x1.there _ hfl
    have x2 : Ex [ar] H (upd H1 fl (.lst [])) := x1.upd_new hfl0
    have hwl0 := x2.there _ hwl
    have x3 : Ex [ar] H (upd (upd H1 fl (.lst [])) wl (.lst words)) := x2.upd_new hwl0
    have ok3 : RowOk K sc xs (upd (upd H1 fl (.lst [])) wl (.lst words)) ar := (ok1.new hfl).new hwl
    have hfw : fl ≠ wl := fun z => by rw [← z, upd_same] at hwl; cases hwl
    have far : fl ≠ ar := fun z => hok.here (by rw [← z]; exact hfl0)
    have war : wl ≠ ar := fun z => hok.here (by rw [← z]; exact hwl0)
    have e3w : upd (upd H1 fl (.lst [])) wl (.lst words) wl = some (.lst words) := upd_same
    have e3f : upd (upd H1 fl (.lst [])) wl (.lst words) fl = some (.lst []) := by rw [upd_ne hfw]; exact upd_same
    show tSeq _ _ _ _ (upd (upd H1 fl (.lst [])) wl (.lst words))
    generalize upd (upd H1 fl (.lst [])) wl (.lst words) = H3 at x3 ok3 e3w e3f
    refine ⟨_, rfl, ar, sc, xs, 3, rfl, by decide, by decide, ok3, fun way H4 hway x4 ok4 => ?_⟩
    refine ⟨_, rfl, _, rfl, by omega, by omega, ?_⟩
    rw [show ((1 : Int) + (n : Int)).toNat = 1 + n by omega]
    refine for_rng (fun i σ H5 => ∃ y7 y8 y9 y10 y11 ms, σ = [some (.ref ar), some (.int (most : Int)), some (.int (opts : Int)), some (.int ((1 : Int) + (n : Int))), some (.ref fl), some (.ref wl), some (.int (way : Int)), y7, y8, y9, y10, y11] ∧ Ex [ar] H H5 ∧ RowOk K sc xs H5 ar ∧ H5 wl = some (.lst words) ∧
        LstOf (State H5) H5 fl ms ∧ ms.length = i ∧ ∀ s ∈ ms, s.length ≤ opts ∧ ∀ k ∈ s, k < 1 + n)
      ⟨none, none, none, none, none, [], rfl, x3.trans x4, ok4, x4.lst (by simpa using war) e3w, ⟨[], x4.lst (by simpa using far) e3f, .nil⟩, rfl, fun s hs => absurd hs (by simp)⟩ ?_ ?_
    · rintro i σ H5 hi ⟨y7, y8, y9, y10, y11, ms, rfl, x5, ok5, ew, hF, hml, hms⟩
      refine ⟨Nat.zero_le _, fun lg hlg => ?_⟩
      have hlg0 := x5.there _ hlg
      have lar : lg ≠ ar := fun z => hok.here (by rw [← z]; exact hlg0)
      refine ⟨⟨_, rfl, rfl, _, rfl, ite2 (fun e => ?_) (fun e => ?_)⟩, ?_⟩
      · exact ⟨_, rfl, _, _, rfl, rfl, .inr ⟨_, rfl, rfl, if decide ((0 : Int) < (way : Int)) = true then 1 else 0, by split <;> decide, by split <;> rfl⟩⟩
      · exact .inr ⟨_, rfl, rfl, 0, by decide, rfl⟩
      · rintro v H6 ⟨rfl, ls, hls, rfl⟩
        have x6 := x5.upd_new (o := .lst []) hlg0
        have ok6 := ok5.new (o := .lst []) hlg
        have el6 : upd H5 lg (.lst []) lg = some (.lst []) := upd_same
        have y6 : Ex [ar] H5 (upd H5 lg (.lst [])) := Ex.new hlg
        show tSeq _ _ _ _ (upd H5 lg (.lst []))
        generalize upd H5 lg (.lst []) = H6 at x6 ok6 el6 y6
        refine ⟨_, rfl, _, rfl, _, rfl, _, _, rfl, rfl, _, rfl, _, _, rfl, rfl, ar, sc, xs, opts + 1 - ls, ?_, by omega, by omega, ok6, fun t H7 ht x7 ok7 => ?_⟩
        · show [V.ref ar, V.int ((opts : Int) + 1 - (ls : Int))] = _
          rw [show (opts : Int) + 1 - (ls : Int) = ((opts + 1 - ls : Nat) : Int) by omega]
        refine ⟨_, _, rfl, rfl, _, rfl, by omega, by omega, ?_⟩
        rw [show ((ls : Int) + (t : Int)).toNat = ls + t by omega]
        refine for_rng (fun j σ H8 => ∃ y10 y11 ss, σ = [some (.ref ar), some (.int (most : Int)), some (.int (opts : Int)), some (.int ((1 : Int) + (n : Int))), some (.ref fl), some (.ref wl), some (.int (way : Int)), some (.int (i : Nat)), some (.ref lg), some (.int (ls : Int)), y10, y11] ∧ Ex [ar] H5 H8 ∧ RowOk K sc xs H8 ar ∧
            LstOf (Opt H8) H8 lg ss ∧ ss.length = j ∧ ∀ k ∈ ss, k < 1 + n)
          ⟨_, _, [], rfl, y6.trans x7, ok7, ⟨[], x7.lst (by simpa using lar) el6, .nil⟩, rfl, fun s hs => absurd hs (by simp)⟩ ?_ ?_
        · rintro j σ H8 hj ⟨y10, y11, ss, rfl, x8, ok8, hG, hsl, hss⟩
          have ew8 : H8 wl = some (.lst words) := x8.lst (by simpa using war) ew
          refine ⟨⟨_, rfl, ?_⟩, ?_⟩
          · refine ⟨_, rfl, _, _, rfl, rfl, _, rfl, ite2 (fun e => ?_) (fun e => ?_)⟩
            · exact ⟨_, rfl, ar, sc, wl, xs, words, rfl, by decide, by decide, ew8, war, ok8, fun u H9 x9 ok9 hu => ⟨good_words u hu, x9, ok9⟩⟩
            · refine ⟨_, rfl, _, rfl, wl, words, rfl, SqL.of ew8, fun p hp => ?_⟩
              have par : p ≠ ar := fun z => ok8.here (by rw [← z]; exact hp)
              refine ⟨ar, sc, p, xs, cutV words (some 1) none, rfl, by decide, by decide, upd_same, par, ok8.new hp, fun u H9 x9 ok9 hu => ⟨good_words u (List.mem_of_mem_drop (List.mem_of_mem_take hu)), (Ex.new hp).trans x9, ok9⟩⟩
          · rintro u H9 ⟨gu, x9, ok9⟩
            have hG9 : LstOf (Opt H9) H9 lg ss := lst_ex (R := fun H v n => Opt H v n) (fun _ _ => Opt.ex) x9 (by simpa using lar) hG
            refine ⟨.ref lg, rfl, .inl ⟨rfl, _, SqL.of hG9.choose_spec.1⟩, ?_⟩
            refine ⟨_, rfl, _, rfl, ar, sc, xs, 1 + n, ?_, by omega, by omega, ok9, fun k H10 hk x10 ok10 => ?_⟩
            · show [V.ref ar, V.int ((1 : Int) + (n : Int))] = _
              rw [show (1 : Int) + (n : Int) = ((1 + n : Nat) : Int) by omega]
            refine ⟨_, rfl, (by show 2 ≤ sizeLine; decide), fun p hp => ?_⟩
            obtain ⟨wg, hwg, pg⟩ : LstOf (Opt H10) H10 lg ss := lst_ex (R := fun H v n => Opt H v n) (fun _ _ => Opt.ex) x10 (by simpa using lar) hG9
            have z11 : Ex [ar] H10 (upd H10 p (.tup [.int (k : Int), u])) := Ex.new hp
            have hwg11 := z11.lst (by simpa using lar) hwg
            have x85 := (x8.trans x9).trans x10
            refine ⟨lg, wg, .ref p, rfl, rfl, hwg11, ?_, ?_⟩
            · rw [pg.length]
              exact small1000 (by omega)
            · refine ⟨_, _, ss ++ [k], rfl, (x85.upd_new (x85.there _ hp)).upd_new hlg, ?_, ?_, by rw [List.length_append, hsl]; rfl, fun z hz => ?_⟩
              · exact ok5.later (x85.upd_new (x85.there _ hp)) (ok10.new hp) hlg
              · exact lst_snoc (R := fun H v n => Opt H v n) (fun _ _ => Opt.ex) hwg11 (L2.Paired.mapP pg fun _ _ => Opt.ex z11) ⟨p, u, rfl, upd_same, gu⟩
              · rcases List.mem_append.mp hz with h | h
                · exact hss z h
                · rw [List.mem_singleton.mp h]
                  exact hk
        · rintro σ H8 ⟨y10, y11, ss, rfl, x8, ok8, ⟨wg, hwg, pg⟩, hsl, hss⟩
          have hF8 : LstOf (State H8) H8 fl ms := lst_ex (R := fun H v n => State H v n) (fun _ _ => State.ex) x8 (by simpa using far) hF
          obtain ⟨wf, hwf, pf⟩ := id hF8
          refine ⟨.ref fl, rfl, .inl ⟨rfl, _, SqL.of hwf⟩, ?_⟩
          refine ⟨_, rfl, lg, wg, rfl, .inl ⟨SqL.of hwg, fun p hp => ?_⟩⟩
          have z9 : Ex [ar] H8 (upd H8 p (.tup wg)) := Ex.new hp
          have hwf9 := z9.lst (by simpa using far) hwf
          refine ⟨fl, wf, .ref p, rfl, rfl, hwf9, ?_, ?_⟩
          · rw [pf.length]
            exact small1000 (by omega)
          · have x59 := (x5.trans x8).trans z9
            refine ⟨_, _, _, _, _, ms ++ [ss], rfl, x59.upd_new hfl0, ?_, ?_, ?_, by rw [List.length_append, hml]; rfl, fun s' hs' => ?_⟩
            · exact hok.later x59 (ok8.new hp) hfl0
            · rw [upd_ne (fun z => hfw z.symm)]
              exact z9.lst (by simpa using war) (x8.lst (by simpa using war) ew)
            · exact lst_snoc (R := fun H v n => State H v n) (fun _ _ => State.ex) hwf9 (L2.Paired.mapP pf fun _ _ => State.ex z9) ⟨p, wg, rfl, upd_same, L2.Paired.mapP pg fun _ _ => Opt.ex z9⟩
            · rcases List.mem_append.mp hs' with h | h
              · exact hms s' h
              · rw [List.mem_singleton.mp h]
                exact ⟨by omega, hss⟩
    · rintro σ H5 ⟨y7, y8, y9, y10, y11, ms, rfl, x5, ok5, ew, ⟨wf, hwf, pf⟩, hml, hms⟩
      refine ⟨_, rfl, fl, wf, rfl, .inl ⟨SqL.of hwf, fun p hp => ?_⟩⟩
      have z9 : Ex [ar] H5 (upd H5 p (.tup wf)) := Ex.new hp
      refine q _ ms _ (x5.trans z9) (ok5.new hp) ⟨p, wf, rfl, upd_same, L2.Paired.mapP pf fun _ _ => State.ex z9⟩ (by omega) (by omega) fun s' hs' => ?_
      rw [hml]
      exact hms s' hs'
end
end K4
set_option Elab.async false
set_option linter.all false
set_option maxRecDepth 100000
set_option maxHeartbeats 2000000
namespace K4
open PySem PySem.Spec PyProof.Rows L2 GxR

/-! ### one statement, told at once -/
def tWkS (Φ : L2.St → Hp → L2.St → Hp → Prop) (t : TS) : TS := fun D σ H => t { nx := Φ σ H, rt := D.rt } σ H ∧ ∀ σ1 H1, Φ σ H σ1 H1 → D.nx σ1 H1
theorem ps_wk {X : Cx} {st : Stmt} {t : TS} (Φ : L2.St → Hp → L2.St → Hp → Prop) (hs : PS X st t) : PS X st (tWkS Φ t) := by
  refine ⟨fun pins s σ H D I h => ?_⟩
  refine thn (hs.run pins s σ H _ I h.1) fun f s1 q1 => ?_
  cases f with
  | next =>
    obtain ⟨σ1, H1, I1, q⟩ := q1
    exact ⟨σ1, H1, I1, h.2 σ1 H1 q⟩
  | brk =>
    obtain ⟨_, _, _, q⟩ := q1
    exact q.elim
  | cont =>
    obtain ⟨_, _, _, q⟩ := q1
    exact q.elim
  | ret u => exact q1

theorem tup_lengths {H : Hp} {v : V} {st st' : List Nat} (a : State H v st) (b : State H v st') : st.length = st'.length := by
  obtain ⟨p, vs, rfl, e, pr⟩ := a
  obtain ⟨p', vs', e1, e', pr'⟩ := b
  cases e1
  rw [e] at e'
  cases e'
  rw [← pr.length, pr'.length]

section
variable {P : Program} {w : World} {K : PySem.W.Frag} {mg : Str → Option Value} {base : Heap}
/-! ### _law_table -/
abbrev n45 : List Str := ["_law_row_here", "_law_machine_here", "_law_marks", "_law_most", "_law_way", "_law_found", "_law_state", "_law_option", "_law_rows", "_law_length", "_law_every_here"]
theorem sc45 : FnScope n45 ["_law_row_here", "_law_machine_here", "_law_marks", "_law_most"] (defScope (top 45)) := ⟨rfl, rfl, rfl, by decide +kernel, rfl, by decide +kernel, by decide +kernel⟩
def spTable (K : PySem.W.Frag) : Sp := fun vs H Q _ => ∃ (ar sc : Addr) (xs : List Int) (mv : V) (m : List (List Nat)) (M most : Nat), vs = [.ref ar, mv, .int (M : Int), .int (most : Int)] ∧ 1 ≤ M ∧ M ≤ 4 ∧ 1 ≤ most ∧ most ≤ 8 ∧ Mac H mv m ∧ m.length ≤ 39 ∧ (∀ s ∈ m, s.length ≤ 3) ∧ RowOk K sc xs H ar ∧
  ∀ u ts H', Ex [ar] H H' → RowOk K sc xs H' ar → Tab H' u ts → GoodTab (M : Int) m ts → Q u H'
theorem good8 {M most : Nat} {r : List Int} (h : GoodRow (M : Int) (most : Int) r) (h8 : most ≤ 8) : GoodRow (M : Int) 8 r := ⟨h.1, by have := h.2.1; omega, h.2.2⟩
theorem ok45 {f : Addr} {fd : FuncData} (F : FnP K "_law_table" 45 [] f fd) (T : Txt mg) (cT : Cal P w K mg base 1 "_law_taken" ["_law_row_here", "_law_many"] [] (spTaken K)) (cR : Cal P w K mg base 2 "_law_row" ["_law_row_here", "_law_marks", "_law_most"] [] (spRow K))
    (cE : Cal P w K mg base 1 "_law_every" ["_law_marks", "_law_length"] [] spEvery) : FnOk P w K mg base CX0 3 f fd ["_law_row_here", "_law_machine_here", "_law_marks", "_law_most"] (spTable K) := by
  refine okD F sc45 (fun vs H Q E h => ?_) (fun cdv A outer s H vs Q E hcd hr h => ?_)
  · obtain ⟨ar, sc, xs, mv, m, M, most, rfl, _⟩ := h
    rfl
  · obtain ⟨ar, sc, xs, mv, m, M, most, rfl, m1, m4, t1, t8, hM, hml, hst3, hok, q⟩ := h
    obtain ⟨a, vs, rfl, ea, pr⟩ := id hM
    have hr1 : Room 1 (A.deeper (envOfC "_law_table" (defScope (top 45)) s.heap.objs.size f cdv)) := hr.mono (by decide)
    refine ⟨_, pss_cons (ps_par (i := 4) (j := 5) rfl sc45.nd rfl rfl (by decide) rfl rfl (pa_cons (pe_cal cT hr1 rfl (pa_cons (pv 0) (pa_cons pe_int pa_nil))) (pa_cons (pe_lst pa_nil) pa_nil)) (by rfl))
      (pss_cons (ps_for PassesOwn.never rfl (pi_tup (pv 1)) (pg_name (i := 6) sc45.nd rfl (.inl rfl))
        (pss_cons (ps_setLc (i := 8) (own := [("_law_option", 7)]) (g := gName 7) (tt := tYes) rfl sc45.nd rfl rfl (sw_true rfl rfl rfl (by decide +kernel)) (pi_tup (pv 6)) (blkOk_by (N := n45) (sc := defScope (top 45)) (by decide +kernel)) (fun _ _ _ _ _ => pg_name (i := 7) sc45.nd rfl (Or.inl rfl)) (fun _ _ _ _ _ => pts_nil)
            (fun _ _ _ _ _ => pe_cal cR hr rfl (pa_cons (pv 0) (pa_cons (pv 2) (pa_cons (pv 3) pa_nil)))))
        (pss_cons (ps_wk (fun σ H σ1 H1 => ∃ rl y7 y9 y10 rr, σ1 = ((((σ.set 7 y7).set 8 (some (.ref rl))).set 9 y9).set 10 y10) ∧ Ex [ar] H H1 ∧ RowOk K sc xs H1 ar ∧ rl ≠ ar ∧ RowL H1 rl rr ∧ (∀ v, σ[6]? = some (some v) → ∀ st, State H v st → rr.length = st.length) ∧ ∀ r ∈ rr, GoodRow (M : Int) 8 r)
            (ps_if (PW.pt (pw_and (pt_cmpR op_gt (pv 4) pe_int (nomark _)) (pw_and1 (pt_cmpR op_gt (pv 2) pe_int (nomark _)))))
              (pss_cons (ps_par (i := 9) (j := 8) rfl sc45.nd rfl rfl (by decide) rfl rfl (pa_cons pe_int (pa_cons (pe_lst pa_nil) pa_nil)) (by rfl))
              (pss_cons (ps_while PassesOwn.never (pt_cmpR op_lt (pe_callB call_lenH rfl T.len_ boot_len (pa_cons (pe_cal cE hr1 rfl (pa_cons (pv 2) (pa_cons (pv 9) pa_nil))) pa_nil)) (pe_callB call_lenH rfl T.len_ boot_len (pa_cons (pv 6) pa_nil)) (nomark _))
                  (pss_one (ps_set (i := 9) sc45.nd rfl (.inl rfl) (pe_op op_add (pv 9) pe_int))))
              (pss_cons (ps_set (i := 10) sc45.nd rfl (.inl rfl) (pe_cal cE hr1 rfl (pa_cons (pv 2) (pa_cons (pv 9) pa_nil))))
              (pss_cons (ps_for PassesOwn.never rfl (pi_tup (pv 6)) (pg_name (i := 7) sc45.nd rfl (.inl rfl))
                  (pss_one (ps_expr (pe_bm PySem.F.plainAttrs_list PySem.F.slot_list_append PySem.F.type_list_append mt_append (pv 8) (pa_cons (pe_bm PySem.F.plainAttrs_list PySem.F.slot_list_pop PySem.F.type_list_pop mt_popAt (pv 10) (pa_cons (pe_cal cT hr1 rfl (pa_cons (pv 0) (pa_cons (pe_callB call_lenH rfl T.len_ boot_len (pa_cons (pv 10) pa_nil)) pa_nil))) pa_nil)) pa_nil)))))
              (pss_one (ps_if (PW.pt (pw_and (pt_cmpR op_eq (pv 4) pe_int (nomark _)) (pw_and1 (pt_cmpR (op_neD hr.units) (pv 8) (pe_lst pa_nil) (nomark _)))))
                  (pss_one (ps_asg (pe_op op_catN (pe_ix ix_lstH (pv 8) pe_int (fun _ _ => rfl)) (pe_cal cR hr rfl (pa_cons (pv 0) (pa_cons (pv 2) (pa_cons pe_int pa_nil))))) (pg_sub (pv 8) pe_int set_list (fun _ => rfl)))) pss_nil)))))) pss_nil))
        (pss_one (ps_expr (pe_bm PySem.F.plainAttrs_list PySem.F.slot_list_append PySem.F.type_list_append mt_append (pv 5) (pa_cons (pe_callTy call_tuple_of rfl T.tuple_ bt_tuple (pa_cons (pv 8) pa_nil)) pa_nil)))))))
      (pss_one (ps_ret (pe_callTy call_tuple_of rfl T.tuple_ bt_tuple (pa_cons (pv 5) pa_nil))))), ?_⟩
    refine ⟨_, rfl, ar, sc, xs, 3, rfl, by decide, by decide, hok, fun way H1 hway x1 ok1 => ⟨Nat.zero_le _, fun fl hfl => ⟨_, _, rfl, ?_⟩⟩⟩
    have hfl0 := x1.there _ hfl
    have far : fl ≠ ar := fun z => hok.here (by rw [← z]; exact hfl0)
    have x2 : Ex [ar] H (upd H1 fl (.lst [])) := x1.upd_new hfl0
    refine ⟨_, rfl, a, rfl, ⟨vs, SqT.of (x2.tup _ _ ea)⟩, ?_⟩
    refine for_tup (xs := vs) (fun i σ H5 => ∃ y6 y7 y8 y9 y10 ts, σ = [some (.ref ar), some (.ref a), some (.int (M : Int)), some (.int (most : Int)), some (.int (way : Int)), some (.ref fl), y6, y7, y8, y9, y10] ∧ Ex [ar] H H5 ∧ RowOk K sc xs H5 ar ∧
        LstOf (Rows H5) H5 fl ts ∧ ts.map List.length = (m.take i).map List.length ∧ ∀ rs ∈ ts, ∀ r ∈ rs, GoodRow (M : Int) 8 r)
      ⟨none, none, none, none, none, [], rfl, x2, ok1.new hfl, ⟨[], upd_same, .nil⟩, rfl, fun rs h => absurd h (by simp)⟩ ?_ ?_ ?_
    · rintro i σ H5 _ ⟨y6, y7, y8, y9, y10, ts, rfl, x5, _⟩
      exact SqT.of (x5.tup _ _ ea)
    · rintro i x σ H5 hx ⟨y6, y7', y8, y9, y10', ts, rfl, x5, ok5, hF, htl, htg⟩
      obtain ⟨st, hsti, hSt⟩ := paired_getL pr hx
      obtain ⟨sa, ws, rfl, es, ps⟩ := id hSt
      have hwl : ws.length = st.length := ps.length
      have hs3 := hst3 st (List.mem_of_getElem? hsti)
      have es5 := x5.tup _ _ es
      -- rows
      refine ⟨_, rfl, sa, rfl, ⟨ws, SqT.of es5⟩, fun D hD => ?_⟩
      have hD0 := x5.there _ hD
      have Dar : D ≠ ar := fun z => hok.here (by rw [← z]; exact hD0)
      refine lc_tup (K := K) (a := sa) (xs := ws) (fun j H6 => Ex [ar] H5 H6 ∧ RowOk K sc xs H6 ar ∧ ∃ rr, RowL H6 D rr ∧ rr.length = j ∧ ∀ r ∈ rr, GoodRow (M : Int) 8 r) ⟨Ex.new hD, ok5.new hD, [], ⟨[], upd_same, .nil⟩, rfl, fun r h => absurd h (by simp)⟩ (fun j H6 _ p => SqT.of (p.1.tup _ _ es5)) ?_ ?_
      · rintro j y H6 hy ⟨x6, ok6, rr, ⟨wr, hwr, pwr⟩, hrl, hrg⟩
        have hj : j < ws.length := (List.getElem?_eq_some_iff.mp hy).1
        refine ⟨rfl, lcY ⟨_, rfl, _, rfl, _, rfl, ar, sc, xs, M, most, rfl, m1, m4, t1, t8, ok6, fun u r H7 x7 ok7 hR hg => ?_⟩⟩
        have hwr7 := x7.lst (by simpa using Dar) hwr
        refine ⟨wr, hwr7, ?_, (x6.trans x7).upd_new hD, ok5.later (x6.trans x7) ok7 hD, rr ++ [r], RowL.snoc hwr7 (L2.Paired.mapP pwr fun _ _ => Row.ex x7) hR, by rw [List.length_append, hrl]; rfl, fun z hz => ?_⟩
        · rw [pwr.length]
          exact small1000 (by omega)
        · rcases List.mem_append.mp hz with h | h
          · exact hrg z h
          · rw [List.mem_singleton.mp h]
            exact good8 hg t8
      · rintro H6 ⟨x6, ok6, rr, hRL, hrl, hrg⟩
        have x56 := x5.trans x6
        have es6 := x56.tup _ _ es
        refine ⟨?_, ?_⟩
        · have same : ∀ y7 y9 y10, ∃ rl z7 z9 z10 rr', ([some (.ref ar), some (.ref a), some (.int (M : Int)), some (.int (most : Int)), some (.int (way : Int)), some (.ref fl), some (.ref sa), y7, some (.ref D), y9, y10] : L2.St) = ((((([some (.ref ar), some (.ref a), some (.int (M : Int)), some (.int (most : Int)), some (.int (way : Int)), some (.ref fl), some (.ref sa), y7, some (.ref D), y9, y10] : L2.St).set 7 z7).set 8 (some (.ref rl))).set 9 z9).set 10 z10) ∧ Ex [ar] H6 H6 ∧ RowOk K sc xs H6 ar ∧ rl ≠ ar ∧ RowL H6 rl rr' ∧
              (∀ v, ([some (.ref ar), some (.ref a), some (.int (M : Int)), some (.int (most : Int)), some (.int (way : Int)), some (.ref fl), some (.ref sa), y7, some (.ref D), y9, y10] : L2.St)[6]? = some (some v) → ∀ st, State H6 v st → rr'.length = st.length) ∧ ∀ r ∈ rr', GoodRow (M : Int) 8 r := fun y7 y9 y10 =>
            ⟨D, y7, y9, y10, rr, rfl, Ex.refl _ _, ok6, Dar, hRL, fun v hv st' hst' => by
              cases hv
              rw [hrl, hwl]
              exact tup_lengths (State.ex x56 hSt) hst', hrg⟩
          refine ⟨_, rfl, _, _, rfl, rfl, _, rfl, ite2 (fun e1 => ⟨_, rfl, _, _, rfl, rfl, _, rfl, ite2 (fun e2 => ?_) (fun e2 => same _ _ _)⟩) (fun e1 => same _ _ _)⟩
          have hM2 : 2 ≤ M := by
            have := of_decide_eq_true e2
            omega
          refine ⟨Nat.zero_le _, fun rl hrl0 => ⟨_, _, rfl, ?_⟩⟩
          have rar : rl ≠ ar := fun z => ok6.here (by rw [← z]; exact hrl0)
          have x7 : Ex [] H6 (upd H6 rl (.lst [])) := Ex.new hrl0
          have e7 : upd H6 rl (.lst []) rl = some (.lst []) := upd_same
          show tSeq _ _ _ _ (upd H6 rl (.lst []))
          generalize upd H6 rl (.lst []) = H7 at x7 e7
          have e7ne : H7 rl ≠ none := by rw [e7]; exact fun z => by cases z
          refine ⟨fun k σ H8 => ∃ L : Nat, σ = [some (.ref ar), some (.ref a), some (.int (M : Int)), some (.int (most : Int)), some (.int (way : Int)), some (.ref fl), some (.ref sa), y7', some (.ref rl), some (.int (L : Int)), y10'] ∧ k = 3 - L ∧ 1 ≤ L ∧ L ≤ 2 ∧ Ex [] H7 H8, ⟨2, 1, rfl, rfl, by decide, by decide, Ex.refl _ _⟩, ?_⟩
          rintro k σ H8 ⟨L, rfl, rfl, hL1, hL2, x8⟩
          have x78 := x7.trans x8
          refine ⟨_, rfl, _, rfl, M, L, rfl, m1, m4, by omega, fun p0 es0 H9 x9 hp0 hR0 hlen0 hin0 => ?_⟩
          obtain ⟨w0, hw0, pw0⟩ := id hR0
          have hw0l := pw0.length
          have x79 := x78.trans x9
          have es9 := x79.tup _ _ es6
          refine ⟨p0, w0, rfl, .inl hw0, _, rfl, sa, ws, rfl, .inr es9, _, _, rfl, rfl, _, rfl, ite2 (fun e3 => ?_) (fun e3 => ?_)⟩
          · have hL : L = 1 := by
              have h1 := of_decide_eq_true e3
              by_cases h : L = 1
              · exact h
              · have h2 : L = 2 := by omega
                subst h2
                have : 2 ^ 2 ≤ M ^ 2 := Nat.pow_le_pow_left hM2 2
                omega
            subst hL
            refine ⟨fun σ' H' => σ' = [some (.ref ar), some (.ref a), some (.int (M : Int)), some (.int (most : Int)), some (.int (way : Int)), some (.ref fl), some (.ref sa), y7', some (.ref rl), some (.int ((2 : Nat) : Int)), y10'] ∧ Ex [] H7 H', fun σ' H' ⟨h1, h2⟩ => ⟨1, by omega, 2, h1, rfl, by decide, by decide, h2⟩, ?_⟩
            exact ⟨_, rfl, _, _, rfl, rfl, rfl, x8.trans x9⟩
          · have hge : st.length ≤ M ^ L := by
              have h1 : ¬ ((w0.length : Int) < (ws.length : Int)) := fun z => e3 (decide_eq_true z)
              omega
            refine ⟨_, rfl, _, rfl, M, L, rfl, m1, m4, by omega, fun el es H10 x10 hel hEl helen hein => ?_⟩
            have x7_10 := x79.trans x10
            have elr : el ≠ rl := fun z => by
              have h1 := (x8.trans x9).lst0 e7
              rw [z, h1] at hel
              cases hel
            have hel6 : H6 el = none := x79.there _ hel
            have elar : el ≠ ar := fun z => ok6.here (by rw [← z]; exact hel6)
            have e10 : H10 rl = some (.lst []) := ((x8.trans x9).trans x10).lst0 e7
            obtain ⟨q1, q2⟩ := pow_mul_small m1 m4 (n := L) (by omega)
            refine ⟨_, rfl, sa, rfl, ⟨ws, SqT.of (x7_10.tup _ _ es6)⟩, ?_⟩
            refine for_tup (xs := ws) (fun j σ H11 => ∃ y7 es rr, σ = [some (.ref ar), some (.ref a), some (.int (M : Int)), some (.int (most : Int)), some (.int (way : Int)), some (.ref fl), some (.ref sa), y7, some (.ref rl), some (.int (L : Int)), some (.ref el)] ∧ Ex [ar] H6 H11 ∧ RowOk K sc xs H11 ar ∧ RowL H11 rl rr ∧ RowL H11 el es ∧ rr.length = j ∧ es.length + j = M ^ L ∧ InM M L rr ∧ InM M L es)
              ⟨y7', es, [], rfl, x7_10.any, ok6.ex x7_10, ⟨[], e10, .nil⟩, hEl, rfl, helen, fun r h => absurd h (by simp), hein⟩ ?_ ?_ ?_
            · rintro j σ H11 _ ⟨y7, es, rr, rfl, x11, _⟩
              exact SqT.of (x11.tup _ _ es6)
            · rintro j y σ H11 hy ⟨y7, es, rr, rfl, x11, ok11, ⟨wr, hwr, pwr⟩, ⟨we, hwe, pwe⟩, hrj, hej, hri, hei⟩
              have hj : j < ws.length := (List.getElem?_eq_some_iff.mp hy).1
              have z1 := pwr.length
              have z2 := pwe.length
              refine ⟨.ref rl, rfl, .inl ⟨rfl, _, SqL.of hwr⟩, .ref el, rfl, .inl ⟨rfl, _, SqL.of hwe⟩, ?_⟩
              refine ⟨_, rfl, _, rfl, el, we, rfl, .inl hwe, ar, sc, xs, we.length, rfl, by omega, by omega, ok11, fun v H12 hv x12 ok12 => ?_⟩
              have hwe12 := x12.lst (by simpa using elar) hwe
              have hwr12 := x12.lst (by simpa using rar) hwr
              obtain ⟨r, hrv, hrow⟩ := paired_getL pwe (List.getElem?_eq_getElem hv)
              have hix : ixN we.length (v : Int) = some v := by
                unfold ixN
                rw [if_pos (by omega), if_pos (by omega), Int.toNat_natCast]
              have y1 : Ex [el] H12 (upd H12 el (.lst (we.eraseIdx v))) := (Ex.refl _ _).wr (by simp) hwe12
              have hwr13 := y1.lst (by simpa using elr.symm) hwr12
              have y2 : Ex [rl] (upd H12 el (.lst (we.eraseIdx v))) (upd (upd H12 el (.lst (we.eraseIdx v))) rl (.lst (wr ++ [we[v]]))) := (Ex.refl _ _).wr (by simp) hwr13
              refine ⟨el, we, (v : Int), v, we[v], rfl, rfl, hwe12, by omega, by omega, (ixN_seq hix).1, List.getElem?_eq_getElem hv, rl, wr, we[v], rfl, rfl, hwr13, ?_, ?_⟩
              · exact small1000 (by omega)
              · have xx := ((x11.trans x12).upd_new (o := .lst (we.eraseIdx v)) hel6).upd_new (o := .lst (wr ++ [we[v]])) hrl0
                refine ⟨_, es.eraseIdx v, rr ++ [r], rfl, xx, ?_, ?_, ?_, ?_, ?_, ?_, ?_⟩
                · exact ok6.later ((x11.trans x12).upd_new (o := .lst (we.eraseIdx v)) hel6) (ok6.later (x11.trans x12) ok12 hel6) hrl0
                · exact RowL.snoc hwr13 (L2.Paired.mapP pwr fun _ _ h => Row.ex y1 (Row.ex x12 h)) (Row.ex y1 (Row.ex x12 hrow))
                · exact ⟨we.eraseIdx v, by rw [upd_ne elr]; exact upd_same, L2.Paired.mapP (paired_erase v pwe) fun _ _ h => Row.ex y2 (Row.ex y1 (Row.ex x12 h))⟩
                · rw [List.length_append, hrj]; rfl
                · rw [List.length_eraseIdx, if_pos (by omega)]
                  omega
                · intro z hz
                  rcases List.mem_append.mp hz with h | h
                  · exact hri z h
                  · rw [List.mem_singleton.mp h]
                    exact hei r (List.mem_of_getElem? hrv)
                · intro z hz
                  exact hei z (List.mem_of_mem_eraseIdx hz)
            · rintro σ H11 ⟨y7, es, rr, rfl, x11, ok11, hRr, hEl11, hrj, hej, hri, hei⟩
              have good : ∀ r ∈ rr, GoodRow (M : Int) 8 r := fun r hr => by
                obtain ⟨h1, h2⟩ := hri r hr
                exact ⟨by omega, by omega, h2⟩
              have fin : ∀ H12 rr', Ex [ar] H6 H12 → RowOk K sc xs H12 ar → RowL H12 rl rr' → rr'.length = rr.length → (∀ r ∈ rr', GoodRow (M : Int) 8 r) →
                ∃ rl' z7 z9 z10 rr', ([some (.ref ar), some (.ref a), some (.int (M : Int)), some (.int (most : Int)), some (.int (way : Int)), some (.ref fl), some (.ref sa), y7, some (.ref rl), some (.int (L : Int)), some (.ref el)] : L2.St) = ((((([some (.ref ar), some (.ref a), some (.int (M : Int)), some (.int (most : Int)), some (.int (way : Int)), some (.ref fl), some (.ref sa), y7', some (.ref D), y9, y10'] : L2.St).set 7 z7).set 8 (some (.ref rl'))).set 9 z9).set 10 z10) ∧ Ex [ar] H6 H12 ∧ RowOk K sc xs H12 ar ∧ rl' ≠ ar ∧ RowL H12 rl' rr' ∧
                (∀ v, ([some (.ref ar), some (.ref a), some (.int (M : Int)), some (.int (most : Int)), some (.int (way : Int)), some (.ref fl), some (.ref sa), y7', some (.ref D), y9, y10'] : L2.St)[6]? = some (some v) → ∀ st, State H6 v st → rr'.length = st.length) ∧ ∀ r ∈ rr', GoodRow (M : Int) 8 r := fun H12 rr' h1 h2 h3 h4 h5 =>
                ⟨rl, y7, _, _, rr', rfl, h1, h2, rar, h3, fun v hv st' hst' => by
                  cases hv
                  rw [h4, hrj, hwl]
                  exact tup_lengths (State.ex x56 hSt) hst', h5⟩
              refine ⟨_, rfl, rfl, _, rfl, ite2 (fun e5 => ?_) (fun e5 => iteF (fin H11 rr x11 ok11 hRr rfl good))⟩
              refine ⟨_, rfl, Nat.zero_le _, fun D2 hD2 => ?_⟩
              have x12 : Ex [] H11 (upd H11 D2 (.lst [])) := Ex.new hD2
              have hR12 : RowL (upd H11 D2 (.lst [])) rl rr := hRr.ex x12 (by simp)
              have ok12 := ok11.ex x12
              have x6_12 := x11.trans x12.any
              refine ⟨.list (rr.map rowD), .list [], hR12.dp, .lst (.of upd_same) .nil, rows_shapedL rr, by decide, _, rfl, ite2 (fun e6 => ?_) (fun e6 => fin _ rr x6_12 ok12 hR12 rfl good)⟩
              generalize upd H11 D2 (.lst []) = H12 at x12 hR12 ok12 x6_12
              cases rr with
              | nil => exact absurd e6 (by decide)
              | cons r0 rt =>
                obtain ⟨w12, hw12, pw12⟩ := hR12
                cases pw12 with
                | cons h0 ht =>
                  rename_i hd0 wt
                  obtain ⟨b0, rfl, eb0⟩ := id h0
                  refine ⟨_, rfl, rl, _, 0, _, rfl, rfl, hw12, atI_nat (j := 0) rfl, _, rfl, _, rfl, ar, sc, xs, M, 1, rfl, m1, m4, by decide, by decide, ok12, fun u r H14 x14 ok14 hRow hg => ?_⟩
                  obtain ⟨bu, rfl, ebu⟩ := id hRow
                  have g0 := good r0 (by simp)
                  have g1 := hg.2.1
                  have g2 := (hri r0 (by simp)).1
                  refine ⟨b0, bu, _, _, rfl, rfl, x14.tup _ _ eb0, ebu, by rw [List.length_map, List.length_map]; omega, fun c H15 x15 e15 => ?_⟩
                  have hw15 := x15.lst0 (x14.lst (by simpa using rar) hw12)
                  have xx := x6_12.trans (x14.trans x15.any)
                  refine ⟨_, rfl, rl, _, 0, 0, rfl, rfl, hw15, (by unfold ixN; rw [if_pos (by omega), if_pos (by rw [List.length_cons]; omega)]; rfl), ?_⟩
                  have y3 : Ex [rl] H15 (upd H15 rl (.lst (V.ref c :: wt))) := (Ex.refl _ _).wr (by simp) hw15
                  refine fin _ ((r0 ++ r) :: rt) (xx.upd_new hrl0) (ok6.later xx (ok14.ex x15) hrl0) ⟨_, upd_same, .cons ⟨c, rfl, y3.tup _ _ (by rw [e15, List.map_append])⟩ (L2.Paired.mapP ht fun _ _ h => Row.ex y3 (Row.ex x15 (Row.ex x14 h)))⟩ rfl fun z hz => ?_
                  rcases List.mem_cons.mp hz with rfl | h
                  · refine ⟨by rw [List.length_append]; omega, by rw [List.length_append]; omega, fun i hi => ?_⟩
                    rcases List.mem_append.mp hi with h | h
                    · exact g0.2.2 i h
                    · exact hg.2.2 i h
                  · exact good z (List.mem_cons_of_mem _ h)
        · rintro σ1 H7 ⟨rl, y7, y9, y10, rr, rfl, x7, ok7, rar, hRL7, hlen, hg7⟩
          have hlen2 : rr.length = st.length := hlen _ rfl st (State.ex x56 hSt)
          obtain ⟨wr, hwr, pwr⟩ := id hRL7
          obtain ⟨wf, hwf, pf⟩ : LstOf (Rows H7) H7 fl ts := lst_ex (R := fun H v n => Rows H v n) (fun _ _ => Rows.ex) (x6.trans x7) (by simpa using far) hF
          refine ⟨.ref fl, rfl, .inl ⟨rfl, _, SqL.of hwf⟩, ?_⟩
          refine ⟨_, rfl, rl, wr, rfl, .inl ⟨SqL.of hwr, fun p hp => ?_⟩⟩
          have z9 : Ex [ar] H7 (upd H7 p (.tup wr)) := Ex.new hp
          have hwf9 := z9.lst (by simpa using far) hwf
          have htl2 : ts.length = i := by
            have := congrArg List.length htl
            rw [List.length_map, List.length_map, List.length_take] at this
            have := (List.getElem?_eq_some_iff.mp hsti).1
            omega
          have hi := (List.getElem?_eq_some_iff.mp hsti).1
          refine ⟨fl, wf, .ref p, rfl, rfl, hwf9, ?_, ?_⟩
          · rw [pf.length]
            exact small1000 (by omega)
          · have x59 := (x56.trans x7).trans z9
            refine ⟨_, _, _, _, _, ts ++ [rr], rfl, x59.upd_new hfl0, hok.later x59 (ok7.new hp) hfl0, ?_, ?_, fun rs hrs => ?_⟩
            · exact lst_snoc (R := fun H v n => Rows H v n) (fun _ _ => Rows.ex) hwf9 (L2.Paired.mapP pf fun _ _ => Rows.ex z9) ⟨p, wr, rfl, upd_same, L2.Paired.mapP pwr fun _ _ => Row.ex z9⟩
            · rw [take_snoc hsti, List.map_append, List.map_append, htl, List.map_singleton, List.map_singleton, hlen2]
            · rcases List.mem_append.mp hrs with h | h
              · exact htg rs h
              · rw [List.mem_singleton.mp h]
                exact hg7
    · rintro σ H5 ⟨y6, y7, y8, y9, y10, ts, rfl, x5, ok5, ⟨wf, hwf, pf⟩, htl, htg⟩
      refine ⟨_, rfl, fl, wf, rfl, .inl ⟨SqL.of hwf, fun p hp => ?_⟩⟩
      have z9 : Ex [ar] H5 (upd H5 p (.tup wf)) := Ex.new hp
      refine q _ ts _ (x5.trans z9) (ok5.new hp) ⟨p, wf, rfl, upd_same, L2.Paired.mapP pf fun _ _ => Rows.ex z9⟩ ⟨?_, htg⟩
      rw [htl, List.take_of_length_le]
      rw [pr.length]
      exact Nat.le_refl _
end
end K4
set_option Elab.async false
set_option linter.all false
set_option maxRecDepth 100000
set_option maxHeartbeats 2000000
namespace K4
open PySem PySem.Spec PyProof.Rows L2 GxR

/-! ### a dict of numbers -/
theorem Ex.wrD {bad : List Addr} {H H1 : Hp} {p : Addr} {o : HO} {kvs : List (Key × V)} (a : Ex bad H H1) (hp : p ∈ bad) (h : H1 p = some (.dK kvs)) : Ex bad H (upd H1 p o) where
  keep := fun b u n q t => by
    have hb : b ≠ p := fun z => n (by rw [z]; exact hp)
    rw [upd_ne hb]
    exact a.keep b u n q t
  tup := fun b xs q => by
    have q1 := a.tup b xs q
    have hb : b ≠ p := fun z => by rw [z, h] at q1; cases q1
    rw [upd_ne hb]
    exact q1
  tab := fun P q => by
    obtain ⟨ps, e, t⟩ := a.tab P q
    refine ⟨ps, ?_, t⟩
    rw [upd_ne (fun z => by rw [z, h] at e; cases e)]
    exact e
  there := fun b q => by
    by_cases hb : b = p
    · rw [hb, upd_same] at q; cases q
    · rw [upd_ne hb] at q
      exact a.there b q
abbrev dkv (fs : List Nat) : List (Key × V) := fs.map fun n : Nat => ((.inl (n : Int) : Key), V.bl true)
theorem dkv_any (n : Nat) : ∀ fs : List Nat, ((dkv fs).any fun kv => decide (kv.1 = (.inl (n : Int) : Key))) = decide (n ∈ fs)
  | [] => rfl
  | x :: fs => by
    have h := dkv_any n fs
    rw [dkv, List.map_cons, List.any_cons, h]
    by_cases z : n = x
    · subst z
      simp
    · have : ¬ ((.inl (x : Int) : Key) = .inl (n : Int)) := fun q => z (by injection q with q; omega)
      rw [decide_eq_false this]
      simp [z]
theorem dkv_same (n : Nat) : ∀ fs : List Nat, (dkv fs).map (fun kv => if kv.1 = (.inl (n : Int) : Key) then (kv.1, V.bl true) else kv) = dkv fs
  | [] => rfl
  | x :: fs => by
    have h := dkv_same n fs
    rw [dkv, List.map_cons, List.map_cons, h]
    congr 1
    split <;> rfl
theorem dkv_put (n : Nat) (fs : List Nat) : putK (dkv fs) (.inl (n : Int)) (.bl true) = dkv (if n ∈ fs then fs else fs ++ [n]) := by
  unfold putK
  rw [dkv_any]
  by_cases z : n ∈ fs
  · rw [decide_eq_true z, if_pos rfl, if_pos z, dkv_same]
  · rw [decide_eq_false z, if_neg Bool.false_ne_true, if_neg z]
    simp [dkv]
theorem dkv_keys (fs : List Nat) : (dkv fs).map (fun kv => kV kv.1) = natV fs := by
  rw [dkv, List.map_map]
  rfl

/-- what is led to from fs stands in gs -/
def Closed (m : List (List Nat)) (fs gs : List Nat) : Prop := ∀ s ∈ fs, ∀ st, m[s]? = some st → ∀ n ∈ st, n ∈ gs
/-- the rounds of the law -/
structure Rnd (m : List (List Nat)) (k : Nat) (fs : List Nat) : Prop where
  nd : fs.Nodup
  re : ∀ s ∈ fs, Reach m s
  z : 0 ∈ fs
  c : Closed m fs fs ∨ k + 1 ≤ fs.length
theorem Rnd.next {m : List (List Nat)} {k : Nat} {fs ext : List Nat} (r : Rnd m k fs) (nd : (fs ++ ext).Nodup) (re : ∀ n ∈ ext, Reach m n) (he : ∀ n ∈ ext, ∃ s ∈ fs, ∃ st, m[s]? = some st ∧ n ∈ st) (hc : Closed m fs (fs ++ ext)) : Rnd m (k + 1) (fs ++ ext) := by
  refine ⟨nd, fun s hs => (List.mem_append.mp hs).elim (r.re s) (re s), List.mem_append_left _ r.z, ?_⟩
  cases ext with
  | nil =>
    rw [List.append_nil] at hc ⊢
    exact .inl hc
  | cons x t =>
    right
    rcases r.c with h | h
    · obtain ⟨s, hs, st, e, hn⟩ := he x (by simp)
      have h1 := h s hs st e x hn
      exact absurd rfl ((List.nodup_append.mp nd).2.2 x h1 x (by simp))
    · rw [List.length_append, List.length_cons]
      omega
theorem Rnd.all {m : List (List Nat)} {fs : List Nat} (g : GoodMac m) (r : Rnd m m.length fs) (s : Nat) : s ∈ fs ↔ Reach m s := by
  have hl := nodup_len _ _ r.nd fun s hs => (r.re s hs).lt g
  have hc : Closed m fs fs := r.c.elim id fun h => by omega
  exact ⟨r.re s, fun h => reach_sub r.z hc h⟩

section
variable {P : Program} {w : World} {K : PySem.W.Frag} {mg : Str → Option Value} {base : Heap}
/-! ### _law_reached -/
abbrev n46 : List Str := ["_law_machine_here", "_law_found", "_law_turn", "_law_state", "_law_after", "_law_word"]
theorem sc46 : FnScope n46 ["_law_machine_here"] (defScope (top 46)) := ⟨rfl, rfl, rfl, by decide +kernel, rfl, by decide +kernel, by decide +kernel⟩
theorem ok46 {f : Addr} {fd : FuncData} (F : FnP K "_law_reached" 46 [] f fd) (T : Txt mg) : FnOk P w K mg base CX0 1 f fd ["_law_machine_here"] spCome := by
  refine okD F sc46 (fun vs H Q E h => ?_) (fun cdv A outer s H vs Q E hcd hr h => ?_)
  · obtain ⟨v, m, rfl, _⟩ := h
    rfl
  · obtain ⟨v, m, rfl, hM, gM, q⟩ := h
    obtain ⟨a, vs, rfl, ea, pr⟩ := id hM
    have hl : vs.length = m.length := pr.length
    have hu : (A.deeper (envOfC "_law_reached" (defScope (top 46)) s.heap.objs.size f cdv)).units + 1 < cLine := by have := hr.un; omega
    refine ⟨_, pss_cons (ps_set (i := 1) sc46.nd rfl (.inl rfl) (pe_disp (pps_cons pe_int pe_bl pps_nil) rfl rfl (by simp) (by decide)))
      (pss_cons (ps_for PassesOwn.never rfl (pi_range1 (by rfl) T.range_ (pa_cons (pe_callB call_lenH rfl T.len_ boot_len (pa_cons (pv 0) pa_nil)) pa_nil)) (pg_name (i := 2) sc46.nd rfl (.inl rfl))
        (pss_one (ps_for PassesOwn.never rfl (pi_list (pe_callTy (call_list_dK rfl) rfl T.list_ bt_list (pa_cons (pv 1) pa_nil))) (pg_name (i := 3) sc46.nd rfl (.inl rfl))
          (pss_one (ps_for PassesOwn.never rfl (pi_tup (pe_ix ix_tupH (pv 0) (pv 3) (fun _ _ => rfl))) (pg_tup rfl (pgs_cons (pg_name (i := 4) sc46.nd rfl (.inl rfl)) (pgs_cons (pg_name (i := 5) sc46.nd rfl (.inl rfl)) pgs_nil)))
            (pss_one (ps_dput hu (pv 1) (pv 4) pe_bl rfl)))))))
      (pss_one (ps_ret (pe_callB cr_sorted rfl T.sorted_ boot_sorted (pa_cons (pe_callTy (call_list_dK rfl) rfl T.list_ bt_list (pa_cons (pv 1) pa_nil)) pa_nil))))), ?_⟩
    refine fun d hd => ⟨upd_same, [(.inl 0, .bl true)], rfl, by decide, ?_⟩
    have x1 : Ex [] H (upd (upd H d (.dK [])) d (.dK (mergeK [] [(.inl 0, .bl true)]))) := by
      have z : upd (upd H d (.dK [])) d (.dK (mergeK [] [(.inl 0, .bl true)])) = upd H d (.dK (mergeK [] [(.inl 0, .bl true)])) := by
        funext b
        by_cases hb : b = d
        · subst hb
          rw [upd_same, upd_same]
        · rw [upd_ne hb, upd_ne hb, upd_ne hb]
      rw [z]
      exact Ex.new hd
    have e1 : upd (upd H d (.dK [])) d (.dK (mergeK [] [(.inl 0, .bl true)])) d = some (.dK (dkv [0])) := upd_same
    show tSeq _ _ _ _ (upd (upd H d (.dK [])) d (.dK (mergeK [] [(.inl 0, .bl true)])))
    generalize upd (upd H d (.dK [])) d (.dK (mergeK [] [(.inl 0, .bl true)])) = H1 at x1 e1
    obtain ⟨b1, b2⟩ := small62 (n := vs.length) (by have := gM.2.1; omega)
    refine ⟨_, rfl, a, _, rfl, .inr (x1.tup _ _ ea), _, rfl, b1, b2, ?_⟩
    rw [Int.toNat_natCast, hl]
    refine for_rng (fun k σ H2 => ∃ y2 y3 y4 y5 fs, σ = [some (.ref a), some (.ref d), y2, y3, y4, y5] ∧ Ex [] H H2 ∧ H2 d = some (.dK (dkv fs)) ∧ Rnd m k fs)
      ⟨none, none, none, none, [0], rfl, x1, e1, by simp, fun s hs => (by rw [List.mem_singleton.mp hs]; exact .zero), by simp, .inr (by decide)⟩ ?_ ?_
    · rintro k σ H2 hk ⟨y2, y3, y4, y5, fs, rfl, x2, e2, R⟩
      refine ⟨_, rfl, d, dkv fs, rfl, e2, fun l hl0 => ⟨l, rfl, ⟨natV fs, SqL.of (by rw [upd_same, dkv_keys])⟩, ?_⟩⟩
      have hld : l ≠ d := fun z => by rw [z, e2] at hl0; cases hl0
      have x3 : Ex [] H (upd H2 l (.lst ((dkv fs).map fun kv => kV kv.1))) := x2.upd_new (x2.there _ hl0)
      have e3 : upd H2 l (.lst ((dkv fs).map fun kv => kV kv.1)) d = some (.dK (dkv fs)) := by rw [upd_ne hld.symm]; exact e2
      have l3 : upd H2 l (.lst ((dkv fs).map fun kv => kV kv.1)) l = some (.lst (natV fs)) := by rw [upd_same, dkv_keys]
      generalize upd H2 l (.lst ((dkv fs).map fun kv => kV kv.1)) = H3 at x3 e3 l3
      refine for_list (xs := natV fs) (fun j σ H4 => ∃ y3 y4 y5 ext, σ = [some (.ref a), some (.ref d), some (.int (k : Nat)), y3, y4, y5] ∧ Ex [] H H4 ∧ H4 l = some (.lst (natV fs)) ∧ H4 d = some (.dK (dkv (fs ++ ext))) ∧ (fs ++ ext).Nodup ∧ (∀ n ∈ ext, Reach m n) ∧ (∀ n ∈ ext, ∃ s ∈ fs, ∃ st, m[s]? = some st ∧ n ∈ st) ∧ Closed m (fs.take j) (fs ++ ext))
        ⟨y3, y4, y5, [], rfl, x3, l3, by rw [List.append_nil]; exact e3, by rw [List.append_nil]; exact R.nd, fun n hn => absurd hn (by simp), fun n hn => absurd hn (by simp), fun s hs => absurd hs (by simp)⟩ ?_ ?_ ?_
      · rintro j σ H4 _ ⟨y3, y4, y5, ext, rfl, _, l4, _⟩
        exact SqL.of l4
      · rintro j x σ H4 hx ⟨y3, y4, y5, ext, rfl, x4, l4, e4, nd4, re4, he4, hc4⟩
        obtain ⟨s, hs, hsj, rfl⟩ := nat_at hx
        have hsr := R.re s hs
        obtain ⟨st, hst⟩ : ∃ st, m[s]? = some st := ⟨_, List.getElem?_eq_getElem (hsr.lt gM)⟩
        obtain ⟨u, hu, b, ws, rfl, eb, pb⟩ := paired_get pr hst
        have hwl : ws.length = st.length := pb.length
        refine ⟨_, rfl, _, rfl, a, vs, (s : Int), .ref b, rfl, rfl, x4.tup _ _ ea, atI_nat hu, b, rfl, ⟨ws, SqT.of (x4.tup _ _ eb)⟩, ?_⟩
        refine for_tup (xs := ws) (fun i σ H5 => ∃ y4 y5 ext, σ = [some (.ref a), some (.ref d), some (.int (k : Nat)), some (.int (s : Int)), y4, y5] ∧ Ex [] H H5 ∧ H5 l = some (.lst (natV fs)) ∧ H5 d = some (.dK (dkv (fs ++ ext))) ∧ (fs ++ ext).Nodup ∧ (∀ n ∈ ext, Reach m n) ∧ (∀ n ∈ ext, ∃ s ∈ fs, ∃ st, m[s]? = some st ∧ n ∈ st) ∧ Closed m (fs.take j) (fs ++ ext) ∧ ∀ n ∈ st.take i, n ∈ fs ++ ext)
          ⟨y4, y5, ext, rfl, x4, l4, e4, nd4, re4, he4, hc4, fun n hn => absurd hn (by simp)⟩ ?_ ?_ ?_
        · rintro i σ H5 _ ⟨y4, y5, ext, rfl, x5, _⟩
          exact SqT.of (x5.tup _ _ eb)
        · rintro i x σ H5 hx ⟨y4, y5, ext, rfl, x5, l5, e5, nd5, re5, he5, hc5, hi5⟩
          obtain ⟨n, hn, c, wv, rfl, ec, gw⟩ := paired_getL pb hx
          have hnst := List.mem_of_getElem? hn
          have hnr : Reach m n := .step hsr hst hnst
          have hfl := nodup_len _ _ nd5 fun s hs => ((List.mem_append.mp hs).elim (R.re s) (re5 s)).lt gM
          refine ⟨c, _, rfl, SqT.of (x5.tup _ _ ec), rfl, _, _, rfl, _, _, rfl, rfl, ?_⟩
          refine ⟨_, rfl, _, rfl, d, _, rfl, DPut.k (k := .inl (n : Int)) e5 (by rw [List.length_map]; have := gM.2.1; exact small1000 (by omega)), ?_⟩
          have x6 : Ex [] H (upd H5 d (.dK (putK (dkv (fs ++ ext)) (.inl (n : Int)) (.bl true)))) := x5.upd_new hd
          have y6 : Ex [d] H5 (upd H5 d (.dK (putK (dkv (fs ++ ext)) (.inl (n : Int)) (.bl true)))) := (Ex.refl _ _).wrD (by simp) e5
          have l6 := y6.lst (by simpa using hld) l5
          have e6 : upd H5 d (.dK (putK (dkv (fs ++ ext)) (.inl (n : Int)) (.bl true))) d = some (.dK (dkv (if n ∈ fs ++ ext then fs ++ ext else fs ++ ext ++ [n]))) := by rw [upd_same, dkv_put]
          by_cases hni : n ∈ fs ++ ext
          · rw [if_pos hni] at e6
            refine ⟨_, _, ext, rfl, x6, l6, e6, nd5, re5, he5, hc5, fun z hz => ?_⟩
            rw [take_snoc hn] at hz
            rcases List.mem_append.mp hz with h | h
            · exact hi5 z h
            · rw [List.mem_singleton.mp h]
              exact hni
          · rw [if_neg hni, List.append_assoc] at e6
            refine ⟨_, _, ext ++ [n], rfl, x6, l6, e6, ?_, fun z hz => ?_, fun z hz => ?_, fun s' hs' st' hst' z hz => ?_, fun z hz => ?_⟩
            · rw [← List.append_assoc]
              exact List.nodup_append.mpr ⟨nd5, by simp, fun x hx y hy => by
                rw [List.mem_singleton.mp hy]
                exact fun z => hni (by rw [← z]; exact hx)⟩
            · rcases List.mem_append.mp hz with h | h
              · exact re5 z h
              · rw [List.mem_singleton.mp h]
                exact hnr
            · rcases List.mem_append.mp hz with h | h
              · exact he5 z h
              · rw [List.mem_singleton.mp h]
                exact ⟨s, hs, st, hst, hnst⟩
            · rw [← List.append_assoc]
              exact List.mem_append_left _ (hc5 s' hs' st' hst' z hz)
            · rw [← List.append_assoc]
              rw [take_snoc hn] at hz
              rcases List.mem_append.mp hz with h | h
              · exact List.mem_append_left _ (hi5 z h)
              · exact List.mem_append_right _ h
        · rintro σ H5 ⟨y4, y5, ext, rfl, x5, l5, e5, nd5, re5, he5, hc5, hi5⟩
          rw [hwl, List.take_length] at hi5
          refine ⟨_, y4, y5, ext, rfl, x5, l5, e5, nd5, re5, he5, fun s' hs' st' hst' z hz => ?_⟩
          rw [take_snoc hsj] at hs'
          rcases List.mem_append.mp hs' with h | h
          · exact hc5 s' h st' hst' z hz
          · rw [List.mem_singleton.mp h, hst] at hst'
            cases hst'
            exact hi5 z hz
      · rintro σ H4 ⟨y3, y4, y5, ext, rfl, x4, l4, e4, nd4, re4, he4, hc4⟩
        rw [List.length_map, List.take_length] at hc4
        exact ⟨_, y3, y4, y5, fs ++ ext, rfl, x4, e4, R.next nd4 re4 he4 hc4⟩
    · rintro σ H2 ⟨y2, y3, y4, y5, fs, rfl, x2, e2, R⟩
      have hfl := nodup_len _ _ R.nd fun s hs => (R.re s hs).lt gM
      refine ⟨_, rfl, d, dkv fs, rfl, e2, fun l hl0 => ⟨l, fs.map fun n : Nat => (n : Int), rfl, SqL.of (by rw [upd_same, dkv_keys, List.map_map]; rfl), ?_, fun ns p hp _ hn => ?_⟩⟩
      · rw [List.length_map]
        have := gM.2.1
        omega
      · have hall : ∀ z ∈ ns, ∃ n : Nat, n ∈ fs ∧ z = (n : Int) := fun z hz => by
          obtain ⟨n, h1, h2⟩ := List.mem_map.mp (hp.mem_iff.mp hz)
          exact ⟨n, h1, h2.symm⟩
        have x3 : Ex [] H (upd H2 l (.lst ((dkv fs).map fun kv => kV kv.1))) := x2.upd_new (x2.there _ hl0)
        refine q p (ns.map Int.toNat) _ (x3.upd_new (x3.there _ hn)) ?_ (by rw [List.length_map, hp.length_eq, List.length_map]; exact hfl) ?_
        · rw [upd_same, natV_back fun z hz => by
            obtain ⟨n, _, e⟩ := hall z hz
            omega]
        · intro s
          rw [← R.all gM s]
          constructor
          · intro hs
            obtain ⟨z, hz, rfl⟩ := List.mem_map.mp hs
            obtain ⟨n, h1, rfl⟩ := hall z hz
            exact h1
          · intro h1
            exact List.mem_map.mpr ⟨(s : Int), hp.mem_iff.mpr (List.mem_map.mpr ⟨s, h1, rfl⟩), by omega⟩
end
end K4
set_option Elab.async false
set_option linter.all false
set_option maxRecDepth 100000
set_option maxHeartbeats 2000000
namespace K4
open PySem PySem.Spec PyProof.Rows L2 GxR

/-! ### the walk of a suite by what is known later -/
def tExS {ι : Type} (t : ι → TS) : TS := fun D σ H => ∃ p, t p D σ H
theorem pss_ex {ι : Type} {X : Cx} {sts : List Stmt} {t : ι → TS} (h : ∀ p, PSs X sts (t p)) : PSs X sts (tExS t) := by
  refine ⟨fun pins s σ H D I q => ?_⟩
  obtain ⟨p, q⟩ := q
  exact (h p).run pins s σ H D I q

/-! ### the law's shares -/
theorem above_succ {M : Nat} : ∀ {rs : List (List Int)}, (∀ r ∈ rs, r.length ≤ 8) → above M 9 rs = M * above M 8 rs
  | [], _ => rfl
  | r :: rs, h => by
    have h1 := above_succ (M := M) (rs := rs) fun r hr => h r (List.mem_cons_of_mem _ hr)
    have h2 := h r (by simp)
    have h3 : M ^ (9 - r.length) = M * M ^ (8 - r.length) := by
      rw [show 9 - r.length = (8 - r.length) + 1 by omega, Nat.pow_succ, Nat.mul_comm]
    unfold above at h1 ⊢
    rw [List.map_cons, List.sum_cons, List.map_cons, List.sum_cons, h1, h3, Nat.mul_add]
theorem same_ratio {M a b : Nat} (hM : 0 < M) : (M * a) / Nat.gcd (M * a) (M * b) = a / Nat.gcd a b ∧ (M * b) / Nat.gcd (M * a) (M * b) = b / Nat.gcd a b := by
  rw [Nat.gcd_mul_left]
  exact ⟨Nat.mul_div_mul_left _ _ hM, Nat.mul_div_mul_left _ _ hM⟩
theorem part_step {M n : Nat} (hM : 0 < M) : M ^ (n + 1) / M = M ^ n := by
  rw [Nat.pow_succ, Nat.mul_div_cancel _ hM]
theorem p49 {M : Nat} (h1 : 1 ≤ M) (h4 : M ≤ 4) : 1 ≤ M ^ 9 ∧ M ^ 9 < 1073741824 := by
  constructor
  · exact Nat.pow_pos h1
  · calc M ^ 9 ≤ 4 ^ 9 := Nat.pow_le_pow_left h4 9
      _ < 1073741824 := by decide
theorem turn_most (t : Nat) (h : t < 4) : ∃ most : Nat, 1 ≤ most ∧ most ≤ 8 ∧ atI [V.int 1, V.int 2, V.int 3, V.int 8] (t : Int) = some (V.int (most : Int)) := by
  match t, h with
  | 0, _ => exact ⟨1, by decide, by decide, rfl⟩
  | 1, _ => exact ⟨2, by decide, by decide, rfl⟩
  | 2, _ => exact ⟨3, by decide, by decide, rfl⟩
  | 3, _ => exact ⟨8, by decide, by decide, rfl⟩

/-! ### list(tuple), lists of data against [] -/
section
variable {X : Cx}
def rListT : List V → Hp → VK → Prop := fun xs H Q => ∃ p ys, xs = [.ref p] ∧ H p = some (.tup ys) ∧ ∀ l, H l = none → Q (.ref l) (upd H l (.lst ys))
theorem call_listT : CallR X (.type "list") rListT := by
  intro pins s σ H xs us Q I r h
  obtain ⟨p, ys, rfl, e, q⟩ := h
  exact call_list_of pins s σ H _ us Q I r ⟨p, ys, rfl, .inr (SqT.of e), q⟩
end
theorem eqv_nil : ∀ ds : List PyData, PyData.eqv (.list ds) (.list []) = ds.isEmpty
  | [] => by decide
  | d :: ds => by simp [PyData.eqv, PyData.eqvAll]
theorem dp_nats (K : PySem.W.Frag) (H : Hp) : ∀ fs : List Nat, DpAll K H (natV fs) (fs.map fun n : Nat => .int (n : Int))
  | [] => .nil
  | x :: r => .cons (.int _) (dp_nats K H r)
theorem nats_lay : ∀ r : List Nat, PyData.canLayAll0 (r.map fun n : Nat => .int (n : Int)) = true
  | [] => by simp [PyData.canLayAll0]
  | x :: r => by
    have h := nats_lay r
    simp only [List.map_cons, PyData.canLayAll0, h, PyData.canLay0, Bool.and_self]
theorem nats_depth : ∀ r : List Nat, PyData.depthAll (r.map fun n : Nat => .int (n : Int)) = 0
  | [] => by simp [PyData.depthAll]
  | x :: r => by
    have h := nats_depth r
    simp only [List.map_cons, PyData.depthAll, PyData.depth, h]
    rfl
theorem nats_shaped (r : List Nat) : SeqAt.shaped (.list (r.map fun n : Nat => .int (n : Int))) = true := by
  have h := nats_depth r
  show (PyData.canLay0 (.list (r.map fun n : Nat => .int (n : Int))) && decide (PyData.depth (.list (r.map fun n : Nat => .int (n : Int))) ≤ 64)) = true
  rw [Bool.and_eq_true]
  exact ⟨by simp only [PyData.canLay0]; exact nats_lay r, decide_eq_true (by simp only [PyData.depth]; omega)⟩
theorem bl_same {b c : Bool} {p : Prop} (h1 : b = true ↔ p) (h2 : c = true ↔ p) : b = c := by
  cases b <;> cases c
  · rfl
  · exact absurd (h1.mpr (h2.mp rfl)) Bool.false_ne_true
  · exact absurd (h2.mpr (h1.mp rfl)) Bool.false_ne_true
  · rfl
/-- the same clash, told twice -/
theorem clash_alike {H : Hp} {u v : V} {o : Option (Nat × Nat)} (hu : ClashV H u o) (hv : ClashV H v o) : (u = v ∧ Scal v) ∨ ∃ r, r.length ≤ 1000 ∧ Row H u r ∧ Row H v r := by
  cases o with
  | none =>
    obtain rfl : u = .non := hu
    obtain rfl : v = .non := hv
    exact .inl ⟨rfl, .inl rfl⟩
  | some p =>
    obtain ⟨i, j⟩ := p
    obtain ⟨a, rfl, ea⟩ := hu
    obtain ⟨b, rfl, eb⟩ := hv
    exact .inr ⟨[(i : Int), (j : Int)], by simp, ⟨a, rfl, ea⟩, ⟨b, rfl, eb⟩⟩
theorem ClashV.ex {bad : List Addr} {H H' : Hp} {v : V} {o : Option (Nat × Nat)} (x : Ex bad H H') (h : ClashV H v o) : ClashV H' v o := by
  cases o with
  | none => exact h
  | some p =>
    obtain ⟨a, e, q⟩ := h
    exact ⟨a, e, x.tup _ _ q⟩
end K4
set_option Elab.async false
set_option linter.all false
set_option maxRecDepth 100000
set_option maxHeartbeats 4000000
namespace K4
open PySem PySem.Spec PyProof.Rows L2 GxR

section
variable {P : Program} {w : World} {K : PySem.W.Frag} {mg : Str → Option Value} {base : Heap}
abbrev n47 : List Str := ["_law_script", "_law_row_here", "_law_marks", "_law_turn", "_law_rows", "_law_cut", "_law_whole", "_law_above", "_law_place", "_law_one", "_law_part", "_law_mark", "_law_starts", "_law_lost", "_law_start", "_law_longer", "_law_machine_here", "_law_table_here", "_law_found", "_law_at", "_law_many", "_law_state"]
theorem sc47 : FnScope n47 ["_law_script"] (defScope (top 47)) := ⟨rfl, rfl, rfl, by decide +kernel, rfl, by decide +kernel, by decide +kernel⟩
abbrev L47 (sc ar : Addr) (M turn : Nat) (u : V) (y5 y6 y7 y8 y9 y10 y11 y12 y13 y14 y15 y16 y17 y18 : Option V) : L2.St := [some (.ref sc), some (.ref ar), some (.int (M : Int)), some (.int (turn : Int)), some u, y5, y6, y7, y8, y9, y10, y11, y12, y13, y14, y15, y16, y17, y18, none, none, none]
/-- what the law calls -/
structure LawC (P : Program) (w : World) (K : PySem.W.Frag) (mg : Str → Option Value) (base : Heap) (B : Tab5) : Prop where
  taken : Cal P w K mg base 1 "_law_taken" ["_law_row_here", "_law_many"] [] (spTaken K)
  row : Cal P w K mg base 2 "_law_row" ["_law_row_here", "_law_marks", "_law_most"] [] (spRow K)
  every : Cal P w K mg base 1 "_law_every" ["_law_marks", "_law_length"] [] spEvery
  alike : Cal P w K mg base 2 "_law_alike" ["_law_found", "_law_due"] [] spAlike
  clash : Cal P w K mg base 1 "_law_clash" ["_law_rows"] [] spClash
  low : Cal P w K mg base 1 "_law_low" ["_law_above", "_law_beneath"] [] spLow
  machine : Cal P w K mg base 3 "_law_machine" ["_law_row_here", "_law_most", "_law_options"] [] (spMachine K)
  table : Cal P w K mg base 3 "_law_table" ["_law_row_here", "_law_machine_here", "_law_marks", "_law_most"] [] (spTable K)
  reached : Cal P w K mg base 1 "_law_reached" ["_law_machine_here"] [] spCome
  clashOf : Cal P w K mg base 6 "clash_of" ["rows"] [] (spClashOf B)
  share : Cal P w K mg base 6 "share" ["marks", "rows"] [] (spShare B)
  full : Cal P w K mg base 6 "is_full" ["marks", "rows"] [] (spFull B)
  apart : Cal P w K mg base 7 "is_apart" ["machine", "marks", "table"] [] (spApart B)
def spLaw (K : PySem.W.Frag) (B : Tab5) : Sp := fun vs H Q _ => ∃ (sc : Addr) (xs : List Int), vs = [.ref sc] ∧ SqL K H sc (xs.map V.int) ∧ TbOk B H ∧ ∀ H', Q (.bl true) H'
theorem ok47 {f : Addr} {fd : FuncData} {B : Tab5} (F : FnP K "law" 47 [] f fd) (T : Txt mg) (C : LawC P w K mg base B) : FnOk P w K mg base CX0 8 f fd ["_law_script"] (spLaw K B) := by
  refine okD F sc47 (fun vs H Q E h => ?_) (fun cdv A outer s H vs Q E hcd hr h => ?_)
  · obtain ⟨sc, xs, rfl, _⟩ := h
    rfl
  · obtain ⟨sc, xs, rfl, hS, tb, q⟩ := h
    have hr1 : Room 1 (A.deeper (envOfC "law" (defScope (top 47)) s.heap.objs.size f cdv)) := hr.mono (by decide)
    have hr2 : Room 2 (A.deeper (envOfC "law" (defScope (top 47)) s.heap.objs.size f cdv)) := hr.mono (by decide)
    have hr3 : Room 3 (A.deeper (envOfC "law" (defScope (top 47)) s.heap.objs.size f cdv)) := hr.mono (by decide)
    have hr6 : Room 6 (A.deeper (envOfC "law" (defScope (top 47)) s.heap.objs.size f cdv)) := hr.mono (by decide)
    refine ⟨_, pss_cons (ps_set (i := 1) sc47.nd rfl (.inr rfl) (pe_lst (pa_cons (pv 0) (pa_cons pe_int (pa_cons pe_int (pa_cons pe_int pa_nil))))))
      (pss_cons (ps_set (i := 2) sc47.nd rfl (.inr rfl) (pe_op op_add pe_int (pe_cal C.taken hr1 rfl (pa_cons (pv 1) (pa_cons pe_int pa_nil)))))
      (pss_ex fun p : Addr × Nat => pss_cons (ps_for PassesOwn.never rfl (pi_range1 (by rfl) T.range_ (pa_cons pe_int pa_nil)) (pg_name (i := 3) sc47.nd rfl (.inr rfl))
        (pss_cons (ps_set (i := 4) sc47.nd rfl (.inr rfl) (pe_callTy call_tuple_of rfl T.tuple_ bt_tuple (pa_cons (pe_lc (own := [("_law_at", 19)]) (g := gName 19) (tt := tYes) rfl sc47.nd (pi_range1 (by rfl) T.range_ (pa_cons (pe_cal C.taken hr1 rfl (pa_cons (pv 1) (pa_cons pe_int pa_nil))) pa_nil)) (blkOk_by (N := n47) (sc := defScope (top 47)) (by decide +kernel)) (fun _ _ _ _ _ => pg_name (i := 19) sc47.nd rfl (Or.inl rfl)) (fun _ _ _ _ _ => pts_nil)
            (fun _ _ _ _ _ => pe_cal C.row hr2 rfl (pa_cons (pv 1) (pa_cons (pv 2) (pa_cons (pe_ix ix_lstH (pe_lst (pa_cons pe_int (pa_cons pe_int (pa_cons pe_int (pa_cons pe_int pa_nil))))) (pv 3) (fun _ _ => rfl)) pa_nil))))) pa_nil)))
        (pss_cons (ps_wk (fun σ H σ1 H1 => ∃ u cut rs, σ1 = (σ.set 4 (some u)).set 5 cut ∧ Ex [p.1] H H1 ∧ RowOk K sc xs H1 p.1 ∧ Rows H1 u rs ∧ rs.length ≤ 40 ∧ ∀ r ∈ rs, GoodRow (p.2 : Int) 8 r)
          (ps_if (PW.pt (pw_and (pt_cmpR op_eq (pe_cal C.taken hr1 rfl (pa_cons (pv 1) (pa_cons pe_int pa_nil))) pe_int (nomark _)) (pw_and1 (pt_cmpR op_lt (pv 2) pe_int (nomark _)))))
            (pss_cons (ps_set (i := 4) sc47.nd rfl (.inr rfl) (pe_callTy call_tuple_of rfl T.tuple_ bt_tuple (pa_cons (pe_cal C.every hr1 rfl (pa_cons (pv 2) (pa_cons (pe_op op_add pe_int (pe_cal C.taken hr1 rfl (pa_cons (pv 1) (pa_cons pe_int pa_nil)))) pa_nil))) pa_nil)))
            (pss_cons (ps_set (i := 5) sc47.nd rfl (.inl rfl) (pe_cal C.taken hr1 rfl (pa_cons (pv 1) (pa_cons (pe_callB call_lenH rfl T.len_ boot_len (pa_cons (pv 4) pa_nil)) pa_nil))))
            (pss_one (ps_set (i := 4) sc47.nd rfl (.inr rfl) (pe_op op_catN (pe_op op_catN (pe_slice sl_pre (pv 4) po_none (po_some (pv 5))) (pe_tup (pa_cons (pe_op op_catN (pe_ix ix_tupH (pv 4) (pv 5) (fun _ _ => rfl)) (pe_tup (pa_cons pe_int pa_nil))) pa_nil)))
              (pe_slice sl_suf (pv 4) (po_some (pe_op op_add (pe_op op_add (pv 5) pe_int) (pe_cal C.taken hr1 rfl (pa_cons (pv 1) (pa_cons pe_int pa_nil))))) po_none)))))) pss_nil))
        (pss_ex fun rs : List (List Int) =>
        pss_cons (ps_if (pt_not (pt_val (pe_cal C.alike hr2 rfl (pa_cons (pe_cal C.clashOf hr6 rfl (pa_cons (pv 4) pa_nil)) (pa_cons (pe_cal C.clash hr1 rfl (pa_cons (pv 4) pa_nil)) pa_nil))))) (pss_one ps_never) pss_nil)
        (pss_cons (ps_asg (pe_tup (pa_cons pe_int (pa_cons pe_int pa_nil))) (pg_tup rfl (pgs_cons (pg_name (i := 6) sc47.nd rfl (.inl rfl)) (pgs_cons (pg_name (i := 7) sc47.nd rfl (.inl rfl)) pgs_nil))))
        (pss_cons (ps_for PassesOwn.never rfl (pi_range1 (by rfl) T.range_ (pa_cons pe_int pa_nil)) (pg_name (i := 8) sc47.nd rfl (.inl rfl)) (pss_one (ps_set (i := 6) sc47.nd rfl (.inl rfl) (pe_op op_mul (pv 6) (pv 2)))))
        (pss_cons (ps_for PassesOwn.never rfl (pi_tup (pv 4)) (pg_name (i := 9) sc47.nd rfl (.inr rfl))
          (pss_cons (ps_set (i := 10) sc47.nd rfl (.inl rfl) (pv 6))
          (pss_cons (ps_for PassesOwn.never rfl (pi_tup (pv 9)) (pg_name (i := 11) sc47.nd rfl (.inl rfl)) (pss_one (ps_set (i := 10) sc47.nd rfl (.inl rfl) (pe_op op_fdiv (pv 10) (pv 2)))))
          (pss_one (ps_set (i := 7) sc47.nd rfl (.inl rfl) (pe_op op_add (pv 7) (pv 10)))))))
        (pss_cons (ps_if (pt_not (pt_val (pe_cal C.alike hr2 rfl (pa_cons (pe_cal C.share hr6 rfl (pa_cons (pv 2) (pa_cons (pv 4) pa_nil))) (pa_cons (pe_cal C.low hr1 rfl (pa_cons (pv 7) (pa_cons (pv 6) pa_nil))) pa_nil))))) (pss_one ps_never) pss_nil)
        (pss_cons (ps_asg (pe_tup (pa_cons (pe_lst pa_nil) (pa_cons (pe_lst pa_nil) pa_nil))) (pg_tup rfl (pgs_cons (pg_name (i := 12) sc47.nd rfl (.inr rfl)) (pgs_cons (pg_name (i := 13) sc47.nd rfl (.inl rfl)) pgs_nil))))
        (pss_cons (ps_for PassesOwn.never rfl (pi_tup (pv 4)) (pg_name (i := 9) sc47.nd rfl (.inr rfl))
          (pss_one (ps_set (i := 12) sc47.nd rfl (.inr rfl) (pe_op op_cat (pv 12) (pe_lc (own := [("_law_many", 20)]) (g := gName 20) rfl sc47.nd (pi_range1 (by rfl) T.range_ (pa_cons (pe_callB call_lenH rfl T.len_ boot_len (pa_cons (pv 9) pa_nil)) pa_nil)) (blkOk_by (N := n47) (sc := defScope (top 47)) (by decide +kernel)) (fun _ _ _ _ _ => pg_name (i := 20) sc47.nd rfl (Or.inl rfl))
            (fun _ _ _ _ _ => pts_one (pt_cmpR (op_notRow hr) (pe_slice sl_pre (pv 9) po_none (po_some (pv 20))) (pv 4) (by rfl))) (fun _ _ _ _ _ => pe_slice sl_pre (pv 9) po_none (po_some (pv 20))))))))
        (pss_cons (ps_for PassesOwn.never rfl (pi_list (pv 12)) (pg_name (i := 14) sc47.nd rfl (.inr rfl))
          (pss_cons (ps_setLc (i := 15) (own := [("_law_mark", 11)]) (g := gName 11) (tt := tYes) rfl sc47.nd rfl rfl (sw_true rfl rfl rfl (by decide +kernel)) (pi_range1 (by rfl) T.range_ (pa_cons (pv 2) pa_nil)) (blkOk_by (N := n47) (sc := defScope (top 47)) (by decide +kernel)) (fun _ _ _ _ _ => pg_name (i := 11) sc47.nd rfl (Or.inl rfl)) (fun _ _ _ _ _ => pts_nil)
            (fun _ _ _ _ _ => pe_op op_catN (pv 14) (pe_tup (pa_cons (pv 11) pa_nil))))
          (pss_one (ps_set (i := 13) sc47.nd rfl (.inl rfl) (pe_op op_cat (pv 13) (pe_lc (own := [("_law_one", 9)]) (g := gName 9) rfl sc47.nd (pi_list (pv 15)) (blkOk_by (N := n47) (sc := defScope (top 47)) (by decide +kernel)) (fun _ _ _ _ _ => pg_name (i := 9) sc47.nd rfl (Or.inl rfl))
            (fun _ _ _ _ _ => pts_one (pt_cmpR (op_notRow hr) (pv 9) (pe_op op_cat (pv 12) (pe_callTy call_listT rfl T.list_ bt_list (pa_cons (pv 4) pa_nil))) (by rfl))) (fun _ _ _ _ _ => pv 9)))))))
        (pss_one (ps_if (pt_not (pt_val (pe_cal C.alike hr2 rfl (pa_cons (pe_cal C.full hr6 rfl (pa_cons (pv 2) (pa_cons (pv 4) pa_nil))) (pa_cons (pe_cmpR (op_eqD hr.units) (pv 13) (pe_lst pa_nil) (nomark _)) pa_nil))))) (pss_one ps_never) pss_nil)))))))))))))
      (pss_cons (ps_set (i := 16) sc47.nd rfl (.inl rfl) (pe_cal C.machine hr3 rfl (pa_cons (pv 1) (pa_cons pe_int (pa_cons pe_int pa_nil)))))
      (pss_cons (ps_set (i := 17) sc47.nd rfl (.inr rfl) (pe_cal C.table hr3 rfl (pa_cons (pv 1) (pa_cons (pv 16) (pa_cons (pv 2) (pa_cons pe_int pa_nil))))))
      (pss_cons (ps_setLc (i := 18) (own := [("_law_state", 21)]) (g := gName 21) rfl sc47.nd rfl rfl (sw_true rfl rfl rfl (by decide +kernel)) (pi_list (pe_cal C.reached hr1 rfl (pa_cons (pv 16) pa_nil))) (blkOk_by (N := n47) (sc := defScope (top 47)) (by decide +kernel)) (fun _ _ _ _ _ => pg_name (i := 21) sc47.nd rfl (Or.inl rfl))
          (fun _ _ _ _ _ => pts_one (pt_cmpR op_notN (pe_cal C.clash hr1 rfl (pa_cons (pe_ix ix_tupH (pv 17) (pv 21) (fun _ _ => rfl)) pa_nil)) pe_non (nomark _))) (fun _ _ _ _ _ => pv 21))
      (pss_one (ps_ret (pe_cal C.alike hr2 rfl (pa_cons (pe_cal C.apart hr rfl (pa_cons (pv 16) (pa_cons (pv 2) (pa_cons (pv 17) pa_nil)))) (pa_cons (pe_cmpR (op_eqD hr.units) (pv 18) (pe_lst pa_nil) (nomark _)) pa_nil)))))))))), ?_⟩
    refine ⟨_, rfl, (by show 4 ≤ sizeLine; decide), fun ar har => ?_⟩
    have x1 : Ex [ar] H (upd H ar (.lst [.ref sc, .int ((0 : Nat) : Int), .int 7004, .int 0])) := Ex.new har
    have ok1 : RowOk K sc xs (upd H ar (.lst [.ref sc, .int ((0 : Nat) : Int), .int 7004, .int 0])) ar := by
      refine ⟨0, 7004, 0, upd_same, ?_⟩
      rcases hS with h | h
      · have ne : sc ≠ ar := fun z => by
          rcases h with h | ⟨o, h⟩
          · rw [z, har] at h
            cases h
          · rw [z, har] at h
            cases h
        refine .inl ⟨ne, ?_⟩
        rcases h with h | ⟨o, h⟩
        · exact .inl (by rw [upd_ne ne]; exact h)
        · exact .inr ⟨o, by rw [upd_ne ne]; exact h⟩
      · exact .inr h
    show tSeq _ _ _ _ (upd H ar (.lst [.ref sc, .int ((0 : Nat) : Int), .int 7004, .int 0]))
    generalize upd H ar (.lst [.ref sc, .int ((0 : Nat) : Int), .int 7004, .int 0]) = H1 at x1 ok1
    refine ⟨_, rfl, ar, sc, xs, 4, rfl, by decide, by decide, ok1, fun k H2 hk x2 ok2 => ⟨1, k, rfl, rfl, ?_⟩⟩
    obtain ⟨M, hM⟩ : ∃ M : Nat, M = 1 + k := ⟨_, rfl⟩
    show gName 2 (V.int ((1 : Int) + (k : Int))) _ _ _
    rw [show (1 : Int) + (k : Int) = (M : Int) by omega]
    have m1 : 1 ≤ M := by omega
    have m4 : M ≤ 4 := by omega
    clear hM hk
    refine ⟨(ar, M), ?_⟩
    refine ⟨_, rfl, by decide, by decide, ?_⟩
    have x12 := x1.trans x2
    clear x1 ok1 x2
    refine for_rng (n := 4) (fun k σ H3 => ∃ y3 y4 y5 y6 y7 y8 y9 y10 y11 y12 y13 y14 y15 y16 y17 y18, σ = [some (.ref sc), some (.ref ar), some (.int (M : Int)), y3, y4, y5, y6, y7, y8, y9, y10, y11, y12, y13, y14, y15, y16, y17, y18, none, none, none] ∧ Ex [ar] H H3 ∧ RowOk K sc xs H3 ar)
      ⟨none, none, none, none, none, none, none, none, none, none, none, none, none, none, none, none, rfl, x12, ok2⟩ ?_ ?_
    · rintro turn σ H3 hturn ⟨y3, y4, y5, y6, y7, y8, y9, y10, y11, y12, y13, y14, y15, y16, y17, y18, rfl, x3, ok3⟩
      obtain ⟨most, t1, t8, hmost⟩ := turn_most turn hturn
      -- the rows
      refine ⟨_, rfl, ar, sc, xs, 6, rfl, by decide, by decide, ok3, fun n H4 hn x4 ok4 => ⟨_, rfl, by omega, by omega, fun D hD => ?_⟩⟩
      rw [Int.toNat_natCast]
      have x34 := x3.trans x4
      have hD0 := x34.there _ hD
      have Dar : D ≠ ar := fun z => ok4.here (by rw [← z]; exact hD)
      refine lc_rng (n := n) (fun j H5 => Ex [ar] H4 H5 ∧ RowOk K sc xs H5 ar ∧ ∃ rr, RowL H5 D rr ∧ rr.length = j ∧ ∀ r ∈ rr, GoodRow (M : Int) 8 r) ⟨Ex.new hD, ok4.new hD, [], ⟨[], upd_same, .nil⟩, rfl, fun r hr => absurd hr (by simp)⟩ ?_ ?_
      · rintro j H5 hj ⟨x5, ok5, rr, ⟨wr, hwr, pwr⟩, hrl, hrg⟩
        refine ⟨rfl, lcY ⟨_, rfl, _, rfl, (by show 4 ≤ sizeLine; decide), fun lp hlp => ?_⟩⟩
        have z6 : Ex [ar] H5 (upd H5 lp (.lst [.int 1, .int 2, .int 3, .int 8])) := Ex.new hlp
        refine ⟨_, rfl, lp, _, (turn : Int), _, rfl, rfl, upd_same, hmost, ar, sc, xs, M, most, rfl, m1, m4, t1, t8, ok5.new hlp, fun u r H7 x7 ok7 hR hg => ?_⟩
        have x57 := z6.trans x7
        have hwr7 := x57.lst (by simpa using Dar) hwr
        refine ⟨wr, hwr7, ?_, (x5.trans x57).upd_new hD, ok4.later (x5.trans x57) ok7 hD, rr ++ [r], RowL.snoc hwr7 (L2.Paired.mapP pwr fun _ _ => Row.ex x57) hR, by rw [List.length_append, hrl]; rfl, fun z hz => ?_⟩
        · rw [pwr.length]
          exact small1000 (by omega)
        · rcases List.mem_append.mp hz with h | h
          · exact hrg z h
          · rw [List.mem_singleton.mp h]
            exact good8 hg t8
      · rintro H5 ⟨x5, ok5, rr, ⟨wr, hwr, pwr⟩, hrl, hrg⟩
        refine ⟨D, wr, rfl, .inl ⟨SqL.of hwr, fun l hl0 => ?_⟩⟩
        have z6 : Ex [ar] H5 (upd H5 l (.tup wr)) := Ex.new hl0
        have x36 : Ex [ar] H (upd H5 l (.tup wr)) := (x34.trans x5).trans z6
        have ok6 := ok5.new (o := .tup wr) hl0
        have hR6 : Rows (upd H5 l (.tup wr)) (.ref l) rr := ⟨l, wr, rfl, upd_same, L2.Paired.mapP pwr fun _ _ => Row.ex z6⟩
        show tSeq _ _ _ _ (upd H5 l (.tup wr))
        generalize upd H5 l (.tup wr) = H6 at x36 ok6 hR6
        clear z6 hwr pwr ok5 x5 x34 hD0 Dar hD ok4 x4 ok3 x3
        refine ⟨?_, ?_⟩
        · have len6 : rr.length ≤ 40 := by omega
          refine ⟨_, rfl, ar, sc, xs, 2, rfl, by decide, by decide, ok6, fun d H7 hd x7 ok7 => ⟨rfl, _, rfl, ite2 (fun e1 => ⟨_, rfl, _, _, rfl, rfl, _, rfl, ite2 (fun e2 => ?_) (fun e2 => ⟨.ref l, y5, rr, rfl, x7, ok7, hR6.ex x7, len6, hrg⟩)⟩) (fun e1 => iteF ⟨.ref l, y5, rr, rfl, x7, ok7, hR6.ex x7, len6, hrg⟩)⟩⟩
          have m3 : M ≤ 3 := by
            have := of_decide_eq_true e2
            omega
          refine ⟨_, rfl, _, rfl, ar, sc, xs, 2, rfl, by decide, by decide, ok7, fun t H8 ht x8 ok8 => ⟨1, t, rfl, rfl, M, 1 + t, rfl, m1, m4, by omega, fun p es H9 x9 hp hE helen hein => ?_⟩⟩
          obtain ⟨we, hwe, pwe⟩ := id hE
          refine ⟨p, we, rfl, .inl ⟨SqL.of hwe, fun l2 hl2 => ?_⟩⟩
          have hwel := pwe.length
          have z10 : Ex [] H9 (upd H9 l2 (.tup we)) := Ex.new hl2
          have x6_10 : Ex [ar] H6 (upd H9 l2 (.tup we)) := ((x7.trans x8).trans x9.any).trans z10.any
          have ok10 := (ok8.ex x9).ex z10
          have e10 : upd H9 l2 (.tup we) l2 = some (.tup we) := upd_same
          have pw10 := L2.Paired.mapP pwe fun _ _ => Row.ex z10
          show tSeq _ _ _ _ (upd H9 l2 (.tup we))
          generalize upd H9 l2 (.tup we) = H10 at z10 x6_10 ok10 e10 pw10
          have hpw : 1 ≤ M ^ (1 + t) ∧ M ^ (1 + t) ≤ 9 := by
            constructor
            · exact Nat.pow_pos m1
            · calc M ^ (1 + t) ≤ 3 ^ (1 + t) := Nat.pow_le_pow_left m3 _
                _ ≤ 3 ^ 2 := Nat.pow_le_pow_right (by decide) (by omega)
                _ = 9 := by decide
          refine ⟨_, rfl, _, rfl, l2, we, rfl, .inr e10, ar, sc, xs, we.length, rfl, by omega, by omega, ok10, fun cut H11 hcut x11 ok11 => ?_⟩
          have e11 := x11.tup _ _ e10
          have hce : cut < es.length := by omega
          obtain ⟨b, hb⟩ : ∃ v, we[cut]? = some v := ⟨_, List.getElem?_eq_getElem hcut⟩
          obtain ⟨r, hrc, hrow⟩ := paired_getL (L2.Paired.mapP pw10 fun _ _ => Row.ex x11) hb
          obtain ⟨rb, rfl, erb⟩ := id hrow
          refine ⟨_, rfl, _, rfl, _, rfl, l2, we, cut, rfl, e11, rfl, rfl, fun c1 H12 x12 e12 => ?_⟩
          refine ⟨_, rfl, _, rfl, l2, we, (cut : Int), .ref rb, rfl, rfl, x12.tup _ _ e11, atI_nat hb, (by show 1 ≤ sizeLine; decide), fun p1 hp1 => ?_⟩
          have z13 : Ex [] H12 (upd H12 p1 (.tup [.int 0])) := Ex.new hp1
          have hrl := (hein r (List.mem_of_getElem? hrc)).1
          refine ⟨rb, p1, r.map V.int, [.int 0], rfl, rfl, (x12.trans z13).tup _ _ erb, upd_same, by rw [List.length_map, hrl]; simp; omega, fun c2 H14 x14 e14 => ⟨(by show 1 ≤ sizeLine; decide), fun p2 hp2 => ?_⟩⟩
          have z15 : Ex [] H14 (upd H14 p2 (.tup [.ref c2])) := Ex.new hp2
          have xB : Ex [] H12 (upd H14 p2 (.tup [.ref c2])) := (z13.trans x14).trans z15
          refine ⟨c1, p2, _, _, rfl, rfl, xB.tup _ _ e12, upd_same, by rw [List.length_take]; simp; omega, fun c3 H16 x16 e16 => ?_⟩
          have x12_16 := xB.trans x16
          have x11_16 := x12.trans x12_16
          have ok16 := ok11.ex x11_16
          refine ⟨_, rfl, _, rfl, _, _, rfl, rfl, _, rfl, ar, sc, xs, 2, rfl, by decide, by decide, ok16, fun t2 H17 ht2 x17 ok17 => ⟨_, _, rfl, rfl, _, rfl, l2, we, cut + 1 + t2, rfl, x17.tup _ _ (x11_16.tup _ _ e11), rfl, rfl, fun c4 H18 x18 e18 => ?_⟩⟩
          have x1618 := x17.trans x18.any
          refine ⟨c3, c4, _, _, rfl, rfl, x1618.tup _ _ e16, e18, by rw [List.length_append, List.length_take, List.length_drop]; simp; omega, fun c5 H19 x19 e19 => ?_⟩
          have xF : Ex [ar] H11 H19 := (x11_16.any.trans x1618).trans x19.any
          have pF := L2.Paired.mapP pw10 fun _ _ h => Row.ex xF (Row.ex x11 h)
          refine ⟨.ref c5, some (.int (cut : Int)), es.take cut ++ [r ++ [0]] ++ es.drop (cut + 1 + t2), rfl, (x6_10.trans x11).trans xF, (ok17.ex x18).ex x19, ⟨c5, _, rfl, e19, paired_append (paired_append (paired_take cut pF) (.cons ⟨c2, rfl, ?_⟩ .nil)) (paired_drop _ pF)⟩, ?_, fun z hz => ?_⟩
          · rw [(((z15.trans x16).any.trans x1618).trans x19.any).tup _ _ e14, List.map_append]
            rfl
          · rw [List.length_append, List.length_append, List.length_take, List.length_drop]
            simp
            omega
          · have hin : ∀ z ∈ es, GoodRow (M : Int) 8 z := fun z hz => by
              obtain ⟨h1, h2⟩ := hein z hz
              exact ⟨by omega, by omega, h2⟩
            rcases List.mem_append.mp hz with h | h
            · rcases List.mem_append.mp h with h | h
              · exact hin z (List.mem_of_mem_take h)
              · rw [List.mem_singleton.mp h]
                have h2 := (hein r (List.mem_of_getElem? hrc)).2
                refine ⟨by rw [List.length_append]; simp, by rw [List.length_append, hrl]; simp; omega, fun i hi => ?_⟩
                rcases List.mem_append.mp hi with h | h
                · exact h2 i h
                · rw [List.mem_singleton.mp h]
                  omega
            · exact hin z (List.mem_of_mem_drop h)
        · rintro σ1 H7 ⟨u, cut, rs, rfl, x7, ok7, hR7, hlen, hgood⟩
          have xH7 := x36.trans x7
          clear x36 ok6 hR6 x7 hrg
          refine ⟨rs, ?_⟩
          have tb7 := tb.ex xH7
          have good4 : ∀ r ∈ rs, GoodRow 4 8 r := fun r hr => by
            obtain ⟨h1, h2, h3⟩ := hgood r hr
            exact ⟨h1, h2, fun i hi => by
              have := h3 i hi
              omega⟩
          have len8 : ∀ r ∈ rs, r.length ≤ 8 := fun r hr => by
            have := (hgood r hr).2.1
            omega
          -- which begins which
          refine ⟨_, rfl, u, rs, rfl, hR7, tb7, hlen, good4, fun o z H8 x8 hF hV => ⟨_, rfl, u, rs, rfl, hR7.ex x8, by omega, fun o' z' H9 x9 hF' hV' => ⟨z, z', rfl, ?_, fun H10 x10 => ⟨true, rfl, iteF ?_⟩⟩⟩⟩
          · obtain rfl := hF.inj hF'
            exact clash_alike (hV.ex x9) hV'
          have x7_10 := (x8.trans x9).trans x10
          clear x8 hF hV x9 hF' hV' x10
          -- shares
          refine ⟨(by show 2 ≤ sizeLine; decide), fun t ht => ⟨t, _, rfl, SqT.of upd_same, rfl, _, _, rfl, _, _, rfl, rfl, ?_⟩⟩
          have z11 : Ex [] H10 (upd H10 t (.tup [.int 1, .int 0])) := Ex.new ht
          have x7_11 := x7_10.trans z11
          show tSeq _ _ _ _ (upd H10 t (.tup [.int 1, .int 0]))
          generalize upd H10 t (.tup [.int 1, .int 0]) = H11 at x7_11 z11
          clear z11 x7_10 ht
          refine ⟨_, rfl, by decide, by decide, ?_⟩
          refine for_rng (n := 9) (fun k σ H' => ∃ y8, σ = L47 sc ar M turn u cut (some (.int ((M ^ k : Nat) : Int))) (some (.int 0)) y8 y9 y10 y11 y12 y13 y14 y15 y16 y17 y18 ∧ H' = H11) ⟨y8, rfl, rfl⟩ ?_ ?_
          · rintro k σ H' hk ⟨y8, rfl, rfl⟩
            refine ⟨_, rfl, _, rfl, _, _, rfl, rfl, .inr ⟨by omega, by omega⟩, ⟨some (.int (k : Nat)), ?_, rfl⟩⟩
            rw [Nat.pow_succ, Int.natCast_mul]
            rfl
          rintro σ H' ⟨y8, rfl, rfl⟩
          obtain ⟨ru, vs, rfl, eu, pu⟩ := id hR7
          have hvl : vs.length = rs.length := pu.length
          have eu11 := x7_11.tup _ _ eu
          refine ⟨_, rfl, ru, rfl, ⟨vs, SqT.of eu11⟩, ?_⟩
          refine for_tup (xs := vs) (fun i σ H'' => ∃ y9 y10 y11, σ = L47 sc ar M turn (.ref ru) cut (some (.int ((M ^ 9 : Nat) : Int))) (some (.int ((above M 9 (rs.take i) : Nat) : Int))) y8 y9 y10 y11 y12 y13 y14 y15 y16 y17 y18 ∧ H'' = H') ⟨y9, y10, y11, rfl, rfl⟩ ?_ ?_ ?_
          · rintro i σ H'' _ ⟨y9, y10, y11, rfl, rfl⟩
            exact SqT.of eu11
          · rintro i x σ H'' hx ⟨y9, y10, y11, rfl, rfl⟩
            obtain ⟨r, hri, b, rfl, eb⟩ := paired_getL pu hx
            have eb11 := x7_11.tup _ _ eb
            have hr8 := len8 r (List.mem_of_getElem? hri)
            refine ⟨_, rfl, ?_⟩
            refine ⟨_, rfl, b, rfl, ⟨_, SqT.of eb11⟩, ?_⟩
            refine for_tup (xs := r.map V.int) (fun j σ H3' => ∃ y11, σ = L47 sc ar M turn (.ref ru) cut (some (.int ((M ^ 9 : Nat) : Int))) (some (.int ((above M 9 (rs.take i) : Nat) : Int))) y8 (some (.ref b)) (some (.int ((M ^ (9 - j) : Nat) : Int))) y11 y12 y13 y14 y15 y16 y17 y18 ∧ H3' = H'') ⟨y11, rfl, rfl⟩ ?_ ?_ ?_
            · rintro j σ H3' _ ⟨y11, rfl, rfl⟩
              exact SqT.of eb11
            · rintro j y σ H3' hy ⟨y11, rfl, rfl⟩
              have hj : j < r.length := by
                have := (List.getElem?_eq_some_iff.mp hy).1
                rwa [List.length_map] at this
              refine ⟨_, rfl, _, rfl, _, _, rfl, rfl, ⟨by omega, by omega⟩, ⟨some y, ?_, rfl⟩⟩
              rw [← part_step (M := M) (n := 9 - (j + 1)) m1, show 9 - (j + 1) + 1 = 9 - j by omega, Int.natCast_ediv]
              rfl
            · rintro σ H3' ⟨y11, rfl, rfl⟩
              refine ⟨_, rfl, _, rfl, _, _, rfl, rfl, ⟨some (.ref b), some (.int ((M ^ (9 - (r.map V.int).length) : Nat) : Int)), y11, ?_, rfl⟩⟩
              rw [take_snoc hri, List.length_map]
              unfold above
              rw [List.map_append, List.sum_append, List.map_singleton, List.sum_singleton, Int.natCast_add]
              rfl
          rintro σ H'' ⟨y9, y10, y11, rfl, rfl⟩
          rw [hvl, List.take_length]
          obtain ⟨q1, q2⟩ := p49 m1 m4
          refine ⟨_, rfl, _, rfl, M, .ref ru, rs, rfl, m1, m4, hR7.ex x7_11, tb7.ex x7_11, hlen, hgood, fun p H12 x12 e12 => ⟨_, rfl, _, rfl, above M 9 rs, M ^ 9, rfl, q1, q2, fun p2 H13 x13 e13 => ⟨_, _, rfl, .inr ⟨[((above M 8 rs / Nat.gcd (above M 8 rs) (M ^ 8) : Nat) : Int), ((M ^ 8 / Nat.gcd (above M 8 rs) (M ^ 8) : Nat) : Int)], by simp, ⟨p, rfl, x13.tup _ _ e12⟩, ⟨p2, rfl, ?_⟩⟩, fun H14 x14 => ⟨true, rfl, iteF ?_⟩⟩⟩⟩
          · rw [e13]
            obtain ⟨g1, g2⟩ := same_ratio (M := M) (a := above M 8 rs) (b := M ^ 8) m1
            rw [above_succ len8, show M ^ 9 = M * M ^ 8 by rw [Nat.pow_succ, Nat.mul_comm], g1, g2]
            rfl
          have x7_14 := ((x7_11.trans x12).trans x13).trans x14
          clear x12 e12 x13 e13 x14 x7_11 eu11
          -- beginnings, what is lacking
          refine ⟨Nat.zero_le _, fun ls0 hls0 => ⟨Nat.zero_le _, fun ll0 hll0 => ⟨(by show 2 ≤ sizeLine; decide), fun t ht => ?_⟩⟩⟩
          have y1 : Ex [] H14 (upd H14 ls0 (.lst [])) := Ex.new hls0
          have y2 := y1.upd_new (o := .lst []) (y1.there _ hll0)
          have y3' := y2.upd_new (o := .tup [.ref ls0, .ref ll0]) (y2.there _ ht)
          have hls : ls0 ≠ ll0 := fun z => by rw [← z, upd_same] at hll0; cases hll0
          have htl : t ≠ ll0 := fun z => by rw [z, upd_same] at ht; cases ht
          have hts : t ≠ ls0 := fun z => by rw [z, upd_ne hls, upd_same] at ht; cases ht
          have e15s : upd (upd (upd H14 ls0 (.lst [])) ll0 (.lst [])) t (.tup [.ref ls0, .ref ll0]) ls0 = some (.lst []) := by rw [upd_ne hts.symm, upd_ne hls]; exact upd_same
          have e15l : upd (upd (upd H14 ls0 (.lst [])) ll0 (.lst [])) t (.tup [.ref ls0, .ref ll0]) ll0 = some (.lst []) := by rw [upd_ne htl.symm]; exact upd_same
          refine ⟨t, _, rfl, SqT.of upd_same, rfl, _, _, rfl, _, _, rfl, rfl, ?_⟩
          show tSeq _ _ _ _ (upd (upd (upd H14 ls0 (.lst [])) ll0 (.lst [])) t (.tup [.ref ls0, .ref ll0]))
          generalize upd (upd (upd H14 ls0 (.lst [])) ll0 (.lst [])) t (.tup [.ref ls0, .ref ll0]) = H15 at y3' e15s e15l
          have x7_15 := x7_14.trans y3'
          clear y1 y2 y3' hls0 hll0 ht hts htl x7_14
          refine ⟨_, rfl, ru, rfl, ⟨vs, SqT.of (x7_15.tup _ _ eu)⟩, ?_⟩
          refine for_tup (xs := vs) (fun i σ H16 => ∃ y9 y10 y11 ls st, σ = L47 sc ar M turn (.ref ru) cut (some (.int ((M ^ 9 : Nat) : Int))) (some (.int ((above M 9 rs : Nat) : Int))) y8 y9 y10 y11 (some (.ref ls)) (some (.ref ll0)) y14 y15 y16 y17 y18 ∧ Ex [] H15 H16 ∧ RowL H16 ls st ∧ (∀ x, x ∈ st ↔ x ∉ rs ∧ Pb rs i x) ∧ st.length ≤ 8 * i)
            ⟨y9, y10, y11, ls0, [], rfl, Ex.refl _ _, ⟨[], e15s, .nil⟩, fun x => ⟨fun z => absurd z (by simp), fun ⟨_, i', hi, _⟩ => absurd hi (by omega)⟩, by simp⟩ ?_ ?_ ?_
          · rintro i σ H16 _ ⟨y9, y10, y11, ls, st, rfl, x16, _⟩
            exact SqT.of ((x7_15.trans x16).tup _ _ eu)
          · rintro i x σ H16 hx ⟨y9, y10, y11, ls, st, rfl, x16, hL, hst, hsz⟩
            obtain ⟨r, hri, b, rfl, eb⟩ := paired_getL pu hx
            have hr8 := len8 r (List.mem_of_getElem? hri)
            have hi : i < rs.length := (List.getElem?_eq_some_iff.mp hri).1
            have x7_16 := x7_15.trans x16
            have eb16 := x7_16.tup _ _ eb
            refine ⟨_, rfl, _, rfl, b, _, rfl, .inr eb16, _, rfl, by rw [List.length_map]; omega, by rw [List.length_map]; omega, fun D2 hD2 => ?_⟩
            rw [Int.toNat_natCast, List.length_map]
            refine lc_rng (n := r.length) (fun j H17 => Ex [] H16 H17 ∧ ∃ ds, RowL H17 D2 ds ∧ (∀ x, x ∈ ds ↔ x ∉ rs ∧ ∃ k, k < j ∧ x = r.take k) ∧ ds.length ≤ j) ⟨Ex.new hD2, [], ⟨[], upd_same, .nil⟩, fun x => ⟨fun z => absurd z (by simp), fun ⟨_, k, hk, _⟩ => absurd hk (by omega)⟩, Nat.le_refl _⟩ ?_ ?_
            · rintro j H17 hj ⟨x17, ds, ⟨wd, hwd, pd⟩, hds, hdl⟩
              have eb17 := x17.tup _ _ eb16
              refine ⟨rfl, ?_⟩
              refine ⟨_, rfl, _, rfl, _, rfl, b, _, j, rfl, eb17, rfl, rfl, fun c1 H18 x18 e18 => ?_⟩
              have x1718 := x17.trans x18
              refine ⟨_, rfl, r.take j, rs, ⟨c1, rfl, by rw [e18, List.map_take]⟩, .inr (hR7.ex (x7_16.trans x1718)), _, rfl, ite2 (fun e2 => ?_) (fun e2 => ?_)⟩
              · have n2 : r.take j ∉ rs := fun z => by rw [decide_eq_true z] at e2; cases e2
                refine ⟨_, rfl, _, rfl, _, rfl, b, _, j, rfl, x18.tup _ _ eb17, rfl, rfl, fun c2 H19 x19 e19 => ?_⟩
                have z1 : Ex [] H17 H19 := x18.trans x19
                have hwd19 := z1.lst0 hwd
                refine ⟨wd, hwd19, ?_, (x17.trans z1).upd_new hD2, ds ++ [r.take j], RowL.snoc hwd19 (L2.Paired.mapP pd fun _ _ => Row.ex z1) ⟨c2, rfl, by rw [e19, List.map_take]⟩, fun x => ?_, by rw [List.length_append]; simp; omega⟩
                · rw [pd.length]
                  exact small1000 (by omega)
                · rw [List.mem_append, List.mem_singleton, hds x]
                  constructor
                  · rintro (⟨h1, k, hk, e⟩ | e)
                    · exact ⟨h1, k, by omega, e⟩
                    · exact ⟨by rw [e]; exact n2, j, by omega, e⟩
                  · rintro ⟨h1, k, hk, e⟩
                    by_cases hkj : k = j
                    · subst hkj
                      exact .inr e
                    · exact .inl ⟨h1, k, by omega, e⟩
              · have n2 : r.take j ∈ rs := by
                  by_cases z : r.take j ∈ rs
                  · exact z
                  · exact absurd (by rw [decide_eq_false z] <;> rfl) e2
                refine ⟨x1718, ds, ⟨wd, x18.lst0 hwd, L2.Paired.mapP pd fun _ _ => Row.ex x18⟩, fun x => ?_, by omega⟩
                rw [hds x]
                constructor
                · rintro ⟨h1, k, hk, e⟩
                  exact ⟨h1, k, by omega, e⟩
                · rintro ⟨h1, k, hk, e⟩
                  by_cases hkj : k = j
                  · subst hkj
                    rw [← e] at n2
                    exact absurd n2 h1
                  · exact ⟨h1, k, by omega, e⟩
            · rintro H17 ⟨x17, ds, ⟨wd, hwd, pd⟩, hds, hdl⟩
              obtain ⟨ws, hws, pws⟩ := hL.ex x17 (by simp)
              have z1 := pd.length
              have z2 := pws.length
              refine ⟨ls, D2, ws, wd, rfl, rfl, hws, hwd, ?_, fun p hp => ?_⟩
              · have : (1000 : Nat) ≤ sizeLine := by decide
                omega
              · have x18 : Ex [] H17 (upd H17 p (.lst (ws ++ wd))) := Ex.new hp
                refine ⟨some (.ref b), y10, y11, p, st ++ ds, rfl, (x16.trans x17).trans x18, ⟨_, upd_same, paired_append (L2.Paired.mapP pws fun _ _ => Row.ex x18) (L2.Paired.mapP pd fun _ _ => Row.ex x18)⟩, fun x => ?_, by rw [List.length_append]; omega⟩
                rw [List.mem_append, hst x, hds x, Pb.succ hri]
                constructor
                · rintro (⟨h1, h2⟩ | ⟨h1, h2⟩)
                  · exact ⟨h1, .inl h2⟩
                  · exact ⟨h1, .inr h2⟩
                · rintro ⟨h1, h2 | h2⟩
                  · exact .inl ⟨h1, h2⟩
                  · exact .inr ⟨h1, h2⟩
          rintro σ H16 ⟨y9, y10, y11, ls, st, rfl, x16, hL, hst0, hsz⟩
          rw [hvl] at hst0 hsz
          have hst : ∀ x, x ∈ st ↔ IsBeg rs x := hst0
          have x7_16 := x7_15.trans x16
          have e16l := x16.lst0 e15l
          clear e15l e15s x7_15 x16 hst0
          obtain ⟨ws, hws, pws⟩ := id hL
          have hwl : ws.length = st.length := pws.length
          refine ⟨_, rfl, ls, rfl, ⟨ws, SqL.of hws⟩, ?_⟩
          refine for_list (xs := ws) (fun i σ H17 => ∃ y9 y10 y11 y14 y15 ll fd, σ = L47 sc ar M turn (.ref ru) cut (some (.int ((M ^ 9 : Nat) : Int))) (some (.int ((above M 9 rs : Nat) : Int))) y8 y9 y10 y11 (some (.ref ls)) (some (.ref ll)) y14 y15 y16 y17 y18 ∧ Ex [] H16 H17 ∧ RowL H17 ll fd ∧ (∀ y, y ∈ fd ↔ Lost M rs st i y) ∧ fd.length ≤ 4 * i)
            ⟨y9, y10, y11, y14, y15, ll0, [], rfl, Ex.refl _ _, ⟨[], e16l, .nil⟩, fun y => ⟨fun z => absurd z (by simp), fun ⟨i', hi, _⟩ => absurd hi (by omega)⟩, by simp⟩ ?_ ?_ ?_
          · rintro i σ H17 _ ⟨y9, y10, y11, y14, y15, ll, fd, rfl, x17, _⟩
            exact SqL.of (x17.lst0 hws)
          · rintro i y σ H17 hy ⟨y9, y10, y11, y14, y15, ll, fd, rfl, x17, hF, hfd, hfz⟩
            obtain ⟨x, hxi, b, rfl, eb⟩ := paired_getL pws hy
            have hi : i < st.length := (List.getElem?_eq_some_iff.mp hxi).1
            have eb17 := x17.tup _ _ eb
            have xlen : x.length ≤ 8 := by
              obtain ⟨_, i', _, r, hr', k, hk, rfl⟩ := (hst x).mp (List.mem_of_getElem? hxi)
              have := len8 r (List.mem_of_getElem? hr')
              rw [List.length_take]
              omega
            -- longer
            refine ⟨_, rfl, _, rfl, by omega, by omega, fun D2 hD2 => ?_⟩
            rw [Int.toNat_natCast]
            refine lc_rng (n := M) (fun j H18 => Ex [] H17 H18 ∧ RowL H18 D2 ((List.range j).map fun m => x ++ [((m : Nat) : Int)])) ⟨Ex.new hD2, ⟨[], upd_same, .nil⟩⟩ ?_ ?_
            · rintro j H18 hj ⟨x18, wd, hwd, pd⟩
              have eb18 := x18.tup _ _ eb17
              refine ⟨rfl, lcY ⟨_, rfl, _, rfl, (by show 1 ≤ sizeLine; decide), fun p hp => ?_⟩⟩
              have z1 : Ex [] H18 (upd H18 p (.tup [.int (j : Nat)])) := Ex.new hp
              refine ⟨b, p, x.map V.int, [.int (j : Nat)], rfl, rfl, z1.tup _ _ eb18, upd_same, by rw [List.length_map]; simp; omega, fun c H19 x19 e19 => ?_⟩
              have z2 := z1.trans x19
              have hwd19 := z2.lst0 hwd
              refine ⟨wd, hwd19, ?_, (x18.trans z2).upd_new hD2, ?_⟩
              · rw [pd.length, List.length_map, List.length_range]
                exact small1000 (by omega)
              · rw [List.range_succ, List.map_append]
                exact RowL.snoc hwd19 (L2.Paired.mapP pd fun _ _ => Row.ex z2) ⟨c, rfl, by rw [e19, List.map_append]; rfl⟩
            · rintro H18 ⟨x18, hD18⟩
              obtain ⟨wd, hwd, pd⟩ := id hD18
              have hF18 : RowL H18 ll fd := hF.ex x18 (by simp)
              have x16_18 := x17.trans x18
              have hwdl : wd.length = M := by rw [pd.length, List.length_map, List.length_range]
              refine ⟨_, rfl, _, rfl, D2, rfl, ⟨wd, SqL.of hwd⟩, fun D4 hD4 => ?_⟩
              generalize hlg : ((List.range M).map fun m => x ++ [((m : Nat) : Int)]) = lg at hD18 pd
              have hlgl : lg.length = M := by rw [← hlg, List.length_map, List.length_range]
              refine lc_list (K := K) (a := D2) (xs := wd) (fun j H19 => Ex [] H18 H19 ∧ ∃ ds, RowL H19 D4 ds ∧ (∀ x, x ∈ ds ↔ x ∈ lg.take j ∧ x ∉ st ∧ x ∉ rs) ∧ ds.length ≤ j) ⟨Ex.new hD4, [], ⟨[], upd_same, .nil⟩, fun x => ⟨fun z => absurd z (by simp), fun ⟨h, _⟩ => absurd h (by simp)⟩, Nat.le_refl _⟩ (fun j H19 _ p => SqL.of (p.1.lst0 hwd)) ?_ ?_
              · rintro j z H19 hz ⟨x19, ds, ⟨we, hwe, pe⟩, hds, hdl⟩
                obtain ⟨y, hyj, hyr⟩ := paired_getL pd hz
                have x16_19 := x16_18.trans x19
                have x7_19 := x7_16.trans x16_19
                have hy19 : Row H19 z y := hyr.ex x19
                refine ⟨rfl, ?_⟩
                refine ⟨_, rfl, _, rfl, _, rfl, ru, vs, rfl, x7_19.tup _ _ eu, fun l5 hl5 => ?_⟩
                have z1 : Ex [] H19 (upd H19 l5 (.lst vs)) := Ex.new hl5
                have hws20 := z1.lst0 (x16_19.lst0 hws)
                refine ⟨ls, l5, ws, vs, rfl, rfl, hws20, upd_same, ?_, fun p6 hp6 => ?_⟩
                · have : (1000 : Nat) ≤ sizeLine := by decide
                  omega
                have z2 := z1.upd_new (o := .lst (ws ++ vs)) (z1.there _ hp6)
                have pall : RowL (upd (upd H19 l5 (.lst vs)) p6 (.lst (ws ++ vs))) p6 (st ++ rs) :=
                  ⟨_, upd_same, paired_append (L2.Paired.mapP pws fun _ _ h => Row.ex z2 (Row.ex x16_19 h)) (L2.Paired.mapP pu fun _ _ h => Row.ex z2 (Row.ex x7_19 h))⟩
                have hwe2 := z2.lst0 hwe
                refine ⟨y, st ++ rs, hy19.ex z2, .inl ⟨p6, rfl, pall⟩, _, rfl, ite2 (fun e2 => ?_) (fun e2 => ?_)⟩
                · have n2 : y ∉ st ++ rs := fun z => by rw [decide_eq_true z] at e2; cases e2
                  refine ⟨_, rfl, we, hwe2, ?_, (x19.trans z2).upd_new hD4, ds ++ [y], RowL.snoc hwe2 (L2.Paired.mapP pe fun _ _ => Row.ex z2) (hy19.ex z2), fun v => ?_, by rw [List.length_append]; simp; omega⟩
                  · have h1 := pe.length
                    have h2 : j < wd.length := (List.getElem?_eq_some_iff.mp hz).1
                    exact small1000 (by omega)
                  · rw [List.mem_append, List.mem_singleton, hds v, take_snoc hyj, List.mem_append, List.mem_singleton]
                    rw [List.mem_append] at n2
                    constructor
                    · rintro (⟨h1, h2⟩ | rfl)
                      · exact ⟨.inl h1, h2⟩
                      · exact ⟨.inr rfl, fun h => n2 (.inl h), fun h => n2 (.inr h)⟩
                    · rintro ⟨h1 | h1, h2⟩
                      · exact .inl ⟨h1, h2⟩
                      · exact .inr h1
                · have n2 : y ∈ st ++ rs := by
                    by_cases z : y ∈ st ++ rs
                    · exact z
                    · exact absurd (by rw [decide_eq_false z] <;> rfl) e2
                  refine ⟨x19.trans z2, ds, ⟨we, hwe2, L2.Paired.mapP pe fun _ _ => Row.ex z2⟩, fun v => ?_, by omega⟩
                  rw [hds v, take_snoc hyj, List.mem_append, List.mem_singleton]
                  constructor
                  · rintro ⟨h1, h2⟩
                    exact ⟨.inl h1, h2⟩
                  · rintro ⟨h1 | rfl, h2⟩
                    · exact ⟨h1, h2⟩
                    · exact absurd n2 (by rw [List.mem_append]; exact fun h => h.elim h2.1 h2.2)
              · rintro H19 ⟨x19, ds, ⟨we, hwe, pe⟩, hds, hdl⟩
                rw [List.take_of_length_le (by omega : lg.length ≤ wd.length)] at hds
                obtain ⟨wf, hwf, pf⟩ := hF18.ex x19 (by simp)
                have z1 := pe.length
                have z2 := pf.length
                refine ⟨ll, D4, wf, we, rfl, rfl, hwf, hwe, ?_, fun p hp => ?_⟩
                · have : wf.length + we.length ≤ 1000 * 1000 := by omega
                  have : (1000 * 1000 : Nat) ≤ sizeLine := by decide
                  omega
                · have x20 : Ex [] H19 (upd H19 p (.lst (wf ++ we))) := Ex.new hp
                  refine ⟨y9, y10, y11, some (.ref b), some (.ref D2), p, fd ++ ds, rfl, (x16_18.trans x19).trans x20, ⟨_, upd_same, paired_append (L2.Paired.mapP pf fun _ _ => Row.ex x20) (L2.Paired.mapP pe fun _ _ => Row.ex x20)⟩, fun v => ?_, by rw [List.length_append]; omega⟩
                  rw [List.mem_append, hfd v, hds v, Lost.succ hxi, ← hlg, List.mem_map]
                  constructor
                  · rintro (h | ⟨⟨m, hm, rfl⟩, h⟩)
                    · exact .inl h
                    · exact .inr ⟨m, List.mem_range.mp hm, rfl, h⟩
                  · rintro (h | ⟨m, hm, rfl, h⟩)
                    · exact .inl h
                    · exact .inr ⟨⟨m, List.mem_range.mpr hm, rfl⟩, h⟩
          rintro σ H17 ⟨y9, y10, y11, y14, y15, ll, fd, rfl, x17, hF, hfd, hfz⟩
          rw [hwl] at hfd hfz
          have x7_17 := x7_16.trans x17
          refine ⟨_, rfl, _, rfl, M, .ref ru, rs, rfl, m1, m4, hR7.ex x7_17, tb7.ex x7_17, hlen, hgood, fun b H18 x18 hb => ⟨_, rfl, Nat.zero_le _, fun D3 hD3 => ?_⟩⟩
          have x19 : Ex [] H18 (upd H18 D3 (.lst [])) := Ex.new hD3
          have hF19 : RowL (upd H18 D3 (.lst [])) ll fd := (hF.ex x18 (by simp)).ex x19 (by simp)
          refine ⟨.list (fd.map rowD), .list [], hF19.dp, .lst (.of upd_same) .nil, rows_shapedL fd, by decide, ?_⟩
          refine ⟨_, _, rfl, .inl ⟨?_, .inr (.inl ⟨_, rfl⟩)⟩, fun H20 x20 => ⟨true, rfl, iteF ?_⟩⟩
          · refine congrArg V.bl (bl_same hb ?_)
            rw [← full_iff hst hfd, eqv_nil, List.isEmpty_iff, List.map_eq_nil_iff]
          · have xF := ((x7_17.trans x18).trans x19).trans x20
            exact ⟨_, _, _, _, _, _, _, _, _, _, _, _, _, _, _, _, rfl, xH7.trans xF.any, ok7.ex xF⟩
    · rintro σ H3 ⟨y3, y4, y5, y6, y7, y8, y9, y10, y11, y12, y13, y14, y15, y16, y17, y18, rfl, x3, ok3⟩
      refine ⟨_, rfl, ar, sc, xs, 3, 3, rfl, by decide, by decide, by decide, by decide, ok3, fun mv m H4 x4 ok4 hMac h1 h2 h3 => ?_⟩
      have gM : GoodMac m := ⟨h1, by omega, fun st hst => ⟨by have := (h3 st hst).1; omega, (h3 st hst).2⟩⟩
      refine ⟨_, rfl, _, rfl, _, rfl, ar, sc, xs, mv, m, M, 2, rfl, m1, m4, by decide, by decide, hMac, by omega, fun st hst => (h3 st hst).1, ok4, fun tv ts H5 x5 ok5 hTab gT => ?_⟩
      have hMac5 := hMac.ex x5
      obtain ⟨ta, tvs, rfl, eta, pta⟩ := id hTab
      refine ⟨_, rfl, mv, m, rfl, hMac5, gM, fun p ns H6 x6 e6 hnl hR => ⟨p, rfl, ⟨_, SqL.of e6⟩, fun D hD => ?_⟩⟩
      refine lc_list (K := K) (a := p) (xs := natV ns) (fun j H7 => Ex [] H6 H7 ∧ ∃ gs, H7 D = some (.lst (natV gs)) ∧ gs.length ≤ j ∧ (gs = [] ↔ ∀ s ∈ ns.take j, ∀ rs, ts[s]? = some rs → ∀ i j, ¬ Cl rs i j)) ⟨Ex.new hD, [], upd_same, Nat.le_refl _, ⟨fun _ s hs => absurd hs (by simp), fun _ => rfl⟩⟩ (fun j H7 _ p => SqL.of (p.1.lst0 e6)) ?_ ?_
      · rintro j x H7 hx ⟨x7, gs, eg, hgl, hgs⟩
        obtain ⟨st, hst, hstj, rfl⟩ := nat_at hx
        have hj : j < ns.length := (List.getElem?_eq_some_iff.mp hstj).1
        have hsr := (hR st).mp hst
        obtain ⟨rs, hrs⟩ : ∃ rs, ts[st]? = some rs := ⟨_, List.getElem?_eq_getElem (by rw [gT.len]; exact hsr.lt gM)⟩
        obtain ⟨z, hz, hRows⟩ := paired_get pta hrs
        have x67 := x6.trans x7
        refine ⟨rfl, ?_⟩
        refine ⟨_, rfl, _, rfl, ta, tvs, (st : Int), z, rfl, rfl, x67.tup _ _ eta, atI_nat hz, z, rs, rfl, hRows.ex x67, ?_, fun o u H8 x8 hF hV => ?_⟩
        · have := gT.small gM hrs
          omega
        · cases o with
          | none =>
            obtain rfl : u = .non := hV
            refine ⟨rfl, _, rfl, iteF ⟨x7.trans x8, gs, x8.lst0 eg, by omega, ?_⟩⟩
            rw [hgs, take_snoc hstj]
            constructor
            · intro h s' hs' rs' hrs'
              rcases List.mem_append.mp hs' with h5 | h5
              · exact h s' h5 rs' hrs'
              · rw [List.mem_singleton.mp h5, hrs] at hrs'
                cases hrs'
                exact hF
            · intro h s' hs'
              exact h s' (List.mem_append_left _ hs')
          | some ij =>
            obtain ⟨i', j'⟩ := ij
            obtain ⟨b, rfl, eb⟩ := hV
            refine ⟨rfl, _, rfl, iteT ⟨_, rfl, natV gs, x8.lst0 eg, ?_, (x7.trans x8).upd_new hD, gs ++ [st], ?_, by rw [List.length_append]; simp; omega, ?_⟩⟩
            · rw [List.length_map]
              exact small1000 (by omega)
            · rw [upd_same, natV_snoc]
            · constructor
              · intro h
                exact absurd h (by simp)
              · intro h
                exact absurd hF.1 (h st (by rw [take_snoc hstj]; exact List.mem_append_right _ (by simp)) rs hrs i' j')
      · rintro H7 ⟨x7, gs, eg, hgl, hgs⟩
        have x67 := x6.trans x7
        have x37 := (x3.trans (x4.trans x5)).trans x67.any
        rw [List.length_map, List.take_length] at hgs
        refine ⟨_, rfl, _, rfl, _, rfl, mv, .ref ta, M, m, ts, rfl, m1, m4, hMac5.ex x67, gM, hTab.ex x67, gT, tb.ex x37, fun b H8 x8 hb => ⟨_, rfl, Nat.zero_le _, fun D3 hD3 => ?_⟩⟩
        have x9 : Ex [] H8 (upd H8 D3 (.lst [])) := Ex.new hD3
        refine ⟨.list (gs.map fun n : Nat => .int (n : Int)), .list [], .lst (.of ((x8.trans x9).lst0 eg)) (dp_nats _ _ gs), .lst (.of upd_same) .nil, nats_shaped gs, by decide, ?_⟩
        refine ⟨_, _, rfl, .inl ⟨?_, .inr (.inl ⟨_, rfl⟩)⟩, fun H10 x10 => q H10⟩
        refine congrArg V.bl (bl_same hb ?_)
        rw [eqv_nil, List.isEmpty_iff, List.map_eq_nil_iff, hgs]
        exact ⟨fun h s' hs' => h s' ((hR s').mpr hs'), fun h s' hs' => h s' ((hR s').mp hs')⟩
end
end K4
set_option Elab.async false
set_option linter.all false
set_option maxRecDepth 100000
set_option maxHeartbeats 0
namespace K4
open PySem PySem.Spec PyProof.Rows L2 GxR

/-! ### the head: what is looked at -/
def df (x : Str) (i : Nat) (dfl : List He.Dv := []) : He.DefD := ⟨(x, none), x, x, defArgs (top i), defBody (top i), defScope (top i), dfl, []⟩
def defs : List He.DefD := [df "is_number" 11, df "is_word" 12, df "is_option" 13, df "need_machine" 14, df "states_that_come" 15, df "need_marks" 20, df "is_row" 21 [.int 8], df "need_table" 22, df "need_house" 23, df "begins" 24, df "first_clash" 25, df "beginnings_of" 26, df "lacking" 27, df "need_rows" 28 [.int 4], df "clash_of" 29, df "apart_at" 30, df "is_apart" 31, df "common" 32, df "power" 33, df "share" 34, df "is_full" 35,
  df "_law_taken" 37, df "_law_row" 38, df "_law_every" 39, df "_law_alike" 40, df "_law_clash" 41, df "_law_low" 42, df "_law_pick" 43, df "_law_machine" 44, df "_law_table" 45, df "_law_reached" 46, df "law" 47]
def facts : List He.Fa := [.free "isinstance", .free "int", .free "bool", .free "str", .free "tuple", .free "list", .free "len", .free "all", .free "range", .free "enumerate", .free "sorted", .free "sum",
  .int "MOST_STATES" 40, .int "MOST_OPTIONS" 6, .int "MOST_LETTERS" 8, .str "LETTERS" "abcdefghijklmnopqrstuvwxyz", .int "MOST_MARKS" 4, .int "MOST_ROW" 8, .int "MOST_ROWS" 40]
def globs : List He.Fa := [.glo "is_number", .glo "is_word", .glo "is_option", .glo "need_machine", .glo "states_that_come", .glo "need_marks", .glo "is_row", .glo "need_table", .glo "need_house", .glo "begins", .glo "first_clash", .glo "beginnings_of", .glo "lacking", .glo "need_rows", .glo "clash_of", .glo "apart_at", .glo "is_apart", .glo "common", .glo "power", .glo "share", .glo "is_full",
  .glo "_law_taken", .glo "_law_row", .glo "_law_every", .glo "_law_alike", .glo "_law_clash", .glo "_law_low", .glo "_law_pick", .glo "_law_machine", .glo "_law_table", .glo "_law_reached", .glo "law"]
def allFa : List He.Fa := facts ++ globs
def tabs : List He.Defn := [("is_word", none), ("need_machine", none), ("is_row", none), ("need_table", none), ("need_rows", none)]
abbrev RR : PySem.W.OpenRow := PySem.W.OpenLaw.row PySem.Challenge.rw_onelife_k04_whole_rows
abbrev qv : Program := PySem.W.view RR.prog [47]
def names1 : List Str := ["LifeError", "BadMachine", "BadMarks", "BadTable", "BadRows", "MOST_STATES", "MOST_OPTIONS", "MOST_LETTERS", "LETTERS", "is_number", "is_word", "is_option", "need_machine", "states_that_come", "MOST_MARKS", "MOST_ROW", "MOST_ROWS", "need_marks", "is_row", "need_table", "need_house", "begins", "first_clash"]
def names2 : List Str := ["beginnings_of", "lacking", "need_rows", "clash_of", "apart_at", "is_apart", "common", "power", "share", "is_full", "_law_taken", "_law_row", "_law_every", "_law_alike", "_law_clash", "_law_low", "_law_pick", "_law_machine", "_law_table", "_law_reached"]
def names : List Str := names1 ++ names2
abbrev hk : PySem.W.Hook := He.hookX 4 allFa defs [] tabs fun _ => true
def ob (s : PySem.W.SharedT) : He.AlX := He.obsX 4 allFa defs [] tabs (fun _ => true) (HandSHeadRun.getT s)
theorem ob_eq (s : PySem.W.SharedT) : ob s = hk.obs s.abs := He.obsX_eq (HandSHeadRun.getT_eq s)
theorem run (w : World) : HandSHeadRun.RunEq RR qv hk ob 20000 names w := by
  intro os
  kernel_rfl
end K4
set_option Elab.async false
set_option linter.all false
set_option maxRecDepth 100000
set_option maxHeartbeats 4000000
namespace K4
open PySem PySem.Spec PyProof.Rows L2 GxR

abbrev Says (w : World) (h : Heap) (K : PySem.W.Frag) : Prop := He.SaysX allFa defs [] tabs (fun _ => true) w h K
section
variable {P : Program} {w : World} {K : PySem.W.Frag} {h base : Heap} {mg : Str → Option Value}
theorem txt_of (X : K.In h) (G : h.Ns mainGlobals mg) (c : Says w h K) : Txt mg where
  isi := He.free_ok X G (c.t.d.fact 0 (f := .free "isinstance") rfl)
  int_ := He.free_ok X G (c.t.d.fact 1 (f := .free "int") rfl)
  bool_ := He.free_ok X G (c.t.d.fact 2 (f := .free "bool") rfl)
  str_ := He.free_ok X G (c.t.d.fact 3 (f := .free "str") rfl)
  tuple_ := He.free_ok X G (c.t.d.fact 4 (f := .free "tuple") rfl)
  list_ := He.free_ok X G (c.t.d.fact 5 (f := .free "list") rfl)
  len_ := He.free_ok X G (c.t.d.fact 6 (f := .free "len") rfl)
  all_ := He.free_ok X G (c.t.d.fact 7 (f := .free "all") rfl)
  range_ := He.free_ok X G (c.t.d.fact 8 (f := .free "range") rfl)
  enum_ := He.free_ok X G (c.t.d.fact 9 (f := .free "enumerate") rfl)
  sorted_ := He.free_ok X G (c.t.d.fact 10 (f := .free "sorted") rfl)
  sum_ := He.free_ok X G (c.t.d.fact 11 (f := .free "sum") rfl)
  states := He.int_ok X G (c.t.d.fact 12 (f := .int "MOST_STATES" 40) rfl)
  options := He.int_ok X G (c.t.d.fact 13 (f := .int "MOST_OPTIONS" 6) rfl)
  letters := He.int_ok X G (c.t.d.fact 14 (f := .int "MOST_LETTERS" 8) rfl)
  marks := He.int_ok X G (c.t.d.fact 16 (f := .int "MOST_MARKS" 4) rfl)
  row := He.int_ok X G (c.t.d.fact 17 (f := .int "MOST_ROW" 8) rfl)
  rows := He.int_ok X G (c.t.d.fact 18 (f := .int "MOST_ROWS" 40) rfl)
  abc := He.str_ok X G (c.t.d.fact 15 (f := .str "LETTERS" "abcdefghijklmnopqrstuvwxyz") rfl)
theorem code_of {x : Str} {i : Nat} {dvs : List V} {fd : FuncData} (F : FnP K x i dvs (He.ga K x) fd) : fd.code = .ref (He.codeOf K (x, none)) := by
  obtain ⟨oc, od, dV, kV, doc, pm, an, cdv, ct, osl, e, lk, hcd, _, _⟩ := F.ex
  obtain ⟨c, rfl⟩ := He.codeIn_ref hcd
  have e2 : fd.code = .ref c := by rw [e]
  rw [He.codeOf_eq (p := (x, none)) lk e2]
  exact e2
theorem calN {x : Str} {i k : Nat} {f : Addr} {fd : FuncData} {ps : List Str} {sp : Sp} (F : FnP K x i [] f fd) (o : FnOk P w K mg base CX0 k f fd ps sp) (hm : mg x = some (.ref f)) (hb : Binds K fd ps []) : Cal P w K mg base k x ps [] sp := ⟨⟨f, fd, [], o, hm, F.kp, hb, .nil⟩⟩
theorem calD {x : Str} {i k : Nat} {f : Addr} {fd : FuncData} {ps : List Str} {sp : Sp} {dvs es : List V} (F : FnP K x i dvs f fd) (o : FnOk P w K mg base CX0 k f fd ps sp) (hm : mg x = some (.ref f)) (hb : ∃ ds, Vals es ds ∧ Binds K fd ps ds) : Cal P w K mg base k x ps es sp := by
  obtain ⟨ds, h1, h2⟩ := hb
  exact ⟨⟨f, fd, ds, o, hm, F.kp, h2, h1⟩⟩
theorem tabx {c T : Addr} (t : LamX.TabB base mg c T) : TabB base mg c T := ⟨t.code, t.bm, t.gP⟩
def tb5 (K : PySem.W.Frag) : Tab5 := ⟨(He.cT K ("is_word", none)).2, (He.cT K ("need_machine", none)).2, (He.cT K ("is_row", none)).2, (He.cT K ("need_table", none)).2, (He.cT K ("need_rows", none)).2⟩
theorem whole (X : K.In h) (G : h.Ns mainGlobals mg) (c : Says w h K) :
    ∃ fd : FuncData, (∀ (s : Shared) (v : Value), BindsTo s fd ⟨[v], []⟩ [("_law_script", v)]) ∧ ∀ base : Heap, (∀ p ∈ tabs.map (He.cT K), LamX.TabB base mg p.1 p.2) → FnOk P w K mg base CX0 8 (He.ga K "law") fd ["_law_script"] (spLaw K (tb5 K)) := by
  have T := txt_of X G c
  obtain ⟨fd11, F11⟩ : ∃ fd, FnP K "is_number" 11 [] (He.ga K "is_number") fd := c.t.d.def_ 0 (d := df "is_number" 11) rfl
  obtain ⟨fd12, F12⟩ : ∃ fd, FnP K "is_word" 12 [] (He.ga K "is_word") fd := c.t.d.def_ 1 (d := df "is_word" 12) rfl
  obtain ⟨fd13, F13⟩ : ∃ fd, FnP K "is_option" 13 [] (He.ga K "is_option") fd := c.t.d.def_ 2 (d := df "is_option" 13) rfl
  obtain ⟨fd14, F14⟩ : ∃ fd, FnP K "need_machine" 14 [] (He.ga K "need_machine") fd := c.t.d.def_ 3 (d := df "need_machine" 14) rfl
  obtain ⟨fd15, F15⟩ : ∃ fd, FnP K "states_that_come" 15 [] (He.ga K "states_that_come") fd := c.t.d.def_ 4 (d := df "states_that_come" 15) rfl
  obtain ⟨fd20, F20⟩ : ∃ fd, FnP K "need_marks" 20 [] (He.ga K "need_marks") fd := c.t.d.def_ 5 (d := df "need_marks" 20) rfl
  obtain ⟨fd21, F21⟩ : ∃ fd, FnP K "is_row" 21 [.int 8] (He.ga K "is_row") fd := c.t.d.def_ 6 (d := df "is_row" 21 [.int 8]) rfl
  obtain ⟨fd22, F22⟩ : ∃ fd, FnP K "need_table" 22 [] (He.ga K "need_table") fd := c.t.d.def_ 7 (d := df "need_table" 22) rfl
  obtain ⟨fd23, F23⟩ : ∃ fd, FnP K "need_house" 23 [] (He.ga K "need_house") fd := c.t.d.def_ 8 (d := df "need_house" 23) rfl
  obtain ⟨fd24, F24⟩ : ∃ fd, FnP K "begins" 24 [] (He.ga K "begins") fd := c.t.d.def_ 9 (d := df "begins" 24) rfl
  obtain ⟨fd25, F25⟩ : ∃ fd, FnP K "first_clash" 25 [] (He.ga K "first_clash") fd := c.t.d.def_ 10 (d := df "first_clash" 25) rfl
  obtain ⟨fd26, F26⟩ : ∃ fd, FnP K "beginnings_of" 26 [] (He.ga K "beginnings_of") fd := c.t.d.def_ 11 (d := df "beginnings_of" 26) rfl
  obtain ⟨fd27, F27⟩ : ∃ fd, FnP K "lacking" 27 [] (He.ga K "lacking") fd := c.t.d.def_ 12 (d := df "lacking" 27) rfl
  obtain ⟨fd28, F28⟩ : ∃ fd, FnP K "need_rows" 28 [.int 4] (He.ga K "need_rows") fd := c.t.d.def_ 13 (d := df "need_rows" 28 [.int 4]) rfl
  obtain ⟨fd29, F29⟩ : ∃ fd, FnP K "clash_of" 29 [] (He.ga K "clash_of") fd := c.t.d.def_ 14 (d := df "clash_of" 29) rfl
  obtain ⟨fd30, F30⟩ : ∃ fd, FnP K "apart_at" 30 [] (He.ga K "apart_at") fd := c.t.d.def_ 15 (d := df "apart_at" 30) rfl
  obtain ⟨fd31, F31⟩ : ∃ fd, FnP K "is_apart" 31 [] (He.ga K "is_apart") fd := c.t.d.def_ 16 (d := df "is_apart" 31) rfl
  obtain ⟨fd32, F32⟩ : ∃ fd, FnP K "common" 32 [] (He.ga K "common") fd := c.t.d.def_ 17 (d := df "common" 32) rfl
  obtain ⟨fd33, F33⟩ : ∃ fd, FnP K "power" 33 [] (He.ga K "power") fd := c.t.d.def_ 18 (d := df "power" 33) rfl
  obtain ⟨fd34, F34⟩ : ∃ fd, FnP K "share" 34 [] (He.ga K "share") fd := c.t.d.def_ 19 (d := df "share" 34) rfl
  obtain ⟨fd35, F35⟩ : ∃ fd, FnP K "is_full" 35 [] (He.ga K "is_full") fd := c.t.d.def_ 20 (d := df "is_full" 35) rfl
  obtain ⟨fd37, F37⟩ : ∃ fd, FnP K "_law_taken" 37 [] (He.ga K "_law_taken") fd := c.t.d.def_ 21 (d := df "_law_taken" 37) rfl
  obtain ⟨fd38, F38⟩ : ∃ fd, FnP K "_law_row" 38 [] (He.ga K "_law_row") fd := c.t.d.def_ 22 (d := df "_law_row" 38) rfl
  obtain ⟨fd39, F39⟩ : ∃ fd, FnP K "_law_every" 39 [] (He.ga K "_law_every") fd := c.t.d.def_ 23 (d := df "_law_every" 39) rfl
  obtain ⟨fd40, F40⟩ : ∃ fd, FnP K "_law_alike" 40 [] (He.ga K "_law_alike") fd := c.t.d.def_ 24 (d := df "_law_alike" 40) rfl
  obtain ⟨fd41, F41⟩ : ∃ fd, FnP K "_law_clash" 41 [] (He.ga K "_law_clash") fd := c.t.d.def_ 25 (d := df "_law_clash" 41) rfl
  obtain ⟨fd42, F42⟩ : ∃ fd, FnP K "_law_low" 42 [] (He.ga K "_law_low") fd := c.t.d.def_ 26 (d := df "_law_low" 42) rfl
  obtain ⟨fd43, F43⟩ : ∃ fd, FnP K "_law_pick" 43 [] (He.ga K "_law_pick") fd := c.t.d.def_ 27 (d := df "_law_pick" 43) rfl
  obtain ⟨fd44, F44⟩ : ∃ fd, FnP K "_law_machine" 44 [] (He.ga K "_law_machine") fd := c.t.d.def_ 28 (d := df "_law_machine" 44) rfl
  obtain ⟨fd45, F45⟩ : ∃ fd, FnP K "_law_table" 45 [] (He.ga K "_law_table") fd := c.t.d.def_ 29 (d := df "_law_table" 45) rfl
  obtain ⟨fd46, F46⟩ : ∃ fd, FnP K "_law_reached" 46 [] (He.ga K "_law_reached") fd := c.t.d.def_ 30 (d := df "_law_reached" 46) rfl
  obtain ⟨fd47, F47⟩ : ∃ fd, FnP K "law" 47 [] (He.ga K "law") fd := c.t.d.def_ 31 (d := df "law" 47) rfl
  have bl := FunD.bindsA (ps := ["_law_script"]) F47 fun _ _ _ _ _ _ us hl => match us, hl with | [_], _ => rfl
  refine ⟨fd47, fun s v => bl s [v] rfl, fun base TBs => ?_⟩
  obtain ⟨B, hB⟩ : ∃ B, B = tb5 K := ⟨_, rfl⟩
  rw [← hB]
  have c11 : Cal P w K mg base 1 "is_number" ["value", "low", "high"] [] spNum := calN F11 (ok11 F11 T) (He.glo_ok X G (c.t.d.fact 19 (f := .glo "is_number") rfl)) (F11.bindsN fun _ _ _ _ _ _ us hl => match us, hl with | [_, _, _], _ => rfl)
  have TB12 : TabB base mg (He.codeOf K ("is_word", none)) B.t12 := by
    rw [hB]
    exact tabx (TBs _ (List.mem_map.mpr ⟨("is_word", none), by decide +kernel, rfl⟩))
  have hc12 := code_of F12
  have c12 : Cal P w K mg base 2 "is_word" ["value"] [] (spWord B.t12) := calN F12 (ok12 F12 T TB12 hc12) (He.glo_ok X G (c.t.d.fact 20 (f := .glo "is_word") rfl)) (F12.bindsN fun _ _ _ _ _ _ us hl => match us, hl with | [_], _ => rfl)
  have c13 : Cal P w K mg base 3 "is_option" ["value", "many"] [] (spOption B.t12) := calN F13 (ok13 F13 T c11 c12) (He.glo_ok X G (c.t.d.fact 21 (f := .glo "is_option") rfl)) (F13.bindsN fun _ _ _ _ _ _ us hl => match us, hl with | [_, _], _ => rfl)
  have TB14 : TabB base mg (He.codeOf K ("need_machine", none)) B.t14 := by
    rw [hB]
    exact tabx (TBs _ (List.mem_map.mpr ⟨("need_machine", none), by decide +kernel, rfl⟩))
  have hc14 := code_of F14
  have c14 : Cal P w K mg base 5 "need_machine" ["value"] [] (spNeedMac B) := calN F14 (ok14 F14 T TB14 hc14 c13) (He.glo_ok X G (c.t.d.fact 22 (f := .glo "need_machine") rfl)) (F14.bindsN fun _ _ _ _ _ _ us hl => match us, hl with | [_], _ => rfl)
  have c15 : Cal P w K mg base 1 "states_that_come" ["machine"] [] spCome := calN F15 (ok15 F15 T) (He.glo_ok X G (c.t.d.fact 23 (f := .glo "states_that_come") rfl)) (F15.bindsN fun _ _ _ _ _ _ us hl => match us, hl with | [_], _ => rfl)
  have c20 : Cal P w K mg base 2 "need_marks" ["value"] [] spMarks := calN F20 (ok20 F20 T c11) (He.glo_ok X G (c.t.d.fact 24 (f := .glo "need_marks") rfl)) (F20.bindsN fun _ _ _ _ _ _ us hl => match us, hl with | [_], _ => rfl)
  have TB21 : TabB base mg (He.codeOf K ("is_row", none)) B.t21 := by
    rw [hB]
    exact tabx (TBs _ (List.mem_map.mpr ⟨("is_row", none), by decide +kernel, rfl⟩))
  have hc21 := code_of F21
  have c21 : Cal P w K mg base 3 "is_row" ["value", "marks", "most"] [.int 8] (spIsRow B.t21) := calD F21 (ok21 F21 T TB21 hc21 c11) (He.glo_ok X G (c.t.d.fact 25 (f := .glo "is_row") rfl)) (F21.binds1 2 0 (by simp) rfl fun T kV doc pm an cdv ct us its hl hi => match us, its, hl, hi with | [_, _], [_], _, _ => ⟨_, rfl, rfl⟩)
  have TB22 : TabB base mg (He.codeOf K ("need_table", none)) B.t22 := by
    rw [hB]
    exact tabx (TBs _ (List.mem_map.mpr ⟨("need_table", none), by decide +kernel, rfl⟩))
  have hc22 := code_of F22
  have c22 : Cal P w K mg base 5 "need_table" ["machine", "marks", "value"] [] (spNeedTab B) := calN F22 (ok22 F22 T TB22 hc22 c21) (He.glo_ok X G (c.t.d.fact 26 (f := .glo "need_table") rfl)) (F22.bindsN fun _ _ _ _ _ _ us hl => match us, hl with | [_, _, _], _ => rfl)
  have c23 : Cal P w K mg base 6 "need_house" ["machine", "marks", "table"] [] (spHouse B) := calN F23 (ok23 F23 c14 c20 c22) (He.glo_ok X G (c.t.d.fact 27 (f := .glo "need_house") rfl)) (F23.bindsN fun _ _ _ _ _ _ us hl => match us, hl with | [_, _, _], _ => rfl)
  have c24 : Cal P w K mg base 1 "begins" ["one", "other"] [] spBeg := calN F24 (ok24 F24 T) (He.glo_ok X G (c.t.d.fact 28 (f := .glo "begins") rfl)) (F24.bindsN fun _ _ _ _ _ _ us hl => match us, hl with | [_, _], _ => rfl)
  have c25 : Cal P w K mg base 2 "first_clash" ["rows"] [] spClash := calN F25 (ok25 F25 T c24) (He.glo_ok X G (c.t.d.fact 29 (f := .glo "first_clash") rfl)) (F25.bindsN fun _ _ _ _ _ _ us hl => match us, hl with | [_], _ => rfl)
  have c26 : Cal P w K mg base 1 "beginnings_of" ["rows"] [] spBegs := calN F26 (ok26 F26 T) (He.glo_ok X G (c.t.d.fact 30 (f := .glo "beginnings_of") rfl)) (F26.bindsN fun _ _ _ _ _ _ us hl => match us, hl with | [_], _ => rfl)
  have c27 : Cal P w K mg base 2 "lacking" ["marks", "rows"] [] spLack := calN F27 (ok27 F27 T c26) (He.glo_ok X G (c.t.d.fact 31 (f := .glo "lacking") rfl)) (F27.bindsN fun _ _ _ _ _ _ us hl => match us, hl with | [_, _], _ => rfl)
  have TB28 : TabB base mg (He.codeOf K ("need_rows", none)) B.t28 := by
    rw [hB]
    exact tabx (TBs _ (List.mem_map.mpr ⟨("need_rows", none), by decide +kernel, rfl⟩))
  have hc28 := code_of F28
  have c28d : Cal P w K mg base 5 "need_rows" ["value", "marks"] [.int 4] (spNeedRows B) := calD F28 (ok28 F28 T TB28 hc28 c21) (He.glo_ok X G (c.t.d.fact 32 (f := .glo "need_rows") rfl)) (F28.binds1 1 0 (by simp) rfl fun T kV doc pm an cdv ct us its hl hi => match us, its, hl, hi with | [_], [_], _, _ => ⟨_, rfl, rfl⟩)
  have c28 : Cal P w K mg base 5 "need_rows" ["value", "marks"] [] (spNeedRows B) := calD F28 (ok28 F28 T TB28 hc28 c21) (He.glo_ok X G (c.t.d.fact 32 (f := .glo "need_rows") rfl)) (F28.binds1 2 1 (by simp) rfl fun T kV doc pm an cdv ct us its hl hi => match us, its, hl, hi with | [_, _], [_], _, _ => ⟨_, rfl, rfl⟩)
  have c29 : Cal P w K mg base 6 "clash_of" ["rows"] [] (spClashOf B) := calN F29 (ok29 F29 c28d c25) (He.glo_ok X G (c.t.d.fact 33 (f := .glo "clash_of") rfl)) (F29.bindsN fun _ _ _ _ _ _ us hl => match us, hl with | [_], _ => rfl)
  have c30 : Cal P w K mg base 3 "apart_at" ["machine", "table"] [] spApartAt := calN F30 (ok30 F30 c15 c25) (He.glo_ok X G (c.t.d.fact 34 (f := .glo "apart_at") rfl)) (F30.bindsN fun _ _ _ _ _ _ us hl => match us, hl with | [_, _], _ => rfl)
  have c31 : Cal P w K mg base 7 "is_apart" ["machine", "marks", "table"] [] (spApart B) := calN F31 (ok31 F31 c23 c30) (He.glo_ok X G (c.t.d.fact 35 (f := .glo "is_apart") rfl)) (F31.bindsN fun _ _ _ _ _ _ us hl => match us, hl with | [_, _, _], _ => rfl)
  have c32 : Cal P w K mg base 1 "common" ["one", "other"] [] spCommon := calN F32 (ok32 F32) (He.glo_ok X G (c.t.d.fact 36 (f := .glo "common") rfl)) (F32.bindsN fun _ _ _ _ _ _ us hl => match us, hl with | [_, _], _ => rfl)
  have c33 : Cal P w K mg base 1 "power" ["number", "times"] [] spPower := calN F33 (ok33 F33 T) (He.glo_ok X G (c.t.d.fact 37 (f := .glo "power") rfl)) (F33.bindsN fun _ _ _ _ _ _ us hl => match us, hl with | [_, _], _ => rfl)
  have c34 : Cal P w K mg base 6 "share" ["marks", "rows"] [] (spShare B) := calN F34 (ok34 F34 T c20 c28 c33 c32) (He.glo_ok X G (c.t.d.fact 38 (f := .glo "share") rfl)) (F34.bindsN fun _ _ _ _ _ _ us hl => match us, hl with | [_, _], _ => rfl)
  have c35 : Cal P w K mg base 6 "is_full" ["marks", "rows"] [] (spFull B) := calN F35 (ok35 F35 c20 c28 c27) (He.glo_ok X G (c.t.d.fact 39 (f := .glo "is_full") rfl)) (F35.bindsN fun _ _ _ _ _ _ us hl => match us, hl with | [_, _], _ => rfl)
  have c37 : Cal P w K mg base 1 "_law_taken" ["_law_row_here", "_law_many"] [] (spTaken K) := calN F37 (ok37 F37 T) (He.glo_ok X G (c.t.d.fact 40 (f := .glo "_law_taken") rfl)) (F37.bindsN fun _ _ _ _ _ _ us hl => match us, hl with | [_, _], _ => rfl)
  have c38 : Cal P w K mg base 2 "_law_row" ["_law_row_here", "_law_marks", "_law_most"] [] (spRow K) := calN F38 (ok38 F38 T c37) (He.glo_ok X G (c.t.d.fact 41 (f := .glo "_law_row") rfl)) (F38.bindsN fun _ _ _ _ _ _ us hl => match us, hl with | [_, _, _], _ => rfl)
  have c39 : Cal P w K mg base 1 "_law_every" ["_law_marks", "_law_length"] [] spEvery := calN F39 (ok39 F39 T) (He.glo_ok X G (c.t.d.fact 42 (f := .glo "_law_every") rfl)) (F39.bindsN fun _ _ _ _ _ _ us hl => match us, hl with | [_, _], _ => rfl)
  have b40 : Binds K fd40 ["_law_found", "_law_due"] [] := F40.bindsN fun _ _ _ _ _ _ us hl => match us, hl with | [_, _], _ => rfl
  have c40a : Cal P w K mg base 1 "_law_alike" ["_law_found", "_law_due"] [] spAlike1 := calN F40 (ok40a F40 T) (He.glo_ok X G (c.t.d.fact 43 (f := .glo "_law_alike") rfl)) b40
  have c40 : Cal P w K mg base 2 "_law_alike" ["_law_found", "_law_due"] [] spAlike := calN F40 (ok40 F40 T c40a) (He.glo_ok X G (c.t.d.fact 43 (f := .glo "_law_alike") rfl)) b40
  have c41 : Cal P w K mg base 1 "_law_clash" ["_law_rows"] [] spClash := calN F41 (ok41 F41 T) (He.glo_ok X G (c.t.d.fact 44 (f := .glo "_law_clash") rfl)) (F41.bindsN fun _ _ _ _ _ _ us hl => match us, hl with | [_], _ => rfl)
  have c42 : Cal P w K mg base 1 "_law_low" ["_law_above", "_law_beneath"] [] spLow := calN F42 (ok42 F42 T) (He.glo_ok X G (c.t.d.fact 45 (f := .glo "_law_low") rfl)) (F42.bindsN fun _ _ _ _ _ _ us hl => match us, hl with | [_, _], _ => rfl)
  have c43 : Cal P w K mg base 2 "_law_pick" ["_law_row_here", "_law_things"] [] (spPick K) := calN F43 (ok43 F43 T c37) (He.glo_ok X G (c.t.d.fact 46 (f := .glo "_law_pick") rfl)) (F43.bindsN fun _ _ _ _ _ _ us hl => match us, hl with | [_, _], _ => rfl)
  have c44 : Cal P w K mg base 3 "_law_machine" ["_law_row_here", "_law_most", "_law_options"] [] (spMachine K) := calN F44 (ok44 F44 T c37 c43) (He.glo_ok X G (c.t.d.fact 47 (f := .glo "_law_machine") rfl)) (F44.bindsN fun _ _ _ _ _ _ us hl => match us, hl with | [_, _, _], _ => rfl)
  have c45 : Cal P w K mg base 3 "_law_table" ["_law_row_here", "_law_machine_here", "_law_marks", "_law_most"] [] (spTable K) := calN F45 (ok45 F45 T c37 c38 c39) (He.glo_ok X G (c.t.d.fact 48 (f := .glo "_law_table") rfl)) (F45.bindsN fun _ _ _ _ _ _ us hl => match us, hl with | [_, _, _, _], _ => rfl)
  have c46 : Cal P w K mg base 1 "_law_reached" ["_law_machine_here"] [] spCome := calN F46 (ok46 F46 T) (He.glo_ok X G (c.t.d.fact 49 (f := .glo "_law_reached") rfl)) (F46.bindsN fun _ _ _ _ _ _ us hl => match us, hl with | [_], _ => rfl)
  exact ok47 F47 T ⟨c37, c38, c39, c40, c41, c42, c44, c45, c46, c29, c34, c35, c31⟩
end
end K4
set_option Elab.async false
set_option linter.all false
set_option maxRecDepth 100000
set_option maxHeartbeats 0
namespace K4
open PySem PySem.Spec PyProof.Rows L2 GxR
theorem tb_ok {K : PySem.W.Frag} {H : Hp} (h : ∀ p ∈ tabs.map (He.cT K), H p.2 = some (.tbl #[])) : TbOk (tb5 K) H := by
  have one : ∀ d ∈ tabs, TabG H (He.cT K d).2 := fun d hd => ⟨#[], h _ (List.mem_map.mpr ⟨d, hd, rfl⟩), True.intro⟩
  exact ⟨one _ (by decide +kernel), one _ (by decide +kernel), one _ (by decide +kernel), one _ (by decide +kernel), one _ (by decide +kernel)⟩
theorem law_at {w : World} {K : PySem.W.Frag} {h : Heap} {mg : Str → Option Value} {fa : Addr} (X : K.In h) (G : h.Ns mainGlobals mg) (hm : mg "law" = some (.ref fa)) (c : Says w h K) :
    LamX.LawAtS PySem.Challenge.rw_onelife_k04_whole_rows w K CX0 8 63 "_law_script" mg fa h := by
  obtain ⟨fd, hb, hF⟩ := whole (P := (PySem.Challenge.rw_onelife_k04_whole_rows).prog) (w := w) X G c
  have e := hm.symm.trans (He.glo_ok X G (c.t.d.fact 50 (f := .glo "law") rfl))
  cases e
  refine ⟨fd, tabs.map (He.cT K), spLaw K (tb5 K), fun p hp => ?_, fun p hp => ?_, fun p hp => ?_, hb, fun H a ns hl hbits hT hS => ⟨a, ns, rfl, hS, tb_ok hT, fun _ => rfl⟩, fun base _ _ TBs => hF base TBs⟩
  · obtain ⟨d, hd, rfl⟩ := List.mem_map.mp hp
    exact c.empty d hd
  · obtain ⟨d, hd, rfl⟩ := List.mem_map.mp hp
    exact c.out d hd
  · obtain ⟨d, hd, rfl⟩ := List.mem_map.mp hp
    exact PySem.W.codeHd_of_K X (c.hd d hd)
end K4
open PySem PySem.W PySem.Calls PyProof.Rows
theorem PySem.Challenge.cw_onelife_k04_whole_rows_holds : PySem.Challenge.rw_onelife_k04_whole_rows.Holds := by
  w_on; o_law
  refine HandSHeadRun.head_any (r := K4.RR) (q := K4.qv) (H := K4.hk) (ob := K4.ob) (M := 20000) (loose := K4.names) (d := HandSHeadRun.topDef K4.RR.prog 47) (kwd := []) K4.ob_eq
    (by kernel_rfl) (fun s => by kernel_rfl) K4.run (by kernel_rfl) (by kernel_rfl) (by kernel_rfl) (by rfl) (by first | assumption | decide +kernel) (by decide +kernel) ⟨rfl, rfl, rfl, rfl, rfl, by decide +kernel⟩ ?hw ?hc
  case hw => w_witness2
  case hc =>
    refine LamX.walk_ofTsE (l := PySem.Challenge.rw_onelife_k04_whole_rows) (n := 63) (k := 8) (x := "_law_script") (CX := fun _ => L2.CX0) rfl (by decide) (by kernel_rfl) ⟨rfl, by decide, by decide⟩ ?F (fun _ _ _ _ _ z => z)
    intro w mg fa h Y G hmg0
    obtain ⟨K, KX, c⟩ := Y
    have hmg : mg ("law" : PySem.Str) = some (.ref fa) := by
      have e : (HandSHeadRun.topDef K4.RR.prog 47).name = ("law" : PySem.Str) := by kernel_rfl
      rw [← e]
      exact hmg0
    exact ⟨K, KX, K4.law_at KX G hmg c⟩
