import PyProof.Rows.All
import Wide.All
import OpenK.AllK
import Wide.FinOn
import HandS.ForMost
import HandS.Wide
import HandS.AnyAll
import HandS.GenList
import HandS.IsInst
import HandS.Conv
import HandS.Style
import HandS.TupAny
import HandS.TupMul
import KE.DataEq
import KE.DataCmp
import KE.SortData
import KE.KTupSum
import HandS.HeadWalk
import KE.DataMinMax
import KE.KRevSl
import HandS.TupLen
import HandS.Small
import PyProof.AutoSeq1
import PySem.Challenge.RW_onewatcher_k29_wide_openings_and_cuts
set_option Elab.async false
set_option linter.all false
set_option maxRecDepth 100000
section
namespace Gx
open PySem PySem.Spec PyProof.Rows L2
/-! ## any / all of a generator expression: its frame -/
/-- the context in which a generator expression's element runs -/
abbrev genC (X : Cx) (s : Shared) (H : Hp) (B : Around) (genv : Env) (fp : List Addr) (pn : List (Addr × Obj)) : Cx :=
  { X with A := B, s_0 := s, H_0 := H, env := genv, outer := X.stack, stack := genv :: X.stack, ex := fp, fn := fun _ => false, pn := pn, xe := fun _ _ => False }
section
variable {X : Cx} {pins : List (Addr × Obj)} {σ : L2.St} {H : Hp} {s : Shared}
theorem gen_start {scope : Scope} {own : List (Str × Nat)} {fp : List Addr} {pn : List (Addr × Obj)} {B : Around} {genv : Env} {h5 : Heap} {G : Array GenState} {tk : Nat} {m : Str → Option Value} (I : Inv X pins σ H s) (ok : BlkOk X.N X.env.scope scope own) (hN : X.N.Nodup) (nc : ∀ y ∈ scope.names, y.2 ≠ .cell)
    (hfp : ∀ b ∈ fp, FpOk X pins H b ∧ b < s.heap.objs.size) (hB : B.frames = some (genv :: X.stack)) (hBh : X.calm = true → B.handled = none)
    (eS : genv.scope = scope) (eL : genv.locals = s.heap.objs.size) (eC : genv.cells = cloFrom X.env.cells scope.names []) (eG : genv.globals = mainGlobals) (eB : genv.builtins = builtinsNs) (eF : genv.frame = some genv.locals)
    (kp : ∀ b o, s.heap.get? b = some o → h5.get? b = some o) (hns : h5.Ns s.heap.objs.size m) (hG : AllBare G) (hpn : ∀ p ∈ pn, h5.get? p.1 = some p.2 ∧ s.heap.objs.size < p.1 ∧ ∀ v, p.2.data ≠ .cell v) :
    Inv (genC X s H B genv fp pn) [] (wipe σ (own.map (·.2))) H { s with gens := G, heap := h5, toks := tk } := by
  have hfree : ∀ y ∈ scope.names, y.2 = .free → ∃ c, X.env.cells.lookup y.1 = some c := fun y hy e => by
    rcases ok.free y hy e with k | k
    · exact I.ok.has _ (.inl k)
    · exact I.ok.has _ (.inr k)
  have cm : ∀ {y c}, genv.cells.lookup y = some c → X.env.cells.lookup y = some c ∧ c < s.heap.objs.size := fun {y c} e => by
    rw [eC] at e
    rcases cloFrom_mem (PySem.mem_of_lookup e) with hm | ⟨h1, rfl⟩
    · cases hm
    · obtain ⟨c, hc⟩ := hfree _ h1 rfl
      rw [hc]
      obtain ⟨w, z⟩ := I.cell _ _ hc
      exact ⟨rfl, z.lt⟩
  have look : ∀ {y}, scope.names.lookup y = some .free → ∃ c, genv.cells.lookup y = some c := fun {y} hl => by
    obtain ⟨c', e'⟩ := mem_lookup (cloFrom_has (cells := X.env.cells) (acc := []) (PySem.mem_of_lookup hl))
    exact ⟨c', by rw [eC]; exact e'⟩
  have kindE : ∀ y, genv.kindOf y = scope.names.lookup y := fun y => by unfold Env.kindOf; rw [eS]
  have ncl : ∀ y, scope.names.lookup y ≠ some .cell := fun y e => nc _ (PySem.mem_of_lookup e) rfl
  have okG : (genC X s H B genv fp pn).Ok := by
    refine ⟨I.ok.mod, by show genv.scope.kind = _; rw [eS]; exact ok.kind, eG, eB, by show s.heap.objs.size ≤ genv.locals; rw [eL]; exact Nat.le_refl _,
      fun y z c e1 e2 => I.ok.inj y z c (cm e1).1 (cm e2).1, fun y hy => ?_, fun y c z _ => absurd z Bool.false_ne_true, hBh, hB, .inr ⟨rfl, eF⟩, fun b hb => ⟨?_, fun y c e z => ?_⟩, I.bs, Nat.le_trans I.ok.bsz I.sz, fun b o e hb => ?_, fun b hb z => ?_, I.stack, I.stkFree⟩
    · have hy : genv.kindOf y = some .cell ∨ genv.kindOf y = some .free := hy
      rw [kindE] at hy
      rcases hy with hy | hy
      · exact absurd hy (ncl y)
      · exact look hy
    · show b ≠ genv.locals
      rw [eL]; exact Nat.ne_of_lt (hfp b hb).2
    · exact (hfp b hb).1.2.2.2.2.1 y c (cm e).1 z
    · rcases (hfp b hb).1.2.2.2.1 with z | z
      · exact I.ok.noex b o e z
      · exact absurd (Nat.lt_of_lt_of_le (Heap.lt_size e) (Nat.le_trans I.ok.bsz z)) (Nat.lt_irrefl _)
    · rcases List.mem_cons.mp (I.stkSub b z) with z | z
      · exact (hfp b hb).1.2.1 z
      · exact (hfp b hb).1.2.2.1 z
  refine ⟨okG, rfl, hG, Un.kept kp, ⟨m, by show Heap.Ns _ genv.locals _; rw [eL]; exact hns, fun i y av e1 e2 e3 => ?_⟩, fun y c e => ?_, ?_, fun y c e => ?_, fun p hp => ?_, I.hok.kept kp, by rw [wipe_length]; exact I.len⟩
  · obtain ⟨e2, hne⟩ := wipe_some e2
    have e3 : Vis genv.scope y := e3
    rw [eS] at e3
    have hf : scope.names.lookup y = some .free := by
      rcases e3 with e3 | e3 | e3
      · rcases ok.own _ (PySem.mem_of_lookup e3) (.inl rfl) with e' | e'
        · obtain ⟨p, hp, hpy⟩ := List.mem_map.mp e'
          have e3 := ok.ix p hp
          have : p.1 = y := hpy
          rw [this] at e3
          exact absurd (List.mem_map.mpr ⟨p, hp, nodup_ix hN e3 e1⟩) hne
        · exact absurd (List.mem_of_getElem? e1) e'
      · exact absurd e3 (ncl y)
      · exact e3
    obtain ⟨m, hn, hl⟩ := I.loc
    have hvis : Vis X.env.scope y := (ok.free _ (PySem.mem_of_lookup hf) rfl).elim (fun k => .inr (.inl k)) (fun k => .inr (.inr k))
    obtain ⟨w, r, q⟩ := hl i y av e1 e2 hvis
    refine ⟨w, r, .inr ⟨.inr (by show genv.kindOf y = _; rw [kindE]; exact hf), ?_⟩⟩
    obtain ⟨c, h1⟩ := look hf
    rcases q with ⟨k, _⟩ | ⟨_, c', e', z⟩
    · have k : X.env.scope.names.lookup y = some .local := k
      rcases ok.free _ (PySem.mem_of_lookup hf) rfl with k' | k' <;> rw [show X.env.scope.names.lookup y = _ from k'] at k <;> cases k
    · rw [(cm h1).1] at e'; cases e'
      exact ⟨c, h1, z.keeps kp⟩
  · obtain ⟨w, z⟩ := I.cell y c (cm e).1
    exact ⟨w, z.keeps kp⟩
  · show H genv.locals = none
    rw [eL]; exact I.hok.fresh (Nat.le_refl _)
  · exact I.freeC y c (cm e).1
  · have hp : p ∈ pn := by
      have hp : p ∈ pn ++ [] := hp
      rwa [List.append_nil] at hp
    obtain ⟨q1, q2, q3⟩ := hpn p hp
    refine ⟨q1, I.hok.fresh (Nat.le_of_lt q2), ?_, ?_, q3⟩
    · show p.1 ≠ genv.locals
      rw [eL]; exact Nat.ne_of_gt q2
    · show p.1 ∉ frs X.stack
      intro z
      have : p.1 < s.heap.objs.size := by
        rcases List.mem_cons.mp (I.stkSub _ z) with z | z
        · rw [z]; exact I.lt
        · obtain ⟨_, o, ho, _⟩ := I.ok.funs.mem z
          exact Nat.lt_of_lt_of_le (Heap.lt_size ho) I.sz
      exact absurd (Nat.lt_trans this q2) (Nat.lt_irrefl _)
/-- other generators' states -/
theorem Inv.regen {G : Array GenState} (I : Inv X pins σ H s) (hG : AllBare G) : Inv X pins σ H { s with gens := G } :=
  ⟨I.ok, I.os, hG, I.base, I.loc, I.cell, I.free, I.freeC, I.pin, I.hok, I.len⟩
/-- the around of the element's code -/
theorem over_gen {A : Around} {elt tg iter : Expr} {ifs : List Expr} {scope : Scope} {pos : Pos} {it acc : Value} {env : Env} : A.over (.compLoop (.GeneratorExp elt [⟨tg, iter, ifs, 0⟩] scope pos) 0 it acc env) [] = A.deeper env := by
  first
    | rfl
    | (obtain ⟨hd, d, fr, gs, u⟩ := A; simp [Around.over, Around.deeper, marksOver, frameCount, unitsOf, envsOf, guardsOf, pushEnvs, pushGuards, Code.envs, Code.env?, Code.isFrame, Code.guards, Code.isGuard, Code.weight, Code.frames, Code.isCreation, Code.isCaller, Code.cUnits])
theorem over_gen0 {A : Around} {elt tg iter : Expr} {ifs : List Expr} {scope : Scope} {pos : Pos} {it acc : Value} {env : Env} : A.over (.compStart (.GeneratorExp elt [⟨tg, iter, ifs, 0⟩] scope pos) 0 it acc env) [] = A.deeper env := by
  first
    | rfl
    | (obtain ⟨hd, d, fr, gs, u⟩ := A; simp [Around.over, Around.deeper, marksOver, frameCount, unitsOf, envsOf, guardsOf, pushEnvs, pushGuards, Code.envs, Code.env?, Code.isFrame, Code.guards, Code.isGuard, Code.weight, Code.frames, Code.isCreation, Code.isCaller, Code.cUnits])
end

/-! ## its loop -/
/-- the generator is woken: nothing but the table of generators may differ -/
def Woke (s s' : Shared) : Prop := ∃ G : Array GenState, AllBare G ∧ G.size = s.gens.size ∧ s' = { s with gens := G }
/-- run out -/
abbrev REn (Fin : Shared → Prop) : GenEnd := fun _ _ r s1 => r = .ok .next ∧ AllBare s1.gens ∧ Fin s1
/-- an element is out: where it is not the last, it may be woken -/
def YEl (last : Bool) (a : Addr) (g : Nat) (Stop : Shared → Prop) : Protocol := fun _ _ v s1 kap =>
  ∃ b : Bool, v = .bool b ∧ AllBare s1.gens ∧ g < s1.gens.size ∧ s1.heap.NoLimit ∧ s1.heap.IsGen a g ∧ (b = last → Stop s1) ∧ (b ≠ last → ∀ s', Woke s1 s' → kap (.send .none) s')
section
variable {X : Cx} {s0 : Shared} {H0 : Hp} {A : Around} {genv : Env} {fp : List Addr} {pn : List (Addr × Obj)} {own : List (Str × Nat)} {σ : L2.St}
/-- what an element's turn has to do -/
def GTurn (last : Bool) (J : It) (g : TG) (tt : TT) (te : TE) (vs : List Nat) (σ : L2.St) (W : Nat → Nat → Hp → Prop) (Fin Stop : Hp → Prop) : Prop := ∀ i m H, W i m H →
  (J.stop i H ∧ Fin H) ∨ (J.go i H ∧ ∃ Nx : Hp → Prop, (∀ H', Nx H' → ∃ m', m' < m ∧ W (i + 1) m' H') ∧ ∀ x H', J.yld i H x H' → g x (wipe σ vs) H' fun σ2 H2 => wipe σ2 vs = wipe σ vs ∧ tt σ2 H2 fun b H3 =>
    if b = true then te σ2 H3 fun y H4 => ∃ r : Bool, y = .bl r ∧ (r = last → Stop H4) ∧ (r ≠ last → Nx H4) else Nx H3)
theorem gen_loop {last : Bool} {a it : Addr} {gn : Nat} {go : Obj} {tn : Nat → Heap → Prop} {J : It} {g : TG} {tt : TT} {te : TE} {W : Nat → Nat → Hp → Prop} {Fin Stop : Hp → Prop} {FinS StopS : Shared → Prop} {elt tg iter : Expr} {ifs : List Expr} {scope : Scope} {pos : Pos}
    (hc : X.calm = true) (hco : genv.scope.isCoroutine = false) (hpn : pn = [(a, go)]) (hpf : ∀ b ∈ fp, ∀ p ∈ pn, p.1 ≠ b) (hgo : ∀ h : Heap, h.get? a = some go → h.IsGen a gn) (T : Turn X.prog X.w X.K tg J fp it tn) (pg : PG (genC X s0 H0 (A.deeper genv) genv fp pn) tg g) (pt : PTs (genC X s0 H0 (A.deeper genv) genv fp pn) ifs tt) (pe : PE (genC X s0 H0 (A.deeper genv) genv fp pn) elt te)
    (turn : GTurn last J g tt te (own.map (·.2)) σ W Fin Stop)
    (hF : ∀ {σ' : L2.St} {H' : Hp} {s' : Shared}, Inv (genC X s0 H0 (A.deeper genv) genv fp pn) [] σ' H' s' → Fin H' → FinS s') (hS : ∀ {σ' : L2.St} {H' : Hp} {s' : Shared}, Inv (genC X s0 H0 (A.deeper genv) genv fp pn) [] σ' H' s' → Stop H' → StopS s') :
    ∀ (m n i : Nat) (sz : Shared) (s : Shared) (H : Hp), m < n → gn < s.gens.size → Inv (genC X s0 H0 (A.deeper genv) genv fp pn) [] (wipe σ (own.map (·.2))) H s → tn i s.heap → (∀ b ∈ fp, H b = none) → W i m H →
      Seg (model X.prog X.w) A (REn FinS) (YEl last a gn StopS) n sz (.compLoop (.GeneratorExp elt [⟨tg, iter, ifs, 0⟩] scope pos) 0 (.ref it) .none genv) ((model X.prog X.w).den (.compLoop (.GeneratorExp elt [⟨tg, iter, ifs, 0⟩] scope pos) 0 (.ref it) .none genv)) [] s := by
  intro m
  induction m using Nat.strongRecOn with
  | ind m ih =>
    intro n i sz s H hmn hgn I st nf w
    have stat : ∀ {σ' : L2.St} {H' : Hp} {s' : Shared}, Inv (genC X s0 H0 (A.deeper genv) genv fp pn) [] σ' H' s' → (∀ b ∈ fp, H' b = none) → ∀ b ∈ fp, FpOk (genC X s0 H0 (A.deeper genv) genv fp pn) [] H' b := fun {σ' H' s'} I' hn b hb =>
      ⟨hn b hb, (I'.ok.exf b hb).1, I'.ok.exfs b hb, .inl hb, fun x c e => (I'.ok.exf b hb).2 x c e, fun p hp' => hpf b hb p (by
        have hp' : p ∈ pn ++ [] := hp'
        rwa [List.append_nil] at hp')⟩
    show Seg _ A _ _ n sz _ ((compTurn (.GeneratorExp elt [⟨tg, iter, ifs, 0⟩] scope pos) 0 (.ref it) .none genv).onRaise (leaving genv)) [] s
    rw [compTurn_gen, Sem.onRaise_eq_wrap]
    refine seg_bind_wrap (wpAny_standAt ?_)
    have eA : A.over (.compLoop (.GeneratorExp elt [⟨tg, iter, ifs, 0⟩] scope pos) 0 (.ref it) .none genv) [] = A.deeper genv := over_gen
    rcases turn i m H w with ⟨stop, qq⟩ | ⟨go', Nx, hNx, step⟩
    · have td := T.done (genC X s0 H0 (A.deeper genv) genv fp pn) rfl rfl rfl hc i [] s _ H (fun _ _ => False) I (stat I nf) st stop
      refine seg_bind_wrap ?_
      rw [eA]
      refine thnF td fun r s6 ⟨hr, I6⟩ => ?_
      subst hr
      exact seg_end (.ok .next) ⟨rfl, I6.bare, hF I6 qq⟩
    · have ti := T.item (genC X s0 H0 (A.deeper genv) genv fp pn) rfl rfl rfl hc i [] s _ H (fun _ _ => False) I (stat I nf) st go'
      refine seg_bind_wrap ?_
      rw [eA]
      refine GenW.wpAny_gsz (n := gn + 1) hgn (thnF ti fun r s6 ⟨u, hr, h6⟩ g6 => ?_)
      subst hr
      refine seg_bind_wrap ?_
      rw [eA]
      refine GenW.wpAny_gsz (n := gn + 1) g6 (thnF h6 fun _ s7 ⟨x, H7, I7, r7, y7, st7, n7⟩ g7 => ?_)
      have I7' := I7.pinned (stat I7 n7) (T.obj _ _ st7)
      refine seg_bind_wrap ?_
      rw [eA]
      refine GenW.wpAny_gsz (n := gn + 1) g7 (thnF (pg.run _ s7 _ H7 x u _ I7' r7 (step x H7 y7)) fun _ s8 ⟨σ8, H8, I8, hw8, q8⟩ g8 => ?_)
      refine seg_bind_wrap ?_
      rw [eA]
      refine GenW.wpAny_gsz (n := gn + 1) g8 (thnF (pt.run _ s8 σ8 H8 _ I8 q8) fun b s9 ⟨H9, I9, q9⟩ g9 => ?_)
      have fin : ∀ {s' : Shared} {H' : Hp}, Inv (genC X s0 H0 (A.deeper genv) genv fp pn) ([] ++ pinsAt fp s7.heap) σ8 H' s' → Nx H' → ∃ m', m' < m ∧ Inv (genC X s0 H0 (A.deeper genv) genv fp pn) [] (wipe σ (own.map (·.2))) H' s' ∧ tn (i + 1) s'.heap ∧ (∀ b ∈ fp, H' b = none) ∧ W (i + 1) m' H' := fun {s' H'} I' nx => by
        obtain ⟨m', hm, w'⟩ := hNx H' nx
        have pin' : ∀ b ∈ fp, ∀ o, s7.heap.get? b = some o → s'.heap.get? b = some o ∧ H' b = none := fun b hb o e =>
          let z := I'.pin (b, o) (List.mem_append_right _ (List.mem_append_right _ (mem_pinsAt hb e)))
          ⟨z.1, z.2.1⟩
        have hl : (wipe σ (own.map (·.2))).length = σ8.length := by rw [← hw8, wipe_length]
        refine ⟨m', hm, (I'.unpinned (pins := [])).weak hl (fun j v e => ?_), T.keep _ _ _ st7 fun b hb o e => (pin' b hb o e).1, fun b hb => ?_, w'⟩
        · rw [← hw8] at e
          exact (wipe_some e).1
        · obtain ⟨o, e, _⟩ := T.obj _ _ st7 b hb
          exact (pin' b hb o e).2
      cases b with
      | false =>
        simp only [Bool.false_eq_true, if_false] at q9 ⊢
        obtain ⟨m', hm, I', st', n', w'⟩ := fin I9 q9
        exact seg_again rfl (ih m' hm n (i + 1) sz s9 _ (by omega) g9 I' st' n' w')
      | true =>
        simp only [if_true] at q9 ⊢
        have hy : ∀ v, yieldOut genv v = yieldValue v := fun v => by simp only [yieldOut, hco, Bool.false_eq_true, if_false]
        simp only [hy]
        rw [Sem.bind_eq_wrap', Sem.bind_eq_wrap', Sem.wrap_wrap, Sem.wrap_wrap]
        refine seg_wrap ?_
        rw [eA]
        refine GenW.wpAny_gsz (n := gn + 1) g9 (thnF (pe.run _ s9 σ8 H9 _ I9 q9) fun z s10 ⟨yv, H10, I10, r10, r, er, hst, hnx⟩ g10 => ?_)
        subst er
        obtain rfl : z = Value.bool r := r10
        obtain ⟨k, rfl⟩ : ∃ k, n = k + 1 := ⟨n - 1, by omega⟩
        have gen := I10.pin (a, go) (by subst hpn; exact List.mem_append_left _ (List.mem_singleton.mpr rfl))
        refine seg_at (seg_yield rfl rfl rfl ⟨r, rfl, I10.bare, g10, I10.nolimit, hgo _ gen.1, fun e => hS (I10.unpinned (pins := [])) (hst e), fun e s' hw => ?_⟩)
        obtain ⟨G, hG, hGs, rfl⟩ := hw
        obtain ⟨m', hm, I', st', n', w'⟩ := fin I10 (hnx e)
        exact seg_again rfl (ih m' hm k (i + 1) _ _ _ (by omega) (by show gn < G.size; rw [hGs]; exact g10) (Inv.regen I' hG) st' n' w')
end

section
variable {P : Program} {w : World} {A : Around}
theorem gen_begin {R : GenEnd} {Y : Protocol} {it : Addr} {n : Nat} {sz s : Shared} {elt tg iter : Expr} {ifs : List Expr} {scope : Scope} {pos : Pos} {genv : Env}
    (self : ∀ (B : Around) (Q : Value → Shared → Prop) (E : Value → Shared → Prop), Q (.ref it) s → wpAny (model P w) B (pyIter (.ref it)) Q E s)
    (loop : Seg (model P w) A R Y n sz (.compLoop (.GeneratorExp elt [⟨tg, iter, ifs, 0⟩] scope pos) 0 (.ref it) .none genv) ((model P w).den (.compLoop (.GeneratorExp elt [⟨tg, iter, ifs, 0⟩] scope pos) 0 (.ref it) .none genv)) [] s) :
    Seg (model P w) A R Y n sz (.compStart (.GeneratorExp elt [⟨tg, iter, ifs, 0⟩] scope pos) 0 (.ref it) .none genv) ((model P w).den (.compStart (.GeneratorExp elt [⟨tg, iter, ifs, 0⟩] scope pos) 0 (.ref it) .none genv)) [] s := by
  show Seg _ A _ _ n sz _ ((compStart (.GeneratorExp elt [⟨tg, iter, ifs, 0⟩] scope pos) 0 (.ref it) .none genv).onRaise (leaving genv)) [] s
  unfold compStart
  rw [Sem.onRaise_eq_wrap]
  show Seg _ A _ _ n sz _ ((ask >>= _).wrap _ _ _ _) [] s
  refine seg_bind_wrap (wpAny_askSetting ?_)
  split
  · exact seg_again rfl loop
  · refine seg_bind_wrap (wpAny_rule ?_)
    show Seg _ A _ _ n sz _ ((standAt iter.pos >>= _).wrap _ _ _ _) [] s
    exact seg_bind_wrap (wpAny_standAt (seg_bind_wrap (self _ _ _ (seg_again rfl loop))))
/-- the turns of any / all -/
theorem any_turns {a : Addr} {gn : Nat} {FinS StopS : Shared → Prop} {R : Result → Shared → Prop} (hh : A.handled = none) (hroom : A.depth < recursionLimit)
    (hF : ∀ s1, FinS s1 → ∀ h' G, AllBare G → (∀ b o, s1.heap.get? b = some o → h'.get? b = some o) → R (.ok (.ret (.bool false))) { s1 with gens := G, heap := h' })
    (hS : ∀ s1 G, StopS s1 → AllBare G → R (.ok (.ret (.bool true))) { s1 with gens := G }) :
    ∀ (n : Nat) (s : Shared) (gs : GenState), AllBare s.gens → s.heap.NoLimit → s.heap.IsGen a gn → s.gens[gn]? = some gs → gs.Goes (model P w) A.in1.in1 (REn FinS) (YEl true a gn StopS) n (.send .none) (s.setGen gn .running) →
      codeAny (model P w) A (.builtin "any.loop" ⟨[.ref a], []⟩) R s := by
  intro n
  induction n with
  | zero =>
    intro s gs hb hl hg hgs hgo
    refine codeAny_builtin F.entry_any_loop ?_
    rw [Around.under_plainId F.plain_any_loop _]
    show wpAny _ A.in1 (pyNext (.ref a) >>= _) _ _ s
    refine wpAny_bind (wpAny_pyNext_genexpQ (P := fun _ _ s1 => AllBare s1.gens ∧ FinS s1) hh hl hroom hg hgs hgo (fun v s1 gs' hb' hv => ?_) fun s1 hp h' hk => ?_)
    · obtain ⟨b, rfl, b1, b2, b3, b4, b5, b6⟩ := hv
      refine wpAny_bind (wpAny_holding (wpAny_truthy_bool ?_))
      refine wpAny_bind (wpAny_letGo ?_)
      cases b with
      | true =>
        simp only [if_true]
        exact wpAny_bind (wpAny_rule (wpAny_pure (hS s1 _ (b5 rfl) (allBare_setGen b1 hb'))))
      | false => exact (b6 (by decide) s1 ⟨s1.gens, b1, rfl, rfl⟩).elim
    · exact wpAny_bind (wpAny_rule (wpAny_pure (hF s1 hp.2 h' _ (allBare_setGen hp.1 rfl) hk)))
  | succ n ih =>
    intro s gs hb hl hg hgs hgo
    refine codeAny_builtin F.entry_any_loop ?_
    rw [Around.under_plainId F.plain_any_loop _]
    show wpAny _ A.in1 (pyNext (.ref a) >>= _) _ _ s
    refine wpAny_bind (wpAny_pyNext_genexpQ (P := fun _ _ s1 => AllBare s1.gens ∧ FinS s1) hh hl hroom hg hgs hgo (fun v s1 gs' hb' hv => ?_) fun s1 hp h' hk => ?_)
    · obtain ⟨b, rfl, b1, b2, b3, b4, b5, b6⟩ := hv
      refine wpAny_bind (wpAny_holding (wpAny_truthy_bool ?_))
      refine wpAny_bind (wpAny_letGo ?_)
      cases b with
      | true =>
        simp only [if_true]
        exact wpAny_bind (wpAny_rule (wpAny_pure (hS s1 _ (b5 rfl) (allBare_setGen b1 hb'))))
      | false =>
        simp only [Bool.false_eq_true, if_false]
        refine wpAny_pure ⟨plainId_quiet F.plain_any_loop _, ih (s1.setGen gn gs') gs' (allBare_setGen b1 hb') b3 b4 (setGen_at b2) (b6 (by decide) _ ⟨((s1.setGen gn gs').setGen gn .running).gens, allBare_setGen (allBare_setGen b1 hb') rfl, ?_, rfl⟩)⟩
        rw [GenW.setGen_size, GenW.setGen_size]
    · exact wpAny_bind (wpAny_rule (wpAny_pure (hF s1 hp.2 h' _ (allBare_setGen hp.1 rfl) hk)))
theorem all_turns {a : Addr} {gn : Nat} {FinS StopS : Shared → Prop} {R : Result → Shared → Prop} (hh : A.handled = none) (hroom : A.depth < recursionLimit)
    (hF : ∀ s1, FinS s1 → ∀ h' G, AllBare G → (∀ b o, s1.heap.get? b = some o → h'.get? b = some o) → R (.ok (.ret (.bool true))) { s1 with gens := G, heap := h' })
    (hS : ∀ s1 G, StopS s1 → AllBare G → R (.ok (.ret (.bool false))) { s1 with gens := G }) :
    ∀ (n : Nat) (s : Shared) (gs : GenState), AllBare s.gens → s.heap.NoLimit → s.heap.IsGen a gn → s.gens[gn]? = some gs → gs.Goes (model P w) A.in1.in1 (REn FinS) (YEl false a gn StopS) n (.send .none) (s.setGen gn .running) →
      codeAny (model P w) A (.builtin "all.loop" ⟨[.ref a], []⟩) R s := by
  intro n
  induction n with
  | zero =>
    intro s gs hb hl hg hgs hgo
    refine codeAny_builtin F.entry_all_loop ?_
    rw [Around.under_plainId F.plain_all_loop _]
    show wpAny _ A.in1 (pyNext (.ref a) >>= _) _ _ s
    refine wpAny_bind (wpAny_pyNext_genexpQ (P := fun _ _ s1 => AllBare s1.gens ∧ FinS s1) hh hl hroom hg hgs hgo (fun v s1 gs' hb' hv => ?_) fun s1 hp h' hk => ?_)
    · obtain ⟨b, rfl, b1, b2, b3, b4, b5, b6⟩ := hv
      refine wpAny_bind (wpAny_holding (wpAny_truthy_bool ?_))
      refine wpAny_bind (wpAny_letGo ?_)
      cases b with
      | false =>
        simp only [Bool.false_eq_true, if_false]
        exact wpAny_bind (wpAny_rule (wpAny_pure (hS s1 _ (b5 rfl) (allBare_setGen b1 hb'))))
      | true => exact (b6 (by decide) s1 ⟨s1.gens, b1, rfl, rfl⟩).elim
    · exact wpAny_bind (wpAny_rule (wpAny_pure (hF s1 hp.2 h' _ (allBare_setGen hp.1 rfl) hk)))
  | succ n ih =>
    intro s gs hb hl hg hgs hgo
    refine codeAny_builtin F.entry_all_loop ?_
    rw [Around.under_plainId F.plain_all_loop _]
    show wpAny _ A.in1 (pyNext (.ref a) >>= _) _ _ s
    refine wpAny_bind (wpAny_pyNext_genexpQ (P := fun _ _ s1 => AllBare s1.gens ∧ FinS s1) hh hl hroom hg hgs hgo (fun v s1 gs' hb' hv => ?_) fun s1 hp h' hk => ?_)
    · obtain ⟨b, rfl, b1, b2, b3, b4, b5, b6⟩ := hv
      refine wpAny_bind (wpAny_holding (wpAny_truthy_bool ?_))
      refine wpAny_bind (wpAny_letGo ?_)
      cases b with
      | false =>
        simp only [Bool.false_eq_true, if_false]
        exact wpAny_bind (wpAny_rule (wpAny_pure (hS s1 _ (b5 rfl) (allBare_setGen b1 hb'))))
      | true =>
        simp only [if_true]
        refine wpAny_pure ⟨plainId_quiet F.plain_all_loop _, ih (s1.setGen gn gs') gs' (allBare_setGen b1 hb') b3 b4 (setGen_at b2) (b6 (by decide) _ ⟨((s1.setGen gn gs').setGen gn .running).gens, allBare_setGen (allBare_setGen b1 hb') rfl, ?_, rfl⟩)⟩
        rw [GenW.setGen_size, GenW.setGen_size]
    · exact wpAny_bind (wpAny_rule (wpAny_pure (hF s1 hp.2 h' _ (allBare_setGen hp.1 rfl) hk)))
end
end Gx
end

section
namespace Gx
open PySem PySem.Spec PyProof.Rows L2
section
variable {P : Program} {w : World} {A : Around}
theorem call_any_gen {a : Addr} {gn n : Nat} {FinS StopS : Shared → Prop} {Q E : Value → Shared → Prop} {s : Shared} {gs : GenState} (hh : A.handled = none) (hroom : A.depth < recursionLimit)
    (hF : ∀ s1, FinS s1 → ∀ h' G, AllBare G → (∀ b o, s1.heap.get? b = some o → h'.get? b = some o) → Q (.bool false) { s1 with gens := G, heap := h' }) (hS : ∀ s1 G, StopS s1 → AllBare G → Q (.bool true) { s1 with gens := G })
    (hb : AllBare s.gens) (hl : s.heap.NoLimit) (hg : s.heap.IsGen a gn) (hgs : s.gens[gn]? = some gs) (hgo : gs.Goes (model P w) A.in1.in1 (REn FinS) (YEl true a gn StopS) n (.send .none) (s.setGen gn .running)) :
    wpAny (model P w) A (call (.builtin "any") [.ref a]) Q E s := by
  refine call_function_tree F.kind_any F.plain_any F.entry_any (F.args_any1 _) ?_
  unfold Builtin.«any»
  refine wpAny_bind (m := oneArg "any" _) (wpAny_pure (wpAny_bind (wpAny_pyIter_gen hg (wpAny_pure ⟨plainId_quiet F.plain_any_loop _, ?_⟩))))
  exact any_turns hh hroom (fun s1 h h' G hG hk => by simpa using hF s1 h h' G hG hk) (fun s1 G h hG => by simpa using hS s1 G h hG) n s gs hb hl hg hgs hgo
theorem call_all_gen {a : Addr} {gn n : Nat} {FinS StopS : Shared → Prop} {Q E : Value → Shared → Prop} {s : Shared} {gs : GenState} (hh : A.handled = none) (hroom : A.depth < recursionLimit)
    (hF : ∀ s1, FinS s1 → ∀ h' G, AllBare G → (∀ b o, s1.heap.get? b = some o → h'.get? b = some o) → Q (.bool true) { s1 with gens := G, heap := h' }) (hS : ∀ s1 G, StopS s1 → AllBare G → Q (.bool false) { s1 with gens := G })
    (hb : AllBare s.gens) (hl : s.heap.NoLimit) (hg : s.heap.IsGen a gn) (hgs : s.gens[gn]? = some gs) (hgo : gs.Goes (model P w) A.in1.in1 (REn FinS) (YEl false a gn StopS) n (.send .none) (s.setGen gn .running)) :
    wpAny (model P w) A (call (.builtin "all") [.ref a]) Q E s := by
  refine call_function_tree F.kind_all F.plain_all F.entry_all (F.args_all1 _) ?_
  unfold Builtin.«all»
  refine wpAny_bind (m := oneArg "all" _) (wpAny_pure (wpAny_bind (wpAny_pyIter_gen hg (wpAny_pure ⟨plainId_quiet F.plain_all_loop _, ?_⟩))))
  exact all_turns hh hroom (fun s1 h h' G hG hk => by simpa using hF s1 h h' G hG hk) (fun s1 G h hG => by simpa using hS s1 G h hG) n s gs hb hl hg hgs hgo
end
/-! ## the expression -/
/-- the table of the def's code objects may have grown -/
def tGen (last : Bool) (P : Addr) (wi : TI) (g : TG) (tt : TT) (te : TE) (vs : List Nat) : TE := fun σ H Q => wi σ H fun J H1 => GxR.TabG H1 P ∧ ∀ H2, GxR.Tabbed P H1 H2 → ∃ W : Nat → Nat → Hp → Prop, (∃ m, W 0 m H2) ∧ GTurn last J g tt te vs σ W (fun H => Q (.bl (!last)) H) fun H => Q (.bl last) H
/-- the generator stands, not begun: what its run promises -/
def Begun (X : Cx) (pins : List (Addr × Obj)) (σ : L2.St) (last : Bool) (Q : VK) (u : Value) (s : Shared) : Prop :=
  ∃ (a : Addr) (gn n : Nat) (gs : GenState), u = .ref a ∧ AllBare s.gens ∧ s.heap.NoLimit ∧ s.heap.IsGen a gn ∧ s.gens[gn]? = some gs ∧
    gs.Goes (model X.prog X.w) X.A.in1.in1 (REn fun s' => ∃ H', Inv X pins σ H' s' ∧ Q (.bl (!last)) H') (YEl last a gn fun s' => ∃ H', Inv X pins σ H' s' ∧ Q (.bl last) H') n (.send .none) (s.setGen gn .running)
section
variable {X : Cx} {pins : List (Addr × Obj)} {σ : L2.St} {H : Hp} {s : Shared}
theorem gen_begun {last : Bool} {c P : Addr} {elt tg iter : Expr} {ifs : List Expr} {gpos : Pos} {scope : Scope} {own : List (Str × Nat)} {wi : TI} {g : TG} {tt : TT} {te : TE} {k : Nat} {Q : VK}
    (hr : Room (k + 3) X.A) (hc : X.calm = true) (TB : GxR.TabB X.base X.mg c P) (hcode : X.env.code = .ref c) (hN : X.N.Nodup) (ok : BlkOk X.N X.env.scope scope own) (nc : ∀ y ∈ scope.names, y.2 ≠ .cell) (h0 : scope.names.lookup (".0" : Str) = some NameKind.local) (hco : scope.isCoroutine = false) (hi : PI X tg iter wi)
    (pg : ∀ (s : Shared) (H : Hp) (B : Around) (cl : List (Str × Addr)) (C : Addr) (code : Value) (fp : List Addr) (pn : List (Addr × Obj)), Room k B → PG (genC X s H B (genEnv scope cl C code builtinsNs X.env) fp pn) tg g)
    (pt : ∀ (s : Shared) (H : Hp) (B : Around) (cl : List (Str × Addr)) (C : Addr) (code : Value) (fp : List Addr) (pn : List (Addr × Obj)), Room k B → PTs (genC X s H B (genEnv scope cl C code builtinsNs X.env) fp pn) ifs tt)
    (pe : ∀ (s : Shared) (H : Hp) (B : Around) (cl : List (Str × Addr)) (C : Addr) (code : Value) (fp : List Addr) (pn : List (Addr × Obj)), Room k B → PE (genC X s H B (genEnv scope cl C code builtinsNs X.env) fp pn) elt te)
    (hs : ∀ v, genFold iter X.env v = pure v) (I : Inv X pins σ H s) (h : tGen last P wi g tt te (own.map (·.2)) σ H Q) :
    wpAny (model X.prog X.w) X.A (eval (.GeneratorExp elt [⟨tg, iter, ifs, 0⟩] scope gpos) X.env) (Begun X pins σ last Q) X.xe s := by
  have hfree : ∀ y ∈ scope.names, y.2 = .free → ∃ c, X.env.cells.lookup y.1 = some c := fun y hy e => by
    rcases ok.free y hy e with k | k
    · exact I.ok.has _ (.inl k)
    · exact I.ok.has _ (.inr k)
  refine wpAny_GeneratorExp_make hco (closure_ok hfree) nc h0 ok.kind (by have := hr.dp; omega) (thn (hi.run pins s σ H _ I h) fun xv s1 hx => thn hx fun itv s2 h2 => ?_) hs
  obtain ⟨it, fp, tn, J, H2, rfl, I2, T, st2, f2, ⟨ps, hP, ht⟩, q⟩ := h2
  refine ⟨I2.nolimit, ?_⟩
  have hPs : s2.heap.get? P = some { cls := .none, data := .fields ps } := I2.hok P _ hP
  have cd : PySem.W.CodeHd s2.heap c P := TB.code.keeps fun b u e => I2.bk b u e
  have cont : ∀ (code : Value) (h3 : Heap) (tk : Nat) (H3 : Hp), GxR.Tabbed P H2 H3 → Inv X pins σ H3 { s2 with heap := h3, toks := tk } → (∀ b o, b ≠ P → s2.heap.get? b = some o → h3.get? b = some o) → s2.heap.objs.size ≤ h3.objs.size →
      wpAny (model X.prog X.w) X.A (builtinsFor X.env.globals X.env.builtins) (fun bi s4 => ∀ h', h'.Ns s4.heap.objs.size (fun y => if y = ".0" then some (.ref it) else none) → Heap.SameBut s4.heap.objs.size (s4.heap.push { cls := .type "frame", data := .dict #[] }) h' →
        Begun X pins σ last Q (.ref h'.objs.size) { s4 with
          gens := s4.gens.push (.fresh (.compStart (.GeneratorExp elt [⟨tg, iter, ifs, 0⟩] scope gpos) 0 (.ref it) .none (genEnv scope (cloFrom X.env.cells scope.names []) s4.heap.objs.size code bi X.env))),
          toks := s4.toks + 1 + 1 + 1,
          heap := h'.push { cls := .type "generator", data := .fields #[.int s4.gens.size 0, .str "<genexpr>" (s4.toks + 1), .str (X.env.qual ++ "<genexpr>") (s4.toks + 1 + 1)] } }) X.xe { s2 with heap := h3, toks := tk } := by
    intro code h3 tk H3 hT I3 hk3 hsz3
    obtain ⟨bm, ob, e1, e2, e3, e4, e5, e6, e7, e8⟩ := TB.bm
    refine wpAny_builtinsFor (m := X.mg) (by rw [I3.ok.glob]; exact I3.mod.glob.keeps I3.bk) e1 e2 (I3.bk _ _ e5) e6 e7 e8 ?_
    generalize hs3 : ({ s2 with heap := h3, toks := tk } : Shared) = s3 at I3 ⊢
    have eh3 : s3.heap = h3 := by rw [← hs3]
    intro h' hns sb
    have z' : h'.objs.size = s3.heap.objs.size + 1 := by rw [sb.1, Heap.size_push]
    have kp : ∀ b o, s3.heap.get? b = some o → h'.get? b = some o := fun b o e => (sb.2 b (Nat.ne_of_lt (Heap.lt_size e))).trans (Heap.get?_push_of_some _ e)
    generalize hgo : ({ cls := .type "generator", data := .fields #[.int s3.gens.size 0, .str "<genexpr>" (s3.toks + 1), .str (X.env.qual ++ "<genexpr>") (s3.toks + 1 + 1)] } : Obj) = go
    have isg : ∀ h : Heap, h.get? h'.objs.size = some go → h.IsGen h'.objs.size s3.gens.size := fun h e => by
      rw [← hgo] at e
      exact ⟨_, _, _, e, rfl, rfl, rfl⟩
    have nfr : go.isFreed = false := by rw [← hgo]; rfl
    have sz : ∀ b ∈ fp, b < s2.heap.objs.size := fun b hb => by
      obtain ⟨o, e, _⟩ := T.obj _ _ st2 b hb
      exact Heap.lt_size e
    have nP : ∀ b ∈ fp, b ≠ P := fun b hb e => by
      have := (f2 b hb).1
      rw [e, hP] at this; cases this
    have f3 : ∀ b ∈ fp, FpOk X pins H3 b ∧ b < s3.heap.objs.size := fun b hb => by
      refine ⟨⟨?_, (f2 b hb).2⟩, by rw [eh3]; exact Nat.lt_of_lt_of_le (sz b hb) hsz3⟩
      rw [hT.2 b (nP b hb)]
      exact (f2 b hb).1
    have st3 : tn 0 s3.heap := T.keep _ _ _ st2 fun b hb o e => by rw [eh3]; exact hk3 b o (nP b hb) e
    generalize hge : genEnv scope (cloFrom X.env.cells scope.names []) s3.heap.objs.size code builtinsNs X.env = genv
    obtain ⟨W, ⟨m, w0⟩, turn⟩ := q H3 hT
    have hrB : Room (k + 1) X.A.in1.in1 := Room.in1 (Room.in1 hr)
    have hrG : Room k (X.A.in1.in1.deeper genv) := Room.deeper hrB genv
    have hfr : (X.A.in1.in1.deeper genv).frames = some (genv :: X.stack) := Around.frames_deeper I.ok.frames
    generalize hs5 : ({ s3 with gens := s3.gens.push (.fresh (.compStart (.GeneratorExp elt [⟨tg, iter, ifs, 0⟩] scope gpos) 0 (.ref it) .none genv)), toks := s3.toks + 1 + 1 + 1, heap := h'.push go } : Shared) = s5
    have eh5 : s5.heap = h'.push go := by rw [← hs5]
    have eg5 : s5.gens = s3.gens.push (.fresh (.compStart (.GeneratorExp elt [⟨tg, iter, ifs, 0⟩] scope gpos) 0 (.ref it) .none genv)) := by rw [← hs5]
    have I5 : Inv (genC X s3 H3 (X.A.in1.in1.deeper genv) genv fp [(h'.objs.size, go)]) [] (wipe σ (own.map (·.2))) H3 s5 := by
      rw [← hs5]
      refine gen_start I3 ok hN nc f3 hfr (fun _ => hrG.hd) (by rw [← hge]; rfl) (by rw [← hge]; rfl) (by rw [← hge]; rfl) (by rw [← hge]; exact I.ok.glob) (by rw [← hge]; rfl) (by rw [← hge]; rfl) (fun b o e => Heap.get?_push_of_some _ (kp b o e)) (hns.push _) (I3.bare.push rfl) fun p hp => ?_
      obtain rfl := List.mem_singleton.mp hp
      refine ⟨Heap.get?_push_size _ nfr, by show s3.heap.objs.size < h'.objs.size; rw [z']; exact Nat.lt_succ_self _, fun v e => ?_⟩
      rw [← hgo] at e
      cases e
    have st5 : tn 0 s5.heap := T.keep _ _ _ st3 fun b _ o e => by rw [eh5]; exact Heap.get?_push_of_some _ (kp b o e)
    have gL : s3.gens.size < s5.gens.size := by rw [eg5, Array.size_push]; exact Nat.lt_succ_self _
    refine ⟨h'.objs.size, s3.gens.size, m + 1, .fresh (.compStart (.GeneratorExp elt [⟨tg, iter, ifs, 0⟩] scope gpos) 0 (.ref it) .none genv), rfl, I5.bare, I5.nolimit, isg _ (by rw [eh5]; exact Heap.get?_push_size _ nfr), by rw [eg5]; exact Array.getElem?_push_size .., rfl, ?_⟩
    have back : ∀ {R : Hp → Prop} {σ' : L2.St} {H' : Hp} {s' : Shared}, Inv (genC X s3 H3 (X.A.in1.in1.deeper genv) genv fp [(h'.objs.size, go)]) [] σ' H' s' → R H' → ∃ H', Inv X pins σ H' s' ∧ R H' := fun {R σ' H' s'} I6 z =>
      ⟨H', I3.call' (ch := fp) I6.os I6.base I6.hok I6.bare fun b hb => ⟨(f3 b hb).1.2.2.2.1, (f3 b hb).1.2.1, (f3 b hb).1.2.2.2.2.1, (f3 b hb).1.2.2.2.2.2⟩, z⟩
    refine gen_begin (fun B Q' E' z => T.self B 0 _ _ _ st5 z) ?_
    refine gen_loop (own := own) (σ := σ) (fp := fp) (J := J) (tn := tn) (W := W) hc (by rw [← hge]; exact hco) rfl (fun b hb p hp => ?_) isg T ?_ ?_ ?_ turn (fun I6 z => back I6 z) (fun I6 z => back I6 z) m (m + 1) 0 _ _ H3 (Nat.lt_succ_self _) ?_ (Inv.regen I5 (allBare_setGen I5.bare rfl)) st5 (fun b hb => (f3 b hb).1.1) w0
    · obtain rfl := List.mem_singleton.mp hp
      show h'.objs.size ≠ b
      rw [z']
      exact Nat.ne_of_gt (Nat.lt_succ_of_lt (f3 b hb).2)
    · have := pg s3 H3 (X.A.in1.in1.deeper genv) (cloFrom X.env.cells scope.names []) s3.heap.objs.size code fp [(h'.objs.size, go)] hrG
      rwa [hge] at this
    · have := pt s3 H3 (X.A.in1.in1.deeper genv) (cloFrom X.env.cells scope.names []) s3.heap.objs.size code fp [(h'.objs.size, go)] hrG
      rwa [hge] at this
    · have := pe s3 H3 (X.A.in1.in1.deeper genv) (cloFrom X.env.cells scope.names []) s3.heap.objs.size code fp [(h'.objs.size, go)] hrG
      rwa [hge] at this
    · rw [GenW.setGen_size]; exact gL
  cases hf : codeAmong gpos ps.toList with
  | none =>
    refine wpAny_genexprCodeX hcode (cd.code hPs ht) (cd.tab hPs) hf fun c' h3 tk hx hge hlt hco' _ htab' _ => ?_
    obtain ⟨o1, vs, f1, tf, fl, tg', inF, tx, tt', op, _, _, _, _, _, _, _, _, _, htr, _⟩ := hco'
    refine cont _ h3 tk (upd H2 P (.tbl (ps ++ #[rawInt gpos.line, rawInt gpos.col, .ref c']))) ⟨⟨_, upd_same, htr⟩, fun b hb => upd_ne hb⟩ ?_ (fun b o hb e => hx b o hb e) (Nat.le_trans hge (Nat.le_of_lt hlt))
    exact GxR.inv_tab (g' := s2.gens) (d' := s2.drawn) (t' := tk) I2 hP (fun b o hb e => hx b o hb e) htab'.2 I2.bare
  | some cv =>
    refine wpAny_genexprCode_hit hcode (cd.code hPs ht) hf ?_
    exact cont cv s2.heap s2.toks H2 ⟨⟨ps, hP, ht⟩, fun _ _ => rfl⟩ I2 (fun b o _ e => e) (Nat.le_refl _)
theorem pe_anyG {c P : Addr} {elt tg iter : Expr} {ifs : List Expr} {p pos gpos : Pos} {scope : Scope} {own : List (Str × Nat)} {wi : TI} {g : TG} {tt : TT} {te : TE} {k : Nat}
    (hr : Room (k + 3) X.A) (hc : X.calm = true) (hg : Gl X "any") (hm : X.mg "any" = none) (TB : GxR.TabB X.base X.mg c P) (hcode : X.env.code = .ref c) (hN : X.N.Nodup) (ok : BlkOk X.N X.env.scope scope own) (nc : ∀ y ∈ scope.names, y.2 ≠ .cell) (h0 : scope.names.lookup (".0" : Str) = some NameKind.local) (hco : scope.isCoroutine = false) (hi : PI X tg iter wi)
    (pg : ∀ (s : Shared) (H : Hp) (B : Around) (cl : List (Str × Addr)) (C : Addr) (code : Value) (fp : List Addr) (pn : List (Addr × Obj)), Room k B → PG (genC X s H B (genEnv scope cl C code builtinsNs X.env) fp pn) tg g)
    (pt : ∀ (s : Shared) (H : Hp) (B : Around) (cl : List (Str × Addr)) (C : Addr) (code : Value) (fp : List Addr) (pn : List (Addr × Obj)), Room k B → PTs (genC X s H B (genEnv scope cl C code builtinsNs X.env) fp pn) ifs tt)
    (pe : ∀ (s : Shared) (H : Hp) (B : Around) (cl : List (Str × Addr)) (C : Addr) (code : Value) (fp : List Addr) (pn : List (Addr × Obj)), Room k B → PE (genC X s H B (genEnv scope cl C code builtinsNs X.env) fp pn) elt te)
    (hs : ∀ v, genFold iter X.env v = pure v := by intro _; rfl)
    (he : starEach [.GeneratorExp elt [⟨tg, iter, ifs, 0⟩] scope gpos] X.env = (false, eval (.GeneratorExp elt [⟨tg, iter, ifs, 0⟩] scope gpos) X.env) :: starEach [] X.env := by rfl) :
    PE X (.Call (.Name "any" p) [.GeneratorExp elt [⟨tg, iter, ifs, 0⟩] scope gpos] [] pos) (tGen true P wi g tt te (own.map (·.2))) := by
  refine ⟨fun pins s σ H Q I h => ?_⟩
  refine wpAny_Call_Name_kw (ld_blt I hg hm boot_any (PyProof.Rows.callWith_builtin1 ?_ he (by rfl)))
  rw [he]
  show wpAny _ _ (spliced ((false, eval (.GeneratorExp elt [⟨tg, iter, ifs, 0⟩] scope gpos) X.env) :: backTo pos (starEach [] X.env))) _ _ s
  refine Calls.spliced_cons (wpAny_mono (gen_begun hr hc TB hcode hN ok nc h0 hco hi pg pt pe hs I h) (fun u s5 z => ?_) fun _ _ e => e)
  obtain ⟨a, gn, n, gs, rfl, b1, b2, b3, b4, b5⟩ := z
  refine Calls.spliced_nil (call_any_gen hr.hd (by have := hr.dp; omega) (fun s1 z h' G hG hk => ?_) (fun s1 G z hG => ?_) b1 b2 b3 b4 b5)
  · obtain ⟨H', I', q⟩ := z
    exact ⟨.bl _, H', (Inv.regen I' hG).kept (t' := s1.toks) hk, rfl, q⟩
  · obtain ⟨H', I', q⟩ := z
    exact ⟨.bl _, H', Inv.regen I' hG, rfl, q⟩
theorem pe_allG {c P : Addr} {elt tg iter : Expr} {ifs : List Expr} {p pos gpos : Pos} {scope : Scope} {own : List (Str × Nat)} {wi : TI} {g : TG} {tt : TT} {te : TE} {k : Nat}
    (hr : Room (k + 3) X.A) (hc : X.calm = true) (hg : Gl X "all") (hm : X.mg "all" = none) (TB : GxR.TabB X.base X.mg c P) (hcode : X.env.code = .ref c) (hN : X.N.Nodup) (ok : BlkOk X.N X.env.scope scope own) (nc : ∀ y ∈ scope.names, y.2 ≠ .cell) (h0 : scope.names.lookup (".0" : Str) = some NameKind.local) (hco : scope.isCoroutine = false) (hi : PI X tg iter wi)
    (pg : ∀ (s : Shared) (H : Hp) (B : Around) (cl : List (Str × Addr)) (C : Addr) (code : Value) (fp : List Addr) (pn : List (Addr × Obj)), Room k B → PG (genC X s H B (genEnv scope cl C code builtinsNs X.env) fp pn) tg g)
    (pt : ∀ (s : Shared) (H : Hp) (B : Around) (cl : List (Str × Addr)) (C : Addr) (code : Value) (fp : List Addr) (pn : List (Addr × Obj)), Room k B → PTs (genC X s H B (genEnv scope cl C code builtinsNs X.env) fp pn) ifs tt)
    (pe : ∀ (s : Shared) (H : Hp) (B : Around) (cl : List (Str × Addr)) (C : Addr) (code : Value) (fp : List Addr) (pn : List (Addr × Obj)), Room k B → PE (genC X s H B (genEnv scope cl C code builtinsNs X.env) fp pn) elt te)
    (hs : ∀ v, genFold iter X.env v = pure v := by intro _; rfl)
    (he : starEach [.GeneratorExp elt [⟨tg, iter, ifs, 0⟩] scope gpos] X.env = (false, eval (.GeneratorExp elt [⟨tg, iter, ifs, 0⟩] scope gpos) X.env) :: starEach [] X.env := by rfl) :
    PE X (.Call (.Name "all" p) [.GeneratorExp elt [⟨tg, iter, ifs, 0⟩] scope gpos] [] pos) (tGen false P wi g tt te (own.map (·.2))) := by
  refine ⟨fun pins s σ H Q I h => ?_⟩
  refine wpAny_Call_Name_kw (ld_blt I hg hm (show bootBuiltins "all" = some (.builtin "all") by decide +kernel) (PyProof.Rows.callWith_builtin1 ?_ he (by rfl)))
  rw [he]
  show wpAny _ _ (spliced ((false, eval (.GeneratorExp elt [⟨tg, iter, ifs, 0⟩] scope gpos) X.env) :: backTo pos (starEach [] X.env))) _ _ s
  refine Calls.spliced_cons (wpAny_mono (gen_begun hr hc TB hcode hN ok nc h0 hco hi pg pt pe hs I h) (fun u s5 z => ?_) fun _ _ e => e)
  obtain ⟨a, gn, n, gs, rfl, b1, b2, b3, b4, b5⟩ := z
  refine Calls.spliced_nil (call_all_gen hr.hd (by have := hr.dp; omega) (fun s1 z h' G hG hk => ?_) (fun s1 G z hG => ?_) b1 b2 b3 b4 b5)
  · obtain ⟨H', I', q⟩ := z
    exact ⟨.bl _, H', (Inv.regen I' hG).kept (t' := s1.toks) hk, rfl, q⟩
  · obtain ⟨H', I', q⟩ := z
    exact ⟨.bl _, H', Inv.regen I' hG, rfl, q⟩
end
end Gx
end

section
namespace Dn
open PySem PySem.Spec L2

/-! ## data, what stands for it -/
abbrev D := PyData
abbrev Ix := Nat → Option Addr

mutual
/-- the value v stands for the data d: its lists and tuples lie in G; a dict of the one pair (n, None) is the store's object n -/
def Rep (K : PySem.W.Frag) (ι : Ix) (G : Hp) : D → V → Prop
  | .none, v => v = .non
  | .bool b, v => v = .bl b
  | .int i, v => v = .int i
  | .str s, v => v = .str s
  | .list ds, v => ∃ a vs, v = .ref a ∧ G a = some (.lst vs) ∧ vs.length ≤ sizeLine ∧ RepL K ι G ds vs
  | .tuple ds, v => ∃ a vs, v = .ref a ∧ G a = some (.tup vs) ∧ vs.length ≤ sizeLine ∧ RepL K ι G ds vs
  | .dict kvs, v => ∃ (n : Nat) (a : Addr), kvs = [(.int n, .none)] ∧ ι n = some a ∧ v = .ref a
def RepL (K : PySem.W.Frag) (ι : Ix) (G : Hp) : List D → List V → Prop
  | [], vs => vs = []
  | d :: ds, vs => ∃ v ws, vs = v :: ws ∧ Rep K ι G d v ∧ RepL K ι G ds ws
end
/-- the store's object n, as data -/
def ob (n : Nat) : D := .dict [(.int n, .none)]

theorem SqT.mono {K : PySem.W.Frag} {G G' : Hp} (hG : ∀ a o, G a = some o → G' a = some o) {a : Addr} {xs : List V} (h : SqT K G a xs) : SqT K G' a xs := by
  rcases h with (h | ⟨o, h⟩) | h
  · exact .inl (.inl (hG _ _ h))
  · exact .inl (.inr ⟨o, hG _ _ h⟩)
  · exact .inr h
mutual
theorem Rep.mono {K : PySem.W.Frag} {ι ι' : Ix} {G G' : Hp} (hι : ∀ n a, ι n = some a → ι' n = some a) (hG : ∀ a o, G a = some o → G' a = some o) : ∀ (d : D) (v : V), Rep K ι G d v → Rep K ι' G' d v
  | .none, _, h => h
  | .bool _, _, h => h
  | .int _, _, h => h
  | .str _, _, h => h
  | .list ds, v, h => by
    rw [Rep] at h ⊢
    obtain ⟨a, vs, e, g, z, r⟩ := h
    exact ⟨a, vs, e, hG _ _ g, z, RepL.mono hι hG ds vs r⟩
  | .tuple ds, v, h => by
    rw [Rep] at h ⊢
    obtain ⟨a, vs, e, g, z, r⟩ := h
    exact ⟨a, vs, e, hG _ _ g, z, RepL.mono hι hG ds vs r⟩
  | .dict kvs, v, h => by
    rw [Rep] at h ⊢
    obtain ⟨n, a, e, i, r⟩ := h
    exact ⟨n, a, e, hι _ _ i, r⟩
theorem RepL.mono {K : PySem.W.Frag} {ι ι' : Ix} {G G' : Hp} (hι : ∀ n a, ι n = some a → ι' n = some a) (hG : ∀ a o, G a = some o → G' a = some o) : ∀ (ds : List D) (vs : List V), RepL K ι G ds vs → RepL K ι' G' ds vs
  | [], _, h => by rw [RepL] at h ⊢; exact h
  | d :: ds, vs, h => by
    rw [RepL] at h ⊢
    obtain ⟨v, ws, e, r, q⟩ := h
    exact ⟨v, ws, e, Rep.mono hι hG d v r, RepL.mono hι hG ds ws q⟩
end
section
variable {K : PySem.W.Frag} {ι : Ix} {G : Hp}
theorem RepL.nil : RepL K ι G [] [] := by rw [RepL]
theorem RepL.cons {d : D} {v : V} {ds : List D} {vs : List V} (h : Rep K ι G d v) (t : RepL K ι G ds vs) : RepL K ι G (d :: ds) (v :: vs) := by
  rw [RepL]; exact ⟨v, vs, rfl, h, t⟩
theorem RepL.inv {d : D} {ds : List D} {vs : List V} (h : RepL K ι G (d :: ds) vs) : ∃ v ws, vs = v :: ws ∧ Rep K ι G d v ∧ RepL K ι G ds ws := by
  rw [RepL] at h; exact h
theorem RepL.length : ∀ {ds : List D} {vs : List V}, RepL K ι G ds vs → vs.length = ds.length
  | [], _, h => by rw [RepL] at h; subst h; rfl
  | d :: ds, _, h => by
    obtain ⟨v, ws, rfl, _, q⟩ := RepL.inv h
    rw [List.length_cons, List.length_cons, RepL.length q]
theorem RepL.get : ∀ {ds : List D} {vs : List V} {i : Nat} {d : D}, RepL K ι G ds vs → ds[i]? = some d → ∃ v, vs[i]? = some v ∧ Rep K ι G d v
  | [], _, _, _, _, e => by simp at e
  | d :: ds, _, 0, _, h, e => by
    obtain ⟨v, ws, rfl, r, _⟩ := RepL.inv h
    simp at e; subst e
    exact ⟨v, rfl, r⟩
  | d :: ds, _, i + 1, _, h, e => by
    obtain ⟨v, ws, rfl, _, q⟩ := RepL.inv h
    rw [List.getElem?_cons_succ] at e ⊢
    exact RepL.get q e
theorem RepL.getV {ds : List D} {vs : List V} {i : Nat} {v : V} (h : RepL K ι G ds vs) (e : vs[i]? = some v) : ∃ d, ds[i]? = some d ∧ Rep K ι G d v := by
  have hl := h.length
  have hi : i < vs.length := (List.getElem?_eq_some_iff.mp e).1
  have e2 : ds[i]? = some (ds[i]'(hl ▸ hi)) := List.getElem?_eq_getElem _
  obtain ⟨w, e3, r⟩ := h.get e2
  rw [e] at e3; cases e3
  exact ⟨_, e2, r⟩
theorem RepL.append : ∀ {ds es : List D} {vs ws : List V}, RepL K ι G ds vs → RepL K ι G es ws → RepL K ι G (ds ++ es) (vs ++ ws)
  | [], _, _, _, h, q => by rw [RepL] at h; subst h; exact q
  | d :: ds, _, _, _, h, q => by
    obtain ⟨v, vs, rfl, r, t⟩ := RepL.inv h
    exact RepL.cons r (RepL.append t q)
theorem RepL.set : ∀ {ds : List D} {vs : List V} {d : D} {v : V} (i : Nat), RepL K ι G ds vs → Rep K ι G d v → RepL K ι G (ds.set i d) (vs.set i v)
  | [], _, _, _, _, h, _ => by rw [RepL] at h; subst h; exact .nil
  | d :: ds, _, _, _, 0, h, q => by
    obtain ⟨v, vs, rfl, r, t⟩ := RepL.inv h
    exact .cons q t
  | d :: ds, _, _, _, i + 1, h, q => by
    obtain ⟨v, vs, rfl, r, t⟩ := RepL.inv h
    exact .cons r (RepL.set i t q)
theorem RepL.take : ∀ {ds : List D} {vs : List V} (n : Nat), RepL K ι G ds vs → RepL K ι G (ds.take n) (vs.take n)
  | _, _, 0, _ => .nil
  | [], _, n + 1, h => by rw [RepL] at h; subst h; exact .nil
  | d :: ds, _, n + 1, h => by
    obtain ⟨v, vs, rfl, r, t⟩ := RepL.inv h
    exact .cons r (RepL.take n t)
theorem RepL.drop : ∀ {ds : List D} {vs : List V} (n : Nat), RepL K ι G ds vs → RepL K ι G (ds.drop n) (vs.drop n)
  | _, _, 0, h => h
  | [], _, n + 1, h => by rw [RepL] at h; subst h; exact .nil
  | d :: ds, _, n + 1, h => by
    obtain ⟨v, vs, rfl, r, t⟩ := RepL.inv h
    exact RepL.drop n t
theorem RepL.eraseIdx : ∀ {ds : List D} {vs : List V} (i : Nat), RepL K ι G ds vs → RepL K ι G (ds.eraseIdx i) (vs.eraseIdx i)
  | [], _, _, h => by rw [RepL] at h; subst h; exact .nil
  | d :: ds, _, 0, h => by
    obtain ⟨v, vs, rfl, r, t⟩ := RepL.inv h
    exact t
  | d :: ds, _, i + 1, h => by
    obtain ⟨v, vs, rfl, r, t⟩ := RepL.inv h
    exact .cons r (RepL.eraseIdx i t)
theorem RepL.reverse : ∀ {ds : List D} {vs : List V}, RepL K ι G ds vs → RepL K ι G ds.reverse vs.reverse
  | [], _, h => by rw [RepL] at h; subst h; exact .nil
  | d :: ds, _, h => by
    obtain ⟨v, vs, rfl, r, t⟩ := RepL.inv h
    rw [List.reverse_cons, List.reverse_cons]
    exact (RepL.reverse t).append (.cons r .nil)
theorem RepL.dropLast {ds : List D} {vs : List V} (h : RepL K ι G ds vs) : RepL K ι G ds.dropLast vs.dropLast := by
  rw [List.dropLast_eq_take, List.dropLast_eq_take, h.length]
  exact h.take _
theorem RepL.intsV : ∀ {ns : List Int} {vs : List V}, RepL K ι G (ns.map PyData.int) vs → vs = ns.map V.int
  | [], _, h => by simpa [RepL] using h
  | n :: ns, _, h => by
    obtain ⟨v, vs, rfl, r, t⟩ := RepL.inv (show RepL K ι G (.int n :: ns.map PyData.int) _ from h)
    rw [Rep] at r; subst r
    rw [RepL.intsV t]; rfl
theorem RepL.ints : ∀ (ns : List Int), RepL K ι G (ns.map PyData.int) (ns.map V.int)
  | [] => .nil
  | n :: ns => .cons (by rw [Rep]) (RepL.ints ns)
theorem RepL.blsV : ∀ {ns : List Bool} {vs : List V}, RepL K ι G (ns.map PyData.bool) vs → vs = ns.map V.bl
  | [], _, h => by simpa [RepL] using h
  | n :: ns, _, h => by
    obtain ⟨v, vs, rfl, r, t⟩ := RepL.inv (show RepL K ι G (.bool n :: ns.map PyData.bool) _ from h)
    rw [Rep] at r; subst r
    rw [RepL.blsV t]; rfl
theorem RepL.strsV : ∀ {ns : List Str} {vs : List V}, RepL K ι G (ns.map PyData.str) vs → vs = ns.map V.str
  | [], _, h => by simpa [RepL] using h
  | n :: ns, _, h => by
    obtain ⟨v, vs, rfl, r, t⟩ := RepL.inv (show RepL K ι G (.str n :: ns.map PyData.str) _ from h)
    rw [Rep] at r; subst r
    rw [RepL.strsV t]; rfl
theorem RepL.strs : ∀ (ns : List Str), RepL K ι G (ns.map PyData.str) (ns.map V.str)
  | [] => .nil
  | n :: ns => .cons (by rw [Rep]) (RepL.strs ns)
end

/-! ## the store, the ghost, steps -/
/-- an object of the store -/
inductive WO where
  | lst (xs : List D)
  /-- an instance of the class named c, its attributes -/
  | ins (c : Str) (fs : List (Str × D))
  /-- a dict whose keys are tuples of ints and texts -/
  | dct (kvs : List (List Key × D))
  /-- a dict whose keys are ints and texts -/
  | dck (kvs : List (Key × D))
/-- the store: may it grow; its objects -/
structure Wd where
  live : Bool
  objs : List WO
/-- ghost: where the store's objects stand, which addresses are the store's, what is settled (lists and tuples that never change again) -/
structure Gh where
  live : Bool
  ι : Ix
  S : Addr → Prop
  G : Hp
def isLst : HO → Bool
  | .lst _ => true
  | _ => false
def isTup : HO → Bool
  | .tup _ => true
  | _ => false
def isSeq (o : HO) : Bool := isLst o || isTup o
/-- the tables of code objects that generator expressions write; where the classes stand -/
class Tb where
  T : Addr → Prop
  C : Str → Addr
variable [Tb]
def WO.is (K : PySem.W.Frag) (ι : Ix) (G H : Hp) (a : Addr) : WO → Prop
  | .lst xs => ∃ vs, H a = some (.lst vs) ∧ RepL K ι G xs vs
  | .ins c fs => ∃ dx ws, H a = some (.ins (Tb.C c) dx ws) ∧ ws.map Prod.fst = fs.map Prod.fst ∧ RepL K ι G (fs.map Prod.snd) (ws.map Prod.snd)
  | .dct kvs => ∃ ws, H a = some (.dT ws) ∧ ws.map Prod.fst = kvs.map Prod.fst ∧ RepL K ι G (kvs.map Prod.snd) (ws.map Prod.snd)
  | .dck kvs => ∃ ws, H a = some (.dK ws) ∧ ws.map Prod.fst = kvs.map Prod.fst ∧ RepL K ι G (kvs.map Prod.snd) (ws.map Prod.snd)

structure Step (g : Gh) (H : Hp) (g' : Gh) (H' : Hp) : Prop where
  ιm : ∀ n a, g.ι n = some a → g'.ι n = some a
  Gm : ∀ a o, g.G a = some o → g'.G a = some o
  Sm : ∀ a, g.S a → g'.S a
  fr : ∀ a o, H a = some o → ¬ g.S a → H' a = some o
  nS : ∀ a, g'.S a → g.S a ∨ H a = none
  al : ∀ a, H' a = none → H a = none
  nw : ∀ a vs, g'.G a = some (.lst vs) → g.G a = some (.lst vs) ∨ H a = none
  lv : g'.live = g.live
  ιl : g.live = false → g'.ι = g.ι
structure GOk (K : PySem.W.Frag) (g : Gh) (H : Hp) (ω : Wd) : Prop where
  sub : ∀ a o, g.G a = some o → H a = some o
  seq : ∀ a o, g.G a = some o → isSeq o = true
  nS : ∀ a o, g.G a = some o → ¬ g.S a
  inj : ∀ n m a, n < ω.objs.length → m < ω.objs.length → g.ι n = some a → g.ι m = some a → n = m
  inS : ∀ n a, n < ω.objs.length → g.ι n = some a → g.S a
  st : ∀ n o, ω.objs[n]? = some o → ∃ a, g.ι n = some a ∧ o.is K g.ι g.G H a
  sl : ∀ a, g.S a → ∃ o, H a = some o ∧ isTup o = false
  lv : ω.live = true → g.live = true ∧ ∀ n, ω.objs.length ≤ n → g.ι n = none
  tb : ∀ P, Tb.T P → g.S P ∧ GxR.TabG H P ∧ ∀ n, g.ι n ≠ some P

theorem GOk.tbH {K : PySem.W.Frag} {g : Gh} {H : Hp} {ω : Wd} (ok : GOk K g H ω) {H' : Hp} (k : ∀ P ps, g.S P → H P = some (.tbl ps) → H' P = some (.tbl ps)) : ∀ P, Tb.T P → g.S P ∧ GxR.TabG H' P ∧ ∀ n, g.ι n ≠ some P := fun P h => by
  obtain ⟨a, ⟨ps, e, t⟩, c⟩ := ok.tb P h
  exact ⟨a, ⟨ps, k P ps a e, t⟩, c⟩
theorem Step.refl (g : Gh) (H : Hp) : Step g H g H := ⟨fun _ _ h => h, fun _ _ h => h, fun _ h => h, fun _ _ h _ => h, fun _ h => .inl h, fun _ h => h, fun _ _ h => .inl h, rfl, fun _ => rfl⟩
theorem Step.trans {g0 g1 g2 : Gh} {H0 H1 H2 : Hp} (a : Step g0 H0 g1 H1) (b : Step g1 H1 g2 H2) : Step g0 H0 g2 H2 where
  ιm n x h := b.ιm n x (a.ιm n x h)
  Gm n x h := b.Gm n x (a.Gm n x h)
  Sm x h := b.Sm x (a.Sm x h)
  fr x o h hs := b.fr x o (a.fr x o h hs) fun q => by
    rcases a.nS x q with q | q
    · exact hs q
    · rw [h] at q; cases q
  nS x h := by
    rcases b.nS x h with q | q
    · exact a.nS x q
    · exact .inr (a.al x q)
  al x h := a.al x (b.al x h)
  nw x vs h := by
    rcases b.nw x vs h with q | q
    · exact a.nw x vs q
    · exact .inr (a.al x q)
  lv := b.lv.trans a.lv
  ιl h := (b.ιl (a.lv.trans h)).trans (a.ιl h)

section
open Classical
/-- what a def may read besides what is settled: its own lists too -/
noncomputable def Fm (g0 : Gh) (H0 : Hp) (g : Gh) (H : Hp) : Hp := fun a => match H a with
  | some o => if isSeq o = true ∧ ¬ g.S a ∧ (isLst o = true → g0.G a = some o ∨ H0 a = none) then some o else none
  | none => none
end
theorem Fm_some {g0 : Gh} {H0 : Hp} {g : Gh} {H : Hp} {a : Addr} {o : HO} : Fm g0 H0 g H a = some o ↔ H a = some o ∧ isSeq o = true ∧ ¬ g.S a ∧ (isLst o = true → g0.G a = some o ∨ H0 a = none) := by
  unfold Fm
  cases e : H a with
  | none => simp
  | some u =>
    simp only
    split
    · rename_i h
      constructor
      · intro q; cases q; exact ⟨rfl, h⟩
      · intro q; exact q.1
    · rename_i h
      constructor
      · intro q; cases q
      · intro q; cases q.1; exact absurd q.2 h
noncomputable def hb (b : Bool) (g0 : Gh) (H0 : Hp) (g : Gh) (H : Hp) : Hp := if b = true then g.G else Fm g0 H0 g H
theorem hb_true {g0 : Gh} {H0 : Hp} {g : Gh} {H : Hp} : hb true g0 H0 g H = g.G := rfl
theorem hb_false {g0 : Gh} {H0 : Hp} {g : Gh} {H : Hp} : hb false g0 H0 g H = Fm g0 H0 g H := rfl
section
variable {K : PySem.W.Frag} {g0 g g' : Gh} {H0 H H' : Hp} {ω ω' : Wd} {b : Bool}
theorem G_Fm (ok : GOk K g H ω) (st : Step g0 H0 g H) {a : Addr} {o : HO} (h : g.G a = some o) : Fm g0 H0 g H a = some o := by
  refine Fm_some.mpr ⟨ok.sub a o h, ok.seq a o h, ok.nS a o h, fun hl => ?_⟩
  cases o with
  | lst vs => exact st.nw a vs h
  | _ => cases hl
theorem G_hb (ok : GOk K g H ω) (st : Step g0 H0 g H) {a : Addr} {o : HO} (h : g.G a = some o) : hb b g0 H0 g H a = some o := by
  cases b with
  | true => exact h
  | false => exact G_Fm ok st h
theorem hb_sub (ok : GOk K g H ω) {a : Addr} {o : HO} (h : hb b g0 H0 g H a = some o) : H a = some o ∧ isSeq o = true ∧ ¬ g.S a := by
  cases b with
  | true => exact ⟨ok.sub a o h, ok.seq a o h, ok.nS a o h⟩
  | false => obtain ⟨h1, h2, h3, _⟩ := Fm_some.mp h; exact ⟨h1, h2, h3⟩
theorem hb_mono (s : Step g H g' H') {a : Addr} {o : HO} (h : hb b g0 H0 g H a = some o) : hb b g0 H0 g' H' a = some o := by
  cases b with
  | true => exact s.Gm a o h
  | false =>
    obtain ⟨h1, h2, h3, h4⟩ := Fm_some.mp h
    refine Fm_some.mpr ⟨s.fr a o h1 h3, h2, fun q => ?_, h4⟩
    rcases s.nS a q with q | q
    · exact h3 q
    · rw [h1] at q; cases q
/-- the value stands for the data: settled (b), or to be read only -/
def RB (K : PySem.W.Frag) (b : Bool) (g0 : Gh) (H0 : Hp) (g : Gh) (H : Hp) (d : D) (v : V) : Prop := Rep K g.ι (hb b g0 H0 g H) d v
def RBL (K : PySem.W.Frag) (b : Bool) (g0 : Gh) (H0 : Hp) (g : Gh) (H : Hp) (ds : List D) (vs : List V) : Prop := RepL K g.ι (hb b g0 H0 g H) ds vs
theorem RB.mono {d : D} {v : V} (h : RB K b g0 H0 g H d v) (s : Step g H g' H') : RB K b g0 H0 g' H' d v := Rep.mono s.ιm (fun _ _ => hb_mono s) d v h
theorem RBL.mono {d : List D} {v : List V} (h : RBL K b g0 H0 g H d v) (s : Step g H g' H') : RBL K b g0 H0 g' H' d v := RepL.mono s.ιm (fun _ _ => hb_mono s) d v h
theorem RB.weak {d : D} {v : V} (h : RB K true g0 H0 g H d v) (ok : GOk K g H ω) (st : Step g0 H0 g H) : RB K b g0 H0 g H d v := Rep.mono (fun _ _ h => h) (fun _ _ h => G_hb ok st h) d v h
theorem RBL.weak {d : List D} {v : List V} (h : RBL K true g0 H0 g H d v) (ok : GOk K g H ω) (st : Step g0 H0 g H) : RBL K b g0 H0 g H d v := RepL.mono (fun _ _ h => h) (fun _ _ h => G_hb ok st h) d v h
end

/-! ## slots -/
inductive SV where
  | un
  | val (d : D)
  | own (xs : List D)
abbrev Ro := List SV
def SV.is (K : PySem.W.Frag) (H0 : Hp) (g : Gh) (H : Hp) : SV → Option V → Prop
  | .un, _ => True
  | .val d, o => ∃ v, o = some v ∧ Rep K g.ι g.G d v
  | .own xs, o => ∃ p vs, o = some (.ref p) ∧ H p = some (.lst vs) ∧ g.G p = none ∧ ¬ g.S p ∧ H0 p = none ∧ vs.length ≤ sizeLine ∧ RepL K g.ι g.G xs vs
structure Slots (K : PySem.W.Frag) (H0 : Hp) (g : Gh) (H : Hp) (ρ : Ro) (σ : St) : Prop where
  len : σ.length = ρ.length
  at_ : ∀ (i : Nat) (s : SV) (o : Option V), ρ[i]? = some s → σ[i]? = some o → s.is K H0 g H o
  ap : ∀ (i j : Nat) (xs ys : List D) (p : Addr), ρ[i]? = some (.own xs) → ρ[j]? = some (.own ys) → σ[i]? = some (some (.ref p)) → σ[j]? = some (some (.ref p)) → i = j
section
variable {K : PySem.W.Frag} {g0 g g' : Gh} {H0 H H' : Hp} {ω ω' : Wd} {b : Bool} {ρ : Ro} {σ : St}
theorem SV.is.step {s : SV} {o : Option V} (h : s.is K H0 g H o) (st : Step g H g' H') (ok : GOk K g' H' ω') : s.is K H0 g' H' o := by
  cases s with
  | un => trivial
  | val d => obtain ⟨v, e, r⟩ := h; exact ⟨v, e, r.mono st.ιm st.Gm⟩
  | own xs =>
    obtain ⟨p, vs, e, hp, hg, hs, h0, z, r⟩ := h
    have hp' := st.fr p _ hp hs
    refine ⟨p, vs, e, hp', ?_, fun q => ?_, h0, z, r.mono st.ιm st.Gm⟩
    · cases q : g'.G p with
      | none => rfl
      | some o =>
        have e2 := ok.sub p o q
        rw [hp'] at e2; cases e2
        rcases st.nw p vs q with z | z
        · rw [hg] at z; cases z
        · rw [hp] at z; cases z
    · rcases st.nS p q with z | z
      · exact hs z
      · rw [hp] at z; cases z
theorem Slots.step (h : Slots K H0 g H ρ σ) (st : Step g H g' H') (ok : GOk K g' H' ω') : Slots K H0 g' H' ρ σ :=
  ⟨h.len, fun i s o e1 e2 => (h.at_ i s o e1 e2).step st ok, h.ap⟩
theorem Slots.get (h : Slots K H0 g H ρ σ) {i : Nat} {s : SV} (e : ρ[i]? = some s) : ∃ o, σ[i]? = some o ∧ s.is K H0 g H o := by
  have hi : i < ρ.length := (List.getElem?_eq_some_iff.mp e).1
  have e2 : σ[i]? = some (σ[i]'(h.len ▸ hi)) := List.getElem?_eq_getElem _
  exact ⟨_, e2, h.at_ i s _ e e2⟩
/-- a slot gets a value that is no list of one's own -/
theorem Slots.set (h : Slots K H0 g H ρ σ) (i : Nat) {s : SV} {o : Option V} (hs : s.is K H0 g H o) (hn : ∀ xs, s ≠ .own xs) : Slots K H0 g H (ρ.set i s) (σ.set i o) := by
  refine ⟨by simp [h.len], fun j s' o' e1 e2 => ?_, fun j k xs ys p e1 e2 e3 e4 => ?_⟩
  · by_cases hj : i = j
    · subst hj
      rw [List.getElem?_set] at e1 e2
      simp only [if_true] at e1 e2
      split at e1
      · cases e1
        split at e2
        · cases e2; exact hs
        · cases e2
      · cases e1
    · rw [List.getElem?_set_ne hj] at e1 e2
      exact h.at_ j s' o' e1 e2
  · have hj : i ≠ j := fun z => by
      subst z
      rw [List.getElem?_set] at e1
      simp only [if_true] at e1
      split at e1
      · exact hn xs (Option.some.inj e1)
      · cases e1
    have hk : i ≠ k := fun z => by
      subst z
      rw [List.getElem?_set] at e2
      simp only [if_true] at e2
      split at e2
      · exact hn ys (Option.some.inj e2)
      · cases e2
    rw [List.getElem?_set_ne hj] at e1 e3
    rw [List.getElem?_set_ne hk] at e2 e4
    exact h.ap j k xs ys p e1 e2 e3 e4
/-- a slot gets a list of one's own that stands in no other slot -/
theorem Slots.setOwn (h : Slots K H0 g H ρ σ) (i : Nat) {zs : List D} {q : Addr} (hs : (SV.own zs).is K H0 g H (some (.ref q))) (hn : ∀ j xs, j ≠ i → ρ[j]? = some (.own xs) → σ[j]? ≠ some (some (.ref q))) :
    Slots K H0 g H (ρ.set i (.own zs)) (σ.set i (some (.ref q))) := by
  refine ⟨by simp [h.len], fun j s' o' e1 e2 => ?_, fun j k xs ys p e1 e2 e3 e4 => ?_⟩
  · by_cases hj : i = j
    · subst hj
      rw [List.getElem?_set] at e1 e2
      simp only [if_true] at e1 e2
      split at e1
      · cases e1
        split at e2
        · cases e2; exact hs
        · cases e2
      · cases e1
    · rw [List.getElem?_set_ne hj] at e1 e2
      exact h.at_ j s' o' e1 e2
  · by_cases hj : i = j
    · by_cases hk : i = k
      · omega
      · subst hj
        rw [List.getElem?_set_ne hk] at e2 e4
        rw [List.getElem?_set] at e3
        simp only [if_true] at e3
        split at e3
        · cases e3
          exact absurd e4 (hn k ys (Ne.symm hk) e2)
        · cases e3
    · by_cases hk : i = k
      · subst hk
        rw [List.getElem?_set_ne hj] at e1 e3
        rw [List.getElem?_set] at e4
        simp only [if_true] at e4
        split at e4
        · cases e4
          exact absurd e3 (hn j xs (Ne.symm hj) e1)
        · cases e4
      · rw [List.getElem?_set_ne hj] at e1 e3
        rw [List.getElem?_set_ne hk] at e2 e4
        exact h.ap j k xs ys p e1 e2 e3 e4
end

/-! ## a new object -/
def Gh.add (g : Gh) (p : Addr) (o : HO) : Gh := { g with G := upd g.G p o }
section
variable {K : PySem.W.Frag} {g0 g g' : Gh} {H0 H H' : Hp} {ω ω' : Wd} {b : Bool} {ρ : Ro} {σ : St}
theorem WO.is.mono {o : WO} {a : Addr} {ι ι' : Ix} {G G' : Hp} (h : o.is K ι G H a) (hι : ∀ n x, ι n = some x → ι' n = some x) (hG : ∀ x o, G x = some o → G' x = some o) (hH : H' a = H a) : o.is K ι' G' H' a := by
  cases o with
  | lst xs => obtain ⟨vs, e, r⟩ := h; exact ⟨vs, hH.trans e, r.mono hι hG⟩
  | ins c fs => obtain ⟨dx, ws, e, q, r⟩ := h; exact ⟨dx, ws, hH.trans e, q, r.mono hι hG⟩
  | dct kvs => obtain ⟨ws, e, q, r⟩ := h; exact ⟨ws, hH.trans e, q, r.mono hι hG⟩
  | dck kvs => obtain ⟨ws, e, q, r⟩ := h; exact ⟨ws, hH.trans e, q, r.mono hι hG⟩
theorem upd_keep {p : Addr} {o u : HO} {a : Addr} (hp : H p = none) (h : H a = some u) : upd H p o a = some u := by
  rw [upd_ne (ne_of_none h hp)]; exact h
theorem WO.is.there {o : WO} {a : Addr} {ι : Ix} {G : Hp} (h : o.is K ι G H a) : ∃ u, H a = some u := by
  cases o with
  | lst xs => obtain ⟨vs, e, _⟩ := h; exact ⟨_, e⟩
  | ins c fs => obtain ⟨dx, ws, e, _⟩ := h; exact ⟨_, e⟩
  | dct kvs => obtain ⟨ws, e, _⟩ := h; exact ⟨_, e⟩
  | dck kvs => obtain ⟨ws, e, _⟩ := h; exact ⟨_, e⟩
theorem alloc (ok : GOk K g H ω) {p : Addr} {o : HO} (hp : H p = none) (ho : isSeq o = true) : Step g H (g.add p o) (upd H p o) ∧ GOk K (g.add p o) (upd H p o) ω := by
  have nG : g.G p = none := by
    cases q : g.G p with
    | none => rfl
    | some u => rw [ok.sub p u q] at hp; cases hp
  have nSp : ¬ g.S p := fun q => by obtain ⟨u, e, _⟩ := ok.sl p q; rw [hp] at e; cases e
  refine ⟨⟨fun _ _ h => h, fun a u h => upd_keep nG h, fun _ h => h, fun a u h _ => upd_keep hp h, fun _ h => .inl h, fun a h => ?_, fun a vs h => ?_, rfl, fun _ => rfl⟩, ⟨fun a u h => ?_, fun a u h => ?_, fun a u h => ?_, ok.inj, ok.inS, fun n u e => ?_, fun a h => ?_, ok.lv, ok.tbH fun P ps _ e => upd_keep hp e⟩⟩
  · by_cases hap : a = p
    · subst hap; exact hp
    · rw [upd_ne hap] at h; exact h
  · by_cases hap : a = p
    · subst hap; exact .inr hp
    · exact .inl (by rw [Gh.add] at h; simp only at h; rw [upd_ne hap] at h; exact h)
  · by_cases hap : a = p
    · subst hap
      rw [Gh.add] at h; simp only at h; rw [upd_same] at h ⊢; exact h
    · rw [Gh.add] at h; simp only at h; rw [upd_ne hap] at h ⊢; exact ok.sub a u h
  · by_cases hap : a = p
    · subst hap
      rw [Gh.add] at h; simp only at h; rw [upd_same] at h; cases h; exact ho
    · rw [Gh.add] at h; simp only at h; rw [upd_ne hap] at h; exact ok.seq a u h
  · by_cases hap : a = p
    · subst hap; exact nSp
    · rw [Gh.add] at h; simp only at h; rw [upd_ne hap] at h; exact ok.nS a u h
  · obtain ⟨a, ia, h⟩ := ok.st n u e
    obtain ⟨z, ez⟩ := h.there
    exact ⟨a, ia, h.mono (fun _ _ h => h) (fun x w q => upd_keep nG q) (upd_ne (ne_of_none ez hp))⟩
  · obtain ⟨u, e, t⟩ := ok.sl a h
    exact ⟨u, upd_keep hp e, t⟩
/-- a new list that is not settled -/
theorem allocOwn (ok : GOk K g H ω) {p : Addr} {o : HO} (hp : H p = none) : Step g H g (upd H p o) ∧ GOk K g (upd H p o) ω := by
  refine ⟨⟨fun _ _ h => h, fun _ _ h => h, fun _ h => h, fun a u h _ => upd_keep hp h, fun _ h => .inl h, fun a h => ?_, fun a vs h => .inl h, rfl, fun _ => rfl⟩, ⟨fun a u h => upd_keep hp (ok.sub a u h), ok.seq, ok.nS, ok.inj, ok.inS, fun n u e => ?_, fun a h => ?_, ok.lv, ok.tbH fun P ps _ e => upd_keep hp e⟩⟩
  · by_cases hap : a = p
    · subst hap; exact hp
    · rw [upd_ne hap] at h; exact h
  · obtain ⟨a, ia, h⟩ := ok.st n u e
    obtain ⟨z, ez⟩ := h.there
    exact ⟨a, ia, h.mono (fun _ _ h => h) (fun _ _ h => h) (upd_ne (ne_of_none ez hp))⟩
  · obtain ⟨u, e, t⟩ := ok.sl a h
    exact ⟨u, upd_keep hp e, t⟩
theorem hb_new (ok : GOk K g H ω) (st : Step g0 H0 g H) {p : Addr} {o : HO} (hp : H p = none) (ho : isSeq o = true) : hb b g0 H0 (g.add p o) (upd H p o) p = some o := by
  cases b with
  | true => exact upd_same
  | false =>
    have nSp : ¬ (g.add p o).S p := fun q => by obtain ⟨u, e, _⟩ := ok.sl p q; rw [hp] at e; cases e
    exact Fm_some.mpr ⟨upd_same, ho, nSp, fun _ => .inr (st.al p hp)⟩
end
section
variable {K : PySem.W.Frag} {g0 g g' : Gh} {H0 H H' : Hp} {ω ω' : Wd} {b : Bool} {ρ : Ro} {σ : L2.St}
/-- a list that is not settled is changed -/
theorem mutOk (ok : GOk K g H ω) {p : Addr} {o u : HO} (hp : H p = some u) (hG : g.G p = none) (hS : ¬ g.S p) : GOk K g (upd H p o) ω := by
  have ne : ∀ a v, g.G a = some v → a ≠ p := fun a v e z => by subst z; rw [hG] at e; cases e
  refine ⟨fun a v h => by rw [upd_ne (ne a v h)]; exact ok.sub a v h, ok.seq, ok.nS, ok.inj, ok.inS, fun n v e => ?_, fun a h => ?_, ok.lv, ok.tbH fun P ps hs e => (upd_ne (fun (z : P = p) => hS (by rw [← z]; exact hs))).trans e⟩
  · obtain ⟨a, ia, h⟩ := ok.st n v e
    have hn : n < ω.objs.length := (List.getElem?_eq_some_iff.mp e).1
    have nap : a ≠ p := fun z => by subst z; exact hS (ok.inS n a hn ia)
    exact ⟨a, ia, h.mono (fun _ _ h => h) (fun _ _ h => h) (upd_ne nap)⟩
  · obtain ⟨v, e, t⟩ := ok.sl a h
    have nap : a ≠ p := fun z => by subst z; exact hS h
    exact ⟨v, by rw [upd_ne nap]; exact e, t⟩
theorem mutStep (st : Step g0 H0 g H) {p : Addr} {o : HO} (h0 : H0 p = none) : Step g0 H0 g (upd H p o) := by
  refine ⟨st.ιm, st.Gm, st.Sm, fun a v h hs => ?_, st.nS, fun a h => ?_, st.nw, st.lv, st.ιl⟩
  · rw [upd_ne (ne_of_none h h0)]; exact st.fr a v h hs
  · by_cases hap : a = p
    · subst hap; exact h0
    · rw [upd_ne hap] at h; exact st.al a h
end
end Dn
end

section
namespace Dn
open PySem PySem.Spec L2
variable [Tb]

/-! ## denotations of expressions, and their soundness -/
abbrev DE := Ro → Wd → Option (D × Wd)
abbrev DT := Ro → Wd → Option (Bool × Wd)
abbrev DA := Ro → Wd → Option (List D × Wd)

def Snd (K : PySem.W.Frag) (b : Bool) (t : TE) (f : DE) : Prop :=
  ∀ (g0 : Gh) (H0 : Hp) (g : Gh) (H : Hp) (ρ : Ro) (ω : Wd) (σ : L2.St) (Q : VK) (d : D) (ω' : Wd), GOk K g H ω → Step g0 H0 g H → Slots K H0 g H ρ σ → f ρ ω = some (d, ω') →
    (∀ v g' H', Step g H g' H' → GOk K g' H' ω' → RB K b g0 H0 g' H' d v → Q v H') → t σ H Q
def SndT (K : PySem.W.Frag) (t : TT) (f : DT) : Prop :=
  ∀ (g0 : Gh) (H0 : Hp) (g : Gh) (H : Hp) (ρ : Ro) (ω : Wd) (σ : L2.St) (Q : Bool → Hp → Prop) (d : Bool) (ω' : Wd), GOk K g H ω → Step g0 H0 g H → Slots K H0 g H ρ σ → f ρ ω = some (d, ω') →
    (∀ g' H', Step g H g' H' → GOk K g' H' ω' → Q d H') → t σ H Q
def SndA (K : PySem.W.Frag) (b : Bool) (t : TA) (f : DA) : Prop :=
  ∀ (g0 : Gh) (H0 : Hp) (g : Gh) (H : Hp) (ρ : Ro) (ω : Wd) (σ : L2.St) (Q : List V → Hp → Prop) (ds : List D) (ω' : Wd), GOk K g H ω → Step g0 H0 g H → Slots K H0 g H ρ σ → f ρ ω = some (ds, ω') →
    (∀ vs g' H', Step g H g' H' → GOk K g' H' ω' → RBL K b g0 H0 g' H' ds vs → Q vs H') → t σ H Q
/-- a list of one's own comes out -/
def SndN (K : PySem.W.Frag) (t : TE) (f : DA) : Prop :=
  ∀ (g0 : Gh) (H0 : Hp) (g : Gh) (H : Hp) (ρ : Ro) (ω : Wd) (σ : L2.St) (Q : VK) (ds : List D) (ω' : Wd), GOk K g H ω → Step g0 H0 g H → Slots K H0 g H ρ σ → f ρ ω = some (ds, ω') →
    (∀ p vs g' H', Step g H g' H' → GOk K g' H' ω' → H p = none → H' p = some (.lst vs) → g'.G p = none → ¬ g'.S p → vs.length ≤ sizeLine → RepL K g'.ι g'.G ds vs → Q (.ref p) H') → t σ H Q
structure EX (X : Cx) (b : Bool) (e : Expr) (t : TE) (f : DE) : Prop where
  pe : PE X e t
  sn : Snd X.K b t f
structure ET (X : Cx) (e : Expr) (t : TT) (f : DT) : Prop where
  pe : PT X e t
  sn : SndT X.K t f
structure EW (X : Cx) (e : Expr) (t : TT) (f : DT) : Prop where
  pe : PW X e t
  sn : SndT X.K t f
structure EA (X : Cx) (b : Bool) (es : List Expr) (t : TA) (f : DA) : Prop where
  pe : PA X es t
  sn : SndA X.K b t f
structure EN (X : Cx) (e : Expr) (t : TE) (f : DA) : Prop where
  pe : PE X e t
  sn : SndN X.K t f
theorem EW.t {X : Cx} {e : Expr} {t : TT} {f : DT} (h : EW X e t f) : ET X e t f := ⟨h.pe.pt, h.sn⟩

section
variable {X : Cx} {K : PySem.W.Frag} {b b' : Bool} {t ta tb tc : TE} {f fa fb fc : DE} {e ea eb ec : Expr} {pos : Pos}
theorem EX.weak (h : EX X true e t f) : EX X false e t f := ⟨h.pe, fun g0 H0 g H ρ ω σ Q d ω' ok st sl e k => h.sn g0 H0 g H ρ ω σ Q d ω' ok st sl e fun v g' H' s ok' r => k v g' H' s ok' (r.weak ok' (st.trans s))⟩
theorem EA.weak {es : List Expr} {t : TA} {f : DA} (h : EA X true es t f) : EA X false es t f := ⟨h.pe, fun g0 H0 g H ρ ω σ Q d ω' ok st sl e k => h.sn g0 H0 g H ρ ω σ Q d ω' ok st sl e fun v g' H' s ok' r => k v g' H' s ok' (r.weak ok' (st.trans s))⟩

/-! ### names, constants -/
def eVar (i : Nat) : DE := fun ρ ω => match ρ[i]? with
  | some (.val d) => some (d, ω)
  | _ => none
def eVarB (i : Nat) : DE := fun ρ ω => match ρ[i]? with
  | some (.own xs) => some (.list xs, ω)
  | _ => none
def eC (d : D) : DE := fun _ ω => some (d, ω)
theorem sn_var (i : Nat) : Snd K true (tVar i) (eVar i) := by
  intro g0 H0 g H ρ ω σ Q d ω' ok st sl e k
  unfold eVar at e
  split at e
  · rename_i d' h
    cases e
    obtain ⟨o, h1, v, rfl, r⟩ := sl.get h
    exact ⟨v, h1, k v g H (.refl _ _) ok r⟩
  · cases e
theorem ex_var {i : Nat} {x : Str} {pos : Pos} (hN : X.N[i]? = some x := by rfl) (hv : Vis X.env.scope x := by first | exact Or.inl rfl | exact Or.inr (Or.inl rfl) | exact Or.inr (Or.inr rfl)) (hd : (x == ("__debug__" : Str)) = false := by decide)
    (hcd : (x == ("__classdict__" : Str)) = false := by decide) : EX X true (.Name x pos) (tVar i) (eVar i) := ⟨pe_var hN hv hd hcd, sn_var i⟩
theorem sn_varB (i : Nat) : Snd K false (tVar i) (eVarB i) := by
  intro g0 H0 g H ρ ω σ Q d ω' ok st sl e k
  unfold eVarB at e
  split at e
  · rename_i xs h
    cases e
    obtain ⟨o, h1, p, vs, rfl, hp, hG, hS, h0, z, r⟩ := sl.get h
    refine ⟨_, h1, k _ g H (.refl _ _) ok ?_⟩
    refine (show Rep K g.ι (Fm g0 H0 g H) (.list xs) (.ref p) from ?_)
    rw [Rep]
    exact ⟨p, vs, rfl, Fm_some.mpr ⟨hp, rfl, hS, fun _ => .inr h0⟩, z, r.mono (fun _ _ h => h) fun _ _ h => G_Fm ok st h⟩
  · cases e
theorem ex_varB {i : Nat} {x : Str} {pos : Pos} (hN : X.N[i]? = some x := by rfl) (hv : Vis X.env.scope x := by first | exact Or.inl rfl | exact Or.inr (Or.inl rfl) | exact Or.inr (Or.inr rfl)) (hd : (x == ("__debug__" : Str)) = false := by decide)
    (hcd : (x == ("__classdict__" : Str)) = false := by decide) : EX X false (.Name x pos) (tVar i) (eVarB i) := ⟨pe_var hN hv hd hcd, sn_varB i⟩
theorem sn_c {d : D} {v : V} (h : ∀ ι G, Rep K ι G d v) : Snd K b (tC v) (eC d) := by
  intro g0 H0 g H ρ ω σ Q d' ω' ok st sl e k
  cases e
  exact k v g H (.refl _ _) ok (h _ _)
theorem ex_int {i : Int} {j} : EX X true (.Constant (.int i) j pos) (tC (.int i)) (eC (.int i)) := ⟨pe_int, sn_c fun _ _ => by rw [Rep]⟩
theorem ex_bl {i : Bool} {j} : EX X true (.Constant (.bool i) j pos) (tC (.bl i)) (eC (.bool i)) := ⟨pe_bl, sn_c fun _ _ => by rw [Rep]⟩
theorem ex_non {j} : EX X true (.Constant .none j pos) (tC .non) (eC .none) := ⟨pe_non, sn_c fun _ _ => by rw [Rep]⟩
theorem ex_str {i : Str} {j} : EX X true (.Constant (.str i) j pos) (tC (.str i)) (eC (.str i)) := ⟨pe_str, sn_c fun _ _ => by rw [Rep]⟩
/-- a module's constant that is a scalar -/
theorem ex_glob {x : Str} {v : V} {u : Value} {d : D} (hm : X.mg x = some u) (r : RelV v u) (h : ∀ ι G, Rep X.K ι G d v) (hg : Gl X x := by rfl) (hd : (x == ("__debug__" : Str)) = false := by decide) : EX X true (.Name x pos) (tC v) (eC d) :=
  ⟨pe_glob hg hm r hd, sn_c h⟩

/-! ### two operands -/
def OpS (K : PySem.W.Frag) (b b' : Bool) (r : R2) (op : D → D → Option D) : Prop :=
  ∀ (g0 : Gh) (H0 : Hp) (g : Gh) (H : Hp) (ω : Wd) (x y : D) (v w : V) (d : D) (Q : VK), GOk K g H ω → Step g0 H0 g H → RB K b g0 H0 g H x v → RB K b g0 H0 g H y w → op x y = some d →
    (∀ u g' H', Step g H g' H' → GOk K g' H' ω → RB K b' g0 H0 g' H' d u → Q u H') → r v w H Q
def eBin (op : D → D → Option D) (f g : DE) : DE := fun ρ ω => match f ρ ω with
  | none => none
  | some (x, ω1) => match g ρ ω1 with
    | none => none
    | some (y, ω2) => match op x y with
      | none => none
      | some z => some (z, ω2)
theorem sn_bin {r : R2} {op : D → D → Option D} (hs : OpS K b b' r op) (ha : Snd K b ta fa) (hb : Snd K b tb fb) : Snd K b' (tOp r ta tb) (eBin op fa fb) := by
  intro g0 H0 g H ρ ω σ Q d ω' ok st sl e k
  unfold eBin at e
  split at e
  · cases e
  rename_i x ω1 e1
  split at e
  · cases e
  rename_i y ω2 e2
  split at e
  · cases e
  rename_i z e3
  cases e
  refine ha g0 H0 g H ρ ω σ _ x ω1 ok st sl e1 fun v g1 H1 s1 ok1 r1 => ?_
  refine hb g0 H0 g1 H1 ρ ω1 σ _ y ω' ok1 (st.trans s1) (sl.step s1 ok1) e2 fun w g2 H2 s2 ok2 r2 => ?_
  exact hs g0 H0 g2 H2 ω' x y v w d Q ok2 ((st.trans s1).trans s2) (r1.mono s2) r2 e3 fun u g' H' s3 ok3 r3 => k u g' H' ((s1.trans s2).trans s3) ok3 r3
theorem ex_bin {o : Operator} {r : R2} {op : D → D → Option D} (ho : OpR X (binaryOp o) r) (hs : OpS X.K b b' r op) (ha : EX X b ea ta fa) (hb : EX X b eb tb fb) : EX X b' (.BinOp ea o eb pos) (tOp r ta tb) (eBin op fa fb) :=
  ⟨pe_op ho ha.pe hb.pe, sn_bin hs ha.sn hb.sn⟩
theorem ex_cmp {o : CmpOp} {r : R2} {op : D → D → Option D} (ho : OpR X (compareOp o) r) (hs : OpS X.K b b' r op) (ha : EX X b ea ta fa) (hb : EX X b eb tb fb) (hm : behindInMarks o eb = false := by first | exact nobehind _ (by decide) (by decide) | rfl) : EX X b' (.Compare ea [o] [eb] pos) (tOp r ta tb) (eBin op fa fb) :=
  ⟨pe_cmpR ho ha.pe hb.pe hm, sn_bin hs ha.sn hb.sn⟩
/-- a value that is a bool, as a test -/
def tOfE (f : DE) : DT := fun ρ ω => match f ρ ω with
  | some (.bool c, ω1) => some (c, ω1)
  | _ => none
theorem sn_test {tt : TT} (h : ∀ σ H Q, t σ H (fun x H1 => ∃ c, x = .bl c ∧ Q c H1) → tt σ H Q) (hs : Snd K b t f) : SndT K tt (tOfE f) := by
  intro g0 H0 g H ρ ω σ Q d ω' ok st sl e k
  unfold tOfE at e
  split at e
  · rename_i c ω1 e1
    cases e
    refine h σ H Q (hs g0 H0 g H ρ ω σ _ _ ω' ok st sl e1 fun v g1 H1 s1 ok1 r1 => ?_)
    have r2 : Rep K g1.ι (hb b g0 H0 g1 H1) (.bool d) v := r1
    rw [Rep] at r2
    exact ⟨d, r2, k g1 H1 s1 ok1⟩
  · cases e
theorem et_val (h : EX X b e t f) (he : ∀ whole, isTrue e X.env whole = (do let v ← whole; standAt e.pos; holding [v] (truthy v)) := by intro _; rfl) : ET X e (tB t) (tOfE f) := ⟨pt_val h.pe he, sn_test (fun _ _ _ h => h) h.sn⟩
theorem et_cmp {o : CmpOp} {r : R2} {op : D → D → Option D} (ho : OpR X (compareOp o) r) (hs : OpS X.K b b' r op) (ha : EX X b ea ta fa) (hb : EX X b eb tb fb) (hm : behindInMarks o eb = false := by first | exact nobehind _ (by decide) (by decide) | rfl) : ET X (.Compare ea [o] [eb] pos) (tTest (tOp r ta tb)) (tOfE (eBin op fa fb)) :=
  ⟨pt_cmpR ho ha.pe hb.pe hm, sn_test (fun _ _ _ h => h) (sn_bin hs ha.sn hb.sn)⟩
/-- a < b < c -/
def eChain (op op' : D → D → Option D) (f g h : DE) : DE := fun ρ ω => match f ρ ω with
  | none => none
  | some (x, ω1) => match g ρ ω1 with
    | none => none
    | some (y, ω2) => match op x y with
      | some (.bool true) => (match h ρ ω2 with
        | none => none
        | some (z, ω3) => match op' y z with
          | some (.bool c) => some (.bool c, ω3)
          | _ => none)
      | some (.bool false) => some (.bool false, ω2)
      | _ => none
theorem sn_chain {r r' : R2} {op op' : D → D → Option D} {d d' : Bool} (hs : OpS K b d r op) (hs' : OpS K b d' r' op') (ha : Snd K b ta fa) (hb : Snd K b tb fb) (hc : Snd K b tc fc) : Snd K b' (tChain r r' ta tb tc) (eChain op op' fa fb fc) := by
  intro g0 H0 g H ρ ω σ Q d ω' ok st sl e k
  unfold eChain at e
  split at e
  · cases e
  rename_i x ω1 e1
  split at e
  · cases e
  rename_i y ω2 e2
  refine ha g0 H0 g H ρ ω σ _ x ω1 ok st sl e1 fun v g1 H1 s1 ok1 r1 => ?_
  refine hb g0 H0 g1 H1 ρ ω1 σ _ y ω2 ok1 (st.trans s1) (sl.step s1 ok1) e2 fun w g2 H2 s2 ok2 r2 => ?_
  split at e
  · rename_i e3
    split at e
    · cases e
    rename_i z ω3 e4
    split at e
    · rename_i c e5
      cases e
      refine hs g0 H0 g2 H2 ω2 x y v w _ _ ok2 ((st.trans s1).trans s2) (r1.mono s2) r2 e3 fun u g3 H3 s3 ok3 r3 => ?_
      have r3 : u = .bl true := by have q := r3; unfold RB at q; rw [Rep] at q; exact q
      refine ⟨true, r3, ?_⟩
      refine iteT (hc g0 H0 g3 H3 ρ ω2 σ _ z ω' ok3 (((st.trans s1).trans s2).trans s3) (((sl.step s1 ok1).step s2 ok2).step s3 ok3) e4 fun u4 g4 H4 s4 ok4 r4 => ?_)
      exact hs' g0 H0 g4 H4 ω' y z w u4 _ _ ok4 ((((st.trans s1).trans s2).trans s3).trans s4) ((r2.mono s3).mono s4) r4 e5 fun u5 g5 H5 s5 ok5 r5 => k u5 g5 H5 ((((s1.trans s2).trans s3).trans s4).trans s5) ok5 (by have q := r5; unfold RB at q ⊢; rw [Rep] at q ⊢; exact q)
    · cases e
  · rename_i e3
    cases e
    refine hs g0 H0 g2 H2 ω' x y v w _ _ ok2 ((st.trans s1).trans s2) (r1.mono s2) r2 e3 fun u g3 H3 s3 ok3 r3 => ?_
    have r3 : u = .bl false := by have q := r3; unfold RB at q; rw [Rep] at q; exact q
    refine ⟨false, r3, ?_⟩
    refine iteF ?_
    exact k (.bl false) g3 H3 ((s1.trans s2).trans s3) ok3 (by unfold RB; rw [Rep])
  · cases e
theorem ex_chain {o o' : CmpOp} {r r' : R2} {op op' : D → D → Option D} {d d' : Bool} (ho : OpR X (compareOp o) r) (ho' : OpR X (compareOp o') r') (hs : OpS X.K b d r op) (hs' : OpS X.K b d' r' op') (ha : EX X b ea ta fa) (hb : EX X b eb tb fb) (hc : EX X b ec tc fc)
    (hm : lastMarks [o, o'] [eb, ec] = false := by with_unfolding_all rfl) : EX X true (.Compare ea [o, o'] [eb, ec] pos) (tChain r r' ta tb tc) (eChain op op' fa fb fc) := ⟨pe_chain ho ho' ha.pe hb.pe hc.pe hm, sn_chain hs hs' ha.sn hb.sn hc.sn⟩
theorem et_chain {o o' : CmpOp} {r r' : R2} {op op' : D → D → Option D} {d d' : Bool} (ho : OpR X (compareOp o) r) (ho' : OpR X (compareOp o') r') (hs : OpS X.K b d r op) (hs' : OpS X.K b d' r' op') (ha : EX X b ea ta fa) (hb : EX X b eb tb fb) (hc : EX X b ec tc fc)
    (hm : lastMarks [o, o'] [eb, ec] = false := by with_unfolding_all rfl) : ET X (.Compare ea [o, o'] [eb, ec] pos) (tTest (tChain r r' ta tb tc)) (tOfE (eChain op op' fa fb fc)) := ⟨pt_chain ho ho' ha.pe hb.pe hc.pe hm, sn_test (b := true) (fun _ _ _ h => h) (sn_chain hs hs' ha.sn hb.sn hc.sn)⟩

/-! ### one operand -/
def UnS (K : PySem.W.Frag) (b b' : Bool) (r : V → Hp → VK → Prop) (op : D → Option D) : Prop :=
  ∀ (g0 : Gh) (H0 : Hp) (g : Gh) (H : Hp) (ω : Wd) (x : D) (v : V) (d : D) (Q : VK), GOk K g H ω → Step g0 H0 g H → RB K b g0 H0 g H x v → op x = some d →
    (∀ u g' H', Step g H g' H' → GOk K g' H' ω → RB K b' g0 H0 g' H' d u → Q u H') → r v H Q
def eUn (op : D → Option D) (f : DE) : DE := fun ρ ω => match f ρ ω with
  | none => none
  | some (x, ω1) => match op x with
    | none => none
    | some z => some (z, ω1)
theorem sn_un {r : V → Hp → VK → Prop} {op : D → Option D} (hs : UnS K b b' r op) (ha : Snd K b ta fa) : Snd K b' (tUn r ta) (eUn op fa) := by
  intro g0 H0 g H ρ ω σ Q d ω' ok st sl e k
  unfold eUn at e
  split at e
  · cases e
  rename_i x ω1 e1
  split at e
  · cases e
  rename_i z e3
  cases e
  refine ha g0 H0 g H ρ ω σ _ x ω' ok st sl e1 fun v g1 H1 s1 ok1 r1 => ?_
  exact hs g0 H0 g1 H1 ω' x v d Q ok1 (st.trans s1) r1 e3 fun u g' H' s3 ok3 r3 => k u g' H' (s1.trans s3) ok3 r3
def opNeg : D → Option D
  | .int i => some (.int (-i))
  | _ => none
theorem ex_neg (ha : EX X b ea ta fa) : EX X true (.UnaryOp .USub ea pos) (tUn (rU fun i => .int (-i)) ta) (eUn opNeg fa) := by
  refine ⟨pe_un un_neg ha.pe, sn_un (fun g0 H0 g H ω x v d Q ok st r e k => ?_) ha.sn⟩
  cases x <;> simp only [opNeg] at e <;> cases e
  unfold RB at r; rw [Rep] at r
  exact ⟨_, r, k _ g H (.refl _ _) ok (by unfold RB; rw [Rep])⟩

/-! ### and, or, not, if -/
def tAndD (f g : DT) : DT := fun ρ ω => match f ρ ω with
  | none => none
  | some (c, ω1) => if c = true then g ρ ω1 else some (false, ω1)
def tOrD (f g : DT) : DT := fun ρ ω => match f ρ ω with
  | none => none
  | some (c, ω1) => if c = true then some (true, ω1) else g ρ ω1
def tNotD (f : DT) : DT := fun ρ ω => match f ρ ω with
  | none => none
  | some (c, ω1) => some (!c, ω1)
section
variable {tA tB' : TT} {gA gB : DT} {rest : List Expr}
theorem ew_and1 (ha : ET X ea tA gA) : EW X (.BoolOp .And [ea] pos) tA gA := ⟨pw_and1 ha.pe, ha.sn⟩
theorem ew_or1 (ha : ET X ea tA gA) : EW X (.BoolOp .Or [ea] pos) tA gA := ⟨pw_or1 ha.pe, ha.sn⟩
theorem ew_and (ha : ET X ea tA gA) (hb : EW X (.BoolOp .And (eb :: rest) pos) tB' gB) : EW X (.BoolOp .And (ea :: eb :: rest) pos) (tAnd tA tB') (tAndD gA gB) := by
  refine ⟨pw_and ha.pe hb.pe, ?_⟩
  intro g0 H0 g H ρ ω σ Q d ω' ok st sl e k
  unfold tAndD at e
  split at e
  · cases e
  rename_i c ω1 e1
  refine ha.sn g0 H0 g H ρ ω σ _ c ω1 ok st sl e1 fun g1 H1 s1 ok1 => ?_
  cases c with
  | true => exact iteT (hb.sn g0 H0 g1 H1 ρ ω1 σ _ d ω' ok1 (st.trans s1) (sl.step s1 ok1) e fun g2 H2 s2 ok2 => k g2 H2 (s1.trans s2) ok2)
  | false =>
    rw [if_neg Bool.false_ne_true] at e
    cases e
    exact iteF (k g1 H1 s1 ok1)
theorem ew_or (ha : ET X ea tA gA) (hb : EW X (.BoolOp .Or (eb :: rest) pos) tB' gB) : EW X (.BoolOp .Or (ea :: eb :: rest) pos) (tOr tA tB') (tOrD gA gB) := by
  refine ⟨pw_or ha.pe hb.pe, ?_⟩
  intro g0 H0 g H ρ ω σ Q d ω' ok st sl e k
  unfold tOrD at e
  split at e
  · cases e
  rename_i c ω1 e1
  refine ha.sn g0 H0 g H ρ ω σ _ c ω1 ok st sl e1 fun g1 H1 s1 ok1 => ?_
  cases c with
  | false => exact iteF (hb.sn g0 H0 g1 H1 ρ ω1 σ _ d ω' ok1 (st.trans s1) (sl.step s1 ok1) e fun g2 H2 s2 ok2 => k g2 H2 (s1.trans s2) ok2)
  | true =>
    rw [if_pos rfl] at e
    cases e
    exact iteT (k g1 H1 s1 ok1)
theorem et_not (ha : ET X ea tA gA) : ET X (.UnaryOp .Not ea pos) (tNot tA) (tNotD gA) := by
  refine ⟨pt_not ha.pe, ?_⟩
  intro g0 H0 g H ρ ω σ Q d ω' ok st sl e k
  unfold tNotD at e
  split at e
  · cases e
  rename_i c ω1 e1
  cases e
  exact ha.sn g0 H0 g H ρ ω σ _ c ω' ok st sl e1 fun g1 H1 s1 ok1 => k g1 H1 s1 ok1
def eIf (c : DT) (f g : DE) : DE := fun ρ ω => match c ρ ω with
  | none => none
  | some (c, ω1) => if c = true then f ρ ω1 else g ρ ω1
theorem ex_if (hc : ET X ec tA gA) (ha : EX X b ea ta fa) (hb : EX X b eb tb fb) : EX X b (.IfExp ec ea eb pos) (tIf tA ta tb) (eIf gA fa fb) := by
  refine ⟨pe_ifExp hc.pe ha.pe hb.pe, ?_⟩
  intro g0 H0 g H ρ ω σ Q d ω' ok st sl e k
  unfold eIf at e
  split at e
  · cases e
  rename_i c ω1 e1
  refine hc.sn g0 H0 g H ρ ω σ _ c ω1 ok st sl e1 fun g1 H1 s1 ok1 => ?_
  cases c with
  | true => exact iteT (ha.sn g0 H0 g1 H1 ρ ω1 σ _ d ω' ok1 (st.trans s1) (sl.step s1 ok1) e fun v g2 H2 s2 ok2 r => k v g2 H2 (s1.trans s2) ok2 r)
  | false => exact iteF (hb.sn g0 H0 g1 H1 ρ ω1 σ _ d ω' ok1 (st.trans s1) (sl.step s1 ok1) e fun v g2 H2 s2 ok2 r => k v g2 H2 (s1.trans s2) ok2 r)
end
def eAnd (f g : DE) : DE := fun ρ ω => match f ρ ω with
  | some (.bool c, ω1) => if c = true then g ρ ω1 else some (.bool false, ω1)
  | _ => none
def eOr (f g : DE) : DE := fun ρ ω => match f ρ ω with
  | some (.bool c, ω1) => if c = true then some (.bool true, ω1) else g ρ ω1
  | _ => none
def eNot (f : DE) : DE := fun ρ ω => match f ρ ω with
  | some (.bool c, ω1) => some (.bool (!c), ω1)
  | _ => none
theorem RB.blV {g0 g : Gh} {H0 H : Hp} {c : Bool} {v : V} (h : RB K b g0 H0 g H (.bool c) v) : v = .bl c := by unfold RB at h; rw [Rep] at h; exact h
theorem RB.bl {g0 g : Gh} {H0 H : Hp} {c : Bool} : RB K b g0 H0 g H (.bool c) (.bl c) := by unfold RB; rw [Rep]
theorem RB.intV {g0 g : Gh} {H0 H : Hp} {c : Int} {v : V} (h : RB K b g0 H0 g H (.int c) v) : v = .int c := by unfold RB at h; rw [Rep] at h; exact h
theorem RB.int {g0 g : Gh} {H0 H : Hp} {c : Int} : RB K b g0 H0 g H (.int c) (.int c) := by unfold RB; rw [Rep]
theorem RB.strV {g0 g : Gh} {H0 H : Hp} {c : Str} {v : V} (h : RB K b g0 H0 g H (.str c) v) : v = .str c := by unfold RB at h; rw [Rep] at h; exact h
theorem RB.str {g0 g : Gh} {H0 H : Hp} {c : Str} : RB K b g0 H0 g H (.str c) (.str c) := by unfold RB; rw [Rep]
theorem RB.nonV {g0 g : Gh} {H0 H : Hp} {v : V} (h : RB K b g0 H0 g H .none v) : v = .non := by unfold RB at h; rw [Rep] at h; exact h
theorem RB.non {g0 g : Gh} {H0 H : Hp} : RB K b g0 H0 g H .none .non := by unfold RB; rw [Rep]
theorem ex_one {op} (h : EX X b ea ta fa) : EX X b (.BoolOp op [ea] pos) ta fa := ⟨pe_one h.pe, h.sn⟩
section
variable {rest : List Expr} {d : Bool}
theorem ex_and (ha : EX X d ea ta fa) (hb : EX X b (.BoolOp .And (eb :: rest) pos) tb fb) : EX X b (.BoolOp .And (ea :: eb :: rest) pos) (tAndV ta tb) (eAnd fa fb) := by
  refine ⟨pe_and ha.pe hb.pe, ?_⟩
  intro g0 H0 g H ρ ω σ Q d ω' ok st sl e k
  unfold eAnd at e
  split at e
  · rename_i c ω1 e1
    refine ha.sn g0 H0 g H ρ ω σ _ _ ω1 ok st sl e1 fun v g1 H1 s1 ok1 r1 => ⟨c, r1.blV, ?_⟩
    cases c with
    | true => exact iteT (hb.sn g0 H0 g1 H1 ρ ω1 σ _ d ω' ok1 (st.trans s1) (sl.step s1 ok1) e fun v g2 H2 s2 ok2 r => k v g2 H2 (s1.trans s2) ok2 r)
    | false =>
      rw [if_neg Bool.false_ne_true] at e
      cases e
      exact iteF (k _ g1 H1 s1 ok1 .bl)
  · cases e
theorem ex_or (ha : EX X d ea ta fa) (hb : EX X b (.BoolOp .Or (eb :: rest) pos) tb fb) : EX X b (.BoolOp .Or (ea :: eb :: rest) pos) (tOrV ta tb) (eOr fa fb) := by
  refine ⟨pe_or ha.pe hb.pe, ?_⟩
  intro g0 H0 g H ρ ω σ Q d ω' ok st sl e k
  unfold eOr at e
  split at e
  · rename_i c ω1 e1
    refine ha.sn g0 H0 g H ρ ω σ _ _ ω1 ok st sl e1 fun v g1 H1 s1 ok1 r1 => ⟨c, r1.blV, ?_⟩
    cases c with
    | false => exact iteF (hb.sn g0 H0 g1 H1 ρ ω1 σ _ d ω' ok1 (st.trans s1) (sl.step s1 ok1) e fun v g2 H2 s2 ok2 r => k v g2 H2 (s1.trans s2) ok2 r)
    | true =>
      rw [if_pos rfl] at e
      cases e
      exact iteT (k _ g1 H1 s1 ok1 .bl)
  · cases e
theorem ex_not (ha : EX X d ea ta fa) : EX X true (.UnaryOp .Not ea pos) (tNotV ta) (eNot fa) := by
  refine ⟨pe_not ha.pe, ?_⟩
  intro g0 H0 g H ρ ω σ Q d ω' ok st sl e k
  unfold eNot at e
  split at e
  · rename_i c ω1 e1
    cases e
    exact ha.sn g0 H0 g H ρ ω σ _ _ ω' ok st sl e1 fun v g1 H1 s1 ok1 r1 => ⟨c, r1.blV, k _ g1 H1 s1 ok1 .bl⟩
  · cases e
end

/-! ### arguments, displays -/
def aNil : DA := fun _ ω => some ([], ω)
def aCons (f : DE) (g : DA) : DA := fun ρ ω => match f ρ ω with
  | none => none
  | some (x, ω1) => match g ρ ω1 with
    | none => none
    | some (xs, ω2) => some (x :: xs, ω2)
theorem RBL.nil {g0 g : Gh} {H0 H : Hp} : RBL K b g0 H0 g H [] [] := RepL.nil
theorem RBL.cons {g0 g : Gh} {H0 H : Hp} {d : D} {ds : List D} {v : V} {vs : List V} (h : RB K b g0 H0 g H d v) (t : RBL K b g0 H0 g H ds vs) : RBL K b g0 H0 g H (d :: ds) (v :: vs) := RepL.cons h t
theorem ea_nil : EA X b [] tNil aNil := ⟨pa_nil, fun g0 H0 g H ρ ω σ Q d ω' ok st sl e k => by cases e; exact k [] g H (.refl _ _) ok .nil⟩
theorem ea_cons {es : List Expr} {tr : TA} {g : DA} (ha : EX X b e ta fa) (hr : EA X b es tr g) (hs : starEach (e :: es) X.env = (false, eval e X.env) :: starEach es X.env := by rfl) : EA X b (e :: es) (tCons ta tr) (aCons fa g) := by
  refine ⟨pa_cons ha.pe hr.pe hs, ?_⟩
  intro g0 H0 g H ρ ω σ Q ds ω' ok st sl e k
  unfold aCons at e
  split at e
  · cases e
  rename_i x ω1 e1
  split at e
  · cases e
  rename_i xs ω2 e2
  cases e
  refine ha.sn g0 H0 g H ρ ω σ _ x ω1 ok st sl e1 fun v g1 H1 s1 ok1 r1 => ?_
  refine hr.sn g0 H0 g1 H1 ρ ω1 σ _ xs ω' ok1 (st.trans s1) (sl.step s1 ok1) e2 fun vs g2 H2 s2 ok2 r2 => ?_
  exact k _ g2 H2 (s1.trans s2) ok2 (.cons (r1.mono s2) r2)
/-- the number of what an argument list gives -/
def LenA (n : Nat) (f : DA) : Prop := ∀ ρ ω ds ω', f ρ ω = some (ds, ω') → ds.length = n
theorem len_nil : LenA 0 aNil := fun ρ ω ds ω' e => by cases e; rfl
theorem len_cons {n : Nat} {g : DA} (h : LenA n g) : LenA (n + 1) (aCons f g) := fun ρ ω ds ω' e => by
  unfold aCons at e
  split at e
  · cases e
  split at e
  · cases e
  rename_i xs ω2 e2
  cases e
  rw [List.length_cons, h _ _ _ _ e2]
def eTup (a : DA) : DE := fun ρ ω => match a ρ ω with
  | none => none
  | some (ds, ω1) => some (.tuple ds, ω1)
def eLst (a : DA) : DE := fun ρ ω => match a ρ ω with
  | none => none
  | some (ds, ω1) => some (.list ds, ω1)
theorem RB.newTup {g0 g : Gh} {H0 H : Hp} {ω : Wd} {p : Addr} {ds : List D} {vs : List V} (ok : GOk K g H ω) (st : Step g0 H0 g H) (hp : H p = none) (hz : vs.length ≤ sizeLine) (r : RBL K b g0 H0 g H ds vs) : RB K b g0 H0 (g.add p (.tup vs)) (upd H p (.tup vs)) (.tuple ds) (.ref p) := by
  obtain ⟨s, _⟩ := alloc ok hp (o := .tup vs) rfl
  unfold RB; rw [Rep]
  exact ⟨p, vs, rfl, hb_new ok st hp rfl, hz, r.mono s⟩
theorem RB.newLst {g0 g : Gh} {H0 H : Hp} {ω : Wd} {p : Addr} {ds : List D} {vs : List V} (ok : GOk K g H ω) (st : Step g0 H0 g H) (hp : H p = none) (hz : vs.length ≤ sizeLine) (r : RBL K b g0 H0 g H ds vs) : RB K b g0 H0 (g.add p (.lst vs)) (upd H p (.lst vs)) (.list ds) (.ref p) := by
  obtain ⟨s, _⟩ := alloc ok hp (o := .lst vs) rfl
  unfold RB; rw [Rep]
  exact ⟨p, vs, rfl, hb_new ok st hp rfl, hz, r.mono s⟩
theorem ex_tup {es : List Expr} {tr : TA} {g : DA} {x1} {n : Nat} (h : EA X b es tr g) (hl : LenA n g) (hn : n ≤ sizeLine := by decide) : EX X b (.Tuple es x1 pos) (tTup tr) (eTup g) := by
  refine ⟨pe_tup h.pe, ?_⟩
  intro g0 H0 g H ρ ω σ Q d ω' ok st sl e k
  unfold eTup at e
  split at e
  · cases e
  rename_i ds ω1 e1
  cases e
  refine h.sn g0 H0 g H ρ ω σ _ ds ω' ok st sl e1 fun vs g1 H1 s1 ok1 r1 => ?_
  have hz : vs.length ≤ sizeLine := by rw [RepL.length r1, hl _ _ _ _ e1]; exact hn
  refine ⟨hz, fun p hp => ?_⟩
  obtain ⟨s2, ok2⟩ := alloc ok1 hp (o := .tup vs) rfl
  exact k _ _ _ (s1.trans s2) ok2 (.newTup ok1 (st.trans s1) hp hz r1)
theorem ex_lst {es : List Expr} {tr : TA} {g : DA} {n : Nat} (h : EA X b es tr g) (hl : LenA n g) (hn : n ≤ sizeLine := by decide) : EX X b (.List es pos) (tLst tr) (eLst g) := by
  refine ⟨pe_lst h.pe, ?_⟩
  intro g0 H0 g H ρ ω σ Q d ω' ok st sl e k
  unfold eLst at e
  split at e
  · cases e
  rename_i ds ω1 e1
  cases e
  refine h.sn g0 H0 g H ρ ω σ _ ds ω' ok st sl e1 fun vs g1 H1 s1 ok1 r1 => ?_
  have hz : vs.length ≤ sizeLine := by rw [RepL.length r1, hl _ _ _ _ e1]; exact hn
  refine ⟨hz, fun p hp => ?_⟩
  obtain ⟨s2, ok2⟩ := alloc ok1 hp (o := .lst vs) rfl
  exact k _ _ _ (s1.trans s2) ok2 (.newLst ok1 (st.trans s1) hp hz r1)
/-- a displayed list as one's own -/
theorem en_lst {es : List Expr} {tr : TA} {g : DA} {n : Nat} (h : EA X true es tr g) (hl : LenA n g) (hn : n ≤ sizeLine := by decide) : EN X (.List es pos) (tLst tr) g := by
  refine ⟨pe_lst h.pe, ?_⟩
  intro g0 H0 g H ρ ω σ Q ds ω' ok st sl e k
  refine h.sn g0 H0 g H ρ ω σ _ ds ω' ok st sl e fun vs g1 H1 s1 ok1 r1 => ?_
  have hz : vs.length ≤ sizeLine := by rw [RepL.length r1, hl _ _ _ _ e]; exact hn
  refine ⟨hz, fun p hp => ?_⟩
  obtain ⟨s2, ok2⟩ := allocOwn ok1 hp (o := .lst vs)
  have nG : g1.G p = none := by
    cases q : g1.G p with
    | none => rfl
    | some u => rw [ok1.sub p u q] at hp; cases hp
  have nS : ¬ g1.S p := fun q => by obtain ⟨u, e, _⟩ := ok1.sl p q; rw [hp] at e; cases e
  exact k p vs g1 _ (s1.trans s2) ok2 (s1.al p hp) upd_same nG nS hz r1

/-! ### what is only read, but holds no list, is settled too -/
mutual
def noL : D → Bool
  | .list _ => false
  | .tuple ds => noLs ds
  | _ => true
def noLs : List D → Bool
  | [] => true
  | d :: ds => noL d && noLs ds
end
def eDown (f : DE) : DE := fun ρ ω => match f ρ ω with
  | none => none
  | some (d, ω1) => if noL d = true then some (d, ω1) else none
noncomputable def Gh.tups (g0 : Gh) (H0 : Hp) (g : Gh) (H : Hp) : Gh := { g with G := fun a => match Fm g0 H0 g H a with
  | some (.tup vs) => some (.tup vs)
  | _ => g.G a }
theorem tups_G {g0 g : Gh} {H0 H : Hp} {ω : Wd} (ok : GOk K g H ω) (st : Step g0 H0 g H) {a : Addr} {o : HO} (h : g.G a = some o) : (Gh.tups g0 H0 g H).G a = some o := by
  have q := G_Fm ok st h
  unfold Gh.tups
  simp only [q]
  split
  · rename_i e; exact e.symm
  · exact h
theorem tups_tup {g0 g : Gh} {H0 H : Hp} {a : Addr} {vs : List V} (h : Fm g0 H0 g H a = some (.tup vs)) : (Gh.tups g0 H0 g H).G a = some (.tup vs) := by
  unfold Gh.tups
  simp only [h]
theorem tups_of {g0 g : Gh} {H0 H : Hp} {a : Addr} {o : HO} (h : (Gh.tups g0 H0 g H).G a = some o) : (∃ vs, o = .tup vs ∧ Fm g0 H0 g H a = some (.tup vs)) ∨ g.G a = some o := by
  unfold Gh.tups at h
  simp only at h
  split at h
  · rename_i vs e; cases h; exact .inl ⟨vs, rfl, e⟩
  · exact .inr h
theorem tups_ok {g0 g : Gh} {H0 H : Hp} {ω : Wd} (ok : GOk K g H ω) (st : Step g0 H0 g H) : Step g H (Gh.tups g0 H0 g H) H ∧ GOk K (Gh.tups g0 H0 g H) H ω := by
  refine ⟨⟨fun _ _ h => h, fun _ _ h => tups_G ok st h, fun _ h => h, fun _ _ h _ => h, fun _ h => .inl h, fun _ h => h, fun a vs h => ?_, rfl, fun _ => rfl⟩, ⟨fun a o h => ?_, fun a o h => ?_, fun a o h => ?_, ok.inj, ok.inS, fun n o e => ?_, ok.sl, ok.lv, ok.tb⟩⟩
  · rcases tups_of h with ⟨ws, e, _⟩ | h
    · cases e
    · exact .inl h
  · rcases tups_of h with ⟨ws, rfl, e⟩ | h
    · exact (Fm_some.mp e).1
    · exact ok.sub a o h
  · rcases tups_of h with ⟨ws, rfl, e⟩ | h
    · rfl
    · exact ok.seq a o h
  · rcases tups_of h with ⟨ws, rfl, e⟩ | h
    · exact (Fm_some.mp e).2.2.1
    · exact ok.nS a o h
  · obtain ⟨a, ia, h⟩ := ok.st n o e
    exact ⟨a, ia, h.mono (fun _ _ h => h) (fun _ _ h => tups_G ok st h) rfl⟩
mutual
theorem Rep.down {g0 g : Gh} {H0 H : Hp} : ∀ (d : D) (v : V), noL d = true → Rep K g.ι (Fm g0 H0 g H) d v → Rep K g.ι (Gh.tups g0 H0 g H).G d v
  | .none, _, _, h => h
  | .bool _, _, _, h => h
  | .int _, _, _, h => h
  | .str _, _, _, h => h
  | .list ds, v, n, h => nomatch n
  | .tuple ds, v, n, h => by
    rw [Rep] at h ⊢
    rw [noL] at n
    obtain ⟨a, vs, e, q, z, r⟩ := h
    refine ⟨a, vs, e, ?_, z, RepL.down ds vs n r⟩
    exact tups_tup q
  | .dict kvs, v, _, h => by rw [Rep] at h ⊢; exact h
theorem RepL.down {g0 g : Gh} {H0 H : Hp} : ∀ (ds : List D) (vs : List V), noLs ds = true → RepL K g.ι (Fm g0 H0 g H) ds vs → RepL K g.ι (Gh.tups g0 H0 g H).G ds vs
  | [], _, _, h => by rw [RepL] at h ⊢; exact h
  | d :: ds, vs, n, h => by
    rw [noLs, Bool.and_eq_true] at n
    obtain ⟨v, ws, rfl, r, q⟩ := RepL.inv h
    exact RepL.cons (Rep.down d v n.1 r) (RepL.down ds ws n.2 q)
end
theorem EX.down (h : EX X false e t f) : EX X true e t (eDown f) := by
  refine ⟨h.pe, ?_⟩
  intro g0 H0 g H ρ ω σ Q d ω' ok st sl e k
  unfold eDown at e
  split at e
  · cases e
  rename_i d1 ω1 e1
  split at e
  · rename_i hn
    cases e
    refine h.sn g0 H0 g H ρ ω σ _ _ ω' ok st sl e1 fun v g1 H1 s1 ok1 r1 => ?_
    obtain ⟨s2, ok2⟩ := tups_ok ok1 (st.trans s1)
    exact k v _ H1 (s1.trans s2) ok2 (Rep.down d v hn r1)
  · cases e
end
end Dn
end

section
namespace Dn
open PySem PySem.Spec L2
variable [Tb]

section
variable {X : Cx} {K : PySem.W.Frag} {b b' : Bool}
/-! ## operators -/
/-- two ints to a value that holds no object -/
theorem ops_int {r : R2} {op : D → D → Option D} (h : ∀ x y d, op x y = some d → ∃ i j u, x = .int i ∧ y = .int j ∧ (∀ ι G, Rep K ι G d u) ∧ ∀ (Q : VK) (H : Hp), Q u H → r (.int i) (.int j) H Q) : OpS K b true r op := by
  intro g0 H0 g H ω x y v w d Q ok st r1 r2 e k
  obtain ⟨i, j, u, rfl, rfl, hr, hq⟩ := h x y d e
  rw [r1.intV, r2.intV]
  exact hq Q H (k u g H (.refl _ _) ok (hr _ _))
/-- int + int, text + text, tuple + tuple, list + list -/
def opAdd : D → D → Option D
  | .int i, .int j => some (.int (i + j))
  | .str x, .str y => if x.length + y.length ≤ sizeLine then some (.str (x ++ y)) else none
  | .tuple x, .tuple y => if x.length + y.length ≤ sizeLine then some (.tuple (x ++ y)) else none
  | .list x, .list y => if x.length + y.length ≤ sizeLine then some (.list (x ++ y)) else none
  | _, _ => none
def rAddD (K : PySem.W.Frag) : R2 := fun x y H Q => rI0 (fun i j => .int (i + j)) x y H Q ∨ (∃ i j, x = .str i ∧ y = .str j ∧ i.length + j.length ≤ sizeLine ∧ Q (.str (i ++ j)) H) ∨ rCatA K x y H Q ∨ rCat x y H Q
theorem op_addD : OpR X (binaryOp .Add) (rAddD X.K) := op_add.or (op_add_str.or (op_catA.or op_cat))
theorem RB.tupV {g0 g : Gh} {H0 H : Hp} {ω : Wd} {ds : List D} {v : V} (ok : GOk K g H ω) (h : RB K b g0 H0 g H (.tuple ds) v) : ∃ a vs, v = .ref a ∧ SqT K H a vs ∧ vs.length ≤ sizeLine ∧ RBL K b g0 H0 g H ds vs := by
  unfold RB at h; rw [Rep] at h
  obtain ⟨a, vs, e, q, z, r⟩ := h
  exact ⟨a, vs, e, SqT.mono (fun a o h => (hb_sub ok h).1) (SqT.of q), z, r⟩
theorem RB.lstV {g0 g : Gh} {H0 H : Hp} {ω : Wd} {ds : List D} {v : V} (ok : GOk K g H ω) (h : RB K b g0 H0 g H (.list ds) v) : ∃ a vs, v = .ref a ∧ H a = some (.lst vs) ∧ vs.length ≤ sizeLine ∧ RBL K b g0 H0 g H ds vs := by
  unfold RB at h; rw [Rep] at h
  obtain ⟨a, vs, e, q, z, r⟩ := h
  exact ⟨a, vs, e, (hb_sub ok q).1, z, r⟩
theorem ops_add : OpS K b b (rAddD K) opAdd := by
  intro g0 H0 g H ω x y v w d Q ok st r1 r2 e k
  cases x <;> cases y <;> simp only [opAdd] at e <;> try cases e
  · rw [r1.intV, r2.intV]
    exact .inl ⟨_, _, rfl, rfl, k _ g H (.refl _ _) ok .int⟩
  · split at e <;> cases e
    rename_i hz
    rw [r1.strV, r2.strV]
    exact .inr (.inl ⟨_, _, rfl, rfl, hz, k _ g H (.refl _ _) ok .str⟩)
  · split at e <;> cases e
    rename_i xs ys hz
    obtain ⟨a, vs, rfl, q1, z1, l1⟩ := r1.lstV ok
    obtain ⟨c, ws, rfl, q2, z2, l2⟩ := r2.lstV ok
    have hz' : vs.length + ws.length ≤ sizeLine := by rw [RepL.length l1, RepL.length l2]; exact hz
    refine .inr (.inr (.inr ⟨a, c, vs, ws, rfl, rfl, q1, q2, hz', fun p hp => ?_⟩))
    obtain ⟨s2, ok2⟩ := alloc ok hp (o := .lst (vs ++ ws)) rfl
    exact k _ _ _ s2 ok2 (.newLst ok st hp (by rw [List.length_append]; exact hz') (RepL.append l1 l2))
  · split at e <;> cases e
    rename_i xs ys hz
    have r1' := r1
    have r2' := r2
    obtain ⟨a, vs, rfl, q1, z1, l1⟩ := r1.tupV ok
    obtain ⟨c, ws, rfl, q2, z2, l2⟩ := r2.tupV ok
    have n1 := RepL.length l1
    have n2 := RepL.length l2
    have hz' : vs.length + ws.length ≤ sizeLine := by rw [n1, n2]; exact hz
    refine .inr (.inr (.inl ⟨a, c, vs, ws, rfl, rfl, q1, q2, hz', fun e => ?_, fun _ e => ?_, fun _ _ p hp => ?_⟩))
    · subst e
      have : xs = [] := List.eq_nil_of_length_eq_zero n1.symm
      subst this
      exact k _ g H (.refl _ _) ok r2'
    · subst e
      have : ys = [] := List.eq_nil_of_length_eq_zero n2.symm
      subst this
      rw [List.append_nil] at k
      exact k _ g H (.refl _ _) ok r1'
    · obtain ⟨s2, ok2⟩ := alloc ok hp (o := .tup (vs ++ ws)) rfl
      exact k _ _ _ s2 ok2 (.newTup ok st hp (by rw [List.length_append]; exact hz') (RepL.append l1 l2))
def opSub : D → D → Option D
  | .int i, .int j => some (.int (i - j))
  | _, _ => none
theorem ops_sub : OpS K b true (rI0 fun i j => .int (i - j)) opSub := ops_int fun x y d e => by
  cases x <;> cases y <;> simp only [opSub] at e <;> cases e
  exact ⟨_, _, _, rfl, rfl, fun _ _ => by rw [Rep], fun Q H q => ⟨_, _, rfl, rfl, q⟩⟩
omit [Tb] in
/-- the sizes for which the model multiplies -/
theorem mulOk_ex : ∃ f : Int → Int → Bool, ∀ i j, f i j = ((decide (-(2 ^ 64) < i) && decide (i < 2 ^ 64)) || (decide (-(2 ^ 64) < j) && decide (j < 2 ^ 64)) || decide (i.natAbs.log2 + j.natAbs.log2 < 1000000)) := ⟨_, fun _ _ => rfl⟩
noncomputable def mulOk : Int → Int → Bool := Classical.choose mulOk_ex
theorem mulOk_eq (i j : Int) : mulOk i j = ((decide (-(2 ^ 64) < i) && decide (i < 2 ^ 64)) || (decide (-(2 ^ 64) < j) && decide (j < 2 ^ 64)) || decide (i.natAbs.log2 + j.natAbs.log2 < 1000000)) := Classical.choose_spec mulOk_ex i j
noncomputable def opMul : D → D → Option D
  | .int i, .int j => if mulOk i j = true then some (.int (i * j)) else none
  | .list xs, .int j => if xs.length * j.toNat ≤ sizeLine ∧ -(2 ^ 63) ≤ j ∧ j < 2 ^ 63 then some (.list (List.replicate j.toNat xs).flatten) else none
  | .tuple xs, .int j => if xs ≠ [] ∧ 2 ≤ j ∧ j ≤ 1000 ∧ xs.length ≤ 1000 then some (.tuple (List.replicate j.toNat xs).flatten) else none
  | _, _ => none
def rMulD (K : PySem.W.Frag) : R2 := fun x y H Q => rI CMul (fun i j => .int (i * j)) x y H Q ∨ rI CMulW (fun i j => .int (i * j)) x y H Q ∨ rRep x y H Q ∨ rRepT K x y H Q
theorem op_mulD : OpR X (binaryOp .Mult) (rMulD X.K) := op_mul.or (op_mulW.or (op_rep.or op_repT))
theorem RepL.rep {ι : Ix} {G : Hp} {ds : List D} {vs : List V} (h : RepL K ι G ds vs) : ∀ k : Nat, RepL K ι G (List.replicate k ds).flatten (List.replicate k vs).flatten
  | 0 => RepL.nil
  | k + 1 => by
    rw [List.replicate_succ, List.replicate_succ, List.flatten_cons, List.flatten_cons]
    exact h.append (RepL.rep h k)
theorem len_rep {α : Type} (xs : List α) : ∀ k : Nat, (List.replicate k xs).flatten.length = xs.length * k
  | 0 => by simp
  | k + 1 => by
    rw [List.replicate_succ, List.flatten_cons, List.length_append, len_rep xs k, Nat.mul_succ, Nat.add_comm]
theorem ops_mul : OpS K b b (rMulD K) opMul := by
  intro g0 H0 g H ω x y v w d Q ok st r1 r2 e k
  cases x <;> cases y <;> simp only [opMul] at e <;> try cases e
  · split at e <;> cases e
    rename_i i j hm
    rw [r1.intV, r2.intV]
    have q := k _ g H (.refl _ _) ok (.int (c := i * j))
    simp only [mulOk_eq, Bool.or_eq_true, Bool.and_eq_true, decide_eq_true_eq] at hm
    rcases hm with (h | h) | h
    · exact .inl ⟨_, _, rfl, rfl, .inl h, q⟩
    · exact .inl ⟨_, _, rfl, rfl, .inr h, q⟩
    · exact .inr (.inl ⟨_, _, rfl, rfl, h, q⟩)
  · split at e <;> cases e
    rename_i xs j hm
    obtain ⟨hz, h1, h2⟩ := hm
    obtain ⟨a, vs, rfl, q1, z1, l1⟩ := r1.lstV ok
    rw [r2.intV]
    refine .inr (.inr (.inl ⟨a, j, vs, rfl, rfl, q1, h1, h2, by rw [RepL.length l1]; exact hz, fun p hp => ?_⟩))
    obtain ⟨s2, ok2⟩ := alloc ok hp (o := .lst (List.replicate j.toNat vs).flatten) rfl
    exact k _ _ _ s2 ok2 (.newLst ok st hp (by rw [len_rep, RepL.length l1]; exact hz) (RepL.rep l1 _))
  · split at e <;> cases e
    rename_i xs j hm
    obtain ⟨hn, h1, h2, h3⟩ := hm
    obtain ⟨a, vs, rfl, q1, z1, l1⟩ := r1.tupV ok
    have n1 := RepL.length l1
    rw [r2.intV]
    refine .inr (.inr (.inr ⟨a, j, vs, rfl, rfl, q1, fun e => hn ?_, h1, h2, by rw [n1]; exact h3, fun p hp => ?_⟩))
    · subst e; exact List.eq_nil_of_length_eq_zero n1.symm
    · obtain ⟨s2, ok2⟩ := alloc ok hp (o := .tup (List.replicate j.toNat vs).flatten) rfl
      refine k _ _ _ s2 ok2 (.newTup ok st hp ?_ (RepL.rep l1 _))
      rw [len_rep, n1]
      have : xs.length * j.toNat ≤ 1000 * 1000 := Nat.mul_le_mul h3 (by omega)
      rw [sizeLine_eq]; omega
def opMod : D → D → Option D
  | .int i, .int j => if 0 < j then some (.int (i % j)) else none
  | _, _ => none
theorem ops_mod : OpS K b true (rI (fun _ j => 0 < j) fun i j => .int (i % j)) opMod := ops_int fun x y d e => by
  cases x <;> cases y <;> simp only [opMod] at e <;> try cases e
  split at e <;> cases e
  rename_i hj
  exact ⟨_, _, _, rfl, rfl, fun _ _ => by rw [Rep], fun Q H q => ⟨_, _, rfl, rfl, hj, q⟩⟩
def opDiv : D → D → Option D
  | .int i, .int j => if 0 < j ∧ j.natAbs.log2 < 9000 then some (.int (i / j)) else none
  | _, _ => none
theorem ops_div : OpS K b true (rI CDivW fun i j => .int (i / j)) opDiv := ops_int fun x y d e => by
  cases x <;> cases y <;> simp only [opDiv] at e <;> try cases e
  split at e <;> cases e
  rename_i hj
  exact ⟨_, _, _, rfl, rfl, fun _ _ => by rw [Rep], fun Q H q => ⟨_, _, rfl, rfl, hj, q⟩⟩
def opPow : D → D → Option D
  | .int i, .int j => if 0 ≤ j ∧ j ≤ 1000000 ∧ i.natAbs < 2 ^ 64 then some (.int (i ^ j.toNat)) else none
  | _, _ => none
theorem ops_pow : OpS K b true (rI CPow fun i j => .int (i ^ j.toNat)) opPow := ops_int fun x y d e => by
  cases x <;> cases y <;> simp only [opPow] at e <;> try cases e
  split at e <;> cases e
  rename_i hj
  exact ⟨_, _, _, rfl, rfl, fun _ _ => by rw [Rep], fun Q H q => ⟨_, _, rfl, rfl, hj, q⟩⟩

/-! ## comparisons: data read off the heap -/
mutual
theorem Rep.dp {ι : Ix} {G H : Hp} (hG : ∀ a o, G a = some o → H a = some o) : ∀ (d : D) (v : V), d.plain = true → Rep K ι G d v → Dp K H v d
  | .none, _, _, h => by rw [Rep] at h; subst h; exact .non
  | .bool _, _, _, h => by rw [Rep] at h; subst h; exact .bl _
  | .int _, _, _, h => by rw [Rep] at h; subst h; exact .int _
  | .str _, _, _, h => by rw [Rep] at h; subst h; exact .str _
  | .list ds, _, n, h => by
    rw [Rep] at h
    obtain ⟨a, vs, rfl, q, _, r⟩ := h
    exact .lst (SqL.of (hG _ _ q)) (RepL.dp hG ds vs (by rw [PyData.plain] at n; exact n) r)
  | .tuple ds, _, n, h => by
    rw [Rep] at h
    obtain ⟨a, vs, rfl, q, _, r⟩ := h
    exact .tup (SqT.mono hG (SqT.of q)) (RepL.dp hG ds vs (by rw [PyData.plain] at n; exact n) r)
  | .dict _, _, n, _ => nomatch n
theorem RepL.dp {ι : Ix} {G H : Hp} (hG : ∀ a o, G a = some o → H a = some o) : ∀ (ds : List D) (vs : List V), PyData.plainAll ds = true → RepL K ι G ds vs → DpAll K H vs ds
  | [], _, _, h => by rw [RepL] at h; subst h; exact .nil
  | d :: ds, _, n, h => by
    rw [PyData.plainAll, Bool.and_eq_true] at n
    obtain ⟨v, ws, rfl, r, q⟩ := RepL.inv h
    exact .cons (Rep.dp hG d v n.1 r) (RepL.dp hG ds ws n.2 q)
end
theorem RB.dp {g0 g : Gh} {H0 H : Hp} {ω : Wd} {d : D} {v : V} (ok : GOk K g H ω) (h : RB K b g0 H0 g H d v) (n : d.plain = true) : Dp K H v d := Rep.dp (fun _ _ h => (hb_sub ok h).1) d v n h
/-- data that are compared: no object in them, not too deep -/
def cmpOk (d e : D) : Bool := d.plain && e.plain && decide (d.depth ≤ 60)
def rDat (K : PySem.W.Frag) (C : D → D → Bool) (res : D → D → Bool) : R2 := fun x y H Q => ∃ d e, Dp K H x d ∧ Dp K H y e ∧ C d e = true ∧ Q (.bl (res d e)) H
theorem op_eqP (hu : X.A.units + 64 < cLine) : OpR X (compareOp .Eq) (rDat X.K cmpOk PyData.eqv) := by
  intro pins s σ H x y v u Q I rx ry h
  obtain ⟨d, e, hd, he, c, q⟩ := h
  simp only [cmpOk, Bool.and_eq_true, decide_eq_true_eq] at c
  obtain ⟨as, r1⟩ := Dp.reads I d x v hd rx
  obtain ⟨bs, r2⟩ := Dp.reads I e y u he ry
  exact SeqAt.eq_plain r1 r2 c.1.1 c.1.2 (by omega) ⟨.bl _, H, I, rfl, q⟩
theorem op_neP (hu : X.A.units + 64 < cLine) : OpR X (compareOp .NotEq) (rDat X.K cmpOk fun d e => !PyData.eqv d e) := by
  intro pins s σ H x y v u Q I rx ry h
  obtain ⟨d, e, hd, he, c, q⟩ := h
  simp only [cmpOk, Bool.and_eq_true, decide_eq_true_eq] at c
  obtain ⟨as, r1⟩ := Dp.reads I d x v hd rx
  obtain ⟨bs, r2⟩ := Dp.reads I e y u he ry
  exact SeqAt.ne_plain r1 r2 c.1.1 c.1.2 (by omega) ⟨.bl _, H, I, rfl, q⟩
def notNon : D → Bool
  | .none => false
  | _ => true
def ltOk (d e : D) : Bool := d.plain && e.plain && decide (d.depth ≤ 60) && PySem.W.alike d e && notNon d
theorem ltOk_h {d e : D} (h : ltOk d e = true) : d.depth ≤ 60 ∧ PySem.W.alike d e = true ∧ d ≠ .none := by
  simp only [ltOk, Bool.and_eq_true, decide_eq_true_eq] at h
  refine ⟨h.1.1.2, h.1.2, fun z => ?_⟩
  rw [z] at h; exact absurd h.2 (by decide)
theorem op_ltP (hu : X.A.units + 64 < cLine) : OpR X (compareOp .Lt) (rDat X.K ltOk PySem.W.dataLt) := by
  intro pins s σ H x y v u Q I rx ry h
  obtain ⟨d, e, hd, he, c, q⟩ := h
  obtain ⟨c1, c2, c3⟩ := ltOk_h c
  obtain ⟨as, r1⟩ := Dp.reads I d x v hd rx
  obtain ⟨bs, r2⟩ := Dp.reads I e y u he ry
  exact PySem.W.lt_data r1 r2 c2 c3 (by omega) ⟨.bl _, H, I, rfl, q⟩
theorem op_gtP (hu : X.A.units + 64 < cLine) : OpR X (compareOp .Gt) (rDat X.K ltOk fun d e => PySem.W.dataLt e d) := by
  intro pins s σ H x y v u Q I rx ry h
  obtain ⟨d, e, hd, he, c, q⟩ := h
  obtain ⟨c1, c2, c3⟩ := ltOk_h c
  obtain ⟨as, r1⟩ := Dp.reads I d x v hd rx
  obtain ⟨bs, r2⟩ := Dp.reads I e y u he ry
  exact PySem.W.gt_data r1 r2 c2 c3 (by omega) ⟨.bl _, H, I, rfl, q⟩
theorem op_leP (hu : X.A.units + 64 < cLine) : OpR X (compareOp .LtE) (rDat X.K ltOk fun d e => !PySem.W.dataLt e d) := by
  intro pins s σ H x y v u Q I rx ry h
  obtain ⟨d, e, hd, he, c, q⟩ := h
  obtain ⟨c1, c2, c3⟩ := ltOk_h c
  obtain ⟨as, r1⟩ := Dp.reads I d x v hd rx
  obtain ⟨bs, r2⟩ := Dp.reads I e y u he ry
  exact PySem.W.le_data r1 r2 c2 c3 (by omega) ⟨.bl _, H, I, rfl, q⟩
theorem op_geP (hu : X.A.units + 64 < cLine) : OpR X (compareOp .GtE) (rDat X.K ltOk fun d e => !PySem.W.dataLt d e) := by
  intro pins s σ H x y v u Q I rx ry h
  obtain ⟨d, e, hd, he, c, q⟩ := h
  obtain ⟨c1, c2, c3⟩ := ltOk_h c
  obtain ⟨as, r1⟩ := Dp.reads I d x v hd rx
  obtain ⟨bs, r2⟩ := Dp.reads I e y u he ry
  exact PySem.W.ge_data r1 r2 c2 c3 (by omega) ⟨.bl _, H, I, rfl, q⟩
theorem ops_dat {C res : D → D → Bool} {op : D → D → Option D} (hC : ∀ d e, C d e = true → d.plain = true ∧ e.plain = true) (h : ∀ x y d, op x y = some d → C x y = true ∧ d = .bool (res x y)) : OpS K b true (rDat K C res) op := by
  intro g0 H0 g H ω x y v w d Q ok st r1 r2 e k
  obtain ⟨c, rfl⟩ := h x y d e
  obtain ⟨p1, p2⟩ := hC _ _ c
  exact ⟨x, y, r1.dp ok p1, r2.dp ok p2, c, k _ g H (.refl _ _) ok .bl⟩
theorem cmpOk_p (d e : D) (h : cmpOk d e = true) : d.plain = true ∧ e.plain = true := by
  simp only [cmpOk, Bool.and_eq_true] at h; exact ⟨h.1.1, h.1.2⟩
theorem ltOk_p (d e : D) (h : ltOk d e = true) : d.plain = true ∧ e.plain = true := by
  simp only [ltOk, Bool.and_eq_true] at h; exact ⟨h.1.1.1.1, h.1.1.1.2⟩
def opEq (x y : D) : Option D := if cmpOk x y = true then some (.bool (PyData.eqv x y)) else none
def opNe (x y : D) : Option D := if cmpOk x y = true then some (.bool (!PyData.eqv x y)) else none
theorem ops_eq : OpS K b true (rDat K cmpOk PyData.eqv) opEq := ops_dat cmpOk_p fun x y d e => by
  unfold opEq at e; split at e <;> cases e; exact ⟨by assumption, rfl⟩
theorem ops_ne : OpS K b true (rDat K cmpOk fun d e => !PyData.eqv d e) opNe := ops_dat cmpOk_p fun x y d e => by
  unfold opNe at e; split at e <;> cases e; exact ⟨by assumption, rfl⟩
def opLt (x y : D) : Option D := match x, y with
  | .int i, .int j => some (.bool (decide (i < j)))
  | x, y => if ltOk x y = true then some (.bool (PySem.W.dataLt x y)) else none
def opGt (x y : D) : Option D := match x, y with
  | .int i, .int j => some (.bool (decide (j < i)))
  | x, y => if ltOk x y = true then some (.bool (PySem.W.dataLt y x)) else none
def opLe (x y : D) : Option D := match x, y with
  | .int i, .int j => some (.bool (decide (i ≤ j)))
  | x, y => if ltOk x y = true then some (.bool (!PySem.W.dataLt y x)) else none
def opGe (x y : D) : Option D := match x, y with
  | .int i, .int j => some (.bool (decide (j ≤ i)))
  | x, y => if ltOk x y = true then some (.bool (!PySem.W.dataLt x y)) else none
theorem ltOk_int (i j : Int) : ltOk (.int i) (.int j) = true := rfl
theorem not_lt_le (i j : Int) : (!decide (j < i)) = decide (i ≤ j) := by
  by_cases h : i ≤ j
  · rw [decide_eq_true h, decide_eq_false (by omega)]; rfl
  · rw [decide_eq_false h, decide_eq_true (by omega)]; rfl
theorem ops_lt : OpS K b true (rDat K ltOk PySem.W.dataLt) opLt := ops_dat ltOk_p fun x y d e => by
  unfold opLt at e
  split at e
  · cases e; exact ⟨rfl, by rw [PySem.W.dataLt_int]⟩
  · split at e <;> cases e; exact ⟨by assumption, rfl⟩
theorem ops_gt : OpS K b true (rDat K ltOk fun d e => PySem.W.dataLt e d) opGt := ops_dat ltOk_p fun x y d e => by
  unfold opGt at e
  split at e
  · cases e; exact ⟨rfl, by rw [PySem.W.dataLt_int]⟩
  · split at e <;> cases e; exact ⟨by assumption, rfl⟩
theorem ops_le : OpS K b true (rDat K ltOk fun d e => !PySem.W.dataLt e d) opLe := ops_dat ltOk_p fun x y d e => by
  unfold opLe at e
  split at e
  · cases e; exact ⟨rfl, by rw [PySem.W.dataLt_int, not_lt_le]⟩
  · split at e <;> cases e; exact ⟨by assumption, rfl⟩
theorem ops_ge : OpS K b true (rDat K ltOk fun d e => !PySem.W.dataLt d e) opGe := ops_dat ltOk_p fun x y d e => by
  unfold opGe at e
  split at e
  · cases e; exact ⟨rfl, by rw [PySem.W.dataLt_int, not_lt_le]⟩
  · split at e <;> cases e; exact ⟨by assumption, rfl⟩
/-! is None, is True .. -/
def isNon : D → Bool
  | .none => true
  | _ => false
theorem RB.non_iff {g0 g : Gh} {H0 H : Hp} {d : D} {v : V} (h : RB K b g0 H0 g H d v) : decide (v = .non) = isNon d := by
  unfold RB at h
  cases d <;> rw [Rep] at h
  · subst h; rfl
  · subst h; rfl
  · subst h; rfl
  · subst h; rfl
  · obtain ⟨a, vs, rfl, _⟩ := h; rfl
  · obtain ⟨a, vs, rfl, _⟩ := h; rfl
  · obtain ⟨n, a, _, _, rfl⟩ := h; rfl
def opIsN (x y : D) : Option D := if isNon y = true then some (.bool (isNon x)) else none
def opNotN (x y : D) : Option D := if isNon y = true then some (.bool (!isNon x)) else none
theorem isNon_y {g0 g : Gh} {H0 H : Hp} {d : D} {v : V} (h : RB K b g0 H0 g H d v) (n : isNon d = true) : v = .non := by
  have := h.non_iff; rw [n] at this; exact of_decide_eq_true this
theorem ops_isN : OpS K b true (fun x y H Q => y = .non ∧ Q (.bl (decide (x = .non))) H) opIsN := by
  intro g0 H0 g H ω x y v w d Q ok st r1 r2 e k
  unfold opIsN at e; split at e <;> cases e
  rename_i n
  refine ⟨isNon_y r2 n, ?_⟩
  rw [r1.non_iff]; exact k _ g H (.refl _ _) ok .bl
theorem ops_notN : OpS K b true (fun x y H Q => y = .non ∧ Q (.bl (!decide (x = .non))) H) opNotN := by
  intro g0 H0 g H ω x y v w d Q ok st r1 r2 e k
  unfold opNotN at e; split at e <;> cases e
  rename_i n
  refine ⟨isNon_y r2 n, ?_⟩
  rw [r1.non_iff]; exact k _ g H (.refl _ _) ok .bl
def opIsB (x y : D) : Option D := match x, y with
  | .bool a, .bool c => some (.bool (decide (a = c)))
  | _, _ => none
def opNotB (x y : D) : Option D := match x, y with
  | .bool a, .bool c => some (.bool (!decide (a = c)))
  | _, _ => none
theorem ops_isB : OpS K b true rIsB opIsB := by
  intro g0 H0 g H ω x y v w d Q ok st r1 r2 e k
  cases x <;> cases y <;> simp only [opIsB] at e <;> cases e
  rw [r1.blV, r2.blV]
  exact ⟨_, _, rfl, rfl, k _ g H (.refl _ _) ok .bl⟩
theorem ops_notB : OpS K b true rNotB opNotB := by
  intro g0 H0 g H ω x y v w d Q ok st r1 r2 e k
  cases x <;> cases y <;> simp only [opNotB] at e <;> cases e
  rw [r1.blV, r2.blV]
  exact ⟨_, _, rfl, rfl, k _ g H (.refl _ _) ok .bl⟩
/-! in, not in -/
def inOk (d e : D) : Bool := match e with
  | .list xs => PyData.plainAll xs && d.plain && decide (d.depth ≤ 60)
  | .tuple xs => PyData.plainAll xs && d.plain && decide (d.depth ≤ 60)
  | _ => false
def inRes (d e : D) : Bool := match e with
  | .list xs => xs.any fun y => PyData.eqv y d
  | .tuple xs => xs.any fun y => PyData.eqv y d
  | _ => false
theorem op_inP (hu : X.A.units + 64 < cLine) : OpR X (compareOp .In) (rDat X.K inOk inRes) := by
  intro pins s σ H x y v u Q I rx ry h
  obtain ⟨d, e, hd, he, c, q⟩ := h
  obtain ⟨as, r1⟩ := Dp.reads I d x v hd rx
  obtain ⟨bs, r2⟩ := Dp.reads I e y u he ry
  cases e with
  | list xs =>
    simp only [inOk, Bool.and_eq_true, decide_eq_true_eq] at c
    exact SeqAt.in_list_data r2 r1 c.1.1 c.1.2 (by omega) ⟨.bl _, H, I, rfl, q⟩
  | tuple xs =>
    simp only [inOk, Bool.and_eq_true, decide_eq_true_eq] at c
    exact SeqAt.in_tuple_data r2 r1 c.1.1 c.1.2 (by omega) ⟨.bl _, H, I, rfl, q⟩
  | _ => exact nomatch c
theorem op_notInP (hu : X.A.units + 64 < cLine) : OpR X (compareOp .NotIn) (rDat X.K inOk fun d e => !inRes d e) := by
  intro pins s σ H x y v u Q I rx ry h
  obtain ⟨d, e, hd, he, c, q⟩ := h
  obtain ⟨as, r1⟩ := Dp.reads I d x v hd rx
  obtain ⟨bs, r2⟩ := Dp.reads I e y u he ry
  cases e with
  | list xs =>
    simp only [inOk, Bool.and_eq_true, decide_eq_true_eq] at c
    exact SeqAt.notIn_list_data r2 r1 c.1.1 c.1.2 (by omega) ⟨.bl _, H, I, rfl, q⟩
  | tuple xs =>
    simp only [inOk, Bool.and_eq_true, decide_eq_true_eq] at c
    exact SeqAt.notIn_tuple_data r2 r1 c.1.1 c.1.2 (by omega) ⟨.bl _, H, I, rfl, q⟩
  | _ => exact nomatch c
theorem inOk_p (d e : D) (h : inOk d e = true) : d.plain = true ∧ e.plain = true := by
  cases e with
  | list xs =>
    simp only [inOk, Bool.and_eq_true] at h
    exact ⟨h.1.2, by rw [PyData.plain]; exact h.1.1⟩
  | tuple xs =>
    simp only [inOk, Bool.and_eq_true] at h
    exact ⟨h.1.2, by rw [PyData.plain]; exact h.1.1⟩
  | _ => exact nomatch h
def opIn (x y : D) : Option D := if inOk x y = true then some (.bool (inRes x y)) else none
def opNotIn (x y : D) : Option D := if inOk x y = true then some (.bool (!inRes x y)) else none
theorem ops_in : OpS K b true (rDat K inOk inRes) opIn := ops_dat inOk_p fun x y d e => by
  unfold opIn at e; split at e <;> cases e; exact ⟨by assumption, rfl⟩
theorem ops_notIn : OpS K b true (rDat K inOk fun d e => !inRes d e) opNotIn := ops_dat inOk_p fun x y d e => by
  unfold opNotIn at e; split at e <;> cases e; exact ⟨by assumption, rfl⟩
/-- one sign, or a text, in a text -/
def opInS (x y : D) : Option D := match x, y with
  | .str i, .str j => some (.bool (!(Builtin.Str.occurrences j i 0 j.length 1).isEmpty))
  | _, _ => none
def opNotInS (x y : D) : Option D := match x, y with
  | .str i, .str j => some (.bool (!(!(Builtin.Str.occurrences j i 0 j.length 1).isEmpty)))
  | _, _ => none
theorem ops_inS : OpS K b true (fun x y H Q => ∃ i j, x = .str i ∧ y = .str j ∧ Q (.bl (!(Builtin.Str.occurrences j i 0 j.length 1).isEmpty)) H) opInS := by
  intro g0 H0 g H ω x y v w d Q ok st r1 r2 e k
  cases x <;> cases y <;> simp only [opInS] at e <;> cases e
  rw [r1.strV, r2.strV]
  exact ⟨_, _, rfl, rfl, k _ g H (.refl _ _) ok .bl⟩
theorem ops_notInS : OpS K b true (fun x y H Q => ∃ i j, x = .str i ∧ y = .str j ∧ Q (.bl (!(!(Builtin.Str.occurrences j i 0 j.length 1).isEmpty))) H) opNotInS := by
  intro g0 H0 g H ω x y v w d Q ok st r1 r2 e k
  cases x <;> cases y <;> simp only [opNotInS] at e <;> cases e
  rw [r1.strV, r2.strV]
  exact ⟨_, _, rfl, rfl, k _ g H (.refl _ _) ok .bl⟩

/-! ## subscripts -/
/-- the item at i: of a list, a tuple, a text -/
def opIx : D → D → Option D
  | .list xs, .int i => atI xs i
  | .tuple xs, .int i => atI xs i
  | .str z, .int i => if z.length ≤ sizeLine then (atI z.cps.toList i).map fun c => .str ⟨#[c]⟩ else none
  | _, _ => none
theorem RepL.atI {ι : Ix} {G : Hp} {ds : List D} {vs : List V} {i : Int} {d : D} (h : RepL K ι G ds vs) (e : L2.atI ds i = some d) : ∃ v, L2.atI vs i = some v ∧ Rep K ι G d v := by
  unfold L2.atI at e ⊢
  rw [h.length]
  cases q : ixN ds.length i with
  | none => rw [q] at e; cases e
  | some j =>
    rw [q] at e
    exact h.get e
theorem ops_ix : OpS K b b (rIx K) opIx := by
  intro g0 H0 g H ω x y v w d Q ok st r1 r2 e k
  cases x <;> cases y <;> simp only [opIx] at e <;> try cases e
  · split at e
    · rename_i hz
      obtain ⟨c, h1, rfl⟩ := Option.map_eq_some_iff.mp e
      rw [r1.strV, r2.intV]
      exact .inr (.inr ⟨_, _, c, rfl, rfl, hz, h1, k _ g H (.refl _ _) ok .str⟩)
    · cases e
  · obtain ⟨a, vs, rfl, q1, z1, l1⟩ := r1.lstV ok
    rw [r2.intV]
    obtain ⟨u, h1, h2⟩ := RepL.atI l1 e
    exact .inl ⟨a, vs, _, u, rfl, rfl, SqL.of q1, h1, k _ g H (.refl _ _) ok h2⟩
  · obtain ⟨a, vs, rfl, q1, z1, l1⟩ := r1.tupV ok
    rw [r2.intV]
    obtain ⟨u, h1, h2⟩ := RepL.atI l1 e
    exact .inr (.inl ⟨a, vs, _, u, rfl, rfl, q1, h1, k _ g H (.refl _ _) ok h2⟩)
theorem ex_ix {ta tb : TE} {fa fb : DE} {ea eb : Expr} {pos : Pos} (ha : EX X b ea ta fa) (hb : EX X b eb tb fb) (hs : PlainIx eb := by exact fun _ _ => rfl) : EX X b (.Subscript ea eb pos) (tOp (rIx X.K) ta tb) (eBin opIx fa fb) :=
  ⟨pe_ix ix_seq ha.pe hb.pe hs, sn_bin ops_ix ha.sn hb.sn⟩
/-- the item of a list of one's own: it is settled -/
def eIxOwn (i : Nat) (f : DE) : DE := fun ρ ω => match ρ[i]? with
  | some (.own xs) => (match f ρ ω with
    | some (.int j, ω1) => (match atI xs j with
      | some d => some (d, ω1)
      | none => none)
    | _ => none)
  | _ => none
theorem sn_ixOwn {i : Nat} {tb : TE} {fb : DE} {d : Bool} (hb : Snd K d tb fb) : Snd K true (tOp (rIx K) (tVar i) tb) (eIxOwn i fb) := by
  intro g0 H0 g H ρ ω σ Q d ω' ok st sl e k
  unfold eIxOwn at e
  split at e
  · rename_i xs hx
    split at e
    · rename_i j ω1 e1
      split at e
      · rename_i dd e2
        cases e
        obtain ⟨o, h1, p, vs, rfl, hp, hG, hS, h0, z, r⟩ := sl.get hx
        refine ⟨_, h1, ?_⟩
        refine hb g0 H0 g H ρ ω σ _ _ ω' ok st sl e1 fun v g1 H1 s1 ok1 r1 => ?_
        obtain ⟨u, h3, h4⟩ := RepL.atI (r.mono s1.ιm s1.Gm) e2
        rw [r1.intV]
        exact .inl ⟨p, vs, j, u, rfl, rfl, SqL.of (s1.fr _ _ hp hS), h3, k u g1 H1 s1 ok1 h4⟩
      · cases e
    · cases e
  · cases e
theorem ex_ixOwn {i : Nat} {x : Str} {tb : TE} {fb : DE} {eb : Expr} {pos pos2 : Pos} {d : Bool} (hb : EX X d eb tb fb) (hN : X.N[i]? = some x := by rfl) (hv : Vis X.env.scope x := by first | exact Or.inl rfl | exact Or.inr (Or.inl rfl) | exact Or.inr (Or.inr rfl)) (hd : (x == ("__debug__" : Str)) = false := by decide)
    (hcd : (x == ("__classdict__" : Str)) = false := by decide) (hs : PlainIx eb := by exact fun _ _ => rfl) : EX X true (.Subscript (.Name x pos2) eb pos) (tOp (rIx X.K) (tVar i) tb) (eIxOwn i fb) :=
  ⟨pe_ix ix_seq (pe_var hN hv hd hcd) hb.pe hs, sn_ixOwn hb.sn⟩
end
end Dn
end

section
namespace Dn
open PySem PySem.Spec L2
variable [Tb]

section
variable {X : Cx} {K : PySem.W.Frag} {b b' : Bool}
/-! ## what is walked -/
structure GLe (g g' : Gh) : Prop where
  ιm : ∀ n a, g.ι n = some a → g'.ι n = some a
  Gm : ∀ a o, g.G a = some o → g'.G a = some o
theorem GLe.refl (g : Gh) : GLe g g := ⟨fun _ _ h => h, fun _ _ h => h⟩
theorem GLe.trans {g g1 g2 : Gh} (a : GLe g g1) (b : GLe g1 g2) : GLe g g2 := ⟨fun n x h => b.ιm n x (a.ιm n x h), fun x o h => b.Gm x o (a.Gm x o h)⟩
theorem Step.le {g g' : Gh} {H H' : Hp} (s : Step g H g' H') : GLe g g' := ⟨s.ιm, s.Gm⟩
/-- a later moment: of the same expression (false), of the same def (true) -/
def Later (b : Bool) (g : Gh) (H : Hp) (g1 : Gh) (H1 : Hp) : Prop := if b = true then GLe g g1 ∧ ∀ a o, g1.G a = some o → H1 a = some o else Step g H g1 H1
structure ItS (K : PySem.W.Frag) (J : It) (ds : List D) (g : Gh) (H : Hp) : Prop where
  stop : ∀ i, ds.length ≤ i → J.stop i H
  go : ∀ i d, ds[i]? = some d → J.go i H ∧ ∀ x H2, J.yld i H x H2 → ∃ g2, Step g H g2 H2 ∧ (∀ ω, GOk K g H ω → GOk K g2 H2 ω) ∧ Rep K g2.ι g2.G d x
def SndI (K : PySem.W.Frag) (b : Bool) (t : TI) (f : DA) : Prop :=
  ∀ (g0 : Gh) (H0 : Hp) (g : Gh) (H : Hp) (ρ : Ro) (ω : Wd) (σ : L2.St) (R : It → Hp → Prop) (ds : List D) (ω' : Wd), GOk K g H ω → Step g0 H0 g H → Slots K H0 g H ρ σ → f ρ ω = some (ds, ω') →
    (∀ J g' H', Step g H g' H' → GOk K g' H' ω' → ds.length ≤ sizeLine → (∀ g1 H1, Later b g' H' g1 H1 → ItS K J ds g1 H1) → R J H') → t σ H R
structure EI (X : Cx) (b : Bool) (tg iter : Expr) (t : TI) (f : DA) : Prop where
  pe : PI X tg iter t
  sn : SndI X.K b t f
theorem Later.step {g g1 : Gh} {H H1 : Hp} {ω : Wd} (s : Step g H g1 H1) (ok : GOk K g1 H1 ω) : Later b g H g1 H1 := by
  cases b with
  | false => exact s
  | true => exact ⟨s.le, ok.sub⟩
/-- a list that stands at a -/
theorem itS_lst {g : Gh} {H : Hp} {a : Addr} {vs : List V} {ds : List D} (hp : H a = some (.lst vs)) (r : RepL K g.ι g.G ds vs) : ItS K (Itl K a) ds g H where
  stop i hi := ⟨vs, SqL.of hp, by rw [r.length]; exact hi⟩
  go i d e := by
    obtain ⟨v, e1, r1⟩ := r.get e
    refine ⟨⟨vs, v, SqL.of hp, e1⟩, fun x H2 y => ?_⟩
    obtain ⟨rfl, y⟩ := y
    have := y vs (SqL.of hp)
    rw [e1] at this; cases this
    exact ⟨g, .refl _ _, fun _ h => h, r1⟩
theorem itS_tup {g : Gh} {H : Hp} {a : Addr} {vs : List V} {ds : List D} (hp : SqT K H a vs) (r : RepL K g.ι g.G ds vs) : ItS K (Itt K a) ds g H where
  stop i hi := ⟨vs, hp, by rw [r.length]; exact hi⟩
  go i d e := by
    obtain ⟨v, e1, r1⟩ := r.get e
    refine ⟨⟨vs, v, hp, e1⟩, fun x H2 y => ?_⟩
    obtain ⟨rfl, y⟩ := y
    have := y vs hp
    rw [e1] at this; cases this
    exact ⟨g, .refl _ _, fun _ h => h, r1⟩
/-- the items of a settled list; of a settled tuple -/
def iLst (f : DE) : DA := fun ρ ω => match f ρ ω with
  | some (.list ds, ω1) => some (ds, ω1)
  | _ => none
def iTpl (f : DE) : DA := fun ρ ω => match f ρ ω with
  | some (.tuple ds, ω1) => some (ds, ω1)
  | _ => none
theorem sni_lst {t : TE} {f : DE} (h : Snd K true t f) : SndI K b (iList K t) (iLst f) := by
  intro g0 H0 g H ρ ω σ R ds ω' ok st sl e k
  unfold iLst at e
  split at e
  · rename_i ds1 ω1 e1
    cases e
    refine h g0 H0 g H ρ ω σ _ _ ω' ok st sl e1 fun v g1 H1 s1 ok1 r1 => ?_
    have r1' : Rep K g1.ι g1.G (.list ds) v := r1
    rw [Rep] at r1'
    obtain ⟨a, vs, rfl, q, z, r⟩ := r1'
    refine ⟨a, rfl, ⟨vs, SqL.of (ok1.sub _ _ q)⟩, k _ g1 H1 s1 ok1 (by rw [← r.length]; exact z) fun g2 H2 l => ?_⟩
    cases b with
    | true => exact itS_lst (l.2 _ _ (l.1.Gm _ _ q)) (r.mono l.1.ιm l.1.Gm)
    | false =>
      have l : Step g1 H1 g2 H2 := l
      exact itS_lst (l.fr _ _ (ok1.sub _ _ q) (ok1.nS _ _ q)) (r.mono l.ιm l.Gm)
  · cases e
theorem sni_tup {t : TE} {f : DE} (h : Snd K true t f) : SndI K b (iTup K t) (iTpl f) := by
  intro g0 H0 g H ρ ω σ R ds ω' ok st sl e k
  unfold iTpl at e
  split at e
  · rename_i ds1 ω1 e1
    cases e
    refine h g0 H0 g H ρ ω σ _ _ ω' ok st sl e1 fun v g1 H1 s1 ok1 r1 => ?_
    have r1' : Rep K g1.ι g1.G (.tuple ds) v := r1
    rw [Rep] at r1'
    obtain ⟨a, vs, rfl, q, z, r⟩ := r1'
    refine ⟨a, rfl, ⟨vs, SqT.mono ok1.sub (SqT.of q)⟩, k _ g1 H1 s1 ok1 (by rw [← r.length]; exact z) fun g2 H2 l => ?_⟩
    cases b with
    | true => exact itS_tup (SqT.mono (fun x o h => l.2 _ _ (l.1.Gm _ _ h)) (SqT.of q)) (r.mono l.1.ιm l.1.Gm)
    | false =>
      have l : Step g1 H1 g2 H2 := l
      exact itS_tup (SqT.mono (fun x o h => l.fr _ _ (ok1.sub _ _ h) (ok1.nS _ _ h)) (SqT.of q)) (r.mono l.ιm l.Gm)
  · cases e
theorem ei_lst {tg e : Expr} {t : TE} {f : DE} (h : EX X true e t f) : EI X b tg e (iList X.K t) (iLst f) := ⟨pi_list h.pe, sni_lst h.sn⟩
theorem ei_tup {tg e : Expr} {t : TE} {f : DE} (h : EX X true e t f) : EI X b tg e (iTup X.K t) (iTpl f) := ⟨pi_tup h.pe, sni_tup h.sn⟩
/-- a list of one's own, within an expression -/
def iOwn (i : Nat) : DA := fun ρ ω => match ρ[i]? with
  | some (.own xs) => some (xs, ω)
  | _ => none
theorem sni_own (i : Nat) : SndI K false (iList K (tVar i)) (iOwn i) := by
  intro g0 H0 g H ρ ω σ R ds ω' ok st sl e k
  unfold iOwn at e
  split at e
  · rename_i xs hx
    cases e
    obtain ⟨o, h1, p, vs, rfl, hp, hG, hS, h0, z, r⟩ := sl.get hx
    refine ⟨_, h1, p, rfl, ⟨vs, SqL.of hp⟩, k _ g H (.refl _ _) ok (by rw [← r.length]; exact z) fun g2 H2 l => ?_⟩
    have l : Step g H g2 H2 := l
    exact itS_lst (l.fr _ _ hp hS) (r.mono l.ιm l.Gm)
  · cases e
theorem ei_own {i : Nat} {tg : Expr} {x : Str} {pos : Pos} (hN : X.N[i]? = some x := by rfl) (hv : Vis X.env.scope x := by first | exact Or.inl rfl | exact Or.inr (Or.inl rfl) | exact Or.inr (Or.inr rfl)) (hd : (x == ("__debug__" : Str)) = false := by decide)
    (hcd : (x == ("__classdict__" : Str)) = false := by decide) : EI X false tg (.Name x pos) (iList X.K (tVar i)) (iOwn i) := ⟨pi_list (pe_var hN hv hd hcd), sni_own i⟩
omit [Tb] in
/-- range -/
theorem rgOk_ex : ∃ f : Int → Int → Bool, ∀ i j, f i j = (decide (-(2 ^ 62) ≤ i) && decide (i < 2 ^ 62) && decide (-(2 ^ 62) ≤ j) && decide (j < 2 ^ 62) && decide (j - i ≤ 16777216)) := ⟨_, fun _ _ => rfl⟩
/-- the bounds that the model walks (never unfolded) -/
noncomputable def rgOk : Int → Int → Bool := Classical.choose rgOk_ex
theorem rgOk_eq (i j : Int) : rgOk i j = (decide (-(2 ^ 62) ≤ i) && decide (i < 2 ^ 62) && decide (-(2 ^ 62) ≤ j) && decide (j < 2 ^ 62) && decide (j - i ≤ 16777216)) := Classical.choose_spec rgOk_ex i j
def rgD (i j : Int) : List D := (List.range (j - i).toNat).map fun (k : Nat) => .int (i + k)
noncomputable def iRange (a : DA) : DA := fun ρ ω => match a ρ ω with
  | some ([.int j], ω1) => if rgOk 0 j = true then some (rgD 0 j, ω1) else none
  | some ([.int i, .int j], ω1) => if rgOk i j = true then some (rgD i j, ω1) else none
  | _ => none
theorem rgD_length (i j : Int) : (rgD i j).length = (j - i).toNat := by simp [rgD]
theorem itS_rng {g : Gh} {H : Hp} {i j : Int} : ItS K (Itr i (j - i).toNat) (rgD i j) g H where
  stop k hk := by rw [rgD_length] at hk; exact hk
  go k d e := by
    have hk : k < (j - i).toNat := by
      have := (List.getElem?_eq_some_iff.mp e).1
      rw [rgD_length] at this; exact this
    refine ⟨hk, fun x H2 y => ?_⟩
    obtain ⟨rfl, rfl⟩ := y
    refine ⟨g, .refl _ _, fun _ h => h, ?_⟩
    have e2 : d = .int (i + k) := by
      unfold rgD at e
      rw [List.getElem?_map, List.getElem?_range hk] at e
      exact (Option.some.inj e).symm
    subst e2
    rw [Rep]
theorem rg_size {i j : Int} (h : rgOk i j = true) : (rgD i j).length ≤ sizeLine := by
  simp only [rgOk_eq, Bool.and_eq_true, decide_eq_true_eq] at h
  rw [rgD_length, sizeLine_eq]; omega
theorem sni_rng1 {ta : TA} {f : DA} (h : SndA K b' ta f) (hl : LenA 1 f) : SndI K b (iRng1 ta) (iRange f) := by
  intro g0 H0 g H ρ ω σ R ds ω' ok st sl e k
  unfold iRange at e
  split at e
  · rename_i j ω1 e1
    split at e
    · rename_i hr
      cases e
      refine h g0 H0 g H ρ ω σ _ _ ω' ok st sl e1 fun vs g1 H1 s1 ok1 r1 => ?_
      obtain ⟨v, ws, rfl, r, t⟩ := RepL.inv r1
      have t' : ws = [] := by rw [RepL] at t; exact t
      subst t'
      have hr' := hr
      simp only [rgOk_eq, Bool.and_eq_true, decide_eq_true_eq] at hr'
      have e0 : j.toNat = (j - 0).toNat := by rw [Int.sub_zero]
      refine ⟨j, by rw [show v = .int j from RB.intV r], hr'.1.1.2, hr'.1.2, k _ g1 H1 s1 ok1 (rg_size hr) fun g2 H2 _ => ?_⟩
      rw [e0]; exact itS_rng
    · cases e
  · rename_i i j ω1 e1
    have := hl _ _ _ _ e1
    simp at this
  · cases e
theorem sni_rng2 {ta : TA} {f : DA} (h : SndA K b' ta f) (hl : LenA 2 f) : SndI K b (iRng2 ta) (iRange f) := by
  intro g0 H0 g H ρ ω σ R ds ω' ok st sl e k
  unfold iRange at e
  split at e
  · rename_i j ω1 e1
    have := hl _ _ _ _ e1
    simp at this
  · rename_i i j ω1 e1
    split at e
    · rename_i hr
      cases e
      refine h g0 H0 g H ρ ω σ _ _ ω' ok st sl e1 fun vs g1 H1 s1 ok1 r1 => ?_
      obtain ⟨v, ws, rfl, r, t⟩ := RepL.inv r1
      obtain ⟨v2, ws2, rfl, r2, t2⟩ := RepL.inv t
      have t' : ws2 = [] := by rw [RepL] at t2; exact t2
      subst t'
      have hr' := hr
      simp only [rgOk_eq, Bool.and_eq_true, decide_eq_true_eq] at hr'
      refine ⟨i, j, by rw [show v = .int i from RB.intV r, show v2 = .int j from RB.intV r2], ⟨hr'.1.1.1.1, hr'.1.1.1.2, hr'.1.1.2, hr'.1.2⟩, k _ g1 H1 s1 ok1 (rg_size hr) fun g2 H2 _ => itS_rng⟩
    · cases e
  · cases e
theorem ei_rng1 {tg a : Expr} {ta : TA} {f : DA} {p pos : Pos} (hm : X.mg "range" = none) (h : EA X b' [a] ta f) (hl : LenA 1 f := by exact len_cons len_nil) (hg : Gl X "range" := by rfl) (hs : starEach [a] X.env = [(false, eval a X.env)] := by rfl) : EI X b tg (.Call (.Name "range" p) [a] [] pos) (iRng1 ta) (iRange f) :=
  ⟨pi_range1 hg hm h.pe hs, sni_rng1 h.sn hl⟩
theorem ei_rng2 {tg a c : Expr} {ta : TA} {f : DA} {p pos : Pos} (hm : X.mg "range" = none) (h : EA X b' [a, c] ta f) (hl : LenA 2 f := by exact len_cons (len_cons len_nil)) (hg : Gl X "range" := by rfl) (hs : starEach [a, c] X.env = [(false, eval a X.env), (false, eval c X.env)] := by rfl) (hs2 : starEach [c] X.env = [(false, eval c X.env)] := by rfl) :
    EI X b tg (.Call (.Name "range" p) [a, c] [] pos) (iRng2 ta) (iRange f) :=
  ⟨pi_range2 hg hm h.pe hs hs2, sni_rng2 h.sn hl⟩

/-! ## targets -/
abbrev DG := D → Ro → Option Ro
/-- the own lists of the one state are own lists of the other one, in the same slots -/
def OwnLe (ρ : Ro) (σ : L2.St) (ρ' : Ro) (σ' : L2.St) : Prop := ∀ (i : Nat) (xs : List D), ρ'[i]? = some (.own xs) → ρ[i]? = some (.own xs) ∧ σ'[i]? = σ[i]?
theorem OwnLe.refl (ρ : Ro) (σ : L2.St) : OwnLe ρ σ ρ σ := fun _ _ h => ⟨h, rfl⟩
theorem OwnLe.trans {ρ ρ1 ρ2 : Ro} {σ σ1 σ2 : L2.St} (a : OwnLe ρ σ ρ1 σ1) (b : OwnLe ρ1 σ1 ρ2 σ2) : OwnLe ρ σ ρ2 σ2 := fun i xs h => ⟨(a i xs (b i xs h).1).1, (b i xs h).2.trans (a i xs (b i xs h).1).2⟩
theorem OwnLe.set (ρ : Ro) (σ : L2.St) (i : Nat) (s : SV) (o : Option V) (hn : ∀ xs, s ≠ .own xs) : OwnLe ρ σ (ρ.set i s) (σ.set i o) := fun j xs h => by
  have hj : i ≠ j := fun z => by
    subst z
    rw [List.getElem?_set] at h
    simp only [if_true] at h
    split at h
    · exact hn xs (Option.some.inj h)
    · cases h
  rw [List.getElem?_set_ne hj] at h ⊢
  exact ⟨h, rfl⟩
def SndG (K : PySem.W.Frag) (t : TG) (js : List Nat) (f : DG) : Prop :=
  ∀ (H0 : Hp) (g : Gh) (H : Hp) (ρ : Ro) (σ : L2.St) (d : D) (v : V) (ρ' : Ro) (Q : L2.St → Hp → Prop), (∀ a o, g.G a = some o → H a = some o) → Slots K H0 g H ρ σ → Rep K g.ι g.G d v → f d ρ = some ρ' →
    (∀ σ', Slots K H0 g H ρ' σ' → (∀ vs, (∀ j ∈ js, j ∈ vs) → wipe σ' vs = wipe σ vs) → OwnLe ρ σ ρ' σ' → Q σ' H) → t v σ H Q
structure EG (X : Cx) (tg : Expr) (t : TG) (js : List Nat) (f : DG) : Prop where
  pe : PG X tg t
  sn : SndG X.K t js f
def SndGs (K : PySem.W.Frag) (t : TGs) (js : List Nat) (f : List D → Ro → Option Ro) : Prop :=
  ∀ (H0 : Hp) (g : Gh) (H : Hp) (ρ : Ro) (σ : L2.St) (ds : List D) (vs : List V) (ρ' : Ro) (Q : L2.St → Hp → Prop), (∀ a o, g.G a = some o → H a = some o) → Slots K H0 g H ρ σ → RepL K g.ι g.G ds vs → f ds ρ = some ρ' →
    (∀ σ', Slots K H0 g H ρ' σ' → (∀ vs, (∀ j ∈ js, j ∈ vs) → wipe σ' vs = wipe σ vs) → OwnLe ρ σ ρ' σ' → Q σ' H) → t vs σ H Q
structure EGs (X : Cx) (tg : List Expr) (t : TGs) (js : List Nat) (f : List D → Ro → Option Ro) : Prop where
  pe : PGs X tg t
  sn : SndGs X.K t js f
theorem wipe_set (σ : L2.St) (i : Nat) (x : Option V) : ∀ vs : List Nat, i ∈ vs → wipe (σ.set i x) vs = wipe σ vs := by
  have out : ∀ vs : List Nat, i ∉ vs → wipe (σ.set i x) vs = (wipe σ vs).set i x := by
    intro vs
    induction vs with
    | nil => intro _; rfl
    | cons v vs ih =>
      intro h
      rw [List.mem_cons, not_or] at h
      show (wipe (σ.set i x) vs).set v none = ((wipe σ vs).set v none).set i x
      rw [ih h.2, List.set_comm _ _ h.1]
  intro vs
  induction vs with
  | nil => intro h; cases h
  | cons v vs ih =>
    intro h
    show (wipe (σ.set i x) vs).set v none = (wipe σ vs).set v none
    by_cases hm : i ∈ vs
    · rw [ih hm]
    · rw [out vs hm]
      rcases List.mem_cons.mp h with rfl | h
      · rw [List.set_set]
      · exact absurd h hm
def gSet (i : Nat) : DG := fun d ρ => some (ρ.set i (.val d))
theorem sng_name (i : Nat) : SndG K (gName i) [i] (gSet i) := by
  intro H0 g H ρ σ d v ρ' Q sub sl r e k
  cases e
  exact k _ (sl.set i ⟨v, rfl, r⟩ fun xs z => nomatch z) (fun vs h => wipe_set σ i (some v) vs (h i (List.mem_singleton.mpr rfl))) (OwnLe.set ρ σ i _ _ fun xs z => nomatch z)
theorem eg_name {i : Nat} {x : Str} {pos : Pos} (hN : X.N.Nodup) (hi : X.N[i]? = some x := by rfl) (hx : Loc X.env.scope x := by first | exact Or.inl rfl | exact Or.inr rfl) (hf : X.fn x = true ∨ X.env.scope.names.lookup x = some .local := by first | exact .inl rfl | exact .inr rfl | assumption) : EG X (.Name x pos) (gName i) [i] (gSet i) :=
  ⟨pg_name hN hi hx hf, sng_name i⟩
def gNilD : List D → Ro → Option Ro := fun ds ρ => match ds with
  | [] => some ρ
  | _ :: _ => none
def gConsD (f : DG) (h : List D → Ro → Option Ro) : List D → Ro → Option Ro := fun ds ρ => match ds with
  | [] => none
  | d :: ds => match f d ρ with
    | none => none
    | some ρ1 => h ds ρ1
theorem egs_nil : EGs X [] gNil [] gNilD := by
  refine ⟨pgs_nil, ?_⟩
  intro H0 g H ρ σ ds vs ρ' Q sub sl r e k
  unfold gNilD at e
  split at e
  · cases e
    have t : vs = [] := by rw [RepL] at r; exact r
    exact ⟨t, k _ sl (fun _ _ => rfl) (OwnLe.refl _ _)⟩
  · cases e
theorem egs_cons {e : Expr} {es : List Expr} {t : TG} {u : TGs} {js ks : List Nat} {f : DG} {h : List D → Ro → Option Ro} (h1 : EG X e t js f) (h2 : EGs X es u ks h)
    (hs : (assignEach (e :: es) X.env).map (·.2) = assign e X.env :: (assignEach es X.env).map (·.2) := by rfl) : EGs X (e :: es) (gCons t u) (js ++ ks) (gConsD f h) := by
  refine ⟨pgs_cons h1.pe h2.pe hs, ?_⟩
  intro H0 g H ρ σ ds vs ρ' Q sub sl r e k
  unfold gConsD at e
  split at e
  · cases e
  rename_i d ds
  split at e
  · cases e
  rename_i ρ1 e1
  obtain ⟨v, ws, rfl, r1, r2⟩ := RepL.inv r
  refine ⟨v, ws, rfl, h1.sn H0 g H ρ σ d v ρ1 _ sub sl r1 e1 fun σ1 sl1 w1 o1 => ?_⟩
  exact h2.sn H0 g H ρ1 σ1 ds ws ρ' Q sub sl1 r2 e fun σ2 sl2 w2 o2 => k σ2 sl2 (fun vs hv => by
    rw [w2 vs fun j hj => hv j (List.mem_append_right _ hj), w1 vs fun j hj => hv j (List.mem_append_left _ hj)]) (o1.trans o2)
def gTupD (h : List D → Ro → Option Ro) : DG := fun d ρ => match d with
  | .tuple ds => h ds ρ
  | _ => none
def LenG (n : Nat) (h : List D → Ro → Option Ro) : Prop := ∀ ds ρ ρ', h ds ρ = some ρ' → ds.length = n
theorem leng_nil : LenG 0 gNilD := fun ds ρ ρ' e => by
  unfold gNilD at e
  split at e
  · rfl
  · cases e
theorem leng_cons {n : Nat} {f : DG} {h : List D → Ro → Option Ro} (l : LenG n h) : LenG (n + 1) (gConsD f h) := fun ds ρ ρ' e => by
  unfold gConsD at e
  split at e
  · cases e
  split at e
  · cases e
  rw [List.length_cons, l _ _ _ e]
theorem eg_tup {es : List Expr} {k : Nat} {t : TGs} {n : Nat} {js : List Nat} {h : List D → Ro → Option Ro} {pos : Pos} (hc : X.calm = true) (hh : EGs X es t js h) (l : LenG n h)
    (hn : (assignEach es X.env).length = n := by rfl) (hst : (assignEach es X.env).findIdx? (·.1) = none := by rfl) : EG X (.Tuple es k pos) (gTup X.K n t) js (gTupD h) := by
  refine ⟨pg_tup hc hh.pe hn hst, ?_⟩
  intro H0 g H ρ σ d v ρ' Q sub sl r e k
  unfold gTupD at e
  split at e
  · rename_i ds
    rw [Rep] at r
    obtain ⟨a, vs, rfl, q, z, r⟩ := r
    exact ⟨a, vs, rfl, SqT.mono sub (SqT.of q), by rw [r.length]; exact l _ _ _ e, hh.sn H0 g H ρ σ ds vs ρ' Q sub sl r e k⟩
  · cases e

/-! ## list comprehensions -/
def wipeR (ρ : Ro) : List Nat → Ro
  | [] => ρ
  | v :: vs => (wipeR ρ vs).set v .un
theorem Slots.wipe {H0 : Hp} {g : Gh} {H : Hp} {ρ : Ro} {σ : L2.St} (h : Slots K H0 g H ρ σ) : ∀ vs : List Nat, Slots K H0 g H (wipeR ρ vs) (L2.wipe σ vs)
  | [] => h
  | v :: vs => (Slots.wipe h vs).set v trivial fun xs z => nomatch z
theorem wipe_get (σ : L2.St) : ∀ (vs : List Nat) (i : Nat), (L2.wipe σ vs)[i]? = if i ∈ vs then (if i < σ.length then some none else none) else σ[i]?
  | [], i => by simp [L2.wipe]
  | v :: vs, i => by
    show ((L2.wipe σ vs).set v none)[i]? = _
    rw [List.getElem?_set, wipe_get σ vs i, wipe_length]
    by_cases hv : v = i
    · subst hv; simp
    · simp only [hv, if_false, List.mem_cons, Ne.symm hv, false_or]
theorem wipe_wipe (σ : L2.St) (vs : List Nat) : L2.wipe (L2.wipe σ vs) vs = L2.wipe σ vs := by
  apply List.ext_getElem?
  intro i
  rw [wipe_get, wipe_get, wipe_length]
  split <;> rfl
/-- the turns of a comprehension -/
def lcD (fg : DG) (ft : DT) (fe : DE) (ρ : Ro) : List D → Wd → Option (List D × Wd)
  | [], ω => some ([], ω)
  | d :: ds, ω => match fg d ρ with
    | none => none
    | some ρ1 => match ft ρ1 ω with
      | none => none
      | some (c, ω1) => if c = true then (match fe ρ1 ω1 with
          | none => none
          | some (x, ω2) => match lcD fg ft fe ρ ds ω2 with
            | none => none
            | some (xs, ω3) => some (x :: xs, ω3))
        else lcD fg ft fe ρ ds ω1
def eLcN (fi : DA) (fg : DG) (ft : DT) (fe : DE) (vs : List Nat) : DA := fun ρ ω => match fi ρ ω with
  | none => none
  | some (ds, ω1) => lcD fg ft fe (wipeR ρ vs) ds ω1
theorem own_step {g g' : Gh} {H H' : Hp} {ω' : Wd} {p : Addr} {vs : List V} (hp : H p = some (.lst vs)) (hG : g.G p = none) (hS : ¬ g.S p) (st : Step g H g' H') (ok : GOk K g' H' ω') : H' p = some (.lst vs) ∧ g'.G p = none ∧ ¬ g'.S p := by
  have hp' := st.fr p _ hp hS
  refine ⟨hp', ?_, fun q => ?_⟩
  · cases q : g'.G p with
    | none => rfl
    | some o =>
      have e2 := ok.sub p o q
      rw [hp'] at e2; cases e2
      rcases st.nw p vs q with z | z
      · rw [hG] at z; cases z
      · rw [hp] at z; cases z
  · rcases st.nS p q with z | z
    · exact hS z
    · rw [hp] at z; cases z
theorem lc_sound {wi : TI} {tg : TG} {tt : TT} {te : TE} {fi : DA} {fg : DG} {ft : DT} {fe : DE} {js vs : List Nat} (hi : SndI K b wi fi) (hg : SndG K tg js fg) (hj : ∀ j ∈ js, j ∈ vs) (ht : SndT K tt ft) (he : Snd K true te fe)
    {g0 : Gh} {H0 : Hp} {g : Gh} {H : Hp} {ρ : Ro} {ω : Wd} {σ : L2.St} {Q : VK} {ds : List D} {ω' : Wd} (ok : GOk K g H ω) (st : Step g0 H0 g H) (sl : Slots K H0 g H ρ σ) (e : eLcN fi fg ft fe vs ρ ω = some (ds, ω'))
    (k : ∀ p ws g' H', Step g H g' H' → GOk K g' H' ω' → H p = none → H' p = some (.lst ws) → g'.G p = none → ¬ g'.S p → ws.length ≤ sizeLine → RepL K g'.ι g'.G ds ws → Q (.ref p) H') : tLc wi tg tt te vs σ H Q := by
  unfold eLcN at e
  split at e
  · cases e
  rename_i items ω1 e1
  refine hi g0 H0 g H ρ ω σ _ items ω1 ok st sl e1 fun J g1 H1 s1 ok1 hz hJ => ?_
  intro P hP
  refine ⟨fun i m H2 => m = items.length - i ∧ i ≤ items.length ∧ ∃ g2 ω2 acc accD rest, Step g1 H1 g2 H2 ∧ GOk K g2 H2 ω2 ∧ H2 P = some (.lst acc) ∧ g2.G P = none ∧ ¬ g2.S P ∧ acc.length ≤ i ∧ RepL K g2.ι g2.G accD acc ∧ lcD fg ft fe (wipeR ρ vs) (items.drop i) ω2 = some (rest, ω') ∧ accD ++ rest = ds, ?_, ?_⟩
  · obtain ⟨s2, ok2⟩ := allocOwn ok1 hP (o := .lst [])
    have nG : g1.G P = none := by
      cases q : g1.G P with
      | none => rfl
      | some u => rw [ok1.sub P u q] at hP; cases hP
    have nS : ¬ g1.S P := fun q => by obtain ⟨u, e, _⟩ := ok1.sl P q; rw [hP] at e; cases e
    exact ⟨_, rfl, Nat.zero_le _, g1, ω1, [], [], ds, s2, ok2, upd_same, nG, nS, Nat.le_refl _, .nil, e, rfl⟩
  · rintro i m H2 ⟨rfl, hil, g2, ω2, acc, accD, rest, s2, ok2, hP2, hG2, hS2, hal, hacc, hrest, happ⟩
    have it := hJ g2 H2 (Later.step s2 ok2)
    by_cases hlt : i < items.length
    · obtain ⟨d, hd⟩ : ∃ d, items[i]? = some d := ⟨_, List.getElem?_eq_getElem hlt⟩
      obtain ⟨go, hy⟩ := it.go i d hd
      rw [List.drop_eq_getElem_cons hlt] at hrest
      have hd' : items[i] = d := by rw [List.getElem?_eq_getElem hlt] at hd; exact Option.some.inj hd
      rw [hd'] at hrest
      unfold lcD at hrest
      refine .inr ⟨go, fun H' => ∃ m', m' = items.length - (i + 1) ∧ (i + 1) ≤ items.length ∧ ∃ g2 ω2 acc accD rest, Step g1 H1 g2 H' ∧ GOk K g2 H' ω2 ∧ H' P = some (.lst acc) ∧ g2.G P = none ∧ ¬ g2.S P ∧ acc.length ≤ i + 1 ∧ RepL K g2.ι g2.G accD acc ∧ lcD fg ft fe (wipeR ρ vs) (items.drop (i + 1)) ω2 = some (rest, ω') ∧ accD ++ rest = ds,
        fun H' ⟨m', e', r'⟩ => ⟨m', by omega, e', r'⟩, fun x H3 hyld => ?_⟩
      obtain ⟨g3, s3, k3, r3⟩ := hy x H3 hyld
      have ok3 := k3 ω2 ok2
      split at hrest
      · cases hrest
      rename_i ρ1 eg
      have sall : Step g H g3 H3 := (s1.trans s2).trans s3
      have sl3 : Slots K H0 g3 H3 ρ σ := sl.step sall ok3
      refine hg H0 g3 H3 _ _ d x ρ1 _ ok3.sub (sl3.wipe vs) r3 eg fun σ4 sl4 w4 _ => ⟨?_, ?_⟩
      · rw [w4 vs hj, wipe_wipe]
      split at hrest
      · cases hrest
      rename_i c ω4 et
      refine ht g0 H0 g3 H3 ρ1 ω2 σ4 _ c ω4 ok3 (st.trans sall) sl4 et fun g5 H5 s5 ok5 => ?_
      obtain ⟨hP3, hG3, hS3⟩ := own_step hP2 hG2 hS2 s3 ok3
      obtain ⟨hP5, hG5, hS5⟩ := own_step hP3 hG3 hS3 s5 ok5
      cases c with
      | false =>
        refine iteF ?_
        rw [if_neg Bool.false_ne_true] at hrest
        exact ⟨_, rfl, hlt, g5, ω4, acc, accD, rest, (s2.trans s3).trans s5, ok5, hP5, hG5, hS5, Nat.le_succ_of_le hal, hacc.mono (s3.trans s5).ιm (s3.trans s5).Gm, hrest, happ⟩
      | true =>
        refine iteT ?_
        rw [if_pos rfl] at hrest
        split at hrest
        · cases hrest
        rename_i y ω6 ee
        split at hrest
        · cases hrest
        rename_i ys ω7 er
        cases hrest
        refine he g0 H0 g5 H5 ρ1 ω4 σ4 _ y ω6 ok5 (st.trans (sall.trans s5)) (sl4.step s5 ok5) ee fun v g6 H6 s6 ok6 r6 => ?_
        obtain ⟨hP6, hG6, hS6⟩ := own_step hP5 hG5 hS5 s6 ok6
        refine ⟨acc, hP6, Nat.lt_of_le_of_lt hal (Nat.lt_of_lt_of_le hlt hz), _, rfl, hlt, g6, ω6, acc ++ [v], accD ++ [y], ys, ?_, mutOk ok6 hP6 hG6 hS6, upd_same, hG6, hS6, ?_, ?_, er, ?_⟩
        · exact mutStep (((s2.trans s3).trans s5).trans s6) hP
        · rw [List.length_append]; exact Nat.succ_le_succ hal
        · exact (hacc.mono ((s3.trans s5).trans s6).ιm ((s3.trans s5).trans s6).Gm).append (.cons r6 .nil)
        · rw [← happ, List.append_assoc]; rfl
    · have hil' : i = items.length := by omega
      subst hil'
      rw [List.drop_length] at hrest
      unfold lcD at hrest
      cases hrest
      rw [List.append_nil] at happ
      subst happ
      exact .inl ⟨it.stop _ (Nat.le_refl _), k P acc g2 H2 (s1.trans s2) ok2 (s1.al P hP) hP2 hG2 hS2 (Nat.le_trans hal hz) hacc⟩
/-- a list that was one's own is settled -/
theorem settle {g : Gh} {H : Hp} {ω : Wd} {p : Addr} {vs : List V} (ok : GOk K g H ω) (hp : H p = some (.lst vs)) (hG : g.G p = none) (hS : ¬ g.S p) : GOk K (g.add p (.lst vs)) H ω ∧ GLe g (g.add p (.lst vs)) := by
  have up : ∀ a o, g.G a = some o → upd g.G p (.lst vs) a = some o := fun a o h => upd_keep hG h
  have inv : ∀ a o, (g.add p (.lst vs)).G a = some o → (a = p ∧ o = .lst vs) ∨ (a ≠ p ∧ g.G a = some o) := fun a o h => by
    by_cases hap : a = p
    · subst hap
      rw [Gh.add] at h; simp only at h; rw [upd_same] at h; cases h; exact .inl ⟨rfl, rfl⟩
    · rw [Gh.add] at h; simp only at h; rw [upd_ne hap] at h; exact .inr ⟨hap, h⟩
  refine ⟨⟨fun a o h => ?_, fun a o h => ?_, fun a o h => ?_, ok.inj, ok.inS, fun n o e => ?_, ok.sl, ok.lv, ok.tb⟩, ⟨fun _ _ h => h, up⟩⟩
  · rcases inv a o h with ⟨rfl, rfl⟩ | ⟨_, h⟩
    · exact hp
    · exact ok.sub a o h
  · rcases inv a o h with ⟨rfl, rfl⟩ | ⟨_, h⟩
    · rfl
    · exact ok.seq a o h
  · rcases inv a o h with ⟨rfl, rfl⟩ | ⟨_, h⟩
    · exact hS
    · exact ok.nS a o h
  · obtain ⟨a, ia, h⟩ := ok.st n o e
    exact ⟨a, ia, h.mono (fun _ _ h => h) up rfl⟩
theorem settleStep {g0 g : Gh} {H0 H : Hp} {p : Addr} {vs : List V} (st : Step g0 H0 g H) (hG : g.G p = none) (h0 : H0 p = none) : Step g0 H0 (g.add p (.lst vs)) H := by
  refine ⟨st.ιm, fun a o h => upd_keep hG (st.Gm a o h), st.Sm, st.fr, st.nS, st.al, fun a ws h => ?_, st.lv, st.ιl⟩
  by_cases hap : a = p
  · subst hap; exact .inr h0
  · rw [Gh.add] at h; simp only at h; rw [upd_ne hap] at h; exact st.nw a ws h
def eOfN (f : DA) : DE := fun ρ ω => match f ρ ω with
  | none => none
  | some (ds, ω1) => some (.list ds, ω1)
section
variable {elt tg iter : Expr} {ifs : List Expr} {scope : Scope} {own : List (Str × Nat)} {pos : Pos} {wi : TI} {g : TG} {tt : TT} {te : TE} {fi : DA} {fg : DG} {ft : DT} {fe : DE} {js : List Nat}
structure ETs (X : Cx) (ifs : List Expr) (t : TT) (f : DT) : Prop where
  pe : PTs X ifs t
  sn : SndT X.K t f
def tYesD : DT := fun _ ω => some (true, ω)
theorem ets_nil : ETs X [] tYes tYesD := ⟨pts_nil, fun g0 H0 g H ρ ω σ Q d ω' ok st sl e k => by cases e; exact k g H (.refl _ _) ok⟩
theorem ets_one {c : Expr} {t : TT} {f : DT} (h : ET X c t f) : ETs X [c] t f := ⟨pts_one h.pe, h.sn⟩
theorem pe_lcD (hc : X.calm = true) (hN : X.N.Nodup) (hi : EI X b tg iter wi fi) (ok : BlkOk X.N X.env.scope scope own)
    (hg : ∀ (s : Shared) (H : Hp) (C : Addr) (cl : List (Str × Addr)) (fp : List Addr), EG (X.blk s H scope (compEnvC scope cl C X.env) fp) tg g js fg)
    (ht : ∀ (s : Shared) (H : Hp) (C : Addr) (cl : List (Str × Addr)) (fp : List Addr), ETs (X.blk s H scope (compEnvC scope cl C X.env) fp) ifs tt ft)
    (he : ∀ (s : Shared) (H : Hp) (C : Addr) (cl : List (Str × Addr)) (fp : List Addr), EX (X.blk s H scope (compEnvC scope cl C X.env) fp) true elt te fe) (hs : ∀ x, foldedSetIterable iter X.env x = pure x := by intro _; rfl) :
    PE X (.ListComp elt [⟨tg, iter, ifs, 0⟩] scope pos) (tLc wi g tt te (own.map (·.2))) :=
  pe_lc hc hN hi.pe ok (fun s H C cl fp => (hg s H C cl fp).pe) (fun s H C cl fp => (ht s H C cl fp).pe) (fun s H C cl fp => (he s H C cl fp).pe) hs
/-- a comprehension whose list is one's own -/
theorem en_lc (hc : X.calm = true) (hN : X.N.Nodup) (hi : EI X b tg iter wi fi) (ok : BlkOk X.N X.env.scope scope own)
    (hg : ∀ (s : Shared) (H : Hp) (C : Addr) (cl : List (Str × Addr)) (fp : List Addr), EG (X.blk s H scope (compEnvC scope cl C X.env) fp) tg g js fg)
    (ht : ∀ (s : Shared) (H : Hp) (C : Addr) (cl : List (Str × Addr)) (fp : List Addr), ETs (X.blk s H scope (compEnvC scope cl C X.env) fp) ifs tt ft)
    (he : ∀ (s : Shared) (H : Hp) (C : Addr) (cl : List (Str × Addr)) (fp : List Addr), EX (X.blk s H scope (compEnvC scope cl C X.env) fp) true elt te fe)
    (hj : ∀ j ∈ js, j ∈ own.map (·.2) := by decide) (hs : ∀ x, foldedSetIterable iter X.env x = pure x := by intro _; rfl) :
    EN X (.ListComp elt [⟨tg, iter, ifs, 0⟩] scope pos) (tLc wi g tt te (own.map (·.2))) (eLcN fi fg ft fe (own.map (·.2))) := by
  refine ⟨pe_lcD hc hN hi ok hg ht he hs, ?_⟩
  intro g0 H0 gh H ρ ω σ Q ds ω' ok' st sl e k
  exact lc_sound hi.sn (hg X.s_0 X.H_0 0 [] []).sn hj (ht X.s_0 X.H_0 0 [] []).sn (he X.s_0 X.H_0 0 [] []).sn ok' st sl e fun p ws g' H' s' ok2 h1 h2 h3 h4 h5 h6 => k p ws g' H' s' ok2 h1 h2 h3 h4 h5 h6
/-- any list that would be one's own, settled at once -/
theorem EN.x {e : Expr} {t : TE} {f : DA} (h : EN X e t f) : EX X true e t (eOfN f) := by
  refine ⟨h.pe, ?_⟩
  intro g0 H0 g H ρ ω σ Q d ω' ok st sl e k
  unfold eOfN at e
  split at e
  · cases e
  rename_i ds ω1 e1
  cases e
  refine h.sn g0 H0 g H ρ ω σ Q ds ω' ok st sl e1 fun p vs g' H' s' ok' h1 h2 h3 h4 h5 h6 => ?_
  obtain ⟨ok2, le⟩ := settle ok' h2 h3 h4
  refine k _ _ H' (settleStep s' h3 h1) ok2 ?_
  show Rep X.K (g'.add p (.lst vs)).ι (g'.add p (.lst vs)).G (.list ds) (.ref p)
  rw [Rep]
  exact ⟨p, vs, rfl, upd_same, h5, h6.mono le.ιm le.Gm⟩
end
end
end Dn
end

section
namespace Dn
open PySem PySem.Spec L2
variable [Tb]

section
variable {X : Cx} {K : PySem.W.Frag} {b b' : Bool}
/-! ## calls of built-ins -/
def CalS (K : PySem.W.Frag) (b b' : Bool) (r : List V → Hp → VK → Prop) (op : List D → Option D) : Prop :=
  ∀ (g0 : Gh) (H0 : Hp) (g : Gh) (H : Hp) (ω : Wd) (ds : List D) (vs : List V) (d : D) (Q : VK), GOk K g H ω → Step g0 H0 g H → RBL K b g0 H0 g H ds vs → op ds = some d →
    (∀ u g' H', Step g H g' H' → GOk K g' H' ω → RB K b' g0 H0 g' H' d u → Q u H') → r vs H Q
def eCall (op : List D → Option D) (a : DA) : DE := fun ρ ω => match a ρ ω with
  | none => none
  | some (ds, ω1) => match op ds with
    | none => none
    | some d => some (d, ω1)
theorem sn_call {r : List V → Hp → VK → Prop} {op : List D → Option D} {t : TA} {f : DA} (hs : CalS K b b' r op) (h : SndA K b t f) : Snd K b' (tCB r t) (eCall op f) := by
  intro g0 H0 g H ρ ω σ Q d ω' ok st sl e k
  unfold eCall at e
  split at e
  · cases e
  rename_i ds ω1 e1
  split at e
  · cases e
  rename_i d1 e2
  cases e
  refine h g0 H0 g H ρ ω σ _ ds ω' ok st sl e1 fun vs g1 H1 s1 ok1 r1 => ?_
  exact hs g0 H0 g1 H1 ω' ds vs d Q ok1 (st.trans s1) r1 e2 fun u g2 H2 s2 ok2 r2 => k u g2 H2 (s1.trans s2) ok2 r2
section
variable {r : List V → Hp → VK → Prop} {op : List D → Option D} {t : TA} {f : DA} {e : Expr} {es : List Expr} {p pos : Pos} {x : Str} {id : String}
theorem ex_callB (hc : CallR X (.builtin id) r) (hs : CalS X.K b b' r op) (hm : X.mg x = none) (hv : bootBuiltins x = some (.builtin id)) (ha : EA X b (e :: es) t f) (hg : Gl X x := by rfl) (hn : x ≠ "__name__" := by decide) (hdb : (x == ("__debug__" : Str)) = false := by decide)
    (he : starEach (e :: es) X.env = (false, eval e X.env) :: starEach es X.env := by rfl) (hpl : (backTo pos (starEach es X.env)).any (·.1) = false := by rfl) : EX X b' (.Call (.Name x p) (e :: es) [] pos) (tCB r t) (eCall op f) :=
  ⟨pe_callB hc hg hm hv ha.pe hn hdb he hpl, sn_call hs ha.sn⟩
theorem ex_callTy (hc : CallR X (.type id) r) (hs : CalS X.K b b' r op) (hm : X.mg x = none) (hv : bootBuiltins x = some (.type id)) (ha : EA X b (e :: es) t f) (hg : Gl X x := by rfl) (hn : x ≠ "__name__" := by decide) (hdb : (x == ("__debug__" : Str)) = false := by decide)
    (he : starEach (e :: es) X.env = (false, eval e X.env) :: starEach es X.env := by rfl) (hpl : (backTo pos (starEach es X.env)).any (·.1) = false := by rfl) : EX X b' (.Call (.Name x p) (e :: es) [] pos) (tCB r t) (eCall op f) :=
  ⟨pe_callTy hc hg hm hv ha.pe hn hdb he hpl, sn_call hs ha.sn⟩
end
theorem RBL.one {g0 g : Gh} {H0 H : Hp} {d : D} {vs : List V} (h : RBL K b g0 H0 g H [d] vs) : ∃ v, vs = [v] ∧ RB K b g0 H0 g H d v := by
  obtain ⟨v, ws, rfl, r, t⟩ := RepL.inv h
  have : ws = [] := by rw [RepL] at t; exact t
  subst this
  exact ⟨v, rfl, r⟩
theorem RBL.two {g0 g : Gh} {H0 H : Hp} {d e : D} {vs : List V} (h : RBL K b g0 H0 g H [d, e] vs) : ∃ v w, vs = [v, w] ∧ RB K b g0 H0 g H d v ∧ RB K b g0 H0 g H e w := by
  obtain ⟨v, ws, rfl, r, t⟩ := RepL.inv h
  obtain ⟨w, rfl, q⟩ := RBL.one (b := b) (g0 := g0) (H0 := H0) (g := g) (H := H) t
  exact ⟨v, w, rfl, r, q⟩
/-- one argument -/
theorem cal_one {r : List V → Hp → VK → Prop} {op : List D → Option D} (hop : ∀ ds d, op ds = some d → ∃ x, ds = [x])
    (h : ∀ (g0 : Gh) (H0 : Hp) (g : Gh) (H : Hp) (ω : Wd) (x : D) (v : V) (d : D) (Q : VK), GOk K g H ω → Step g0 H0 g H → RB K b g0 H0 g H x v → op [x] = some d → (∀ u g' H', Step g H g' H' → GOk K g' H' ω → RB K b' g0 H0 g' H' d u → Q u H') → r [v] H Q) : CalS K b b' r op := by
  intro g0 H0 g H ω ds vs d Q ok st rr e k
  obtain ⟨x, rfl⟩ := hop ds d e
  obtain ⟨v, rfl, q⟩ := RBL.one rr
  exact h g0 H0 g H ω x v d Q ok st q e k
/-- len -/
def opLen : List D → Option D
  | [.list xs] => some (.int xs.length)
  | [.tuple xs] => some (.int xs.length)
  | [.str z] => if z.length ≤ sizeLine then some (.int z.length) else none
  | _ => none
theorem cal_len : CalS K b true (fun xs H Q => ∃ x n, xs = [x] ∧ LenV K x H n ∧ Q (.int n) H) opLen := by
  refine cal_one (fun ds d e => ?_) fun g0 H0 g H ω x v d Q ok st r e k => ?_
  · unfold opLen at e; split at e <;> first | exact ⟨_, rfl⟩ | cases e
  · unfold opLen at e
    split at e
    · rename_i xs h; cases h; cases e
      obtain ⟨a, vs, rfl, q, z, l⟩ := r.lstV ok
      exact ⟨_, vs.length, rfl, .inl ⟨vs, SqL.of q, rfl⟩, by rw [RepL.length l]; exact k _ g H (.refl _ _) ok .int⟩
    · rename_i xs h; cases h; cases e
      obtain ⟨a, vs, rfl, q, z, l⟩ := r.tupV ok
      exact ⟨_, vs.length, rfl, .inr ⟨vs, q, rfl⟩, by rw [RepL.length l]; exact k _ g H (.refl _ _) ok .int⟩
    · rename_i z h; cases h
      split at e
      · rename_i hz; cases e
        rw [r.strV]
        exact ⟨_, z.length, rfl, ⟨hz, rfl⟩, k _ g H (.refl _ _) ok .int⟩
      · cases e
    · cases e
/-- int of an int, of a truth -/
def opInt : List D → Option D
  | [.int i] => some (.int i)
  | [.bool c] => some (.int (if c then 1 else 0))
  | _ => none
theorem cal_int : CalS K b true (fun xs H Q => (∃ i, xs = [.int i] ∧ Q (.int i) H) ∨ ∃ k, xs = [.bl k] ∧ Q (.int (if k then 1 else 0)) H) opInt := by
  refine cal_one (fun ds d e => ?_) fun g0 H0 g H ω x v d Q ok st r e k => ?_
  · unfold opInt at e; split at e <;> first | exact ⟨_, rfl⟩ | cases e
  · unfold opInt at e
    split at e
    · rename_i i h; cases h; cases e
      rw [r.intV]
      exact .inl ⟨_, rfl, k _ g H (.refl _ _) ok .int⟩
    · rename_i i h; cases h; cases e
      rw [r.blV]
      exact .inr ⟨_, rfl, k _ g H (.refl _ _) ok .int⟩
    · cases e
/-- str of an int -/
def opStr : List D → Option D
  | [.int i] => if i.natAbs.log2 < 1920 then some (.str (toString i)) else none
  | _ => none
theorem cal_str : CalS K b true (fun xs H Q => ∃ i, xs = [.int i] ∧ i.natAbs.log2 < 1920 ∧ Q (.str (toString i)) H) opStr := by
  refine cal_one (fun ds d e => ?_) fun g0 H0 g H ω x v d Q ok st r e k => ?_
  · unfold opStr at e; split at e <;> first | exact ⟨_, rfl⟩ | cases e
  · unfold opStr at e
    split at e
    · rename_i i h; cases h
      split at e <;> cases e
      rename_i hz
      rw [r.intV]
      exact ⟨_, rfl, hz, k _ g H (.refl _ _) ok .str⟩
    · cases e
def opAbs : List D → Option D
  | [.int i] => some (.int (if i < 0 then -i else i))
  | _ => none
theorem cal_abs : CalS K b true (fun xs H Q => ∃ i, xs = [.int i] ∧ Q (.int (if i < 0 then -i else i)) H) opAbs := by
  refine cal_one (fun ds d e => ?_) fun g0 H0 g H ω x v d Q ok st r e k => ?_
  · unfold opAbs at e; split at e <;> first | exact ⟨_, rfl⟩ | cases e
  · unfold opAbs at e
    split at e
    · rename_i i h; cases h; cases e
      rw [r.intV]
      exact ⟨_, rfl, k _ g H (.refl _ _) ok .int⟩
    · cases e
/-- min, max of two ints -/
def opMin2 : List D → Option D
  | [.int i, .int j] => some (.int (if j < i then j else i))
  | _ => none
def opMax2 : List D → Option D
  | [.int i, .int j] => some (.int (if j > i then j else i))
  | _ => none
theorem cal_int2 {r : List V → Hp → VK → Prop} {op : List D → Option D} (h : ∀ ds d, op ds = some d → ∃ i j m, ds = [.int i, .int j] ∧ d = .int m ∧ ∀ (Q : VK) (H : Hp), Q (.int m) H → r [.int i, .int j] H Q) : CalS K b true r op := by
  intro g0 H0 g H ω ds vs d Q ok st rr e k
  obtain ⟨i, j, m, rfl, rfl, hq⟩ := h ds d e
  obtain ⟨v, w, rfl, q1, q2⟩ := RBL.two rr
  rw [q1.intV, q2.intV]
  exact hq Q H (k _ g H (.refl _ _) ok .int)
theorem cal_min2 : CalS K b true (fun xs H Q => ∃ i j, xs = [.int i, .int j] ∧ Q (.int (if j < i then j else i)) H) opMin2 := cal_int2 fun ds d e => by
  unfold opMin2 at e
  split at e
  · cases e; exact ⟨_, _, _, rfl, rfl, fun Q H q => ⟨_, _, rfl, q⟩⟩
  · cases e
theorem cal_max2 : CalS K b true (fun xs H Q => ∃ i j, xs = [.int i, .int j] ∧ Q (.int (if j > i then j else i)) H) opMax2 := cal_int2 fun ds d e => by
  unfold opMax2 at e
  split at e
  · cases e; exact ⟨_, _, _, rfl, rfl, fun Q H q => ⟨_, _, rfl, q⟩⟩
  · cases e
/-- all ints; all truths; all texts -/
def intsOf : List D → Option (List Int)
  | [] => some []
  | .int i :: ds => (intsOf ds).map (i :: ·)
  | _ => none
theorem intsOf_eq : ∀ {ds : List D} {ns : List Int}, intsOf ds = some ns → ds = ns.map PyData.int
  | [], ns, e => by cases e; rfl
  | .int i :: ds, ns, e => by
    rw [intsOf] at e
    obtain ⟨ms, h, rfl⟩ := Option.map_eq_some_iff.mp e
    rw [intsOf_eq h]; rfl
  | .none :: _, _, e => nomatch e
  | .bool _ :: _, _, e => nomatch e
  | .str _ :: _, _, e => nomatch e
  | .list _ :: _, _, e => nomatch e
  | .tuple _ :: _, _, e => nomatch e
  | .dict _ :: _, _, e => nomatch e
theorem intsOf_map (ns : List Int) : intsOf (ns.map PyData.int) = some ns := by
  induction ns with
  | nil => rfl
  | cons n ns ih => rw [List.map_cons, intsOf, ih]; rfl
def blsOf : List D → Option (List Bool)
  | [] => some []
  | .bool i :: ds => (blsOf ds).map (i :: ·)
  | _ => none
theorem blsOf_eq : ∀ {ds : List D} {ns : List Bool}, blsOf ds = some ns → ds = ns.map PyData.bool
  | [], ns, e => by cases e; rfl
  | .bool i :: ds, ns, e => by
    rw [blsOf] at e
    obtain ⟨ms, h, rfl⟩ := Option.map_eq_some_iff.mp e
    rw [blsOf_eq h]; rfl
  | .none :: _, _, e => nomatch e
  | .int _ :: _, _, e => nomatch e
  | .str _ :: _, _, e => nomatch e
  | .list _ :: _, _, e => nomatch e
  | .tuple _ :: _, _, e => nomatch e
  | .dict _ :: _, _, e => nomatch e
theorem blsOf_map (ns : List Bool) : blsOf (ns.map PyData.bool) = some ns := by
  induction ns with
  | nil => rfl
  | cons n ns ih => rw [List.map_cons, blsOf, ih]; rfl
/-- sum of a list or a tuple of ints -/
def opSum : List D → Option D
  | [.list xs] => (intsOf xs).map fun ns => .int ns.sum
  | [.tuple xs] => (intsOf xs).map fun ns => .int ns.sum
  | _ => none
def rSumA (K : PySem.W.Frag) : List V → Hp → VK → Prop := fun vs H Q => ∃ (a : Addr) (ns : List Int), vs = [V.ref a] ∧ (SqL K H a (ns.map V.int) ∨ SqT K H a (ns.map V.int)) ∧ Q (.int ns.sum) H
open PyProof.V PyProof.Rows PySem.W in
theorem cr_sumA {X : Cx} (hc : X.calm = true) : CallR X (.builtin "sum") (rSumA X.K) := by
  intro pins s σ H vs us Q I r h
  obtain ⟨a, ns, rfl, hs | hs, q⟩ := h
  · exact cr_sum hc pins s σ H _ us Q I r ⟨a, ns, rfl, hs, q⟩
  · obtain ⟨its, rv, hl, _⟩ := I.tuple hs
    rw [Vals.ref1 r]
    have hi := rv.ints
    obtain ⟨xs, hx⟩ := hi.allInts.items
    have hn : numsOf its.toArray.toList = ns := by rw [show its.toArray.toList = its from rfl, hi.numsOf]
    have hl' : s.heap.IsTuple a its.toArray := hl
    rw [hx] at hl' hn
    rw [nums_intItems] at hn
    refine PySem.W.ktm_sumG (I.ok.hd hc) hl' fun h' tk t' hk => ?_
    rw [preSum_eq, List.take_of_length_le (by simp), hn]
    exact ⟨.int _, H, I.kept hk, ⟨_, rfl⟩, q⟩
theorem cal_sum : CalS K b true (rSumA K) opSum := by
  refine cal_one (fun ds d e => ?_) fun g0 H0 g H ω x v d Q ok st r e k => ?_
  · unfold opSum at e; split at e <;> first | exact ⟨_, rfl⟩ | cases e
  · unfold opSum at e
    split at e
    · rename_i xs h; cases h
      obtain ⟨ns, h1, rfl⟩ := Option.map_eq_some_iff.mp e
      obtain ⟨a, vs, rfl, q, z, l⟩ := r.lstV ok
      rw [intsOf_eq h1] at l
      have l' := RepL.intsV l
      subst l'
      exact ⟨a, ns, rfl, .inl (SqL.of q), k _ g H (.refl _ _) ok .int⟩
    · rename_i xs h; cases h
      obtain ⟨ns, h1, rfl⟩ := Option.map_eq_some_iff.mp e
      obtain ⟨a, vs, rfl, q, z, l⟩ := r.tupV ok
      rw [intsOf_eq h1] at l
      have l' := RepL.intsV l
      subst l'
      exact ⟨a, ns, rfl, .inr q, k _ g H (.refl _ _) ok .int⟩
    · cases e
def opAll : List D → Option D
  | [.list xs] => (blsOf xs).map fun ns => .bool (ns.all id)
  | _ => none
def opAny : List D → Option D
  | [.list xs] => (blsOf xs).map fun ns => .bool (ns.any id)
  | _ => none
theorem cal_all : CalS K b true (rAll K) opAll := by
  refine cal_one (fun ds d e => ?_) fun g0 H0 g H ω x v d Q ok st r e k => ?_
  · unfold opAll at e; split at e <;> first | exact ⟨_, rfl⟩ | cases e
  · unfold opAll at e
    split at e
    · rename_i xs h; cases h
      obtain ⟨ns, h1, rfl⟩ := Option.map_eq_some_iff.mp e
      obtain ⟨a, vs, rfl, q, z, l⟩ := r.lstV ok
      rw [blsOf_eq h1] at l
      have l' := RepL.blsV l
      subst l'
      exact ⟨a, ns, rfl, SqL.of q, k _ g H (.refl _ _) ok .bl⟩
    · cases e
theorem cal_any : CalS K b true (rAny K) opAny := by
  refine cal_one (fun ds d e => ?_) fun g0 H0 g H ω x v d Q ok st r e k => ?_
  · unfold opAny at e; split at e <;> first | exact ⟨_, rfl⟩ | cases e
  · unfold opAny at e
    split at e
    · rename_i xs h; cases h
      obtain ⟨ns, h1, rfl⟩ := Option.map_eq_some_iff.mp e
      obtain ⟨a, vs, rfl, q, z, l⟩ := r.lstV ok
      rw [blsOf_eq h1] at l
      have l' := RepL.blsV l
      subst l'
      exact ⟨a, ns, rfl, SqL.of q, k _ g H (.refl _ _) ok .bl⟩
    · cases e
/-- tuple of a list, of a tuple -/
def opTuple : List D → Option D
  | [.list xs] => some (.tuple xs)
  | [.tuple xs] => some (.tuple xs)
  | _ => none
theorem cal_tuple : CalS K b b (fun xs H Q => ∃ p ys, xs = [.ref p] ∧ ((SqL K H p ys ∧ ∀ l, H l = none → Q (.ref l) (upd H l (.tup ys))) ∨ (SqT K H p ys ∧ Q (.ref p) H))) opTuple := by
  refine cal_one (fun ds d e => ?_) fun g0 H0 g H ω x v d Q ok st r e k => ?_
  · unfold opTuple at e; split at e <;> first | exact ⟨_, rfl⟩ | cases e
  · unfold opTuple at e
    split at e
    · rename_i xs h; cases h; cases e
      obtain ⟨a, vs, rfl, q, z, l⟩ := r.lstV ok
      refine ⟨a, vs, rfl, .inl ⟨SqL.of q, fun p hp => ?_⟩⟩
      obtain ⟨s2, ok2⟩ := alloc ok hp (o := .tup vs) rfl
      exact k _ _ _ s2 ok2 (.newTup ok st hp z l)
    · rename_i xs h; cases h; cases e
      have r' := r
      obtain ⟨a, vs, rfl, q, z, l⟩ := r.tupV ok
      exact ⟨a, vs, rfl, .inr ⟨q, k _ g H (.refl _ _) ok r'⟩⟩
    · cases e
/-- list of a list, of a tuple: a list of one's own -/
def aList (f : DA) : DA := fun ρ ω => match f ρ ω with
  | some ([.list xs], ω1) => some (xs, ω1)
  | some ([.tuple xs], ω1) => some (xs, ω1)
  | _ => none
def rListOf (K : PySem.W.Frag) : List V → Hp → VK → Prop := fun xs H Q => ∃ p ys, xs = [.ref p] ∧ (SqL K H p ys ∨ SqT K H p ys) ∧ ∀ l, H l = none → Q (.ref l) (upd H l (.lst ys))
theorem newOwn {g : Gh} {H : Hp} {ω : Wd} (ok : GOk K g H ω) {p : Addr} {o : HO} (hp : H p = none) : Step g H g (upd H p o) ∧ GOk K g (upd H p o) ω ∧ g.G p = none ∧ ¬ g.S p := by
  obtain ⟨s2, ok2⟩ := allocOwn ok hp (o := o)
  refine ⟨s2, ok2, ?_, fun q => by obtain ⟨u, e, _⟩ := ok.sl p q; rw [hp] at e; cases e⟩
  cases q : g.G p with
  | none => rfl
  | some u => rw [ok.sub p u q] at hp; cases hp
theorem snn_list {t : TA} {f : DA} (h : SndA K true t f) : SndN K (tCB (rListOf K) t) (aList f) := by
  intro g0 H0 g H ρ ω σ Q ds ω' ok st sl e k
  unfold aList at e
  split at e
  · rename_i xs ω1 e1
    cases e
    refine h g0 H0 g H ρ ω σ _ _ ω' ok st sl e1 fun vs g1 H1 s1 ok1 r1 => ?_
    obtain ⟨v, rfl, q⟩ := RBL.one r1
    obtain ⟨a, vs, rfl, q, z, l⟩ := q.lstV ok1
    refine ⟨a, vs, rfl, .inl (SqL.of q), fun p hp => ?_⟩
    obtain ⟨s2, ok2, nG, nS⟩ := newOwn ok1 hp (o := .lst vs)
    exact k p vs g1 _ (s1.trans s2) ok2 (s1.al p hp) upd_same nG nS z l
  · rename_i xs ω1 e1
    cases e
    refine h g0 H0 g H ρ ω σ _ _ ω' ok st sl e1 fun vs g1 H1 s1 ok1 r1 => ?_
    obtain ⟨v, rfl, q⟩ := RBL.one r1
    obtain ⟨a, vs, rfl, q, z, l⟩ := q.tupV ok1
    refine ⟨a, vs, rfl, .inr q, fun p hp => ?_⟩
    obtain ⟨s2, ok2, nG, nS⟩ := newOwn ok1 hp (o := .lst vs)
    exact k p vs g1 _ (s1.trans s2) ok2 (s1.al p hp) upd_same nG nS z l
  · cases e
theorem en_list {e : Expr} {t : TA} {f : DA} {p pos : Pos} (hm : X.mg "list" = none) (ha : EA X true [e] t f) (hg : Gl X "list" := by rfl)
    (he : starEach [e] X.env = (false, eval e X.env) :: starEach [] X.env := by rfl) (hpl : (backTo pos (starEach [] X.env)).any (·.1) = false := by rfl) : EN X (.Call (.Name "list" p) [e] [] pos) (tCB (rListOf X.K) t) (aList f) :=
  ⟨pe_callTy call_list_of hg hm PyProof.Rows.boot_list ha.pe (by decide) (by decide) he hpl, snn_list ha.sn⟩
/-- isinstance -/
def isi (T : String) : D → Bool
  | .none => false
  | .bool _ => T == "bool" || T == "int"
  | .int _ => T == "int"
  | .str _ => T == "str"
  | .list _ => T == "list"
  | .tuple _ => T == "tuple"
  | .dict _ => false
end
end Dn
end

section
namespace Dn
open PySem PySem.Spec L2
variable [Tb]

section
variable {X : Cx} {K : PySem.W.Frag} {b b' : Bool}
/-! ## isinstance -/
def tyN : D → Option String
  | .none => some "NoneType"
  | .bool _ => some "bool"
  | .int _ => some "int"
  | .str _ => some "str"
  | .list _ => some "list"
  | .tuple _ => some "tuple"
  | .dict _ => none
structure KitOk (T : String) : Prop where
  h0 : kitB "NoneType" T = some (isi T .none)
  h1 : ∀ c, kitB "bool" T = some (isi T (.bool c))
  h2 : ∀ c, kitB "int" T = some (isi T (.int c))
  h3 : ∀ c, kitB "str" T = some (isi T (.str c))
  h4 : ∀ c, kitB "list" T = some (isi T (.list c))
  h5 : ∀ c, kitB "tuple" T = some (isi T (.tuple c))
theorem kit_int : KitOk "int" := ⟨by decide +kernel, fun _ => by show kitB "bool" "int" = some true; decide +kernel, fun _ => by show kitB "int" "int" = some true; decide +kernel, fun _ => by show kitB "str" "int" = some false; decide +kernel, fun _ => by show kitB "list" "int" = some false; decide +kernel, fun _ => by show kitB "tuple" "int" = some false; decide +kernel⟩
theorem kit_bool : KitOk "bool" := ⟨by decide +kernel, fun _ => by show kitB "bool" "bool" = some true; decide +kernel, fun _ => by show kitB "int" "bool" = some false; decide +kernel, fun _ => by show kitB "str" "bool" = some false; decide +kernel, fun _ => by show kitB "list" "bool" = some false; decide +kernel, fun _ => by show kitB "tuple" "bool" = some false; decide +kernel⟩
theorem kit_str : KitOk "str" := ⟨by decide +kernel, fun _ => by show kitB "bool" "str" = some false; decide +kernel, fun _ => by show kitB "int" "str" = some false; decide +kernel, fun _ => by show kitB "str" "str" = some true; decide +kernel, fun _ => by show kitB "list" "str" = some false; decide +kernel, fun _ => by show kitB "tuple" "str" = some false; decide +kernel⟩
theorem kit_list : KitOk "list" := ⟨by decide +kernel, fun _ => by show kitB "bool" "list" = some false; decide +kernel, fun _ => by show kitB "int" "list" = some false; decide +kernel, fun _ => by show kitB "str" "list" = some false; decide +kernel, fun _ => by show kitB "list" "list" = some true; decide +kernel, fun _ => by show kitB "tuple" "list" = some false; decide +kernel⟩
theorem kit_tuple : KitOk "tuple" := ⟨by decide +kernel, fun _ => by show kitB "bool" "tuple" = some false; decide +kernel, fun _ => by show kitB "int" "tuple" = some false; decide +kernel, fun _ => by show kitB "str" "tuple" = some false; decide +kernel, fun _ => by show kitB "list" "tuple" = some false; decide +kernel, fun _ => by show kitB "tuple" "tuple" = some true; decide +kernel⟩
theorem kit_dict : KitOk "dict" := ⟨by decide +kernel, fun _ => by show kitB "bool" "dict" = some false; decide +kernel, fun _ => by show kitB "int" "dict" = some false; decide +kernel, fun _ => by show kitB "str" "dict" = some false; decide +kernel, fun _ => by show kitB "list" "dict" = some false; decide +kernel, fun _ => by show kitB "tuple" "dict" = some false; decide +kernel⟩
theorem KitOk.all {T : String} (k : KitOk T) : ∀ d t, tyN d = some t → kitB t T = some (isi T d)
  | .none, _, e => by cases e; exact k.h0
  | .bool c, _, e => by cases e; exact k.h1 c
  | .int c, _, e => by cases e; exact k.h2 c
  | .str c, _, e => by cases e; exact k.h3 c
  | .list c, _, e => by cases e; exact k.h4 c
  | .tuple c, _, e => by cases e; exact k.h5 c
  | .dict _, _, e => nomatch e
def notOb : D → Bool
  | .dict _ => false
  | _ => true
def opIsi (T : String) (d : D) : Option D := if notOb d = true then some (.bool (isi T d)) else none
theorem RB.ty {g0 g : Gh} {H0 H : Hp} {ω : Wd} {d : D} {v : V} (ok : GOk K g H ω) (h : RB K b g0 H0 g H d v) (n : notOb d = true) : ∃ t, tyN d = some t ∧ TyX K H v (.type t) := by
  cases d with
  | none => rw [h.nonV]; exact ⟨_, rfl, .base .non⟩
  | bool c => rw [h.blV]; exact ⟨_, rfl, .base (.bl _)⟩
  | int c => rw [h.intV]; exact ⟨_, rfl, .base (.int _)⟩
  | str c => rw [h.strV]; exact ⟨_, rfl, .base (.str _)⟩
  | list c =>
    obtain ⟨a, vs, rfl, q, _⟩ := h.lstV ok
    exact ⟨_, rfl, .base (.lst q)⟩
  | tuple c =>
    obtain ⟨a, vs, rfl, q, _⟩ := h.tupV ok
    refine ⟨_, rfl, ?_⟩
    rcases q with (q | ⟨o, q⟩) | ⟨o, its, n, q, c, _⟩
    · exact .base (.tup q)
    · exact .fTuple q
    · exact .kTuple q c
  | dict c => cases n
theorem ex_isi {T : String} {e : Expr} {ta : TE} {fa : DE} {x : Str} {p p2 pos : Pos} (k : KitOk T) (hm : X.mg "isinstance" = none) (hmT : X.mg x = none) (hvT : bootBuiltins x = some (.type T)) (he : EX X b e ta fa) (hg : Gl X "isinstance" := by rfl) (hgT : Gl X x := by rfl) (hnT : x ≠ "__name__" := by decide) (hdT : (x == ("__debug__" : Str)) = false := by decide)
    (hs1 : starEach [e, .Name x p2] X.env = (false, eval e X.env) :: starEach [.Name x p2] X.env := by rfl) (hs2 : starEach [.Name x p2] X.env = (false, eval (.Name x p2) X.env) :: starEach [] X.env := by rfl) (hpl : (backTo pos (starEach [.Name x p2] X.env)).any (·.1) = false := by rfl) :
    EX X true (.Call (.Name "isinstance" p) [e, .Name x p2] [] pos) (tCB (rIsi X.K) (tCons ta (tCons (tC (.ty T)) tNil))) (eUn (opIsi T) fa) := by
  refine ⟨pe_callB call_isi hg hm PyProof.Rows.boot_isinstance (pa_cons he.pe (pa_cons (pe_bltn hgT hmT hvT rfl hnT hdT) pa_nil hs2) hs1) (by decide) (by decide) hs1 hpl, ?_⟩
  intro g0 H0 g H ρ ω σ Q d ω' ok st sl e k'
  unfold eUn at e
  split at e
  · cases e
  rename_i x1 ω1 e1
  split at e
  · cases e
  rename_i z e3
  cases e
  unfold opIsi at e3
  split at e3 <;> cases e3
  rename_i hn
  refine he.sn g0 H0 g H ρ ω σ _ x1 ω' ok st sl e1 fun v g1 H1 s1 ok1 r1 => ?_
  obtain ⟨t, ht, ty⟩ := r1.ty ok1 hn
  exact ⟨v, .ty T, .type t, .type T, _, rfl, .ty T, ty, kit_ty (k.all x1 t ht), k' _ g1 H1 s1 ok1 .bl⟩

/-! ## calls of defs -/
/-- what a def promises: it is the function f on data and the store -/
def spD (K : PySem.W.Frag) (n : Nat) (f : List D → Wd → Option (D × Wd)) : Sp := fun vs H Q _ => ∃ (g : Gh) (ω : Wd) (ds : List D) (d : D) (ω' : Wd), vs.length = n ∧ GOk K g H ω ∧ RepL K g.ι g.G ds vs ∧ f ds ω = some (d, ω') ∧
  ∀ v g' H', Step g H g' H' → GOk K g' H' ω' → Rep K g'.ι g'.G d v → Q v H'
def eFun (f : List D → Wd → Option (D × Wd)) (a : DA) : DE := fun ρ ω => match a ρ ω with
  | none => none
  | some (ds, ω1) => f ds ω1
/-- a def that leaves the store alone -/
def eFunP (f : List D → Wd → Option (D × Wd)) (a : DA) : DE := fun ρ ω => match a ρ ω with
  | none => none
  | some (ds, ω1) => match f ds ⟨false, []⟩ with
    | none => none
    | some (d, _) => some (d, ω1)
theorem sn_fun {f : List D → Wd → Option (D × Wd)} {n : Nat} {t : TA} {fa : DA} (h : SndA K true t fa) (l : LenA n fa) : Snd K true (tCall (spD K n f) [] E0 t) (eFun f fa) := by
  intro g0 H0 g H ρ ω σ Q d ω' ok st sl e k
  unfold eFun at e
  split at e
  · cases e
  rename_i ds ω1 e1
  refine h g0 H0 g H ρ ω σ _ ds ω1 ok st sl e1 fun vs g1 H1 s1 ok1 r1 => ?_
  rw [List.append_nil]
  exact ⟨g1, ω1, ds, d, ω', by rw [RepL.length r1]; exact l _ _ _ _ e1, ok1, r1, e, fun v g2 H2 s2 ok2 r2 => k v g2 H2 (s1.trans s2) ok2 r2⟩
theorem sn_funP {f : List D → Wd → Option (D × Wd)} {n : Nat} {t : TA} {fa : DA} (h : SndA K b t fa) (l : LenA n fa) : Snd K b (tCall (spD K n f) [] E0 t) (eFunP f fa) := by
  intro g0 H0 g H ρ ω σ Q d ω' ok st sl e k
  unfold eFunP at e
  split at e
  · cases e
  rename_i ds ω1 e1
  split at e
  · cases e
  rename_i d1 ω2 e2
  cases e
  refine h g0 H0 g H ρ ω σ _ ds ω' ok st sl e1 fun vs g1 H1 s1 ok1 r1 => ?_
  rw [List.append_nil]
  -- the callee sees no store
  have TS : ∀ a, Tb.T a → g1.S a := fun a h => (ok1.tb a h).1
  refine ⟨⟨false, g1.ι, Tb.T, hb b g0 H0 g1 H1⟩, ⟨false, []⟩, ds, d, ω2, by rw [RepL.length r1]; exact l _ _ _ _ e1, ⟨fun a o h => (hb_sub ok1 h).1, fun a o h => (hb_sub ok1 h).2.1, fun a o h q => (hb_sub ok1 h).2.2 (TS a q), fun n m a hn => absurd hn (Nat.not_lt_zero _), fun n a hn => absurd hn (Nat.not_lt_zero _), fun n o e => by simp at e, fun a h => ?_, (fun h => nomatch h), fun P h => ⟨h, (ok1.tb P h).2⟩⟩, r1, e2, ?_⟩
  · obtain ⟨_, ⟨ps, e, _⟩, _⟩ := ok1.tb a h
    exact ⟨_, e, rfl⟩
  intro v gc Hc sc okc rc
  have same : ∀ a o, H1 a = some o → ¬ Tb.T a → Hc a = some o := fun a o h n => sc.fr a o h n
  have hι : gc.ι = g1.ι := sc.ιl rfl
  have st1 := st.trans s1
  -- what the callee has settled is none of the store's
  have noS : ∀ a o, gc.G a = some o → ¬ g1.S a := fun a o h q => by
    obtain ⟨u, eu, tu⟩ := ok1.sl a q
    have e2 := okc.sub a o h
    rw [same a u eu (fun z => okc.nS a o h (sc.Sm a z))] at e2
    cases e2
    have sq := okc.seq a o h
    cases o with
    | lst vs =>
      rcases sc.nw a vs h with z | z
      · exact (hb_sub ok1 z).2.2 q
      · rw [eu] at z; cases z
    | tup vs => cases tu
    | _ => cases sq
  have slc : ∀ a, g1.S a → ∃ o, Hc a = some o ∧ isTup o = false := fun a h => by
    by_cases t : Tb.T a
    · obtain ⟨_, ⟨ps, e, _⟩, _⟩ := okc.tb a t
      exact ⟨_, e, rfl⟩
    · obtain ⟨u, eu, tu⟩ := ok1.sl a h
      exact ⟨u, same a u eu t, tu⟩
  have tbc : ∀ P, Tb.T P → g1.S P ∧ GxR.TabG Hc P ∧ ∀ n, g1.ι n ≠ some P := fun P h => ⟨TS P h, (okc.tb P h).2.1, (ok1.tb P h).2.2⟩
  cases b with
  | true =>
    have stp : Step g1 H1 ⟨g1.live, g1.ι, g1.S, gc.G⟩ Hc := ⟨fun _ _ h => h, fun a o h => sc.Gm a o h, fun _ h => h, fun a o h ns => same a o h (fun z => ns (TS a z)), fun _ h => .inl h, sc.al, fun a vs h => sc.nw a vs h, rfl, fun _ => rfl⟩
    refine k v ⟨g1.live, g1.ι, g1.S, gc.G⟩ Hc (s1.trans stp) ⟨okc.sub, okc.seq, noS, ok1.inj, ok1.inS, fun n o e => ?_, slc, ok1.lv, tbc⟩ ?_
    · obtain ⟨a, ia, h⟩ := ok1.st n o e
      obtain ⟨z, ez⟩ := h.there
      exact ⟨a, ia, h.mono (fun _ _ h => h) (fun a o h => sc.Gm a o h) (by rw [same a z ez (fun t => (ok1.tb a t).2.2 n ia), ez])⟩
    · show Rep K g1.ι gc.G d v
      rw [← hι]; exact rc
  | false =>
    have stp : Step g1 H1 g1 Hc := ⟨fun _ _ h => h, fun a o h => h, fun _ h => h, fun a o h ns => same a o h (fun z => ns (TS a z)), fun _ h => .inl h, sc.al, fun a vs h => .inl h, rfl, fun _ => rfl⟩
    refine k v g1 Hc (s1.trans stp) ⟨fun a o h => same a o (ok1.sub a o h) (fun z => ok1.nS a o h (TS a z)), ok1.seq, ok1.nS, ok1.inj, ok1.inS, fun n o e => ?_, slc, ok1.lv, tbc⟩ ?_
    · obtain ⟨a, ia, h⟩ := ok1.st n o e
      obtain ⟨z, ez⟩ := h.there
      exact ⟨a, ia, h.mono (fun _ _ h => h) (fun a o h => h) (by rw [same a z ez (fun t => (ok1.tb a t).2.2 n ia), ez])⟩
    · show Rep K g1.ι (Fm g0 H0 g1 Hc) d v
      have rc' : Rep K g1.ι gc.G d v := by rw [← hι]; exact rc
      refine rc'.mono (fun _ _ h => h) fun a o h => Fm_some.mpr ⟨okc.sub a o h, okc.seq a o h, noS a o h, fun hl => ?_⟩
      cases o with
      | lst vs =>
        rcases sc.nw a vs h with z | z
        · exact (Fm_some.mp z).2.2.2 rfl
        · exact .inr (st1.al a z)
      | _ => cases hl
section
variable {n k : Nat} {f : Addr} {fd : FuncData} {ps : List Str} {fn : List D → Wd → Option (D × Wd)} {x : Str} {p pos : Pos} {e : Expr} {es : List Expr} {t : TA} {fa : DA}
theorem ex_fun (F : FnOk X.prog X.w X.K X.mg X.base CX0 k f fd ps (spD X.K n fn)) (hr : Room k X.A) (hm : X.mg x = some (.ref f)) (hk : PySem.W.keepIn X.K (.ref f) = true) (hb : Binds X.K fd ps []) (ha : EA X true (e :: es) t fa) (l : LenA n fa) (hg : Gl X x := by rfl) (hdb : (x == ("__debug__" : Str)) = false := by decide)
    (he : starEach (e :: es) X.env = (false, eval e X.env) :: starEach es X.env := by rfl) (hpl : (backTo pos (starEach es X.env)).any (·.1) = false := by rfl) : EX X true (.Call (.Name x p) (e :: es) [] pos) (tCall (spD X.K n fn) [] E0 t) (eFun fn fa) :=
  ⟨pe_call F hr hg hm hk hb .nil pass0 ha.pe hdb he hpl, sn_fun ha.sn l⟩
theorem ex_funP (F : FnOk X.prog X.w X.K X.mg X.base CX0 k f fd ps (spD X.K n fn)) (hr : Room k X.A) (hm : X.mg x = some (.ref f)) (hk : PySem.W.keepIn X.K (.ref f) = true) (hb' : Binds X.K fd ps []) (ha : EA X b (e :: es) t fa) (l : LenA n fa) (hg : Gl X x := by rfl) (hdb : (x == ("__debug__" : Str)) = false := by decide)
    (he : starEach (e :: es) X.env = (false, eval e X.env) :: starEach es X.env := by rfl) (hpl : (backTo pos (starEach es X.env)).any (·.1) = false := by rfl) : EX X b (.Call (.Name x p) (e :: es) [] pos) (tCall (spD X.K n fn) [] E0 t) (eFunP fn fa) :=
  ⟨pe_call F hr hg hm hk hb' .nil pass0 ha.pe hdb he hpl, sn_funP ha.sn l⟩
end

/-! ## slices -/
def slD (xs : List D) (lo hi : Option Int) : List D := (xs.drop (HT.sIx xs.length 0 lo)).take (HT.sIx xs.length xs.length hi - HT.sIx xs.length 0 lo)
abbrev DO := Ro → Wd → Option (Option Int × Wd)
def SndO (K : PySem.W.Frag) (t : TO) (f : DO) : Prop :=
  ∀ (g0 : Gh) (H0 : Hp) (g : Gh) (H : Hp) (ρ : Ro) (ω : Wd) (σ : L2.St) (Q : Option Int → Hp → Prop) (d : Option Int) (ω' : Wd), GOk K g H ω → Step g0 H0 g H → Slots K H0 g H ρ σ → f ρ ω = some (d, ω') →
    (∀ g' H', Step g H g' H' → GOk K g' H' ω' → Q d H') → t σ H Q
structure EO (X : Cx) (e : Option Expr) (t : TO) (f : DO) : Prop where
  pe : PO X e t
  sn : SndO X.K t f
def oNone : DO := fun _ ω => some (none, ω)
def oSome (f : DE) : DO := fun ρ ω => match f ρ ω with
  | some (.int i, ω1) => some (some i, ω1)
  | _ => none
theorem eo_none : EO X none tNoPart oNone := ⟨po_none, fun g0 H0 g H ρ ω σ Q d ω' ok st sl e k => by cases e; exact k g H (.refl _ _) ok⟩
theorem eo_some {e : Expr} {t : TE} {f : DE} (h : EX X b e t f) : EO X (some e) (tPart t) (oSome f) := by
  refine ⟨po_some h.pe, ?_⟩
  intro g0 H0 g H ρ ω σ Q d ω' ok st sl e k
  unfold oSome at e
  split at e
  · rename_i i ω1 e1
    cases e
    exact h.sn g0 H0 g H ρ ω σ _ _ ω' ok st sl e1 fun v g1 H1 s1 ok1 r1 => ⟨_, r1.intV, k g1 H1 s1 ok1⟩
  · cases e
def opSl (x : D) (lo hi : Option Int) : Option D := match x with
  | .list xs => some (.list (slD xs lo hi))
  | .tuple xs => some (.tuple (slD xs lo hi))
  | _ => none
def rSlD (K : PySem.W.Frag) : V → Option Int → Option Int → Hp → VK → Prop := fun x lo hi H Q => rSlL K x lo hi H Q ∨ rSlA K x lo hi H Q
theorem sl_D : SlR X (rSlD X.K) := sl_list.or sl_tupA
def eSl (op : D → Option Int → Option Int → Option D) (f : DE) (l h : DO) : DE := fun ρ ω => match f ρ ω with
  | none => none
  | some (x, ω1) => match l ρ ω1 with
    | none => none
    | some (lo, ω2) => match h ρ ω2 with
      | none => none
      | some (hi, ω3) => match op x lo hi with
        | none => none
        | some d => some (d, ω3)
theorem cutV_rep {ι : Ix} {G : Hp} {ds : List D} {vs : List V} (h : RepL K ι G ds vs) (lo hi : Option Int) : RepL K ι G (slD ds lo hi) (cutV vs lo hi) := by
  unfold slD cutV
  rw [h.length]
  exact (h.drop _).take _
def SlS (K : PySem.W.Frag) (b b' : Bool) (r : V → Option Int → Option Int → Hp → VK → Prop) (op : D → Option Int → Option Int → Option D) : Prop :=
  ∀ (g0 : Gh) (H0 : Hp) (g : Gh) (H : Hp) (ω : Wd) (x : D) (lo hi : Option Int) (v : V) (d : D) (Q : VK), GOk K g H ω → Step g0 H0 g H → RB K b g0 H0 g H x v → op x lo hi = some d →
    (∀ u g' H', Step g H g' H' → GOk K g' H' ω → RB K b' g0 H0 g' H' d u → Q u H') → r v lo hi H Q
theorem sls_seq : SlS K b b (rSlD K) opSl := by
  intro g0 H0 g H ω x lo hi v d Q ok st r e k
  cases x <;> simp only [opSl] at e <;> cases e
  · obtain ⟨a, vs, rfl, q, z, l⟩ := r.lstV ok
    refine .inl ⟨a, vs, rfl, SqL.of q, fun p hp => ?_⟩
    obtain ⟨s2, ok2⟩ := alloc ok hp (o := .lst (cutV vs lo hi)) rfl
    exact k _ _ _ s2 ok2 (.newLst ok st hp (Nat.le_trans (cutV_length _ _ _) z) (cutV_rep l lo hi))
  · have r' := r
    obtain ⟨a, vs, rfl, q, z, l⟩ := r.tupV ok
    have hn := RepL.length l
    refine .inr ⟨a, vs, rfl, q, fun hw => ?_, fun _ p hp => ?_⟩
    · refine k _ g H (.refl _ _) ok ?_
      rename_i xs
      have e2 : slD xs lo hi = xs := by
        unfold slD
        rw [← hn, hw.1, hw.2, List.drop_zero, Nat.sub_zero]
        rw [hn]; exact List.take_length
      rw [e2]; exact r'
    · obtain ⟨s2, ok2⟩ := alloc ok hp (o := .tup (cutV vs lo hi)) rfl
      exact k _ _ _ s2 ok2 (.newTup ok st hp (Nat.le_trans (cutV_length _ _ _) z) (cutV_rep l lo hi))
theorem sn_sl {r : V → Option Int → Option Int → Hp → VK → Prop} {op : D → Option Int → Option Int → Option D} {t : TE} {f : DE} {tl th : TO} {fl fh : DO} (hs : SlS K b b' r op) (h : Snd K b t f) (hl : SndO K tl fl) (hh : SndO K th fh) : Snd K b' (tSl r t tl th) (eSl op f fl fh) := by
  intro g0 H0 g H ρ ω σ Q d ω' ok st sl e k
  unfold eSl at e
  split at e
  · cases e
  rename_i x ω1 e1
  split at e
  · cases e
  rename_i lo ω2 e2
  split at e
  · cases e
  rename_i hi ω3 e3
  split at e
  · cases e
  rename_i d1 e4
  cases e
  refine h g0 H0 g H ρ ω σ _ x ω1 ok st sl e1 fun v g1 H1 s1 ok1 r1 => ?_
  refine hl g0 H0 g1 H1 ρ ω1 σ _ lo ω2 ok1 (st.trans s1) (sl.step s1 ok1) e2 fun g2 H2 s2 ok2 => ?_
  refine hh g0 H0 g2 H2 ρ ω2 σ _ hi ω' ok2 ((st.trans s1).trans s2) ((sl.step s1 ok1).step s2 ok2) e3 fun g3 H3 s3 ok3 => ?_
  exact hs g0 H0 g3 H3 ω' x lo hi v d Q ok3 (((st.trans s1).trans s2).trans s3) ((r1.mono s2).mono s3) e4 fun u g4 H4 s4 ok4 r4 => k u g4 H4 (((s1.trans s2).trans s3).trans s4) ok4 r4
theorem ex_sl {e : Expr} {lo hi : Option Expr} {t : TE} {f : DE} {tl th : TO} {fl fh : DO} {p2 pos : Pos} (h : EX X b e t f) (hl : EO X lo tl fl) (hh : EO X hi th fh) : EX X b (.Subscript e (.Slice lo hi none p2) pos) (tSl (rSlD X.K) t tl th) (eSl opSl f fl fh) :=
  ⟨pe_slice sl_D h.pe hl.pe hh.pe, sn_sl sls_seq h.sn hl.sn hh.sn⟩

/-! ## objects of the store: lists -/
def obN : D → Option Nat
  | .dict [(.int n, .none)] => if 0 ≤ n then some n.toNat else none
  | _ => none
theorem obN_ob (n : Nat) : obN (ob n) = some n := by simp [obN, ob]
theorem obN_eq {d : D} {n : Nat} (h : obN d = some n) : d = ob n := by
  unfold obN at h
  split at h
  · split at h
    · cases h
      unfold ob
      rename_i k hk
      rw [show ((k.toNat : Nat) : Int) = k from by omega]
    · cases h
  · cases h
theorem RB.ob {g0 g : Gh} {H0 H : Hp} {n : Nat} {v : V} (h : RB K b g0 H0 g H (ob n) v) : ∃ a, g.ι n = some a ∧ v = .ref a := by
  unfold RB Dn.ob at h; rw [Rep] at h
  obtain ⟨m, a, e, i, r⟩ := h
  have : m = n := by
    injection e with e1
    injection e1 with e2
    injection e2 with e3
    omega
  subst this
  exact ⟨a, i, r⟩
/-- box[i], box an object of the store -/
def eIxOb (f h : DE) : DE := fun ρ ω => match f ρ ω with
  | none => none
  | some (x, ω1) => match obN x with
    | none => none
    | some n => match h ρ ω1 with
      | some (.int i, ω2) => (match ω2.objs[n]? with
        | some (.lst xs) => (match atI xs i with
          | some d => some (d, ω2)
          | none => none)
        | _ => none)
      | _ => none
theorem ex_ixOb {ta tb : TE} {fa fb : DE} {ea eb : Expr} {pos : Pos} (ha : EX X b ea ta fa) (hb : EX X b' eb tb fb) (hs : PlainIx eb := by exact fun _ _ => rfl) : EX X true (.Subscript ea eb pos) (tOp (rIx X.K) ta tb) (eIxOb fa fb) := by
  refine ⟨pe_ix ix_seq ha.pe hb.pe hs, ?_⟩
  intro g0 H0 g H ρ ω σ Q d ω' ok st sl e k
  unfold eIxOb at e
  split at e
  · cases e
  rename_i x ω1 e1
  split at e
  · cases e
  rename_i n en
  split at e
  · rename_i i ω2 e2
    split at e
    · rename_i xs ex
      split at e
      · rename_i dd ed
        cases e
        have := obN_eq en
        subst this
        refine ha.sn g0 H0 g H ρ ω σ _ _ ω1 ok st sl e1 fun v g1 H1 s1 ok1 r1 => ?_
        refine hb.sn g0 H0 g1 H1 ρ ω1 σ _ _ ω' ok1 (st.trans s1) (sl.step s1 ok1) e2 fun w g2 H2 s2 ok2 r2 => ?_
        obtain ⟨a, ia, rfl⟩ := (r1.mono s2).ob
        obtain ⟨a', ia', vs, ha', rr⟩ := ok2.st n _ ex
        rw [ia] at ia'; cases ia'
        obtain ⟨u, h3, h4⟩ := RepL.atI rr ed
        rw [r2.intV]
        exact .inl ⟨a, vs, i, u, rfl, rfl, SqL.of ha', h3, k u g2 H2 (s1.trans s2) ok2 h4⟩
      · cases e
    · cases e
  · cases e
def eLenOb (f : DE) : DE := fun ρ ω => match f ρ ω with
  | none => none
  | some (x, ω1) => match obN x with
    | none => none
    | some n => match ω1.objs[n]? with
      | some (.lst xs) => some (.int xs.length, ω1)
      | _ => none
theorem ex_lenOb {ta : TE} {fa : DE} {ea : Expr} {p pos : Pos} (hm : X.mg "len" = none) (ha : EX X b ea ta fa) (hg : Gl X "len" := by rfl)
    (he : starEach [ea] X.env = (false, eval ea X.env) :: starEach [] X.env := by rfl) (hpl : (backTo pos (starEach [] X.env)).any (·.1) = false := by rfl) : EX X true (.Call (.Name "len" p) [ea] [] pos) (tCB (fun xs H Q => ∃ x n, xs = [x] ∧ LenV X.K x H n ∧ Q (.int n) H) (tCons ta tNil)) (eLenOb fa) := by
  refine ⟨pe_callB call_len hg hm PySem.boot_len (pa_cons ha.pe pa_nil he) (by decide) (by decide) he hpl, ?_⟩
  intro g0 H0 g H ρ ω σ Q d ω' ok st sl e k
  unfold eLenOb at e
  split at e
  · cases e
  rename_i x ω1 e1
  split at e
  · cases e
  rename_i n en
  split at e
  · rename_i xs ex
    cases e
    have := obN_eq en
    subst this
    refine ha.sn g0 H0 g H ρ ω σ _ _ ω' ok st sl e1 fun v g1 H1 s1 ok1 r1 => ?_
    obtain ⟨a, ia, rfl⟩ := r1.ob
    obtain ⟨a', ia', vs, ha', rr⟩ := ok1.st n _ ex
    rw [ia] at ia'; cases ia'
    exact ⟨_, vs.length, rfl, .inl ⟨vs, SqL.of ha', rfl⟩, by rw [rr.length]; exact k _ g1 H1 s1 ok1 .int⟩
  · cases e
/-- an object of the store is changed -/
theorem obSetG {g : Gh} {H : Hp} {ω : Wd} {n : Nat} {o o' : WO} {a : Addr} {u' : HO} (ok : GOk K g H ω) (en : ω.objs[n]? = some o) (ia : g.ι n = some a) (ht : isTup u' = false) (r : o'.is K g.ι g.G (upd H a u') a) : Step g H g (upd H a u') ∧ GOk K g (upd H a u') ⟨ω.live, ω.objs.set n o'⟩ := by
  have hn : n < ω.objs.length := (List.getElem?_eq_some_iff.mp en).1
  have hS : g.S a := ok.inS n a hn ia
  have nG : ∀ x u, g.G x = some u → x ≠ a := fun x u h z => by subst z; exact ok.nS x u h hS
  obtain ⟨z, ez, tz⟩ := ok.sl a hS
  refine ⟨⟨fun _ _ h => h, fun _ _ h => h, fun _ h => h, fun x u h hx => ?_, fun _ h => .inl h, fun x h => ?_, fun x vs h => .inl h, rfl, fun _ => rfl⟩, ⟨fun x u h => by rw [upd_ne (nG x u h)]; exact ok.sub x u h, ok.seq, ok.nS, ?_, ?_, fun m u e => ?_, fun x h => ?_, ?_, fun P h => ?_⟩⟩
  · have : x ≠ a := fun z => by subst z; exact hx hS
    rw [upd_ne this]; exact h
  · by_cases hxa : x = a
    · subst hxa; rw [upd_same] at h; cases h
    · rw [upd_ne hxa] at h; exact h
  · simpa using ok.inj
  · simpa using ok.inS
  · rw [List.getElem?_set] at e
    by_cases hm : n = m
    · subst hm
      rw [if_pos rfl, if_pos hn] at e
      cases e
      exact ⟨a, ia, r⟩
    · rw [if_neg hm] at e
      obtain ⟨c, ic, h⟩ := ok.st m u e
      have hm' : m < ω.objs.length := (List.getElem?_eq_some_iff.mp e).1
      have nac : c ≠ a := fun z => by subst z; exact hm (ok.inj n m c hn hm' ia ic)
      exact ⟨c, ic, h.mono (fun _ _ h => h) (fun _ _ h => h) (upd_ne nac)⟩
  · by_cases hxa : x = a
    · subst hxa; exact ⟨_, upd_same, ht⟩
    · obtain ⟨u, eu, tu⟩ := ok.sl x h
      exact ⟨u, by rw [upd_ne hxa]; exact eu, tu⟩
  · simpa using ok.lv
  · obtain ⟨q1, ⟨ps, e, t⟩, q3⟩ := ok.tb P h
    exact ⟨q1, ⟨ps, (upd_ne (fun (z : P = a) => q3 n (by rw [z]; exact ia))).trans e, t⟩, q3⟩
theorem obSet {g : Gh} {H : Hp} {ω : Wd} {n : Nat} {o : WO} {a : Addr} {ys : List D} {ws : List V} (ok : GOk K g H ω) (en : ω.objs[n]? = some o) (ia : g.ι n = some a) (r : RepL K g.ι g.G ys ws) : Step g H g (upd H a (.lst ws)) ∧ GOk K g (upd H a (.lst ws)) ⟨ω.live, ω.objs.set n (.lst ys)⟩ :=
  obSetG ok en ia rfl ⟨ws, upd_same, r⟩
/-- cells.pop(i), cells an object of the store, i written -/
def ePopOb (f : DE) (i : Int) : DE := fun ρ ω => match f ρ ω with
  | none => none
  | some (x, ω1) => match obN x with
    | none => none
    | some n => match ω1.objs[n]? with
      | some (.lst xs) => (match xs[i.toNat]? with
        | some d => if 0 ≤ i ∧ i < 2 ^ 63 then some (d, ⟨ω1.live, ω1.objs.set n (.lst (xs.eraseIdx i.toNat))⟩) else none
        | none => none)
      | _ => none
theorem ex_popOb {ta : TE} {fa : DE} {o : Expr} {i : Int} {j : Nat} {ipos apos cpos : Pos} (ho : EX X b o ta fa)
    (hbase : attributeBase o "pop" X.env (eval o X.env) = eval o X.env := by rfl)
    (hfew : ((backTo cpos (starEach [.Constant (.int i) j ipos] X.env)).all (fun x => !x.1) && (backToKw cpos (keywordEach [] X.env)).all (fun x => x.1.isSome)
      && decide ([Expr.Constant (.int i) j ipos].length + ([] : List Keyword).length + (if ([] : List Keyword).isEmpty then 0 else 1) < 30)) = true := by rfl)
    (hline : (apos.endLine == cpos.line) = true := by rfl) (hs : starEach [.Constant (.int i) j ipos] X.env = (false, eval (.Constant (.int i) j ipos) X.env) :: starEach [] X.env := by rfl) (hplain : (backTo cpos (starEach [] X.env)).any (·.1) = false := by rfl) :
    EX X true (.Call (.Attribute o "pop" apos) [.Constant (.int i) j ipos] [] cpos) (tBM X.K "list" rPopAt ta (tCons (tC (.int i)) tNil)) (ePopOb fa i) := by
  refine ⟨pe_bm PySem.F.plainAttrs_list PySem.F.slot_list_pop PySem.F.type_list_pop mt_popAt ho.pe (pa_cons pe_int pa_nil hs) hbase hfew hline hs hplain, ?_⟩
  intro g0 H0 g H ρ ω σ Q d ω' ok st sl e k
  unfold ePopOb at e
  split at e
  · cases e
  rename_i x ω1 e1
  split at e
  · cases e
  rename_i n en
  split at e
  · rename_i xs ex
    split at e
    · rename_i dd ed
      split at e
      · rename_i hi
        cases e
        have := obN_eq en
        subst this
        refine ho.sn g0 H0 g H ρ ω σ _ _ ω1 ok st sl e1 fun v g1 H1 s1 ok1 r1 => ?_
        obtain ⟨a, ia, rfl⟩ := r1.ob
        obtain ⟨a', ia', vs, ha', rr⟩ := ok1.st n _ ex
        rw [ia] at ia'; cases ia'
        refine ⟨.inl ⟨rfl, vs, SqL.of ha'⟩, ?_⟩
        obtain ⟨u, h3, h4⟩ := rr.get ed
        obtain ⟨s3, ok3⟩ := obSet ok1 ex ia (rr.eraseIdx i.toNat)
        have hl : i.toNat < vs.length := (List.getElem?_eq_some_iff.mp h3).1
        refine ⟨a, vs, i, i.toNat, u, rfl, rfl, ha', by omega, hi.2, ?_, h3, k u g1 _ (s1.trans s3) ok3 h4⟩
        have q : ixN vs.length i = some i.toNat := by
          unfold ixN
          rw [if_pos hi.1, if_pos (by omega)]
        exact (ixN_seq q).1
      · cases e
    · cases e
  · cases e
end
end Dn
end

section
namespace Dn
open PySem PySem.Spec L2
variable [Tb]

/-! ## statements -/
inductive Out where
  | nx (ρ : Ro)
  | rt (d : D)
  | bk (ρ : Ro)
  | ct (ρ : Ro)
abbrev DS := Ro → Wd → Option (Out × Wd)
/-- a state of a def, behind the state g of the same def -/
structure SI (K : PySem.W.Frag) (g0 : Gh) (H0 : Hp) (g g' : Gh) (ρ : Ro) (ω : Wd) (σ : L2.St) (H : Hp) : Prop where
  ok : GOk K g' H ω
  st : Step g0 H0 g' H
  sl : Slots K H0 g' H ρ σ
  le : GLe g g'
def Post (K : PySem.W.Frag) (g0 : Gh) (H0 : Hp) (g : Gh) (E : Ends) (ω : Wd) : Out → Prop
  | .nx ρ => ∀ σ g' H, SI K g0 H0 g g' ρ ω σ H → E.nx σ H
  | .bk ρ => ∀ σ g' H, SI K g0 H0 g g' ρ ω σ H → E.bk σ H
  | .ct ρ => ∀ σ g' H, SI K g0 H0 g g' ρ ω σ H → E.ct σ H
  | .rt d => ∀ v g' H, GOk K g' H ω → Step g0 H0 g' H → Rep K g'.ι g'.G d v → E.rt v H
def SndS (K : PySem.W.Frag) (t : TS) (f : DS) : Prop :=
  ∀ (g0 : Gh) (H0 : Hp) (g : Gh) (H : Hp) (ρ : Ro) (ω : Wd) (σ : L2.St) (E : Ends) (o : Out) (ω' : Wd), GOk K g H ω → Step g0 H0 g H → Slots K H0 g H ρ σ → f ρ ω = some (o, ω') → Post K g0 H0 g E ω' o → t E σ H
structure SX (X : Cx) (s : Stmt) (t : TS) (f : DS) : Prop where
  pe : PS X s t
  sn : SndS X.K t f
structure SXs (X : Cx) (s : List Stmt) (t : TS) (f : DS) : Prop where
  pe : PSs X s t
  sn : SndS X.K t f
section
variable {X : Cx} {K : PySem.W.Frag} {b b' : Bool} {t u : TS} {f h : DS} {st : Stmt} {rest : List Stmt} {pos : Pos}
theorem Post.le {g0 g g1 : Gh} {H0 : Hp} {E : Ends} {ω : Wd} {o : Out} (p : Post K g0 H0 g E ω o) (l : GLe g g1) : Post K g0 H0 g1 E ω o := by
  cases o with
  | nx ρ => exact fun σ g' H s => p σ g' H ⟨s.ok, s.st, s.sl, l.trans s.le⟩
  | bk ρ => exact fun σ g' H s => p σ g' H ⟨s.ok, s.st, s.sl, l.trans s.le⟩
  | ct ρ => exact fun σ g' H s => p σ g' H ⟨s.ok, s.st, s.sl, l.trans s.le⟩
  | rt d => exact p
def sNext : DS := fun ρ ω => some (.nx ρ, ω)
def sSeq (f h : DS) : DS := fun ρ ω => match f ρ ω with
  | some (.nx ρ1, ω1) => h ρ1 ω1
  | r => r
theorem sn_seq (hf : SndS K t f) (hh : SndS K u h) : SndS K (tSeq t u) (sSeq f h) := by
  intro g0 H0 g H ρ ω σ E o ω' ok st sl e k
  unfold sSeq at e
  split at e
  · rename_i ρ1 ω1 e1
    exact hf g0 H0 g H ρ ω σ { E with nx := u E } _ ω1 ok st sl e1 fun σ1 g1 H1 s => hh g0 H0 g1 H1 ρ1 ω1 σ1 E o ω' s.ok s.st s.sl e (k.le s.le)
  · rename_i hn
    refine hf g0 H0 g H ρ ω σ { E with nx := u E } o ω' ok st sl e ?_
    cases o with
    | nx ρ1 => exact absurd e (hn ρ1 ω')
    | _ => exact k
theorem sxs_nil : SXs X [] tNext sNext := ⟨pss_nil, fun g0 H0 g H ρ ω σ E o ω' ok st sl e k => by cases e; exact k σ g H ⟨ok, st, sl, .refl _⟩⟩
theorem sxs_cons (h1 : SX X st t f) (h2 : SXs X rest u h) : SXs X (st :: rest) (tSeq t u) (sSeq f h) := ⟨pss_cons h1.pe h2.pe, sn_seq h1.sn h2.sn⟩
theorem sxs_one (h1 : SX X st t f) : SXs X [st] t f := ⟨pss_one h1.pe, h1.sn⟩
def sBreak : DS := fun ρ ω => some (.bk ρ, ω)
def sCont : DS := fun ρ ω => some (.ct ρ, ω)
theorem sx_pass : SX X (.Pass pos) tNext sNext := ⟨ps_pass, fun g0 H0 g H ρ ω σ E o ω' ok st sl e k => by cases e; exact k σ g H ⟨ok, st, sl, .refl _⟩⟩
theorem sx_break : SX X (.Break pos) tBreak sBreak := ⟨ps_break, fun g0 H0 g H ρ ω σ E o ω' ok st sl e k => by cases e; exact k σ g H ⟨ok, st, sl, .refl _⟩⟩
theorem sx_continue : SX X (.Continue pos) tCont sCont := ⟨ps_continue, fun g0 H0 g H ρ ω σ E o ω' ok st sl e k => by cases e; exact k σ g H ⟨ok, st, sl, .refl _⟩⟩
/-- an expression whose value is dropped -/
def sDrop (f : DE) : DS := fun ρ ω => match f ρ ω with
  | none => none
  | some (_, ω1) => some (.nx ρ, ω1)
theorem sx_expr {e : Expr} {te : TE} {fe : DE} (he : EX X b e te fe) (hs : swapsWith e none pos.line X.env = pure false := by rfl) : SX X (.Expr e pos) (tDrop te) (sDrop fe) := by
  refine ⟨ps_expr he.pe hs, ?_⟩
  intro g0 H0 g H ρ ω σ E o ω' ok st sl e k
  unfold sDrop at e
  split at e
  · cases e
  rename_i d ω1 e1
  cases e
  exact he.sn g0 H0 g H ρ ω σ _ d ω' ok st sl e1 fun v g1 H1 s1 ok1 r1 => k σ g1 H1 ⟨ok1, st.trans s1, sl.step s1 ok1, s1.le⟩
/-- return -/
def sRet (f : DE) : DS := fun ρ ω => match f ρ ω with
  | none => none
  | some (d, ω1) => some (.rt d, ω1)
noncomputable def Gh.all (g0 : Gh) (H0 : Hp) (g : Gh) (H : Hp) : Gh := { g with G := Fm g0 H0 g H }
theorem all_ok {g0 g : Gh} {H0 H : Hp} {ω : Wd} (ok : GOk K g H ω) (st : Step g0 H0 g H) : Step g0 H0 (Gh.all g0 H0 g H) H ∧ GOk K (Gh.all g0 H0 g H) H ω := by
  refine ⟨⟨st.ιm, fun a o h => G_Fm ok st (st.Gm a o h), st.Sm, st.fr, st.nS, st.al, fun a vs h => (Fm_some.mp h).2.2.2 rfl, st.lv, st.ιl⟩, ⟨fun a o h => (Fm_some.mp h).1, fun a o h => (Fm_some.mp h).2.1, fun a o h => (Fm_some.mp h).2.2.1, ok.inj, ok.inS, fun n o e => ?_, ok.sl, ok.lv, ok.tb⟩⟩
  obtain ⟨a, ia, h⟩ := ok.st n o e
  exact ⟨a, ia, h.mono (fun _ _ h => h) (fun _ _ h => G_Fm ok st h) rfl⟩
theorem sx_ret {e : Expr} {te : TE} {fe : DE} (he : EX X b e te fe) : SX X (.Return (some e) pos) (tRet te) (sRet fe) := by
  refine ⟨ps_ret he.pe, ?_⟩
  intro g0 H0 g H ρ ω σ E o ω' ok st sl e k
  unfold sRet at e
  split at e
  · cases e
  rename_i d ω1 e1
  cases e
  refine he.sn g0 H0 g H ρ ω σ _ d ω' ok st sl e1 fun v g1 H1 s1 ok1 r1 => ?_
  cases b with
  | true => exact k v g1 H1 ok1 (st.trans s1) r1
  | false =>
    obtain ⟨s2, ok2⟩ := all_ok ok1 (st.trans s1)
    exact k v _ H1 ok2 s2 r1
def sRetN : DS := fun _ ω => some (.rt .none, ω)
theorem sx_retN : SX X (.Return none pos) tRetN sRetN := ⟨ps_retN, fun g0 H0 g H ρ ω σ E o ω' ok st sl e k => by cases e; exact k .non g H ok st (by rw [Rep])⟩
/-- if -/
def sIf (c : DT) (f h : DS) : DS := fun ρ ω => match c ρ ω with
  | none => none
  | some (c, ω1) => if c = true then f ρ ω1 else h ρ ω1
theorem sx_if {c : Expr} {p q : List Stmt} {tc : TT} {fc : DT} (hc : ET X c tc fc) (hf : SXs X p t f) (hh : SXs X q u h) : SX X (.If c p q pos) (tIfS tc t u) (sIf fc f h) := by
  refine ⟨ps_if hc.pe hf.pe hh.pe, ?_⟩
  intro g0 H0 g H ρ ω σ E o ω' ok st sl e k
  unfold sIf at e
  split at e
  · cases e
  rename_i c1 ω1 e1
  refine hc.sn g0 H0 g H ρ ω σ _ c1 ω1 ok st sl e1 fun g1 H1 s1 ok1 => ?_
  cases c1 with
  | true => exact iteT (hf.sn g0 H0 g1 H1 ρ ω1 σ E o ω' ok1 (st.trans s1) (sl.step s1 ok1) e (k.le s1.le))
  | false => exact iteF (hh.sn g0 H0 g1 H1 ρ ω1 σ E o ω' ok1 (st.trans s1) (sl.step s1 ok1) e (k.le s1.le))
/-- target = value -/
def sAsg (f : DE) (t : DG) : DS := fun ρ ω => match f ρ ω with
  | none => none
  | some (d, ω1) => match t d ρ with
    | none => none
    | some ρ1 => some (.nx ρ1, ω1)
theorem sn_asg {te : TE} {fe : DE} {tg : TG} {js : List Nat} {fg : DG} (he : Snd K true te fe) (hg : SndG K tg js fg) : SndS K (tAsg te tg) (sAsg fe fg) := by
  intro g0 H0 g H ρ ω σ E o ω' ok st sl e k
  unfold sAsg at e
  split at e
  · cases e
  rename_i d ω1 e1
  split at e
  · cases e
  rename_i ρ1 e2
  cases e
  refine he g0 H0 g H ρ ω σ _ d ω' ok st sl e1 fun v g1 H1 s1 ok1 r1 => ?_
  exact hg H0 g1 H1 ρ σ d v ρ1 _ ok1.sub (sl.step s1 ok1) r1 e2 fun σ' sl' _ _ => k σ' g1 H1 ⟨ok1, st.trans s1, sl', s1.le⟩
theorem sx_asg {tg e : Expr} {te : TE} {fe : DE} {g : TG} {js : List Nat} {fg : DG} (he : EX X true e te fe) (hg : EG X tg g js fg) (hs : swapsWithSole [tg] e pos.line X.env = pure false := by rfl) (hw : swappedStores [tg] e X.env = pure none := by rfl)
    (h1 : (assignEach [tg] X.env).map (·.2) = [assign tg X.env] := by rfl) : SX X (.Assign [tg] e pos) (tAsg te g) (sAsg fe fg) := ⟨ps_asg he.pe hg.pe hs hw h1, sn_asg he.sn hg.sn⟩
def sSet (i : Nat) (f : DE) : DS := fun ρ ω => match f ρ ω with
  | none => none
  | some (d, ω1) => some (.nx (ρ.set i (.val d)), ω1)
theorem sn_set {i : Nat} {te : TE} {fe : DE} (he : Snd K true te fe) : SndS K (tAsg te (gName i)) (sSet i fe) := by
  intro g0 H0 g H ρ ω σ E o ω' ok st sl e k
  unfold sSet at e
  split at e
  · cases e
  rename_i d ω1 e1
  cases e
  refine he g0 H0 g H ρ ω σ _ d ω' ok st sl e1 fun v g1 H1 s1 ok1 r1 => ?_
  exact k _ g1 H1 ⟨ok1, st.trans s1, (sl.step s1 ok1).set i ⟨v, rfl, r1⟩ (fun xs z => nomatch z), s1.le⟩
theorem sx_set {i : Nat} {x : Str} {e : Expr} {te : TE} {fe : DE} {pos' : Pos} (hN : X.N.Nodup) (he : EX X true e te fe) (hi : X.N[i]? = some x := by rfl) (hx : Loc X.env.scope x := by first | exact Or.inl rfl | exact Or.inr rfl) (hs : swapsWith e (some (.Name x pos')) pos.line X.env = pure false := by rfl) (hf : X.fn x = true ∨ X.env.scope.names.lookup x = some .local := by first | exact .inl rfl | exact .inr rfl | assumption) :
    SX X (.Assign [.Name x pos'] e pos) (tAsg te (gName i)) (sSet i fe) := ⟨ps_set hN hi hx he.pe hs hf, sn_set he.sn⟩
/-- a name gets a list of its own -/
def sOwn (i : Nat) (f : DA) : DS := fun ρ ω => match f ρ ω with
  | none => none
  | some (ds, ω1) => some (.nx (ρ.set i (.own ds)), ω1)
theorem sn_own {i : Nat} {te : TE} {fe : DA} (he : SndN K te fe) : SndS K (tAsg te (gName i)) (sOwn i fe) := by
  intro g0 H0 g H ρ ω σ E o ω' ok st sl e k
  unfold sOwn at e
  split at e
  · cases e
  rename_i d ω1 e1
  cases e
  refine he g0 H0 g H ρ ω σ _ d ω' ok st sl e1 fun p vs g1 H1 s1 ok1 h1 h2 h3 h4 h5 h6 => ?_
  refine k _ g1 H1 ⟨ok1, st.trans s1, ?_, s1.le⟩
  refine (sl.step s1 ok1).setOwn i ⟨p, vs, rfl, h2, h3, h4, st.al p h1, h5, h6⟩ fun j xs hj hx hs => ?_
  obtain ⟨q, ws, eq, hq, _⟩ := sl.at_ j _ _ hx hs
  cases eq
  rw [h1] at hq; cases hq
theorem sx_own {i : Nat} {x : Str} {e : Expr} {te : TE} {fe : DA} {pos' : Pos} (hN : X.N.Nodup) (he : EN X e te fe) (hi : X.N[i]? = some x := by rfl) (hx : Loc X.env.scope x := by first | exact Or.inl rfl | exact Or.inr rfl) (hs : swapsWith e (some (.Name x pos')) pos.line X.env = pure false := by rfl) (hf : X.fn x = true ∨ X.env.scope.names.lookup x = some .local := by first | exact .inl rfl | exact .inr rfl | assumption) :
    SX X (.Assign [.Name x pos'] e pos) (tAsg te (gName i)) (sOwn i fe) := ⟨ps_set hN hi hx he.pe hs hf, sn_own he.sn⟩
/-- y = [.. for ..] -/
theorem sx_lc {i : Nat} {y : Str} {py : Pos} {elt tg iter : Expr} {ifs : List Expr} {scope : Scope} {own : List (Str × Nat)} {pos spos : Pos} {wi : TI} {g : TG} {tt : TT} {te : TE} {fi : DA} {fg : DG} {ft : DT} {fe : DE} {js : List Nat} (hc : X.calm = true) (hN : X.N.Nodup) (hi : EI X b tg iter wi fi) (ok : BlkOk X.N X.env.scope scope own)
    (hg : ∀ (s : Shared) (H : Hp) (C : Addr) (cl : List (Str × Addr)) (fp : List Addr), EG (X.blk s H scope (compEnvC scope cl C X.env) fp) tg g js fg)
    (ht : ∀ (s : Shared) (H : Hp) (C : Addr) (cl : List (Str × Addr)) (fp : List Addr), ETs (X.blk s H scope (compEnvC scope cl C X.env) fp) ifs tt ft)
    (he : ∀ (s : Shared) (H : Hp) (C : Addr) (cl : List (Str × Addr)) (fp : List Addr), EX (X.blk s H scope (compEnvC scope cl C X.env) fp) true elt te fe)
    (hy : X.N[i]? = some y := by rfl) (hyl : X.env.scope.names.lookup y = some .local := by rfl) (hl : (py.line == pos.line) = true := by rfl) (hk : X.env.scope.kind = .function := by rfl) (ha : (scope.names.any fun (n, k) => n == y && (k == .local || k == .cell)) = false := by decide +kernel)
    (hj : ∀ j ∈ js, j ∈ own.map (·.2) := by decide) (hs : ∀ x, foldedSetIterable iter X.env x = pure x := by intro _; rfl) :
    SX X (.Assign [.Name y py] (.ListComp elt [⟨tg, iter, ifs, 0⟩] scope pos) spos) (tAsg (tLc wi g tt te (own.map (·.2))) (gName i)) (sOwn i (eLcN fi fg ft fe (own.map (·.2)))) := by
  refine ⟨ps_setLc hc hN hy hyl (sw_true hk hyl hl ha) hi.pe ok (fun s H C cl fp => (hg s H C cl fp).pe) (fun s H C cl fp => (ht s H C cl fp).pe) (fun s H C cl fp => (he s H C cl fp).pe) hs, ?_⟩
  refine sn_own ?_
  intro g0 H0 gh H ρ ω σ Q ds ω' ok' st sl e k
  exact lc_sound hi.sn (hg X.s_0 X.H_0 0 [] []).sn hj (ht X.s_0 X.H_0 0 [] []).sn (he X.s_0 X.H_0 0 [] []).sn ok' st sl e k
/-- a, b = x, y -/
def sPar (i j : Nat) (f : DA) : DS := fun ρ ω => match f ρ ω with
  | some ([x, y], ω1) => some (.nx ((ρ.set i (.val x)).set j (.val y)), ω1)
  | _ => none
theorem sx_par {i j : Nat} {x y : Str} {a c : Expr} {ta : TA} {fa : DA} {px py pt : Pos} {kt k2 pt2} (hc : X.calm = true) (hN : X.N.Nodup) (ha : EA X true [a, c] ta fa) (hi : X.N[i]? = some x := by rfl) (hj : X.N[j]? = some y := by rfl) (hij : i ≠ j := by decide)
    (hx : X.env.scope.names.lookup x = some .local := by rfl) (hy : X.env.scope.names.lookup y = some .local := by rfl)
    (hw : swappedStores [.Tuple [.Name x px, .Name y py] kt pt] (.Tuple [a, c] k2 pt2) X.env = pure (some [x, y]) := by rfl)
    (hs : swapsWithSole [.Tuple [.Name x px, .Name y py] kt pt] (.Tuple [a, c] k2 pt2) pos.line X.env = pure false := by rfl) :
    SX X (.Assign [.Tuple [.Name x px, .Name y py] kt pt] (.Tuple [a, c] k2 pt2) pos) (tPar i j ta) (sPar i j fa) := by
  refine ⟨ps_par hc hN hi hj hij hx hy ha.pe hw hs, ?_⟩
  intro g0 H0 g H ρ ω σ E o ω' ok st sl e k
  unfold sPar at e
  split at e
  · rename_i p q ω1 e1
    cases e
    refine ha.sn g0 H0 g H ρ ω σ _ _ ω' ok st sl e1 fun vs g1 H1 s1 ok1 r1 => ?_
    obtain ⟨v, w, rfl, r, r2⟩ := RBL.two r1
    refine ⟨v, w, rfl, ?_⟩
    have sl2 : Slots X.K H0 g1 H1 (ρ.set i (.val p)) (σ.set i (some v)) := (sl.step s1 ok1).set i (s := .val p) (o := some v) ⟨v, rfl, r⟩ (fun xs z => nomatch z)
    have sl3 : Slots X.K H0 g1 H1 ((ρ.set i (.val p)).set j (.val q)) ((σ.set i (some v)).set j (some w)) := sl2.set j (s := .val q) (o := some w) ⟨w, rfl, r2⟩ (fun xs z => nomatch z)
    exact k _ g1 H1 ⟨ok1, st.trans s1, sl3, s1.le⟩
  · cases e
/-- name op= e, ints -/
def sAug (i : Nat) (op : D → D → Option D) (f : DE) : DS := fun ρ ω => match ρ[i]? with
  | some (.val x) => (match f ρ ω with
    | none => none
    | some (y, ω1) => match op x y with
      | none => none
      | some z => some (.nx (ρ.set i (.val z)), ω1))
  | _ => none
theorem sx_aug {i : Nat} {x : Str} {e : Expr} {te : TE} {fe : DE} {o : Operator} {op : D → D → Option D} {r : R2} {pos' : Pos} (hN : X.N.Nodup) (ho : OpR X (inplaceOp o) r) (hs : OpS X.K true true r op) (he : EX X true e te fe) (hi : X.N[i]? = some x := by rfl) (hx : Loc X.env.scope x := by first | exact Or.inl rfl | exact Or.inr rfl) (hf : X.fn x = true ∨ X.env.scope.names.lookup x = some .local := by first | exact .inl rfl | exact .inr rfl | assumption) :
    SX X (.AugAssign (.Name x pos') o e pos) (tAug i te r) (sAug i op fe) := by
  refine ⟨ps_aug hN hi hx he.pe (fun pins s σ H x y v u Q I rx ry q => ho pins s σ H x y v u Q I rx ry q) hf, ?_⟩
  intro g0 H0 g H ρ ω σ E o ω' ok st sl e k
  unfold sAug at e
  split at e
  · rename_i x1 hx1
    split at e
    · cases e
    rename_i y ω1 e1
    split at e
    · cases e
    rename_i z e2
    cases e
    obtain ⟨oo, h1, v, rfl, rv⟩ := sl.get hx1
    refine ⟨v, h1, ?_⟩
    refine he.sn g0 H0 g H ρ ω σ _ y ω' ok st sl e1 fun w g1 H1 s1 ok1 r1 => ?_
    have rv1 : RB X.K true g0 H0 g1 H1 x1 v := rv.mono s1.ιm s1.Gm
    refine hs g0 H0 g1 H1 ω' x1 y v w z _ ok1 (st.trans s1) rv1 r1 e2 fun u g2 H2 s2 ok2 r2 => ?_
    exact k _ g2 H2 ⟨ok2, (st.trans s1).trans s2, ((sl.step s1 ok1).step s2 ok2).set i ⟨u, rfl, r2⟩ (fun xs z => nomatch z), (s1.trans s2).le⟩
  · cases e

/-! ## one's own lists are changed -/
/-- the state behind a change of the own list in slot i -/
theorem own_mut {g0 g : Gh} {H0 H : Hp} {ρ : Ro} {ω : Wd} {σ : L2.St} {i : Nat} {p : Addr} {xs ys : List D} {ws : List V} (ok : GOk K g H ω) (st : Step g0 H0 g H) (sl : Slots K H0 g H ρ σ) (hx : ρ[i]? = some (.own xs)) (hσ : σ[i]? = some (some (.ref p))) (hz : ws.length ≤ sizeLine) (r : RepL K g.ι g.G ys ws) : GOk K g (upd H p (.lst ws)) ω ∧ Step g0 H0 g (upd H p (.lst ws)) ∧ Slots K H0 g (upd H p (.lst ws)) (ρ.set i (.own ys)) σ := by
  obtain ⟨q, vs, eq, hp, hG, hS, h0, _, _⟩ := sl.at_ i _ _ hx hσ
  cases eq
  refine ⟨mutOk ok hp hG hS, mutStep st h0, ⟨by rw [List.length_set]; exact sl.len, fun j s o e1 e2 => ?_, fun j l xs' ys' q e1 e2 e3 e4 => ?_⟩⟩
  · by_cases hj : i = j
    · subst hj
      have hi : i < ρ.length := (List.getElem?_eq_some_iff.mp hx).1
      rw [List.getElem?_set_self hi] at e1
      cases e1
      rw [hσ] at e2; cases e2
      exact ⟨p, ws, rfl, upd_same, hG, hS, h0, hz, r⟩
    · rw [List.getElem?_set_ne hj] at e1
      have h := sl.at_ j s o e1 e2
      cases s with
      | un => trivial
      | val d => exact h
      | own zs =>
        obtain ⟨q, us, eo, hq, r'⟩ := h
        have nqp : q ≠ p := fun z => by
          subst z
          subst eo
          exact hj (sl.ap i j xs zs q hx e1 hσ e2)
        exact ⟨q, us, eo, by rw [upd_ne nqp]; exact hq, r'⟩
  · have h1 : ∃ zs, ρ[j]? = some (.own zs) := by
      by_cases hj : i = j
      · subst hj; exact ⟨_, hx⟩
      · rw [List.getElem?_set_ne hj] at e1; exact ⟨_, e1⟩
    have h2 : ∃ zs, ρ[l]? = some (.own zs) := by
      by_cases hj : i = l
      · subst hj; exact ⟨_, hx⟩
      · rw [List.getElem?_set_ne hj] at e2; exact ⟨_, e2⟩
    obtain ⟨z1, h1⟩ := h1
    obtain ⟨z2, h2⟩ := h2
    exact sl.ap j l z1 z2 q h1 h2 e3 e4
/-- x.append(e) -/
def sApp (i : Nat) (f : DE) : DS := fun ρ ω => match f ρ ω with
  | none => none
  | some (d, ω1) => match ρ[i]? with
    | some (.own xs) => if xs.length < sizeLine then some (.nx (ρ.set i (.own (xs ++ [d]))), ω1) else none
    | _ => none
theorem sx_app {i : Nat} {x : Str} {e : Expr} {te : TE} {fe : DE} {npos apos cpos : Pos} (he : EX X true e te fe) (hN : X.N[i]? = some x := by rfl) (hv : Vis X.env.scope x := by first | exact Or.inl rfl | exact Or.inr (Or.inl rfl) | exact Or.inr (Or.inr rfl)) (hd : (x == ("__debug__" : Str)) = false := by decide)
    (hcd : (x == ("__classdict__" : Str)) = false := by decide) (hs : swapsWith (.Call (.Attribute (.Name x npos) "append" apos) [e] [] cpos) none pos.line X.env = pure false := by rfl)
    (hbase : attributeBase (.Name x npos) "append" X.env (eval (.Name x npos) X.env) = eval (.Name x npos) X.env := by rfl)
    (hfew : ((backTo cpos (starEach [e] X.env)).all (fun x => !x.1) && (backToKw cpos (keywordEach [] X.env)).all (fun x => x.1.isSome)
      && decide ([e].length + ([] : List Keyword).length + (if ([] : List Keyword).isEmpty then 0 else 1) < 30)) = true := by rfl)
    (hline : (apos.endLine == cpos.line) = true := by rfl) (hst : starEach [e] X.env = (false, eval e X.env) :: starEach [] X.env := by rfl) (hplain : (backTo cpos (starEach [] X.env)).any (·.1) = false := by rfl) :
    SX X (.Expr (.Call (.Attribute (.Name x npos) "append" apos) [e] [] cpos) pos) (tDrop (tBM X.K "list" rAppend (tVar i) (tCons te tNil))) (sApp i fe) := by
  refine ⟨ps_expr (pe_bm PySem.F.plainAttrs_list PySem.F.slot_list_append PySem.F.type_list_append mt_append (pe_var hN hv hd hcd) (pa_cons he.pe pa_nil hst) hbase hfew hline hst hplain) hs, ?_⟩
  intro g0 H0 g H ρ ω σ E o ω' ok st sl e k
  unfold sApp at e
  split at e
  · cases e
  rename_i d ω1 e1
  split at e
  · rename_i xs hx
    split at e
    · rename_i hz
      cases e
      obtain ⟨oo, h1, p, vs, rfl, hp, hG, hS, h0, z, r⟩ := sl.get hx
      refine ⟨_, h1, .inl ⟨rfl, vs, SqL.of hp⟩, ?_⟩
      refine he.sn g0 H0 g H ρ ω σ _ d ω' ok st sl e1 fun v g1 H1 s1 ok1 r1 => ?_
      have hp1 := s1.fr p _ hp hS
      have hl : vs.length < sizeLine := by rw [r.length]; exact hz
      refine ⟨p, vs, v, rfl, rfl, hp1, hl, ?_⟩
      obtain ⟨ok2, st2, sl2⟩ := own_mut (ys := xs ++ [d]) (ws := vs ++ [v]) ok1 (st.trans s1) (sl.step s1 ok1) hx h1 (by rw [List.length_append]; exact hl) ((r.mono s1.ιm s1.Gm).append (.cons r1 .nil))
      exact k σ g1 _ ⟨ok2, st2, sl2, s1.le⟩
    · cases e
  · cases e
/-- x.extend(e), e a list -/
def sExt (i : Nat) (f : DE) : DS := fun ρ ω => match f ρ ω with
  | some (.list ds, ω1) => (match ρ[i]? with
    | some (.own xs) => if xs.length + ds.length ≤ sizeLine then some (.nx (ρ.set i (.own (xs ++ ds))), ω1) else none
    | _ => none)
  | _ => none
theorem sx_ext {i : Nat} {x : Str} {e : Expr} {te : TE} {fe : DE} {npos apos cpos : Pos} (he : EX X true e te fe) (hN : X.N[i]? = some x := by rfl) (hv : Vis X.env.scope x := by first | exact Or.inl rfl | exact Or.inr (Or.inl rfl) | exact Or.inr (Or.inr rfl)) (hd : (x == ("__debug__" : Str)) = false := by decide)
    (hcd : (x == ("__classdict__" : Str)) = false := by decide) (hs : swapsWith (.Call (.Attribute (.Name x npos) "extend" apos) [e] [] cpos) none pos.line X.env = pure false := by rfl)
    (hbase : attributeBase (.Name x npos) "extend" X.env (eval (.Name x npos) X.env) = eval (.Name x npos) X.env := by rfl)
    (hfew : ((backTo cpos (starEach [e] X.env)).all (fun x => !x.1) && (backToKw cpos (keywordEach [] X.env)).all (fun x => x.1.isSome)
      && decide ([e].length + ([] : List Keyword).length + (if ([] : List Keyword).isEmpty then 0 else 1) < 30)) = true := by rfl)
    (hline : (apos.endLine == cpos.line) = true := by rfl) (hst : starEach [e] X.env = (false, eval e X.env) :: starEach [] X.env := by rfl) (hplain : (backTo cpos (starEach [] X.env)).any (·.1) = false := by rfl) :
    SX X (.Expr (.Call (.Attribute (.Name x npos) "extend" apos) [e] [] cpos) pos) (tDrop (tBM X.K "list" rExtend (tVar i) (tCons te tNil))) (sExt i fe) := by
  refine ⟨ps_expr (pe_bm PySem.F.plainAttrs_list PySem.F.slot_list_extend PySem.F.type_list_extend mt_extend (pe_var hN hv hd hcd) (pa_cons he.pe pa_nil hst) hbase hfew hline hst hplain) hs, ?_⟩
  intro g0 H0 g H ρ ω σ E o ω' ok st sl e k
  unfold sExt at e
  split at e
  · rename_i ds ω1 e1
    split at e
    · rename_i xs hx
      split at e
      · rename_i hz
        cases e
        obtain ⟨oo, h1, p, vs, rfl, hp, hG, hS, h0, z, r⟩ := sl.get hx
        refine ⟨_, h1, .inl ⟨rfl, vs, SqL.of hp⟩, ?_⟩
        refine he.sn g0 H0 g H ρ ω σ _ _ ω' ok st sl e1 fun v g1 H1 s1 ok1 r1 => ?_
        have hp1 := s1.fr p _ hp hS
        obtain ⟨a, ws, rfl, hq, zq, lq⟩ := r1.lstV ok1
        have hl : vs.length + ws.length ≤ sizeLine := by rw [r.length, RepL.length lq]; exact hz
        refine ⟨p, a, vs, ws, rfl, rfl, hp1, hq, hl, ?_⟩
        obtain ⟨ok2, st2, sl2⟩ := own_mut (ys := xs ++ ds) (ws := vs ++ ws) ok1 (st.trans s1) (sl.step s1 ok1) hx h1 (by rw [List.length_append]; exact hl) ((r.mono s1.ιm s1.Gm).append lq)
        exact k σ g1 _ ⟨ok2, st2, sl2, s1.le⟩
      · cases e
    · cases e
  · cases e
/-- y = x.pop(), or x.pop() -/
def sPop (i : Nat) (j : Option Nat) : DS := fun ρ ω => match ρ[i]? with
  | some (.own xs) => (match xs[xs.length - 1]? with
    | some d => some (.nx (match j with
      | none => ρ.set i (.own xs.dropLast)
      | some j => (ρ.set i (.own xs.dropLast)).set j (.val d)), ω)
    | none => none)
  | _ => none
theorem sx_pop {i : Nat} {x : Str} {npos apos cpos : Pos} (hN : X.N[i]? = some x := by rfl) (hv : Vis X.env.scope x := by first | exact Or.inl rfl | exact Or.inr (Or.inl rfl) | exact Or.inr (Or.inr rfl)) (hd : (x == ("__debug__" : Str)) = false := by decide)
    (hcd : (x == ("__classdict__" : Str)) = false := by decide) (hs : swapsWith (.Call (.Attribute (.Name x npos) "pop" apos) [] [] cpos) none pos.line X.env = pure false := by rfl)
    (hbase : attributeBase (.Name x npos) "pop" X.env (eval (.Name x npos) X.env) = eval (.Name x npos) X.env := by rfl) (hline : (apos.endLine == cpos.line) = true := by rfl) :
    SX X (.Expr (.Call (.Attribute (.Name x npos) "pop" apos) [] [] cpos) pos) (tDrop (tBM0 X.K "list" rPop (tVar i))) (sPop i none) := by
  refine ⟨ps_expr (pe_bm0 PySem.F.plainAttrs_list PySem.F.slot_list_pop PySem.F.type_list_pop mt_pop (pe_var hN hv hd hcd) hbase hline) hs, ?_⟩
  intro g0 H0 g H ρ ω σ E o ω' ok st sl e k
  unfold sPop at e
  split at e
  · rename_i xs hx
    split at e
    · rename_i d ed
      cases e
      obtain ⟨oo, h1, p, vs, rfl, hp, hG, hS, h0, z, r⟩ := sl.get hx
      obtain ⟨v, hv1, rv⟩ := r.get ed
      refine ⟨_, h1, .inl ⟨rfl, vs, SqL.of hp⟩, p, vs, v, rfl, rfl, hp, by rw [r.length]; exact hv1, ?_⟩
      obtain ⟨ok2, st2, sl2⟩ := own_mut (ys := xs.dropLast) (ws := vs.dropLast) ok st sl hx h1 (by rw [List.length_dropLast]; omega) r.dropLast
      exact k σ g _ ⟨ok2, st2, sl2, .refl _⟩
    · cases e
  · cases e
theorem sx_popTo {i j : Nat} {x y : Str} {npos apos cpos ypos : Pos} (hNd : X.N.Nodup) (hij : i ≠ j := by decide) (hN : X.N[i]? = some x := by rfl) (hv : Vis X.env.scope x := by first | exact Or.inl rfl | exact Or.inr (Or.inl rfl) | exact Or.inr (Or.inr rfl)) (hd : (x == ("__debug__" : Str)) = false := by decide)
    (hcd : (x == ("__classdict__" : Str)) = false := by decide) (hj : X.N[j]? = some y := by rfl) (hx : Loc X.env.scope y := by first | exact Or.inl rfl | exact Or.inr rfl) (hs : swapsWith (.Call (.Attribute (.Name x npos) "pop" apos) [] [] cpos) (some (.Name y ypos)) pos.line X.env = pure false := by rfl) (hf : X.fn y = true ∨ X.env.scope.names.lookup y = some .local := by first | exact .inl rfl | exact .inr rfl | assumption)
    (hbase : attributeBase (.Name x npos) "pop" X.env (eval (.Name x npos) X.env) = eval (.Name x npos) X.env := by rfl) (hline : (apos.endLine == cpos.line) = true := by rfl) :
    SX X (.Assign [.Name y ypos] (.Call (.Attribute (.Name x npos) "pop" apos) [] [] cpos) pos) (tAsg (tBM0 X.K "list" rPop (tVar i)) (gName j)) (sPop i (some j)) := by
  refine ⟨ps_set hNd hj hx (pe_bm0 PySem.F.plainAttrs_list PySem.F.slot_list_pop PySem.F.type_list_pop mt_pop (pe_var hN hv hd hcd) hbase hline) hs hf, ?_⟩
  intro g0 H0 g H ρ ω σ E o ω' ok st sl e k
  unfold sPop at e
  split at e
  · rename_i xs hx
    split at e
    · rename_i d ed
      cases e
      obtain ⟨oo, h1, p, vs, rfl, hp, hG, hS, h0, z, r⟩ := sl.get hx
      obtain ⟨v, hv1, rv⟩ := r.get ed
      refine ⟨_, h1, .inl ⟨rfl, vs, SqL.of hp⟩, p, vs, v, rfl, rfl, hp, by rw [r.length]; exact hv1, ?_⟩
      obtain ⟨ok2, st2, sl2⟩ := own_mut (ys := xs.dropLast) (ws := vs.dropLast) ok st sl hx h1 (by rw [List.length_dropLast]; omega) r.dropLast
      exact k _ g _ ⟨ok2, st2, sl2.set j ⟨v, rfl, rv⟩ (fun xs z => nomatch z), .refl _⟩
    · cases e
  · cases e
/-- x[k] = e -/
def sSetIx (i : Nat) (fk fe : DE) : DS := fun ρ ω => match fe ρ ω with
  | none => none
  | some (d, ω1) => match fk ρ ω1 with
    | some (.int k, ω2) => (match ρ[i]? with
      | some (.own xs) => (match ixN xs.length k with
        | some j => some (.nx (ρ.set i (.own (xs.set j d))), ω2)
        | none => none)
      | _ => none)
    | _ => none
theorem sx_setIx {i : Nat} {x : Str} {e ek : Expr} {te tk : TE} {fe fk : DE} {npos spos : Pos} (he : EX X true e te fe) (hk : EX X b ek tk fk) (hN : X.N[i]? = some x := by rfl) (hv : Vis X.env.scope x := by first | exact Or.inl rfl | exact Or.inr (Or.inl rfl) | exact Or.inr (Or.inr rfl)) (hd : (x == ("__debug__" : Str)) = false := by decide)
    (hcd : (x == ("__classdict__" : Str)) = false := by decide) (ha : ∀ v, assign (.Subscript (.Name x npos) ek spos) X.env v = (do
      let ov ← holding [v] (eval (.Name x npos) X.env)
      let iv ← holding [v, ov] (eval ek X.env)
      standAt spos
      holding [v, ov, iv] (setItem ov iv v)
      release [v, ov, iv] []) := by intro _; rfl) (hs : swapsWithSole [.Subscript (.Name x npos) ek spos] e pos.line X.env = pure false := by rfl) (hw : swappedStores [.Subscript (.Name x npos) ek spos] e X.env = pure none := by rfl)
    (h1 : (assignEach [.Subscript (.Name x npos) ek spos] X.env).map (·.2) = [assign (.Subscript (.Name x npos) ek spos) X.env] := by rfl) :
    SX X (.Assign [.Subscript (.Name x npos) ek spos] e pos) (tAsg te (gSub (tVar i) tk rSetL)) (sSetIx i fk fe) := by
  refine ⟨ps_asg he.pe (pg_sub (pe_var hN hv hd hcd) hk.pe set_list ha) hs hw h1, ?_⟩
  intro g0 H0 g H ρ ω σ E o ω' ok st sl e kk
  unfold sSetIx at e
  split at e
  · cases e
  rename_i d ω1 e1
  split at e
  · rename_i k ω2 e2
    split at e
    · rename_i xs hx
      split at e
      · rename_i j ej
        cases e
        obtain ⟨oo, h1, p, vs, rfl, hp, hG, hS, h0, z, r⟩ := sl.get hx
        refine he.sn g0 H0 g H ρ ω σ _ d ω1 ok st sl e1 fun v g1 H1 s1 ok1 r1 => ?_
        refine ⟨_, h1, ?_⟩
        refine hk.sn g0 H0 g1 H1 ρ ω1 σ _ _ ω' ok1 (st.trans s1) (sl.step s1 ok1) e2 fun w g2 H2 s2 ok2 r2 => ?_
        have hp2 := s2.fr p _ (s1.fr p _ hp hS) (fun q => by rcases s1.nS p q with z | z; exact hS z; rw [hp] at z; cases z)
        refine ⟨p, vs, k, j, rfl, r2.intV, hp2, by rw [r.length]; exact ej, ?_⟩
        obtain ⟨ok3, st3, sl3⟩ := own_mut (ys := xs.set j d) (ws := vs.set j v) ok2 ((st.trans s1).trans s2) ((sl.step s1 ok1).step s2 ok2) hx h1 (by rw [List.length_set]; exact z) ((r.mono (s1.trans s2).ιm (s1.trans s2).Gm).set j (r1.mono s2))
        exact kk σ g2 _ ⟨ok3, st3, sl3, (s1.trans s2).le⟩
      · cases e
    · cases e
  · cases e
/-- box[k] = e, box an object of the store -/
def sSetOb (fo fk fe : DE) : DS := fun ρ ω => match fe ρ ω with
  | none => none
  | some (d, ω1) => match fo ρ ω1 with
    | none => none
    | some (x, ω2) => match obN x with
      | none => none
      | some n => match fk ρ ω2 with
        | some (.int k, ω3) => (match ω3.objs[n]? with
          | some (.lst xs) => (match ixN xs.length k with
            | some j => some (.nx ρ, ⟨ω3.live, ω3.objs.set n (.lst (xs.set j d))⟩)
            | none => none)
          | _ => none)
        | _ => none
theorem sx_setOb {e eo ek : Expr} {te to tk : TE} {fe fo fk : DE} {spos : Pos} (he : EX X true e te fe) (ho : EX X b eo to fo) (hk : EX X b' ek tk fk) (ha : ∀ v, assign (.Subscript eo ek spos) X.env v = (do
      let ov ← holding [v] (eval eo X.env)
      let iv ← holding [v, ov] (eval ek X.env)
      standAt spos
      holding [v, ov, iv] (setItem ov iv v)
      release [v, ov, iv] []) := by intro _; rfl) (hs : swapsWithSole [.Subscript eo ek spos] e pos.line X.env = pure false := by rfl) (hw : swappedStores [.Subscript eo ek spos] e X.env = pure none := by rfl)
    (h1 : (assignEach [.Subscript eo ek spos] X.env).map (·.2) = [assign (.Subscript eo ek spos) X.env] := by rfl) :
    SX X (.Assign [.Subscript eo ek spos] e pos) (tAsg te (gSub to tk rSetL)) (sSetOb fo fk fe) := by
  refine ⟨ps_asg he.pe (pg_sub ho.pe hk.pe set_list ha) hs hw h1, ?_⟩
  intro g0 H0 g H ρ ω σ E o ω' ok st sl e kk
  unfold sSetOb at e
  split at e
  · cases e
  rename_i d ω1 e1
  split at e
  · cases e
  rename_i x ω2 e2
  split at e
  · cases e
  rename_i n en
  split at e
  · rename_i k ω3 e3
    split at e
    · rename_i xs hx
      split at e
      · rename_i j ej
        cases e
        have := obN_eq en
        subst this
        refine he.sn g0 H0 g H ρ ω σ _ d ω1 ok st sl e1 fun v g1 H1 s1 ok1 r1 => ?_
        refine ho.sn g0 H0 g1 H1 ρ ω1 σ _ _ ω2 ok1 (st.trans s1) (sl.step s1 ok1) e2 fun w g2 H2 s2 ok2 r2 => ?_
        refine hk.sn g0 H0 g2 H2 ρ ω2 σ _ _ ω3 ok2 ((st.trans s1).trans s2) ((sl.step s1 ok1).step s2 ok2) e3 fun y g3 H3 s3 ok3 r3 => ?_
        obtain ⟨a, ia, rfl⟩ := (r2.mono s3).ob
        obtain ⟨a', ia', vs, ha', rr⟩ := ok3.st n _ hx
        rw [ia] at ia'; cases ia'
        obtain ⟨s4, ok4⟩ := obSet ok3 hx ia (rr.set j (r1.mono (s2.trans s3)))
        refine ⟨a, vs, k, j, rfl, r3.intV, ha', by rw [rr.length]; exact ej, ?_⟩
        have s14 := ((s1.trans s2).trans s3).trans s4
        exact kk σ g3 _ ⟨ok4, st.trans s14, sl.step s14 ok4, s14.le⟩
      · cases e
    · cases e
  · cases e
/-- a list of one's own is settled: it will not be changed any more -/
def sFrz (i : Nat) (f : DS) : DS := fun ρ ω => match ρ[i]? with
  | some (.own xs) => f (ρ.set i (.val (.list xs))) ω
  | _ => none
theorem SndS.frz (i : Nat) (hf : SndS K t f) : SndS K t (sFrz i f) := by
  intro g0 H0 g H ρ ω σ E o ω' ok st sl e k
  unfold sFrz at e
  split at e
  · rename_i xs hx
    obtain ⟨oo, h1, p, vs, rfl, hp, hG, hS, h0, z, r⟩ := sl.get hx
    obtain ⟨ok2, le⟩ := settle ok hp hG hS
    have st2 := settleStep (vs := vs) st hG h0
    refine hf g0 H0 (g.add p (.lst vs)) H _ ω σ E o ω' ok2 st2 ?_ e (k.le le)
    refine ⟨by rw [List.length_set]; exact sl.len, fun j s o e1 e2 => ?_, fun j l xs' ys' q e1 e2 e3 e4 => ?_⟩
    · by_cases hj : i = j
      · subst hj
        have hi : i < ρ.length := (List.getElem?_eq_some_iff.mp hx).1
        rw [List.getElem?_set_self hi] at e1
        cases e1
        rw [h1] at e2; cases e2
        refine ⟨_, rfl, ?_⟩
        rw [Rep]
        exact ⟨p, vs, rfl, upd_same, z, r.mono le.ιm le.Gm⟩
      · rw [List.getElem?_set_ne hj] at e1
        have h := sl.at_ j s o e1 e2
        cases s with
        | un => trivial
        | val d => obtain ⟨v, ev, rv⟩ := h; exact ⟨v, ev, rv.mono le.ιm le.Gm⟩
        | own zs =>
          obtain ⟨q, us, eo, hq, hGq, hSq, h0q, zq, rq⟩ := h
          have nqp : q ≠ p := fun z => by
            subst z
            subst eo
            exact hj (sl.ap i j xs zs q hx e1 h1 e2)
          refine ⟨q, us, eo, hq, ?_, hSq, h0q, zq, rq.mono le.ιm le.Gm⟩
          rw [Gh.add]; simp only; rw [upd_ne nqp]; exact hGq
    · have n1 : i ≠ j := fun z => by
        subst z
        have hi : i < ρ.length := (List.getElem?_eq_some_iff.mp hx).1
        rw [List.getElem?_set_self hi] at e1; cases e1
      have n2 : i ≠ l := fun z => by
        subst z
        have hi : i < ρ.length := (List.getElem?_eq_some_iff.mp hx).1
        rw [List.getElem?_set_self hi] at e2; cases e2
      rw [List.getElem?_set_ne n1] at e1
      rw [List.getElem?_set_ne n2] at e2
      exact sl.ap j l xs' ys' q e1 e2 e3 e4
  · cases e
theorem SX.frz {i : Nat} (hf : SX X st t f) : SX X st t (sFrz i f) := ⟨hf.pe, hf.sn.frz i⟩

/-! ## loops -/
def loopD (g : DG) (f : DS) : List D → Ro → Wd → Option (Out × Wd)
  | [], ρ, ω => some (.nx ρ, ω)
  | d :: ds, ρ, ω => match g d ρ with
    | none => none
    | some ρ1 => match f ρ1 ω with
      | some (.nx ρ2, ω2) => loopD g f ds ρ2 ω2
      | some (.ct ρ2, ω2) => loopD g f ds ρ2 ω2
      | some (.bk ρ2, ω2) => some (.nx ρ2, ω2)
      | some (.rt d, ω2) => some (.rt d, ω2)
      | none => none
def sFor (fi : DA) (g : DG) (f : DS) : DS := fun ρ ω => match fi ρ ω with
  | none => none
  | some (ds, ω1) => loopD g f ds ρ ω1
theorem sn_for {wi : TI} {tg : TG} {tb : TS} {fi : DA} {js : List Nat} {fg : DG} {fb : DS} (hi : SndI K true wi fi) (hg : SndG K tg js fg) (hb : SndS K tb fb) : SndS K (tFor wi tg tb) (sFor fi fg fb) := by
  intro g0 H0 g H ρ ω σ E o ω' ok st sl e k
  unfold sFor at e
  split at e
  · cases e
  rename_i items ω1 e1
  refine hi g0 H0 g H ρ ω σ _ items ω1 ok st sl e1 fun J g1 H1 s1 ok1 hz hJ => ?_
  refine ⟨fun i m σ H => m = items.length - i ∧ i ≤ items.length ∧ ∃ g' ρ' ω2, SI K g0 H0 g1 g' ρ' ω2 σ H ∧ loopD fg fb (items.drop i) ρ' ω2 = some (o, ω'), ⟨_, rfl, Nat.zero_le _, g1, ρ, ω1, ⟨ok1, st.trans s1, sl.step s1 ok1, .refl _⟩, e⟩, ?_⟩
  rintro i m σ2 H2 ⟨rfl, hil, g2, ρ2, ω2, S, el⟩
  have it := hJ g2 H2 ⟨S.le, S.ok.sub⟩
  by_cases hlt : i < items.length
  · obtain ⟨d, hd⟩ : ∃ d, items[i]? = some d := ⟨_, List.getElem?_eq_getElem hlt⟩
    obtain ⟨go, hy⟩ := it.go i d hd
    rw [List.drop_eq_getElem_cons hlt] at el
    have hd' : items[i] = d := by rw [List.getElem?_eq_getElem hlt] at hd; exact Option.some.inj hd
    rw [hd'] at el
    unfold loopD at el
    refine .inr ⟨go, fun σ' H' => ∃ m', m' = items.length - (i + 1) ∧ (i + 1) ≤ items.length ∧ ∃ g' ρ' ω2, SI K g0 H0 g1 g' ρ' ω2 σ' H' ∧ loopD fg fb (items.drop (i + 1)) ρ' ω2 = some (o, ω'), fun σ' H' ⟨m', e', r'⟩ => ⟨m', by omega, e', r'⟩, fun x H3 hyld => ?_⟩
    obtain ⟨g3, s3, k3, r3⟩ := hy x H3 hyld
    have ok3 := k3 ω2 S.ok
    split at el
    · cases el
    rename_i ρ3 eg
    have st3 := S.st.trans s3
    refine hg H0 g3 H3 ρ2 σ2 d x ρ3 _ ok3.sub (S.sl.step s3 ok3) r3 eg fun σ4 sl4 _ _ => ?_
    have le3 : GLe g1 g3 := S.le.trans s3.le
    split at el
    · rename_i ρ5 ω5 eb
      exact hb g0 H0 g3 H3 ρ3 ω2 σ4 _ _ ω5 ok3 st3 sl4 eb fun σ6 g6 H6 S6 => ⟨_, rfl, hlt, g6, ρ5, ω5, ⟨S6.ok, S6.st, S6.sl, le3.trans S6.le⟩, el⟩
    · rename_i ρ5 ω5 eb
      exact hb g0 H0 g3 H3 ρ3 ω2 σ4 _ _ ω5 ok3 st3 sl4 eb fun σ6 g6 H6 S6 => ⟨_, rfl, hlt, g6, ρ5, ω5, ⟨S6.ok, S6.st, S6.sl, le3.trans S6.le⟩, el⟩
    · rename_i ρ5 ω5 eb
      cases el
      exact hb g0 H0 g3 H3 ρ3 ω2 σ4 _ _ ω' ok3 st3 sl4 eb fun σ6 g6 H6 S6 => k σ6 g6 H6 ⟨S6.ok, S6.st, S6.sl, (s1.le.trans le3).trans S6.le⟩
    · rename_i d5 ω5 eb
      cases el
      exact hb g0 H0 g3 H3 ρ3 ω2 σ4 _ _ ω' ok3 st3 sl4 eb k
    · cases el
  · have hil' : i = items.length := by omega
    subst hil'
    rw [List.drop_length] at el
    unfold loopD at el
    cases el
    exact .inl ⟨it.stop _ (Nat.le_refl _), k σ2 g2 H2 ⟨S.ok, S.st, S.sl, s1.le.trans S.le⟩⟩
theorem sx_for {tg iter : Expr} {body : List Stmt} {wi : TI} {g : TG} {tb : TS} {fi : DA} {js : List Nat} {fg : DG} {fb : DS} (hp : PassesOwn (model X.prog X.w) X.A X.env X.xe) (hc : X.calm = true) (hi : EI X true tg iter wi fi) (hg : EG X tg g js fg) (hb : SXs X body tb fb)
    (hs : ∀ x, foldedSetIterable iter X.env x = pure x := by intro _; rfl) : SX X (.For tg iter body [] pos) (tFor wi g tb) (sFor fi fg fb) := ⟨ps_for hp hc hi.pe hg.pe hb.pe hs, sn_for hi.sn hg.sn hb.sn⟩
def whileD (c : DT) (f : DS) : Nat → Ro → Wd → Option (Out × Wd)
  | 0, _, _ => none
  | n + 1, ρ, ω => match c ρ ω with
    | none => none
    | some (t, ω1) => if t = true then (match f ρ ω1 with
        | some (.nx ρ2, ω2) => whileD c f n ρ2 ω2
        | some (.ct ρ2, ω2) => whileD c f n ρ2 ω2
        | some (.bk ρ2, ω2) => some (.nx ρ2, ω2)
        | some (.rt d, ω2) => some (.rt d, ω2)
        | none => none)
      else some (.nx ρ, ω1)
/-- how often a while may turn, at most -/
def FUEL : Nat := 1000000
def sWhile (c : DT) (f : DS) : DS := fun ρ ω => whileD c f FUEL ρ ω
theorem sn_while {tc : TT} {tb : TS} {c : DT} {fb : DS} (hc : SndT K tc c) (hb : SndS K tb fb) : SndS K (tWhile tc tb) (sWhile c fb) := by
  intro g0 H0 g H ρ ω σ E o ω' ok st sl e k
  unfold sWhile at e
  refine ⟨fun m σ H => ∃ g' ρ' ω2, SI K g0 H0 g g' ρ' ω2 σ H ∧ whileD c fb m ρ' ω2 = some (o, ω'), ⟨FUEL, g, ρ, ω, ⟨ok, st, sl, .refl _⟩, e⟩, ?_⟩
  rintro m σ2 H2 ⟨g2, ρ2, ω2, S, el⟩
  cases m with
  | zero => unfold whileD at el; cases el
  | succ m =>
    unfold whileD at el
    split at el
    · cases el
    rename_i t ω3 ec
    refine hc g0 H0 g2 H2 ρ2 ω2 σ2 _ t ω3 S.ok S.st S.sl ec fun g3 H3 s3 ok3 => ?_
    have le3 := S.le.trans s3.le
    cases t with
    | true =>
      refine iteT ?_
      rw [if_pos rfl] at el
      refine ⟨fun σ' H' => ∃ g' ρ' ω2, SI K g0 H0 g g' ρ' ω2 σ' H' ∧ whileD c fb m ρ' ω2 = some (o, ω'), fun σ' H' h => ⟨m, Nat.lt_succ_self _, h⟩, ?_⟩
      have st3 := S.st.trans s3
      have sl3 := S.sl.step s3 ok3
      split at el
      · rename_i ρ5 ω5 eb
        exact hb g0 H0 g3 H3 ρ2 ω3 σ2 _ _ ω5 ok3 st3 sl3 eb fun σ6 g6 H6 S6 => ⟨g6, ρ5, ω5, ⟨S6.ok, S6.st, S6.sl, le3.trans S6.le⟩, el⟩
      · rename_i ρ5 ω5 eb
        exact hb g0 H0 g3 H3 ρ2 ω3 σ2 _ _ ω5 ok3 st3 sl3 eb fun σ6 g6 H6 S6 => ⟨g6, ρ5, ω5, ⟨S6.ok, S6.st, S6.sl, le3.trans S6.le⟩, el⟩
      · rename_i ρ5 ω5 eb
        cases el
        exact hb g0 H0 g3 H3 ρ2 ω3 σ2 _ _ ω' ok3 st3 sl3 eb fun σ6 g6 H6 S6 => k σ6 g6 H6 ⟨S6.ok, S6.st, S6.sl, le3.trans S6.le⟩
      · rename_i d5 ω5 eb
        cases el
        exact hb g0 H0 g3 H3 ρ2 ω3 σ2 _ _ ω' ok3 st3 sl3 eb k
      · cases el
    | false =>
      refine iteF ?_
      rw [if_neg Bool.false_ne_true] at el
      cases el
      exact k σ2 g3 H3 ⟨ok3, S.st.trans s3, S.sl.step s3 ok3, le3⟩
theorem sx_while {c : Expr} {body : List Stmt} {tc : TT} {tb : TS} {fc : DT} {fb : DS} (hp : PassesOwn (model X.prog X.w) X.A X.env X.xe) (hc : ET X c tc fc) (hb : SXs X body tb fb) : SX X (.While c body [] pos) (tWhile tc tb) (sWhile fc fb) := ⟨ps_while hp hc.pe hb.pe, sn_while hc.sn hb.sn⟩
end

/-! ## a def -/
def defD (m : Nat) (f : DS) (ds : List D) (ω : Wd) : Option (D × Wd) := match f (ds.map SV.val ++ List.replicate (m - ds.length) .un) ω with
  | some (.rt d, ω') => some (d, ω')
  | some (.nx _, ω') => some (.none, ω')
  | _ => none
theorem fn_den {P : Program} {w : World} {K : PySem.W.Frag} {mg : Str → Option Value} {base : Heap} {x qual : Str} {st : Stmt} {f : Addr} {fd : FuncData} {N ps : List Str} {k : Nat} {fb : DS} (F : Fun K x qual st f fd) (S : FnScope N ps (defScope st))
    (body : ∀ (cdv : Value) (A : Around) (outer : List PySem.Env) (s : Shared) (H : Hp) (E : XK), Room k (A.deeper (PyProof.Rows.envOfC qual (defScope st) s.heap.objs.size f cdv)) → ∃ t, SXs (cxOf CX0 P w K mg base N qual (defScope st) f cdv A outer s H E).nox (defBody st) t fb) :
    FnOk P w K mg base CX0 (k + 1) f fd ps (spD K ps.length (defD N.length fb)) := by
  refine F.ok S (fun vs H Q E h => ?_) (fun cdv A outer s H vs Q E hr h => ?_)
  · obtain ⟨g, ω, ds, d, ω', h1, _⟩ := h
    exact h1
  · obtain ⟨g, ω, ds, d, ω', h1, ok, r, e, q⟩ := h
    obtain ⟨t, B⟩ := body cdv A outer s H E hr
    refine ⟨t, B.pe, ?_⟩
    have hl := r.length
    have sl : Slots K H g H (ds.map SV.val ++ List.replicate (N.length - ds.length) .un) (L2.start N vs) := by
      refine ⟨?_, fun i s o e1 e2 => ?_, fun i j xs ys p e1 e2 e3 e4 => ?_⟩
      · unfold L2.start; simp [hl]
      · by_cases hi : i < ds.length
        · rw [List.getElem?_append_left (by simpa using hi)] at e1
          rw [List.getElem?_map] at e1
          obtain ⟨d1, hd, rfl⟩ := Option.map_eq_some_iff.mp e1
          obtain ⟨v, hv, rv⟩ := r.get hd
          unfold L2.start at e2
          rw [List.getElem?_append_left (by simp; omega), List.getElem?_map, hv] at e2
          cases e2
          exact ⟨v, rfl, rv⟩
        · rw [List.getElem?_append_right (by simp; omega)] at e1
          have := List.getElem?_replicate (n := N.length - ds.length) (a := SV.un) (i := i - (ds.map SV.val).length)
          rw [e1] at this
          split at this
          · cases this; trivial
          · cases this
      · by_cases hi : i < ds.length
        · rw [List.getElem?_append_left (by simpa using hi), List.getElem?_map] at e1
          obtain ⟨d1, _, z⟩ := Option.map_eq_some_iff.mp e1
          cases z
        · rw [List.getElem?_append_right (by simp; omega)] at e1
          have := List.getElem?_replicate (n := N.length - ds.length) (a := SV.un) (i := i - (ds.map SV.val).length)
          rw [e1] at this
          split at this <;> cases this
    unfold defD at e
    split at e
    · rename_i d1 ω1 e1
      cases e
      exact B.sn g H g H _ ω _ _ _ ω' ok (.refl _ _) sl e1 fun v g' H' ok' st' r' => q v g' H' st' ok' r'
    · rename_i ρ1 ω1 e1
      cases e
      exact B.sn g H g H _ ω _ _ _ ω' ok (.refl _ _) sl e1 fun σ' g' H' S' => q .non g' H' S'.st S'.ok (by rw [Rep])
    · cases e
end Dn
end

section
namespace Dn
open PySem PySem.Spec L2
variable [Tb]
section
variable {X : Cx} {K : PySem.W.Frag} {b b' : Bool}
/-! ## a list or a tuple is walked, whichever it is -/
def iSeq (K : PySem.W.Frag) (tl : TE) : TI := fun σ H R => tl σ H fun x H1 => ∃ a, x = .ref a ∧ (((∃ xs, H1 a = some (.lst xs)) ∧ R (Itl K a) H1) ∨ ((∃ xs, SqT K H1 a xs) ∧ R (Itt K a) H1))
theorem pi_seq {tg l : Expr} {tl : TE} (hl : PE X l tl) : PI X tg l (iSeq X.K tl) := by
  constructor
  intro pins s σ H R I h
  refine thn (hl.run pins s σ H _ I h) ?_
  rintro v s1 ⟨x, H1, I1, r1, a, rfl, q⟩
  cases r1
  have fresh : ∀ c ∈ [s1.heap.objs.size], FpOk X pins H1 c := by
    intro c hc
    rw [List.mem_singleton.mp hc]
    exact I1.fpOk (Nat.le_refl _) (I1.hok.fresh (Nat.le_refl _))
  rcases q with ⟨⟨xs, hx⟩, q⟩ | ⟨⟨xs, hx⟩, q⟩
  · obtain ⟨its, rv, pl, hz⟩ := I1.list (SqL.of hx)
    refine wpAny_pyIter_list pl.isList ?_
    exact ⟨_, _, _, _, H1, rfl, I1.kept (t' := s1.toks) (fun c o eo => Heap.get?_push_of_some _ eo), turn_list a _, ⟨_, Heap.get?_push_size _ rfl, rfl, rfl⟩, fresh, q⟩
  · obtain ⟨its, rv, pt, hz⟩ := I1.tuple hx
    refine wpAny_pyIter_tuple (items := its.toArray) pt ?_
    exact ⟨_, _, _, _, H1, rfl, I1.kept (t' := s1.toks) (fun c o eo => Heap.get?_push_of_some _ eo), turn_tuple a _, ⟨_, Heap.get?_push_size _ rfl, rfl, rfl⟩, fresh, q⟩
def iSq (f : DE) : DA := fun ρ ω => match f ρ ω with
  | some (.list ds, ω1) => some (ds, ω1)
  | some (.tuple ds, ω1) => some (ds, ω1)
  | _ => none
theorem sni_seq {t : TE} {f : DE} (h : Snd K true t f) : SndI K b (iSeq K t) (iSq f) := by
  intro g0 H0 g H ρ ω σ R ds ω' ok st sl e k
  unfold iSq at e
  split at e
  · rename_i ds1 ω1 e1
    cases e
    refine h g0 H0 g H ρ ω σ _ _ ω' ok st sl e1 fun v g1 H1 s1 ok1 r1 => ?_
    have r1' : Rep K g1.ι g1.G (.list ds) v := r1
    rw [Rep] at r1'
    obtain ⟨a, vs, rfl, q, z, r⟩ := r1'
    refine ⟨a, rfl, .inl ⟨⟨vs, ok1.sub _ _ q⟩, k _ g1 H1 s1 ok1 (by rw [← r.length]; exact z) fun g2 H2 l => ?_⟩⟩
    cases b with
    | true => exact itS_lst (l.2 _ _ (l.1.Gm _ _ q)) (r.mono l.1.ιm l.1.Gm)
    | false =>
      have l : Step g1 H1 g2 H2 := l
      exact itS_lst (l.fr _ _ (ok1.sub _ _ q) (ok1.nS _ _ q)) (r.mono l.ιm l.Gm)
  · rename_i ds1 ω1 e1
    cases e
    refine h g0 H0 g H ρ ω σ _ _ ω' ok st sl e1 fun v g1 H1 s1 ok1 r1 => ?_
    have r1' : Rep K g1.ι g1.G (.tuple ds) v := r1
    rw [Rep] at r1'
    obtain ⟨a, vs, rfl, q, z, r⟩ := r1'
    refine ⟨a, rfl, .inr ⟨⟨vs, SqT.mono ok1.sub (SqT.of q)⟩, k _ g1 H1 s1 ok1 (by rw [← r.length]; exact z) fun g2 H2 l => ?_⟩⟩
    cases b with
    | true => exact itS_tup (SqT.mono (fun x o h => l.2 _ _ (l.1.Gm _ _ h)) (SqT.of q)) (r.mono l.1.ιm l.1.Gm)
    | false =>
      have l : Step g1 H1 g2 H2 := l
      exact itS_tup (SqT.mono (fun x o h => l.fr _ _ (ok1.sub _ _ h) (ok1.nS _ _ h)) (SqT.of q)) (r.mono l.ιm l.Gm)
  · cases e
theorem ei_seq {tg e : Expr} {t : TE} {f : DE} (h : EX X true e t f) : EI X b tg e (iSeq X.K t) (iSq f) := ⟨pi_seq h.pe, sni_seq h.sn⟩

/-! ## range with a step -/
def rg3D (i c : Int) (n : Nat) : List D := (List.range n).map fun (k : Nat) => .int (i + k * c)
def rg3N (i j c : Int) : Nat := (Builtin.Range.rangeSize i j c).toNat
omit [Tb] in
theorem rg3Ok_ex : ∃ f : Int → Int → Int → Bool, ∀ i j c, f i j c = (decide (c ≠ 0) && decide (c.natAbs < 1073741824) && Builtin.Range.small i j c && decide (0 ≤ Builtin.Range.rangeSize i j c) && decide (rg3N i j c ≤ 16777216)) := ⟨_, fun _ _ _ => rfl⟩
noncomputable def rg3Ok : Int → Int → Int → Bool := Classical.choose rg3Ok_ex
theorem rg3Ok_eq (i j c : Int) : rg3Ok i j c = (decide (c ≠ 0) && decide (c.natAbs < 1073741824) && Builtin.Range.small i j c && decide (0 ≤ Builtin.Range.rangeSize i j c) && decide (rg3N i j c ≤ 16777216)) := Classical.choose_spec rg3Ok_ex i j c
noncomputable def iRange3 (a : DA) : DA := fun ρ ω => match a ρ ω with
  | some ([.int i, .int j, .int c], ω1) => if rg3Ok i j c = true then some (rg3D i c (rg3N i j c), ω1) else none
  | _ => none
theorem itS_rng3 {g : Gh} {H : Hp} {i c : Int} {n : Nat} : ItS K (Itc i c n) (rg3D i c n) g H where
  stop k hk := by unfold rg3D at hk; rw [List.length_map, List.length_range] at hk; exact hk
  go k d e := by
    have hk : k < n := by
      have := (List.getElem?_eq_some_iff.mp e).1
      unfold rg3D at this
      rw [List.length_map, List.length_range] at this; exact this
    refine ⟨hk, fun x H2 y => ?_⟩
    obtain ⟨rfl, rfl⟩ := y
    refine ⟨g, .refl _ _, fun _ h => h, ?_⟩
    have e2 : d = .int (i + k * c) := by
      unfold rg3D at e
      rw [List.getElem?_map, List.getElem?_range hk] at e
      exact (Option.some.inj e).symm
    subst e2
    rw [Rep]
theorem sni_rng3 {ta : TA} {f : DA} (h : SndA K b' ta f) : SndI K b (iRng3 ta) (iRange3 f) := by
  intro g0 H0 g H ρ ω σ R ds ω' ok st sl e k
  unfold iRange3 at e
  split at e
  · rename_i i j c ω1 e1
    split at e
    · rename_i hr
      cases e
      refine h g0 H0 g H ρ ω σ _ _ ω' ok st sl e1 fun vs g1 H1 s1 ok1 r1 => ?_
      obtain ⟨v, ws, rfl, r, t⟩ := RepL.inv r1
      obtain ⟨v2, v3, rfl, r2, r3⟩ := RBL.two (b := b') (g0 := g0) (H0 := H0) (g := g1) (H := H1) t
      simp only [rg3Ok_eq, Bool.and_eq_true, decide_eq_true_eq] at hr
      obtain ⟨⟨⟨⟨h1, h2⟩, h3⟩, h4⟩, h5⟩ := hr
      refine ⟨i, j, c, rg3N i j c, by rw [show v = .int i from RB.intV r, show v2 = .int j from r2.intV, show v3 = .int c from r3.intV], ⟨h1, h2, h3, ?_⟩, k _ g1 H1 s1 ok1 ?_ fun g2 H2 _ => itS_rng3⟩
      · unfold rg3N; omega
      · unfold rg3D; rw [List.length_map, List.length_range, sizeLine_eq]; exact h5
    · cases e
  · cases e
theorem ei_rng3 {tg a c d : Expr} {ta : TA} {f : DA} {p pos : Pos} (hm : X.mg "range" = none) (h : EA X b' [a, c, d] ta f) (hg : Gl X "range" := by rfl) (hs : starEach [a, c, d] X.env = (false, eval a X.env) :: starEach [c, d] X.env := by rfl) (hs2 : (backTo pos (starEach [c, d] X.env)).any (·.1) = false := by rfl) : EI X b tg (.Call (.Name "range" p) [a, c, d] [] pos) (iRng3 ta) (iRange3 f) :=
  ⟨pi_range3 hg hm h.pe hs hs2, sni_rng3 h.sn⟩
/-! ## comprehensions of two clauses -/
/-- the heap without one address -/
def rm (P : Addr) (H : Hp) : Hp := fun a => if a = P then none else H a
theorem rm_ne {P a : Addr} {H : Hp} (h : a ≠ P) : rm P H a = H a := by unfold rm; rw [if_neg h]
theorem rm_same {P : Addr} {H : Hp} : rm P H P = none := by unfold rm; rw [if_pos rfl]
theorem rm_some {P a : Addr} {H : Hp} {o : HO} (h : rm P H a = some o) : a ≠ P ∧ H a = some o := by
  by_cases hap : a = P
  · subst hap; rw [rm_same] at h; cases h
  · rw [rm_ne hap] at h; exact ⟨hap, h⟩
theorem GOk.rm {g : Gh} {H : Hp} {ω : Wd} {P : Addr} (ok : GOk K g H ω) (hG : g.G P = none) (hS : ¬ g.S P) : GOk K g (rm P H) ω := by
  have ne : ∀ a o, g.G a = some o → a ≠ P := fun a o h z => by subst z; rw [hG] at h; cases h
  refine ⟨fun a o h => by rw [rm_ne (ne a o h)]; exact ok.sub a o h, ok.seq, ok.nS, ok.inj, ok.inS, fun n o e => ?_, fun a h => ?_, ok.lv, ok.tbH fun Q ps hs e => (rm_ne (fun (z : Q = P) => hS (by rw [← z]; exact hs))).trans e⟩
  · obtain ⟨a, ia, h⟩ := ok.st n o e
    have hn : n < ω.objs.length := (List.getElem?_eq_some_iff.mp e).1
    have nap : a ≠ P := fun z => by subst z; exact hS (ok.inS n a hn ia)
    exact ⟨a, ia, h.mono (fun _ _ h => h) (fun _ _ h => h) (rm_ne nap)⟩
  · obtain ⟨u, e, t⟩ := ok.sl a h
    exact ⟨u, by rw [rm_ne (fun z => by subst z; exact hS h)]; exact e, t⟩
theorem Step.rm {g g' : Gh} {H H' : Hp} {P : Addr} (s : Step g H g' H') : Step g (rm P H) g' (Dn.rm P H') := by
  refine ⟨s.ιm, s.Gm, s.Sm, fun a o h hs => ?_, fun a h => ?_, fun a h => ?_, fun a vs h => ?_, s.lv, s.ιl⟩
  · obtain ⟨n, h⟩ := rm_some h
    rw [rm_ne n]; exact s.fr a o h hs
  · rcases s.nS a h with q | q
    · exact .inl q
    · refine .inr ?_
      by_cases hap : a = P
      · subst hap; exact rm_same
      · rw [rm_ne hap]; exact q
  · by_cases hap : a = P
    · subst hap; exact rm_same
    · rw [rm_ne hap] at h ⊢; exact s.al a h
  · rcases s.nw a vs h with q | q
    · exact .inl q
    · refine .inr ?_
      by_cases hap : a = P
      · subst hap; exact rm_same
      · rw [rm_ne hap]; exact q
theorem Slots.rm {H0 : Hp} {g : Gh} {H : Hp} {ρ : Ro} {σ : L2.St} {P : Addr} (h : Slots K H0 g H ρ σ) (hP : ∀ (i : Nat) (xs : List D), ρ[i]? = some (.own xs) → σ[i]? ≠ some (some (.ref P))) : Slots K H0 g (rm P H) ρ σ := by
  refine ⟨h.len, fun i s o e1 e2 => ?_, h.ap⟩
  have q := h.at_ i s o e1 e2
  cases s with
  | un => trivial
  | val d => exact q
  | own xs =>
    obtain ⟨p, vs, rfl, hp, r⟩ := q
    have np : p ≠ P := fun z => by subst z; exact hP i xs e1 e2
    exact ⟨p, vs, rfl, by rw [rm_ne np]; exact hp, r⟩
theorem Slots.unrm {H0 : Hp} {g : Gh} {H : Hp} {ρ : Ro} {σ : L2.St} {P : Addr} (h : Slots K H0 g (Dn.rm P H) ρ σ) : Slots K H0 g H ρ σ := by
  refine ⟨h.len, fun i s o e1 e2 => ?_, h.ap⟩
  have q := h.at_ i s o e1 e2
  cases s with
  | un => trivial
  | val d => exact q
  | own xs =>
    obtain ⟨p, vs, rfl, hp, r⟩ := q
    exact ⟨p, vs, rfl, (rm_some hp).2, r⟩
def lc2D (fg : DG) (ft : DT) (fi1 : DA) (fg1 : DG) (ft1 : DT) (fe : DE) (vs1 : List Nat) (ρ : Ro) : List D → Wd → Option (List D × Wd)
  | [], ω => some ([], ω)
  | d :: ds, ω => match fg d ρ with
    | none => none
    | some ρ1 => match ft ρ1 ω with
      | none => none
      | some (c, ω1) => if c = true then (match fi1 ρ1 ω1 with
          | none => none
          | some (items, ω2) => match lcD fg1 ft1 fe (wipeR ρ1 vs1) items ω2 with
            | none => none
            | some (xs, ω3) => match lc2D fg ft fi1 fg1 ft1 fe vs1 ρ ds ω3 with
              | none => none
              | some (ys, ω4) => some (xs ++ ys, ω4))
        else lc2D fg ft fi1 fg1 ft1 fe vs1 ρ ds ω1
def eLc2N (fi : DA) (fg : DG) (ft : DT) (fi1 : DA) (fg1 : DG) (ft1 : DT) (fe : DE) (vs vs1 : List Nat) : DA := fun ρ ω => match fi ρ ω with
  | none => none
  | some (ds, ω1) => match lc2D fg ft fi1 fg1 ft1 fe vs1 (wipeR ρ vs) ds ω1 with
    | none => none
    | some (xs, ω2) => if xs.length ≤ sizeLine then some (xs, ω2) else none
theorem snn_lc2 {wi wi1 : TI} {tg tg1 : TG} {tt tt1 : TT} {te : TE} {fi fi1 : DA} {fg fg1 : DG} {ft ft1 : DT} {fe : DE} {js js1 vs vs1 : List Nat} (hi : SndI K b wi fi) (hg : SndG K tg js fg) (hj : ∀ j ∈ js, j ∈ vs) (ht : SndT K tt ft)
    (hi1 : SndI K true wi1 fi1) (hg1 : SndG K tg1 js1 fg1) (hj1 : ∀ j ∈ js1, j ∈ vs1) (ht1 : SndT K tt1 ft1) (he : Snd K true te fe) : SndN K (tLc2 wi tg tt wi1 tg1 tt1 te vs vs1) (eLc2N fi fg ft fi1 fg1 ft1 fe vs vs1) := by
  intro g0 H0 g H ρ ω σ Q ds ω' ok st sl e k
  unfold eLc2N at e
  split at e
  · cases e
  rename_i items ω1 e1
  split at e
  · cases e
  rename_i res ω2 e2
  split at e
  · rename_i hres
    cases e
    refine hi g0 H0 g H ρ ω σ _ items ω1 ok st sl e1 fun J g1 H1 s1 ok1 hz hJ => ?_
    intro P hP
    -- the state at a turn of the outer loop
    let St1 : Nat → Hp → Prop := fun i H2 => ∃ g2 ω2 acc accD rest, Step g1 H1 g2 H2 ∧ GOk K g2 H2 ω2 ∧ H2 P = some (.lst acc) ∧ g2.G P = none ∧ ¬ g2.S P ∧ RepL K g2.ι g2.G accD acc ∧ lc2D fg ft fi1 fg1 ft1 fe vs1 (wipeR ρ vs) (items.drop i) ω2 = some (rest, ω') ∧ accD ++ rest = ds
    refine ⟨fun i m H2 => m = items.length - i ∧ i ≤ items.length ∧ St1 i H2, ?_, ?_⟩
    · obtain ⟨s2, ok2⟩ := allocOwn ok1 hP (o := .lst [])
      have nG : g1.G P = none := by
        cases q : g1.G P with
        | none => rfl
        | some u => rw [ok1.sub P u q] at hP; cases hP
      have nS : ¬ g1.S P := fun q => by obtain ⟨u, e, _⟩ := ok1.sl P q; rw [hP] at e; cases e
      exact ⟨_, rfl, Nat.zero_le _, g1, ω1, [], [], ds, s2, ok2, upd_same, nG, nS, .nil, e2, rfl⟩
    · rintro i m H2 ⟨rfl, hil, g2, ω2, acc, accD, rest, s2, ok2, hP2, hG2, hS2, hacc, hrest, happ⟩
      have it := hJ g2 H2 (Later.step s2 ok2)
      by_cases hlt : i < items.length
      · obtain ⟨d, hd⟩ : ∃ d, items[i]? = some d := ⟨_, List.getElem?_eq_getElem hlt⟩
        obtain ⟨go, hy⟩ := it.go i d hd
        rw [List.drop_eq_getElem_cons hlt] at hrest
        have hd' : items[i] = d := by rw [List.getElem?_eq_getElem hlt] at hd; exact Option.some.inj hd
        rw [hd'] at hrest
        unfold lc2D at hrest
        refine .inr ⟨go, fun H' => ∃ m', m' = items.length - (i + 1) ∧ (i + 1) ≤ items.length ∧ St1 (i + 1) H', fun H' ⟨m', e', r'⟩ => ⟨m', by omega, e', r'⟩, fun x H3 hyld => ?_⟩
        obtain ⟨g3, s3, k3, r3⟩ := hy x H3 hyld
        have ok3 := k3 ω2 ok2
        split at hrest
        · cases hrest
        rename_i ρ1 eg
        have sall : Step g H g3 H3 := (s1.trans s2).trans s3
        have sl3 : Slots K H0 g3 H3 ρ σ := sl.step sall ok3
        refine hg H0 g3 H3 _ _ d x ρ1 _ ok3.sub (sl3.wipe vs) r3 eg fun σ4 sl4 w4 own4 => ⟨?_, ?_⟩
        · rw [w4 vs hj, wipe_wipe]
        split at hrest
        · cases hrest
        rename_i c ω4 et
        refine ht g0 H0 g3 H3 ρ1 ω2 σ4 _ c ω4 ok3 (st.trans sall) sl4 et fun g5 H5 s5 ok5 => ?_
        obtain ⟨hP3, hG3, hS3⟩ := own_step hP2 hG2 hS2 s3 ok3
        obtain ⟨hP5, hG5, hS5⟩ := own_step hP3 hG3 hS3 s5 ok5
        cases c with
        | false =>
          refine iteF ?_
          rw [if_neg Bool.false_ne_true] at hrest
          exact ⟨_, rfl, hlt, g5, ω4, acc, accD, rest, (s2.trans s3).trans s5, ok5, hP5, hG5, hS5, hacc.mono (s3.trans s5).ιm (s3.trans s5).Gm, hrest, happ⟩
        | true =>
          refine iteT ?_
          rw [if_pos rfl] at hrest
          split at hrest
          · cases hrest
          rename_i its2 ω6 ei
          split at hrest
          · cases hrest
          rename_i xs ω7 ex
          split at hrest
          · cases hrest
          rename_i ys ω8 ey
          cases hrest
          have sall5 : Step g H g5 H5 := sall.trans s5
          have sl5 := sl4.step s5 ok5
          refine hi1 g0 H0 g5 H5 ρ1 ω4 σ4 _ its2 ω6 ok5 (st.trans sall5) sl5 ei fun J1 g6 H6 s6 ok6 hz6 hJ6 => ?_
          obtain ⟨hP6, hG6, hS6⟩ := own_step hP5 hG5 hS5 s6 ok6
          have s26 : Step g1 H1 g6 H6 := ((s2.trans s3).trans s5).trans s6
          have hacc6 := hacc.mono ((s3.trans s5).trans s6).ιm ((s3.trans s5).trans s6).Gm
          have sl6 : Slots K H0 g6 H6 ρ1 σ4 := sl5.step s6 ok6
          -- H6 without the list that grows: what stood at the inner loop's beginning
          have nP : ∀ (l : Nat) (zs : List D), ρ1[l]? = some (.own zs) → σ4[l]? ≠ some (some (.ref P)) := fun l zs h1 h2 => by
            obtain ⟨h3, h4⟩ := own4 l zs h1
            have h5 := (sl.step s1 ok1).wipe vs
            rw [h4] at h2
            obtain ⟨q, us, eq, hq, _⟩ := h5.at_ l _ _ h3 h2
            cases eq
            rw [hP] at hq; cases hq
          have slr : Slots K H0 g6 (rm P H6) ρ1 σ4 := sl6.rm nP
          refine ⟨fun j m H7 => m = its2.length - j ∧ j ≤ its2.length ∧ ∃ g7 ω7' acc7 accD7 rest7, Step g1 H1 g7 H7 ∧ Step g6 (rm P H6) g7 (rm P H7) ∧ GOk K g7 H7 ω7' ∧ H7 P = some (.lst acc7) ∧ g7.G P = none ∧ ¬ g7.S P ∧ RepL K g7.ι g7.G accD7 acc7 ∧ lcD fg1 ft1 fe (wipeR ρ1 vs1) (its2.drop j) ω7' = some (rest7, ω7) ∧ accD7 ++ rest7 = accD ++ xs, ?_, ?_⟩
          · exact ⟨_, rfl, Nat.zero_le _, g6, ω6, acc, accD, xs, s26, .refl _ _, ok6, hP6, hG6, hS6, hacc6, ex, rfl⟩
          · rintro j m H7 ⟨rfl, hjl, g7, ω7', acc7, accD7, rest7, s7, s67, ok7, hP7, hG7, hS7, hacc7, hr7, happ7⟩
            have it7 := hJ6 g7 H7 ⟨s67.le, ok7.sub⟩
            have sl7 : Slots K H0 g7 H7 ρ1 σ4 := (slr.step s67 (ok7.rm hG7 hS7)).unrm
            by_cases hlt7 : j < its2.length
            · obtain ⟨d7, hd7⟩ : ∃ d, its2[j]? = some d := ⟨_, List.getElem?_eq_getElem hlt7⟩
              obtain ⟨go7, hy7⟩ := it7.go j d7 hd7
              rw [List.drop_eq_getElem_cons hlt7] at hr7
              have hd7' : its2[j] = d7 := by rw [List.getElem?_eq_getElem hlt7] at hd7; exact Option.some.inj hd7
              rw [hd7'] at hr7
              unfold lcD at hr7
              refine .inr ⟨go7, fun H8 => ∃ m', m' = its2.length - (j + 1) ∧ (j + 1) ≤ its2.length ∧ ∃ g7 ω7' acc7 accD7 rest7, Step g1 H1 g7 H8 ∧ Step g6 (rm P H6) g7 (rm P H8) ∧ GOk K g7 H8 ω7' ∧ H8 P = some (.lst acc7) ∧ g7.G P = none ∧ ¬ g7.S P ∧ RepL K g7.ι g7.G accD7 acc7 ∧ lcD fg1 ft1 fe (wipeR ρ1 vs1) (its2.drop (j + 1)) ω7' = some (rest7, ω7) ∧ accD7 ++ rest7 = accD ++ xs,
                fun H' ⟨m', e', r'⟩ => ⟨m', by omega, e', r'⟩, fun x8 H8 hy8 => ?_⟩
              obtain ⟨g8, s8, k8, r8⟩ := hy7 x8 H8 hy8
              have ok8 := k8 ω7' ok7
              split at hr7
              · cases hr7
              rename_i ρ9 eg9
              have sl8 : Slots K H0 g8 H8 ρ1 σ4 := sl7.step s8 ok8
              refine hg1 H0 g8 H8 _ _ d7 x8 ρ9 _ ok8.sub (sl8.wipe vs1) r8 eg9 fun σ9 sl9 w9 _ => ⟨?_, ?_⟩
              · rw [w9 vs1 hj1, wipe_wipe]
              split at hr7
              · cases hr7
              rename_i c9 ω9 et9
              have st8 : Step g0 H0 g8 H8 := (st.trans s1).trans (s7.trans s8)
              refine ht1 g0 H0 g8 H8 ρ9 ω7' σ9 _ c9 ω9 ok8 st8 sl9 et9 fun g10 H10 s10 ok10 => ?_
              obtain ⟨hP8, hG8, hS8⟩ := own_step hP7 hG7 hS7 s8 ok8
              obtain ⟨hP10, hG10, hS10⟩ := own_step hP8 hG8 hS8 s10 ok10
              have sA : Step g7 H7 g10 H10 := s8.trans s10
              cases c9 with
              | false =>
                refine iteF ?_
                rw [if_neg Bool.false_ne_true] at hr7
                exact ⟨_, rfl, hlt7, g10, ω9, acc7, accD7, rest7, s7.trans sA, s67.trans sA.rm, ok10, hP10, hG10, hS10, hacc7.mono sA.ιm sA.Gm, hr7, happ7⟩
              | true =>
                refine iteT ?_
                rw [if_pos rfl] at hr7
                split at hr7
                · cases hr7
                rename_i y11 ω11 ee
                split at hr7
                · cases hr7
                rename_i ys11 ω12 er
                cases hr7
                refine he g0 H0 g10 H10 ρ9 ω9 σ9 _ y11 ω11 ok10 (st8.trans s10) (sl9.step s10 ok10) ee fun v11 g11 H11 s11 ok11 r11 => ?_
                obtain ⟨hP11, hG11, hS11⟩ := own_step hP10 hG10 hS10 s11 ok11
                have sB : Step g7 H7 g11 H11 := sA.trans s11
                have hlen : acc7.length < sizeLine := by
                  have h1 : accD7.length + (ys11.length + 1) = (accD ++ xs).length := by rw [← happ7, List.length_append]; rfl
                  have h2 : (accD ++ xs).length ≤ ds.length := by rw [← happ, List.length_append, List.length_append, List.length_append]; omega
                  have h3 := hacc7.length
                  omega
                have eqrm : ∀ u, rm P (upd H11 P u) = rm P H11 := fun u => by
                  funext a
                  by_cases hap : a = P
                  · subst hap; rw [rm_same, rm_same]
                  · rw [rm_ne hap, rm_ne hap, upd_ne hap]
                refine ⟨acc7, hP11, hlen, _, rfl, hlt7, g11, ω11, acc7 ++ [v11], accD7 ++ [y11], ys11, mutStep (s7.trans sB) hP, ?_, mutOk ok11 hP11 hG11 hS11, upd_same, hG11, hS11, (hacc7.mono sB.ιm sB.Gm).append (.cons r11 .nil), er, ?_⟩
                · rw [eqrm]; exact s67.trans sB.rm
                · rw [← happ7, List.append_assoc]; rfl
            · have hjl' : j = its2.length := by omega
              subst hjl'
              rw [List.drop_length] at hr7
              unfold lcD at hr7
              cases hr7
              rw [List.append_nil] at happ7
              subst happ7
              exact .inl ⟨it7.stop _ (Nat.le_refl _), _, rfl, hlt, g7, _, acc7, accD ++ xs, ys, s7, ok7, hP7, hG7, hS7, hacc7, ey, by rw [← happ, List.append_assoc]⟩
      · have hil' : i = items.length := by omega
        subst hil'
        rw [List.drop_length] at hrest
        unfold lc2D at hrest
        cases hrest
        rw [List.append_nil] at happ
        subst happ
        exact .inl ⟨it.stop _ (Nat.le_refl _), k P acc g2 H2 (s1.trans s2) ok2 (s1.al P hP) hP2 hG2 hS2 (by rw [hacc.length]; exact hres) hacc⟩
  · cases e
end
end Dn
end

section
namespace Dn
open PySem PySem.Spec L2
variable [Tb]
section
variable {X : Cx} {K : PySem.W.Frag} {b b' : Bool}
theorem snd_ofN {t : TE} {f : DA} (h : SndN K t f) : Snd K true t (eOfN f) := by
  intro g0 H0 g H ρ ω σ Q d ω' ok st sl e k
  unfold eOfN at e
  split at e
  · cases e
  rename_i ds ω1 e1
  cases e
  refine h g0 H0 g H ρ ω σ Q ds ω' ok st sl e1 fun p vs g' H' s' ok' h1 h2 h3 h4 h5 h6 => ?_
  obtain ⟨ok2, le⟩ := settle ok' h2 h3 h4
  refine k _ _ H' (settleStep s' h3 h1) ok2 ?_
  show Rep K (g'.add p (.lst vs)).ι (g'.add p (.lst vs)).G (.list ds) (.ref p)
  rw [Rep]
  exact ⟨p, vs, rfl, upd_same, h5, h6.mono le.ιm le.Gm⟩
/-- y = [.. for ..], the list is not changed any more -/
theorem sx_lcV {i : Nat} {y : Str} {py : Pos} {elt tg iter : Expr} {ifs : List Expr} {scope : Scope} {own : List (Str × Nat)} {pos spos : Pos} {wi : TI} {g : TG} {tt : TT} {te : TE} {fi : DA} {fg : DG} {ft : DT} {fe : DE} {js : List Nat} (hc : X.calm = true) (hN : X.N.Nodup) (hi : EI X b tg iter wi fi) (ok : BlkOk X.N X.env.scope scope own)
    (hg : ∀ (s : Shared) (H : Hp) (C : Addr) (cl : List (Str × Addr)) (fp : List Addr), EG (X.blk s H scope (compEnvC scope cl C X.env) fp) tg g js fg)
    (ht : ∀ (s : Shared) (H : Hp) (C : Addr) (cl : List (Str × Addr)) (fp : List Addr), ETs (X.blk s H scope (compEnvC scope cl C X.env) fp) ifs tt ft)
    (he : ∀ (s : Shared) (H : Hp) (C : Addr) (cl : List (Str × Addr)) (fp : List Addr), EX (X.blk s H scope (compEnvC scope cl C X.env) fp) true elt te fe)
    (hy : X.N[i]? = some y := by rfl) (hyl : X.env.scope.names.lookup y = some .local := by rfl) (hl : (py.line == pos.line) = true := by rfl) (hk : X.env.scope.kind = .function := by rfl) (ha : (scope.names.any fun (n, k) => n == y && (k == .local || k == .cell)) = false := by decide +kernel)
    (hj : ∀ j ∈ js, j ∈ own.map (·.2) := by decide) (hs : ∀ x, foldedSetIterable iter X.env x = pure x := by intro _; rfl) :
    SX X (.Assign [.Name y py] (.ListComp elt [⟨tg, iter, ifs, 0⟩] scope pos) spos) (tAsg (tLc wi g tt te (own.map (·.2))) (gName i)) (sSet i (eOfN (eLcN fi fg ft fe (own.map (·.2))))) := by
  refine ⟨ps_setLc hc hN hy hyl (sw_true hk hyl hl ha) hi.pe ok (fun s H C cl fp => (hg s H C cl fp).pe) (fun s H C cl fp => (ht s H C cl fp).pe) (fun s H C cl fp => (he s H C cl fp).pe) hs, ?_⟩
  refine sn_set (snd_ofN ?_)
  intro g0 H0 gh H ρ ω σ Q ds ω' ok' st sl e k
  exact lc_sound hi.sn (hg X.s_0 X.H_0 0 [] []).sn hj (ht X.s_0 X.H_0 0 [] []).sn (he X.s_0 X.H_0 0 [] []).sn ok' st sl e k
theorem en_lc2 {elt tg iter tg1 iter1 : Expr} {ifs ifs1 : List Expr} {scope : Scope} {own : List (Str × Nat)} {pos : Pos} {wi wi1 : TI} {g g1 : TG} {tt tt1 : TT} {te : TE} {fi fi1 : DA} {fg fg1 : DG} {ft ft1 : DT} {fe : DE} {js js1 : List Nat} {vs1 : List Nat} (hc : X.calm = true) (hN : X.N.Nodup) (hi : EI X b tg iter wi fi) (ok : BlkOk X.N X.env.scope scope own)
    (hg : ∀ (s : Shared) (H : Hp) (C : Addr) (cl : List (Str × Addr)) (fp : List Addr), EG (X.blk s H scope (compEnvC scope cl C X.env) fp) tg g js fg)
    (ht : ∀ (s : Shared) (H : Hp) (C : Addr) (cl : List (Str × Addr)) (fp : List Addr), ETs (X.blk s H scope (compEnvC scope cl C X.env) fp) ifs tt ft)
    (hi1 : ∀ (s : Shared) (H : Hp) (C : Addr) (cl : List (Str × Addr)) (fp : List Addr), EI (X.blk s H scope (compEnvC scope cl C X.env) fp) true tg1 iter1 wi1 fi1)
    (hg1 : ∀ (s : Shared) (H : Hp) (C : Addr) (cl : List (Str × Addr)) (fp : List Addr), EG (X.blk s H scope (compEnvC scope cl C X.env) fp) tg1 g1 js1 fg1)
    (ht1 : ∀ (s : Shared) (H : Hp) (C : Addr) (cl : List (Str × Addr)) (fp : List Addr), ETs (X.blk s H scope (compEnvC scope cl C X.env) fp) ifs1 tt1 ft1)
    (he : ∀ (s : Shared) (H : Hp) (C : Addr) (cl : List (Str × Addr)) (fp : List Addr), EX (X.blk s H scope (compEnvC scope cl C X.env) fp) true elt te fe)
    (hv : ∀ i ∈ vs1, i ∈ own.map (·.2) := by decide) (hj : ∀ j ∈ js, j ∈ own.map (·.2) := by decide) (hj1 : ∀ j ∈ js1, j ∈ vs1 := by decide) (hs : ∀ x, foldedSetIterable iter X.env x = pure x := by intro _; rfl) (hs1 : ∀ env x, foldedSetIterable iter1 env x = pure x := by intro _ _; rfl) :
    EN X (.ListComp elt [⟨tg, iter, ifs, 0⟩, ⟨tg1, iter1, ifs1, 0⟩] scope pos) (tLc2 wi g tt wi1 g1 tt1 te (own.map (·.2)) vs1) (eLc2N fi fg ft fi1 fg1 ft1 fe (own.map (·.2)) vs1) :=
  ⟨pe_lc2 hc hN hi.pe ok hv (fun s H C cl fp => (hg s H C cl fp).pe) (fun s H C cl fp => (ht s H C cl fp).pe) (fun s H C cl fp => (hi1 s H C cl fp).pe) (fun s H C cl fp => (hg1 s H C cl fp).pe) (fun s H C cl fp => (ht1 s H C cl fp).pe) (fun s H C cl fp => (he s H C cl fp).pe) hs hs1,
    snn_lc2 hi.sn (hg X.s_0 X.H_0 0 [] []).sn hj (ht X.s_0 X.H_0 0 [] []).sn (hi1 X.s_0 X.H_0 0 [] []).sn (hg1 X.s_0 X.H_0 0 [] []).sn hj1 (ht1 X.s_0 X.H_0 0 [] []).sn (he X.s_0 X.H_0 0 [] []).sn⟩
/-- code that is never come to -/
def sNever : DS := fun _ _ => none
theorem sxs_never {sts : List Stmt} : SXs X sts tNever sNever := ⟨pss_never, fun g0 H0 g H ρ ω σ E o ω' ok st sl e k => nomatch e⟩
theorem sx_never {st : Stmt} : SX X st tNever sNever := ⟨ps_never, fun g0 H0 g H ρ ω σ E o ω' ok st sl e k => nomatch e⟩
/-- in, not in: of a list, a tuple, a text -/
def opInD (x y : D) : Option D := match y with
  | .str j => (match x with
    | .str i => some (.bool (!(Builtin.Str.occurrences j i 0 j.length 1).isEmpty))
    | _ => none)
  | _ => opIn x y
def opNotInD (x y : D) : Option D := match y with
  | .str j => (match x with
    | .str i => some (.bool (!(!(Builtin.Str.occurrences j i 0 j.length 1).isEmpty)))
    | _ => none)
  | _ => opNotIn x y
def rInD (K : PySem.W.Frag) : R2 := fun x y H Q => rDat K inOk inRes x y H Q ∨ (∃ i j, x = .str i ∧ y = .str j ∧ Q (.bl (!(Builtin.Str.occurrences j i 0 j.length 1).isEmpty)) H)
def rNotInD (K : PySem.W.Frag) : R2 := fun x y H Q => rDat K inOk (fun d e => !inRes d e) x y H Q ∨ (∃ i j, x = .str i ∧ y = .str j ∧ Q (.bl (!(!(Builtin.Str.occurrences j i 0 j.length 1).isEmpty))) H)
theorem op_inD (hu : X.A.units + 64 < cLine) : OpR X (compareOp .In) (rInD X.K) := (op_inP hu).or op_in_str
theorem op_notInD (hu : X.A.units + 64 < cLine) : OpR X (compareOp .NotIn) (rNotInD X.K) := (op_notInP hu).or op_notin_str
theorem ops_inD : OpS K b true (rInD K) opInD := by
  intro g0 H0 g H ω x y v w d Q ok st r1 r2 e k
  unfold opInD at e
  split at e
  · split at e
    · cases e
      rw [r1.strV, r2.strV]
      exact .inr ⟨_, _, rfl, rfl, k _ g H (.refl _ _) ok .bl⟩
    · cases e
  · exact .inl (ops_in g0 H0 g H ω x y v w d Q ok st r1 r2 e k)
theorem ops_notInD : OpS K b true (rNotInD K) opNotInD := by
  intro g0 H0 g H ω x y v w d Q ok st r1 r2 e k
  unfold opNotInD at e
  split at e
  · split at e
    · cases e
      rw [r1.strV, r2.strV]
      exact .inr ⟨_, _, rfl, rfl, k _ g H (.refl _ _) ok .bl⟩
    · cases e
  · exact .inl (ops_notIn g0 H0 g H ω x y v w d Q ok st r1 r2 e k)
/-- tuple(x), x a list of one's own: the tuple is settled -/
def eTupOwn (i : Nat) : DE := fun ρ ω => match ρ[i]? with
  | some (.own xs) => some (.tuple xs, ω)
  | _ => none
theorem ex_tupOwn {i : Nat} {x : Str} {npos p pos : Pos} (hm : X.mg "tuple" = none) (hN : X.N[i]? = some x := by rfl) (hv : Vis X.env.scope x := by first | exact Or.inl rfl | exact Or.inr (Or.inl rfl) | exact Or.inr (Or.inr rfl)) (hd : (x == ("__debug__" : Str)) = false := by decide)
    (hcd : (x == ("__classdict__" : Str)) = false := by decide) (hg : Gl X "tuple" := by rfl) (he : starEach [.Name x npos] X.env = (false, eval (.Name x npos) X.env) :: starEach [] X.env := by rfl) (hpl : (backTo pos (starEach [] X.env)).any (·.1) = false := by rfl) :
    EX X true (.Call (.Name "tuple" p) [.Name x npos] [] pos) (tCB (fun xs H Q => ∃ p ys, xs = [.ref p] ∧ ((SqL X.K H p ys ∧ ∀ l, H l = none → Q (.ref l) (upd H l (.tup ys))) ∨ (SqT X.K H p ys ∧ Q (.ref p) H))) (tCons (tVar i) tNil)) (eTupOwn i) := by
  refine ⟨pe_callTy call_tuple_of hg hm PyProof.Rows.boot_tuple (pa_cons (pe_var hN hv hd hcd) pa_nil he) (by decide) (by decide) he hpl, ?_⟩
  intro g0 H0 g H ρ ω σ Q d ω' ok st sl e k
  unfold eTupOwn at e
  split at e
  · rename_i xs hx
    cases e
    obtain ⟨o, h1, p, vs, rfl, hp, hG, hS, h0, z, r⟩ := sl.get hx
    refine ⟨_, h1, p, vs, rfl, .inl ⟨SqL.of hp, fun q hq => ?_⟩⟩
    obtain ⟨s2, ok2⟩ := alloc ok hq (o := .tup vs) rfl
    exact k _ _ _ s2 ok2 (RB.newTup (b := true) ok st hq z r)
  · cases e
end
end Dn
end

section
namespace Dn
open PySem PySem.Spec L2
variable [Tb]
section
variable {P : Program} {w : World} {K : PySem.W.Frag} {mg : Str → Option Value} {base : Heap}
/-- a def that calls itself, with no call left: it promises nothing -/
theorem fn_zero {x qual : Str} {st : Stmt} {f : Addr} {fd : FuncData} {N ps : List Str} {k n : Nat} (F : Fun K x qual st f fd) (S : FnScope N ps (defScope st)) :
    FnOk P w K mg base CX0 (k + 1) f fd ps (spD K n fun _ _ => none) := by
  refine F.ok S (fun vs H Q E h => ?_) (fun cdv A outer s H vs Q E hr h => ?_)
  · obtain ⟨g, ω, ds, d, ω', h1, ok, r, e, q⟩ := h
    cases e
  · obtain ⟨g, ω, ds, d, ω', h1, ok, r, e, q⟩ := h
    cases e
/-! ## the law's box and the law's own def -/
def spLaw (K : PySem.W.Frag) : Sp := fun vs H Q _ => ∃ (a : Addr) (ns : List Int), vs = [.ref a] ∧ SqL K H a (ns.map V.int) ∧ ns.length ≤ 63 ∧ (∀ P, Tb.T P → GxR.TabG H P) ∧ ∀ H', Q (.bl true) H'
def spBox4 (K : PySem.W.Frag) : Sp := fun vs H Q _ => ∃ (a : Addr) (ns : List Int) (z : Int), vs = [.ref a, .int z] ∧ SqL K H a (ns.map V.int) ∧ ns.length ≤ 63 ∧
  ∀ b c H', b ≠ c → (∀ x o, H x = some o → H' x = some o) → H' c = some (.lst (ns.map V.int)) → H' b = some (.lst [.ref c, .int 0, .int (4711 + (ns.length : Int)), .int z]) → Q (.ref b) H'
def spBox3 (K : PySem.W.Frag) : Sp := fun vs H Q _ => ∃ (a : Addr) (ns : List Int), vs = [.ref a] ∧ SqL K H a (ns.map V.int) ∧ ns.length ≤ 63 ∧
  ∀ b c H', b ≠ c → (∀ x o, H x = some o → H' x = some o) → H' c = some (.lst (ns.map V.int)) → H' b = some (.lst [.ref c, .int 0, .int (4711 + (ns.length : Int))]) → Q (.ref b) H'
theorem box_all4 {H : Hp} {ns : List Int} {z : Int} {b c : Addr} {Q : VK} (hc : H c = none) (hb : (upd H c (.lst (ns.map V.int))) b = none)
    (k : ∀ b c H', b ≠ c → (∀ x o, H x = some o → H' x = some o) → H' c = some (.lst (ns.map V.int)) → H' b = some (.lst [.ref c, .int 0, .int (4711 + (ns.length : Int)), .int z]) → Q (.ref b) H') :
    Q (.ref b) (upd (upd H c (.lst (ns.map V.int))) b (.lst [.ref c, .int 0, .int (4711 + (((ns.map V.int).length : Nat) : Int)), .int z])) := by
  have hbc : b ≠ c := fun e => by rw [e, upd_same] at hb; cases hb
  refine k b c _ hbc (fun x o h => upd_keep hb (upd_keep hc h)) ?_ ?_
  · rw [upd_ne (Ne.symm hbc), upd_same]
  · rw [upd_same, List.length_map]
theorem box_all3 {H : Hp} {ns : List Int} {b c : Addr} {Q : VK} (hc : H c = none) (hb : (upd H c (.lst (ns.map V.int))) b = none)
    (k : ∀ b c H', b ≠ c → (∀ x o, H x = some o → H' x = some o) → H' c = some (.lst (ns.map V.int)) → H' b = some (.lst [.ref c, .int 0, .int (4711 + (ns.length : Int))]) → Q (.ref b) H') :
    Q (.ref b) (upd (upd H c (.lst (ns.map V.int))) b (.lst [.ref c, .int 0, .int (4711 + (((ns.map V.int).length : Nat) : Int))])) := by
  have hbc : b ≠ c := fun e => by rw [e, upd_same] at hb; cases hb
  refine k b c _ hbc (fun x o h => upd_keep hb (upd_keep hc h)) ?_ ?_
  · rw [upd_ne (Ne.symm hbc), upd_same]
  · rw [upd_same, List.length_map]
theorem cut63 {ns : List Int} (h : ns.length ≤ 63) : cutV (ns.map V.int) none (some 63) = ns.map V.int := by
  unfold cutV
  rw [HT.sIx_none, List.drop_zero, List.length_map]
  have : HT.sIx ns.length ns.length (some 63) = ns.length := by
    have e := HT.sIx_nat ns.length ns.length 63
    rw [show ((63 : Nat) : Int) = 63 from rfl] at e
    rw [e]; omega
  rw [this, Nat.sub_zero]
  exact List.take_of_length_le (by rw [List.length_map]; exact Nat.le_refl _)
theorem box_cut3 {H : Hp} {ns : List Int} {b c e : Addr} {Q : VK} (hl : ns.length ≤ 63) (he : H e = none) (hc : (upd H e (.lst (cutV (ns.map V.int) none (some 63)))) c = none) (hb : (upd (upd H e (.lst (cutV (ns.map V.int) none (some 63)))) c (.lst (cutV (ns.map V.int) none (some 63)))) b = none)
    (k : ∀ b c H', b ≠ c → (∀ x o, H x = some o → H' x = some o) → H' c = some (.lst (ns.map V.int)) → H' b = some (.lst [.ref c, .int 0, .int (4711 + (ns.length : Int))]) → Q (.ref b) H') :
    Q (.ref b) (upd (upd (upd H e (.lst (cutV (ns.map V.int) none (some 63)))) c (.lst (cutV (ns.map V.int) none (some 63)))) b (.lst [.ref c, .int 0, .int (4711 + (((ns.map V.int).length : Nat) : Int))])) := by
  have hbc : b ≠ c := fun e => by rw [e, upd_same] at hb; cases hb
  refine k b c _ hbc (fun x o h => upd_keep hb (upd_keep hc (upd_keep he h))) ?_ ?_
  · rw [upd_ne (Ne.symm hbc), upd_same, cut63 hl]
  · rw [upd_same, List.length_map]
def box4 (ns : List Int) : Wd := ⟨true, [.lst [ob 1, .int 0, .int (4711 + (ns.length : Int)), .int 0], .lst (ns.map PyData.int)]⟩
def box3 (ns : List Int) : Wd := ⟨true, [.lst [ob 1, .int 0, .int (4711 + (ns.length : Int))], .lst (ns.map PyData.int)]⟩
/-- the slots behind the law's first statement -/
def lawRo (n i : Nat) : Ro := (List.replicate n SV.un).set i (.val (ob 0))
def boxGh (b c : Addr) : Gh := ⟨true, fun n => match n with | 0 => some b | 1 => some c | _ => none, fun a => a = b ∨ a = c ∨ Tb.T a, fun _ => none⟩
theorem boxOk {H : Hp} {b c : Addr} {xs ys : List D} {vs ws : List V} (hbc : b ≠ c) (hb : H b = some (.lst vs)) (hc : H c = some (.lst ws)) (r1 : RepL K (boxGh b c).ι (fun _ => none) xs vs) (r2 : RepL K (boxGh b c).ι (fun _ => none) ys ws) (hT : ∀ P, Tb.T P → GxR.TabG H P) : GOk K (boxGh b c) H ⟨true, [.lst xs, .lst ys]⟩ := by
  refine ⟨(fun a o h => nomatch h), (fun a o h => nomatch h), (fun a o h => nomatch h), fun n m a hn hm h1 h2 => ?_, fun n a hn h => ?_, fun n o e => ?_, fun a h => ?_, fun _ => ⟨rfl, fun n hn => ?_⟩, fun P h => ?_⟩
  · match n, m, h1, h2 with
    | 0, 0, _, _ => rfl
    | 1, 1, _, _ => rfl
    | 0, 1, h1, h2 => cases h1; cases h2; exact absurd rfl hbc
    | 1, 0, h1, h2 => cases h1; cases h2; exact absurd rfl hbc
    | n + 2, _, h1, _ => cases h1
    | 0, m + 2, _, h2 => cases h2
    | 1, m + 2, _, h2 => cases h2
  · match n, h with
    | 0, h => cases h; exact .inl rfl
    | 1, h => cases h; exact .inr (.inl rfl)
    | n + 2, h => cases h
  · match n, e with
    | 0, e => cases e; exact ⟨b, rfl, vs, hb, r1⟩
    | 1, e => cases e; exact ⟨c, rfl, ws, hc, r2⟩
    | n + 2, e => simp at e
  · rcases h with rfl | rfl | h
    · exact ⟨_, hb, rfl⟩
    · exact ⟨_, hc, rfl⟩
    · obtain ⟨ps, e, _⟩ := hT a h
      exact ⟨_, e, rfl⟩
  · match n, hn with
    | 0, hn => simp at hn
    | 1, hn => simp at hn
    | n + 2, _ => rfl
  · refine ⟨.inr (.inr h), hT P h, fun n e => ?_⟩
    obtain ⟨ps, q, _⟩ := hT P h
    match n, e with
    | 0, e => cases e; rw [hb] at q; cases q
    | 1, e => cases e; rw [hc] at q; cases q
    | n + 2, e => cases e
theorem lawSlots {H : Hp} {b c : Addr} {N : List Str} {a : V} {i : Nat} (hN : 0 < N.length) : Slots K H (boxGh b c) H (lawRo N.length i) ((L2.start N [a]).set i (some (.ref b))) := by
  have un : ∀ (i : Nat) (s : SV), (List.replicate N.length SV.un)[i]? = some s → s = .un := fun i s e => by
    have := List.getElem?_replicate (n := N.length) (a := SV.un) (i := i)
    rw [e] at this
    split at this <;> cases this
    rfl
  have base : Slots K H (boxGh b c) H (List.replicate N.length SV.un) (L2.start N [a]) := by
    refine ⟨?_, fun i s o e1 e2 => ?_, fun i j xs ys p e1 e2 e3 e4 => ?_⟩
    · unfold L2.start; simp; omega
    · rw [un i s e1]; trivial
    · have := un i _ e1
      cases this
  refine base.set i (s := .val (ob 0)) (o := some (.ref b)) ⟨.ref b, rfl, ?_⟩ (fun xs z => nomatch z)
  unfold ob
  rw [Rep]
  exact ⟨0, b, rfl, rfl, rfl⟩
theorem ob1Rep {b c : Addr} : Rep K (boxGh b c).ι (fun _ => none) (ob 1) (.ref c) := by
  unfold ob
  rw [Rep]
  exact ⟨1, c, rfl, rfl, rfl⟩
theorem law_go4 {t : TS} {f : DS} {N : List Str} {i : Nat} {a : Addr} {ns : List Int} {H : Hp} {Q : VK} (R : SndS K t f) (hS : SqL K H a (ns.map V.int)) (hlen : ns.length ≤ 63) (hT : ∀ P, Tb.T P → GxR.TabG H P) (hN : 0 < N.length) (good : ∃ ω, f (lawRo N.length i) (box4 ns) = some (.rt (.bool true), ω)) (k : ∀ H', Q (.bl true) H') :
    spBox4 K [.ref a, .int 0] H (fun x H1 => t { nx := fun _ H' => Q .non H', rt := Q } ((L2.start N [.ref a]).set i (some x)) H1) E0 := by
  refine ⟨a, ns, 0, rfl, hS, hlen, fun b c H' hbc hk hc hb => ?_⟩
  obtain ⟨ω, e⟩ := good
  have ok : GOk K (boxGh b c) H' (box4 ns) := boxOk hbc hb hc (.cons ob1Rep (.cons (by rw [Rep]) (.cons (by rw [Rep]) (.cons (by rw [Rep]) .nil)))) (RepL.ints ns) fun P h => let ⟨ps, e, t⟩ := hT P h; ⟨ps, hk _ _ e, t⟩
  exact R (boxGh b c) H' (boxGh b c) H' _ _ _ _ _ _ ok (.refl _ _) (lawSlots hN) e fun v g' H2 _ _ r => by
    rw [Rep] at r; subst r; exact k H2
theorem law_go3 {t : TS} {f : DS} {N : List Str} {i : Nat} {a : Addr} {ns : List Int} {H : Hp} {Q : VK} (R : SndS K t f) (hS : SqL K H a (ns.map V.int)) (hlen : ns.length ≤ 63) (hT : ∀ P, Tb.T P → GxR.TabG H P) (hN : 0 < N.length) (good : ∃ ω, f (lawRo N.length i) (box3 ns) = some (.rt (.bool true), ω)) (k : ∀ H', Q (.bl true) H') :
    spBox3 K [.ref a] H (fun x H1 => t { nx := fun _ H' => Q .non H', rt := Q } ((L2.start N [.ref a]).set i (some x)) H1) E0 := by
  refine ⟨a, ns, rfl, hS, hlen, fun b c H' hbc hk hc hb => ?_⟩
  obtain ⟨ω, e⟩ := good
  have ok : GOk K (boxGh b c) H' (box3 ns) := boxOk hbc hb hc (.cons ob1Rep (.cons (by rw [Rep]) (.cons (by rw [Rep]) .nil))) (RepL.ints ns) fun P h => let ⟨ps, e, t⟩ := hT P h; ⟨ps, hk _ _ e, t⟩
  exact R (boxGh b c) H' (boxGh b c) H' _ _ _ _ _ _ ok (.refl _ _) (lawSlots hN) e fun v g' H2 _ _ r => by
    rw [Rep] at r; subst r; exact k H2
end
section
variable {K : PySem.W.Frag} {b : Bool}
def opAddI : D → D → Option D
  | .int i, .int j => some (.int (i + j))
  | _, _ => none
theorem ops_addI : OpS K b true (rI0 fun i j => .int (i + j)) opAddI := ops_int fun x y d e => by
  cases x <;> cases y <;> simp only [opAddI] at e <;> cases e
  exact ⟨_, _, _, rfl, rfl, fun _ _ => by rw [Rep], fun Q H q => ⟨_, _, rfl, rfl, q⟩⟩
end
end Dn
end

section
namespace Dn
open PySem PySem.Spec L2
variable [Tb]
/-! ## the rules once more, the written part told apart from the context: within a comprehension's block the reading must not speak of the block -/
section
variable {X : Cx} {K : PySem.W.Frag} {b b' : Bool} {t ta tb tc : TE} {f fa fb fc : DE} {e ea eb ec : Expr} {pos : Pos}
theorem op_addK (hK : X.K = K := by rfl) : OpR X (binaryOp .Add) (rAddD K) := by subst hK; exact op_addD
theorem op_mulK (hK : X.K = K := by rfl) : OpR X (binaryOp .Mult) (rMulD K) := by subst hK; exact op_mulD
theorem op_eqK (hu : X.A.units + 64 < cLine) (hK : X.K = K := by rfl) : OpR X (compareOp .Eq) (rDat K cmpOk PyData.eqv) := by subst hK; exact op_eqP hu
theorem op_neK (hu : X.A.units + 64 < cLine) (hK : X.K = K := by rfl) : OpR X (compareOp .NotEq) (rDat K cmpOk fun d e => !PyData.eqv d e) := by subst hK; exact op_neP hu
theorem op_ltK (hu : X.A.units + 64 < cLine) (hK : X.K = K := by rfl) : OpR X (compareOp .Lt) (rDat K ltOk PySem.W.dataLt) := by subst hK; exact op_ltP hu
theorem op_gtK (hu : X.A.units + 64 < cLine) (hK : X.K = K := by rfl) : OpR X (compareOp .Gt) (rDat K ltOk fun d e => PySem.W.dataLt e d) := by subst hK; exact op_gtP hu
theorem op_leK (hu : X.A.units + 64 < cLine) (hK : X.K = K := by rfl) : OpR X (compareOp .LtE) (rDat K ltOk fun d e => !PySem.W.dataLt e d) := by subst hK; exact op_leP hu
theorem op_geK (hu : X.A.units + 64 < cLine) (hK : X.K = K := by rfl) : OpR X (compareOp .GtE) (rDat K ltOk fun d e => !PySem.W.dataLt d e) := by subst hK; exact op_geP hu
theorem op_inK (hu : X.A.units + 64 < cLine) (hK : X.K = K := by rfl) : OpR X (compareOp .In) (rInD K) := by subst hK; exact op_inD hu
theorem op_notInK (hu : X.A.units + 64 < cLine) (hK : X.K = K := by rfl) : OpR X (compareOp .NotIn) (rNotInD K) := by subst hK; exact op_notInD hu
theorem ex_ixK (ha : EX X b ea ta fa) (hb : EX X b eb tb fb) (hs : PlainIx eb := by exact fun _ _ => rfl) (hK : X.K = K := by rfl) : EX X b (.Subscript ea eb pos) (tOp (rIx K) ta tb) (eBin opIx fa fb) := by subst hK; exact ex_ix ha hb hs
theorem ex_ixOwnK {i : Nat} {x : Str} {pos2 : Pos} {d : Bool} (hb : EX X d eb tb fb) (hN : X.N[i]? = some x := by rfl) (hv : Vis X.env.scope x := by first | exact Or.inl rfl | exact Or.inr (Or.inl rfl) | exact Or.inr (Or.inr rfl)) (hd : (x == ("__debug__" : Str)) = false := by decide)
    (hcd : (x == ("__classdict__" : Str)) = false := by decide) (hs : PlainIx eb := by exact fun _ _ => rfl) (hK : X.K = K := by rfl) : EX X true (.Subscript (.Name x pos2) eb pos) (tOp (rIx K) (tVar i) tb) (eIxOwn i fb) := by subst hK; exact ex_ixOwn hb hN hv hd hcd hs
theorem ei_seqK {tg : Expr} (h : EX X true e t f) (hK : X.K = K := by rfl) : EI X b tg e (iSeq K t) (iSq f) := by subst hK; exact ei_seq h
theorem ei_ownK {i : Nat} {tg : Expr} {x : Str} (hN : X.N[i]? = some x := by rfl) (hv : Vis X.env.scope x := by first | exact Or.inl rfl | exact Or.inr (Or.inl rfl) | exact Or.inr (Or.inr rfl)) (hd : (x == ("__debug__" : Str)) = false := by decide)
    (hcd : (x == ("__classdict__" : Str)) = false := by decide) (hK : X.K = K := by rfl) : EI X false tg (.Name x pos) (iList K (tVar i)) (iOwn i) := by subst hK; exact ei_own hN hv hd hcd
theorem eg_tupK {es : List Expr} {k : Nat} {t : TGs} {n : Nat} {js : List Nat} {h : List D → Ro → Option Ro} (hh : EGs X es t js h) (l : LenG n h) (hc : X.calm = true := by rfl)
    (hn : (assignEach es X.env).length = n := by rfl) (hst : (assignEach es X.env).findIdx? (·.1) = none := by rfl) (hK : X.K = K := by rfl) : EG X (.Tuple es k pos) (gTup K n t) js (gTupD h) := by subst hK; exact eg_tup hc hh l hn hst
theorem ex_isiK {T : String} {x : Str} {p p2 : Pos} (k : KitOk T) (hm : X.mg "isinstance" = none) (hmT : X.mg x = none) (hvT : bootBuiltins x = some (.type T)) (he : EX X b e ta fa) (hg : Gl X "isinstance" := by rfl) (hgT : Gl X x := by rfl) (hnT : x ≠ "__name__" := by decide) (hdT : (x == ("__debug__" : Str)) = false := by decide)
    (hs1 : starEach [e, .Name x p2] X.env = (false, eval e X.env) :: starEach [.Name x p2] X.env := by rfl) (hs2 : starEach [.Name x p2] X.env = (false, eval (.Name x p2) X.env) :: starEach [] X.env := by rfl) (hpl : (backTo pos (starEach [.Name x p2] X.env)).any (·.1) = false := by rfl) (hK : X.K = K := by rfl) :
    EX X true (.Call (.Name "isinstance" p) [e, .Name x p2] [] pos) (tCB (rIsi K) (tCons ta (tCons (tC (.ty T)) tNil))) (eUn (opIsi T) fa) := by subst hK; exact ex_isi k hm hmT hvT he hg hgT hnT hdT hs1 hs2 hpl
section
variable {n k : Nat} {f : Addr} {fd : FuncData} {ps : List Str} {fn : List D → Wd → Option (D × Wd)} {x : Str} {p : Pos} {es : List Expr} {t : TA} {fa : DA}
theorem ex_funK (F : FnOk X.prog X.w K X.mg X.base CX0 k f fd ps (spD K n fn)) (hr : Room k X.A) (hm : X.mg x = some (.ref f)) (hk : PySem.W.keepIn K (.ref f) = true) (hb : Binds K fd ps []) (ha : EA X true (e :: es) t fa) (l : LenA n fa) (hg : Gl X x := by rfl) (hdb : (x == ("__debug__" : Str)) = false := by decide)
    (he : starEach (e :: es) X.env = (false, eval e X.env) :: starEach es X.env := by rfl) (hpl : (backTo pos (starEach es X.env)).any (·.1) = false := by rfl) (hK : X.K = K := by rfl) : EX X true (.Call (.Name x p) (e :: es) [] pos) (tCall (spD K n fn) [] E0 t) (eFun fn fa) := by
  subst hK; exact ex_fun F hr hm hk hb ha l hg hdb he hpl
theorem ex_funPK (F : FnOk X.prog X.w K X.mg X.base CX0 k f fd ps (spD K n fn)) (hr : Room k X.A) (hm : X.mg x = some (.ref f)) (hk : PySem.W.keepIn K (.ref f) = true) (hb' : Binds K fd ps []) (ha : EA X b (e :: es) t fa) (l : LenA n fa) (hg : Gl X x := by rfl) (hdb : (x == ("__debug__" : Str)) = false := by decide)
    (he : starEach (e :: es) X.env = (false, eval e X.env) :: starEach es X.env := by rfl) (hpl : (backTo pos (starEach es X.env)).any (·.1) = false := by rfl) (hK : X.K = K := by rfl) : EX X b (.Call (.Name x p) (e :: es) [] pos) (tCall (spD K n fn) [] E0 t) (eFunP fn fa) := by
  subst hK; exact ex_funP F hr hm hk hb' ha l hg hdb he hpl
end
theorem ex_slK {lo hi : Option Expr} {tl th : TO} {fl fh : DO} {p2 : Pos} (h : EX X b e t f) (hl : EO X lo tl fl) (hh : EO X hi th fh) (hK : X.K = K := by rfl) : EX X b (.Subscript e (.Slice lo hi none p2) pos) (tSl (rSlD K) t tl th) (eSl opSl f fl fh) := by subst hK; exact ex_sl h hl hh
theorem ex_ixObK (ha : EX X b ea ta fa) (hb : EX X b' eb tb fb) (hs : PlainIx eb := by exact fun _ _ => rfl) (hK : X.K = K := by rfl) : EX X true (.Subscript ea eb pos) (tOp (rIx K) ta tb) (eIxOb fa fb) := by subst hK; exact ex_ixOb ha hb hs
/-! calls of built-ins, by name -/
variable {p : Pos} {tA : TA} {fA : DA}
def rLenK (K : PySem.W.Frag) : List V → Hp → VK → Prop := fun xs H Q => ∃ x n, xs = [x] ∧ LenV K x H n ∧ Q (.int n) H
theorem ex_len (hm : X.mg "len" = none) (ha : EA X b [e] tA fA) (hg : Gl X "len" := by rfl) (he : starEach [e] X.env = (false, eval e X.env) :: starEach [] X.env := by rfl) (hpl : (backTo pos (starEach [] X.env)).any (·.1) = false := by rfl) (hK : X.K = K := by rfl) :
    EX X true (.Call (.Name "len" p) [e] [] pos) (tCB (rLenK K) tA) (eCall opLen fA) := by
  subst hK; exact ex_callB call_len cal_len hm PySem.boot_len ha hg (by decide) (by decide) he hpl
theorem ex_lenObK (hm : X.mg "len" = none) (ha : EX X b ea ta fa) (hg : Gl X "len" := by rfl)
    (he : starEach [ea] X.env = (false, eval ea X.env) :: starEach [] X.env := by rfl) (hpl : (backTo pos (starEach [] X.env)).any (·.1) = false := by rfl) (hK : X.K = K := by rfl) : EX X true (.Call (.Name "len" p) [ea] [] pos) (tCB (rLenK K) (tCons ta tNil)) (eLenOb fa) := by
  subst hK; exact ex_lenOb hm ha hg he hpl
theorem ex_sum (hm : X.mg "sum" = none) (ha : EA X b [e] tA fA) (hc : X.calm = true := by rfl) (hg : Gl X "sum" := by rfl) (he : starEach [e] X.env = (false, eval e X.env) :: starEach [] X.env := by rfl) (hpl : (backTo pos (starEach [] X.env)).any (·.1) = false := by rfl) (hK : X.K = K := by rfl) :
    EX X true (.Call (.Name "sum" p) [e] [] pos) (tCB (rSumA K) tA) (eCall opSum fA) := by
  subst hK; exact ex_callB (cr_sumA hc) cal_sum hm (by decide +kernel) ha hg (by decide) (by decide) he hpl
theorem ex_all (hm : X.mg "all" = none) (ha : EA X b [e] tA fA) (hc : X.calm = true := by rfl) (hg : Gl X "all" := by rfl) (he : starEach [e] X.env = (false, eval e X.env) :: starEach [] X.env := by rfl) (hpl : (backTo pos (starEach [] X.env)).any (·.1) = false := by rfl) (hK : X.K = K := by rfl) :
    EX X true (.Call (.Name "all" p) [e] [] pos) (tCB (rAll K) tA) (eCall opAll fA) := by
  subst hK; exact ex_callB (cr_all hc) cal_all hm (by decide +kernel) ha hg (by decide) (by decide) he hpl
theorem ex_any (hm : X.mg "any" = none) (ha : EA X b [e] tA fA) (hc : X.calm = true := by rfl) (hg : Gl X "any" := by rfl) (he : starEach [e] X.env = (false, eval e X.env) :: starEach [] X.env := by rfl) (hpl : (backTo pos (starEach [] X.env)).any (·.1) = false := by rfl) (hK : X.K = K := by rfl) :
    EX X true (.Call (.Name "any" p) [e] [] pos) (tCB (rAny K) tA) (eCall opAny fA) := by
  subst hK; exact ex_callB (cr_any hc) cal_any hm (by decide +kernel) ha hg (by decide) (by decide) he hpl
def rTupK (K : PySem.W.Frag) : List V → Hp → VK → Prop := fun xs H Q => ∃ p ys, xs = [.ref p] ∧ ((SqL K H p ys ∧ ∀ l, H l = none → Q (.ref l) (upd H l (.tup ys))) ∨ (SqT K H p ys ∧ Q (.ref p) H))
theorem ex_tuple (hm : X.mg "tuple" = none) (ha : EA X b [e] tA fA) (hg : Gl X "tuple" := by rfl) (he : starEach [e] X.env = (false, eval e X.env) :: starEach [] X.env := by rfl) (hpl : (backTo pos (starEach [] X.env)).any (·.1) = false := by rfl) (hK : X.K = K := by rfl) :
    EX X b (.Call (.Name "tuple" p) [e] [] pos) (tCB (rTupK K) tA) (eCall opTuple fA) := by
  subst hK; exact ex_callTy call_tuple_of cal_tuple hm PyProof.Rows.boot_tuple ha hg (by decide) (by decide) he hpl
theorem ex_tupOwnK {i : Nat} {x : Str} {npos : Pos} (hm : X.mg "tuple" = none) (hN : X.N[i]? = some x := by rfl) (hv : Vis X.env.scope x := by first | exact Or.inl rfl | exact Or.inr (Or.inl rfl) | exact Or.inr (Or.inr rfl)) (hd : (x == ("__debug__" : Str)) = false := by decide)
    (hcd : (x == ("__classdict__" : Str)) = false := by decide) (hg : Gl X "tuple" := by rfl) (he : starEach [.Name x npos] X.env = (false, eval (.Name x npos) X.env) :: starEach [] X.env := by rfl) (hpl : (backTo pos (starEach [] X.env)).any (·.1) = false := by rfl) (hK : X.K = K := by rfl) :
    EX X true (.Call (.Name "tuple" p) [.Name x npos] [] pos) (tCB (rTupK K) (tCons (tVar i) tNil)) (eTupOwn i) := by subst hK; exact ex_tupOwn hm hN hv hd hcd hg he hpl
theorem en_listK (hm : X.mg "list" = none) (ha : EA X true [e] tA fA) (hg : Gl X "list" := by rfl)
    (he : starEach [e] X.env = (false, eval e X.env) :: starEach [] X.env := by rfl) (hpl : (backTo pos (starEach [] X.env)).any (·.1) = false := by rfl) (hK : X.K = K := by rfl) : EN X (.Call (.Name "list" p) [e] [] pos) (tCB (rListOf K) tA) (aList fA) := by subst hK; exact en_list hm ha hg he hpl
theorem ex_int1 (hm : X.mg "int" = none) (ha : EA X b [e] tA fA) (hg : Gl X "int" := by rfl) (he : starEach [e] X.env = (false, eval e X.env) :: starEach [] X.env := by rfl) (hpl : (backTo pos (starEach [] X.env)).any (·.1) = false := by rfl) :
    EX X true (.Call (.Name "int" p) [e] [] pos) (tCB (fun xs H Q => (∃ i, xs = [.int i] ∧ Q (.int i) H) ∨ ∃ k, xs = [.bl k] ∧ Q (.int (if k then 1 else 0)) H) tA) (eCall opInt fA) :=
  ex_callTy call_int1 cal_int hm PyProof.Rows.boot_int ha hg (by decide) (by decide) he hpl
theorem ex_str1 (hm : X.mg "str" = none) (ha : EA X b [e] tA fA) (hg : Gl X "str" := by rfl) (he : starEach [e] X.env = (false, eval e X.env) :: starEach [] X.env := by rfl) (hpl : (backTo pos (starEach [] X.env)).any (·.1) = false := by rfl) :
    EX X true (.Call (.Name "str" p) [e] [] pos) (tCB (fun xs H Q => ∃ i, xs = [.int i] ∧ i.natAbs.log2 < 1920 ∧ Q (.str (toString i)) H) tA) (eCall opStr fA) :=
  ex_callTy call_str_int cal_str hm PyProof.Rows.boot_str ha hg (by decide) (by decide) he hpl
theorem ex_abs (hm : X.mg "abs" = none) (ha : EA X b [e] tA fA) (hg : Gl X "abs" := by rfl) (he : starEach [e] X.env = (false, eval e X.env) :: starEach [] X.env := by rfl) (hpl : (backTo pos (starEach [] X.env)).any (·.1) = false := by rfl) :
    EX X true (.Call (.Name "abs" p) [e] [] pos) (tCB (fun xs H Q => ∃ i, xs = [.int i] ∧ Q (.int (if i < 0 then -i else i)) H) tA) (eCall opAbs fA) :=
  ex_callB call_abs cal_abs hm PyProof.Rows.boot_abs ha hg (by decide) (by decide) he hpl
variable {e2 : Expr}
theorem ex_min2 (hm : X.mg "min" = none) (ha : EA X b [e, e2] tA fA) (hc : X.calm = true := by rfl) (hg : Gl X "min" := by rfl) (he : starEach [e, e2] X.env = (false, eval e X.env) :: starEach [e2] X.env := by rfl) (hpl : (backTo pos (starEach [e2] X.env)).any (·.1) = false := by rfl) :
    EX X true (.Call (.Name "min" p) [e, e2] [] pos) (tCB (fun xs H Q => ∃ i j, xs = [.int i, .int j] ∧ Q (.int (if j < i then j else i)) H) tA) (eCall opMin2 fA) :=
  ex_callB (call_min2 hc) cal_min2 hm (by decide +kernel) ha hg (by decide) (by decide) he hpl
theorem ex_max2 (hm : X.mg "max" = none) (ha : EA X b [e, e2] tA fA) (hc : X.calm = true := by rfl) (hg : Gl X "max" := by rfl) (he : starEach [e, e2] X.env = (false, eval e X.env) :: starEach [e2] X.env := by rfl) (hpl : (backTo pos (starEach [e2] X.env)).any (·.1) = false := by rfl) :
    EX X true (.Call (.Name "max" p) [e, e2] [] pos) (tCB (fun xs H Q => ∃ i j, xs = [.int i, .int j] ∧ Q (.int (if j > i then j else i)) H) tA) (eCall opMax2 fA) :=
  ex_callB (call_max2 hc) cal_max2 hm (by decide +kernel) ha hg (by decide) (by decide) he hpl
end
theorem fn_denM {P : Program} {w : World} {K : PySem.W.Frag} {mg : Str → Option Value} {base : Heap} {x qual : Str} {st : Stmt} {f : Addr} {fd : FuncData} {N ps : List Str} {k m n : Nat} {fb : DS} (F : Fun K x qual st f fd) (S : FnScope N ps (defScope st)) (hm : N.length = m) (hn : ps.length = n)
    (body : ∀ (cdv : Value) (A : Around) (outer : List PySem.Env) (s : Shared) (H : Hp) (E : XK), Room k (A.deeper (PyProof.Rows.envOfC qual (defScope st) s.heap.objs.size f cdv)) → ∃ t, SXs (cxOf CX0 P w K mg base N qual (defScope st) f cdv A outer s H E).nox (defBody st) t fb) :
    FnOk P w K mg base CX0 (k + 1) f fd ps (spD K n (defD m fb)) := by
  subst hm hn
  exact fn_den F S body
end Dn
end

section
namespace Dn
open PySem PySem.Spec L2
variable [Tb]
/-! ## sorted(list) -/
def sortD (xs : List D) : List D := xs.mergeSort (PySem.W.dataLe false id)
def tupC : D → Bool
  | .tuple (_ :: _) => true
  | _ => false
def notTN : D → Bool
  | .none => false
  | .tuple _ => false
  | _ => true
/-- what sorted takes here: alike data, no None; tuples with an item, or none is a tuple, or no more than one -/
def sortOk (xs : List D) : Bool := PyData.plainAll xs && xs.all (fun d => decide (d.depth ≤ 60)) && xs.all (fun d => xs.all fun e => PySem.W.alike d e) && (xs.all tupC || xs.all notTN || (decide (xs.length ≤ 1) && xs.all notNon))
def rSortD (K : PySem.W.Frag) : List V → Hp → VK → Prop := fun xs H Q => ∃ (a : Addr) (bs : List (D × V)), xs = [.ref a] ∧ SqL K H a (bs.map Prod.snd) ∧ (∀ b ∈ bs, Dp K H b.2 b.1) ∧ sortOk (bs.map Prod.fst) = true ∧
  ∀ p, H p = none → Q (.ref p) (upd H p (.lst ((bs.mergeSort (PySem.W.dataLe false Prod.fst)).map Prod.snd)))
theorem sortOk_h {xs : List D} (h : sortOk xs = true) : PyData.plainAll xs = true ∧ (∀ d ∈ xs, d.depth ≤ 60) ∧ PySem.W.AllAlike xs ∧ (PySem.W.Sortable xs ∨ ∃ d, xs = [d] ∧ d ≠ .none) := by
  simp only [sortOk, Bool.and_eq_true, Bool.or_eq_true, List.all_eq_true, decide_eq_true_eq] at h
  obtain ⟨⟨⟨h1, h2⟩, h3⟩, h4⟩ := h
  refine ⟨h1, h2, h3, ?_⟩
  rcases h4 with (h | h) | ⟨h, h'⟩
  · refine .inl (.inl fun d hd => ?_)
    have q := h d hd
    unfold tupC at q
    split at q
    · exact ⟨_, _, rfl⟩
    · cases q
  · refine .inl (.inr fun d hd => ?_)
    have q := h d hd
    refine ⟨fun e => ?_, fun xs e => ?_⟩ <;> subst e <;> simp [notTN] at q
  · match xs, h with
    | [], _ => exact .inl (.inl fun d hd => by cases hd)
    | [d], _ => exact .inr ⟨d, rfl, fun e => by have := h' d (List.mem_singleton.mpr rfl); rw [e] at this; cases this⟩
    | _ :: _ :: _, h => simp at h
section
open PySem.W PySem.Calls PyProof.Rows
variable {prog : Program} {w : World} {A : Around} {s : Shared} {β : Type} {bs : List β} {enc : β → PyData} {E : Value → Shared → Prop}
theorem sortsAt_one {vs : List Value} {d : PyData} (e : EachIs (fun v d => ∃ as, Reads s.heap v d as) vs [d]) (hal : AllAlike [d]) (hn : d ≠ .none) (hu : A.units + d.depth < cLine) : SortsAt prog w A s (dataKind s.heap [d]) vs := by
  refine ⟨fun v hv => ?_, general', fun E x y a b Q ha hb hq => ?_, fun h2 => ?_⟩
  · obtain ⟨d', hd, as, r⟩ := e.left v hv
    exact ⟨_, dataKind_some hal hd r⟩
  · obtain ⟨d1, as, hd, ra, rfl⟩ := dataKind_inv ha
    obtain ⟨d2, as', hd', rb, rfl⟩ := dataKind_inv hb
    have e1 := List.mem_singleton.mp hd
    have e2 := List.mem_singleton.mp hd'
    subst e1; subst e2
    rw [show keyLt' general' x y = oneLt' false x y from rfl]
    exact oneLt_alike (fun h => absurd h Bool.false_ne_true) ra rb (hal _ hd _ hd) hn (by rw [Nat.min_self]; exact hu) hq
  · have := e.length
    rw [this] at h2
    exact absurd h2 (by simp)
theorem sorted_dataA {R : Value → β → Prop} {vs : List Value} {l : Addr} {Q : Value → Shared → Prop} (hl : s.heap.IsList l vs.toArray) (e : EachIs R vs bs) (er : EachIs (fun v b => ∃ as, Reads s.heap v (enc b) as) vs bs) (hal : AllAlike (bs.map enc)) (hk : Sortable (bs.map enc) ∨ ∃ d, bs.map enc = [d] ∧ d ≠ .none) (hL : bs.length ≤ sizeLine)
    (hu : ∀ b, b ∈ bs → A.units + 2 + (enc b).depth < cLine) (h : ∀ out, out.length = bs.length → EachIs R out (bs.mergeSort (dataLe false enc)) → Q (.ref (s.heap.objs.size + 1)) { s with heap := sortedAll s.heap vs (List.toArray out) }) :
    wpAny (model prog w) A (call (.builtin "sorted") [.ref l]) Q E s := by
  rcases hk with hk | ⟨d, hd, hn⟩
  · exact sorted_data hl e er hal hk hL hu h
  · have er' : EachIs (fun v b => ∃ as, Reads (sortingHeap (copyHeap s.heap vs) (s.heap.objs.size + 1) vs) v (enc b) as) vs bs := er.mono fun _ _ ⟨as, r⟩ => ⟨as, PyProof.Rows.Reads.keeps (fun _ _ => sorting_copy_old) r⟩
    have em := each_map (R := fun v d => ∃ as, Reads (sortingHeap (copyHeap s.heap vs) (s.heap.objs.size + 1) vs) v d as) enc er'
    have hal' := hal
    have sd := sortVals_data false e er' hal
    rw [hd] at em hal' sd
    have hu' : A.units + 2 + d.depth < cLine := by
      obtain ⟨b, hb, e⟩ := List.mem_map.mp (hd ▸ List.mem_singleton.mpr rfl : d ∈ bs.map enc)
      rw [← e]; exact hu b hb
    exact sorted_vals hl (sortsAt_one (s := { s with heap := sortingHeap (copyHeap s.heap vs) (s.heap.objs.size + 1) vs }) em hal' hn hu') (by rw [e.length]; exact hL)
      (h _ (by rw [sortVals_length false rfl]; exact e.length) sd)
end
section
variable {X : Cx}
theorem each_of {f : V → Value → Prop} : ∀ {bs : List (D × V)} {us : List Value}, Vals (bs.map Prod.snd) us → PySem.W.EachIs (fun u b => RelV b.2 u) us bs
  | [], us, h => by
    rw [List.map_nil] at h; cases h; exact .nil
  | b :: bs, us, h => by
    rw [List.map_cons] at h
    cases h with
    | cons r t => exact .cons r (each_of (f := f) t)
theorem each_to : ∀ {bs : List (D × V)} {us : List Value}, PySem.W.EachIs (fun u b => RelV b.2 u) us bs → Vals (bs.map Prod.snd) us
  | _, _, .nil => by rw [List.map_nil]; exact Paired.nil
  | _, _, .cons r t => by rw [List.map_cons]; exact Paired.cons r (each_to t)
theorem each_reads {pins : List (Addr × Obj)} {s : Shared} {σ : L2.St} {H : Hp} (I : Inv X pins σ H s) : ∀ {bs : List (D × V)} {us : List Value}, (∀ b ∈ bs, Dp X.K H b.2 b.1) → PySem.W.EachIs (fun u b => RelV b.2 u) us bs → PySem.W.EachIs (fun u (b : D × V) => ∃ as, Reads s.heap u b.1 as) us bs
  | _, _, _, .nil => .nil
  | _, _, h, .cons r t => .cons (Dp.reads I _ _ _ (h _ (List.mem_cons_self ..)) r) (each_reads I (fun b hb => h b (List.mem_cons_of_mem _ hb)) t)
theorem cr_sortedD (hu : X.A.units + 64 < cLine) : CallR X (.builtin "sorted") (rSortD X.K) := by
  intro pins s σ H vs us Q I r h
  obtain ⟨a, bs, rfl, hs, hd, ho, q⟩ := h
  obtain ⟨_, h2, h3, h4⟩ := sortOk_h ho
  obtain ⟨its, rv, hl, hz⟩ := I.list hs
  rw [Vals.ref1 r]
  have e := each_of (f := fun _ _ => True) rv
  have hz' : bs.length ≤ sizeLine := by rw [List.length_map] at hz; exact hz
  refine sorted_dataA (β := D × V) (enc := Prod.fst) (bs := bs) (R := fun u b => RelV b.2 u) hl.isList e (each_reads I hd e) h3 h4 hz' (fun b hb => ?_) fun out h1 e2 => ?_
  · have := h2 b.1 (List.mem_map.mpr ⟨b, hb, rfl⟩)
    omega
  · obtain ⟨ep, he'⟩ := PyProof.Rows.sortedAll_at s.heap its out.toArray
    have hlen : ((bs.mergeSort (PySem.W.dataLe false Prod.fst)).map Prod.snd).length ≤ sizeLine := by
      rw [List.length_map, List.length_mergeSort]; exact hz'
    exact ⟨.ref _, upd H (s.heap.objs.size + 1) (.lst ((bs.mergeSort (PySem.W.dataLe false Prod.fst)).map Prod.snd)), I.laid (t' := s.toks) (fun _ _ => PyProof.Rows.sortedAll_old) (Nat.le_succ _) ⟨hlen, out, ep, each_to e2, he'⟩, rfl, q _ (I.hok.fresh (Nat.le_succ _))⟩
end
section
variable {K : PySem.W.Frag} {b : Bool}
theorem RepL.zip {ι : Ix} {G : Hp} : ∀ {ds : List D} {vs : List V}, RepL K ι G ds vs → ∃ bs : List (D × V), bs.map Prod.fst = ds ∧ bs.map Prod.snd = vs ∧ ∀ p ∈ bs, Rep K ι G p.1 p.2
  | [], vs, h => by
    rw [RepL] at h
    subst h
    exact ⟨[], rfl, rfl, by simp⟩
  | d :: ds, vs, h => by
    rw [RepL] at h
    obtain ⟨v, ws, rfl, h1, h⟩ := h
    obtain ⟨bs, e1, e2, h2⟩ := RepL.zip h
    refine ⟨(d, v) :: bs, by rw [List.map_cons, e1], by rw [List.map_cons, e2], fun p hp => ?_⟩
    rcases List.mem_cons.mp hp with rfl | hp
    · exact h1
    · exact h2 p hp
theorem RepL.unzip {ι : Ix} {G : Hp} : ∀ {bs : List (D × V)}, (∀ p ∈ bs, Rep K ι G p.1 p.2) → RepL K ι G (bs.map Prod.fst) (bs.map Prod.snd)
  | [], _ => by simp only [List.map_nil, RepL]
  | p :: bs, h => by
    rw [List.map_cons, List.map_cons, RepL]
    exact ⟨_, _, rfl, h p (List.mem_cons_self ..), RepL.unzip fun q hq => h q (List.mem_cons_of_mem _ hq)⟩
theorem plainAll_in : ∀ {xs : List D} {x : D}, PyData.plainAll xs = true → x ∈ xs → x.plain = true
  | y :: ys, x, h, hx => by
    rw [PyData.plainAll, Bool.and_eq_true] at h
    rcases List.mem_cons.mp hx with rfl | hx
    · exact h.1
    · exact plainAll_in h.2 hx
theorem sort_fst (bs : List (D × V)) : (bs.mergeSort (PySem.W.dataLe false Prod.fst)).map Prod.fst = sortD (bs.map Prod.fst) := by
  unfold sortD
  refine List.map_mergeSort fun x _ y _ => rfl
/-- sorted of a list: a list of one's own -/
def aSorted (f : DA) : DA := fun ρ ω => match f ρ ω with
  | some ([.list xs], ω1) => if sortOk xs = true then some (sortD xs, ω1) else none
  | _ => none
def aSortOwn (i : Nat) : DA := fun ρ ω => match ρ[i]? with
  | some (.own xs) => if sortOk xs = true then some (sortD xs, ω) else none
  | _ => none
theorem sort_rep {g : Gh} {H : Hp} {ω : Wd} {xs : List D} {vs : List V} (ok : GOk K g H ω) (l : RepL K g.ι g.G xs vs) (hz : vs.length ≤ sizeLine) (ho : sortOk xs = true) :
    ∃ bs : List (D × V), bs.map Prod.fst = xs ∧ bs.map Prod.snd = vs ∧ (∀ b ∈ bs, Dp K H b.2 b.1) ∧ RepL K g.ι g.G (sortD xs) ((bs.mergeSort (PySem.W.dataLe false Prod.fst)).map Prod.snd) ∧ ((bs.mergeSort (PySem.W.dataLe false Prod.fst)).map Prod.snd).length ≤ sizeLine := by
  obtain ⟨bs, e1, e2, h⟩ := RepL.zip l
  obtain ⟨hp, _⟩ := sortOk_h ho
  refine ⟨bs, e1, e2, fun b hb => ?_, ?_, ?_⟩
  · have hpb : b.1.plain = true := plainAll_in hp (by rw [← e1]; exact List.mem_map.mpr ⟨b, hb, rfl⟩)
    exact Rep.dp (fun _ _ h => ok.sub _ _ h) b.1 b.2 hpb (h b hb)
  · rw [← e1, ← sort_fst]
    exact RepL.unzip fun p hp => h p (List.mem_mergeSort.mp hp)
  · rw [List.length_map, List.length_mergeSort]
    rw [← e2, List.length_map] at hz
    exact hz
theorem snn_sorted {t : TA} {f : DA} (h : SndA K true t f) : SndN K (tCB (rSortD K) t) (aSorted f) := by
  intro g0 H0 g H ρ ω σ Q ds ω' ok st sl e k
  unfold aSorted at e
  split at e
  · rename_i xs ω1 e1
    split at e <;> cases e
    rename_i ho
    refine h g0 H0 g H ρ ω σ _ _ ω' ok st sl e1 fun vs g1 H1 s1 ok1 r1 => ?_
    obtain ⟨v, rfl, q⟩ := RBL.one r1
    obtain ⟨a, vs, rfl, q, z, l⟩ := q.lstV ok1
    obtain ⟨bs, b1, b2, b3, b4, b5⟩ := sort_rep ok1 l z ho
    refine ⟨a, bs, rfl, by rw [b2]; exact SqL.of q, b3, by rw [b1]; exact ho, fun p hp => ?_⟩
    obtain ⟨s2, ok2, nG, nS⟩ := newOwn ok1 hp (o := .lst ((bs.mergeSort (PySem.W.dataLe false Prod.fst)).map Prod.snd))
    exact k p _ g1 _ (s1.trans s2) ok2 (s1.al p hp) upd_same nG nS b5 b4
  · cases e
end
section
variable {X : Cx} {K : PySem.W.Frag} {tA : TA} {fA : DA} {e : Expr} {p pos : Pos}
theorem en_sorted (hu : X.A.units + 64 < cLine) (hm : X.mg "sorted" = none) (ha : EA X true [e] tA fA) (hg : Gl X "sorted" := by rfl) (he : starEach [e] X.env = (false, eval e X.env) :: starEach [] X.env := by rfl) (hpl : (backTo pos (starEach [] X.env)).any (·.1) = false := by rfl) (hK : X.K = K := by rfl) :
    EN X (.Call (.Name "sorted" p) [e] [] pos) (tCB (rSortD K) tA) (aSorted fA) := by
  subst hK
  exact ⟨pe_callB (cr_sortedD hu) hg hm (by decide +kernel) ha.pe (by decide) (by decide) he hpl, snn_sorted ha.sn⟩
theorem en_sortOwn {i : Nat} {x : Str} {npos p pos : Pos} (hu : X.A.units + 64 < cLine) (hm : X.mg "sorted" = none) (hN : X.N[i]? = some x := by rfl) (hv : Vis X.env.scope x := by first | exact Or.inl rfl | exact Or.inr (Or.inl rfl) | exact Or.inr (Or.inr rfl)) (hd : (x == ("__debug__" : Str)) = false := by decide)
    (hcd : (x == ("__classdict__" : Str)) = false := by decide) (hg : Gl X "sorted" := by rfl) (he : starEach [.Name x npos] X.env = (false, eval (.Name x npos) X.env) :: starEach [] X.env := by rfl) (hpl : (backTo pos (starEach [] X.env)).any (·.1) = false := by rfl) (hK : X.K = K := by rfl) :
    EN X (.Call (.Name "sorted" p) [.Name x npos] [] pos) (tCB (rSortD K) (tCons (tVar i) tNil)) (aSortOwn i) := by
  subst hK
  refine ⟨pe_callB (cr_sortedD hu) hg hm (by decide +kernel) (pa_cons (pe_var hN hv hd hcd) pa_nil he) (by decide) (by decide) he hpl, ?_⟩
  intro g0 H0 g H ρ ω σ Q d ω' ok st sl e k
  unfold aSortOwn at e
  split at e
  · rename_i xs hx
    split at e <;> cases e
    rename_i ho
    obtain ⟨o, h1, p, vs, rfl, hp, hG, hS, h0, z, r⟩ := sl.get hx
    obtain ⟨bs, b1, b2, b3, b4, b5⟩ := sort_rep ok r z ho
    refine ⟨_, h1, p, bs, rfl, by rw [b2]; exact SqL.of hp, b3, by rw [b1]; exact ho, fun q hq => ?_⟩
    obtain ⟨s2, ok2, nG, nS⟩ := newOwn ok hq (o := .lst ((bs.mergeSort (PySem.W.dataLe false Prod.fst)).map Prod.snd))
    exact k q _ g _ s2 ok2 hq upd_same nG nS b5 b4
  · cases e
end
end Dn
end

section
namespace Dn
open PySem PySem.Spec L2
variable [Tb]
/-! ## any / all of a generator expression -/
def anyD (last : Bool) (fg : DG) (ft : DT) (fe : DE) (ρ : Ro) : List D → Wd → Option (D × Wd)
  | [], ω => some (.bool (!last), ω)
  | d :: ds, ω => match fg d ρ with
    | none => none
    | some ρ1 => match ft ρ1 ω with
      | none => none
      | some (c, ω1) => if c = true then (match fe ρ1 ω1 with
          | some (.bool r, ω2) => if r = last then some (.bool last, ω2) else anyD last fg ft fe ρ ds ω2
          | _ => none)
        else anyD last fg ft fe ρ ds ω1
def eGenN (last : Bool) (fi : DA) (fg : DG) (ft : DT) (fe : DE) (vs : List Nat) : DE := fun ρ ω => match fi ρ ω with
  | none => none
  | some (ds, ω1) => anyD last fg ft fe (wipeR ρ vs) ds ω1
section
variable {K : PySem.W.Frag} {b : Bool}
theorem tab_step {g : Gh} {H H2 : Hp} {ω : Wd} {P : Addr} (ok : GOk K g H ω) (hT : Tb.T P) (t : GxR.Tabbed P H H2) : Step g H g H2 ∧ GOk K g H2 ω := by
  obtain ⟨hS, ⟨ps, hP, _⟩, hι⟩ := ok.tb P hT
  obtain ⟨t1, t2⟩ := t
  obtain ⟨qs, hQ, _⟩ := id t1
  have nG : ∀ a o, g.G a = some o → a ≠ P := fun a o h z => ok.nS a o h (by rw [z]; exact hS)
  refine ⟨⟨fun _ _ h => h, fun _ _ h => h, fun _ h => h, fun a o h hs => ?_, fun _ h => .inl h, fun a h => ?_, fun a vs h => .inl h, rfl, fun _ => rfl⟩, ⟨fun a o h => by rw [t2 a (nG a o h)]; exact ok.sub a o h, ok.seq, ok.nS, ok.inj, ok.inS, fun n o e => ?_, fun a h => ?_, ok.lv, fun Q h => ?_⟩⟩
  · rw [t2 a (fun z => hs (by rw [z]; exact hS))]; exact h
  · by_cases z : a = P
    · rw [z, hQ] at h; cases h
    · rw [← t2 a z]; exact h
  · obtain ⟨a, ia, h⟩ := ok.st n o e
    have nap : a ≠ P := fun z => hι n (by rw [← z]; exact ia)
    exact ⟨a, ia, h.mono (fun _ _ h => h) (fun _ _ h => h) (t2 a nap)⟩
  · by_cases z : a = P
    · exact ⟨_, by rw [z]; exact hQ, rfl⟩
    · obtain ⟨o, e, q⟩ := ok.sl a h
      exact ⟨o, by rw [t2 a z]; exact e, q⟩
  · by_cases z : Q = P
    · subst z; exact ⟨hS, t1, hι⟩
    · obtain ⟨q1, ⟨rs, e, w⟩, q3⟩ := ok.tb Q h
      exact ⟨q1, ⟨rs, by rw [t2 Q z]; exact e, w⟩, q3⟩
theorem gen_sound {last : Bool} {P : Addr} {wi : TI} {tg : TG} {tt : TT} {te : TE} {fi : DA} {fg : DG} {ft : DT} {fe : DE} {js vs : List Nat} (hT : Tb.T P) (hi : SndI K b wi fi) (hg : SndG K tg js fg) (hj : ∀ j ∈ js, j ∈ vs) (ht : SndT K tt ft) (he : Snd K true te fe) :
    Snd K true (Gx.tGen last P wi tg tt te vs) (eGenN last fi fg ft fe vs) := by
  intro g0 H0 g H ρ ω σ Q d ω' ok st sl e k
  unfold eGenN at e
  split at e
  · cases e
  rename_i items ω1 e1
  refine hi g0 H0 g H ρ ω σ _ items ω1 ok st sl e1 fun J g1 H1 s1 ok1 hz hJ => ⟨(ok1.tb P hT).2.1, fun H2 hTab => ?_⟩
  obtain ⟨stT, okT⟩ := tab_step ok1 hT hTab
  refine ⟨fun i m H3 => m = items.length - i ∧ i ≤ items.length ∧ ∃ g2 ω2, Step g1 H1 g2 H3 ∧ GOk K g2 H3 ω2 ∧ anyD last fg ft fe (wipeR ρ vs) (items.drop i) ω2 = some (d, ω'), ⟨_, rfl, Nat.zero_le _, g1, ω1, stT, okT, e⟩, ?_⟩
  rintro i m H3 ⟨rfl, hil, g2, ω2, s2, ok2, hrest⟩
  have it := hJ g2 H3 (Later.step s2 ok2)
  by_cases hlt : i < items.length
  · obtain ⟨x0, hd⟩ : ∃ d, items[i]? = some d := ⟨_, List.getElem?_eq_getElem hlt⟩
    obtain ⟨go, hy⟩ := it.go i x0 hd
    rw [List.drop_eq_getElem_cons hlt] at hrest
    have hd' : items[i] = x0 := by rw [List.getElem?_eq_getElem hlt] at hd; exact Option.some.inj hd
    rw [hd'] at hrest
    unfold anyD at hrest
    refine .inr ⟨go, fun H' => ∃ m', m' = items.length - (i + 1) ∧ (i + 1) ≤ items.length ∧ ∃ g2 ω2, Step g1 H1 g2 H' ∧ GOk K g2 H' ω2 ∧ anyD last fg ft fe (wipeR ρ vs) (items.drop (i + 1)) ω2 = some (d, ω'), fun H' ⟨m', e', r'⟩ => ⟨m', by omega, e', r'⟩, fun x H4 hyld => ?_⟩
    obtain ⟨g3, s3, k3, r3⟩ := hy x H4 hyld
    have ok3 := k3 ω2 ok2
    split at hrest
    · cases hrest
    rename_i ρ1 eg
    have sall : Step g H g3 H4 := (s1.trans s2).trans s3
    have sl3 : Slots K H0 g3 H4 ρ σ := sl.step sall ok3
    refine hg H0 g3 H4 _ _ x0 x ρ1 _ ok3.sub (sl3.wipe vs) r3 eg fun σ4 sl4 w4 _ => ⟨?_, ?_⟩
    · rw [w4 vs hj, wipe_wipe]
    split at hrest
    · cases hrest
    rename_i c ω4 et
    refine ht g0 H0 g3 H4 ρ1 ω2 σ4 _ c ω4 ok3 (st.trans sall) sl4 et fun g5 H5 s5 ok5 => ?_
    cases c with
    | false =>
      refine iteF ?_
      rw [if_neg Bool.false_ne_true] at hrest
      exact ⟨_, rfl, hlt, g5, ω4, (s2.trans s3).trans s5, ok5, hrest⟩
    | true =>
      refine iteT ?_
      rw [if_pos rfl] at hrest
      split at hrest
      · rename_i r ω6 ee
        refine he g0 H0 g5 H5 ρ1 ω4 σ4 _ _ ω6 ok5 (st.trans (sall.trans s5)) (sl4.step s5 ok5) ee fun v g6 H6 s6 ok6 r6 => ?_
        have ev : v = .bl r := by
          have r6 : Rep K g6.ι g6.G (.bool r) v := r6
          rw [Rep] at r6; exact r6
        refine ⟨r, ev, fun hl => ?_, fun hl => ?_⟩
        · rw [if_pos hl] at hrest
          cases hrest
          exact k (.bl last) g6 H6 ((sall.trans s5).trans s6) ok6 (by show Rep _ _ _ _ _; rw [Rep])
        · rw [if_neg hl] at hrest
          exact ⟨_, rfl, hlt, g6, ω6, ((s2.trans s3).trans s5).trans s6, ok6, hrest⟩
      · cases hrest
  · have hil' : i = items.length := by omega
    subst hil'
    rw [List.drop_length] at hrest
    unfold anyD at hrest
    cases hrest
    exact .inl ⟨it.stop _ (Nat.le_refl _), k (.bl (!last)) g2 H3 (s1.trans s2) ok2 (by show Rep _ _ _ _ _; rw [Rep])⟩
end
/-! ## a def that has generator expressions: its code object at c -/
structure FunC (K : PySem.W.Frag) (x qual : Str) (st : Stmt) (f : Addr) (fd : FuncData) (c : Addr) : Prop where
  ex : ∃ (oc : Value) (od : Option Addr) (kV doc pm : Value) (an : Option Addr) (ct : Value) (osl : Array (Option Value)),
    fd = PySem.W.fnOf x qual (defArgs st) (defBody st) (defScope st) .none kV doc pm an (.ref c) ct ∧ K.lookup f = some ⟨oc, od, .func fd, osl⟩ ∧ PySem.W.codeIn K (.ref c) qual = true
  kp : PySem.W.keepIn K (.ref f) = true
theorem FunC.f {K : PySem.W.Frag} {x qual : Str} {st : Stmt} {f : Addr} {fd : FuncData} {c : Addr} (F : FunC K x qual st f fd c) : Fun K x qual st f fd := by
  obtain ⟨oc, od, kV, doc, pm, an, ct, osl, e, lk, hcd⟩ := F.ex
  exact ⟨⟨oc, od, kV, doc, pm, an, .ref c, ct, osl, e, lk, hcd⟩, F.kp⟩
theorem funC_mk {K : PySem.W.Frag} {x qual : Str} {st : Stmt} {f c : Addr} {oc : Value} {od an : Option Addr} {osl : Array (Option Value)} {kV doc pm ct : Value} (l : K.lookup f = some ⟨oc, od, .func (PySem.W.fnOf x qual (defArgs st) (defBody st) (defScope st) .none kV doc pm an (.ref c) ct), osl⟩)
    (h : PySem.W.codeIn K (.ref c) qual = true) (k : PySem.W.keepIn K (.ref f) = true) : FunC K x qual st f (PySem.W.fnOf x qual (defArgs st) (defBody st) (defScope st) .none kV doc pm an (.ref c) ct) c := ⟨⟨oc, od, kV, doc, pm, an, ct, osl, rfl, l, h⟩, k⟩
theorem fn_denC {P : Program} {w : World} {K : PySem.W.Frag} {mg : Str → Option Value} {base : Heap} {x qual : Str} {st : Stmt} {f : Addr} {fd : FuncData} {N ps : List Str} {k m n : Nat} {fb : DS} {c : Addr} (F : FunC K x qual st f fd c) (S : FnScope N ps (defScope st)) (hm : N.length = m) (hn : ps.length = n)
    (body : ∀ (A : Around) (outer : List PySem.Env) (s : Shared) (H : Hp) (E : XK), Room k (A.deeper (PyProof.Rows.envOfC qual (defScope st) s.heap.objs.size f (.ref c))) → ∃ t, SXs (cxOf CX0 P w K mg base N qual (defScope st) f (.ref c) A outer s H E).nox (defBody st) t fb) :
    FnOk P w K mg base CX0 (k + 1) f fd ps (spD K n (defD m fb)) := by
  subst hm hn
  obtain ⟨oc, od, kV, doc, pm, an, ct, osl, rfl, lk, hcd⟩ := F.ex
  refine fn_of lk hcd S (fun vs H Q E h => ?_) fun A outer s H vs Q E hr h => ?_
  · obtain ⟨g, ω, ds, d, ω', h1, _⟩ := h
    exact h1
  · obtain ⟨g, ω, ds, d, ω', h1, ok, r, e, q⟩ := h
    obtain ⟨t, B⟩ := body A outer s H E hr
    refine ⟨t, B.pe.nox, ?_⟩
    have hl := r.length
    have sl : Slots K H g H (ds.map SV.val ++ List.replicate (N.length - ds.length) .un) (L2.start N vs) := by
      refine ⟨?_, fun i s o e1 e2 => ?_, fun i j xs ys p e1 e2 e3 e4 => ?_⟩
      · unfold L2.start; simp [hl]
      · by_cases hi : i < ds.length
        · rw [List.getElem?_append_left (by simpa using hi)] at e1
          rw [List.getElem?_map] at e1
          obtain ⟨d1, hd, rfl⟩ := Option.map_eq_some_iff.mp e1
          obtain ⟨v, hv, rv⟩ := r.get hd
          unfold L2.start at e2
          rw [List.getElem?_append_left (by simp; omega), List.getElem?_map, hv] at e2
          cases e2
          exact ⟨v, rfl, rv⟩
        · rw [List.getElem?_append_right (by simp; omega)] at e1
          have := List.getElem?_replicate (n := N.length - ds.length) (a := SV.un) (i := i - (ds.map SV.val).length)
          rw [e1] at this
          split at this
          · cases this; trivial
          · cases this
      · by_cases hi : i < ds.length
        · rw [List.getElem?_append_left (by simpa using hi), List.getElem?_map] at e1
          obtain ⟨d1, _, z⟩ := Option.map_eq_some_iff.mp e1
          cases z
        · rw [List.getElem?_append_right (by simp; omega)] at e1
          have := List.getElem?_replicate (n := N.length - ds.length) (a := SV.un) (i := i - (ds.map SV.val).length)
          rw [e1] at this
          split at this <;> cases this
    unfold defD at e
    split at e
    · rename_i d1 ω1 e1
      cases e
      exact B.sn g H g H _ ω _ _ _ ω' ok (.refl _ _) sl e1 fun v g' H' ok' st' r' => q v g' H' st' ok' r'
    · rename_i ρ1 ω1 e1
      cases e
      exact B.sn g H g H _ ω _ _ _ ω' ok (.refl _ _) sl e1 fun σ' g' H' S' => q .non g' H' S'.st S'.ok (by rw [Rep])
    · cases e
section
variable {X : Cx} {b : Bool}
theorem ex_anyG {c P : Addr} {elt tg iter : Expr} {ifs : List Expr} {p pos gpos : Pos} {scope : Scope} {own : List (Str × Nat)} {js : List Nat} {wi : TI} {g : TG} {tt : TT} {te : TE} {fi : DA} {fg : DG} {ft : DT} {fe : DE} {k : Nat} (hT : Tb.T P)
    (TB : GxR.TabB X.base X.mg c P) (hr : Room (k + 3) X.A) (hm : X.mg "any" = none) (hN : X.N.Nodup) (hi : EI X b tg iter wi fi) (ok : BlkOk X.N X.env.scope scope own)
    (hg : ∀ (s : Shared) (H : Hp) (B : Around) (cl : List (Str × Addr)) (C : Addr) (code : Value) (fp : List Addr) (pn : List (Addr × Obj)), Room k B → EG (Gx.genC X s H B (genEnv scope cl C code builtinsNs X.env) fp pn) tg g js fg)
    (ht : ∀ (s : Shared) (H : Hp) (B : Around) (cl : List (Str × Addr)) (C : Addr) (code : Value) (fp : List Addr) (pn : List (Addr × Obj)), Room k B → ETs (Gx.genC X s H B (genEnv scope cl C code builtinsNs X.env) fp pn) ifs tt ft)
    (he : ∀ (s : Shared) (H : Hp) (B : Around) (cl : List (Str × Addr)) (C : Addr) (code : Value) (fp : List Addr) (pn : List (Addr × Obj)), Room k B → EX (Gx.genC X s H B (genEnv scope cl C code builtinsNs X.env) fp pn) true elt te fe)
    (nc : ∀ y ∈ scope.names, y.2 ≠ .cell := by decide +kernel) (hcode : X.env.code = .ref c := by rfl) (hc : X.calm = true := by rfl) (h0 : scope.names.lookup (".0" : Str) = some NameKind.local := by rfl) (hco : scope.isCoroutine = false := by rfl) (hgl : Gl X "any" := by rfl) (hj : ∀ j ∈ js, j ∈ own.map (·.2) := by decide) (hs : ∀ v, genFold iter X.env v = pure v := by intro _; rfl)
    (hse : starEach [.GeneratorExp elt [⟨tg, iter, ifs, 0⟩] scope gpos] X.env = (false, eval (.GeneratorExp elt [⟨tg, iter, ifs, 0⟩] scope gpos) X.env) :: starEach [] X.env := by rfl) :
    EX X true (.Call (.Name "any" p) [.GeneratorExp elt [⟨tg, iter, ifs, 0⟩] scope gpos] [] pos) (Gx.tGen true P wi g tt te (own.map (·.2))) (eGenN true fi fg ft fe (own.map (·.2))) := by
  have h' : Room k X.A := hr.mono (by omega)
  exact ⟨Gx.pe_anyG hr hc hgl hm TB hcode hN ok nc h0 hco hi.pe (fun s H B cl C code fp pn h => (hg s H B cl C code fp pn h).pe) (fun s H B cl C code fp pn h => (ht s H B cl C code fp pn h).pe) (fun s H B cl C code fp pn h => (he s H B cl C code fp pn h).pe) hs hse,
    gen_sound hT hi.sn (hg X.s_0 X.H_0 X.A [] 0 .none [] [] h').sn hj (ht X.s_0 X.H_0 X.A [] 0 .none [] [] h').sn (he X.s_0 X.H_0 X.A [] 0 .none [] [] h').sn⟩
theorem ex_allG {c P : Addr} {elt tg iter : Expr} {ifs : List Expr} {p pos gpos : Pos} {scope : Scope} {own : List (Str × Nat)} {js : List Nat} {wi : TI} {g : TG} {tt : TT} {te : TE} {fi : DA} {fg : DG} {ft : DT} {fe : DE} {k : Nat} (hT : Tb.T P)
    (TB : GxR.TabB X.base X.mg c P) (hr : Room (k + 3) X.A) (hm : X.mg "all" = none) (hN : X.N.Nodup) (hi : EI X b tg iter wi fi) (ok : BlkOk X.N X.env.scope scope own)
    (hg : ∀ (s : Shared) (H : Hp) (B : Around) (cl : List (Str × Addr)) (C : Addr) (code : Value) (fp : List Addr) (pn : List (Addr × Obj)), Room k B → EG (Gx.genC X s H B (genEnv scope cl C code builtinsNs X.env) fp pn) tg g js fg)
    (ht : ∀ (s : Shared) (H : Hp) (B : Around) (cl : List (Str × Addr)) (C : Addr) (code : Value) (fp : List Addr) (pn : List (Addr × Obj)), Room k B → ETs (Gx.genC X s H B (genEnv scope cl C code builtinsNs X.env) fp pn) ifs tt ft)
    (he : ∀ (s : Shared) (H : Hp) (B : Around) (cl : List (Str × Addr)) (C : Addr) (code : Value) (fp : List Addr) (pn : List (Addr × Obj)), Room k B → EX (Gx.genC X s H B (genEnv scope cl C code builtinsNs X.env) fp pn) true elt te fe)
    (nc : ∀ y ∈ scope.names, y.2 ≠ .cell := by decide +kernel) (hcode : X.env.code = .ref c := by rfl) (hc : X.calm = true := by rfl) (h0 : scope.names.lookup (".0" : Str) = some NameKind.local := by rfl) (hco : scope.isCoroutine = false := by rfl) (hgl : Gl X "all" := by rfl) (hj : ∀ j ∈ js, j ∈ own.map (·.2) := by decide) (hs : ∀ v, genFold iter X.env v = pure v := by intro _; rfl)
    (hse : starEach [.GeneratorExp elt [⟨tg, iter, ifs, 0⟩] scope gpos] X.env = (false, eval (.GeneratorExp elt [⟨tg, iter, ifs, 0⟩] scope gpos) X.env) :: starEach [] X.env := by rfl) :
    EX X true (.Call (.Name "all" p) [.GeneratorExp elt [⟨tg, iter, ifs, 0⟩] scope gpos] [] pos) (Gx.tGen false P wi g tt te (own.map (·.2))) (eGenN false fi fg ft fe (own.map (·.2))) := by
  have h' : Room k X.A := hr.mono (by omega)
  exact ⟨Gx.pe_allG hr hc hgl hm TB hcode hN ok nc h0 hco hi.pe (fun s H B cl C code fp pn h => (hg s H B cl C code fp pn h).pe) (fun s H B cl C code fp pn h => (ht s H B cl C code fp pn h).pe) (fun s H B cl C code fp pn h => (he s H B cl C code fp pn h).pe) hs hse,
    gen_sound hT hi.sn (hg X.s_0 X.H_0 X.A [] 0 .none [] [] h').sn hj (ht X.s_0 X.H_0 X.A [] 0 .none [] [] h').sn (he X.s_0 X.H_0 X.A [] 0 .none [] [] h').sn⟩
end
end Dn
end

section
namespace Dn
open PySem PySem.Spec L2
/-! ## the end: no tables, or those at cs -/
@[reducible] def noTb : Tb := ⟨fun _ => False, fun _ => 0⟩
@[reducible] def tbOf (cs : List (Addr × Addr)) : Tb := ⟨fun P => P ∈ cs.map (·.2), fun _ => 0⟩
/-- the same with classes -/
@[reducible] def tbCl (cs : List (Addr × Addr)) (cl : List (Str × Addr)) : Tb := ⟨fun P => P ∈ cs.map (·.2), fun c => (cl.lookup c).getD 0⟩
/-- the written part without the tables -/
def fil (K : PySem.W.Frag) (cs : List (Addr × Addr)) : PySem.W.Frag := K.filter fun q => !((cs.map (·.2)).contains q.1)
section
variable {K : PySem.W.Frag} {cs : List (Addr × Addr)}
theorem lookup_filter_ne : ∀ (K : List (Addr × Obj)) (Ps : List Addr) (a : Addr), a ∉ Ps → (K.filter fun q => !(Ps.contains q.1)).lookup a = K.lookup a
  | [], _, _, _ => rfl
  | (b, o) :: K, Ps, a, h => by
    have ih := lookup_filter_ne K Ps a h
    by_cases hb : Ps.contains b = true
    · have hab : (a == b) = false := by
        rw [beq_eq_false_iff_ne]
        intro e
        subst e
        exact h (List.contains_iff_mem.mp hb)
      rw [List.filter_cons_of_neg (by simp only [hb]; decide), List.lookup_cons, hab]
      exact ih
    · have hb' : Ps.contains b = false := by simpa using hb
      rw [List.filter_cons_of_pos (by simp only [hb']; decide), List.lookup_cons, List.lookup_cons, ih]
theorem lookup_filter_none : ∀ (K : List (Addr × Obj)) (Ps : List Addr) (a : Addr), a ∈ Ps → (K.filter fun q => !(Ps.contains q.1)).lookup a = none
  | [], _, _, _ => rfl
  | (b, o) :: K, Ps, a, h => by
    have ih := lookup_filter_none K Ps a h
    by_cases hb : Ps.contains b = true
    · rw [List.filter_cons_of_neg (by simp only [hb]; decide)]; exact ih
    · have hb' : Ps.contains b = false := by simpa using hb
      have hab : (a == b) = false := by
        rw [beq_eq_false_iff_ne]
        intro e
        subst e
        exact hb (List.contains_iff_mem.mpr h)
      rw [List.filter_cons_of_pos (by simp only [hb']; decide), List.lookup_cons, hab]
      exact ih
theorem fil_look {a : Addr} (h : (cs.map (·.2)).contains a = false) : (fil K cs).lookup a = K.lookup a := lookup_filter_ne K _ a fun m => by
  rw [List.contains_iff_mem.mpr m] at h; cases h
theorem fil_none {p : Addr × Addr} (h : p ∈ cs) : (fil K cs).lookup p.2 = none := lookup_filter_none K _ p.2 (List.mem_map.mpr ⟨p, h, rfl⟩)
theorem fil_in {h : Heap} (X : K.In h) : (fil K cs).In h := fun a o e => by
  by_cases hc : (cs.map (·.2)).contains a = true
  · have := lookup_filter_none K (cs.map (·.2)) a (List.contains_iff_mem.mp hc)
    unfold fil at e
    rw [this] at e; cases e
  · rw [fil_look (by simpa using hc)] at e
    exact X a o e
theorem fil_ns {a : Addr} {x : Str} {r : Option (Option Value)} (e : PySem.W.nsIn K a x = r) (h : (cs.map (·.2)).contains a = false) : PySem.W.nsIn (fil K cs) a x = r := by
  rw [← e]; unfold PySem.W.nsIn; rw [fil_look h]
theorem fil_lk {a : Addr} {o : Option Obj} (e : K.lookup a = o) (h : (cs.map (·.2)).contains a = false) : (fil K cs).lookup a = o := by rw [fil_look h]; exact e
theorem fil_code {c : Addr} {q : Str} (e : PySem.W.codeIn K (.ref c) q = true) (h : (cs.map (·.2)).contains c = false) : PySem.W.codeIn (fil K cs) (.ref c) q = true := by
  rw [← e]; unfold PySem.W.codeIn; simp only [fil_look h]
theorem fil_keep {a : Addr} {oc : Value} {od : Option Addr} {fd : FuncData} {sl : Array (Option Value)} (e : K.lookup a = some ⟨oc, od, .func fd, sl⟩) (h : (cs.map (·.2)).contains a = false) : PySem.W.keepIn (fil K cs) (.ref a) = true := by
  unfold PySem.W.keepIn; simp only [fil_look h, e]
def tabP : Obj → Option Addr
  | ⟨_, _, .fields vs, _⟩ => (match (vs[11]? : Option Value) with
    | some (.ref P) => some P
    | _ => none)
  | _ => none
/-- a code object and its table -/
def hdB (K : PySem.W.Frag) (p : Addr × Addr) : Bool := PySem.W.codeHdIn K p.1 p.2 && (match K.lookup p.2 with | some ⟨.none, none, .fields vs, sl⟩ => vs.isEmpty && sl.isEmpty | _ => false)
theorem hdB_tab {p : Addr × Addr} (h : hdB K p = true) : PySem.W.codeHdIn K p.1 p.2 = true ∧ K.lookup p.2 = some { cls := .none, data := .fields #[] } := by
  unfold hdB at h
  rw [Bool.and_eq_true] at h
  refine ⟨h.1, ?_⟩
  have h2 := h.2
  split at h2
  · rename_i vs sl e
    rw [Bool.and_eq_true] at h2
    rw [e, Array.isEmpty_iff.mp h2.1, Array.isEmpty_iff.mp h2.2]
  · cases h2
theorem law_fil {l : PySem.W.OpenLaw} {w : World} {k : Nat} {mg : Str → Option Value} {fa : Addr} {h : Heap} (X : K.In h) (hcs : ∀ p ∈ cs, hdB K p = true)
    (F : ∃ fd : FuncData, (∀ (s : Shared) (v : Value), BindsTo s fd ⟨[v], []⟩ [("script", v)]) ∧ ∀ base : Heap, (fil K cs).In base → base.Ns mainGlobals mg → (∀ p ∈ cs, GxR.TabB base mg p.1 p.2) → FnOk l.prog w (fil K cs) mg base CX0 k fa fd ["script"] (@spLaw (tbOf cs) (fil K cs))) :
    ∃ K' : PySem.W.Frag, K'.In h ∧ LamX.LawAtS l w K' CX0 k 63 "script" mg fa h := by
  obtain ⟨fd, hb, hF⟩ := F
  refine ⟨fil K cs, fil_in X, fd, cs, _, fun p hp => X _ _ (hdB_tab (hcs p hp)).2, fun p hp => fil_none hp, fun p hp => PySem.W.codeHd_of_K X (hdB_tab (hcs p hp)).1, hb, fun H a ns hl _ hT hS => ?_, fun base K1 N TB => hF base K1 N fun p hp => let t := TB p hp; ⟨t.code, t.bm, t.gP⟩⟩
  refine ⟨a, ns, rfl, hS, hl, fun P hP => ?_, fun _ => rfl⟩
  obtain ⟨p, hp, e⟩ := List.mem_map.mp hP
  exact ⟨#[], by rw [← e]; exact hT p hp, by first | trivial | decide | (intro x hx; cases hx)⟩
end
/-- the end of a law whose defs have tables at cs: the tables are told by the top -/
theorem walk_tab {l : PySem.W.OpenLaw} {k : Nat} {q : Program} {loose : List Str} {XP : (Str → Option Value) → Heap → Prop} {YP : World → Heap → Prop} {d : DefRec} {K : Params → PySem.W.Frag}
    (hn : l.most = some 63) (hdf : d.params.defaults = []) (hr : Room k callerA) (hY : ∀ (w : World) (h : Heap), YP w h → (K w.params).In h)
    (F : ∀ (w : World) (mg : Str → Option Value) (fa : Addr) (h : Heap), (K w.params).In h → h.Ns mainGlobals mg → mg d.name = some (.ref fa) →
      ∃ cs : List (Addr × Addr), (∀ p ∈ cs, (∃ x dr, (PyProof.Rows.recsOf q).find? (fun e => e.name == x) = some dr ∧ PySem.W.tabIn (K w.params) x = some p) ∧ (K w.params).lookup p.2 = none) ∧
        ∃ fd : FuncData, (∀ (s : Shared) (u : Value), BindsTo s fd ⟨[u], []⟩ [("script", u)]) ∧ ∀ base : Heap, (K w.params).In base → base.Ns mainGlobals mg → (∀ p ∈ cs, GxR.TabB base mg p.1 p.2) → FnOk l.prog w (K w.params) mg base CX0 k fa fd ["script"] (@spLaw (tbOf cs) (K w.params))) :
    PySem.W.WalkO q loose XP YP l.row.toRowW d [] (fun f vs => PySem.call f vs) := by
  refine Att.attach_callB hn hdf fun w s₀ s₁ mg mb fa o pm cd doc a vs ns G Y ho hd hcd hmg hobj hints hlen hbits hg => ?_
  have KX := hY w _ Y
  obtain ⟨cs, hcs, fd, hb, hF⟩ := F w mg fa _ KX G.T.g hmg
  have tab : ∀ p ∈ cs, PySem.W.CodeHd s₁.heap p.1 p.2 ∧ s₁.heap.get? p.2 = some { cls := .none, data := .fields #[] } := fun p hp => by
    obtain ⟨⟨x, dr, h1, h2⟩, _⟩ := hcs p hp
    exact PySem.W.tab_of G.T KX h1 h2
  refine LamX.law_callTs (CX := CX0) (sp := @spLaw (tbOf cs) (K w.params)) KX G.T.g G.T.b G.T.builtins G.T.nolimit hg (fun p hp => (tab p hp).2) (fun p hp => (hcs p hp).2) (fun p hp => (tab p hp).1) G.T.bmain hobj hints (Nat.le_trans hlen (by decide)) hr (fun base K1 N TB => hF base K1 N fun p hp => let t := TB p hp; ⟨t.code, t.bm, t.gP⟩) hb (fun H hH hS => ?_) fun H e s' z => z
  refine ⟨a, ns, rfl, hS, hlen, fun P hP => ?_, fun _ => rfl⟩
  obtain ⟨p, hp, e⟩ := List.mem_map.mp hP
  exact ⟨#[], by rw [← e]; exact hH p hp, by trivial⟩
end Dn
end

section
namespace Dn
open PySem PySem.Spec L2
variable [Tb]
/-! ## min, max of a list or tuple of alike data -/
/-- alike data, none None, not deep -/
def bestOk (xs : List D) : Bool := PyData.plainAll xs && decide (PyData.depthAll xs ≤ 60) && xs.all (fun d => xs.all fun e => PySem.W.alike d e) && xs.all notNon
def bestD (mx : Bool) (x : D) (xs : List D) : D := if mx = true then PySem.W.maxD x xs else PySem.W.minD x xs
theorem bestOk_h {xs : List D} (h : bestOk xs = true) : PyData.plainAll xs = true ∧ PyData.depthAll xs ≤ 60 ∧ PySem.W.AlikeAll xs := by
  simp only [bestOk, Bool.and_eq_true, List.all_eq_true, decide_eq_true_eq] at h
  obtain ⟨⟨⟨h1, h2⟩, h3⟩, h4⟩ := h
  refine ⟨h1, h2, h3, fun x hx e => ?_⟩
  have := h4 x hx
  rw [e] at this
  cases this
def rBest (K : PySem.W.Frag) (mx : Bool) : List V → Hp → VK → Prop := fun xs H Q => ∃ (a : Addr) (bs : List (D × V)) (x : D) (ds : List D), xs = [.ref a] ∧ (SqL K H a (bs.map Prod.snd) ∨ SqT K H a (bs.map Prod.snd)) ∧ (∀ b ∈ bs, Dp K H b.2 b.1) ∧ bs.map Prod.fst = x :: ds ∧ bestOk (x :: ds) = true ∧
  ∀ b ∈ bs, b.1 = bestD mx x ds → Q b.2 H
section
variable {X : Cx}
theorem readsAll_of {h : Heap} : ∀ {bs : List (D × V)} {us : List Value}, PySem.W.EachIs (fun u (b : D × V) => ∃ as, Reads h u b.1 as) us bs → ∃ as, ReadsAll h us (bs.map Prod.fst) as
  | _, _, .nil => ⟨[], by rw [List.map_nil]; exact .nil⟩
  | _, _, .cons ⟨as, r⟩ t => by
    obtain ⟨bs', q⟩ := readsAll_of t
    rw [List.map_cons]
    exact ⟨as ++ bs', .cons r q⟩
theorem each_get {R : Value → D × V → Prop} : ∀ {bs : List (D × V)} {us : List Value} {i : Nat} {u : Value}, PySem.W.EachIs R us bs → us[i]? = some u → ∃ b ∈ bs, R u b
  | _, _, _, _, .nil, e => by simp at e
  | _, _, 0, _, .cons r t, e => by
    simp at e; subst e
    exact ⟨_, List.mem_cons_self .., r⟩
  | _, _, i + 1, _, .cons r t, e => by
    rw [List.getElem?_cons_succ] at e
    obtain ⟨b, hb, q⟩ := each_get t e
    exact ⟨b, List.mem_cons_of_mem _ hb, q⟩
theorem each_and {R S : Value → D × V → Prop} : ∀ {bs : List (D × V)} {us : List Value}, PySem.W.EachIs R us bs → PySem.W.EachIs S us bs → PySem.W.EachIs (fun u b => R u b ∧ S u b) us bs
  | _, _, .nil, .nil => .nil
  | _, _, .cons r t, .cons r' t' => .cons ⟨r, r'⟩ (each_and t t')
theorem best_end {pins : List (Addr × Obj)} {s : Shared} {σ : L2.St} {H : Hp} {bs : List (D × V)} {us : List Value} {m : D} {Q : VK} (I : Inv X pins σ H s) (e : PySem.W.EachIs (fun u b => RelV b.2 u) us bs) (er : PySem.W.EachIs (fun u (b : D × V) => ∃ as, Reads s.heap u b.1 as) us bs) (q : ∀ b ∈ bs, b.1 = m → Q b.2 H)
    (i : Nat) (v : Value) (h' : Heap) (tk : Nat) (as : List Addr) (hv : us.toArray[i]? = some v) (r : Reads h' v m as) (hk : ∀ b o, s.heap.get? b = some o → h'.get? b = some o) : EP X pins σ Q v { s with heap := h', toks := tk } := by
  have hv' : us[i]? = some v := by simpa using hv
  obtain ⟨b, hb, r1, as', r2⟩ := each_get (each_and e er) hv'
  have eq := (Reads.unique (PyProof.Rows.Reads.keeps hk r2) _ _ r).1
  exact ⟨b.2, H, I.kept (t' := tk) hk, r1, q b hb eq⟩
theorem cr_minD (hc : X.calm = true) (hu : X.A.units + 64 < cLine) : CallR X (.builtin "min") (rBest X.K false) := by
  intro pins s σ H vs us Q I r h
  obtain ⟨a, bs, x, ds, rfl, hs, hd, e0, ho, q⟩ := h
  obtain ⟨_, h2, h3⟩ := bestOk_h ho
  rw [Vals.ref1 r]
  rcases hs with hs | hs
  · obtain ⟨its, rv, hl, hz⟩ := I.list hs
    have e := each_of (f := fun _ _ => True) rv
    obtain ⟨as, ra⟩ := readsAll_of (each_reads I hd e)
    rw [e0] at ra
    exact PySem.W.min_list_data (I.ok.hd hc) hl.isList (by simpa using ra) h3 (by omega) fun i v h' tk bs' hv hr hk => best_end I e (each_reads I hd e) (m := PySem.W.minD x ds) (fun b hb z => q b hb (by rw [z]; rfl)) i v h' tk bs' hv hr hk
  · obtain ⟨its, rv, hl, hz⟩ := I.tuple hs
    have e := each_of (f := fun _ _ => True) rv
    obtain ⟨as, ra⟩ := readsAll_of (each_reads I hd e)
    rw [e0] at ra
    exact PySem.W.min_tuple_data (I.ok.hd hc) hl (by simpa using ra) h3 (by omega) fun i v h' tk bs' hv hr hk => best_end I e (each_reads I hd e) (m := PySem.W.minD x ds) (fun b hb z => q b hb (by rw [z]; rfl)) i v h' tk bs' hv hr hk
theorem cr_maxD (hc : X.calm = true) (hu : X.A.units + 64 < cLine) : CallR X (.builtin "max") (rBest X.K true) := by
  intro pins s σ H vs us Q I r h
  obtain ⟨a, bs, x, ds, rfl, hs, hd, e0, ho, q⟩ := h
  obtain ⟨_, h2, h3⟩ := bestOk_h ho
  rw [Vals.ref1 r]
  rcases hs with hs | hs
  · obtain ⟨its, rv, hl, hz⟩ := I.list hs
    have e := each_of (f := fun _ _ => True) rv
    obtain ⟨as, ra⟩ := readsAll_of (each_reads I hd e)
    rw [e0] at ra
    exact PySem.W.max_list_data (I.ok.hd hc) hl.isList (by simpa using ra) h3 (by omega) fun i v h' tk bs' hv hr hk => best_end I e (each_reads I hd e) (m := PySem.W.maxD x ds) (fun b hb z => q b hb (by rw [z]; rfl)) i v h' tk bs' hv hr hk
  · obtain ⟨its, rv, hl, hz⟩ := I.tuple hs
    have e := each_of (f := fun _ _ => True) rv
    obtain ⟨as, ra⟩ := readsAll_of (each_reads I hd e)
    rw [e0] at ra
    exact PySem.W.max_tuple_data (I.ok.hd hc) hl (by simpa using ra) h3 (by omega) fun i v h' tk bs' hv hr hk => best_end I e (each_reads I hd e) (m := PySem.W.maxD x ds) (fun b hb z => q b hb (by rw [z]; rfl)) i v h' tk bs' hv hr hk
end
section
variable {K : PySem.W.Frag} {b : Bool}
def opBest (mx : Bool) : List D → Option D
  | [.list (x :: xs)] => if bestOk (x :: xs) = true then some (bestD mx x xs) else none
  | [.tuple (x :: xs)] => if bestOk (x :: xs) = true then some (bestD mx x xs) else none
  | _ => none
theorem best_mem (mx : Bool) : ∀ (xs : List D) (x : D), bestD mx x xs ∈ x :: xs := by
  have q : ∀ (f : D → D → Bool) (xs : List D) (x : D), xs.foldl (fun a y => if f y a then y else a) x ∈ x :: xs := by
    intro f xs
    induction xs with
    | nil => intro x; exact List.mem_cons_self ..
    | cons y ys ih =>
      intro x
      rw [List.foldl_cons]
      have := ih (if f y x then y else x)
      rcases List.mem_cons.mp this with e | e
      · rw [e]
        split
        · exact List.mem_cons_of_mem _ (List.mem_cons_self ..)
        · exact List.mem_cons_self ..
      · exact List.mem_cons_of_mem _ (List.mem_cons_of_mem _ e)
  intro xs x
  unfold bestD
  split
  · exact q _ xs x
  · exact q _ xs x
theorem best_zip {G H : Hp} {ι : Ix} {xs : List D} {vs : List V} (hG : ∀ a o, G a = some o → H a = some o) (l : RepL K ι G xs vs) (hp : PyData.plainAll xs = true) : ∃ bs : List (D × V), bs.map Prod.fst = xs ∧ bs.map Prod.snd = vs ∧ (∀ b ∈ bs, Dp K H b.2 b.1) ∧ ∀ b ∈ bs, Rep K ι G b.1 b.2 := by
  obtain ⟨bs, e1, e2, h⟩ := RepL.zip l
  refine ⟨bs, e1, e2, fun b hb => ?_, h⟩
  exact Rep.dp hG b.1 b.2 (plainAll_in hp (by rw [← e1]; exact List.mem_map.mpr ⟨b, hb, rfl⟩)) (h b hb)
theorem cal_best (mx : Bool) : CalS K b b (rBest K mx) (opBest mx) := by
  refine cal_one (fun ds d e => ?_) fun g0 H0 g H ω x v d Q ok st r e k => ?_
  · unfold opBest at e; split at e <;> first | exact ⟨_, rfl⟩ | cases e
  · unfold opBest at e
    split at e
    · rename_i x0 xs h; cases h
      split at e <;> cases e
      rename_i ho
      obtain ⟨a, vs, rfl, q, z, l⟩ := r.lstV ok
      obtain ⟨bs, b1, b2, b3, b4⟩ := best_zip (fun a o h => (hb_sub ok h).1) l (bestOk_h ho).1
      exact ⟨a, bs, x0, xs, rfl, .inl (by rw [b2]; exact SqL.of q), b3, b1, ho, fun p hp e => k _ g H (.refl _ _) ok (by rw [← e]; exact b4 p hp)⟩
    · rename_i x0 xs h; cases h
      split at e <;> cases e
      rename_i ho
      obtain ⟨a, vs, rfl, q, z, l⟩ := r.tupV ok
      obtain ⟨bs, b1, b2, b3, b4⟩ := best_zip (fun a o h => (hb_sub ok h).1) l (bestOk_h ho).1
      exact ⟨a, bs, x0, xs, rfl, .inr (by rw [b2]; exact q), b3, b1, ho, fun p hp e => k _ g H (.refl _ _) ok (by rw [← e]; exact b4 p hp)⟩
    · cases e
end
section
variable {X : Cx} {K : PySem.W.Frag} {b : Bool} {tA : TA} {fA : DA} {e : Expr} {p pos : Pos}
theorem ex_minL (hu : X.A.units + 64 < cLine) (hm : X.mg "min" = none) (ha : EA X b [e] tA fA) (hc : X.calm = true := by rfl) (hg : Gl X "min" := by rfl) (he : starEach [e] X.env = (false, eval e X.env) :: starEach [] X.env := by rfl) (hpl : (backTo pos (starEach [] X.env)).any (·.1) = false := by rfl) (hK : X.K = K := by rfl) :
    EX X b (.Call (.Name "min" p) [e] [] pos) (tCB (rBest K false) tA) (eCall (opBest false) fA) := by
  subst hK; exact ex_callB (cr_minD hc hu) (cal_best false) hm (by decide +kernel) ha hg (by decide) (by decide) he hpl
theorem ex_maxL (hu : X.A.units + 64 < cLine) (hm : X.mg "max" = none) (ha : EA X b [e] tA fA) (hc : X.calm = true := by rfl) (hg : Gl X "max" := by rfl) (he : starEach [e] X.env = (false, eval e X.env) :: starEach [] X.env := by rfl) (hpl : (backTo pos (starEach [] X.env)).any (·.1) = false := by rfl) (hK : X.K = K := by rfl) :
    EX X b (.Call (.Name "max" p) [e] [] pos) (tCB (rBest K true) tA) (eCall (opBest true) fA) := by
  subst hK; exact ex_callB (cr_maxD hc hu) (cal_best true) hm (by decide +kernel) ha hg (by decide) (by decide) he hpl
end
end Dn
end

section
namespace Dn
open PySem PySem.Spec L2
variable [Tb]
/-! ## a, b = x, y where some are lists of one's own -/
abbrev DV := Ro → Wd → Option (SV × Wd)
def SndV (K : PySem.W.Frag) (t : TE) (f : DV) : Prop :=
  ∀ (g0 : Gh) (H0 : Hp) (g : Gh) (H : Hp) (ρ : Ro) (ω : Wd) (σ : L2.St) (Q : VK) (s : SV) (ω' : Wd), GOk K g H ω → Step g0 H0 g H → Slots K H0 g H ρ σ → f ρ ω = some (s, ω') →
    (∀ v g' H', Step g H g' H' → GOk K g' H' ω' → s.is K H0 g' H' (some v) → (∀ xs, s = .own xs → ∃ p, v = .ref p ∧ H p = none) → Q v H') → t σ H Q
structure EVl (X : Cx) (e : Expr) (t : TE) (f : DV) : Prop where
  pe : PE X e t
  sn : SndV X.K t f
def vVal (f : DE) : DV := fun ρ ω => match f ρ ω with
  | none => none
  | some (d, ω1) => some (.val d, ω1)
def vOwn (f : DA) : DV := fun ρ ω => match f ρ ω with
  | none => none
  | some (d, ω1) => some (.own d, ω1)
section
variable {X : Cx} {e : Expr} {t : TE}
theorem ev_val {f : DE} (h : EX X true e t f) : EVl X e t (vVal f) := by
  refine ⟨h.pe, ?_⟩
  intro g0 H0 g H ρ ω σ Q s ω' ok st sl e k
  unfold vVal at e
  split at e
  · cases e
  rename_i d ω1 e1
  cases e
  exact h.sn g0 H0 g H ρ ω σ _ d ω' ok st sl e1 fun v g1 H1 s1 ok1 r1 => k v g1 H1 s1 ok1 ⟨v, rfl, r1⟩ fun xs z => nomatch z
theorem ev_own {f : DA} (h : EN X e t f) : EVl X e t (vOwn f) := by
  refine ⟨h.pe, ?_⟩
  intro g0 H0 g H ρ ω σ Q s ω' ok st sl e k
  unfold vOwn at e
  split at e
  · cases e
  rename_i d ω1 e1
  cases e
  exact h.sn g0 H0 g H ρ ω σ _ d ω' ok st sl e1 fun p vs g1 H1 s1 ok1 h1 h2 h3 h4 h5 h6 => k _ g1 H1 s1 ok1 ⟨p, vs, rfl, h2, h3, h4, st.al p h1, h5, h6⟩ fun xs z => ⟨p, rfl, h1⟩
theorem Slots.setV {K : PySem.W.Frag} {H0 HA H : Hp} {gA g : Gh} {ρ : Ro} {σ : L2.St} (hA : Slots K H0 gA HA ρ σ) (h : Slots K H0 g H ρ σ) (i : Nat) {s : SV} {v : V} (hs : s.is K H0 g H (some v)) (hf : ∀ xs, s = .own xs → ∃ p, v = .ref p ∧ HA p = none) : Slots K H0 g H (ρ.set i s) (σ.set i (some v)) := by
  cases s with
  | own xs =>
    obtain ⟨p, rfl, hp⟩ := hf xs rfl
    refine h.setOwn i hs fun j ys hj hx hz => ?_
    obtain ⟨q, ws, eq, hq, _⟩ := hA.at_ j _ _ hx hz
    cases eq
    rw [hp] at hq; cases hq
  | un => exact h.set i hs fun xs z => nomatch z
  | val d => exact h.set i hs fun xs z => nomatch z
def sParV (i j : Nat) (f h : DV) : DS := fun ρ ω => match f ρ ω with
  | none => none
  | some (s1, ω1) => match h ρ ω1 with
    | none => none
    | some (s2, ω2) => some (.nx ((ρ.set i s1).set j s2), ω2)
theorem sx_parV {i j : Nat} {x y : Str} {a c : Expr} {ta tc : TE} {fa fc : DV} {px py pt pos : Pos} {kt k2 pt2} (hN : X.N.Nodup) (ha : EVl X a ta fa) (hb : EVl X c tc fc) (hc : X.calm = true := by rfl) (hi : X.N[i]? = some x := by rfl) (hj : X.N[j]? = some y := by rfl) (hij : i ≠ j := by decide)
    (hx : X.env.scope.names.lookup x = some .local := by rfl) (hy : X.env.scope.names.lookup y = some .local := by rfl) (he : starEach [a, c] X.env = (false, eval a X.env) :: starEach [c] X.env := by rfl) (he2 : starEach [c] X.env = (false, eval c X.env) :: starEach [] X.env := by rfl)
    (hw : swappedStores [.Tuple [.Name x px, .Name y py] kt pt] (.Tuple [a, c] k2 pt2) X.env = pure (some [x, y]) := by rfl)
    (hs : swapsWithSole [.Tuple [.Name x px, .Name y py] kt pt] (.Tuple [a, c] k2 pt2) pos.line X.env = pure false := by rfl) :
    SX X (.Assign [.Tuple [.Name x px, .Name y py] kt pt] (.Tuple [a, c] k2 pt2) pos) (tPar i j (tCons ta (tCons tc tNil))) (sParV i j fa fc) := by
  refine ⟨ps_par hc hN hi hj hij hx hy (pa_cons ha.pe (pa_cons hb.pe pa_nil he2) he) hw hs, ?_⟩
  intro g0 H0 g H ρ ω σ E o ω' ok st sl e k
  unfold sParV at e
  split at e
  · cases e
  rename_i s1 ω1 e1
  split at e
  · cases e
  rename_i s2 ω2 e2
  cases e
  refine ha.sn g0 H0 g H ρ ω σ _ _ ω1 ok st sl e1 fun v g1 H1 st1 ok1 r1 f1 => ?_
  have sl1 := sl.step st1 ok1
  refine hb.sn g0 H0 g1 H1 ρ ω1 σ _ _ _ ok1 (st.trans st1) sl1 e2 fun w g2 H2 st2 ok2 r2 f2 => ?_
  refine ⟨v, w, rfl, ?_⟩
  have a1 := Slots.setV sl sl1 i r1 f1
  have a2 := Slots.setV a1 (a1.step st2 ok2) j r2 f2
  exact k _ g2 H2 ⟨ok2, st.trans (st1.trans st2), a2, (st1.trans st2).le⟩
end
end Dn
end

section
namespace Dn
open PySem PySem.Spec L2 PyProof.Rows
variable [Tb]
/-! ## t[::-1] of a tuple -/
section
variable {prog : Program} {w : World} {A : Around} {E : Value → Shared → Prop} {s : Shared}
theorem rev_adj (n : Nat) : Builtin.Slice.sliceAdjust none none (-1) (n : Int) = ((n : Int) - 1, -1) := by
  simp [Builtin.Slice.sliceAdjust]
theorem rev_pl (n : Nat) : Builtin.Slice.slicePlaces ((n : Int) - 1) (-1) (-1) = n := by
  unfold Builtin.Slice.slicePlaces
  rw [if_neg (by decide)]
  by_cases h : (n : Int) - 1 > -1
  · rw [if_pos h]
    have : ((n : Int) - 1 - -1 - 1) / (- -1) = n - 1 := by
      rw [show (- -1 : Int) = 1 from by decide, Int.ediv_one]; omega
    rw [this]; omega
  · rw [if_neg h]; omega
theorem applied_rev {sl : Addr} {vk : Value} {n : Nat} {Q : Int × Int × Nat → Shared → Prop} (hs : s.heap.IsSliceOf sl .none .none vk) (pk : IsPart vk (some (-1))) (h : Q ((n : Int) - 1, -1, n) s) : wpAny (model prog w) A (Builtin.Slice.sliceApplied (.ref sl) (pure (n : Int))) Q E s := by
  obtain ⟨os, hos, hcs, hds⟩ := id hs
  unfold Builtin.Slice.sliceApplied Builtin.Slice.sliceFields
  refine wpAny_bind (wpAny_bind (wpAny_field hos hds (x := .none) rfl (wpAny_bind (wpAny_field hos hds (x := .none) rfl (wpAny_bind (wpAny_field hos hds (x := vk) rfl (wpAny_pure ?_)))))))
  refine wpAny_bind (HT.slicePart_ pk ?_)
  show wpAny _ _ (if ((-1 : Int) == 0) = true then _ else _) _ _ s
  rw [if_neg (by decide)]
  refine wpAny_bind (slicePart_none (wpAny_bind (slicePart_none (wpAny_bind (wpAny_pure ?_)))))
  show wpAny _ _ (match Builtin.Slice.sliceAdjust none none (-1) (n : Int) with | (lo, hi) => pure (lo, (-1 : Int), Builtin.Slice.slicePlaces lo hi (-1))) _ _ s
  rw [rev_adj]
  show wpAny _ _ (pure ((n : Int) - 1, (-1 : Int), Builtin.Slice.slicePlaces ((n : Int) - 1) (-1) (-1))) _ _ s
  rw [rev_pl]
  exact wpAny_pure h
theorem fm_congr {α β : Type} {f g : α → Option β} : ∀ {l : List α}, (∀ x ∈ l, f x = g x) → l.filterMap f = l.filterMap g
  | [], _ => rfl
  | x :: l, h => by
    have ih := fm_congr (l := l) fun y hy => h y (List.mem_cons_of_mem _ hy)
    rw [List.filterMap_cons, List.filterMap_cons, h x (List.mem_cons_self ..), ih]
theorem rev_pick (xs : Array Value) : ((List.range xs.size).filterMap fun (k : Nat) => xs[((xs.size : Int) - 1 + (k : Int) * -1).toNat]?).toArray = xs.toList.reverse.toArray := by
  have e : ((List.range xs.size).filterMap fun (k : Nat) => xs[((xs.size : Int) - 1 + (k : Int) * -1).toNat]?) = ((List.range xs.size).map fun k => xs.size - 1 - k).filterMap (xs[·]?) := by
    rw [List.filterMap_map]
    refine fm_congr fun k hk => ?_
    have := List.mem_range.mp hk
    show xs[((xs.size : Int) - 1 + (k : Int) * -1).toNat]? = xs[xs.size - 1 - k]?
    congr 1
    omega
  rw [e, PySem.W.krv_range, List.filterMap_reverse, PySem.W.krv_all]
theorem getItem_rev {t sl : Addr} {items : Array Value} {vk : Value} {Q : Value → Shared → Prop} (ht : IsTup s.heap t items) (hs : s.heap.IsSliceOf sl .none .none vk) (pk : IsPart vk (some (-1)))
    (h : Q (.ref s.heap.objs.size) { s with heap := s.heap.push { cls := .type "tuple", data := .seq items.toList.reverse.toArray } }) (hsz : items.size ≤ sizeLine) : wpAny (model prog w) A (getItem (.ref t) (.ref sl)) Q E s := by
  have htake : sizeOk (.seq items.toList.reverse.toArray) := by
    show items.toList.reverse.toArray.size ≤ sizeLine
    simpa using hsz
  obtain ⟨os, hos, hcs, hds⟩ := id hs
  have hTs : s.TypeIs (.ref sl) "slice" := ⟨os, hos, hcs⟩
  unfold getItem
  try with_reducible refine wpAny_holding ?_
  first | refine wpAny_bind (wpAny_pure ?_) | skip
  refine wpAny_bind (wpAny_sequenceKey ht.typeIs (by decide) ?_)
  refine wpAny_bind (wpAny_callSpecial?_slot (name := Str.ofString "__getitem__") ht.typeIs PyProof.Rows.slot_tuple_getitem
    (wpAny_call_entry PyProof.Rows.slot_tuple_getitem ht.typeIs entry_tuple_getitem ?_ (args_tuple_getitem _ _)))
  show wpAny _ _ (Builtin.Tuple.tupleItemsOf (.ref t) >>= _) _ _ s
  refine wpAny_bind (tupleItemsOf_ ht (wpAny_bind (wpAny_typeOf hTs ?_)))
  rw [if_pos (by decide)]
  refine wpAny_bind (applied_rev hs pk ?_)
  show wpAny _ _ (if (((items.size : Int) - 1 == 0) && (-1 : Int) == 1 && (items.size == items.size)) = true then _ else _) _ _ s
  rw [if_neg (by simp), rev_pick]
  first
    | exact wpAny_bind (m := Builtin.Tuple.tupleExact _) (wpAny_newObj_type (wpAny_pure ⟨_, rfl, wpAny_pure h⟩) htake)
    | exact wpAny_bind (m := Builtin.Tuple.tupleExact _) (wpAny_newObj_type (wpAny_bind (wpAny_pure (wpAny_pure ⟨_, rfl, wpAny_pure h⟩))) htake)
    | exact wpAny_bind (wpAny_bind (m := Builtin.Tuple.tupleExact _) (wpAny_newObj_type (wpAny_pure (wpAny_pure ⟨_, rfl, wpAny_pure h⟩)) htake))
    | exact wpAny_bind (wpAny_bind (m := Builtin.Tuple.tupleExact _) (wpAny_newObj_type (wpAny_pure ⟨_, rfl, wpAny_pure h⟩) htake))
end
def rRev (K : PySem.W.Frag) : V → Hp → VK → Prop := fun x H Q => ∃ a xs, x = .ref a ∧ SqT K H a xs ∧ ∀ p, H p = none → Q (.ref p) (upd H p (.tup xs.reverse))
def tRev (K : PySem.W.Frag) (te ts : TE) : TE := fun σ H Q => te σ H fun x H1 => ts σ H1 fun y H2 => y = .int (-1) ∧ rRev K x H2 Q
section
variable {X : Cx} {e st : Expr} {te ts : TE} {pos p2 : Pos}
theorem vals_reverse : ∀ {xs : List V} {us : List Value}, Vals xs us → Vals xs.reverse us.reverse
  | _, _, .nil => by simp only [List.reverse_nil]; exact .nil
  | _, _, .cons r t => by
    rw [List.reverse_cons, List.reverse_cons]
    exact Vals.append (vals_reverse t) (.cons r .nil)
theorem pe_rev (he : PE X e te) (hs : PE X st ts) (hsub : ∀ v r : Value, subscripted (.Slice none none (some st) p2) false v r = operate [v, r] (getItem v r) := by intro _ _; rfl) : PE X (.Subscript e (.Slice none none (some st) p2) pos) (tRev X.K te ts) := by
  refine ⟨fun pins s σ H Q I h => ?_⟩
  refine Subscript_ (thn (he.run pins s σ H _ I h) fun v s1 ⟨x, H1, I1, r1, q1⟩ => ?_)
  refine wpAny_Slice (wpAny_evalPart_none (wpAny_evalPart_none (evalPart_some_step (thn (hs.run pins s1 σ H1 _ I1 q1) fun vk s3 ⟨y, H3, I3, rk, ey, q3⟩ => ?_))))
  subst ey
  obtain ⟨tk, rfl⟩ := rk
  obtain ⟨a, xs, rfl, hx, q⟩ := q3
  obtain rfl : v = .ref a := r1
  have I4 : Inv X pins σ H3 { s3 with heap := s3.heap.push { cls := .type "slice", data := .fields #[.none, .none, .int (-1) tk] } } := I3.kept (t' := s3.toks) fun b ob q => Heap.get?_push_of_some _ q
  obtain ⟨its, r, ht, hz⟩ := I4.tuple hx
  have hlen : its.toArray.size = xs.length := by rw [List.size_toArray]; exact r.length.symm
  show wpAny (model X.prog X.w) X.A (subscriptTail e (.Slice none none (some st) p2) (.ref a) (.ref s3.heap.objs.size)) (EP X pins σ Q) X.xe { s3 with heap := s3.heap.push { cls := .type "slice", data := .fields #[.none, .none, .int (-1) tk] } }
  refine tail_any (ops := [.ref a, .ref s3.heap.objs.size]) ht.typeIs PyProof.Rows.slot_tuple_getitem.lookup (getItem_rev ht (Heap.IsSliceOf.new ..) (.int (-1) tk) ?_ (by rw [hlen]; exact hz)) (hsub _ _)
  refine ⟨.ref _, _, I4.laid (o := .tup xs.reverse) (fun b ob q => Heap.get?_push_of_some _ q) (Nat.le_refl _) ?_, rfl, q _ (I4.hok.fresh (Nat.le_refl _))⟩
  exact ⟨by rw [List.length_reverse]; exact hz, _, vals_reverse r, IsTup.new _ _⟩
end
def opRev : D → Option D
  | .tuple xs => some (.tuple xs.reverse)
  | _ => none
section
variable {X : Cx} {K : PySem.W.Frag} {b : Bool} {e st : Expr} {te ts : TE} {fe fs : DE} {pos p2 : Pos}
theorem ex_rev (he : EX X b e te fe) (hs : EX X true st ts fs) (hv : ∀ ρ ω, fs ρ ω = some (.int (-1), ω) := by intro _ _; rfl) (hsub : ∀ v r : Value, subscripted (.Slice none none (some st) p2) false v r = operate [v, r] (getItem v r) := by intro _ _; rfl) (hK : X.K = K := by rfl) :
    EX X b (.Subscript e (.Slice none none (some st) p2) pos) (tRev K te ts) (eUn opRev fe) := by
  subst hK
  refine ⟨pe_rev he.pe hs.pe hsub, ?_⟩
  intro g0 H0 g H ρ ω σ Q d ω' ok st' sl e k
  unfold eUn at e
  split at e
  · cases e
  rename_i x ω1 e1
  split at e
  · cases e
  rename_i z ez
  cases e
  refine he.sn g0 H0 g H ρ ω σ _ x _ ok st' sl e1 fun v g1 H1 s1 ok1 r1 => ?_
  refine hs.sn g0 H0 g1 H1 ρ _ σ _ _ _ ok1 (st'.trans s1) (sl.step s1 ok1) (hv ρ _) fun w g2 H2 s2 ok2 r2 => ⟨r2.intV, ?_⟩
  have r1' := r1.mono s2
  unfold opRev at ez
  split at ez
  · rename_i xs
    cases ez
    obtain ⟨a, vs, rfl, q, z, l⟩ := r1'.tupV ok2
    refine ⟨a, vs, rfl, q, fun p hp => ?_⟩
    obtain ⟨s3, ok3⟩ := alloc ok2 hp (o := .tup vs.reverse) rfl
    exact k _ _ _ ((s1.trans s2).trans s3) ok3 (RB.newTup (b := b) ok2 ((st'.trans s1).trans s2) hp (by rw [List.length_reverse]; exact z) (RepL.reverse l))
  · cases ez
end
end Dn
end

section
namespace Dn
open PySem PySem.Spec L2
variable [Tb]
/-! ## the store grows -/
def Gh.ob (g : Gh) (n : Nat) (p : Addr) : Gh := { g with ι := fun m => if m = n then some p else g.ι m, S := fun a => g.S a ∨ a = p }
section
variable {K : PySem.W.Frag} {g g0 : Gh} {H H0 : Hp} {ω : Wd}
/-- a tracked thing that is neither settled nor the store's becomes the store's -/
theorem adopt (ok : GOk K g H ω) (hl : ω.live = true) {p : Addr} {u : HO} {o : WO} (hp : H p = some u) (hG : g.G p = none) (hS : ¬ g.S p) (ht : isTup u = false) (hi : o.is K g.ι g.G H p) :
    GOk K (g.ob ω.objs.length p) H ⟨true, ω.objs ++ [o]⟩ := by
  obtain ⟨gl, gn⟩ := ok.lv hl
  have ιm : ∀ n a, g.ι n = some a → (g.ob ω.objs.length p).ι n = some a := fun n a h => by
    unfold Gh.ob
    simp only
    by_cases e : n = ω.objs.length
    · rw [gn n (by omega)] at h; cases h
    · rw [if_neg e]; exact h
  have old : ∀ n a, n < ω.objs.length → (g.ob ω.objs.length p).ι n = some a → g.ι n = some a := fun n a hn h => by
    unfold Gh.ob at h
    simp only at h
    rw [if_neg (by omega)] at h; exact h
  have new : ∀ n a, n = ω.objs.length → (g.ob ω.objs.length p).ι n = some a → a = p := fun n a hn h => by
    unfold Gh.ob at h
    simp only at h
    rw [if_pos hn] at h; cases h; rfl
  refine ⟨ok.sub, ok.seq, fun a o h q => ?_, fun n m a hn hm h1 h2 => ?_, fun n a hn h => ?_, fun n x e => ?_, fun a h => ?_, fun _ => ⟨gl, fun n hn => ?_⟩, fun P h => ?_⟩
  · rcases q with q | rfl
    · exact ok.nS a o h q
    · have : g.G a = some o := h
      rw [hG] at this; cases this
  · simp only [List.length_append, List.length_singleton] at hn hm
    by_cases e1 : n = ω.objs.length <;> by_cases e2 : m = ω.objs.length
    · omega
    · have a1 := new n a e1 h1
      subst a1
      exact absurd (ok.inS m a (by omega) (old m a (by omega) h2)) hS
    · have a1 := new m a e2 h2
      subst a1
      exact absurd (ok.inS n a (by omega) (old n a (by omega) h1)) hS
    · exact ok.inj n m a (by omega) (by omega) (old n a (by omega) h1) (old m a (by omega) h2)
  · simp only [List.length_append, List.length_singleton] at hn
    by_cases e1 : n = ω.objs.length
    · exact .inr (new n a e1 h)
    · exact .inl (ok.inS n a (by omega) (old n a (by omega) h))
  · by_cases hn : n < ω.objs.length
    · rw [List.getElem?_append_left hn] at e
      obtain ⟨a, ia, q⟩ := ok.st n x e
      exact ⟨a, ιm n a ia, q.mono ιm (fun _ _ h => h) rfl⟩
    · rw [List.getElem?_append_right (by omega)] at e
      have hz : n - ω.objs.length = 0 := by
        cases k : n - ω.objs.length with
        | zero => rfl
        | succ k => rw [k] at e; simp at e
      rw [hz] at e
      cases e
      refine ⟨p, ?_, hi.mono ιm (fun _ _ h => h) rfl⟩
      unfold Gh.ob
      simp only
      rw [if_pos (by omega)]
  · rcases h with h | rfl
    · exact ok.sl a h
    · exact ⟨u, hp, ht⟩
  · simp only [List.length_append, List.length_singleton] at hn
    unfold Gh.ob
    simp only
    rw [if_neg (by omega)]
    exact gn n (by omega)
  · obtain ⟨h1, h2, h3⟩ := ok.tb P h
    refine ⟨.inl h1, h2, fun n e => ?_⟩
    by_cases e1 : n = ω.objs.length
    · have := new n P e1 e
      subst this
      exact hS h1
    · unfold Gh.ob at e
      simp only at e
      rw [if_neg e1] at e
      exact h3 n e
theorem ob_rep {n : Nat} {p : Addr} {G : Hp} {ι : Ix} (h : ι n = some p) : Rep K ι G (ob n) (.ref p) := by
  unfold Dn.ob
  rw [Rep]
  exact ⟨n, p, rfl, h, rfl⟩
theorem adoptStep {g' : Gh} {H' : Hp} {n : Nat} {p : Addr} (s : Step g H g' H') (hp : H p = none) (hl : g'.live = true) (hn : g'.ι n = none) : Step g H (g'.ob n p) H' := by
  refine ⟨fun m a h => ?_, s.Gm, fun a h => .inl (s.Sm a h), s.fr, fun a h => ?_, s.al, s.nw, s.lv, fun h => ?_⟩
  · have := s.ιm m a h
    show (if m = n then some p else g'.ι m) = some a
    by_cases e : m = n
    · subst e; rw [hn] at this; cases this
    · rw [if_neg e]; exact this
  · rcases h with h | rfl
    · exact s.nS a h
    · exact .inr hp
  · rw [← s.lv, hl] at h; cases h
end
/-! ## a list of one's own becomes an object of the store -/
def eObN (f : DA) : DE := fun ρ ω => match f ρ ω with
  | none => none
  | some (ds, ω1) => if ω1.live = true then some (ob ω1.objs.length, ⟨true, ω1.objs ++ [.lst ds]⟩) else none
section
variable {X : Cx} {K : PySem.W.Frag} {b b' d : Bool} {t ta tb tc : TE} {f fa fb fc : DE} {e ea eb ec : Expr} {pos : Pos}
theorem EN.ob {f : DA} (h : EN X e t f) : EX X true e t (eObN f) := by
  refine ⟨h.pe, ?_⟩
  intro g0 H0 g H ρ ω σ Q d ω' ok st sl e k
  unfold eObN at e
  split at e
  · cases e
  rename_i ds ω1 e1
  split at e
  · rename_i hl
    cases e
    refine h.sn g0 H0 g H ρ ω σ Q ds ω1 ok st sl e1 fun p vs g' H' s' ok' h1 h2 h3 h4 h5 h6 => ?_
    have ok2 := adopt (o := .lst ds) ok' hl h2 h3 h4 rfl ⟨vs, h2, h6⟩
    obtain ⟨gl, gn⟩ := ok'.lv hl
    refine k _ _ H' (adoptStep s' h1 gl (gn _ (Nat.le_refl _))) ok2 ?_
    exact ob_rep (if_pos rfl)
  · cases e
/-- {} -/
def eNewT : DE := fun _ ω => if ω.live = true then some (ob ω.objs.length, ⟨true, ω.objs ++ [.dct []]⟩) else none
theorem ex_newT : EX X true (.Dict [] [] pos) tDNewT eNewT := by
  refine ⟨pe_dnewT, ?_⟩
  intro g0 H0 g H ρ ω σ Q d ω' ok st sl e k
  unfold eNewT at e
  split at e
  · rename_i hl
    cases e
    intro p hp
    obtain ⟨s1, ok1⟩ := allocOwn (o := .dT []) ok hp
    have hG : g.G p = none := by
      cases q : g.G p with
      | none => rfl
      | some u => rw [ok.sub p u q] at hp; cases hp
    have hS : ¬ g.S p := fun q => by obtain ⟨u, e, _⟩ := ok.sl p q; rw [hp] at e; cases e
    have ok2 := adopt (o := .dct []) ok1 hl upd_same hG hS rfl ⟨[], upd_same, rfl, .nil⟩
    obtain ⟨gl, gn⟩ := ok.lv hl
    exact k _ _ _ (adoptStep s1 hp gl (gn _ (Nat.le_refl _))) ok2 (ob_rep (if_pos rfl))
  · cases e
def eNewK : DE := fun _ ω => if ω.live = true then some (ob ω.objs.length, ⟨true, ω.objs ++ [.dck []]⟩) else none
theorem ex_newK : EX X true (.Dict [] [] pos) tDNewK eNewK := by
  refine ⟨pe_dnewK, ?_⟩
  intro g0 H0 g H ρ ω σ Q d ω' ok st sl e k
  unfold eNewK at e
  split at e
  · rename_i hl
    cases e
    intro p hp
    obtain ⟨s1, ok1⟩ := allocOwn (o := .dK []) ok hp
    have hG : g.G p = none := by
      cases q : g.G p with
      | none => rfl
      | some u => rw [ok.sub p u q] at hp; cases hp
    have hS : ¬ g.S p := fun q => by obtain ⟨u, e, _⟩ := ok.sl p q; rw [hp] at e; cases e
    have ok2 := adopt (o := .dck []) ok1 hl upd_same hG hS rfl ⟨[], upd_same, rfl, .nil⟩
    obtain ⟨gl, gn⟩ := ok.lv hl
    exact k _ _ _ (adoptStep s1 hp gl (gn _ (Nat.le_refl _))) ok2 (ob_rep (if_pos rfl))
  · cases e
/-! ## attributes -/
def getD (f : Str) (fs : List (Str × D)) : Option D := (fs.find? fun p => decide (p.1 = f)).map Prod.snd
def putD (f : Str) (v : D) : List (Str × D) → List (Str × D)
  | [] => [(f, v)]
  | (g, x) :: r => if g = f then (g, v) :: r else (g, x) :: putD f v r
theorem fld_rep {ι : Ix} {G : Hp} {f : Str} : ∀ {fs : List (Str × D)} {ws : List (Str × V)} {d : D}, ws.map Prod.fst = fs.map Prod.fst → RepL K ι G (fs.map Prod.snd) (ws.map Prod.snd) → getD f fs = some d → ∃ v, ws.lookup f = some v ∧ Rep K ι G d v
  | [], _, _, _, _, e => by simp [getD] at e
  | (a, x) :: fs, ws, d, h1, h2, e => by
    obtain ⟨v, vs, e1, r, q⟩ := RepL.inv (show RepL K ι G (x :: fs.map Prod.snd) _ from h2)
    cases ws with
    | nil => cases e1
    | cons w ws =>
      obtain ⟨c, u⟩ := w
      simp only [List.map_cons, List.cons.injEq] at h1 e1
      obtain ⟨rfl, h1⟩ := h1
      obtain ⟨rfl, e1⟩ := e1
      subst e1
      by_cases hf : c = f
      · subst hf
        simp [getD] at e
        subst e
        exact ⟨u, by rw [List.lookup_cons, beq_self_eq_true], r⟩
      · have hb : (f == c) = false := beq_eq_false_iff_ne.mpr fun z => hf z.symm
        obtain ⟨v, h3, h4⟩ := fld_rep (f := f) (d := d) h1 q (by simpa [getD, hf] using e)
        exact ⟨v, by rw [List.lookup_cons, hb]; exact h3, h4⟩
theorem fld_none {f : Str} : ∀ {fs : List (Str × D)} {ws : List (Str × V)}, ws.map Prod.fst = fs.map Prod.fst → getD f fs = none → ws.lookup f = none
  | [], ws, h1, _ => by
    have : ws = [] := by simpa using h1
    subst this; rfl
  | (a, x) :: fs, ws, h1, e => by
    cases ws with
    | nil => cases h1
    | cons w ws =>
      obtain ⟨c, u⟩ := w
      simp only [List.map_cons, List.cons.injEq] at h1
      obtain ⟨rfl, h1⟩ := h1
      by_cases hf : c = f
      · subst hf
        simp [getD] at e
      · have hb : (f == c) = false := beq_eq_false_iff_ne.mpr fun z => hf z.symm
        rw [List.lookup_cons, hb]
        exact fld_none h1 (by simpa [getD, hf] using e)
theorem put_rep {ι : Ix} {G : Hp} {f : Str} {d : D} {v : V} (r : Rep K ι G d v) : ∀ {fs : List (Str × D)} {ws : List (Str × V)}, ws.map Prod.fst = fs.map Prod.fst → RepL K ι G (fs.map Prod.snd) (ws.map Prod.snd) → (putF f v ws).map Prod.fst = (putD f d fs).map Prod.fst ∧ RepL K ι G ((putD f d fs).map Prod.snd) ((putF f v ws).map Prod.snd)
  | [], ws, h1, _ => by
    have : ws = [] := by simpa using h1
    subst this
    exact ⟨rfl, .cons r .nil⟩
  | (a, x) :: fs, ws, h1, h2 => by
    obtain ⟨y, vs, e1, r1, q⟩ := RepL.inv (show RepL K ι G (x :: fs.map Prod.snd) _ from h2)
    cases ws with
    | nil => cases e1
    | cons w ws =>
      obtain ⟨c, u⟩ := w
      simp only [List.map_cons, List.cons.injEq] at h1 e1
      obtain ⟨rfl, h1⟩ := h1
      obtain ⟨rfl, e1⟩ := e1
      subst e1
      unfold putF putD
      by_cases hf : c = f
      · rw [if_pos hf, if_pos hf]
        exact ⟨by simp [h1], .cons r q⟩
      · rw [if_neg hf, if_neg hf]
        obtain ⟨h3, h4⟩ := put_rep r h1 q
        exact ⟨by simp [h3], .cons r1 h4⟩
/-- e.f, e an instance of the class c -/
def eFld (c n : Str) (f : DE) : DE := fun ρ ω => match f ρ ω with
  | none => none
  | some (x, ω1) => match obN x with
    | none => none
    | some i => match ω1.objs[i]? with
      | some (.ins c' fs) => if c' = c then (match getD n fs with
        | some d => some (d, ω1)
        | none => none) else none
      | _ => none
theorem ex_fld {c n : Str} (he : EX X b e t f) (cl : Cls X.K (Tb.C c)) (na : NoAttr X.K (Tb.C c) n) (hb : attributeBase e n X.env (eval e X.env) = eval e X.env := by rfl) : EX X true (.Attribute e n pos) (tFld X.K t n) (eFld c n f) := by
  refine ⟨pe_fld he.pe hb, ?_⟩
  intro g0 H0 g H ρ ω σ Q d ω' ok st sl e k
  unfold eFld at e
  split at e
  · cases e
  rename_i x ω1 e1
  split at e
  · cases e
  rename_i i en
  split at e
  · rename_i c' fs ex
    split at e
    · rename_i hc
      subst hc
      split at e
      · rename_i dd ed
        cases e
        have := obN_eq en
        subst this
        refine he.sn g0 H0 g H ρ ω σ _ _ ω' ok st sl e1 fun v g1 H1 s1 ok1 r1 => ?_
        obtain ⟨a, ia, rfl⟩ := r1.ob
        obtain ⟨a', ia', dx, ws, ha', hn, rr⟩ := ok1.st i _ ex
        rw [ia] at ia'; cases ia'
        obtain ⟨u, h3, h4⟩ := fld_rep hn rr ed
        exact ⟨a, _, dx, ws, u, rfl, ha', cl, na, h3, k u g1 H1 s1 ok1 h4⟩
      · cases e
    · cases e
  · cases e
/-- o.f = e -/
def sFldD (c n : Str) (fo fe : DE) : DS := fun ρ ω => match fe ρ ω with
  | none => none
  | some (d, ω1) => match fo ρ ω1 with
    | none => none
    | some (x, ω2) => match obN x with
      | none => none
      | some i => match ω2.objs[i]? with
        | some (.ins c' fs) => if c' = c ∧ fs.length < 1000 then some (.nx ρ, ⟨ω2.live, ω2.objs.set i (.ins c (putD n d fs))⟩) else none
        | _ => none
theorem sx_fld {c n : Str} {o value : Expr} {pos' : Pos} {to tv : TE} {fo fv : DE} (he : EX X true value tv fv) (ho : EX X b o to fo) (cl : Cls X.K (Tb.C c)) (na : NoAttr X.K (Tb.C c) n) (hs : swapsWith value (some (.Attribute o n pos')) pos.line X.env = pure false := by rfl) :
    SX X (.Assign [.Attribute o n pos'] value pos) (sFld X.K to tv n) (sFldD c n fo fv) := by
  refine ⟨ps_fld ho.pe he.pe hs, ?_⟩
  intro g0 H0 g H ρ ω σ E oo ω' ok st sl e k
  unfold sFldD at e
  split at e
  · cases e
  rename_i d ω1 e1
  split at e
  · cases e
  rename_i x ω2 e2
  split at e
  · cases e
  rename_i i en
  split at e
  · rename_i c' fs ex
    split at e
    · rename_i hc
      obtain ⟨rfl, hz⟩ := hc
      cases e
      have := obN_eq en
      subst this
      refine he.sn g0 H0 g H ρ ω σ _ d ω1 ok st sl e1 fun v g1 H1 s1 ok1 r1 => ?_
      refine ho.sn g0 H0 g1 H1 ρ ω1 σ _ _ ω2 ok1 (st.trans s1) (sl.step s1 ok1) e2 fun w g2 H2 s2 ok2 r2 => ?_
      obtain ⟨a, ia, rfl⟩ := r2.ob
      obtain ⟨a', ia', dx, ws, ha', hn, rr⟩ := ok2.st i _ ex
      rw [ia] at ia'; cases ia'
      obtain ⟨h3, h4⟩ := put_rep (f := n) (RB.mono r1 s2) hn rr
      obtain ⟨s4, ok4⟩ := obSetG (o' := .ins c' (putD n d fs)) (u' := .ins (Tb.C c') dx (putF n v ws)) ok2 ex ia rfl ⟨dx, _, upd_same, h3, h4⟩
      have hl : ws.length < 1000 := by
        have := congrArg List.length hn
        rw [List.length_map, List.length_map] at this
        omega
      refine ⟨a, _, dx, ws, rfl, ha', cl, na, hl, ?_⟩
      have s14 := (s1.trans s2).trans s4
      exact k σ g2 _ ⟨ok4, st.trans s14, sl.step s14 ok4, s14.le⟩
    · cases e
  · cases e
/-! ## methods, new instances -/
/-- o.m(..): the def fn gets the object first -/
def eMethD (c m : Str) (fo : DE) (fn : List D → Wd → Option (D × Wd)) (a : DA) : DE := fun ρ ω => match fo ρ ω with
  | none => none
  | some (x, ω1) => match obN x with
    | none => none
    | some i => match ω1.objs[i]? with
      | some (.ins c' fs) => if c' = c ∧ (getD m fs).isNone = true then (match a ρ ω1 with
        | none => none
        | some (ds, ω2) => fn (x :: ds) ω2) else none
      | _ => none
theorem sn_meth {c m : Str} {n : Nat} {to : TE} {fo : DE} {ta : TA} {fa : DA} {fn : List D → Wd → Option (D × Wd)} (ho : Snd K true to fo) (ha : SndA K true ta fa) (l : LenA n fa) : Snd K true (tMeth (Tb.C c) m (spD K (n + 1) fn) [] E0 to ta) (eMethD c m fo fn fa) := by
  intro g0 H0 g H ρ ω σ Q d ω' ok st sl e k
  unfold eMethD at e
  split at e
  · cases e
  rename_i x ω1 e1
  split at e
  · cases e
  rename_i i en
  split at e
  · rename_i c' fs ex
    split at e
    · rename_i hc
      obtain ⟨rfl, hz⟩ := hc
      split at e
      · cases e
      rename_i ds ω2 e2
      have := obN_eq en
      subst this
      refine ho g0 H0 g H ρ ω σ _ _ ω1 ok st sl e1 fun v g1 H1 s1 ok1 r1 => ?_
      have r1' := r1
      obtain ⟨p, ia, rfl⟩ := r1.ob
      obtain ⟨a', ia', dx, ws, ha', hn, rr⟩ := ok1.st i _ ex
      rw [ia] at ia'; cases ia'
      refine ⟨p, dx, ws, rfl, ha', fld_none hn (Option.isNone_iff_eq_none.mp hz), ?_⟩
      refine ha g0 H0 g1 H1 ρ ω1 σ _ ds ω2 ok1 (st.trans s1) (sl.step s1 ok1) e2 fun vs g2 H2 s2 ok2 r2 => ?_
      rw [List.append_nil]
      exact ⟨g2, ω2, ob i :: ds, d, ω', by rw [List.length_cons, RepL.length r2, l _ _ _ _ e2], ok2, .cons (RB.mono r1' s2) r2, e, fun v g3 H3 s3 ok3 r3 => k v g3 H3 ((s1.trans s2).trans s3) ok3 r3⟩
    · cases e
  · cases e
section
variable {n k : Nat} {f : Addr} {fd : FuncData} {ps : List Str} {fn : List D → Wd → Option (D × Wd)} {c m x : Str} {p apos : Pos} {es : List Expr} {o : Expr} {to : TE} {fo : DE} {ta : TA} {fa : DA} {pl : Sem Bool}
theorem ex_meth (ho : EX X true o to fo) (cl : Cls X.K (Tb.C c)) (hm : Meth X.K (Tb.C c) m f) (F : FnOk X.prog X.w X.K X.mg X.base CX0 k f fd ps (spD X.K (n + 1) fn)) (hr : Room k X.A) (hb : Binds X.K fd ps []) (ha : EA X true (e :: es) ta fa) (l : LenA n fa)
    (hst : starEach (e :: es) X.env = (false, eval e X.env) :: starEach es X.env := by rfl) (hpl : (backTo pos (starEach es X.env)).any (·.1) = false := by rfl)
    (ht : eval (.Call (.Attribute o m apos) (e :: es) [] pos) X.env = (do
      let ov ← eval o X.env
      standAt apos.atName
      let (f, first) ← holding [ov] (getMethod ov m pl)
      callWith pos f first (backTo pos (starEach (e :: es) X.env)) (backToKw pos (keywordEach [] X.env))) := by rfl) :
    EX X true (.Call (.Attribute o m apos) (e :: es) [] pos) (tMeth (Tb.C c) m (spD X.K (n + 1) fn) [] E0 to ta) (eMethD c m fo fn fa) :=
  ⟨pe_meth (pl := pl) ho.pe cl hm F hr hb .nil pass0 ha.pe hst hpl ht, sn_meth ho.sn ha.sn l⟩
theorem ex_meth0 (ho : EX X true o to fo) (cl : Cls X.K (Tb.C c)) (hm : Meth X.K (Tb.C c) m f) (F : FnOk X.prog X.w X.K X.mg X.base CX0 k f fd ps (spD X.K 1 fn)) (hr : Room k X.A) (hb : Binds X.K fd ps [])
    (ht : eval (.Call (.Attribute o m apos) [] [] pos) X.env = (do
      let ov ← eval o X.env
      standAt apos.atName
      let (f, first) ← holding [ov] (getMethod ov m pl)
      callWith pos f first (backTo pos (starEach [] X.env)) (backToKw pos (keywordEach [] X.env))) := by rfl) :
    EX X true (.Call (.Attribute o m apos) [] [] pos) (tMeth (Tb.C c) m (spD X.K 1 fn) [] E0 to tNil) (eMethD c m fo fn aNil) :=
  ⟨pe_meth0 (pl := pl) ho.pe cl hm F hr hb .nil pass0 ht, sn_meth ho.sn (ea_nil (X := X)).sn len_nil⟩
/-- C(..), by its __init__ -/
def eMakeD (c : Str) (fn : List D → Wd → Option (D × Wd)) (a : DA) : DE := fun ρ ω => match a ρ ω with
  | none => none
  | some (ds, ω1) => if ω1.live = true then (match fn (ob ω1.objs.length :: ds) ⟨true, ω1.objs ++ [.ins c []]⟩ with
    | some (.none, ω2) => some (ob ω1.objs.length, ω2)
    | _ => none) else none
theorem sn_make {n : Nat} (ha : SndA K true ta fa) (l : LenA n fa) : Snd K true (tMake (Tb.C c) (spD K (n + 1) fn) [] E0 ta) (eMakeD c fn fa) := by
  intro g0 H0 g H ρ ω σ Q d ω' ok st sl e k
  unfold eMakeD at e
  split at e
  · cases e
  rename_i ds ω1 e1
  split at e
  · rename_i hl
    split at e
    · rename_i ω2 e2
      cases e
      refine ha g0 H0 g H ρ ω σ _ ds ω1 ok st sl e1 fun vs g1 H1 s1 ok1 r1 => ?_
      intro x dx nx ndx nex
      rw [List.append_nil]
      obtain ⟨s2, ok2⟩ := allocOwn (o := .own x) ok1 ndx
      have nx2 : (upd H1 dx (.own x)) x = none := by rw [upd_ne (Ne.symm nex)]; exact nx
      obtain ⟨s3, ok3⟩ := allocOwn (o := .ins (Tb.C c) dx []) ok2 nx2
      have hG : g1.G x = none := by
        cases q : g1.G x with
        | none => rfl
        | some u => rw [ok1.sub x u q] at nx; cases nx
      have hS : ¬ g1.S x := fun q => by obtain ⟨u, e, _⟩ := ok1.sl x q; rw [nx] at e; cases e
      have ok4 := adopt (o := .ins c []) ok3 hl upd_same hG hS rfl ⟨dx, [], upd_same, rfl, .nil⟩
      obtain ⟨gl, gn⟩ := ok1.lv hl
      have s4 := adoptStep (s2.trans s3) nx gl (gn _ (Nat.le_refl _))
      have ix : (g1.ob ω1.objs.length x).ι ω1.objs.length = some x := if_pos rfl
      refine ⟨_, _, ob ω1.objs.length :: ds, .none, ω', by rw [List.length_cons, RepL.length r1, l _ _ _ _ e1], ok4, .cons (ob_rep ix) (RBL.mono r1 s4), e2, fun v g5 H5 s5 ok5 r5 => ?_⟩
      rw [Rep] at r5
      exact ⟨r5, k _ g5 H5 ((s1.trans s4).trans s5) ok5 (ob_rep (s5.ιm _ _ ix))⟩
    · cases e
  · cases e
theorem ex_make (M : Mk X.K (Tb.C c) f) (F : FnOk X.prog X.w X.K X.mg X.base CX0 k f fd ps (spD X.K (n + 1) fn)) (hr : Room (k + 1) X.A) (hm : X.mg x = some (.ref (Tb.C c))) (hb : Binds X.K fd ps []) (ha : EA X true (e :: es) ta fa) (l : LenA n fa) (hg : Gl X x := by rfl) (hdb : (x == ("__debug__" : Str)) = false := by decide)
    (he : starEach (e :: es) X.env = (false, eval e X.env) :: starEach es X.env := by rfl) (hpl : (backTo pos (starEach es X.env)).any (·.1) = false := by rfl) : EX X true (.Call (.Name x p) (e :: es) [] pos) (tMake (Tb.C c) (spD X.K (n + 1) fn) [] E0 ta) (eMakeD c fn fa) :=
  ⟨pe_make M F hr hg hm hb .nil pass0 ha.pe hdb he hpl, sn_make ha.sn l⟩
theorem ex_make0 (M : Mk X.K (Tb.C c) f) (F : FnOk X.prog X.w X.K X.mg X.base CX0 k f fd ps (spD X.K 1 fn)) (hr : Room (k + 1) X.A) (hm : X.mg x = some (.ref (Tb.C c))) (hb : Binds X.K fd ps []) (hg : Gl X x := by rfl) (hdb : (x == ("__debug__" : Str)) = false := by decide) :
    EX X true (.Call (.Name x p) [] [] pos) (tMake (Tb.C c) (spD X.K 1 fn) [] E0 tNil) (eMakeD c fn aNil) :=
  ⟨pe_make0 M F hr hg hm hb .nil pass0 hdb, sn_make (ea_nil (X := X)).sn len_nil⟩
end
end
end Dn
end

section
namespace Dn
open PySem PySem.Spec L2
variable [Tb]
/-! ## keys -/
def keyP : D → Option Key
  | .int i => some (.inl i)
  | .str s => some (.inr s)
  | _ => none
def keyL : List D → Option (List Key)
  | [] => some []
  | d :: ds => match keyP d, keyL ds with
    | some k, some ks => some (k :: ks)
    | _, _ => none
def keyT : D → Option (List Key)
  | .tuple ds => keyL ds
  | _ => none
section
variable {K : PySem.W.Frag} {ι : Ix} {G : Hp}
theorem keyP_rep {d : D} {k : Key} {v : V} (e : keyP d = some k) (r : Rep K ι G d v) : v = kV k := by
  cases d <;> simp only [keyP] at e <;> cases e <;> (rw [Rep] at r; subst r; rfl)
theorem keyL_rep : ∀ {ds : List D} {ks : List Key} {vs : List V}, keyL ds = some ks → RepL K ι G ds vs → vs = ks.map kV
  | [], ks, vs, e, r => by
    cases e
    rw [RepL] at r
    subst r; rfl
  | d :: ds, ks, vs, e, r => by
    unfold keyL at e
    split at e
    · rename_i k ks' e1 e2
      cases e
      obtain ⟨v, ws, rfl, r1, r2⟩ := RepL.inv r
      rw [keyP_rep e1 r1, keyL_rep e2 r2]; rfl
    · cases e
variable {κ : Type} [DecidableEq κ]
def dget (kvs : List (κ × D)) (k : κ) : Option D := (kvs.find? fun kv => decide (kv.1 = k)).map Prod.snd
def dput (kvs : List (κ × D)) (k : κ) (v : D) : List (κ × D) :=
  if (kvs.any fun kv => decide (kv.1 = k)) = true then kvs.map (fun kv => if kv.1 = k then (kv.1, v) else kv) else kvs ++ [(k, v)]
theorem dget_rep {k : κ} : ∀ {kvs : List (κ × D)} {ws : List (κ × V)}, ws.map Prod.fst = kvs.map Prod.fst → RepL K ι G (kvs.map Prod.snd) (ws.map Prod.snd) → (dget kvs k = none ∧ valV ws k = none) ∨ ∃ d v, dget kvs k = some d ∧ valV ws k = some v ∧ Rep K ι G d v
  | [], ws, h1, _ => by
    have : ws = [] := by simpa using h1
    subst this
    exact .inl ⟨rfl, rfl⟩
  | (a, x) :: fs, ws, h1, h2 => by
    obtain ⟨y, vs, e1, r1, q⟩ := RepL.inv (show RepL K ι G (x :: fs.map Prod.snd) _ from h2)
    cases ws with
    | nil => cases e1
    | cons w ws =>
      obtain ⟨c, u⟩ := w
      simp only [List.map_cons, List.cons.injEq] at h1 e1
      obtain ⟨rfl, h1⟩ := h1
      obtain ⟨rfl, e1⟩ := e1
      subst e1
      by_cases hf : c = k
      · exact .inr ⟨x, u, by simp [dget, hf], valV_pos (p := (c, u)) hf, r1⟩
      · rcases dget_rep (k := k) h1 q with ⟨h3, h4⟩ | ⟨d, v, h3, h4, h5⟩
        · exact .inl ⟨by simpa [dget, hf] using h3, (valV_neg (p := (c, u)) hf).trans h4⟩
        · exact .inr ⟨d, v, by simpa [dget, hf] using h3, (valV_neg (p := (c, u)) hf).trans h4, h5⟩
theorem any_keys {k : κ} {kvs : List (κ × D)} {ws : List (κ × V)} (h1 : ws.map Prod.fst = kvs.map Prod.fst) : (ws.any fun kv => decide (kv.1 = k)) = (kvs.any fun kv => decide (kv.1 = k)) := by
  have e : ∀ {α : Type} (l : List (κ × α)), (l.any fun kv => decide (kv.1 = k)) = (l.map Prod.fst).any fun a => decide (a = k) := fun l => by rw [List.any_map]; rfl
  rw [e, e, h1]
theorem mapk_rep {k : κ} {d : D} {v : V} (r : Rep K ι G d v) : ∀ {kvs : List (κ × D)} {ws : List (κ × V)}, ws.map Prod.fst = kvs.map Prod.fst → RepL K ι G (kvs.map Prod.snd) (ws.map Prod.snd) →
    (ws.map fun kv => if kv.1 = k then (kv.1, v) else kv).map Prod.fst = (kvs.map fun kv => if kv.1 = k then (kv.1, d) else kv).map Prod.fst ∧ RepL K ι G ((kvs.map fun kv => if kv.1 = k then (kv.1, d) else kv).map Prod.snd) ((ws.map fun kv => if kv.1 = k then (kv.1, v) else kv).map Prod.snd)
  | [], ws, h1, _ => by
    have : ws = [] := by simpa using h1
    subst this
    exact ⟨rfl, .nil⟩
  | (a, x) :: fs, ws, h1, h2 => by
    obtain ⟨y, vs, e1, r1, q⟩ := RepL.inv (show RepL K ι G (x :: fs.map Prod.snd) _ from h2)
    cases ws with
    | nil => cases e1
    | cons w ws =>
      obtain ⟨c, u⟩ := w
      simp only [List.map_cons, List.cons.injEq] at h1 e1
      obtain ⟨rfl, h1⟩ := h1
      obtain ⟨rfl, e1⟩ := e1
      subst e1
      obtain ⟨h3, h4⟩ := mapk_rep (k := k) r h1 q
      simp only [List.map_cons]
      by_cases hf : c = k
      · rw [if_pos hf, if_pos hf]
        exact ⟨by simp only [List.cons.injEq, true_and]; exact h3, .cons r h4⟩
      · rw [if_neg hf, if_neg hf]
        exact ⟨by simp only [List.cons.injEq, true_and]; exact h3, .cons r1 h4⟩
theorem dput_rep {k : κ} {d : D} {v : V} (r : Rep K ι G d v) {kvs : List (κ × D)} {ws : List (κ × V)} (h1 : ws.map Prod.fst = kvs.map Prod.fst) (h2 : RepL K ι G (kvs.map Prod.snd) (ws.map Prod.snd)) : (putK ws k v).map Prod.fst = (dput kvs k d).map Prod.fst ∧ RepL K ι G ((dput kvs k d).map Prod.snd) ((putK ws k v).map Prod.snd) := by
  unfold putK dput
  rw [any_keys h1]
  by_cases h : (kvs.any fun kv => decide (kv.1 = k)) = true
  · rw [if_pos h, if_pos h]; exact mapk_rep r h1 h2
  · rw [if_neg h, if_neg h]
    refine ⟨by simp [h1], ?_⟩
    rw [List.map_append, List.map_append]
    exact RepL.append h2 (.cons r .nil)
end
/-- what a dict of the store says of a key -/
def getO : WO → D → Option (Option D)
  | .dct kvs, y => (keyT y).map (dget kvs)
  | .dck kvs, y => (keyP y).map (dget kvs)
  | _, _ => none
def putO : WO → D → D → Option WO
  | .dct kvs, y, d => if kvs.length < sizeLine then (keyT y).map fun k => .dct (dput kvs k d) else none
  | .dck kvs, y, d => if kvs.length < sizeLine then (keyP y).map fun k => .dck (dput kvs k d) else none
  | _, _, _ => none
section
variable {K : PySem.W.Frag} {b : Bool} {g0 g : Gh} {H0 H : Hp} {ω : Wd}
/-- what a key is in the heap -/
theorem keyT_rep (ok : GOk K g H ω) {y : D} {v : V} {k : List Key} (ry : RB K b g0 H0 g H y v) (e : keyT y = some k) : ∃ c, v = .ref c ∧ H c = some (.tup (k.map kV)) := by
  cases y <;> simp only [keyT] at e <;> try cases e
  have q := ry
  unfold RB at q
  rw [Rep] at q
  obtain ⟨c, vs, rfl, q1, z, rr⟩ := q
  rw [keyL_rep e rr] at q1
  exact ⟨c, rfl, (hb_sub ok q1).1⟩
theorem getO_rep (ok : GOk K g H ω) {o : WO} {a : Addr} {y : D} {v : V} {r : Option D} (hi : o.is K g.ι g.G H a) (ry : RB K b g0 H0 g H y v) (e : getO o y = some r) : ∃ u, DGet H a v u ∧ u.isSome = r.isSome ∧ ∀ d, r = some d → ∃ w, u = some w ∧ Rep K g.ι g.G d w := by
  cases o with
  | dct kvs =>
    obtain ⟨ws, hw, h1, h2⟩ := hi
    obtain ⟨k, hk, rfl⟩ := Option.map_eq_some_iff.mp e
    obtain ⟨c, rfl, hc⟩ := keyT_rep ok ry hk
    refine ⟨valV ws k, DGet.t hw hc, ?_⟩
    rcases dget_rep (k := k) h1 h2 with ⟨h3, h4⟩ | ⟨d, w, h3, h4, h5⟩
    · rw [h3, h4]; exact ⟨rfl, fun d e => nomatch e⟩
    · rw [h3, h4]; exact ⟨rfl, fun d' e => by cases e; exact ⟨w, rfl, h5⟩⟩
  | dck kvs =>
    obtain ⟨ws, hw, h1, h2⟩ := hi
    obtain ⟨k, hk, rfl⟩ := Option.map_eq_some_iff.mp e
    have hv := keyP_rep hk (show Rep K g.ι (hb b g0 H0 g H) y v from ry)
    subst hv
    refine ⟨valV ws k, DGet.k hw, ?_⟩
    rcases dget_rep (k := k) h1 h2 with ⟨h3, h4⟩ | ⟨d, w, h3, h4, h5⟩
    · rw [h3, h4]; exact ⟨rfl, fun d e => nomatch e⟩
    · rw [h3, h4]; exact ⟨rfl, fun d' e => by cases e; exact ⟨w, rfl, h5⟩⟩
  | lst xs => cases e
  | ins c fs => cases e
def isDct : WO → Bool
  | .dct _ => true
  | .dck _ => true
  | _ => false
theorem isD_rep {o : WO} {a : Addr} {ι : Ix} {G : Hp} (hi : o.is K ι G H a) (h : isDct o = true) : IsD H a := by
  cases o with
  | dct kvs => obtain ⟨ws, hw, _⟩ := hi; exact .inr ⟨ws, .inl hw⟩
  | dck kvs => obtain ⟨ws, hw, _⟩ := hi; exact .inl ⟨ws, .inl hw⟩
  | lst xs => cases h
  | ins c fs => cases h
theorem putO_rep (ok : GOk K g H ω) {o o' : WO} {a : Addr} {y d : D} {v w : V} (hi : o.is K g.ι g.G H a) (ry : RB K b g0 H0 g H y v) (rd : Rep K g.ι g.G d w) (e : putO o y d = some o') : ∃ u, DPut H a v w (upd H a u) ∧ isTup u = false ∧ o'.is K g.ι g.G (upd H a u) a := by
  cases o with
  | dct kvs =>
    obtain ⟨ws, hw, h1, h2⟩ := hi
    simp only [putO] at e
    split at e
    · rename_i hz
      obtain ⟨k, hk, rfl⟩ := Option.map_eq_some_iff.mp e
      obtain ⟨c, rfl, hc⟩ := keyT_rep ok ry hk
      obtain ⟨h3, h4⟩ := dput_rep (k := k) rd h1 h2
      have hl : ws.length < sizeLine := by
        have := congrArg List.length h1
        rw [List.length_map, List.length_map] at this
        omega
      exact ⟨.dT (putK ws k w), DPut.t hw hc hl, rfl, putK ws k w, upd_same, h3, h4⟩
    · cases e
  | dck kvs =>
    obtain ⟨ws, hw, h1, h2⟩ := hi
    simp only [putO] at e
    split at e
    · rename_i hz
      obtain ⟨k, hk, rfl⟩ := Option.map_eq_some_iff.mp e
      have hv := keyP_rep hk (show Rep K g.ι (hb b g0 H0 g H) y v from ry)
      subst hv
      obtain ⟨h3, h4⟩ := dput_rep (k := k) rd h1 h2
      have hl : ws.length < sizeLine := by
        have := congrArg List.length h1
        rw [List.length_map, List.length_map] at this
        omega
      exact ⟨.dK (putK ws k w), DPut.k hw hl, rfl, putK ws k w, upd_same, h3, h4⟩
    · cases e
  | lst xs => cases e
  | ins c fs => cases e
end
/-! ## the rules -/
section
variable {X : Cx} {K : PySem.W.Frag} {b b' b2 : Bool} {t ta tb tc td ty tx : TE} {f fa fb fc fd fy fx : DE} {e ea eb ec o i : Expr} {pos : Pos}
/-- k in d, k not in d -/
def eDIn (neg : Bool) (fy fd : DE) : DE := fun ρ ω => match fy ρ ω with
  | none => none
  | some (y, ω1) => match fd ρ ω1 with
    | none => none
    | some (x, ω2) => match obN x with
      | none => none
      | some n => match ω2.objs[n]? with
        | none => none
        | some o => match getO o y with
          | none => none
          | some r => some (.bool (if neg = true then !r.isSome else r.isSome), ω2)
theorem sn_dinG {tt : TE} {neg : Bool} (hk : ∀ σ H Q, (ty σ H fun y H1 => td σ H1 fun x H2 => ∃ a o, x = .ref a ∧ DGet H2 a y o ∧ Q (.bl (if neg = true then !o.isSome else o.isSome)) H2) → tt σ H Q) (hy : Snd K b ty fy) (hd : Snd K b' td fd) : Snd K true tt (eDIn neg fy fd) := by
  intro g0 H0 g H ρ ω σ Q d ω' ok st sl e k
  unfold eDIn at e
  split at e
  · cases e
  rename_i y ω1 e1
  split at e
  · cases e
  rename_i x ω2 e2
  split at e
  · cases e
  rename_i n en
  split at e
  · cases e
  rename_i o eo
  split at e
  · cases e
  rename_i r er
  cases e
  have := obN_eq en
  subst this
  refine hk σ H Q (hy g0 H0 g H ρ ω σ _ y ω1 ok st sl e1 fun v g1 H1 s1 ok1 r1 => ?_)
  refine hd g0 H0 g1 H1 ρ ω1 σ _ _ ω' ok1 (st.trans s1) (sl.step s1 ok1) e2 fun w g2 H2 s2 ok2 r2 => ?_
  obtain ⟨a, ia, rfl⟩ := r2.ob
  obtain ⟨a', ia', hi⟩ := ok2.st n _ eo
  rw [ia] at ia'; cases ia'
  obtain ⟨u, h1, h2, h3⟩ := getO_rep ok2 hi (RB.mono r1 s2) er
  exact ⟨a, u, rfl, h1, by rw [h2]; exact k _ g2 H2 (s1.trans s2) ok2 .bl⟩
theorem ex_din (hu : X.A.units + 64 < cLine) (hi : EX X b i ty fy) (ho : EX X b' o td fd) (hm : behindInMarks .In o = false := by first | exact nobehind _ (by decide) (by decide) | rfl) : EX X true (.Compare i [.In] [o] pos) (tDIn ty td) (eDIn false fy fd) :=
  ⟨pe_cmp (pc_din (by omega) hi.pe ho.pe) hm, sn_dinG (fun _ _ _ h => h) hi.sn ho.sn⟩
theorem et_din (hu : X.A.units + 64 < cLine) (hi : EX X b i ty fy) (ho : EX X b' o td fd) (hm : behindInMarks .In o = false := by first | exact nobehind _ (by decide) (by decide) | rfl) : ET X (.Compare i [.In] [o] pos) (tB (tDIn ty td)) (tOfE (eDIn false fy fd)) :=
  ⟨pt_cmp (pc_din (by omega) hi.pe ho.pe) hm, sn_test (b := true) (fun _ _ _ h => h) (sn_dinG (fun _ _ _ h => h) hi.sn ho.sn)⟩
theorem ex_dnotin (hu : X.A.units + 64 < cLine) (hi : EX X b i ty fy) (ho : EX X b' o td fd) (hm : behindInMarks .NotIn o = false := by first | exact nobehind _ (by decide) (by decide) | rfl) : EX X true (.Compare i [.NotIn] [o] pos) (tDNotIn ty td) (eDIn true fy fd) :=
  ⟨pe_cmp (pc_dnotin (by omega) hi.pe ho.pe) hm, sn_dinG (fun _ _ _ h => h) hi.sn ho.sn⟩
theorem et_dnotin (hu : X.A.units + 64 < cLine) (hi : EX X b i ty fy) (ho : EX X b' o td fd) (hm : behindInMarks .NotIn o = false := by first | exact nobehind _ (by decide) (by decide) | rfl) : ET X (.Compare i [.NotIn] [o] pos) (tB (tDNotIn ty td)) (tOfE (eDIn true fy fd)) :=
  ⟨pt_cmp (pc_dnotin (by omega) hi.pe ho.pe) hm, sn_test (b := true) (fun _ _ _ h => h) (sn_dinG (fun _ _ _ h => h) hi.sn ho.sn)⟩
/-- d[k] -/
def eDIx (fd fy : DE) : DE := fun ρ ω => match fd ρ ω with
  | none => none
  | some (x, ω1) => match obN x with
    | none => none
    | some n => match fy ρ ω1 with
      | none => none
      | some (y, ω2) => match ω2.objs[n]? with
        | none => none
        | some o => match getO o y with
          | some (some d) => some (d, ω2)
          | _ => none
theorem ex_dix (hu : X.A.units + 64 < cLine) (ho : EX X b o td fd) (hi : EX X b' i ty fy) (hs : NoSl i := by exact fun _ _ => rfl) : EX X true (.Subscript o i pos) (tDGet td ty) (eDIx fd fy) := by
  refine ⟨pe_dget (by omega) ho.pe hi.pe hs, ?_⟩
  intro g0 H0 g H ρ ω σ Q d ω' ok st sl e k
  unfold eDIx at e
  split at e
  · cases e
  rename_i x ω1 e1
  split at e
  · cases e
  rename_i n en
  split at e
  · cases e
  rename_i y ω2 e2
  split at e
  · cases e
  rename_i oo eo
  split at e
  · rename_i dd er
    cases e
    have := obN_eq en
    subst this
    refine ho.sn g0 H0 g H ρ ω σ _ _ ω1 ok st sl e1 fun w g1 H1 s1 ok1 r1 => ?_
    refine hi.sn g0 H0 g1 H1 ρ ω1 σ _ y ω' ok1 (st.trans s1) (sl.step s1 ok1) e2 fun v g2 H2 s2 ok2 r2 => ?_
    obtain ⟨a, ia, rfl⟩ := (RB.mono r1 s2).ob
    obtain ⟨a', ia', hi'⟩ := ok2.st n _ eo
    rw [ia] at ia'; cases ia'
    obtain ⟨u, h1, h2, h3⟩ := getO_rep ok2 hi' r2 er
    obtain ⟨w, rfl, h4⟩ := h3 _ rfl
    exact ⟨a, w, rfl, h1, k w g2 H2 (s1.trans s2) ok2 h4⟩
  · cases e
/-- d.get(k, x) -/
def eDGet2 (fd fy fx : DE) : DE := fun ρ ω => match fd ρ ω with
  | none => none
  | some (x, ω1) => match obN x with
    | none => none
    | some n => match ω1.objs[n]? with
      | none => none
      | some o1 => if isDct o1 = true then (match fy ρ ω1 with
        | none => none
        | some (y, ω2) => match fx ρ ω2 with
          | none => none
          | some (z, ω3) => match ω3.objs[n]? with
            | none => none
            | some o => match getO o y with
              | none => none
              | some r => some (r.getD z, ω3)) else none
theorem ex_dget2 {apos cpos : Pos} (hu : X.A.units + 64 < cLine) (ho : EX X b o td fd) (hk : EX X true i ty fy) (hx : EX X true e tx fx) (m : M2 X o "get" apos i e cpos := by exact ⟨rfl, rfl, rfl, rfl⟩) : EX X true (.Call (.Attribute o "get" apos) [i, e] [] cpos) (tDGet2 td ty tx) (eDGet2 fd fy fx) := by
  refine ⟨pe_dget2 (by omega) ho.pe hk.pe hx.pe m, ?_⟩
  intro g0 H0 g H ρ ω σ Q d ω' ok st sl e k
  unfold eDGet2 at e
  split at e
  · cases e
  rename_i x ω1 e1
  split at e
  · cases e
  rename_i n en
  split at e
  · cases e
  rename_i o1 eo1
  split at e
  · rename_i hd1
    split at e
    · cases e
    rename_i y ω2 e2
    split at e
    · cases e
    rename_i z ω3 e3
    split at e
    · cases e
    rename_i oo eo
    split at e
    · cases e
    rename_i r er
    cases e
    have := obN_eq en
    subst this
    refine ho.sn g0 H0 g H ρ ω σ _ _ ω1 ok st sl e1 fun w g1 H1 s1 ok1 r1 => ?_
    have r1' := r1
    obtain ⟨a, ia, rfl⟩ := r1.ob
    obtain ⟨a', ia', hi1⟩ := ok1.st n _ eo1
    rw [ia] at ia'; cases ia'
    refine ⟨a, rfl, isD_rep hi1 hd1, ?_⟩
    refine hk.sn g0 H0 g1 H1 ρ ω1 σ _ y ω2 ok1 (st.trans s1) (sl.step s1 ok1) e2 fun v g2 H2 s2 ok2 r2 => ?_
    refine hx.sn g0 H0 g2 H2 ρ ω2 σ _ z ω' ok2 ((st.trans s1).trans s2) ((sl.step s1 ok1).step s2 ok2) e3 fun u3 g3 H3 s3 ok3 r3 => ?_
    obtain ⟨a2, ia2, hi'⟩ := ok3.st n _ eo
    rw [(s2.trans s3).ιm _ _ ia] at ia2; cases ia2
    obtain ⟨u, h1, h2, h3⟩ := getO_rep ok3 hi' (RB.mono r2 s3) er
    refine ⟨u, h1, ?_⟩
    cases r with
    | none =>
      have : u = none := by cases u <;> first | rfl | cases h2
      subst this
      exact k _ g3 H3 ((s1.trans s2).trans s3) ok3 r3
    | some dd =>
      obtain ⟨w, rfl, h4⟩ := h3 _ rfl
      exact k _ g3 H3 ((s1.trans s2).trans s3) ok3 h4
  · cases e
/-- d[k] = e -/
def sDSet (fo fk fe : DE) : DS := fun ρ ω => match fe ρ ω with
  | none => none
  | some (d, ω1) => match fo ρ ω1 with
    | none => none
    | some (x, ω2) => match obN x with
      | none => none
      | some n => match fk ρ ω2 with
        | none => none
        | some (y, ω3) => match ω3.objs[n]? with
          | none => none
          | some o => match putO o y d with
            | none => none
            | some o' => some (.nx ρ, ⟨ω3.live, ω3.objs.set n o'⟩)
theorem sx_dset {e eo ek : Expr} {te to tk : TE} {fe fo fk : DE} {spos : Pos} (hu : X.A.units + 64 < cLine) (he : EX X true e te fe) (ho : EX X b eo to fo) (hk : EX X b' ek tk fk) (ha : ∀ v, assign (.Subscript eo ek spos) X.env v = (do
      let ov ← holding [v] (eval eo X.env)
      let iv ← holding [v, ov] (eval ek X.env)
      standAt spos
      holding [v, ov, iv] (setItem ov iv v)
      release [v, ov, iv] []) := by intro _; rfl) (hs : swapsWithSole [.Subscript eo ek spos] e pos.line X.env = pure false := by rfl) (hw : swappedStores [.Subscript eo ek spos] e X.env = pure none := by rfl)
    (h1 : (assignEach [.Subscript eo ek spos] X.env).map (·.2) = [assign (.Subscript eo ek spos) X.env] := by rfl) :
    SX X (.Assign [.Subscript eo ek spos] e pos) (tAsg te (gSub to tk rSetD)) (sDSet fo fk fe) := by
  refine ⟨ps_asg he.pe (pg_sub ho.pe hk.pe (set_dict (by omega)) ha) hs hw h1, ?_⟩
  intro g0 H0 g H ρ ω σ E o ω' ok st sl e kk
  unfold sDSet at e
  split at e
  · cases e
  rename_i d ω1 e1
  split at e
  · cases e
  rename_i x ω2 e2
  split at e
  · cases e
  rename_i n en
  split at e
  · cases e
  rename_i y ω3 e3
  split at e
  · cases e
  rename_i oo eo
  split at e
  · cases e
  rename_i o' eo'
  cases e
  have := obN_eq en
  subst this
  refine he.sn g0 H0 g H ρ ω σ _ d ω1 ok st sl e1 fun v g1 H1 s1 ok1 r1 => ?_
  refine ho.sn g0 H0 g1 H1 ρ ω1 σ _ _ ω2 ok1 (st.trans s1) (sl.step s1 ok1) e2 fun w g2 H2 s2 ok2 r2 => ?_
  refine hk.sn g0 H0 g2 H2 ρ ω2 σ _ y ω3 ok2 ((st.trans s1).trans s2) ((sl.step s1 ok1).step s2 ok2) e3 fun u g3 H3 s3 ok3 r3 => ?_
  obtain ⟨a, ia, rfl⟩ := (RB.mono r2 s3).ob
  obtain ⟨a', ia', hi⟩ := ok3.st n _ eo
  rw [ia] at ia'; cases ia'
  obtain ⟨q, h1, h2, h3⟩ := putO_rep ok3 hi r3 (RB.mono r1 (s2.trans s3)) eo'
  obtain ⟨s4, ok4⟩ := obSetG ok3 eo ia h2 h3
  refine ⟨a, _, rfl, h1, ?_⟩
  have s14 := ((s1.trans s2).trans s3).trans s4
  exact kk σ g3 _ ⟨ok4, st.trans s14, sl.step s14 ok4, s14.le⟩
/-- x.append(e), x a list of the store -/
def eAppOb (fo fe : DE) : DE := fun ρ ω => match fo ρ ω with
  | none => none
  | some (x, ω1) => match obN x with
    | none => none
    | some n => match ω1.objs[n]? with
      | some (.lst _) => (match fe ρ ω1 with
        | none => none
        | some (d, ω2) => match ω2.objs[n]? with
          | some (.lst xs) => if xs.length < sizeLine then some (.none, ⟨ω2.live, ω2.objs.set n (.lst (xs ++ [d]))⟩) else none
          | _ => none)
      | _ => none
theorem ex_appOb {e o : Expr} {te to : TE} {fe fo : DE} {apos cpos : Pos} (ho : EX X b o to fo) (he : EX X true e te fe)
    (hbase : attributeBase o "append" X.env (eval o X.env) = eval o X.env := by rfl)
    (hfew : ((backTo cpos (starEach [e] X.env)).all (fun x => !x.1) && (backToKw cpos (keywordEach [] X.env)).all (fun x => x.1.isSome)
      && decide ([e].length + ([] : List Keyword).length + (if ([] : List Keyword).isEmpty then 0 else 1) < 30)) = true := by rfl)
    (hline : (apos.endLine == cpos.line) = true := by rfl) (hst : starEach [e] X.env = (false, eval e X.env) :: starEach [] X.env := by rfl) (hplain : (backTo cpos (starEach [] X.env)).any (·.1) = false := by rfl) :
    EX X true (.Call (.Attribute o "append" apos) [e] [] cpos) (tBM X.K "list" rAppend to (tCons te tNil)) (eAppOb fo fe) := by
  refine ⟨pe_bm PySem.F.plainAttrs_list PySem.F.slot_list_append PySem.F.type_list_append mt_append ho.pe (pa_cons he.pe pa_nil hst) hbase hfew hline hst hplain, ?_⟩
  intro g0 H0 g H ρ ω σ Q d ω' ok st sl e k
  unfold eAppOb at e
  split at e
  · cases e
  rename_i x ω1 e1
  split at e
  · cases e
  rename_i n en
  split at e
  · rename_i xs0 ex0
    split at e
    · cases e
    rename_i dd ω2 e2
    split at e
    · rename_i xs ex
      split at e
      · rename_i hz
        cases e
        have := obN_eq en
        subst this
        refine ho.sn g0 H0 g H ρ ω σ _ _ ω1 ok st sl e1 fun v g1 H1 s1 ok1 r1 => ?_
        obtain ⟨a, ia, rfl⟩ := r1.ob
        obtain ⟨a', ia', vs0, ha0, rr0⟩ := ok1.st n _ ex0
        rw [ia] at ia'; cases ia'
        refine ⟨.inl ⟨rfl, vs0, SqL.of ha0⟩, ?_⟩
        refine he.sn g0 H0 g1 H1 ρ ω1 σ _ dd ω2 ok1 (st.trans s1) (sl.step s1 ok1) e2 fun w g2 H2 s2 ok2 r2 => ?_
        obtain ⟨a2, ia2, vs, ha, rr⟩ := ok2.st n _ ex
        rw [s2.ιm _ _ ia] at ia2; cases ia2
        obtain ⟨s3, ok3⟩ := obSet (ys := xs ++ [dd]) (ws := vs ++ [w]) ok2 ex (s2.ιm _ _ ia) (rr.append (.cons r2 .nil))
        exact ⟨a, vs, w, rfl, rfl, ha, by rw [rr.length]; exact hz, k _ g2 _ ((s1.trans s2).trans s3) ok3 .non⟩
      · cases e
    · cases e
  · cases e
/-- len(d), d a dict of the store -/
def eLenD (f : DE) : DE := fun ρ ω => match f ρ ω with
  | none => none
  | some (x, ω1) => match obN x with
    | none => none
    | some n => match ω1.objs[n]? with
      | some (.dct kvs) => some (.int kvs.length, ω1)
      | _ => none
theorem ex_lenD {p : Pos} (hm : X.mg "len" = none) (ha : EX X b ea ta fa) (hg : Gl X "len" := by rfl)
    (he : starEach [ea] X.env = (false, eval ea X.env) :: starEach [] X.env := by rfl) (hpl : (backTo pos (starEach [] X.env)).any (·.1) = false := by rfl) : EX X true (.Call (.Name "len" p) [ea] [] pos) (tCB rLenT (tCons ta tNil)) (eLenD fa) := by
  refine ⟨pe_callB call_len_dT hg hm PySem.boot_len (pa_cons ha.pe pa_nil he) (by decide) (by decide) he hpl, ?_⟩
  intro g0 H0 g H ρ ω σ Q d ω' ok st sl e k
  unfold eLenD at e
  split at e
  · cases e
  rename_i x ω1 e1
  split at e
  · cases e
  rename_i n en
  split at e
  · rename_i kvs ex
    cases e
    have := obN_eq en
    subst this
    refine ha.sn g0 H0 g H ρ ω σ _ _ ω' ok st sl e1 fun v g1 H1 s1 ok1 r1 => ?_
    obtain ⟨a, ia, rfl⟩ := r1.ob
    obtain ⟨a', ia', ws, ha', hn, rr⟩ := ok1.st n _ ex
    rw [ia] at ia'; cases ia'
    have := congrArg List.length hn
    rw [List.length_map, List.length_map] at this
    exact ⟨a, ws, rfl, ha', by rw [this]; exact k _ g1 H1 s1 ok1 .int⟩
  · cases e
end
end Dn
end

section
namespace Dn
open PySem PySem.Spec L2
variable [Tb]
section
variable {X : Cx} {K : PySem.W.Frag} {b b' : Bool}
/-! ## a text is walked -/
def txD (z : Str) : List D := z.cps.toList.map fun c => .str ⟨#[c]⟩
theorem itS_str {g : Gh} {H : Hp} {z : Str} : ItS K (Its z) (txD z) g H where
  stop i hi := by
    unfold txD at hi
    rw [List.length_map, Array.length_toList] at hi
    exact hi
  go i d e := by
    unfold txD at e
    rw [List.getElem?_map, Array.getElem?_toList] at e
    obtain ⟨c, hc, rfl⟩ := Option.map_eq_some_iff.mp e
    have hi : i < z.cps.size := (Array.getElem?_eq_some_iff.mp hc).1
    refine ⟨hi, fun x H2 y => ?_⟩
    obtain ⟨rfl, c', h1, rfl⟩ := y
    rw [hc] at h1; cases h1
    exact ⟨g, .refl _ _, fun _ h => h, by rw [Rep]⟩
def iTx (f : DE) : DA := fun ρ ω => match f ρ ω with
  | some (.str z, ω1) => if z.length ≤ sizeLine then some (txD z, ω1) else none
  | _ => none
theorem sni_str {t : TE} {f : DE} (h : Snd K b' t f) : SndI K b (iStr t) (iTx f) := by
  intro g0 H0 g H ρ ω σ R ds ω' ok st sl e k
  unfold iTx at e
  split at e
  · rename_i z ω1 e1
    split at e
    · rename_i hz
      cases e
      refine h g0 H0 g H ρ ω σ _ _ ω' ok st sl e1 fun v g1 H1 s1 ok1 r1 => ?_
      have hl : (txD z).length ≤ sizeLine := by
        unfold txD
        rw [List.length_map, Array.length_toList]; exact hz
      exact ⟨z, r1.strV, k _ g1 H1 s1 ok1 hl fun g2 H2 l => itS_str⟩
    · cases e
  · cases e
theorem ei_str {tg e : Expr} {t : TE} {f : DE} (h : EX X b' e t f) : EI X b tg e (iStr t) (iTx f) := ⟨pi_str h.pe, sni_str h.sn⟩
/-! ## n *= e -/
theorem mulI_ex : ∃ f : Int → Int → Bool, ∀ i j, f i j = ((decide (-(2 ^ 64) < i) && decide (i < 2 ^ 64)) || (decide (-(2 ^ 64) < j) && decide (j < 2 ^ 64))) := ⟨_, fun _ _ => rfl⟩
noncomputable def mulI : Int → Int → Bool := Classical.choose mulI_ex
theorem mulI_eq (i j : Int) : mulI i j = ((decide (-(2 ^ 64) < i) && decide (i < 2 ^ 64)) || (decide (-(2 ^ 64) < j) && decide (j < 2 ^ 64))) := Classical.choose_spec mulI_ex i j
noncomputable def opMulI : D → D → Option D
  | .int i, .int j => if mulI i j = true then some (.int (i * j)) else none
  | _, _ => none
theorem ops_mulI : OpS K b true (rI CMul fun i j => .int (i * j)) opMulI := ops_int fun x y d e => by
  cases x <;> cases y <;> simp only [opMulI] at e <;> try cases e
  split at e <;> cases e
  rename_i i j hj
  refine ⟨_, _, _, rfl, rfl, fun _ _ => by rw [Rep], fun Q H q => ⟨_, _, rfl, rfl, ?_, q⟩⟩
  rw [mulI_eq] at hj
  simp only [Bool.or_eq_true, Bool.and_eq_true, decide_eq_true_eq] at hj
  exact hj
/-! ## x += e, x a list of one's own, e a list -/
theorem sx_augExt {i : Nat} {x : Str} {e : Expr} {te : TE} {fe : DE} {pos pos' : Pos} (hN : X.N.Nodup) (he : EX X true e te fe) (hi : X.N[i]? = some x := by rfl) (hx : Loc X.env.scope x := by first | exact Or.inl rfl | exact Or.inr rfl) (hf : X.fn x = true ∨ X.env.scope.names.lookup x = some .local := by first | exact .inl rfl | exact .inr rfl | assumption) :
    SX X (.AugAssign (.Name x pos') .Add e pos) (tAug i te rExt2) (sExt i fe) := by
  refine ⟨ps_aug hN hi hx he.pe (fun pins s σ H x y v u Q I rx ry q => iop_ext pins s σ H x y v u Q I rx ry q) hf, ?_⟩
  intro g0 H0 g H ρ ω σ E o ω' ok st sl e k
  unfold sExt at e
  split at e
  · rename_i ds ω1 e1
    split at e
    · rename_i xs hx
      split at e
      · rename_i hz
        cases e
        obtain ⟨oo, h1, p, vs, rfl, hp, hG, hS, h0, z, r⟩ := sl.get hx
        refine ⟨_, h1, ?_⟩
        refine he.sn g0 H0 g H ρ ω σ _ _ ω' ok st sl e1 fun v g1 H1 s1 ok1 r1 => ?_
        have hp1 := s1.fr p _ hp hS
        obtain ⟨a, ws, rfl, hq, zq, lq⟩ := r1.lstV ok1
        have hl : vs.length + ws.length ≤ sizeLine := by rw [r.length, RepL.length lq]; exact hz
        refine ⟨p, a, vs, ws, rfl, rfl, hp1, hq, hl, ?_⟩
        obtain ⟨ok2, st2, sl2⟩ := own_mut (ys := xs ++ ds) (ws := vs ++ ws) ok1 (st.trans s1) (sl.step s1 ok1) hx h1 (by rw [List.length_append]; exact hl) ((r.mono s1.ιm s1.Gm).append lq)
        have hs : σ.set i (some (.ref p)) = σ := by
          have hlt : i < σ.length := (List.getElem?_eq_some_iff.mp h1).1
          refine List.ext_getElem? fun j => ?_
          by_cases hj : i = j
          · subst hj; rw [List.getElem?_set_self hlt]; exact h1.symm
          · rw [List.getElem?_set_ne hj]
        rw [hs]
        exact k σ g1 _ ⟨ok2, st2, sl2, s1.le⟩
      · cases e
    · cases e
  · cases e
end
end Dn
end

section
namespace PySem.AutoSeq1
open PySem PySem.SeqAt Sem
theorem list_extend_list_tupleA (l : Addr) (items : Array Value) (n : Nat) (b : Addr) (items2 : Array Value) (n2 : Nat) (dd : Option Addr) (ss : Array (Option Value)) (hs0 : ¬(!items.isEmpty && Builtin.List.listTooLong (items.size + items2.size)) = true) (hs1 : items.size ≤ sizeLine) (hs2 : items.size + items2.size ≤ sizeLine + 1 := by seq_fits) :
    Meets (Builtin.«list.extend» ⟨[.ref l, .ref b], []⟩) (fun _ R s => s.heap.get? l = some { cls := .type "list", dict := none, data := .seq items n, slots := #[] } ∧ s.heap.get? b = some { cls := .type "tuple", dict := dd, data := .seq items2 n2, slots := ss } ∧ R (.ok (.ret Value.none)) { s with heap := s.heap.update l (Obj.mapSeq fun x => x ++ items2), toks := s.toks }) :=
  .of_wp fun prog w A R s h => by
    obtain ⟨hp, g, d, tk, os⟩ := s; obtain ⟨hl, hb, h⟩ := h; have f1 := idx_int; have f2 := sub_tuple_tuple; have f3 := sub_list_list; have f4 := sub_tuple_list; have f5 := sub_list_tuple;
    have hz' : (items ++ items2).size ≤ sizeLine + 1 := by rw [Array.size_append]; exact hs2
    wp_walk using (wpAny_updateSeq hl rfl (hz := hs1) (_hz' := hz')), wpAny_loadPart' hl, wpAny_loadPart' hb; exact ⟨_, rfl, h⟩
end PySem.AutoSeq1
namespace Dn
open PySem PySem.Spec L2
/-! ## x.extend(e), e a tuple too -/
def rExtA (K : PySem.W.Frag) : V → List V → Hp → VK → Prop := fun x vs H Q => ∃ l b xs zs, x = .ref l ∧ vs = [.ref b] ∧ H l = some (.lst xs) ∧ (H b = some (.lst zs) ∨ SqT K H b zs) ∧ xs.length + zs.length ≤ sizeLine ∧ Q .non (upd H l (.lst (xs ++ zs)))
theorem mt_extA {X : Cx} : MtM X "list.extend" (rExtA X.K) := by
  intro pins s σ H x vs v us Q I rx rv h
  obtain ⟨l, b, xs, zs, rfl, rfl, hH, hB | hB, hz, q⟩ := h
  · exact mt_extend pins s σ H (.ref l) [.ref b] v us Q I rx rv ⟨l, b, xs, zs, rfl, rfl, hH, hB, hz, q⟩
  · cases rx
    obtain ⟨u, rfl, ru⟩ := rv.one
    cases ru
    obtain ⟨z, its, n, r, hl, e⟩ := I.lstM hH
    obtain ⟨its2, r2, ⟨⟨oc, od, oda, os⟩, e2, rfl, n2, rfl⟩, hz2⟩ := I.tuple hB
    have l2 := r2.length
    have hsz : its.toArray.size + its2.toArray.size ≤ sizeLine := by rw [List.size_toArray, List.size_toArray]; omega
    have hlong : ¬ (!its.toArray.isEmpty && Builtin.List.listTooLong (its.toArray.size + its2.toArray.size)) = true := by
      rw [notLongL hsz, Bool.and_false]
      exact Bool.false_ne_true
    refine call_meets PySem.F.slot_list_extend ⟨_, e, rfl⟩ PySem.F.entry_list_extend (PySem.F.args_list_extend_2 _ _)
      (PySem.AutoSeq1.list_extend_list_tupleA l its.toArray n b its2.toArray n2 od os hlong (by rw [List.size_toArray]; omega) (by omega)) ⟨e, e2, ?_⟩
    refine ⟨.non, _, I.lset (its' := its ++ its2) hH e (by simp) (r.append r2) ?_, rfl, q⟩
    rw [List.length_append]
    omega
variable [Tb]
def sExtA (i : Nat) (f : DE) : DS := fun ρ ω => match iSq f ρ ω with
  | some (ds, ω1) => (match ρ[i]? with
    | some (.own xs) => if xs.length + ds.length ≤ sizeLine then some (.nx (ρ.set i (.own (xs ++ ds))), ω1) else none
    | _ => none)
  | _ => none
section
variable {X : Cx} {K : PySem.W.Frag} {b b' : Bool} {pos : Pos}
theorem sx_extA {i : Nat} {x : Str} {e : Expr} {te : TE} {fe : DE} {npos apos cpos : Pos} (he : EX X true e te fe) (hN : X.N[i]? = some x := by rfl) (hv : Vis X.env.scope x := by first | exact Or.inl rfl | exact Or.inr (Or.inl rfl) | exact Or.inr (Or.inr rfl)) (hd : (x == ("__debug__" : Str)) = false := by decide)
    (hcd : (x == ("__classdict__" : Str)) = false := by decide) (hs : swapsWith (.Call (.Attribute (.Name x npos) "extend" apos) [e] [] cpos) none pos.line X.env = pure false := by rfl)
    (hbase : attributeBase (.Name x npos) "extend" X.env (eval (.Name x npos) X.env) = eval (.Name x npos) X.env := by rfl)
    (hfew : ((backTo cpos (starEach [e] X.env)).all (fun x => !x.1) && (backToKw cpos (keywordEach [] X.env)).all (fun x => x.1.isSome)
      && decide ([e].length + ([] : List Keyword).length + (if ([] : List Keyword).isEmpty then 0 else 1) < 30)) = true := by rfl)
    (hline : (apos.endLine == cpos.line) = true := by rfl) (hst : starEach [e] X.env = (false, eval e X.env) :: starEach [] X.env := by rfl) (hplain : (backTo cpos (starEach [] X.env)).any (·.1) = false := by rfl) :
    SX X (.Expr (.Call (.Attribute (.Name x npos) "extend" apos) [e] [] cpos) pos) (tDrop (tBM X.K "list" (rExtA X.K) (tVar i) (tCons te tNil))) (sExtA i fe) := by
  refine ⟨ps_expr (pe_bm PySem.F.plainAttrs_list PySem.F.slot_list_extend PySem.F.type_list_extend mt_extA (pe_var hN hv hd hcd) (pa_cons he.pe pa_nil hst) hbase hfew hline hst hplain) hs, ?_⟩
  intro g0 H0 g H ρ ω σ E o ω' ok st sl e k
  unfold sExtA at e
  split at e
  · rename_i ds ω1 e1
    split at e
    · rename_i xs hx
      split at e
      · rename_i hz
        cases e
        obtain ⟨oo, h1, p, vs, rfl, hp, hG, hS, h0, z, r⟩ := sl.get hx
        refine ⟨_, h1, .inl ⟨rfl, vs, SqL.of hp⟩, ?_⟩
        have fin : ∀ (d : D) (v : V) (g1 : Gh) (H1 : Hp), Step g H g1 H1 → GOk X.K g1 H1 ω' → (∃ a ws, v = .ref a ∧ (H1 a = some (.lst ws) ∨ SqT X.K H1 a ws) ∧ RepL X.K g1.ι g1.G ds ws) → rExtA X.K (.ref p) [v] H1 fun x H => E.nx σ H := fun d v g1 H1 s1 ok1 ⟨a, ws, ev, hq, lq⟩ => by
          subst ev
          have hp1 := s1.fr p _ hp hS
          have hl : vs.length + ws.length ≤ sizeLine := by rw [r.length, lq.length]; exact hz
          refine ⟨p, a, vs, ws, rfl, rfl, hp1, hq, hl, ?_⟩
          obtain ⟨ok2, st2, sl2⟩ := own_mut (ys := xs ++ ds) (ws := vs ++ ws) ok1 (st.trans s1) (sl.step s1 ok1) hx h1 (by rw [List.length_append]; exact hl) ((r.mono s1.ιm s1.Gm).append lq)
          exact k σ g1 _ ⟨ok2, st2, sl2, s1.le⟩
        unfold iSq at e1
        split at e1
        · rename_i ds1 ω2 e2
          cases e1
          refine he.sn g0 H0 g H ρ ω σ _ _ ω' ok st sl e2 fun v g1 H1 s1 ok1 r1 => ?_
          have q : Rep X.K g1.ι g1.G (.list ds) v := r1
          rw [Rep] at q
          obtain ⟨a, ws, rfl, hq, zq, lq⟩ := q
          exact fin (.list ds) _ g1 H1 s1 ok1 ⟨a, ws, rfl, .inl (ok1.sub _ _ hq), lq⟩
        · rename_i ds1 ω2 e2
          cases e1
          refine he.sn g0 H0 g H ρ ω σ _ _ ω' ok st sl e2 fun v g1 H1 s1 ok1 r1 => ?_
          have q : Rep X.K g1.ι g1.G (.tuple ds) v := r1
          rw [Rep] at q
          obtain ⟨a, ws, rfl, hq, zq, lq⟩ := q
          exact fin (.tuple ds) _ g1 H1 s1 ok1 ⟨a, ws, rfl, .inr (SqT.of (ok1.sub _ _ hq)), lq⟩
        · cases e1
      · cases e
    · cases e
  · cases e
/-! ## a list of one's own, by a test -/
def aIfN (c : DT) (f g : DA) : DA := fun ρ ω => match c ρ ω with
  | none => none
  | some (c, ω1) => if c = true then f ρ ω1 else g ρ ω1
theorem en_if {ec ea eb : Expr} {tc : TT} {ta tb : TE} {fc : DT} {fa fb : DA} (hc : ET X ec tc fc) (ha : EN X ea ta fa) (hb : EN X eb tb fb) : EN X (.IfExp ec ea eb pos) (tIf tc ta tb) (aIfN fc fa fb) := by
  refine ⟨pe_ifExp hc.pe ha.pe hb.pe, ?_⟩
  intro g0 H0 g H ρ ω σ Q d ω' ok st sl e k
  unfold aIfN at e
  split at e
  · cases e
  rename_i c ω1 e1
  refine hc.sn g0 H0 g H ρ ω σ _ c ω1 ok st sl e1 fun g1 H1 s1 ok1 => ?_
  cases c with
  | true => exact iteT (ha.sn g0 H0 g1 H1 ρ ω1 σ _ d ω' ok1 (st.trans s1) (sl.step s1 ok1) e fun p vs g2 H2 s2 ok2 h1 h2 h3 h4 h5 h6 => k p vs g2 H2 (s1.trans s2) ok2 (s1.al p h1) h2 h3 h4 h5 h6)
  | false => exact iteF (hb.sn g0 H0 g1 H1 ρ ω1 σ _ d ω' ok1 (st.trans s1) (sl.step s1 ok1) e fun p vs g2 H2 s2 ok2 h1 h2 h3 h4 h5 h6 => k p vs g2 H2 (s1.trans s2) ok2 (s1.al p h1) h2 h3 h4 h5 h6)
/-! ## a, b = x.pop(), x a list of one's own -/
def sPopG (i : Nat) (g : DG) : DS := fun ρ ω => match ρ[i]? with
  | some (.own xs) => (match xs[xs.length - 1]? with
    | some d => (match g d (ρ.set i (.own xs.dropLast)) with
      | some ρ1 => some (.nx ρ1, ω)
      | none => none)
    | none => none)
  | _ => none
theorem sx_popG {i : Nat} {x : Str} {tg : Expr} {npos apos cpos : Pos} {g : TG} {js : List Nat} {fg : DG} (hg : EG X tg g js fg) (hN : X.N[i]? = some x := by rfl) (hv : Vis X.env.scope x := by first | exact Or.inl rfl | exact Or.inr (Or.inl rfl) | exact Or.inr (Or.inr rfl)) (hd : (x == ("__debug__" : Str)) = false := by decide)
    (hcd : (x == ("__classdict__" : Str)) = false := by decide)
    (hbase : attributeBase (.Name x npos) "pop" X.env (eval (.Name x npos) X.env) = eval (.Name x npos) X.env := by rfl) (hline : (apos.endLine == cpos.line) = true := by rfl)
    (hs : swapsWithSole [tg] (.Call (.Attribute (.Name x npos) "pop" apos) [] [] cpos) pos.line X.env = pure false := by rfl) (hw : swappedStores [tg] (.Call (.Attribute (.Name x npos) "pop" apos) [] [] cpos) X.env = pure none := by rfl)
    (h1 : (assignEach [tg] X.env).map (·.2) = [assign tg X.env] := by rfl) :
    SX X (.Assign [tg] (.Call (.Attribute (.Name x npos) "pop" apos) [] [] cpos) pos) (tAsg (tBM0 X.K "list" rPop (tVar i)) g) (sPopG i fg) := by
  refine ⟨ps_asg (pe_bm0 PySem.F.plainAttrs_list PySem.F.slot_list_pop PySem.F.type_list_pop mt_pop (pe_var hN hv hd hcd) hbase hline) hg.pe hs hw h1, ?_⟩
  intro g0 H0 g' H ρ ω σ E o ω' ok st sl e k
  unfold sPopG at e
  split at e
  · rename_i xs hx
    split at e
    · rename_i d ed
      split at e
      · rename_i ρ1 e1
        cases e
        obtain ⟨oo, h1, p, vs, rfl, hp, hG, hS, h0, z, r⟩ := sl.get hx
        obtain ⟨v, hv1, rv⟩ := r.get ed
        refine ⟨_, h1, .inl ⟨rfl, vs, SqL.of hp⟩, p, vs, v, rfl, rfl, hp, by rw [r.length]; exact hv1, ?_⟩
        obtain ⟨ok2, st2, sl2⟩ := own_mut (ys := xs.dropLast) (ws := vs.dropLast) ok st sl hx h1 (by rw [List.length_dropLast]; omega) r.dropLast
        exact hg.sn H0 g' _ _ _ d v ρ1 _ ok2.sub sl2 rv e1 fun σ' sl3 _ _ => k σ' g' _ ⟨ok2, st2, sl3, .refl _⟩
      · cases e
    · cases e
  · cases e
end
/-! ## a << b -/
def opShl : D → D → Option D
  | .int i, .int j => if 0 ≤ j ∧ j ≤ 1000000 ∧ i.natAbs < 2 ^ 64 then some (.int (i * 2 ^ j.toNat)) else none
  | _, _ => none
theorem ops_shl {K : PySem.W.Frag} {b : Bool} : OpS K b true (rI CPow fun i j => .int (i * 2 ^ j.toNat)) opShl := ops_int fun x y d e => by
  cases x <;> cases y <;> simp only [opShl] at e <;> try cases e
  split at e <;> cases e
  rename_i hj
  exact ⟨_, _, _, rfl, rfl, fun _ _ => by rw [Rep], fun Q H q => ⟨_, _, rfl, rfl, hj, q⟩⟩
end Dn
end

section
namespace Dn
open PySem PySem.Spec L2
variable [Tb]
/-! ## the rules for objects, K told apart -/
section
variable {X : Cx} {K : PySem.W.Frag} {b b' : Bool} {t ta tb : TE} {f fa fb : DE} {e ea eb : Expr} {pos : Pos}
theorem ex_fldK {c n : Str} (he : EX X b e t f) (cl : Cls K (Tb.C c)) (na : NoAttr K (Tb.C c) n) (hb : attributeBase e n X.env (eval e X.env) = eval e X.env := by rfl) (hK : X.K = K := by rfl) : EX X true (.Attribute e n pos) (tFld K t n) (eFld c n f) := by subst hK; exact ex_fld he cl na hb
section
variable {n k : Nat} {f : Addr} {fd : FuncData} {ps : List Str} {fn : List D → Wd → Option (D × Wd)} {c m x : Str} {p apos : Pos} {es : List Expr} {o : Expr} {to : TE} {fo : DE} {ta : TA} {fa : DA} {pl : Sem Bool}
theorem ex_methK (ho : EX X true o to fo) (cl : Cls K (Tb.C c)) (hm : Meth K (Tb.C c) m f) (F : FnOk X.prog X.w K X.mg X.base CX0 k f fd ps (spD K (n + 1) fn)) (hr : Room k X.A) (hb : Binds K fd ps []) (ha : EA X true (e :: es) ta fa) (l : LenA n fa)
    (hst : starEach (e :: es) X.env = (false, eval e X.env) :: starEach es X.env := by rfl) (hpl : (backTo pos (starEach es X.env)).any (·.1) = false := by rfl)
    (ht : eval (.Call (.Attribute o m apos) (e :: es) [] pos) X.env = (do
      let ov ← eval o X.env
      standAt apos.atName
      let (f, first) ← holding [ov] (getMethod ov m pl)
      callWith pos f first (backTo pos (starEach (e :: es) X.env)) (backToKw pos (keywordEach [] X.env))) := by rfl) (hK : X.K = K := by rfl) :
    EX X true (.Call (.Attribute o m apos) (e :: es) [] pos) (tMeth (Tb.C c) m (spD K (n + 1) fn) [] E0 to ta) (eMethD c m fo fn fa) := by subst hK; exact ex_meth (pl := pl) ho cl hm F hr hb ha l hst hpl ht
theorem ex_meth0K (ho : EX X true o to fo) (cl : Cls K (Tb.C c)) (hm : Meth K (Tb.C c) m f) (F : FnOk X.prog X.w K X.mg X.base CX0 k f fd ps (spD K 1 fn)) (hr : Room k X.A) (hb : Binds K fd ps [])
    (ht : eval (.Call (.Attribute o m apos) [] [] pos) X.env = (do
      let ov ← eval o X.env
      standAt apos.atName
      let (f, first) ← holding [ov] (getMethod ov m pl)
      callWith pos f first (backTo pos (starEach [] X.env)) (backToKw pos (keywordEach [] X.env))) := by rfl) (hK : X.K = K := by rfl) :
    EX X true (.Call (.Attribute o m apos) [] [] pos) (tMeth (Tb.C c) m (spD K 1 fn) [] E0 to tNil) (eMethD c m fo fn aNil) := by subst hK; exact ex_meth0 (pl := pl) ho cl hm F hr hb ht
theorem ex_makeK (M : Mk K (Tb.C c) f) (F : FnOk X.prog X.w K X.mg X.base CX0 k f fd ps (spD K (n + 1) fn)) (hr : Room (k + 1) X.A) (hm : X.mg x = some (.ref (Tb.C c))) (hb : Binds K fd ps []) (ha : EA X true (e :: es) ta fa) (l : LenA n fa) (hg : Gl X x := by rfl) (hdb : (x == ("__debug__" : Str)) = false := by decide)
    (he : starEach (e :: es) X.env = (false, eval e X.env) :: starEach es X.env := by rfl) (hpl : (backTo pos (starEach es X.env)).any (·.1) = false := by rfl) (hK : X.K = K := by rfl) : EX X true (.Call (.Name x p) (e :: es) [] pos) (tMake (Tb.C c) (spD K (n + 1) fn) [] E0 ta) (eMakeD c fn fa) := by
  subst hK; exact ex_make M F hr hm hb ha l hg hdb he hpl
theorem ex_make0K (M : Mk K (Tb.C c) f) (F : FnOk X.prog X.w K X.mg X.base CX0 k f fd ps (spD K 1 fn)) (hr : Room (k + 1) X.A) (hm : X.mg x = some (.ref (Tb.C c))) (hb : Binds K fd ps []) (hg : Gl X x := by rfl) (hdb : (x == ("__debug__" : Str)) = false := by decide) (hK : X.K = K := by rfl) :
    EX X true (.Call (.Name x p) [] [] pos) (tMake (Tb.C c) (spD K 1 fn) [] E0 tNil) (eMakeD c fn aNil) := by
  subst hK; exact ex_make0 M F hr hm hb hg hdb
end
theorem ex_appObK {e o : Expr} {te to : TE} {fe fo : DE} {apos cpos : Pos} (ho : EX X b o to fo) (he : EX X true e te fe)
    (hbase : attributeBase o "append" X.env (eval o X.env) = eval o X.env := by rfl)
    (hfew : ((backTo cpos (starEach [e] X.env)).all (fun x => !x.1) && (backToKw cpos (keywordEach [] X.env)).all (fun x => x.1.isSome)
      && decide ([e].length + ([] : List Keyword).length + (if ([] : List Keyword).isEmpty then 0 else 1) < 30)) = true := by rfl)
    (hline : (apos.endLine == cpos.line) = true := by rfl) (hst : starEach [e] X.env = (false, eval e X.env) :: starEach [] X.env := by rfl) (hplain : (backTo cpos (starEach [] X.env)).any (·.1) = false := by rfl) (hK : X.K = K := by rfl) :
    EX X true (.Call (.Attribute o "append" apos) [e] [] cpos) (tBM K "list" rAppend to (tCons te tNil)) (eAppOb fo fe) := by subst hK; exact ex_appOb ho he hbase hfew hline hst hplain
end
end Dn
end

section
namespace Dn
open PySem PySem.Spec L2
variable [Tb]
/-! ## x = y, y a list of one's own, that is settled then and no longer one's own -/
section
variable {X : Cx} {K : PySem.W.Frag} {pos : Pos}
def sMove (i j : Nat) : DS := fun ρ ω => match ρ[j]? with
  | some (.own xs) => some (.nx ((ρ.set j .un).set i (.val (.list xs))), ω)
  | _ => none
@[simp] theorem sMove_ap (i j : Nat) (ρ : Ro) (ω : Wd) : sMove i j ρ ω = (match ρ[j]? with
  | some (.own xs) => some (.nx ((ρ.set j .un).set i (.val (.list xs))), ω)
  | _ => none) := rfl
theorem Slots.drop {g : Gh} {H0 H : Hp} {ω : Wd} {ρ : Ro} {σ : L2.St} {j : Nat} {xs : List D} {p : Addr} {vs : List V} (sl : Slots K H0 g H ρ σ) (hx : ρ[j]? = some (.own xs)) (h1 : σ[j]? = some (some (.ref p))) (le : GLe g (g.add p (.lst vs))) : Slots K H0 (g.add p (.lst vs)) H (ρ.set j .un) σ := by
  refine ⟨by rw [List.length_set]; exact sl.len, fun k s o e1 e2 => ?_, fun k l xs' ys' q e1 e2 e3 e4 => ?_⟩
  · by_cases hk : j = k
    · subst hk
      rw [List.getElem?_set] at e1
      simp only [if_true] at e1
      split at e1
      · cases e1; trivial
      · cases e1
    · rw [List.getElem?_set_ne hk] at e1
      have q := sl.at_ k s o e1 e2
      cases s with
      | un => trivial
      | val d =>
        obtain ⟨v, ho, r⟩ := q
        exact ⟨v, ho, r.mono le.ιm le.Gm⟩
      | own zs =>
        obtain ⟨a, ws, ho, ha, hG, hS, h0, z, r⟩ := q
        refine ⟨a, ws, ho, ha, ?_, hS, h0, z, r.mono le.ιm le.Gm⟩
        have hne : a ≠ p := fun e => by
          subst e
          subst ho
          exact hk (sl.ap j k _ _ a hx e1 h1 e2)
        show upd g.G p _ a = none
        rw [upd_ne hne]; exact hG
  · have hk : j ≠ k := fun z => by
      subst z
      rw [List.getElem?_set] at e1
      simp only [if_true] at e1
      split at e1 <;> cases e1
    have hl : j ≠ l := fun z => by
      subst z
      rw [List.getElem?_set] at e2
      simp only [if_true] at e2
      split at e2 <;> cases e2
    rw [List.getElem?_set_ne hk] at e1
    rw [List.getElem?_set_ne hl] at e2
    exact sl.ap k l xs' ys' q e1 e2 e3 e4
theorem sn_move {i j : Nat} : SndS K (tAsg (tVar j) (gName i)) (sMove i j) := by
  intro g0 H0 g H ρ ω σ E o ω' ok st sl e k
  unfold sMove at e
  split at e
  · rename_i xs hx
    cases e
    obtain ⟨oo, h1, p, vs, rfl, hp, hG, hS, h0, z, r⟩ := sl.get hx
    obtain ⟨ok2, le⟩ := settle ok hp hG hS
    refine ⟨_, h1, ?_⟩
    refine k _ _ H ⟨ok2, settleStep st hG h0, ?_, le⟩
    refine (sl.drop (ω := ω) hx h1 le).set i ⟨.ref p, rfl, ?_⟩ (fun xs z => nomatch z)
    rw [Rep]
    exact ⟨p, vs, rfl, upd_same, z, r.mono le.ιm le.Gm⟩
  · cases e
theorem sx_move {i j : Nat} {x y : Str} {ypos pos' : Pos} (hN : X.N.Nodup) (hj : X.N[j]? = some y := by rfl) (hv : Vis X.env.scope y := by first | exact Or.inl rfl | exact Or.inr (Or.inl rfl) | exact Or.inr (Or.inr rfl)) (hd : (y == ("__debug__" : Str)) = false := by decide)
    (hcd : (y == ("__classdict__" : Str)) = false := by decide) (hi : X.N[i]? = some x := by rfl) (hx : Loc X.env.scope x := by first | exact Or.inl rfl | exact Or.inr rfl) (hs : swapsWith (.Name y ypos) (some (.Name x pos')) pos.line X.env = pure false := by rfl) (hf : X.fn x = true ∨ X.env.scope.names.lookup x = some .local := by first | exact .inl rfl | exact .inr rfl | assumption) :
    SX X (.Assign [.Name x pos'] (.Name y ypos) pos) (tAsg (tVar j) (gName i)) (sMove i j) := ⟨ps_set hN hi hx (pe_var hj hv hd hcd) hs hf, sn_move⟩
end
end Dn
end

section
namespace Dn
open PySem PySem.Spec L2
local instance : Tb := noTb
/-! ## the combinators, applied -/
@[simp] theorem eVar_ap (i : Nat) (ρ : Ro) (ω : Wd) : eVar i ρ ω = (match ρ[i]? with
  | some (.val d) => some (d, ω)
  | _ => none) := rfl
@[simp] theorem eVarB_ap (i : Nat) (ρ : Ro) (ω : Wd) : eVarB i ρ ω = (match ρ[i]? with
  | some (.own xs) => some (.list xs, ω)
  | _ => none) := rfl
@[simp] theorem eC_ap (d : D) (ρ : Ro) (ω : Wd) : eC d ρ ω = (some (d, ω)) := rfl
@[simp] theorem eBin_ap (op : D → D → Option D) (f g : DE) (ρ : Ro) (ω : Wd) : eBin op f g ρ ω = (match f ρ ω with
  | none => none
  | some (x, ω1) => match g ρ ω1 with
    | none => none
    | some (y, ω2) => match op x y with
      | none => none
      | some z => some (z, ω2)) := rfl
@[simp] theorem tOfE_ap (f : DE) (ρ : Ro) (ω : Wd) : tOfE f ρ ω = (match f ρ ω with
  | some (.bool c, ω1) => some (c, ω1)
  | _ => none) := rfl
@[simp] theorem eChain_ap (op op' : D → D → Option D) (f g h : DE) (ρ : Ro) (ω : Wd) : eChain op op' f g h ρ ω = (match f ρ ω with
  | none => none
  | some (x, ω1) => match g ρ ω1 with
    | none => none
    | some (y, ω2) => match op x y with
      | some (.bool true) => (match h ρ ω2 with
        | none => none
        | some (z, ω3) => match op' y z with
          | some (.bool c) => some (.bool c, ω3)
          | _ => none)
      | some (.bool false) => some (.bool false, ω2)
      | _ => none) := rfl
@[simp] theorem eUn_ap (op : D → Option D) (f : DE) (ρ : Ro) (ω : Wd) : eUn op f ρ ω = (match f ρ ω with
  | none => none
  | some (x, ω1) => match op x with
    | none => none
    | some z => some (z, ω1)) := rfl
@[simp] theorem tAndD_ap (f g : DT) (ρ : Ro) (ω : Wd) : tAndD f g ρ ω = (match f ρ ω with
  | none => none
  | some (c, ω1) => if c = true then g ρ ω1 else some (false, ω1)) := rfl
@[simp] theorem tOrD_ap (f g : DT) (ρ : Ro) (ω : Wd) : tOrD f g ρ ω = (match f ρ ω with
  | none => none
  | some (c, ω1) => if c = true then some (true, ω1) else g ρ ω1) := rfl
@[simp] theorem tNotD_ap (f : DT) (ρ : Ro) (ω : Wd) : tNotD f ρ ω = (match f ρ ω with
  | none => none
  | some (c, ω1) => some (!c, ω1)) := rfl
@[simp] theorem eIf_ap (c : DT) (f g : DE) (ρ : Ro) (ω : Wd) : eIf c f g ρ ω = (match c ρ ω with
  | none => none
  | some (c, ω1) => if c = true then f ρ ω1 else g ρ ω1) := rfl
@[simp] theorem eAnd_ap (f g : DE) (ρ : Ro) (ω : Wd) : eAnd f g ρ ω = (match f ρ ω with
  | some (.bool c, ω1) => if c = true then g ρ ω1 else some (.bool false, ω1)
  | _ => none) := rfl
@[simp] theorem eOr_ap (f g : DE) (ρ : Ro) (ω : Wd) : eOr f g ρ ω = (match f ρ ω with
  | some (.bool c, ω1) => if c = true then some (.bool true, ω1) else g ρ ω1
  | _ => none) := rfl
@[simp] theorem eNot_ap (f : DE) (ρ : Ro) (ω : Wd) : eNot f ρ ω = (match f ρ ω with
  | some (.bool c, ω1) => some (.bool (!c), ω1)
  | _ => none) := rfl
@[simp] theorem aNil_ap  (ρ : Ro) (ω : Wd) : aNil  ρ ω = (some ([], ω)) := rfl
@[simp] theorem aCons_ap (f : DE) (g : DA) (ρ : Ro) (ω : Wd) : aCons f g ρ ω = (match f ρ ω with
  | none => none
  | some (x, ω1) => match g ρ ω1 with
    | none => none
    | some (xs, ω2) => some (x :: xs, ω2)) := rfl
@[simp] theorem eTup_ap (a : DA) (ρ : Ro) (ω : Wd) : eTup a ρ ω = (match a ρ ω with
  | none => none
  | some (ds, ω1) => some (.tuple ds, ω1)) := rfl
@[simp] theorem eLst_ap (a : DA) (ρ : Ro) (ω : Wd) : eLst a ρ ω = (match a ρ ω with
  | none => none
  | some (ds, ω1) => some (.list ds, ω1)) := rfl
@[simp] theorem eDown_ap (f : DE) (ρ : Ro) (ω : Wd) : eDown f ρ ω = (match f ρ ω with
  | none => none
  | some (d, ω1) => if noL d = true then some (d, ω1) else none) := rfl
@[simp] theorem eIxOwn_ap (i : Nat) (f : DE) (ρ : Ro) (ω : Wd) : eIxOwn i f ρ ω = (match ρ[i]? with
  | some (.own xs) => (match f ρ ω with
    | some (.int j, ω1) => (match atI xs j with
      | some d => some (d, ω1)
      | none => none)
    | _ => none)
  | _ => none) := rfl
@[simp] theorem iLst_ap (f : DE) (ρ : Ro) (ω : Wd) : iLst f ρ ω = (match f ρ ω with
  | some (.list ds, ω1) => some (ds, ω1)
  | _ => none) := rfl
@[simp] theorem iTpl_ap (f : DE) (ρ : Ro) (ω : Wd) : iTpl f ρ ω = (match f ρ ω with
  | some (.tuple ds, ω1) => some (ds, ω1)
  | _ => none) := rfl
@[simp] theorem iOwn_ap (i : Nat) (ρ : Ro) (ω : Wd) : iOwn i ρ ω = (match ρ[i]? with
  | some (.own xs) => some (xs, ω)
  | _ => none) := rfl
@[simp] theorem iRange_ap (a : DA) (ρ : Ro) (ω : Wd) : iRange a ρ ω = (match a ρ ω with
  | some ([.int j], ω1) => if rgOk 0 j = true then some (rgD 0 j, ω1) else none
  | some ([.int i, .int j], ω1) => if rgOk i j = true then some (rgD i j, ω1) else none
  | _ => none) := rfl
@[simp] theorem gSet_ap (i : Nat) (d : D) (ρ : Ro) : gSet i d ρ = (some (ρ.set i (.val d))) := rfl
@[simp] theorem gTupD_ap (h : List D → Ro → Option Ro) (d : D) (ρ : Ro) : gTupD h d ρ = (match d with
  | .tuple ds => h ds ρ
  | _ => none) := rfl
@[simp] theorem eLcN_ap (fi : DA) (fg : DG) (ft : DT) (fe : DE) (vs : List Nat) (ρ : Ro) (ω : Wd) : eLcN fi fg ft fe vs ρ ω = (match fi ρ ω with
  | none => none
  | some (ds, ω1) => lcD fg ft fe (wipeR ρ vs) ds ω1) := rfl
@[simp] theorem eOfN_ap (f : DA) (ρ : Ro) (ω : Wd) : eOfN f ρ ω = (match f ρ ω with
  | none => none
  | some (ds, ω1) => some (.list ds, ω1)) := rfl
@[simp] theorem tYesD_ap  (ρ : Ro) (ω : Wd) : tYesD  ρ ω = (some (true, ω)) := rfl
@[simp] theorem eCall_ap (op : List D → Option D) (a : DA) (ρ : Ro) (ω : Wd) : eCall op a ρ ω = (match a ρ ω with
  | none => none
  | some (ds, ω1) => match op ds with
    | none => none
    | some d => some (d, ω1)) := rfl
@[simp] theorem aList_ap (f : DA) (ρ : Ro) (ω : Wd) : aList f ρ ω = (match f ρ ω with
  | some ([.list xs], ω1) => some (xs, ω1)
  | some ([.tuple xs], ω1) => some (xs, ω1)
  | _ => none) := rfl
@[simp] theorem eFun_ap (f : List D → Wd → Option (D × Wd)) (a : DA) (ρ : Ro) (ω : Wd) : eFun f a ρ ω = (match a ρ ω with
  | none => none
  | some (ds, ω1) => f ds ω1) := rfl
@[simp] theorem eFunP_ap (f : List D → Wd → Option (D × Wd)) (a : DA) (ρ : Ro) (ω : Wd) : eFunP f a ρ ω = (match a ρ ω with
  | none => none
  | some (ds, ω1) => match f ds ⟨false, []⟩ with
    | none => none
    | some (d, _) => some (d, ω1)) := rfl
@[simp] theorem oNone_ap  (ρ : Ro) (ω : Wd) : oNone  ρ ω = (some (none, ω)) := rfl
@[simp] theorem oSome_ap (f : DE) (ρ : Ro) (ω : Wd) : oSome f ρ ω = (match f ρ ω with
  | some (.int i, ω1) => some (some i, ω1)
  | _ => none) := rfl
@[simp] theorem eSl_ap (op : D → Option Int → Option Int → Option D) (f : DE) (l h : DO) (ρ : Ro) (ω : Wd) : eSl op f l h ρ ω = (match f ρ ω with
  | none => none
  | some (x, ω1) => match l ρ ω1 with
    | none => none
    | some (lo, ω2) => match h ρ ω2 with
      | none => none
      | some (hi, ω3) => match op x lo hi with
        | none => none
        | some d => some (d, ω3)) := rfl
@[simp] theorem eIxOb_ap (f h : DE) (ρ : Ro) (ω : Wd) : eIxOb f h ρ ω = (match f ρ ω with
  | none => none
  | some (x, ω1) => match obN x with
    | none => none
    | some n => match h ρ ω1 with
      | some (.int i, ω2) => (match ω2.objs[n]? with
        | some (.lst xs) => (match atI xs i with
          | some d => some (d, ω2)
          | none => none)
        | _ => none)
      | _ => none) := rfl
@[simp] theorem eLenOb_ap (f : DE) (ρ : Ro) (ω : Wd) : eLenOb f ρ ω = (match f ρ ω with
  | none => none
  | some (x, ω1) => match obN x with
    | none => none
    | some n => match ω1.objs[n]? with
      | some (.lst xs) => some (.int xs.length, ω1)
      | _ => none) := rfl
@[simp] theorem ePopOb_ap (f : DE) (i : Int) (ρ : Ro) (ω : Wd) : ePopOb f i ρ ω = (match f ρ ω with
  | none => none
  | some (x, ω1) => match obN x with
    | none => none
    | some n => match ω1.objs[n]? with
      | some (.lst xs) => (match xs[i.toNat]? with
        | some d => if 0 ≤ i ∧ i < 2 ^ 63 then some (d, ⟨ω1.live, ω1.objs.set n (.lst (xs.eraseIdx i.toNat))⟩) else none
        | none => none)
      | _ => none) := rfl
@[simp] theorem sNext_ap  (ρ : Ro) (ω : Wd) : sNext  ρ ω = (some (.nx ρ, ω)) := rfl
@[simp] theorem sSeq_ap (f h : DS) (ρ : Ro) (ω : Wd) : sSeq f h ρ ω = (match f ρ ω with
  | some (.nx ρ1, ω1) => h ρ1 ω1
  | r => r) := rfl
@[simp] theorem sBreak_ap  (ρ : Ro) (ω : Wd) : sBreak  ρ ω = (some (.bk ρ, ω)) := rfl
@[simp] theorem sCont_ap  (ρ : Ro) (ω : Wd) : sCont  ρ ω = (some (.ct ρ, ω)) := rfl
@[simp] theorem sDrop_ap (f : DE) (ρ : Ro) (ω : Wd) : sDrop f ρ ω = (match f ρ ω with
  | none => none
  | some (_, ω1) => some (.nx ρ, ω1)) := rfl
@[simp] theorem sRet_ap (f : DE) (ρ : Ro) (ω : Wd) : sRet f ρ ω = (match f ρ ω with
  | none => none
  | some (d, ω1) => some (.rt d, ω1)) := rfl
@[simp] theorem sRetN_ap  (ρ : Ro) (ω : Wd) : sRetN  ρ ω = (some (.rt .none, ω)) := rfl
@[simp] theorem sIf_ap (c : DT) (f h : DS) (ρ : Ro) (ω : Wd) : sIf c f h ρ ω = (match c ρ ω with
  | none => none
  | some (c, ω1) => if c = true then f ρ ω1 else h ρ ω1) := rfl
@[simp] theorem sAsg_ap (f : DE) (t : DG) (ρ : Ro) (ω : Wd) : sAsg f t ρ ω = (match f ρ ω with
  | none => none
  | some (d, ω1) => match t d ρ with
    | none => none
    | some ρ1 => some (.nx ρ1, ω1)) := rfl
@[simp] theorem sSet_ap (i : Nat) (f : DE) (ρ : Ro) (ω : Wd) : sSet i f ρ ω = (match f ρ ω with
  | none => none
  | some (d, ω1) => some (.nx (ρ.set i (.val d)), ω1)) := rfl
@[simp] theorem sOwn_ap (i : Nat) (f : DA) (ρ : Ro) (ω : Wd) : sOwn i f ρ ω = (match f ρ ω with
  | none => none
  | some (ds, ω1) => some (.nx (ρ.set i (.own ds)), ω1)) := rfl
@[simp] theorem sPar_ap (i j : Nat) (f : DA) (ρ : Ro) (ω : Wd) : sPar i j f ρ ω = (match f ρ ω with
  | some ([x, y], ω1) => some (.nx ((ρ.set i (.val x)).set j (.val y)), ω1)
  | _ => none) := rfl
@[simp] theorem sAug_ap (i : Nat) (op : D → D → Option D) (f : DE) (ρ : Ro) (ω : Wd) : sAug i op f ρ ω = (match ρ[i]? with
  | some (.val x) => (match f ρ ω with
    | none => none
    | some (y, ω1) => match op x y with
      | none => none
      | some z => some (.nx (ρ.set i (.val z)), ω1))
  | _ => none) := rfl
@[simp] theorem sApp_ap (i : Nat) (f : DE) (ρ : Ro) (ω : Wd) : sApp i f ρ ω = (match f ρ ω with
  | none => none
  | some (d, ω1) => match ρ[i]? with
    | some (.own xs) => if xs.length < sizeLine then some (.nx (ρ.set i (.own (xs ++ [d]))), ω1) else none
    | _ => none) := rfl
@[simp] theorem sExt_ap (i : Nat) (f : DE) (ρ : Ro) (ω : Wd) : sExt i f ρ ω = (match f ρ ω with
  | some (.list ds, ω1) => (match ρ[i]? with
    | some (.own xs) => if xs.length + ds.length ≤ sizeLine then some (.nx (ρ.set i (.own (xs ++ ds))), ω1) else none
    | _ => none)
  | _ => none) := rfl
@[simp] theorem sPop_ap (i : Nat) (j : Option Nat) (ρ : Ro) (ω : Wd) : sPop i j ρ ω = (match ρ[i]? with
  | some (.own xs) => (match xs[xs.length - 1]? with
    | some d => some (.nx (match j with
      | none => ρ.set i (.own xs.dropLast)
      | some j => (ρ.set i (.own xs.dropLast)).set j (.val d)), ω)
    | none => none)
  | _ => none) := rfl
@[simp] theorem sSetIx_ap (i : Nat) (fk fe : DE) (ρ : Ro) (ω : Wd) : sSetIx i fk fe ρ ω = (match fe ρ ω with
  | none => none
  | some (d, ω1) => match fk ρ ω1 with
    | some (.int k, ω2) => (match ρ[i]? with
      | some (.own xs) => (match ixN xs.length k with
        | some j => some (.nx (ρ.set i (.own (xs.set j d))), ω2)
        | none => none)
      | _ => none)
    | _ => none) := rfl
@[simp] theorem sSetOb_ap (fo fk fe : DE) (ρ : Ro) (ω : Wd) : sSetOb fo fk fe ρ ω = (match fe ρ ω with
  | none => none
  | some (d, ω1) => match fo ρ ω1 with
    | none => none
    | some (x, ω2) => match obN x with
      | none => none
      | some n => match fk ρ ω2 with
        | some (.int k, ω3) => (match ω3.objs[n]? with
          | some (.lst xs) => (match ixN xs.length k with
            | some j => some (.nx ρ, ⟨ω3.live, ω3.objs.set n (.lst (xs.set j d))⟩)
            | none => none)
          | _ => none)
        | _ => none) := rfl
@[simp] theorem sFrz_ap (i : Nat) (f : DS) (ρ : Ro) (ω : Wd) : sFrz i f ρ ω = (match ρ[i]? with
  | some (.own xs) => f (ρ.set i (.val (.list xs))) ω
  | _ => none) := rfl
@[simp] theorem sFor_ap (fi : DA) (g : DG) (f : DS) (ρ : Ro) (ω : Wd) : sFor fi g f ρ ω = (match fi ρ ω with
  | none => none
  | some (ds, ω1) => loopD g f ds ρ ω1) := rfl
@[simp] theorem sWhile_ap (c : DT) (f : DS) (ρ : Ro) (ω : Wd) : sWhile c f ρ ω = (whileD c f FUEL ρ ω) := rfl
@[simp] theorem iSq_ap (f : DE) (ρ : Ro) (ω : Wd) : iSq f ρ ω = (match f ρ ω with
  | some (.list ds, ω1) => some (ds, ω1)
  | some (.tuple ds, ω1) => some (ds, ω1)
  | _ => none) := rfl
@[simp] theorem iRange3_ap (a : DA) (ρ : Ro) (ω : Wd) : iRange3 a ρ ω = (match a ρ ω with
  | some ([.int i, .int j, .int c], ω1) => if rg3Ok i j c = true then some (rg3D i c (rg3N i j c), ω1) else none
  | _ => none) := rfl
@[simp] theorem eLc2N_ap (fi : DA) (fg : DG) (ft : DT) (fi1 : DA) (fg1 : DG) (ft1 : DT) (fe : DE) (vs vs1 : List Nat) (ρ : Ro) (ω : Wd) : eLc2N fi fg ft fi1 fg1 ft1 fe vs vs1 ρ ω = (match fi ρ ω with
  | none => none
  | some (ds, ω1) => match lc2D fg ft fi1 fg1 ft1 fe vs1 (wipeR ρ vs) ds ω1 with
    | none => none
    | some (xs, ω2) => if xs.length ≤ sizeLine then some (xs, ω2) else none) := rfl
@[simp] theorem sNever_ap  (ρ : Ro) (ω : Wd) : sNever  ρ ω = (none) := rfl
@[simp] theorem eTupOwn_ap (i : Nat) (ρ : Ro) (ω : Wd) : eTupOwn i ρ ω = (match ρ[i]? with
  | some (.own xs) => some (.tuple xs, ω)
  | _ => none) := rfl
/-! ## the law's own draws -/
noncomputable def bLoad : DS :=
  (sSeq (sSet 1 (eIxOb (eVar 0) (eC (.int 0))))
  (sSeq (sIf (tOfE (eBin opGt (eLenOb (eVar 1)) (eC (.int 0)))) (sSeq (sSet 2 (eCall opInt (aCons (ePopOb (eVar 1) 0) aNil)))
  (sSeq (sSet 3 (eIf (tOfE (eBin opGe (eVar 2) (eC (.int 0)))) (eBin opMul (eC (.int 2)) (eVar 2)) (eBin opSub (eBin opMul (eUn opNeg (eC (.int 2))) (eVar 2)) (eC (.int 1)))))
  (sSeq (sIf (tOfE (eBin opGe (eVar 3) (eC (.int 1000000000000000000)))) (sRet (eVar 3)) sNext)
  (sSetOb (eVar 0) (eC (.int 2)) (eBin opMod (eCall opInt (aCons (eBin opAdd (eBin opAdd (eBin opMul (eIxOb (eVar 0) (eC (.int 2))) (eC (.int 69621))) (eBin opMul (eVar 3) (eC (.int 48271)))) (eC (.int 11))) aNil)) (eC (.int 2147483647))))))) sNext)
  (sSeq (sSet 4 (eBin opMod (eCall opInt (aCons (eBin opAdd (eBin opMul (eIxOb (eVar 0) (eC (.int 2))) (eC (.int 48271))) (eC (.int 17))) aNil)) (eC (.int 2147483629))))
  (sSeq (sSet 5 (eBin opMod (eCall opInt (aCons (eBin opAdd (eBin opMul (eVar 4) (eC (.int 69621))) (eC (.int 5))) aNil)) (eC (.int 2147483587))))
  (sSeq (sSetOb (eVar 0) (eC (.int 2)) (eBin opMod (eCall opInt (aCons (eBin opAdd (eBin opMul (eVar 5) (eC (.int 40692))) (eC (.int 3))) aNil)) (eC (.int 2147483563))))
  (sRet (eBin opAdd (eBin opAdd (eBin opMul (eVar 4) (eC (.int 4611686014132420609))) (eBin opMul (eVar 5) (eC (.int 2147483647)))) (eIxOb (eVar 0) (eC (.int 2))))))))))
noncomputable def dLoad : List D → Wd → Option (D × Wd) := defD 6 bLoad
noncomputable def bDraw : DS :=
  (sSeq (sIf (tOfE (eBin opLt (eIxOb (eVar 0) (eC (.int 1))) (eVar 1))) (sSetOb (eVar 0) (eC (.int 1)) (eFun dLoad (aCons (eVar 0) aNil))) sNext)
  (sSeq (sSet 2 (eBin opMod (eCall opInt (aCons (eIxOb (eVar 0) (eC (.int 1))) aNil)) (eVar 1)))
  (sSeq (sSetOb (eVar 0) (eC (.int 1)) (eBin opDiv (eIxOb (eVar 0) (eC (.int 1))) (eVar 1)))
  (sRet (eVar 2)))))
noncomputable def dDraw : List D → Wd → Option (D × Wd) := defD 3 bDraw

theorem mulOk_l {i j : Int} (h1 : -18446744073709551616 < i) (h2 : i < 18446744073709551616) : mulOk i j = true := by
  simp [mulOk_eq, h1, h2]
theorem mulOk_r {i j : Int} (h1 : -18446744073709551616 < j) (h2 : j < 18446744073709551616) : mulOk i j = true := by
  simp [mulOk_eq, h1, h2]
/-- a box with its tail of further items -/
def bw (t : List D) (c : List Int) (n s : Int) (r : List WO) : Wd := ⟨true, .lst (ob 1 :: .int n :: .int s :: t) :: .lst (c.map PyData.int) :: r⟩
theorem atI0 {x : D} {xs : List D} : atI (x :: xs) 0 = some x := by
  have h : (0 : Int) < ((x :: xs).length : Int) := by rw [List.length_cons]; omega
  unfold atI ixN
  rw [if_pos (Int.le_refl 0), if_pos h]
  rfl
theorem atI1 {x y : D} {xs : List D} : atI (x :: y :: xs) 1 = some y := by
  have h : (1 : Int) < ((x :: y :: xs).length : Int) := by rw [List.length_cons, List.length_cons]; omega
  unfold atI ixN
  rw [if_pos (by decide), if_pos h]
  rfl
theorem atI2 {x y z : D} {xs : List D} : atI (x :: y :: z :: xs) 2 = some z := by
  have h : (2 : Int) < ((x :: y :: z :: xs).length : Int) := by rw [List.length_cons, List.length_cons, List.length_cons]; omega
  unfold atI ixN
  rw [if_pos (by decide), if_pos h]
  rfl
theorem ixN1 {n : Nat} : ixN (n + 1 + 1) 1 = some 1 := by
  unfold ixN
  rw [if_pos (by decide), if_pos (by omega)]
  rfl
theorem ixN2 {n : Nat} : ixN (n + 1 + 1 + 1) 2 = some 2 := by
  unfold ixN
  rw [if_pos (by decide), if_pos (by omega)]
  rfl
def mix1 (s : Int) : Int := (s * 48271 + 17) % 2147483629
def mix2 (s : Int) : Int := (mix1 s * 69621 + 5) % 2147483587
def mix3 (s : Int) : Int := (mix2 s * 40692 + 3) % 2147483563
def mixV (s : Int) : Int := mix1 s * 4611686014132420609 + mix2 s * 2147483647 + mix3 s
theorem mixV_nn (s : Int) : 0 ≤ mixV s := by
  unfold mixV mix3 mix2 mix1
  omega
theorem load_nil (t : List D) (n s : Int) (r : List WO) : dLoad [ob 0] (bw t [] n s r) = some (.int (mixV s), bw t [] n (mix3 s) r) := by
  simp [dLoad, defD, bLoad, obN_ob, bw, atI0, atI1, atI2, opGt, opMod, opInt, opAdd, opMul, mulOk_r, ixN2, mixV, mix1, mix2, mix3]
def szC (x : Int) : Int := if 0 ≤ x then 2 * x else -2 * x - 1
def ldV (x s : Int) : Int := if 1000000000000000000 ≤ szC x then szC x else mixV ((s * 69621 + szC x * 48271 + 11) % 2147483647)
def ldS (x s : Int) : Int := if 1000000000000000000 ≤ szC x then s else mix3 ((s * 69621 + szC x * 48271 + 11) % 2147483647)
theorem load_cons (t : List D) (x : Int) (c : List Int) (n s : Int) (r : List WO) : dLoad [ob 0] (bw t (x :: c) n s r) = some (.int (ldV x s), bw t c n (ldS x s) r) := by
  by_cases hx : 0 ≤ x
  · by_cases hz : 1000000000000000000 ≤ 2 * x
    · simp [dLoad, defD, bLoad, obN_ob, bw, atI0, atI1, atI2, opGt, opGe, opMod, opInt, opAdd, opMul, mulOk_r, mulOk_l, ixN2, ldV, ldS, szC, hx, hz]
    · simp [dLoad, defD, bLoad, obN_ob, bw, atI0, atI1, atI2, opGt, opGe, opMod, opInt, opAdd, opMul, mulOk_r, mulOk_l, ixN2, ldV, ldS, szC, hx, hz, mixV, mix1, mix2, mix3]
  · by_cases hz : 1000000000000000000 ≤ -2 * x - 1
    · simp [dLoad, defD, bLoad, obN_ob, bw, atI0, atI1, atI2, opGt, opGe, opMod, opInt, opAdd, opSub, opNeg, opMul, mulOk_r, mulOk_l, ixN2, ldV, ldS, szC, hx, hz]
    · simp [dLoad, defD, bLoad, obN_ob, bw, atI0, atI1, atI2, opGt, opGe, opMod, opInt, opAdd, opSub, opNeg, opMul, mulOk_r, mulOk_l, ixN2, ldV, ldS, szC, hx, hz, mixV, mix1, mix2, mix3]
/-- the world is a box, and things behind it of which P holds -/
def BoxW (t : List D) (P : List WO → Prop) (ω : Wd) : Prop := ∃ c n s r, ω = bw t c n s r ∧ P r
/-- the world is a box, and nothing else -/
abbrev BoxI (t : List D) : Wd → Prop := BoxW t (fun r => r = [])
theorem draw_bw (t : List D) (c : List Int) (n s m : Int) (r : List WO) (hm : 0 < m) (hz : m.natAbs.log2 < 9000) : ∃ v c' s', dDraw [ob 0, .int m] (bw t c n s r) = some (.int (v % m), bw t c' (v / m) s' r) := by
  by_cases hn : n < m
  · cases c with
    | nil =>
      refine ⟨mixV s, [], mix3 s, ?_⟩
      have e := load_nil t n s r
      simp only [bw, List.map_nil] at e
      simp [dDraw, defD, bDraw, obN_ob, bw, atI1, opLt, hn, e, ixN1, opInt, opMod, opDiv, hm, hz]
    | cons x c =>
      refine ⟨ldV x s, c, ldS x s, ?_⟩
      have e := load_cons t x c n s r
      simp only [bw, List.map_cons] at e
      simp [dDraw, defD, bDraw, obN_ob, bw, atI1, opLt, hn, e, ixN1, opInt, opMod, opDiv, hm, hz]
  · refine ⟨n, c, s, ?_⟩
    simp [dDraw, defD, bDraw, obN_ob, bw, atI1, opLt, hn, ixN1, opInt, opMod, opDiv, hm, hz]
/-- worlds in which a draw gives any number of its range -/
class DrawI (t : Wd → Prop) : Prop where
  ok : ∀ {ω : Wd}, t ω → ∀ {m : Int}, 0 < m → m.natAbs.log2 < 9000 → ∃ d ω', dDraw [ob 0, .int m] ω = some (.int d, ω') ∧ 0 ≤ d ∧ d < m ∧ t ω'
instance drawW (t : List D) (P : List WO → Prop) : DrawI (BoxW t P) := ⟨fun {ω} h {m} hm hz => by
  obtain ⟨c, n, s, r, rfl, hp⟩ := h
  obtain ⟨v, c', s', e⟩ := draw_bw t c n s m r hm hz
  exact ⟨_, _, e, Int.emod_nonneg _ (by omega), Int.emod_lt_of_pos _ hm, c', v / m, s', r, rfl, hp⟩⟩
theorem draw_ok {t : Wd → Prop} [DrawI t] {ω : Wd} (h : t ω) {m : Int} (hm : 0 < m) (hz : m.natAbs.log2 < 9000) : ∃ d ω', dDraw [ob 0, .int m] ω = some (.int d, ω') ∧ 0 ≤ d ∧ d < m ∧ t ω' := DrawI.ok h hm hz
end Dn
end

section
namespace Dn
open PySem PySem.Spec L2
local instance : Tb := noTb
/-! ## facts about the operators -/
theorem opEq_int (a b : Int) : opEq (.int a) (.int b) = some (.bool (decide (a = b))) := by
  have e : (a == b) = decide (a = b) := rfl
  simp [opEq, cmpOk, PyData.plain, PyData.depth, PyData.eqv, e]
theorem opNe_int (a b : Int) : opNe (.int a) (.int b) = some (.bool (!decide (a = b))) := by
  have e : (a == b) = decide (a = b) := rfl
  simp [opNe, cmpOk, PyData.plain, PyData.depth, PyData.eqv, e]
theorem opEq_str (a b : Str) : opEq (.str a) (.str b) = some (.bool (a == b)) := by
  simp [opEq, cmpOk, PyData.plain, PyData.depth, PyData.eqv]
theorem opEq_bool (a b : Bool) : opEq (.bool a) (.bool b) = some (.bool (a == b)) := by
  simp [opEq, cmpOk, PyData.plain, PyData.depth, PyData.eqv]
theorem atI_nat' {α : Type} {xs : List α} {k : Nat} (h : k < xs.length) : atI xs (k : Int) = some xs[k] := atI_nat (by simp [h])
theorem opIx_tup {xs : List D} {k : Nat} (h : k < xs.length) : opIx (.tuple xs) (.int (k : Int)) = some xs[k] := atI_nat' h
theorem opIx_lst {xs : List D} {k : Nat} (h : k < xs.length) : opIx (.list xs) (.int (k : Int)) = some xs[k] := atI_nat' h
/-- an item at a drawn place -/
theorem atI_mem {α : Type} {xs : List α} {i : Int} (h0 : 0 ≤ i) (h1 : i < xs.length) : ∃ d, atI xs i = some d ∧ d ∈ xs := by
  have hk : i.toNat < xs.length := by omega
  refine ⟨xs[i.toNat], ?_, List.getElem_mem hk⟩
  have q := atI_nat' hk
  rwa [show ((i.toNat : Nat) : Int) = i from by omega] at q
/-! ## comprehensions and loops that leave the store alone -/
theorem lcD_of {α : Type} {fg : DG} {ft : DT} {fe : DE} {ρ : Ro} {ω : Wd} (e : α → D) (p : α → Bool) (g : α → D) : ∀ (l : List α), (∀ a ∈ l, ∃ ρ1, fg (e a) ρ = some ρ1 ∧ ft ρ1 ω = some (p a, ω) ∧ (p a = true → fe ρ1 ω = some (g a, ω))) → lcD fg ft fe ρ (l.map e) ω = some ((l.filter p).map g, ω)
  | [], _ => rfl
  | a :: l, h => by
    obtain ⟨ρ1, h1, h2, h3⟩ := h a (List.mem_cons_self ..)
    have ih := lcD_of e p g l fun x hx => h x (List.mem_cons_of_mem _ hx)
    rw [List.map_cons]
    unfold lcD
    rw [h1]
    simp only [h2]
    cases hp : p a with
    | true =>
      rw [if_pos rfl, h3 hp]
      simp only [ih, List.filter_cons, hp, if_true, List.map_cons]
    | false =>
      rw [if_neg Bool.false_ne_true, ih, List.filter_cons, hp]
      simp
theorem lcD_map {α : Type} {fg : DG} {ft : DT} {fe : DE} {ρ : Ro} {ω : Wd} (e : α → D) (g : α → D) (l : List α) (h : ∀ a ∈ l, ∃ ρ1, fg (e a) ρ = some ρ1 ∧ ft ρ1 ω = some (true, ω) ∧ fe ρ1 ω = some (g a, ω)) : lcD fg ft fe ρ (l.map e) ω = some (l.map g, ω) := by
  have q := lcD_of (fg := fg) (ft := ft) (fe := fe) (ρ := ρ) (ω := ω) e (fun _ => true) g l fun a ha => by
    obtain ⟨ρ1, h1, h2, h3⟩ := h a ha
    exact ⟨ρ1, h1, h2, fun _ => h3⟩
  rw [q, List.filter_eq_self.mpr fun _ _ => rfl]
theorem rgD_eq (i j : Int) : rgD i j = (List.range (j - i).toNat).map fun (k : Nat) => .int (i + k) := rfl
theorem rgD0 (n : Nat) : rgD 0 (n : Int) = (List.range n).map fun (k : Nat) => .int (k : Int) := by
  unfold rgD
  simp
/-! ## _law_same -/
mutual
def dpt : D → Nat
  | .list xs => dptL xs + 1
  | .tuple xs => dptL xs + 1
  | _ => 1
def dptL : List D → Nat
  | [] => 0
  | x :: xs => max (dpt x) (dptL xs)
end
theorem dptL_mem : ∀ {xs : List D} {x : D}, x ∈ xs → dpt x ≤ dptL xs
  | y :: ys, x, h => by
    rw [dptL]
    rcases List.mem_cons.mp h with rfl | h
    · omega
    · have := dptL_mem h; omega
theorem plainAll_mem : ∀ {xs : List D} {x : D}, PyData.plainAll xs = true → x ∈ xs → x.plain = true
  | y :: ys, x, h, hx => by
    rw [PyData.plainAll, Bool.and_eq_true] at h
    rcases List.mem_cons.mp hx with rfl | hx
    · exact h.1
    · exact plainAll_mem h.2 hx
noncomputable def bSameD (rc : List D → Wd → Option (D × Wd)) : DS :=
  (sSeq (sIf (tOrD (tAndD (tOfE (eUn (opIsi "tuple") (eVar 0))) (tOfE (eUn (opIsi "tuple") (eVar 1)))) (tAndD (tOfE (eUn (opIsi "list") (eVar 0))) (tOfE (eUn (opIsi "list") (eVar 1))))) (sRet (eAnd (eBin opEq (eCall opLen (aCons (eVar 0) aNil)) (eCall opLen (aCons (eVar 1) aNil))) (eCall opAll (aCons (eOfN (eLcN (iRange (aCons (eCall opLen (aCons (eVar 0) aNil)) aNil)) (gSet 2) tYesD (eFunP rc (aCons (eBin opIx (eVar 0) (eVar 2)) (aCons (eBin opIx (eVar 1) (eVar 2)) aNil))) [2])) aNil)))) sNext)
  (sSeq (sIf (tAndD (tOfE (eUn (opIsi "dict") (eVar 0))) (tOfE (eUn (opIsi "dict") (eVar 1)))) sNever sNext)
  (sSeq (sIf (tOrD (tOfE (eUn (opIsi "bool") (eVar 0))) (tOfE (eUn (opIsi "bool") (eVar 1)))) (sRet (eAnd (eUn (opIsi "bool") (eVar 0)) (eAnd (eUn (opIsi "bool") (eVar 1)) (eBin opEq (eVar 0) (eVar 1))))) sNext)
  (sSeq (sIf (tOrD (tAndD (tOfE (eUn (opIsi "int") (eVar 0))) (tOfE (eUn (opIsi "int") (eVar 1)))) (tAndD (tOfE (eUn (opIsi "str") (eVar 0))) (tOfE (eUn (opIsi "str") (eVar 1))))) (sRet (eBin opEq (eVar 0) (eVar 1))) sNext)
  (sRet (eAnd (eBin opIsN (eVar 0) (eC .none)) (eBin opIsN (eVar 1) (eC .none))))))))
noncomputable def dSameD : Nat → List D → Wd → Option (D × Wd)
  | 0 => fun _ _ => none
  | n + 1 => defD 4 (bSameD (dSameD n))
noncomputable def bSame (rc : List D → Wd → Option (D × Wd)) : DS :=
  (sSeq (sIf (tOrD (tAndD (tOfE (eUn (opIsi "tuple") (eVar 0))) (tOfE (eUn (opIsi "tuple") (eVar 1)))) (tAndD (tOfE (eUn (opIsi "list") (eVar 0))) (tOfE (eUn (opIsi "list") (eVar 1))))) (sRet (eAnd (eBin opEq (eCall opLen (aCons (eVar 0) aNil)) (eCall opLen (aCons (eVar 1) aNil))) (eCall opAll (aCons (eOfN (eLcN (iRange (aCons (eCall opLen (aCons (eVar 0) aNil)) aNil)) (gSet 2) tYesD (eFunP rc (aCons (eBin opIx (eVar 0) (eVar 2)) (aCons (eBin opIx (eVar 1) (eVar 2)) aNil))) [2])) aNil)))) sNext)
  (sSeq (sIf (tOrD (tOfE (eUn (opIsi "bool") (eVar 0))) (tOfE (eUn (opIsi "bool") (eVar 1)))) (sRet (eAnd (eUn (opIsi "bool") (eVar 0)) (eAnd (eUn (opIsi "bool") (eVar 1)) (eBin opEq (eVar 0) (eVar 1))))) sNext)
  (sSeq (sIf (tOrD (tAndD (tOfE (eUn (opIsi "int") (eVar 0))) (tOfE (eUn (opIsi "int") (eVar 1)))) (tAndD (tOfE (eUn (opIsi "str") (eVar 0))) (tOfE (eUn (opIsi "str") (eVar 1))))) (sRet (eBin opEq (eVar 0) (eVar 1))) sNext)
  (sRet (eAnd (eBin opIsN (eVar 0) (eC .none)) (eBin opIsN (eVar 1) (eC .none)))))))
noncomputable def dSame : Nat → List D → Wd → Option (D × Wd)
  | 0 => fun _ _ => none
  | n + 1 => defD 3 (bSame (dSame n))
mutual
/-- data without objects, its sequences of a size that the model walks -/
def okD : D → Bool
  | .list xs => decide (xs.length ≤ 16777216) && okL xs
  | .tuple xs => decide (xs.length ≤ 16777216) && okL xs
  | .dict _ => false
  | _ => true
def okL : List D → Bool
  | [] => true
  | x :: xs => okD x && okL xs
end
theorem okL_mem : ∀ {xs : List D} {x : D}, okL xs = true → x ∈ xs → okD x = true
  | y :: ys, x, h, hx => by
    rw [okL, Bool.and_eq_true] at h
    rcases List.mem_cons.mp hx with rfl | hx
    · exact h.1
    · exact okL_mem h.2 hx
theorem rgOk_nat {n : Nat} (h : n ≤ 16777216) : rgOk 0 (n : Int) = true := by
  simp [rgOk_eq]; omega
theorem all_true (n : Nat) : blsOf ((List.range n).map fun (_ : Nat) => PyData.bool true) = some ((List.range n).map fun _ => true) := by
  have := blsOf_map ((List.range n).map fun (_ : Nat) => true)
  rw [List.map_map] at this
  exact this
theorem sameD_seq {rc : List D → Wd → Option (D × Wd)} {xs : List D} (hz : xs.length ≤ 16777216) (h : ∀ x ∈ xs, rc [x, x] ⟨false, []⟩ = some (.bool true, ⟨false, []⟩)) (ρ : Ro) (ω : Wd) (opx : D) (ho : ∀ k : Nat, (hk : k < xs.length) → opIx opx (.int (k : Int)) = some xs[k]) (h0 : ρ[0]? = some (.val opx)) (h1 : ρ[1]? = some (.val opx)) (h2 : 2 < ρ.length) :
    lcD (gSet 2) tYesD (eFunP rc (aCons (eBin opIx (eVar 0) (eVar 2)) (aCons (eBin opIx (eVar 1) (eVar 2)) aNil))) ρ (rgD 0 (xs.length : Int)) ω = some ((List.range xs.length).map fun _ => .bool true, ω) := by
  rw [rgD0]
  refine lcD_map _ _ _ fun k hk => ⟨ρ.set 2 (.val (.int (k : Int))), rfl, rfl, ?_⟩
  have hk : k < xs.length := List.mem_range.mp hk
  have e0 : (ρ.set 2 (.val (.int (k : Int))))[0]? = some (.val opx) := by rw [List.getElem?_set_ne (by decide)]; exact h0
  have e1 : (ρ.set 2 (.val (.int (k : Int))))[1]? = some (.val opx) := by rw [List.getElem?_set_ne (by decide)]; exact h1
  have e2 : (ρ.set 2 (.val (.int (k : Int))))[2]? = some (.val (.int (k : Int))) := by rw [List.getElem?_set_self h2]
  simp [e0, e1, e2, ho k hk, h xs[k] (List.getElem_mem hk)]
theorem sameD_sq {n : Nat} {xs : List D} {d : D} {ω : Wd} (ih : ∀ (d : D) (ω : Wd), okD d = true → dpt d ≤ n → dSameD n [d, d] ω = some (.bool true, ω)) (hz : xs.length ≤ 16777216) (hk : okL xs = true) (hd : dptL xs ≤ n) (hop : ∀ k : Nat, (hk : k < xs.length) → opIx d (.int (k : Int)) = some xs[k]) :
    lcD (gSet 2) tYesD (eFunP (dSameD n) (aCons (eBin opIx (eVar 0) (eVar 2)) (aCons (eBin opIx (eVar 1) (eVar 2)) aNil))) (wipeR [.val d, .val d, .un, .un] [2]) (rgD 0 (xs.length : Int)) ω = some ((List.range xs.length).map fun _ => .bool true, ω) :=
  sameD_seq hz (fun x hx => ih x _ (okL_mem hk hx) (Nat.le_trans (dptL_mem hx) hd)) _ ω d hop rfl rfl (by simp [wipeR])
theorem sameD_refl (n : Nat) : ∀ (d : D) (ω : Wd), okD d = true → dpt d ≤ n → dSameD n [d, d] ω = some (.bool true, ω) := by
  induction n with
  | zero => intro d ω _ h; cases d <;> simp [dpt] at h
  | succ n ih =>
    intro d ω hk h
    cases d with
    | none => simp [dSameD, defD, bSameD, opIsi, notOb, isi, opIsN, isNon]
    | bool b => simp [dSameD, defD, bSameD, opIsi, notOb, isi, opEq_bool]
    | int b => simp [dSameD, defD, bSameD, opIsi, notOb, isi, opEq_int]
    | str b => simp [dSameD, defD, bSameD, opIsi, notOb, isi, opEq_str]
    | dict _ => simp [okD] at hk
    | list xs =>
      simp [okD] at hk
      have hd : dptL xs ≤ n := by simp [dpt] at h; exact h
      have q := sameD_sq (ω := ω) ih hk.1 hk.2 hd (d := .list xs) (fun k hk => opIx_lst hk)
      simp [dSameD, defD, bSameD, opIsi, notOb, isi, opEq_int, opLen, rgOk_nat hk.1, q, opAll, all_true]
    | tuple xs =>
      simp [okD] at hk
      have hd : dptL xs ≤ n := by simp [dpt] at h; exact h
      have q := sameD_sq (ω := ω) ih hk.1 hk.2 hd (d := .tuple xs) (fun k hk => opIx_tup hk)
      simp [dSameD, defD, bSameD, opIsi, notOb, isi, opEq_int, opLen, rgOk_nat hk.1, q, opAll, all_true]
theorem same_seq {n : Nat} {xs : List D} {d : D} {ω : Wd} (ih : ∀ (d : D) (ω : Wd), okD d = true → dpt d ≤ n → dSame n [d, d] ω = some (.bool true, ω)) (hz : xs.length ≤ 16777216) (hk : okL xs = true) (hd : dptL xs ≤ n) (hop : ∀ k : Nat, (hk : k < xs.length) → opIx d (.int (k : Int)) = some xs[k]) :
    lcD (gSet 2) tYesD (eFunP (dSame n) (aCons (eBin opIx (eVar 0) (eVar 2)) (aCons (eBin opIx (eVar 1) (eVar 2)) aNil))) (wipeR [.val d, .val d, .un] [2]) (rgD 0 (xs.length : Int)) ω = some ((List.range xs.length).map fun _ => .bool true, ω) :=
  sameD_seq hz (fun x hx => ih x _ (okL_mem hk hx) (Nat.le_trans (dptL_mem hx) hd)) _ ω d hop rfl rfl (by simp [wipeR])
theorem same_refl (n : Nat) : ∀ (d : D) (ω : Wd), okD d = true → dpt d ≤ n → dSame n [d, d] ω = some (.bool true, ω) := by
  induction n with
  | zero => intro d ω _ h; cases d <;> simp [dpt] at h
  | succ n ih =>
    intro d ω hk h
    cases d with
    | none => simp [dSame, defD, bSame, opIsi, notOb, isi, opIsN, isNon]
    | bool b => simp [dSame, defD, bSame, opIsi, notOb, isi, opEq_bool]
    | int b => simp [dSame, defD, bSame, opIsi, notOb, isi, opEq_int]
    | str b => simp [dSame, defD, bSame, opIsi, notOb, isi, opEq_str]
    | dict _ => simp [okD] at hk
    | list xs =>
      simp [okD] at hk
      have hd : dptL xs ≤ n := by simp [dpt] at h; exact h
      have q := same_seq (ω := ω) ih hk.1 hk.2 hd (d := .list xs) (fun k hk => opIx_lst hk)
      simp [dSame, defD, bSame, opIsi, notOb, isi, opEq_int, opLen, rgOk_nat hk.1, q, opAll, all_true]
    | tuple xs =>
      simp [okD] at hk
      have hd : dptL xs ≤ n := by simp [dpt] at h; exact h
      have q := same_seq (ω := ω) ih hk.1 hk.2 hd (d := .tuple xs) (fun k hk => opIx_tup hk)
      simp [dSame, defD, bSame, opIsi, notOb, isi, opEq_int, opLen, rgOk_nat hk.1, q, opAll, all_true]
end Dn
end

section
namespace Dn
open PySem PySem.Spec L2
local instance : Tb := noTb
/-! ## what a text gives at any box: the draws are free -/
def WE (t : Wd → Prop) (f : DE) (ρ : Ro) (P : D → Prop) : Prop := ∀ ω, t ω → ∃ d ω', f ρ ω = some (d, ω') ∧ t ω' ∧ P d
def WA (t : Wd → Prop) (f : DA) (ρ : Ro) (P : List D → Prop) : Prop := ∀ ω, t ω → ∃ d ω', f ρ ω = some (d, ω') ∧ t ω' ∧ P d
def WT (t : Wd → Prop) (f : DT) (ρ : Ro) (P : Bool → Prop) : Prop := ∀ ω, t ω → ∃ d ω', f ρ ω = some (d, ω') ∧ t ω' ∧ P d
/-- how a statement ends: `Q` where it goes on, `R` where it returns -/
def OutP (Q : Ro → Prop) (R : D → Prop) : Out → Prop
  | .nx ρ => Q ρ
  | .ct ρ => Q ρ
  | .rt d => R d
  | _ => False
def WS (t : Wd → Prop) (f : DS) (ρ : Ro) (Q : Ro → Prop) (R : D → Prop) : Prop := ∀ ω, t ω → ∃ ρ' ω', t ω' ∧ ((f ρ ω = some (.nx ρ', ω') ∧ Q ρ') ∨ ∃ d, f ρ ω = some (.rt d, ω') ∧ R d)
def IntIn (lo hi : Int) (d : D) : Prop := ∃ i, d = .int i ∧ lo ≤ i ∧ i < hi
def NatD (d : D) : Prop := ∃ i, d = .int i ∧ 0 ≤ i
def AllP (n : Nat) (P : D → Prop) (ds : List D) : Prop := ds.length = n ∧ ∀ d ∈ ds, P d
variable {t : Wd → Prop} {ρ : Ro}
theorem WE.mono {f : DE} {P P' : D → Prop} (h : WE t f ρ P) (k : ∀ d, P d → P' d) : WE t f ρ P' := fun ω i => by
  obtain ⟨d, ω', e, i', p⟩ := h ω i
  exact ⟨d, ω', e, i', k d p⟩
theorem WA.mono {f : DA} {P P' : List D → Prop} (h : WA t f ρ P) (k : ∀ d, P d → P' d) : WA t f ρ P' := fun ω i => by
  obtain ⟨d, ω', e, i', p⟩ := h ω i
  exact ⟨d, ω', e, i', k d p⟩
theorem WE.pure {f : DE} {P : D → Prop} (d : D) (h : ∀ ω, f ρ ω = some (d, ω)) (p : P d) : WE t f ρ P := fun ω i => ⟨d, ω, h ω, i, p⟩
theorem WE.c {d : D} {P : D → Prop} (p : P d) : WE t (eC d) ρ P := .pure d (fun _ => rfl) p
theorem WE.v {i : Nat} {d : D} {P : D → Prop} (h : ρ[i]? = some (.val d)) (p : P d) : WE t (eVar i) ρ P := .pure d (fun ω => by rw [eVar_ap, h]) p
theorem WE.ofA {f : DA} {P : D → Prop} {P' : List D → Prop} (h : WA t f ρ P') (k : ∀ ds, P' ds → P (.list ds)) : WE t (eOfN f) ρ P := fun ω i => by
  obtain ⟨d, ω', e, i', p⟩ := h ω i
  exact ⟨.list d, ω', by rw [eOfN_ap, e], i', k _ p⟩
theorem WE.bin {op : D → D → Option D} {f g : DE} {P Q R : D → Prop} (h1 : WE t f ρ P) (h2 : WE t g ρ Q) (k : ∀ x y, P x → Q y → ∃ z, op x y = some z ∧ R z) : WE t (eBin op f g) ρ R := fun ω i => by
  obtain ⟨x, ω1, e1, i1, p1⟩ := h1 ω i
  obtain ⟨y, ω2, e2, i2, p2⟩ := h2 ω1 i1
  obtain ⟨z, e3, p3⟩ := k x y p1 p2
  exact ⟨z, ω2, by simp [e1, e2, e3], i2, p3⟩
theorem WE.un {op : D → Option D} {f : DE} {P R : D → Prop} (h1 : WE t f ρ P) (k : ∀ x, P x → ∃ z, op x = some z ∧ R z) : WE t (eUn op f) ρ R := fun ω i => by
  obtain ⟨x, ω1, e1, i1, p1⟩ := h1 ω i
  obtain ⟨z, e3, p3⟩ := k x p1
  exact ⟨z, ω1, by simp [e1, e3], i1, p3⟩
theorem WA.nil : WA t aNil ρ (fun ds => ds = []) := fun ω i => ⟨[], ω, rfl, i, rfl⟩
theorem WA.cons {f : DE} {a : DA} {P : D → Prop} {Q : List D → Prop} (h1 : WE t f ρ P) (h2 : WA t a ρ Q) : WA t (aCons f a) ρ (fun ds => ∃ d l, ds = d :: l ∧ P d ∧ Q l) := fun ω i => by
  obtain ⟨x, ω1, e1, i1, p1⟩ := h1 ω i
  obtain ⟨y, ω2, e2, i2, p2⟩ := h2 ω1 i1
  exact ⟨x :: y, ω2, by simp [e1, e2], i2, x, y, rfl, p1, p2⟩
theorem WA.nilP {P : D → Prop} : WA t aNil ρ (AllP 0 P) := fun ω i => ⟨[], ω, rfl, i, rfl, by simp⟩
theorem WA.consP {f : DE} {a : DA} {P : D → Prop} {n : Nat} (h1 : WE t f ρ P) (h2 : WA t a ρ (AllP n P)) : WA t (aCons f a) ρ (AllP (n + 1) P) := fun ω i => by
  obtain ⟨x, ω1, e1, i1, p1⟩ := h1 ω i
  obtain ⟨y, ω2, e2, i2, hl, p2⟩ := h2 ω1 i1
  refine ⟨x :: y, ω2, by simp [e1, e2], i2, by rw [List.length_cons, hl], fun d hd => ?_⟩
  rcases List.mem_cons.mp hd with rfl | hd
  · exact p1
  · exact p2 d hd
theorem WE.tup {a : DA} {P : D → Prop} {Q : List D → Prop} (h : WA t a ρ Q) (k : ∀ l, Q l → P (.tuple l)) : WE t (eTup a) ρ P := fun ω i => by
  obtain ⟨x, ω1, e1, i1, p1⟩ := h ω i
  exact ⟨.tuple x, ω1, by simp [e1], i1, k x p1⟩
theorem WE.lst {a : DA} {P : D → Prop} {Q : List D → Prop} (h : WA t a ρ Q) (k : ∀ l, Q l → P (.list l)) : WE t (eLst a) ρ P := fun ω i => by
  obtain ⟨x, ω1, e1, i1, p1⟩ := h ω i
  exact ⟨.list x, ω1, by simp [e1], i1, k x p1⟩
theorem WE.call {op : List D → Option D} {a : DA} {P : D → Prop} {Q : List D → Prop} (h : WA t a ρ Q) (k : ∀ l, Q l → ∃ z, op l = some z ∧ P z) : WE t (eCall op a) ρ P := fun ω i => by
  obtain ⟨x, ω1, e1, i1, p1⟩ := h ω i
  obtain ⟨z, e2, p2⟩ := k x p1
  exact ⟨z, ω1, by simp [e1, e2], i1, p2⟩
theorem WE.fn {f : List D → Wd → Option (D × Wd)} {a : DA} {P : D → Prop} {Q : List D → Prop} (h : WA t a ρ Q) (k : ∀ l, Q l → ∀ ω, t ω → ∃ d ω', f l ω = some (d, ω') ∧ t ω' ∧ P d) : WE t (eFun f a) ρ P := fun ω i => by
  obtain ⟨x, ω1, e1, i1, p1⟩ := h ω i
  obtain ⟨d, ω', e2, i2, p2⟩ := k x p1 ω1 i1
  exact ⟨d, ω', by simp [e1, e2], i2, p2⟩
/-- one draw -/
theorem WE.draw [DrawI t] {i : Nat} {g : DE} (m : Int) (h0 : ρ[i]? = some (.val (ob 0))) (hg : ∀ ω, g ρ ω = some (.int m, ω)) (hm : 0 < m) (hz : m.natAbs.log2 < 9000) : WE t (eFun dDraw (aCons (eVar i) (aCons g aNil))) ρ (IntIn 0 m) := fun ω ib => by
  obtain ⟨d, ω', e, h1, h2, i2⟩ := draw_ok ib hm hz
  exact ⟨.int d, ω', by simp [h0, hg, e], i2, d, rfl, h1, h2⟩
/-- an item of a written list, at a drawn place -/
theorem WE.pick {a : DA} {g : DE} {P : D → Prop} (n : Nat) (h : WA t a ρ (AllP n P)) (hg : WE t g ρ (IntIn 0 n)) : WE t (eBin opIx (eLst a) g) ρ P := by
  refine WE.bin (WE.lst h (P := fun d => ∃ l, d = .list l ∧ AllP n P l) fun l hl => ⟨l, rfl, hl⟩) hg ?_
  rintro x y ⟨l, rfl, hl, hp⟩ ⟨i, rfl, h0, h1⟩
  obtain ⟨d, e, hd⟩ := atI_mem (xs := l) h0 (by rw [hl]; exact h1)
  exact ⟨d, e, hp d hd⟩
theorem WT.ofE {f : DE} {P : Bool → Prop} (h : WE t f ρ (fun d => ∃ c, d = .bool c ∧ P c)) : WT t (tOfE f) ρ P := fun ω i => by
  obtain ⟨d, ω', e, i', c, rfl, p⟩ := h ω i
  exact ⟨c, ω', by simp [e], i', p⟩
theorem WT.and {f g : DT} {P P' Q : Bool → Prop} (h : WT t f ρ P) (h' : P true → WT t g ρ P') (kf : P false → Q false) (kt : P true → ∀ c, P' c → Q c) : WT t (tAndD f g) ρ Q := fun ω i => by
  obtain ⟨c, ω1, e1, i1, p1⟩ := h ω i
  cases c with
  | false => exact ⟨false, ω1, by simp [e1], i1, kf p1⟩
  | true =>
    obtain ⟨c, ω2, e2, i2, p2⟩ := h' p1 ω1 i1
    exact ⟨c, ω2, by simp [e1, e2], i2, kt p1 c p2⟩
/-! statements -/
variable {Q Q' : Ro → Prop} {R : D → Prop}
theorem WS.mono {f : DS} (h : WS t f ρ Q R) (k : ∀ ρ', Q ρ' → Q' ρ') : WS t f ρ Q' R := fun ω i => by
  obtain ⟨ρ', ω', i', h | h⟩ := h ω i
  · exact ⟨ρ', ω', i', .inl ⟨h.1, k _ h.2⟩⟩
  · exact ⟨ρ', ω', i', .inr h⟩
theorem WS.next (h : Q ρ) : WS t sNext ρ Q R := fun ω i => ⟨ρ, ω, i, .inl ⟨rfl, h⟩⟩
theorem WS.seq {f g : DS} (h : WS t f ρ Q' R) (k : ∀ ρ', Q' ρ' → WS t g ρ' Q R) : WS t (sSeq f g) ρ Q R := fun ω i => by
  obtain ⟨ρ1, ω1, i1, ⟨e1, q1⟩ | ⟨d, e1, r1⟩⟩ := h ω i
  · obtain ⟨ρ2, ω2, i2, ⟨e2, q2⟩ | ⟨d, e2, r2⟩⟩ := k ρ1 q1 ω1 i1
    · exact ⟨ρ2, ω2, i2, .inl ⟨by simp [e1, e2], q2⟩⟩
    · exact ⟨ρ2, ω2, i2, .inr ⟨d, by simp [e1, e2], r2⟩⟩
  · exact ⟨ρ1, ω1, i1, .inr ⟨d, by simp [e1], r1⟩⟩
theorem WS.set {i : Nat} {f : DE} {P : D → Prop} (h : WE t f ρ P) (k : ∀ d, P d → Q (ρ.set i (.val d))) : WS t (sSet i f) ρ Q R := fun ω ib => by
  obtain ⟨d, ω', e, i', p⟩ := h ω ib
  exact ⟨ρ.set i (.val d), ω', i', .inl ⟨by simp [e], k d p⟩⟩
theorem WS.setThen {i : Nat} {f : DE} {g : DS} {P : D → Prop} (h : WE t f ρ P) (k : ∀ d, P d → WS t g (ρ.set i (.val d)) Q R) : WS t (sSeq (sSet i f) g) ρ Q R := by
  refine WS.seq (WS.set (Q := fun ρ' => ∃ d, P d ∧ ρ' = ρ.set i (.val d)) h fun d p => ⟨d, p, rfl⟩) ?_
  rintro ρ' ⟨d, p, rfl⟩
  exact k d p
theorem WS.own {i : Nat} {f : DA} {P : List D → Prop} (h : WA t f ρ P) (k : ∀ d, P d → Q (ρ.set i (.own d))) : WS t (sOwn i f) ρ Q R := fun ω ib => by
  obtain ⟨d, ω', e, i', p⟩ := h ω ib
  exact ⟨ρ.set i (.own d), ω', i', .inl ⟨by simp [e], k d p⟩⟩
theorem WS.ownThen {i : Nat} {f : DA} {g : DS} {P : List D → Prop} (h : WA t f ρ P) (k : ∀ d, P d → WS t g (ρ.set i (.own d)) Q R) : WS t (sSeq (sOwn i f) g) ρ Q R := by
  refine WS.seq (WS.own (Q := fun ρ' => ∃ d, P d ∧ ρ' = ρ.set i (.own d)) h fun d p => ⟨d, p, rfl⟩) ?_
  rintro ρ' ⟨d, p, rfl⟩
  exact k d p
theorem WS.app {i : Nat} {f : DE} {P : D → Prop} {xs : List D} (h : WE t f ρ P) (hx : ρ[i]? = some (.own xs)) (hz : xs.length < 16777216) (k : ∀ d, P d → Q (ρ.set i (.own (xs ++ [d])))) : WS t (sApp i f) ρ Q R := fun ω ib => by
  obtain ⟨d, ω', e, i', p⟩ := h ω ib
  have hz' : xs.length < sizeLine := Nat.lt_of_lt_of_le hz (by decide)
  exact ⟨ρ.set i (.own (xs ++ [d])), ω', i', .inl ⟨by simp [e, hx, hz'], k d p⟩⟩
theorem WS.appThen {i : Nat} {f : DE} {g : DS} {P : D → Prop} {xs : List D} (h : WE t f ρ P) (hx : ρ[i]? = some (.own xs)) (hz : xs.length < 16777216) (k : ∀ d, P d → WS t g (ρ.set i (.own (xs ++ [d]))) Q R) : WS t (sSeq (sApp i f) g) ρ Q R := by
  refine WS.seq (WS.app (Q := fun ρ' => ∃ d, P d ∧ ρ' = ρ.set i (.own (xs ++ [d]))) h hx hz fun d p => ⟨d, p, rfl⟩) ?_
  rintro ρ' ⟨d, p, rfl⟩
  exact k d p
theorem WS.ite {c : DT} {f g : DS} {P : Bool → Prop} (h : WT t c ρ P) (k1 : P true → WS t f ρ Q R) (k2 : P false → WS t g ρ Q R) : WS t (sIf c f g) ρ Q R := fun ω i => by
  obtain ⟨c, ω1, e1, i1, p1⟩ := h ω i
  cases c with
  | true =>
    obtain ⟨ρ2, ω2, i2, ⟨e2, q2⟩ | ⟨d, e2, r2⟩⟩ := k1 p1 ω1 i1
    · exact ⟨ρ2, ω2, i2, .inl ⟨by simp [e1, e2], q2⟩⟩
    · exact ⟨ρ2, ω2, i2, .inr ⟨d, by simp [e1, e2], r2⟩⟩
  | false =>
    obtain ⟨ρ2, ω2, i2, ⟨e2, q2⟩ | ⟨d, e2, r2⟩⟩ := k2 p1 ω1 i1
    · exact ⟨ρ2, ω2, i2, .inl ⟨by simp [e1, e2], q2⟩⟩
    · exact ⟨ρ2, ω2, i2, .inr ⟨d, by simp [e1, e2], r2⟩⟩
theorem WS.ret {f : DE} (h : WE t f ρ R) : WS t (sRet f) ρ Q R := fun ω i => by
  obtain ⟨d, ω', e, i', p⟩ := h ω i
  exact ⟨ρ, ω', i', .inr ⟨d, by simp [e], p⟩⟩
theorem WS.loop {g : DG} {f : DS} {P : D → Prop} (I : Nat → Ro → Prop) (n : Nat) (hk : ∀ k ρ d, k < n → I k ρ → P d → ∃ ρ1, g d ρ = some ρ1 ∧ WS t f ρ1 (I (k + 1)) R) : ∀ (ds : List D) (k : Nat) (ρ : Ro), k + ds.length ≤ n → (∀ d ∈ ds, P d) → I k ρ → WS t (loopD g f ds) ρ (I (k + ds.length)) R
  | [], k, ρ, _, _, h => fun ω i => ⟨ρ, ω, i, .inl ⟨rfl, h⟩⟩
  | d :: ds, k, ρ, hn, hp, h => fun ω i => by
    rw [List.length_cons] at hn
    obtain ⟨ρ1, e0, w⟩ := hk k ρ d (by omega) h (hp d (List.mem_cons_self ..))
    unfold loopD
    rw [e0]
    obtain ⟨ρ2, ω2, i2, ⟨e2, q2⟩ | ⟨x, e2, r2⟩⟩ := w ω i
    · have := WS.loop I n hk ds (k + 1) ρ2 (by omega) (fun d hd => hp d (List.mem_cons_of_mem _ hd)) q2 ω2 i2
      rw [List.length_cons, show k + (ds.length + 1) = k + 1 + ds.length from by omega]
      simp only [e2]
      exact this
    · exact ⟨ρ2, ω2, i2, .inr ⟨x, by simp only [e2], r2⟩⟩
theorem WS.for' {fi : DA} {g : DG} {f : DS} {P : D → Prop} (I : Nat → Ro → Prop) (n : Nat) (hi : WA t fi ρ (fun ds => ds.length ≤ n ∧ ∀ d ∈ ds, P d)) (h0 : I 0 ρ) (hk : ∀ k ρ d, k < n → I k ρ → P d → ∃ ρ1, g d ρ = some ρ1 ∧ WS t f ρ1 (I (k + 1)) R) (hQ : ∀ k ρ, k ≤ n → I k ρ → Q ρ) : WS t (sFor fi g f) ρ Q R := fun ω i => by
  obtain ⟨ds, ω1, e1, i1, hn, hp⟩ := hi ω i
  obtain ⟨ρ2, ω2, i2, h | h⟩ := WS.loop I n hk ds 0 ρ (by omega) hp h0 ω1 i1
  · exact ⟨ρ2, ω2, i2, .inl ⟨by simp [e1, h.1], hQ _ _ (by omega) h.2⟩⟩
  · exact ⟨ρ2, ω2, i2, .inr (by simp [e1]; exact h)⟩
/-- a loop over `range(m)` with a drawn end -/
theorem WA.range {g : DE} (n : Nat) (hn : n ≤ 16777216) (h : WE t g ρ (IntIn 0 (n + 1))) : WA t (iRange (aCons g aNil)) ρ (fun ds => ds.length ≤ n ∧ ∀ d ∈ ds, IntIn 0 n d) := fun ω i => by
  obtain ⟨d, ω1, e1, i1, j, rfl, h0, h1⟩ := h ω i
  have ok : rgOk 0 j = true := by
    have := rgOk_nat (n := j.toNat) (by omega)
    rwa [show ((j.toNat : Nat) : Int) = j from by omega] at this
  refine ⟨rgD 0 j, ω1, by simp [e1, ok], i1, by unfold rgD; simp; omega, fun d hd => ?_⟩
  unfold rgD at hd
  obtain ⟨k, hk, rfl⟩ := List.mem_map.mp hd
  have := List.mem_range.mp hk
  exact ⟨_, rfl, by omega, by omega⟩
/-- a whole function -/
theorem WS.fnD {m : Nat} {f : DS} {ds : List D} {P : D → Prop} (h : WS t f (ds.map SV.val ++ List.replicate (m - ds.length) .un) (fun _ => P .none) P) : ∀ ω, t ω → ∃ d ω', defD m f ds ω = some (d, ω') ∧ t ω' ∧ P d := fun ω i => by
  obtain ⟨ρ', ω', i', ⟨e, q⟩ | ⟨d, e, r⟩⟩ := h ω i
  · exact ⟨.none, ω', by unfold defD; rw [e], i', q⟩
  · exact ⟨d, ω', by unfold defD; rw [e], i', r⟩
/-- a loop that leaves the store alone, as a fold -/
theorem loop_fold {α σ : Type} {g : DG} {f : DS} {ω : Wd} (e : α → D) (sh : σ → Ro) (step : σ → α → σ) (J : Nat → σ → Prop) : ∀ (l : List α) (k : Nat) (s : σ) , J k s → (∀ k s a, a ∈ l → J k s → ∃ ρ1, g (e a) (sh s) = some ρ1 ∧ f ρ1 ω = some (.nx (sh (step s a)), ω) ∧ J (k + 1) (step s a)) → loopD g f (l.map e) (sh s) ω = some (.nx (sh (l.foldl step s)), ω)
  | [], _, _, _, _ => rfl
  | a :: l, k, s, hj, h => by
    obtain ⟨ρ1, e1, e2, j⟩ := h k s a (List.mem_cons_self ..) hj
    rw [List.map_cons]
    unfold loopD
    rw [e1]
    simp only [e2]
    exact loop_fold e sh step J l (k + 1) (step s a) j fun k s b hb hj => h k s b (List.mem_cons_of_mem _ hb) hj
end Dn
end

section
namespace Dn
open PySem PySem.Spec L2
local instance : Tb := noTb
/-! ## the newer combinators, applied -/
@[simp] theorem aSorted_ap (f : DA) (ρ : Ro) (ω : Wd) : aSorted f ρ ω = (match f ρ ω with
  | some ([.list xs], ω1) => if sortOk xs = true then some (sortD xs, ω1) else none
  | _ => none) := rfl
@[simp] theorem aSortOwn_ap (i : Nat) (ρ : Ro) (ω : Wd) : aSortOwn i ρ ω = (match ρ[i]? with
  | some (.own xs) => if sortOk xs = true then some (sortD xs, ω) else none
  | _ => none) := rfl
@[simp] theorem eGenN_ap (last : Bool) (fi : DA) (fg : DG) (ft : DT) (fe : DE) (vs : List Nat) (ρ : Ro) (ω : Wd) : eGenN last fi fg ft fe vs ρ ω = (match fi ρ ω with
  | none => none
  | some (ds, ω1) => anyD last fg ft fe (wipeR ρ vs) ds ω1) := rfl
@[simp] theorem vVal_ap (f : DE) (ρ : Ro) (ω : Wd) : vVal f ρ ω = (match f ρ ω with
  | none => none
  | some (d, ω1) => some (.val d, ω1)) := rfl
@[simp] theorem vOwn_ap (f : DA) (ρ : Ro) (ω : Wd) : vOwn f ρ ω = (match f ρ ω with
  | none => none
  | some (d, ω1) => some (.own d, ω1)) := rfl
@[simp] theorem sParV_ap (i j : Nat) (f h : DV) (ρ : Ro) (ω : Wd) : sParV i j f h ρ ω = (match f ρ ω with
  | none => none
  | some (s1, ω1) => match h ρ ω1 with
    | none => none
    | some (s2, ω2) => some (.nx ((ρ.set i s1).set j s2), ω2)) := rfl
/-- any / all of tests that leave the store alone -/
theorem anyD_of {fg : DG} {ft : DT} {fe : DE} {ρ : Ro} {ω : Wd} (last : Bool) (p : D → Bool) : ∀ (l : List D), (∀ a ∈ l, ∃ ρ1, fg a ρ = some ρ1 ∧ ft ρ1 ω = some (true, ω) ∧ fe ρ1 ω = some (.bool (p a), ω)) → anyD last fg ft fe ρ l ω = some (.bool (if last = true then l.any p else l.all p), ω)
  | [], _ => by cases last <;> rfl
  | a :: l, h => by
    obtain ⟨ρ1, h1, h2, h3⟩ := h a (List.mem_cons_self ..)
    have ih := anyD_of (fg := fg) (ft := ft) (fe := fe) (ρ := ρ) (ω := ω) last p l fun x hx => h x (List.mem_cons_of_mem _ hx)
    unfold anyD
    rw [h1]
    simp only [h2, if_true, h3]
    cases last <;> cases hp : p a <;> simp [hp, ih]
end Dn
end

section
namespace Dn
open PySem PySem.Spec L2
local instance : Tb := noTb
/-! ## subscripts -/
theorem atI_natE {α : Type} (xs : List α) (k : Nat) : atI xs (k : Int) = xs[k]? := by
  unfold atI ixN
  rw [if_pos (by omega)]
  by_cases h : k < xs.length
  · rw [if_pos (by omega)]; simp
  · rw [if_neg (by omega)]
    rw [List.getElem?_eq_none (by omega)]; rfl
theorem atI_nn {α : Type} (xs : List α) {i : Int} (h : 0 ≤ i) : atI xs i = xs[i.toNat]? := by
  have := atI_natE xs i.toNat
  rwa [show ((i.toNat : Nat) : Int) = i from by omega] at this
theorem atI_neg1 {α : Type} (xs : List α) : atI xs (-1) = xs.getLast? := by
  cases h : xs.getLast? with
  | none =>
    have := List.getLast?_eq_none_iff.mp h
    subst this; rfl
  | some v =>
    obtain ⟨ys, rfl⟩ := List.getLast?_eq_some_iff.mp h
    exact atI_last ys v
@[simp] theorem opIx_tupN (xs : List D) (k : Nat) : opIx (.tuple xs) (.int (k : Int)) = xs[k]? := atI_natE xs k
@[simp] theorem opIx_lstN (xs : List D) (k : Nat) : opIx (.list xs) (.int (k : Int)) = xs[k]? := atI_natE xs k
@[simp] theorem opIx_tupS (xs : List D) (k : Nat) : opIx (.tuple xs) (.int ((k : Int) + 1)) = xs[k + 1]? := atI_natE xs (k + 1)
@[simp] theorem opIx_lstS (xs : List D) (k : Nat) : opIx (.list xs) (.int ((k : Int) + 1)) = xs[k + 1]? := atI_natE xs (k + 1)
@[simp] theorem opIx_tup0 (xs : List D) : opIx (.tuple xs) (.int 0) = xs[0]? := atI_natE xs 0
@[simp] theorem opIx_lst0 (xs : List D) : opIx (.list xs) (.int 0) = xs[0]? := atI_natE xs 0
@[simp] theorem opIx_tup1 (xs : List D) : opIx (.tuple xs) (.int 1) = xs[1]? := atI_natE xs 1
@[simp] theorem opIx_lst1 (xs : List D) : opIx (.list xs) (.int 1) = xs[1]? := atI_natE xs 1
@[simp] theorem opIx_tup2 (xs : List D) : opIx (.tuple xs) (.int 2) = xs[2]? := atI_natE xs 2
@[simp] theorem opIx_lst2 (xs : List D) : opIx (.list xs) (.int 2) = xs[2]? := atI_natE xs 2
@[simp] theorem opIx_tup3 (xs : List D) : opIx (.tuple xs) (.int 3) = xs[3]? := atI_natE xs 3
@[simp] theorem opIx_lst3 (xs : List D) : opIx (.list xs) (.int 3) = xs[3]? := atI_natE xs 3
@[simp] theorem opIx_tup4 (xs : List D) : opIx (.tuple xs) (.int 4) = xs[4]? := atI_natE xs 4
@[simp] theorem opIx_lst4 (xs : List D) : opIx (.list xs) (.int 4) = xs[4]? := atI_natE xs 4
@[simp] theorem opIx_tupM (xs : List D) : opIx (.tuple xs) (.int (-1)) = xs.getLast? := atI_neg1 xs
@[simp] theorem opIx_lstM (xs : List D) : opIx (.list xs) (.int (-1)) = xs.getLast? := atI_neg1 xs
theorem opIx_tupI {xs : List D} {i : Int} (h : 0 ≤ i) : opIx (.tuple xs) (.int i) = xs[i.toNat]? := atI_nn xs h
theorem opIx_lstI {xs : List D} {i : Int} (h : 0 ≤ i) : opIx (.list xs) (.int i) = xs[i.toNat]? := atI_nn xs h
@[simp] theorem opLen_lst (xs : List D) : opLen [.list xs] = some (.int xs.length) := rfl
@[simp] theorem opLen_tup (xs : List D) : opLen [.tuple xs] = some (.int xs.length) := rfl
@[simp] theorem opTuple_lst (xs : List D) : opTuple [.list xs] = some (.tuple xs) := rfl
@[simp] theorem opTuple_tup (xs : List D) : opTuple [.tuple xs] = some (.tuple xs) := rfl
@[simp] theorem opAdd_int (i j : Int) : opAdd (.int i) (.int j) = some (.int (i + j)) := rfl
@[simp] theorem opSub_int (i j : Int) : opSub (.int i) (.int j) = some (.int (i - j)) := rfl
@[simp] theorem opNeg_int (i : Int) : opNeg (.int i) = some (.int (-i)) := rfl
theorem sizeLine_num : sizeLine = 16777216 := by decide
theorem opAdd_tup {x y : List D} (h : x.length + y.length ≤ 16777216) : opAdd (.tuple x) (.tuple y) = some (.tuple (x ++ y)) := by
  show (if _ then _ else _) = _
  rw [if_pos (by rw [sizeLine_num]; exact h)]
theorem opAdd_lst {x y : List D} (h : x.length + y.length ≤ 16777216) : opAdd (.list x) (.list y) = some (.list (x ++ y)) := by
  show (if _ then _ else _) = _
  rw [if_pos (by rw [sizeLine_num]; exact h)]
@[simp] theorem opLt_int (i j : Int) : opLt (.int i) (.int j) = some (.bool (decide (i < j))) := rfl
@[simp] theorem opLe_int (i j : Int) : opLe (.int i) (.int j) = some (.bool (decide (i ≤ j))) := rfl
@[simp] theorem opGt_int (i j : Int) : opGt (.int i) (.int j) = some (.bool (decide (j < i))) := rfl
@[simp] theorem opGe_int (i j : Int) : opGe (.int i) (.int j) = some (.bool (decide (j ≤ i))) := rfl
@[simp] theorem opEq_intS (i j : Int) : opEq (.int i) (.int j) = some (.bool (decide (i = j))) := opEq_int i j
@[simp] theorem opNe_intS (i j : Int) : opNe (.int i) (.int j) = some (.bool (!decide (i = j))) := opNe_int i j
@[simp] theorem opIsN_none (x : D) : opIsN x .none = some (.bool (isNon x)) := rfl
@[simp] theorem opNotN_none (x : D) : opNotN x .none = some (.bool (!isNon x)) := rfl
@[simp] theorem isNon_none : isNon .none = true := rfl
@[simp] theorem isNon_int (i : Int) : isNon (.int i) = false := rfl
@[simp] theorem isNon_bool (i : Bool) : isNon (.bool i) = false := rfl
@[simp] theorem isNon_str (i : Str) : isNon (.str i) = false := rfl
@[simp] theorem isNon_tup (i : List D) : isNon (.tuple i) = false := rfl
@[simp] theorem isNon_lst (i : List D) : isNon (.list i) = false := rfl
@[simp] theorem opNotB_bool (a b : Bool) : opNotB (.bool a) (.bool b) = some (.bool (!decide (a = b))) := rfl
@[simp] theorem opIsB_bool (a b : Bool) : opIsB (.bool a) (.bool b) = some (.bool (decide (a = b))) := rfl
@[simp] theorem opIsi_none (T : String) : opIsi T .none = some (.bool false) := rfl
@[simp] theorem opIsi_bool (T : String) (b : Bool) : opIsi T (.bool b) = some (.bool (T == "bool" || T == "int")) := rfl
@[simp] theorem opIsi_int (T : String) (b : Int) : opIsi T (.int b) = some (.bool (T == "int")) := rfl
@[simp] theorem opIsi_str (T : String) (b : Str) : opIsi T (.str b) = some (.bool (T == "str")) := rfl
@[simp] theorem opIsi_lst (T : String) (b : List D) : opIsi T (.list b) = some (.bool (T == "list")) := rfl
@[simp] theorem opIsi_tup (T : String) (b : List D) : opIsi T (.tuple b) = some (.bool (T == "tuple")) := rfl
@[simp] theorem opMin2_int (i j : Int) : opMin2 [.int i, .int j] = some (.int (min i j)) := by
  unfold opMin2
  simp only [Int.min_def]
  by_cases h : j < i
  · rw [if_pos h, if_neg (by omega)]
  · rw [if_neg h, if_pos (by omega)]
@[simp] theorem opMax2_int (i j : Int) : opMax2 [.int i, .int j] = some (.int (max i j)) := by
  unfold opMax2
  simp only [Int.max_def]
  by_cases h : j > i
  · rw [if_pos h, if_pos (by omega)]
  · rw [if_neg h]
    by_cases h2 : i ≤ j
    · rw [if_pos h2, show i = j from by omega]
    · rw [if_neg h2]
theorem intsOf_map' (ns : List Int) : intsOf (ns.map .int) = some ns := by
  induction ns with
  | nil => rfl
  | cons n ns ih => rw [List.map_cons, intsOf, ih]; rfl
theorem blsOf_map' (ns : List Bool) : blsOf (ns.map .bool) = some ns := by
  induction ns with
  | nil => rfl
  | cons n ns ih => rw [List.map_cons, blsOf, ih]; rfl
@[simp] theorem opSum_lst (ns : List Int) : opSum [.list (ns.map .int)] = some (.int ns.sum) := by
  simp [opSum, intsOf_map']
@[simp] theorem opSum_tup (ns : List Int) : opSum [.tuple (ns.map .int)] = some (.int ns.sum) := by
  simp [opSum, intsOf_map']
@[simp] theorem opAll_lst (ns : List Bool) : opAll [.list (ns.map .bool)] = some (.bool (ns.all id)) := by
  simp [opAll, blsOf_map']
@[simp] theorem opAny_lst (ns : List Bool) : opAny [.list (ns.map .bool)] = some (.bool (ns.any id)) := by
  simp [opAny, blsOf_map']
/-! ## the order of data -/
open PySem.W in
theorem dataLt_irrefl (x : D) : dataLt x x = false := PyProof.Rows.lex_irrefl _
open PySem.W in
theorem dataLt_asymm {x y : D} (h : dataLt x y = true) : dataLt y x = false := by
  cases e : dataLt y x with
  | false => rfl
  | true =>
    have := PyProof.Rows.lex_trans _ _ _ h e
    rw [PyProof.Rows.lex_irrefl] at this; cases this
open PySem.W in
theorem dataLt_cons {x y : D} {xs ys : List D} (h : alike x y = true) : dataLt (.tuple (x :: xs)) (.tuple (y :: ys)) = if PyData.eqv x y = true then dataLt (.tuple xs) (.tuple ys) else dataLt x y := by
  obtain ⟨h1, h2⟩ := toks_eqv x y h
  rw [dataLt_tuple, toks_all_cons, toks_all_cons, PyProof.Rows.lex_self]
  cases e : PyData.eqv x y with
  | true =>
    rw [if_pos rfl, h1 e, lex_pre, dataLt_tuple]
  | false =>
    rw [if_neg Bool.false_ne_true, h2 e]; rfl
open PySem.W in
theorem dataLt_nil_cons (y : D) (ys : List D) : dataLt (.tuple []) (.tuple (y :: ys)) = true := by
  rw [dataLt_tuple, toks_all_cons, keyToksAll, PyProof.Rows.lex_diff (by simp)]; rfl
open PySem.W in
theorem dataLt_cons_nil (y : D) (ys : List D) : dataLt (.tuple (y :: ys)) (.tuple []) = false := by
  rw [dataLt_tuple, toks_all_cons, keyToksAll, PyProof.Rows.lex_diff (by simp)]; rfl
open PySem.W in
theorem dataLt_ints_cons (x y : Int) (xs ys : List D) : dataLt (.tuple (.int x :: xs)) (.tuple (.int y :: ys)) = if x = y then dataLt (.tuple xs) (.tuple ys) else decide (x < y) := by
  rw [dataLt_cons rfl, dataLt_int]
  by_cases h : x = y
  · rw [if_pos h, if_pos (by simp [PyData.eqv, h])]
  · rw [if_neg h, if_neg (by simp [PyData.eqv, h])]
theorem bestD_min {m : D} : ∀ {xs : List D} {x : D}, m ∈ x :: xs → (∀ y ∈ x :: xs, y ≠ m → PySem.W.dataLt m y = true) → bestD false x xs = m
  | [], x, hm, _ => (List.mem_singleton.mp hm).symm
  | y :: ys, x, hm, h => by
    have key : m ∈ (if PySem.W.dataLt y x = true then y else x) :: ys ∧ ∀ z ∈ (if PySem.W.dataLt y x = true then y else x) :: ys, z ∈ x :: y :: ys := by
      refine ⟨?_, fun z hz => ?_⟩
      · rcases List.mem_cons.mp hm with rfl | hm
        · by_cases e : y = m
          · subst e; rw [ite_self]; exact List.mem_cons_self ..
          · rw [if_neg (by rw [dataLt_asymm (h y (by simp) e)]; exact Bool.false_ne_true)]
            exact List.mem_cons_self ..
        · rcases List.mem_cons.mp hm with rfl | hm
          · by_cases e : x = m
            · subst e; rw [ite_self]; exact List.mem_cons_self ..
            · rw [if_pos (h x (by simp) e)]; exact List.mem_cons_self ..
          · exact List.mem_cons_of_mem _ hm
      · rcases List.mem_cons.mp hz with rfl | hz
        · split <;> simp
        · exact List.mem_cons_of_mem _ (List.mem_cons_of_mem _ hz)
    have ih := bestD_min (m := m) key.1 fun z hz hne => h z (key.2 z hz) hne
    show (y :: ys).foldl (fun a y => if PySem.W.dataLt y a = true then y else a) x = m
    rw [List.foldl_cons]
    exact ih
theorem plainAll_of {l : List D} (h : ∀ x ∈ l, x.plain = true) : PyData.plainAll l = true := by
  induction l with
  | nil => rfl
  | cons x l ih =>
    rw [PyData.plainAll, h x (List.mem_cons_self ..), ih fun y hy => h y (List.mem_cons_of_mem _ hy)]; rfl
theorem depthAll_of {n : Nat} {l : List D} (h : ∀ x ∈ l, x.depth ≤ n) : PyData.depthAll l ≤ n := by
  induction l with
  | nil => exact Nat.zero_le _
  | cons x l ih =>
    rw [PyData.depthAll]
    exact Nat.max_le.mpr ⟨h x (List.mem_cons_self ..), ih fun y hy => h y (List.mem_cons_of_mem _ hy)⟩
theorem bestOk_of {l : List D} (hp : ∀ x ∈ l, x.plain = true) (hd : ∀ x ∈ l, x.depth ≤ 60) (ha : ∀ x ∈ l, ∀ y ∈ l, PySem.W.alike x y = true) (hn : ∀ x ∈ l, notNon x = true) : bestOk l = true := by
  unfold bestOk
  rw [plainAll_of hp, decide_eq_true (depthAll_of hd), List.all_eq_true.mpr fun x hx => List.all_eq_true.mpr fun y hy => ha x hx y hy, List.all_eq_true.mpr hn]; rfl
/-- the least of a list of data of one kind -/
theorem opBest_min {l : List D} {m : D} (hm : m ∈ l) (hp : ∀ x ∈ l, x.plain = true) (hd : ∀ x ∈ l, x.depth ≤ 60) (ha : ∀ x ∈ l, ∀ y ∈ l, PySem.W.alike x y = true) (hn : ∀ x ∈ l, notNon x = true) (h : ∀ y ∈ l, y ≠ m → PySem.W.dataLt m y = true) : opBest false [.list l] = some m := by
  cases l with
  | nil => cases hm
  | cons x xs =>
    show (if _ then _ else _) = _
    rw [if_pos (bestOk_of hp hd ha hn), bestD_min hm h]
theorem opBest_ints {l : List Int} {m : Int} (hm : m ∈ l) (h : ∀ y ∈ l, m ≤ y) : opBest false [.list (l.map .int)] = some (.int m) := by
  refine opBest_min (List.mem_map.mpr ⟨m, hm, rfl⟩) ?_ ?_ ?_ ?_ ?_
  all_goals (intro x hx; obtain ⟨i, hi, rfl⟩ := List.mem_map.mp hx)
  · rfl
  · simp [PyData.depth]
  · intro y hy; obtain ⟨j, hj, rfl⟩ := List.mem_map.mp hy; rfl
  · rfl
  · intro hne
    rw [PySem.W.dataLt_int]
    have := h i hi
    have : i ≠ m := fun e => hne (by rw [e])
    exact decide_eq_true (by omega)
/-! ## lists against the empty list -/
theorem opNe_nil {l : List D} (hp : PyData.plainAll l = true) (hd : PyData.depthAll l ≤ 59) : opNe (.list l) (.list []) = some (.bool (!l.isEmpty)) := by
  have : cmpOk (.list l) (.list []) = true := by
    simp [cmpOk, PyData.plain, hp, PyData.depth, PyData.plainAll]; omega
  unfold opNe
  rw [if_pos this]
  cases l <;> simp [PyData.eqv, PyData.eqvAll]
theorem opEq_nil {l : List D} (hp : PyData.plainAll l = true) (hd : PyData.depthAll l ≤ 59) : opEq (.list l) (.list []) = some (.bool l.isEmpty) := by
  have : cmpOk (.list l) (.list []) = true := by
    simp [cmpOk, PyData.plain, hp, PyData.depth, PyData.plainAll]; omega
  unfold opEq
  rw [if_pos this]
  cases l <;> simp [PyData.eqv, PyData.eqvAll]
theorem opNe_nilT {l : List D} (hp : PyData.plainAll l = true) (hd : PyData.depthAll l ≤ 59) : opNe (.tuple l) (.tuple []) = some (.bool (!l.isEmpty)) := by
  have : cmpOk (.tuple l) (.tuple []) = true := by
    simp [cmpOk, PyData.plain, hp, PyData.depth, PyData.plainAll]; omega
  unfold opNe
  rw [if_pos this]
  cases l <;> simp [PyData.eqv, PyData.eqvAll]
theorem allD_of {fg : DG} {ft : DT} {fe : DE} {ρ : Ro} {ω : Wd} (p : D → Bool) (l : List D) (h : ∀ a ∈ l, ∃ ρ1, fg a ρ = some ρ1 ∧ ft ρ1 ω = some (true, ω) ∧ fe ρ1 ω = some (.bool (p a), ω)) : anyD false fg ft fe ρ l ω = some (.bool (l.all p), ω) := (anyD_of false p l h).trans (by simp)
theorem anyD_of' {fg : DG} {ft : DT} {fe : DE} {ρ : Ro} {ω : Wd} (p : D → Bool) (l : List D) (h : ∀ a ∈ l, ∃ ρ1, fg a ρ = some ρ1 ∧ ft ρ1 ω = some (true, ω) ∧ fe ρ1 ω = some (.bool (p a), ω)) : anyD true fg ft fe ρ l ω = some (.bool (l.any p), ω) := (anyD_of true p l h).trans (by simp)
/-! ## loops -/
/-- a loop with a state of slots; it never leaves early -/
theorem loop_inv {α : Type} {g : DG} {f : DS} {ω : Wd} (e : α → D) (I : List α → Ro → Prop) : ∀ (l : List α) (pre : List α) (ρ : Ro), I pre ρ → (∀ (pre : List α) (a : α) (ρ : Ro), a ∈ l → I pre ρ → ∃ ρ1 ρ2, g (e a) ρ = some ρ1 ∧ f ρ1 ω = some (.nx ρ2, ω) ∧ I (pre ++ [a]) ρ2) → ∃ ρ', loopD g f (l.map e) ρ ω = some (.nx ρ', ω) ∧ I (pre ++ l) ρ'
  | [], pre, ρ, h, _ => ⟨ρ, rfl, by rw [List.append_nil]; exact h⟩
  | a :: l, pre, ρ, h, hs => by
    obtain ⟨ρ1, ρ2, e1, e2, h2⟩ := hs pre a ρ (List.mem_cons_self ..) h
    obtain ⟨ρ', e3, h3⟩ := loop_inv e I l (pre ++ [a]) ρ2 h2 fun p b σ hb hi => hs p b σ (List.mem_cons_of_mem _ hb) hi
    refine ⟨ρ', ?_, ?_⟩
    · rw [List.map_cons]
      unfold loopD
      rw [e1]
      simp only [e2, e3]
    · rw [List.append_assoc] at h3; exact h3
/-- a loop by the shape of its slots behind a part of the items; x stands for slots that are of no account -/
theorem loop_shP {α β : Type} {g : DG} {f : DS} {ω : Wd} (e : α → D) (sh : List α → β → Ro) {l0 : List α} : ∀ (l pre : List α) (x : β), l0 = pre ++ l → (∀ (pre : List α) (a : α) (suf : List α) (x : β), l0 = pre ++ a :: suf → ∃ ρ1, g (e a) (sh pre x) = some ρ1 ∧ ∃ x', f ρ1 ω = some (.nx (sh (pre ++ [a]) x'), ω)) → ∃ x', loopD g f (l.map e) (sh pre x) ω = some (.nx (sh l0 x'), ω)
  | [], pre, x, h, _ => ⟨x, by rw [List.append_nil] at h; subst h; rfl⟩
  | a :: l, pre, x, h, hs => by
    obtain ⟨ρ1, e1, x1, e2⟩ := hs pre a l x h
    obtain ⟨x', e3⟩ := loop_shP e sh l (pre ++ [a]) x1 (by rw [List.append_assoc]; exact h) hs
    refine ⟨x', ?_⟩
    rw [List.map_cons]
    unfold loopD
    rw [e1]
    simp only [e2, e3]
theorem loop_sh {α β : Type} {g : DG} {f : DS} {ω : Wd} (e : α → D) (sh : List α → β → Ro) (l : List α) (x : β) (h : ∀ (pre : List α) (a : α) (suf : List α) (x : β), l = pre ++ a :: suf → ∃ ρ1, g (e a) (sh pre x) = some ρ1 ∧ ∃ x', f ρ1 ω = some (.nx (sh (pre ++ [a]) x'), ω)) : ∃ x', loopD g f (l.map e) (sh [] x) ω = some (.nx (sh l x'), ω) :=
  loop_shP e sh l [] x rfl h
/-- a loop that looks at each item and returns early where one fails -/
theorem loop_all {α : Type} {g : DG} {f : DS} {ω : Wd} {d : D} (e : α → D) (p : α → Bool) (I : Ro → Prop) : ∀ (l : List α) (ρ : Ro), I ρ → (∀ (a : α) (ρ : Ro), a ∈ l → I ρ → ∃ ρ1, g (e a) ρ = some ρ1 ∧ ((p a = true ∧ ∃ ρ2, f ρ1 ω = some (.nx ρ2, ω) ∧ I ρ2) ∨ (p a = false ∧ f ρ1 ω = some (.rt d, ω)))) → (l.all p = true ∧ ∃ ρ', loopD g f (l.map e) ρ ω = some (.nx ρ', ω) ∧ I ρ') ∨ (l.all p = false ∧ loopD g f (l.map e) ρ ω = some (.rt d, ω))
  | [], ρ, h, _ => .inl ⟨rfl, ρ, rfl, h⟩
  | a :: l, ρ, h, hs => by
    obtain ⟨ρ1, e1, ⟨hp, ρ2, e2, h2⟩ | ⟨hp, e2⟩⟩ := hs a ρ (List.mem_cons_self ..) h
    · rcases loop_all e p I l ρ2 h2 fun b σ hb hi => hs b σ (List.mem_cons_of_mem _ hb) hi with ⟨q, ρ', e3, h3⟩ | ⟨q, e3⟩
      · refine .inl ⟨by rw [List.all_cons, hp, q]; rfl, ρ', ?_, h3⟩
        rw [List.map_cons]; unfold loopD; rw [e1]; simp only [e2, e3]
      · refine .inr ⟨by rw [List.all_cons, hp, q]; rfl, ?_⟩
        rw [List.map_cons]; unfold loopD; rw [e1]; simp only [e2, e3]
    · refine .inr ⟨by rw [List.all_cons, hp]; rfl, ?_⟩
      rw [List.map_cons]; unfold loopD; rw [e1]; simp only [e2]
theorem loop_one {g : DG} {f : DS} {ω : Wd} {d : D} {ρ ρ1 ρ2 : Ro} (e1 : g d ρ = some ρ1) (e2 : f ρ1 ω = some (.nx ρ2, ω)) : loopD g f [d] ρ ω = some (.nx ρ2, ω) := by
  unfold loopD; rw [e1]; simp only [e2]; rfl
/-- a while, by a measure -/
theorem while_inv {c : DT} {f : DS} {ω : Wd} (I : Nat → Ro → Prop) (Q : Ro → Prop) (hs : ∀ n ρ, I n ρ → (c ρ ω = some (false, ω) ∧ Q ρ) ∨ (c ρ ω = some (true, ω) ∧ ∃ ρ' m, f ρ ω = some (.nx ρ', ω) ∧ m < n ∧ I m ρ')) : ∀ (k n : Nat) (ρ : Ro), I n ρ → n < k → ∃ ρ', whileD c f k ρ ω = some (.nx ρ', ω) ∧ Q ρ'
  | 0, n, _, _, hk => absurd hk (Nat.not_lt_zero _)
  | k + 1, n, ρ, h, hk => by
    rcases hs n ρ h with ⟨e, q⟩ | ⟨e, ρ', m, e2, hm, h2⟩
    · exact ⟨ρ, by unfold whileD; rw [e]; rfl, q⟩
    · obtain ⟨ρ2, e3, q⟩ := while_inv I Q hs k m ρ' h2 (by omega)
      exact ⟨ρ2, by unfold whileD; rw [e]; simp only [if_true, e2, e3], q⟩
/-! ## statements, step by step, the store left alone -/
section
variable {f h : DS} {ef : DE} {af : DA} {c : DT} {g : DG} {ρ ρ1 : Ro} {ω : Wd} {d : D} {ds xs : List D} {i : Nat} {r : Option (Out × Wd)}
theorem x_fn {m : Nat} (k : f (ds.map SV.val ++ List.replicate (m - ds.length) .un) ω = some (.rt d, ω)) : defD m f ds ω = some (d, ω) := by unfold defD; rw [k]
theorem x_seq (e : f ρ ω = some (.nx ρ1, ω)) (k : h ρ1 ω = r) : sSeq f h ρ ω = r := by rw [sSeq_ap, e]; exact k
theorem x_end (e : f ρ ω = some (.rt d, ω)) : sSeq f h ρ ω = some (.rt d, ω) := by rw [sSeq_ap, e]
theorem x_set (e : ef ρ ω = some (d, ω)) (k : h (ρ.set i (.val d)) ω = r) : sSeq (sSet i ef) h ρ ω = r := x_seq (by rw [sSet_ap, e]) k
theorem x_set1 (e : ef ρ ω = some (d, ω)) : sSet i ef ρ ω = some (.nx (ρ.set i (.val d)), ω) := by rw [sSet_ap, e]
theorem x_own (e : af ρ ω = some (ds, ω)) (k : h (ρ.set i (.own ds)) ω = r) : sSeq (sOwn i af) h ρ ω = r := x_seq (by rw [sOwn_ap, e]) k
theorem x_app1 (e : ef ρ ω = some (d, ω)) (hx : ρ[i]? = some (.own xs)) (hz : xs.length < 16777216) : sApp i ef ρ ω = some (.nx (ρ.set i (.own (xs ++ [d]))), ω) := by
  rw [sApp_ap, e]; simp only [hx]; rw [if_pos (by rw [sizeLine_num]; exact hz)]
theorem x_app (e : ef ρ ω = some (d, ω)) (hx : ρ[i]? = some (.own xs)) (hz : xs.length < 16777216) (k : h (ρ.set i (.own (xs ++ [d]))) ω = r) : sSeq (sApp i ef) h ρ ω = r := x_seq (x_app1 e hx hz) k
theorem x_ext1 (e : ef ρ ω = some (.list ds, ω)) (hx : ρ[i]? = some (.own xs)) (hz : xs.length + ds.length ≤ 16777216) : sExt i ef ρ ω = some (.nx (ρ.set i (.own (xs ++ ds))), ω) := by
  rw [sExt_ap, e]; simp only [hx]; rw [if_pos (by rw [sizeLine_num]; exact hz)]
theorem x_ifT (e : c ρ ω = some (true, ω)) (k : f ρ ω = r) : sIf c f h ρ ω = r := by rw [sIf_ap, e]; exact k
theorem x_ifF (e : c ρ ω = some (false, ω)) (k : h ρ ω = r) : sIf c f h ρ ω = r := by rw [sIf_ap, e]; exact k
theorem x_for1 (e : af ρ ω = some (ds, ω)) (l : loopD g f ds ρ ω = r) : sFor af g f ρ ω = r := by rw [sFor_ap, e]; exact l
theorem x_for (e : af ρ ω = some (ds, ω)) (l : loopD g f ds ρ ω = some (.nx ρ1, ω)) (k : h ρ1 ω = r) : sSeq (sFor af g f) h ρ ω = r := x_seq (x_for1 e l) k
theorem x_ret (e : ef ρ ω = some (d, ω)) : sRet ef ρ ω = some (.rt d, ω) := by rw [sRet_ap, e]
theorem x_while (l : whileD c f FUEL ρ ω = some (.nx ρ1, ω)) (k : h ρ1 ω = r) : sSeq (sWhile c f) h ρ ω = r := x_seq l k
theorem x_next : sNext ρ ω = some (.nx ρ, ω) := rfl
theorem x_lc {fi : DA} {fg : DG} {ft : DT} {fe : DE} {vs : List Nat} (e : fi ρ ω = some (ds, ω)) (l : lcD fg ft fe (wipeR ρ vs) ds ω = some (xs, ω)) : eLcN fi fg ft fe vs ρ ω = some (xs, ω) := by rw [eLcN_ap, e]; exact l
theorem x_gen {last : Bool} {fi : DA} {fg : DG} {ft : DT} {fe : DE} {vs : List Nat} (e : fi ρ ω = some (ds, ω)) (l : anyD last fg ft fe (wipeR ρ vs) ds ω = some (d, ω)) : eGenN last fi fg ft fe vs ρ ω = some (d, ω) := by rw [eGenN_ap, e]; exact l
theorem x_ofN (e : af ρ ω = some (xs, ω)) : eOfN af ρ ω = some (.list xs, ω) := by rw [eOfN_ap, e]
theorem x_call {op : List D → Option D} (e : af ρ ω = some (xs, ω)) (k : op xs = some d) : eCall op af ρ ω = some (d, ω) := by rw [eCall_ap, e]; simp only [k]
theorem x_cons {x : D} (e : ef ρ ω = some (x, ω)) (k : af ρ ω = some (xs, ω)) : aCons ef af ρ ω = some (x :: xs, ω) := by rw [aCons_ap, e]; simp only [k]
theorem x_one {x : D} (e : ef ρ ω = some (x, ω)) : aCons ef aNil ρ ω = some ([x], ω) := x_cons e rfl
theorem x_bin {op : D → D → Option D} {f h : DE} {x y : D} (e : f ρ ω = some (x, ω)) (e2 : h ρ ω = some (y, ω)) (k : op x y = some d) : eBin op f h ρ ω = some (d, ω) := by rw [eBin_ap, e]; simp only [e2, k]
theorem x_un {op : D → Option D} {f : DE} {x : D} (e : f ρ ω = some (x, ω)) (k : op x = some d) : eUn op f ρ ω = some (d, ω) := by rw [eUn_ap, e]; simp only [k]
theorem x_tE {b : Bool} (e : ef ρ ω = some (.bool b, ω)) : tOfE ef ρ ω = some (b, ω) := by rw [tOfE_ap, e]
theorem x_fnP {f : List D → Wd → Option (D × Wd)} (e : af ρ ω = some (xs, ω)) (k : f xs ⟨false, []⟩ = some (d, ⟨false, []⟩)) : eFunP f af ρ ω = some (d, ω) := by rw [eFunP_ap, e]; simp only [k]
end
theorem FUEL_num : FUEL = 1000000 := rfl
theorem rgOk_of {i j : Int} (h1 : -1000000000000 ≤ i) (h2 : i ≤ 1000000000000) (h3 : -1000000000000 ≤ j) (h4 : j ≤ 1000000000000) (h5 : j - i ≤ 16777216) : rgOk i j = true := by
  rw [rgOk_eq]; simp; omega
abbrev natD (k : Nat) : D := .int (k : Int)
theorem x_rng {f : DE} {ρ : Ro} {ω : Wd} {n : Nat} (e : f ρ ω = some (.int n, ω)) (hn : n ≤ 16777216) : iRange (aCons f aNil) ρ ω = some ((List.range n).map natD, ω) := by
  rw [iRange_ap, aCons_ap, e]
  simp only [aNil_ap]
  rw [if_pos (rgOk_nat hn), rgD0]
theorem x_rng1 {f g : DE} {ρ : Ro} {ω : Wd} {a n : Nat} (e : f ρ ω = some (.int a, ω)) (e2 : g ρ ω = some (.int ((a + n : Nat) : Int), ω)) (hn : a + n ≤ 16777216) : iRange (aCons f (aCons g aNil)) ρ ω = some ((List.range n).map fun k => natD (a + k), ω) := by
  rw [iRange_ap, aCons_ap, e]
  simp only [aCons_ap, e2, aNil_ap]
  rw [if_pos (rgOk_of (by omega) (by omega) (by omega) (by omega) (by omega))]
  unfold rgD
  rw [show (((a + n : Nat) : Int) - (a : Int)).toNat = n from by omega]
  congr 2
end Dn
end

section
namespace Dn
open PySem PySem.Spec L2
local instance : Tb := noTb
variable {t : Wd → Prop} {ρ : Ro} {Q Q' : Ro → Prop} {R : D → Prop}
/-! ## further rules over drawn input -/
theorem WS.step {f g : DS} {ρ1 : Ro} (e : ∀ ω, f ρ ω = some (.nx ρ1, ω)) (k : WS t g ρ1 Q R) : WS t (sSeq f g) ρ Q R := fun ω i => by
  obtain ⟨ρ2, ω2, i2, h⟩ := k ω i
  refine ⟨ρ2, ω2, i2, ?_⟩
  rw [sSeq_ap, e]; exact h
theorem WS.skip {c : DT} {f g : DS} (e : ∀ ω, c ρ ω = some (false, ω)) (k : WS t g ρ Q R) : WS t (sSeq (sIf c f sNext) g) ρ Q R := WS.step (fun ω => x_ifF (e ω) rfl) k
theorem WS.setP {i : Nat} {f : DE} {g : DS} {d : D} (e : ∀ ω, f ρ ω = some (d, ω)) (k : WS t g (ρ.set i (.val d)) Q R) : WS t (sSeq (sSet i f) g) ρ Q R := WS.step (fun ω => x_set1 (e ω)) k
theorem WS.ownP {i : Nat} {f : DA} {g : DS} {ds : List D} (e : ∀ ω, f ρ ω = some (ds, ω)) (k : WS t g (ρ.set i (.own ds)) Q R) : WS t (sSeq (sOwn i f) g) ρ Q R := WS.step (fun ω => by rw [sOwn_ap, e]) k
theorem WS.pureR {f : DS} (d : D) (h : ∀ ω, f ρ ω = some (.rt d, ω)) (r : R d) : WS t f ρ Q R := fun ω i => ⟨ρ, ω, i, .inr ⟨d, h ω, r⟩⟩
theorem WS.retP {f : DE} {d : D} (e : ∀ ω, f ρ ω = some (d, ω)) (r : R d) : WS t (sRet f) ρ Q R := WS.pureR d (fun ω => x_ret (e ω)) r
theorem WS.asgThen {f : DE} {g : DG} {h : DS} {P : D → Prop} (e : WE t f ρ P) (k : ∀ d, P d → ∃ ρ1, g d ρ = some ρ1 ∧ WS t h ρ1 Q R) : WS t (sSeq (sAsg f g) h) ρ Q R := fun ω i => by
  obtain ⟨d, ω1, e1, i1, p⟩ := e ω i
  obtain ⟨ρ1, e2, w⟩ := k d p
  obtain ⟨ρ2, ω2, i2, h2⟩ := w ω1 i1
  refine ⟨ρ2, ω2, i2, ?_⟩
  rw [sSeq_ap, sAsg_ap, e1]
  simp only [e2]
  exact h2
/-- a comprehension with draws in its items -/
theorem WA.lcL {fg : DG} {ft : DT} {fe : DE} {P Q : D → Prop} (hk : ∀ d, P d → ∃ ρ1, fg d ρ = some ρ1 ∧ (∀ ω, ft ρ1 ω = some (true, ω)) ∧ WE t fe ρ1 Q) : ∀ (ds : List D), (∀ d ∈ ds, P d) → ∀ ω, t ω → ∃ xs ω', lcD fg ft fe ρ ds ω = some (xs, ω') ∧ t ω' ∧ xs.length = ds.length ∧ ∀ x ∈ xs, Q x
  | [], _, ω, i => ⟨[], ω, rfl, i, rfl, by simp⟩
  | d :: ds, hp, ω, i => by
    obtain ⟨ρ1, e1, e2, w⟩ := hk d (hp d (List.mem_cons_self ..))
    obtain ⟨x, ω1, e3, i1, q⟩ := w ω i
    obtain ⟨xs, ω2, e4, i2, hl, hq⟩ := WA.lcL hk ds (fun d hd => hp d (List.mem_cons_of_mem _ hd)) ω1 i1
    refine ⟨x :: xs, ω2, ?_, i2, by rw [List.length_cons, hl, List.length_cons], fun y hy => ?_⟩
    · unfold lcD
      rw [e1]
      simp only [e2, if_true, e3, e4]
    · rcases List.mem_cons.mp hy with rfl | hy
      · exact q
      · exact hq y hy
theorem WA.lc {fi : DA} {fg : DG} {ft : DT} {fe : DE} {vs : List Nat} {n : Nat} {P Q : D → Prop} (hi : WA t fi ρ (fun ds => ds.length = n ∧ ∀ d ∈ ds, P d)) (hk : ∀ d, P d → ∃ ρ1, fg d (wipeR ρ vs) = some ρ1 ∧ (∀ ω, ft ρ1 ω = some (true, ω)) ∧ WE t fe ρ1 Q) : WA t (eLcN fi fg ft fe vs) ρ (fun xs => xs.length = n ∧ ∀ x ∈ xs, Q x) := fun ω i => by
  obtain ⟨ds, ω1, e1, i1, hl, hp⟩ := hi ω i
  obtain ⟨xs, ω2, e2, i2, hl2, hq⟩ := WA.lcL hk ds hp ω1 i1
  exact ⟨xs, ω2, by rw [eLcN_ap, e1]; exact e2, i2, hl2.trans hl, hq⟩
theorem WA.pure {f : DA} {P : List D → Prop} (ds : List D) (h : ∀ ω, f ρ ω = some (ds, ω)) (p : P ds) : WA t f ρ P := fun ω i => ⟨ds, ω, h ω, i, p⟩
theorem WE.if' {c : DT} {f g : DE} {P : D → Prop} {S : Bool → Prop} (hc : WT t c ρ S) (h1 : S true → WE t f ρ P) (h2 : S false → WE t g ρ P) : WE t (eIf c f g) ρ P := fun ω i => by
  obtain ⟨b, ω1, e1, i1, s⟩ := hc ω i
  cases b with
  | true =>
    obtain ⟨d, ω2, e2, i2, p⟩ := h1 s ω1 i1
    exact ⟨d, ω2, by rw [eIf_ap, e1]; simp only [if_true, e2], i2, p⟩
  | false =>
    obtain ⟨d, ω2, e2, i2, p⟩ := h2 s ω1 i1
    exact ⟨d, ω2, by rw [eIf_ap, e1]; simp only [Bool.false_eq_true, if_false, e2], i2, p⟩
theorem WT.pure {c : DT} {P : Bool → Prop} (b : Bool) (h : ∀ ω, c ρ ω = some (b, ω)) (p : P b) : WT t c ρ P := fun ω i => ⟨b, ω, h ω, i, p⟩
theorem WT.or {f g : DT} {P P' Q : Bool → Prop} (h : WT t f ρ P) (h' : P false → WT t g ρ P') (kt : P true → Q true) (kf : P false → ∀ c, P' c → Q c) : WT t (tOrD f g) ρ Q := fun ω i => by
  obtain ⟨c, ω1, e1, i1, p1⟩ := h ω i
  cases c with
  | true => exact ⟨true, ω1, by simp [e1], i1, kt p1⟩
  | false =>
    obtain ⟨c, ω2, e2, i2, p2⟩ := h' p1 ω1 i1
    exact ⟨c, ω2, by simp [e1, e2], i2, kf p1 c p2⟩
theorem WT.not {f : DT} {P Q : Bool → Prop} (h : WT t f ρ P) (k : ∀ c, P c → Q (!c)) : WT t (tNotD f) ρ Q := fun ω i => by
  obtain ⟨c, ω1, e1, i1, p1⟩ := h ω i
  exact ⟨!c, ω1, by simp [e1], i1, k c p1⟩
/-- an item at a drawn place of a list that is known -/
theorem WE.at {f g : DE} {P : D → Prop} {ds : List D} (h : ∀ ω, f ρ ω = some (.list ds, ω)) (hg : WE t g ρ (IntIn 0 ds.length)) (k : ∀ d ∈ ds, P d) : WE t (eBin opIx f g) ρ P := by
  refine WE.bin (P := fun d => d = .list ds) (WE.pure _ h rfl) hg ?_
  rintro x y rfl ⟨i, rfl, h0, h1⟩
  obtain ⟨d, e, hd⟩ := atI_mem (xs := ds) h0 h1
  exact ⟨d, e, k d hd⟩
theorem WE.atT {f g : DE} {P : D → Prop} {ds : List D} (h : ∀ ω, f ρ ω = some (.tuple ds, ω)) (hg : WE t g ρ (IntIn 0 ds.length)) (k : ∀ d ∈ ds, P d) : WE t (eBin opIx f g) ρ P := by
  refine WE.bin (P := fun d => d = .tuple ds) (WE.pure _ h rfl) hg ?_
  rintro x y rfl ⟨i, rfl, h0, h1⟩
  obtain ⟨d, e, hd⟩ := atI_mem (xs := ds) h0 h1
  exact ⟨d, e, k d hd⟩
theorem WA.one {f : DE} {P : D → Prop} {Q : List D → Prop} (h : WE t f ρ P) (k : ∀ d, P d → Q [d]) : WA t (aCons f aNil) ρ Q := fun ω i => by
  obtain ⟨d, ω1, e1, i1, p⟩ := h ω i
  exact ⟨[d], ω1, x_cons' e1, i1, k d p⟩
where
  x_cons' {f : DE} {ω ω1 : Wd} {d : D} (e : f ρ ω = some (d, ω1)) : aCons f aNil ρ ω = some ([d], ω1) := by rw [aCons_ap, e]; rfl
theorem WE.tuple {f : DE} {P : D → Prop} {S : List D → Prop} (h : WE t f ρ (fun d => ∃ ds, d = .list ds ∧ S ds)) (k : ∀ ds, S ds → P (.tuple ds)) : WE t (eCall opTuple (aCons f aNil)) ρ P := fun ω i => by
  obtain ⟨d, ω1, e1, i1, ds, rfl, s⟩ := h ω i
  exact ⟨.tuple ds, ω1, by rw [eCall_ap, aCons_ap, e1]; rfl, i1, k ds s⟩
theorem WE.ofN {f : DA} {S : List D → Prop} (h : WA t f ρ S) : WE t (eOfN f) ρ (fun d => ∃ ds, d = .list ds ∧ S ds) := WE.ofA h fun ds s => ⟨ds, rfl, s⟩
theorem log_small {m : Int} (h0 : 0 ≤ m) (h : m < 2 ^ 60) : m.natAbs.log2 < 9000 := by
  by_cases hz : m.natAbs = 0
  · rw [hz]; decide
  · have : m.natAbs.log2 < 60 := (Nat.log2_lt hz).mpr (by omega)
    omega
/-- what both sides say alike -/
theorem same_of {f g : DE} {n : Nat} {d : D} {ω : Wd} (h1 : f ρ ω = some (d, ω)) (h2 : g ρ ω = some (d, ω)) (hk : okD d = true) (hd : dpt d ≤ n) : eFunP (dSameD n) (aCons f (aCons g aNil)) ρ ω = some (.bool true, ω) :=
  x_fnP (x_cons h1 (x_one h2)) (sameD_refl n d _ hk hd)
theorem same_of' {f g : DE} {n : Nat} {d : D} {ω : Wd} (h1 : f ρ ω = some (d, ω)) (h2 : g ρ ω = some (d, ω)) (hk : okD d = true) (hd : dpt d ≤ n) : eFunP (dSame n) (aCons f (aCons g aNil)) ρ ω = some (.bool true, ω) :=
  x_fnP (x_cons h1 (x_one h2)) (same_refl n d _ hk hd)
theorem notT {c : DE} {ω : Wd} (h : c ρ ω = some (.bool true, ω)) : tNotD (tOfE c) ρ ω = some (false, ω) := by rw [tNotD_ap, tOfE_ap, h]; rfl
theorem x_not {c : DE} {ω : Wd} {b : Bool} (h : c ρ ω = some (.bool b, ω)) : tNotD (tOfE c) ρ ω = some (!b, ω) := by rw [tNotD_ap, tOfE_ap, h]
theorem x_tup {a : DA} {ω : Wd} {ds : List D} (h : a ρ ω = some (ds, ω)) : eTup a ρ ω = some (.tuple ds, ω) := by rw [eTup_ap, h]
theorem x_lst {a : DA} {ω : Wd} {ds : List D} (h : a ρ ω = some (ds, ω)) : eLst a ρ ω = some (.list ds, ω) := by rw [eLst_ap, h]
theorem isTrue {c : DE} {ω : Wd} (h : c ρ ω = some (.bool true, ω)) : tOfE (eBin opNotB c (eC (.bool true))) ρ ω = some (false, ω) := by rw [tOfE_ap, eBin_ap, h]; rfl
theorem isFalse {c : DE} {ω : Wd} (h : c ρ ω = some (.bool false, ω)) : tOfE (eBin opNotB c (eC (.bool false))) ρ ω = some (false, ω) := by rw [tOfE_ap, eBin_ap, h]; rfl
theorem orF {c e : DT} {ω : Wd} (h : c ρ ω = some (false, ω)) (k : e ρ ω = some (false, ω)) : tOrD c e ρ ω = some (false, ω) := by rw [tOrD_ap, h]; exact k
theorem okL_of' : ∀ {xs : List D}, (∀ x ∈ xs, okD x = true) → okL xs = true
  | [], _ => rfl
  | x :: xs, h => by
    rw [okL, h x (List.mem_cons_self ..), okL_of' fun y hy => h y (List.mem_cons_of_mem _ hy)]; rfl
theorem dptL_of {n : Nat} : ∀ {xs : List D}, (∀ x ∈ xs, dpt x ≤ n) → dptL xs ≤ n
  | [], _ => Nat.zero_le _
  | x :: xs, h => by
    rw [dptL]
    exact Nat.max_le.mpr ⟨h x (List.mem_cons_self ..), dptL_of fun y hy => h y (List.mem_cons_of_mem _ hy)⟩
end Dn
end

section
namespace Dn
open PySem PySem.Spec L2
local instance : Tb := noTb
/-! ## the combinators of the store, applied -/
@[simp] theorem eObN_ap (f : DA) (ρ : Ro) (ω : Wd) : eObN f ρ ω = (match f ρ ω with
  | none => none
  | some (ds, ω1) => if ω1.live = true then some (ob ω1.objs.length, ⟨true, ω1.objs ++ [.lst ds]⟩) else none) := rfl
@[simp] theorem eNewT_ap  (ρ : Ro) (ω : Wd) : eNewT  ρ ω = (if ω.live = true then some (ob ω.objs.length, ⟨true, ω.objs ++ [.dct []]⟩) else none) := rfl
@[simp] theorem eNewK_ap  (ρ : Ro) (ω : Wd) : eNewK  ρ ω = (if ω.live = true then some (ob ω.objs.length, ⟨true, ω.objs ++ [.dck []]⟩) else none) := rfl
@[simp] theorem eFld_ap (c n : Str) (f : DE) (ρ : Ro) (ω : Wd) : eFld c n f ρ ω = (match f ρ ω with
  | none => none
  | some (x, ω1) => match obN x with
    | none => none
    | some i => match ω1.objs[i]? with
      | some (.ins c' fs) => if c' = c then (match getD n fs with
        | some d => some (d, ω1)
        | none => none) else none
      | _ => none) := rfl
@[simp] theorem sFldD_ap (c n : Str) (fo fe : DE) (ρ : Ro) (ω : Wd) : sFldD c n fo fe ρ ω = (match fe ρ ω with
  | none => none
  | some (d, ω1) => match fo ρ ω1 with
    | none => none
    | some (x, ω2) => match obN x with
      | none => none
      | some i => match ω2.objs[i]? with
        | some (.ins c' fs) => if c' = c ∧ fs.length < 1000 then some (.nx ρ, ⟨ω2.live, ω2.objs.set i (.ins c (putD n d fs))⟩) else none
        | _ => none) := rfl
@[simp] theorem eMethD_ap (c m : Str) (fo : DE) (fn : List D → Wd → Option (D × Wd)) (a : DA) (ρ : Ro) (ω : Wd) : eMethD c m fo fn a ρ ω = (match fo ρ ω with
  | none => none
  | some (x, ω1) => match obN x with
    | none => none
    | some i => match ω1.objs[i]? with
      | some (.ins c' fs) => if c' = c ∧ (getD m fs).isNone = true then (match a ρ ω1 with
        | none => none
        | some (ds, ω2) => fn (x :: ds) ω2) else none
      | _ => none) := rfl
@[simp] theorem eMakeD_ap (c : Str) (fn : List D → Wd → Option (D × Wd)) (a : DA) (ρ : Ro) (ω : Wd) : eMakeD c fn a ρ ω = (match a ρ ω with
  | none => none
  | some (ds, ω1) => if ω1.live = true then (match fn (ob ω1.objs.length :: ds) ⟨true, ω1.objs ++ [.ins c []]⟩ with
    | some (.none, ω2) => some (ob ω1.objs.length, ω2)
    | _ => none) else none) := rfl
@[simp] theorem eDIn_ap (neg : Bool) (fy fd : DE) (ρ : Ro) (ω : Wd) : eDIn neg fy fd ρ ω = (match fy ρ ω with
  | none => none
  | some (y, ω1) => match fd ρ ω1 with
    | none => none
    | some (x, ω2) => match obN x with
      | none => none
      | some n => match ω2.objs[n]? with
        | none => none
        | some o => match getO o y with
          | none => none
          | some r => some (.bool (if neg = true then !r.isSome else r.isSome), ω2)) := rfl
@[simp] theorem eDIx_ap (fd fy : DE) (ρ : Ro) (ω : Wd) : eDIx fd fy ρ ω = (match fd ρ ω with
  | none => none
  | some (x, ω1) => match obN x with
    | none => none
    | some n => match fy ρ ω1 with
      | none => none
      | some (y, ω2) => match ω2.objs[n]? with
        | none => none
        | some o => match getO o y with
          | some (some d) => some (d, ω2)
          | _ => none) := rfl
@[simp] theorem eDGet2_ap (fd fy fx : DE) (ρ : Ro) (ω : Wd) : eDGet2 fd fy fx ρ ω = (match fd ρ ω with
  | none => none
  | some (x, ω1) => match obN x with
    | none => none
    | some n => match ω1.objs[n]? with
      | none => none
      | some o1 => if isDct o1 = true then (match fy ρ ω1 with
        | none => none
        | some (y, ω2) => match fx ρ ω2 with
          | none => none
          | some (z, ω3) => match ω3.objs[n]? with
            | none => none
            | some o => match getO o y with
              | none => none
              | some r => some (r.getD z, ω3)) else none) := rfl
@[simp] theorem sDSet_ap (fo fk fe : DE) (ρ : Ro) (ω : Wd) : sDSet fo fk fe ρ ω = (match fe ρ ω with
  | none => none
  | some (d, ω1) => match fo ρ ω1 with
    | none => none
    | some (x, ω2) => match obN x with
      | none => none
      | some n => match fk ρ ω2 with
        | none => none
        | some (y, ω3) => match ω3.objs[n]? with
          | none => none
          | some o => match putO o y d with
            | none => none
            | some o' => some (.nx ρ, ⟨ω3.live, ω3.objs.set n o'⟩)) := rfl
@[simp] theorem eAppOb_ap (fo fe : DE) (ρ : Ro) (ω : Wd) : eAppOb fo fe ρ ω = (match fo ρ ω with
  | none => none
  | some (x, ω1) => match obN x with
    | none => none
    | some n => match ω1.objs[n]? with
      | some (.lst _) => (match fe ρ ω1 with
        | none => none
        | some (d, ω2) => match ω2.objs[n]? with
          | some (.lst xs) => if xs.length < sizeLine then some (.none, ⟨ω2.live, ω2.objs.set n (.lst (xs ++ [d]))⟩) else none
          | _ => none)
      | _ => none) := rfl
@[simp] theorem eLenD_ap (f : DE) (ρ : Ro) (ω : Wd) : eLenD f ρ ω = (match f ρ ω with
  | none => none
  | some (x, ω1) => match obN x with
    | none => none
    | some n => match ω1.objs[n]? with
      | some (.dct kvs) => some (.int kvs.length, ω1)
      | _ => none) := rfl
@[simp] theorem iTx_ap (f : DE) (ρ : Ro) (ω : Wd) : iTx f ρ ω = (match f ρ ω with
  | some (.str z, ω1) => if z.length ≤ sizeLine then some (txD z, ω1) else none
  | _ => none) := rfl
@[simp] theorem sExtA_ap (i : Nat) (f : DE) (ρ : Ro) (ω : Wd) : sExtA i f ρ ω = (match iSq f ρ ω with
  | some (ds, ω1) => (match ρ[i]? with
    | some (.own xs) => if xs.length + ds.length ≤ sizeLine then some (.nx (ρ.set i (.own (xs ++ ds))), ω1) else none
    | _ => none)
  | _ => none) := rfl
@[simp] theorem aIfN_ap (c : DT) (f g : DA) (ρ : Ro) (ω : Wd) : aIfN c f g ρ ω = (match c ρ ω with
  | none => none
  | some (c, ω1) => if c = true then f ρ ω1 else g ρ ω1) := rfl
@[simp] theorem sPopG_ap (i : Nat) (g : DG) (ρ : Ro) (ω : Wd) : sPopG i g ρ ω = (match ρ[i]? with
  | some (.own xs) => (match xs[xs.length - 1]? with
    | some d => (match g d (ρ.set i (.own xs.dropLast)) with
      | some ρ1 => some (.nx ρ1, ω)
      | none => none)
    | none => none)
  | _ => none) := rfl
/-! ## the Notary -/
noncomputable def bNumber : DS :=
  (sRet (eAnd (eUn (opIsi "int") (eVar 0)) (eAnd (eNot (eUn (opIsi "bool") (eVar 0))) (eChain opLe opLe (eVar 1) (eVar 0) (eVar 2)))))
noncomputable def dNumber : List D → Wd → Option (D × Wd) := defD 3 bNumber
noncomputable def bLabel : DS :=
  (sSeq (sIf (tOrD (tNotD (tOfE (eUn (opIsi "str") (eVar 0)))) (tOfE (eBin opGt (eCall opLen (aCons (eVar 0) aNil)) (eC (.int 24))))) (sRet (eC (.bool false))) sNext)
  (sRet (eGenN false (iTx (eVar 0)) (gSet 1) tYesD (eChain opLe opLe (eC (.str " ")) (eVar 1) (eC (.str "~"))) [1])))
noncomputable def dLabel : List D → Wd → Option (D × Wd) := defD 2 bLabel
noncomputable def bParts : DS :=
  (sSeq (sIf (tOrD (tNotD (tOfE (eUn (opIsi "tuple") (eVar 0)))) (tNotD (tOfE (eChain opLe opLe (eC (.int 1)) (eCall opLen (aCons (eVar 0) aNil)) (eC (.int 16)))))) (sRet (eC (.bool false))) sNext)
  (sRet (eGenN false (iSq (eVar 0)) (gSet 1) tYesD (eOr (eFunP dNumber (aCons (eVar 1) (aCons (eC (.int 0)) (aCons (eC (.int 281474976710656)) aNil)))) (eFunP dLabel (aCons (eVar 1) aNil))) [1])))
noncomputable def dParts : List D → Wd → Option (D × Wd) := defD 2 bParts
noncomputable def bInit : DS :=
  (sSeq (sFldD "Notary" "numbers" (eVar 0) eNewT)
  (sSeq (sFldD "Notary" "tuples" (eVar 0) (eObN aNil))
  (sFldD "Notary" "asked" (eVar 0) (eC (.int 0)))))
noncomputable def dInit : List D → Wd → Option (D × Wd) := defD 1 bInit
noncomputable def bPartsOf : DS :=
  (sSeq (sIf (tOfE (eChain opLe opLe (eC (.int 1)) (eVar 1) (eLenOb (eFld "Notary" "tuples" (eVar 0))))) (sRet (eIxOb (eFld "Notary" "tuples" (eVar 0)) (eBin opSub (eVar 1) (eC (.int 1))))) sNext)
  (sRet (eC .none)))
noncomputable def dPartsOf : List D → Wd → Option (D × Wd) := defD 2 bPartsOf
noncomputable def bSeal : DS :=
  (sSeq (sIf (tNotD (tOfE (eFunP dParts (aCons (eVar 1) aNil)))) sNever sNext)
  (sSeq (sIf (tOfE (eDIn true (eVar 1) (eFld "Notary" "numbers" (eVar 0)))) (sSeq (sDrop (eAppOb (eFld "Notary" "tuples" (eVar 0)) (eVar 1)))
  (sDSet (eFld "Notary" "numbers" (eVar 0)) (eVar 1) (eLenOb (eFld "Notary" "tuples" (eVar 0))))) sNext)
  (sRet (eDIx (eFld "Notary" "numbers" (eVar 0)) (eVar 1)))))
noncomputable def dSeal : List D → Wd → Option (D × Wd) := defD 2 bSeal
noncomputable def bSize : DS :=
  (sRet (eLenOb (eFld "Notary" "tuples" (eVar 0))))
noncomputable def dSize : List D → Wd → Option (D × Wd) := defD 1 bSize
noncomputable def bFind : DS :=
  (sSeq (sFldD "Notary" "asked" (eVar 0) (eBin opAdd (eFld "Notary" "asked" (eVar 0)) (eC (.int 1))))
  (sSeq (sIf (tNotD (tOfE (eFunP dParts (aCons (eVar 1) aNil)))) (sRet (eC (.int 0))) sNext)
  (sRet (eDGet2 (eFld "Notary" "numbers" (eVar 0)) (eVar 1) (eC (.int 0))))))
noncomputable def dFind : List D → Wd → Option (D × Wd) := defD 2 bFind
/-! what can be sealed -/
abbrev Ps := List Key
def kD : Key → D
  | .inl i => .int i
  | .inr s => .str s
def tupD (p : Ps) : D := .tuple (p.map kD)
@[simp] theorem keyP_kD (k : Key) : keyP (kD k) = some k := by cases k <;> rfl
@[simp] theorem keyL_kD : ∀ (p : Ps), keyL (p.map kD) = some p
  | [] => rfl
  | k :: p => by rw [List.map_cons, keyL, keyP_kD, keyL_kD p]
@[simp] theorem keyT_tupD (p : Ps) : keyT (tupD p) = some p := keyL_kD p
def isT : Option D → Bool
  | some (.bool true) => true
  | _ => false
theorem isT_eq {o : Option D} (h : isT o = true) : o = some (.bool true) := by
  unfold isT at h; split at h
  · rfl
  · cases h
def labB (s : Str) : Bool := decide (s.length ≤ 24) && (txD s).all fun c => isT (opLe (.str " ") c) && isT (opLe c (.str "~"))
theorem x_chain {op op' : D → D → Option D} {f g h : DE} {x y z : D} {ρ : Ro} {ω : Wd} {b : Bool} (e1 : f ρ ω = some (x, ω)) (e2 : g ρ ω = some (y, ω)) (k1 : op x y = some (.bool true)) (e3 : h ρ ω = some (z, ω)) (k2 : op' y z = some (.bool b)) : eChain op op' f g h ρ ω = some (.bool b, ω) := by
  simp only [eChain_ap, e1, e2, k1, e3, k2]
theorem x_chainF {op op' : D → D → Option D} {f g h : DE} {x y : D} {ρ : Ro} {ω : Wd} (e1 : f ρ ω = some (x, ω)) (e2 : g ρ ω = some (y, ω)) (k1 : op x y = some (.bool false)) : eChain op op' f g h ρ ω = some (.bool false, ω) := by
  simp only [eChain_ap, e1, e2, k1]
def okK : Key → Bool
  | .inl i => decide (0 ≤ i) && decide (i ≤ 281474976710656)
  | .inr s => labB s
def okP (p : Ps) : Bool := decide (1 ≤ p.length) && decide (p.length ≤ 16) && p.all okK
theorem number_int {x l h : Int} {ω : Wd} : dNumber [.int x, .int l, .int h] ω = some (.bool (decide (l ≤ x) && decide (x ≤ h)), ω) := by
  simp [dNumber, defD, bNumber, sRet_ap]
  by_cases h1 : l ≤ x <;> simp [h1]
theorem number_no {d l h : D} {ω : Wd} (hd : opIsi "int" d = some (.bool false)) : dNumber [d, l, h] ω = some (.bool false, ω) := by
  simp [dNumber, defD, bNumber, sRet_ap, hd]
theorem label_ok {s : Str} (h : labB s = true) {ω : Wd} : dLabel [.str s] ω = some (.bool true, ω) := by
  unfold labB at h
  rw [Bool.and_eq_true, decide_eq_true_eq, List.all_eq_true] at h
  obtain ⟨h1, h2⟩ := h
  have hz : s.length ≤ sizeLine := by rw [sizeLine_num]; omega
  have hg : ¬ (24 : Int) < (s.length : Int) := by omega
  refine x_fn (x_seq (x_ifF (ρ := [.val (.str s), .un]) ?_ rfl) (x_ret (x_gen (ds := txD s) ?_ ?_)))
  · simp [opLen, hz]; omega
  · simp [hz]
  · rw [allD_of (fun _ => true)]
    · simp
    · intro a ha
      have := h2 a ha
      rw [Bool.and_eq_true] at this
      exact ⟨_, rfl, rfl, x_chain (y := a) rfl rfl (isT_eq this.1) rfl (isT_eq this.2)⟩
theorem elem_ok {k : Key} (h : okK k = true) {ρ : Ro} {ω : Wd} (hv : ρ[1]? = some (.val (kD k))) : (eOr (eFunP dNumber (aCons (eVar 1) (aCons (eC (.int 0)) (aCons (eC (.int 281474976710656)) aNil)))) (eFunP dLabel (aCons (eVar 1) aNil))) ρ ω = some (.bool true, ω) := by
  cases k with
  | inl i =>
    have : (decide ((0 : Int) ≤ i) && decide (i ≤ 281474976710656)) = true := h
    simp [hv, kD, number_int, this]
  | inr s => simp [hv, kD, number_no (show opIsi "int" (.str s) = some (.bool false) from rfl), label_ok (show labB s = true from h)]
theorem parts_ok {p : Ps} (h : okP p = true) {ω : Wd} : dParts [tupD p] ω = some (.bool true, ω) := by
  unfold okP at h
  rw [Bool.and_eq_true, Bool.and_eq_true, decide_eq_true_eq, decide_eq_true_eq, List.all_eq_true] at h
  obtain ⟨⟨h1, h2⟩, h3⟩ := h
  have e1 : (1 : Int) ≤ (p.length : Int) := by omega
  have e2 : (p.length : Int) ≤ 16 := by omega
  refine x_fn (x_seq (x_ifF (ρ := [.val (tupD p), .un]) ?_ rfl) (x_ret (x_gen (ds := p.map kD) ?_ ?_)))
  · simp [tupD, e1, e2]
  · simp [tupD]
  · rw [allD_of (fun _ => true)]
    · simp
    · intro a ha
      obtain ⟨k, hk, rfl⟩ := List.mem_map.mp ha
      exact ⟨_, rfl, rfl, elem_ok (h3 k hk) rfl⟩
/-! the book -/
theorem ne_nt : (Str.ofString "numbers" = Str.ofString "tuples") = False := by decide
theorem ne_tn : (Str.ofString "tuples" = Str.ofString "numbers") = False := by decide
theorem ne_na : (Str.ofString "numbers" = Str.ofString "asked") = False := by decide
theorem ne_an : (Str.ofString "asked" = Str.ofString "numbers") = False := by decide
theorem ne_ta : (Str.ofString "tuples" = Str.ofString "asked") = False := by decide
theorem ne_at : (Str.ofString "asked" = Str.ofString "tuples") = False := by decide
abbrev ntA (as : Int) : List (Str × D) := [("numbers", ob 3), ("tuples", ob 4), ("asked", .int as)]
theorem ga1 (as : Int) : getD "numbers" (ntA as) = some (ob 3) := by simp [getD]
theorem ga2 (as : Int) : getD "tuples" (ntA as) = some (ob 4) := by simp [getD, ne_nt]
theorem ga3 (as : Int) : getD "asked" (ntA as) = some (.int as) := by simp [getD, ne_na, ne_ta]
theorem pa3 (as b : Int) : putD "asked" (.int b) (ntA as) = ntA b := by simp [putD, ne_na, ne_ta]
def kvsF : Nat → List Ps → List (Ps × D)
  | _, [] => []
  | k, p :: ts => (p, .int ((k + 1 : Nat) : Int)) :: kvsF (k + 1) ts
def fnd : List Ps → Ps → Option Nat
  | [], _ => none
  | q :: ts, p => if q = p then some 0 else (fnd ts p).map (· + 1)
theorem dget_kvs (p : Ps) : ∀ (k : Nat) (ts : List Ps), dget (kvsF k ts) p = (fnd ts p).map fun i => .int ((k + i + 1 : Nat) : Int)
  | _, [] => rfl
  | k, q :: ts => by
    have ih := dget_kvs p (k + 1) ts
    unfold dget at ih ⊢
    rw [kvsF, fnd, List.find?_cons]
    by_cases h : q = p
    · simp [h]
    · rw [if_neg h]
      simp only [h, decide_false]
      rw [ih]
      cases fnd ts p with
      | none => rfl
      | some i => simp; omega
theorem kvsF_append (p : Ps) : ∀ (k : Nat) (ts : List Ps), kvsF k (ts ++ [p]) = kvsF k ts ++ [(p, .int ((k + ts.length + 1 : Nat) : Int))]
  | _, [] => rfl
  | k, q :: ts => by
    rw [List.cons_append, kvsF, kvsF_append p (k + 1) ts, kvsF, List.cons_append, List.length_cons, show k + 1 + ts.length + 1 = k + (ts.length + 1) + 1 from by omega]
theorem fnd_some {p : Ps} : ∀ {ts : List Ps} {i : Nat}, fnd ts p = some i → ts[i]? = some p
  | q :: ts, i, h => by
    rw [fnd] at h
    by_cases e : q = p
    · rw [if_pos e] at h; cases h; simp [e]
    · rw [if_neg e] at h
      obtain ⟨j, h1, rfl⟩ := Option.map_eq_some_iff.mp h
      simpa using fnd_some h1
theorem fnd_none {p : Ps} : ∀ {ts : List Ps}, fnd ts p = none → p ∉ ts
  | [], _ => by simp
  | q :: ts, h => by
    rw [fnd] at h
    by_cases e : q = p
    · rw [if_pos e] at h; cases h
    · rw [if_neg e, Option.map_eq_none_iff] at h
      have := fnd_none h
      simp only [List.mem_cons, not_or]
      exact ⟨fun x => e x.symm, this⟩
theorem fnd_mem {p : Ps} {ts : List Ps} (h : p ∉ ts) : fnd ts p = none := by
  cases e : fnd ts p with
  | none => rfl
  | some i => exact absurd (List.mem_of_getElem? (fnd_some e)) h
theorem fnd_nodup {p : Ps} {ts : List Ps} (hn : ts.Nodup) {i : Nat} (h : ts[i]? = some p) : fnd ts p = some i := by
  cases e : fnd ts p with
  | none => exact absurd (List.mem_of_getElem? h) (fnd_none e)
  | some j =>
    have h2 := fnd_some e
    obtain ⟨hi, h3⟩ := List.getElem?_eq_some_iff.mp h
    obtain ⟨hj, h4⟩ := List.getElem?_eq_some_iff.mp h2
    rw [(List.getElem_inj hn).mp (h4.trans h3.symm)]
def findI (ts : List Ps) (p : Ps) : Int := ((fnd ts p).map fun i => ((i + 1 : Nat) : Int)).getD 0
def putP (ts : List Ps) (p : Ps) : List Ps := if (fnd ts p).isSome = true then ts else ts ++ [p]
def prt (ts : List Ps) (i : Int) : Option Ps := if 1 ≤ i then ts[i.toNat - 1]? else none
def prtD (ts : List Ps) (i : Int) : D := ((prt ts i).map tupD).getD .none
def ntR (as : Int) (ts : List Ps) (r : List WO) : List WO := .ins "Notary" (ntA as) :: .dct (kvsF 0 ts) :: .lst (ts.map tupD) :: r
/-- the world is a box, a notary with these tuples, and things behind them of which P holds -/
def NtW (t : List D) (P : List WO → Prop) (ts : List Ps) : Wd → Prop := BoxW t fun r => ∃ as r', r = ntR as ts r' ∧ P r'
instance (t : List D) (P : List WO → Prop) (ts : List Ps) : DrawI (NtW t P ts) := inferInstanceAs (DrawI (BoxW _ _))
theorem defD_of {f : DS} {m : Nat} {ds : List D} {ω ω' : Wd} {d : D} {ρ : Ro} (k : f ρ ω = some (.rt d, ω')) (hr : ds.map SV.val ++ List.replicate (m - ds.length) .un = ρ := by rfl) : defD m f ds ω = some (d, ω') := by
  subst hr; unfold defD; rw [k]
theorem seq_of {f h : DS} {ρ ρ1 : Ro} {ω ω1 : Wd} {r : Option (Out × Wd)} (e : f ρ ω = some (.nx ρ1, ω1)) (k : h ρ1 ω1 = r) : sSeq f h ρ ω = r := by
  rw [sSeq_ap, e]; exact k
theorem x_seq' {f h : DS} {ρ : Ro} {ω : Wd} {d : D} (e : f ρ ω = some (.rt d, ω)) : sSeq f h ρ ω = some (.rt d, ω) := x_end e
section
variable {t : List D} {P : List WO → Prop} {ts : List Ps} {ω : Wd}
theorem make_ok {ρ : Ro} (h : BoxI t ω) : ∃ ω', eMakeD "Notary" dInit aNil ρ ω = some (ob 2, ω') ∧ NtW t (· = []) [] ω' := by
  obtain ⟨c, n, s, r, rfl, rfl⟩ := h
  exact ⟨bw t c n s (ntR 0 [] []), by simp [dInit, defD, bInit, bw, obN_ob, ntR, putD, kvsF, ne_nt, ne_na, ne_ta], c, n, s, _, rfl, 0, [], rfl, rfl⟩
theorem obs2 (c : List Int) (n s as : Int) (r' : List WO) : (bw t c n s (ntR as ts r')).objs[2]? = some (.ins "Notary" (ntA as)) := rfl
theorem obs3 (c : List Int) (n s as : Int) (r' : List WO) : (bw t c n s (ntR as ts r')).objs[3]? = some (.dct (kvsF 0 ts)) := rfl
theorem obs4 (c : List Int) (n s as : Int) (r' : List WO) : (bw t c n s (ntR as ts r')).objs[4]? = some (.lst (ts.map tupD)) := rfl
theorem set2 (c : List Int) (n s as b : Int) (r' : List WO) : (bw t c n s (ntR as ts r')).objs.set 2 (.ins "Notary" (ntA b)) = (bw t c n s (ntR b ts r')).objs := rfl
theorem setB (c : List Int) (n s as : Int) (r' : List WO) (p : Ps) : ((bw t c n s (ntR as ts r')).objs.set 4 (.lst (ts.map tupD ++ [tupD p]))).set 3 (.dct (kvsF 0 (ts ++ [p]))) = (bw t c n s (ntR as (ts ++ [p]) r')).objs := by
  simp [bw, ntR]
theorem liv (c : List Int) (n s : Int) (r : List WO) : (bw t c n s r).live = true := rfl
theorem fld_ap {c : List Int} {n s as : Int} {r' : List WO} {m : Str} {f : DE} {ρ : Ro} {d : D} (hf : f ρ (bw t c n s (ntR as ts r')) = some (ob 2, bw t c n s (ntR as ts r'))) (hm : getD m (ntA as) = some d) : eFld "Notary" m f ρ (bw t c n s (ntR as ts r')) = some (d, bw t c n s (ntR as ts r')) := by
  simp only [eFld_ap, hf, obN_ob, obs2, hm, if_true]
theorem meth_ap (h : NtW t P ts ω) {m : Str} {f : DE} {fn : List D → Wd → Option (D × Wd)} {a : DA} {ρ : Ro} {ds : List D} {ω2 : Wd} (hf : f ρ ω = some (ob 2, ω)) (ha : a ρ ω = some (ds, ω2)) (hm : ∀ as, getD m (ntA as) = none) : eMethD "Notary" m f fn a ρ ω = fn (ob 2 :: ds) ω2 := by
  obtain ⟨c, n, s, r, rfl, as, r', rfl, hp⟩ := h
  simp only [eMethD_ap, hf, obN_ob, obs2, hm, ha, Option.isNone_none, and_self, if_true]
theorem lenT {c : List Int} {n s as : Int} {r' : List WO} {f : DE} {ρ : Ro} (hf : f ρ (bw t c n s (ntR as ts r')) = some (ob 2, bw t c n s (ntR as ts r'))) : eLenOb (eFld "Notary" "tuples" f) ρ (bw t c n s (ntR as ts r')) = some (.int ts.length, bw t c n s (ntR as ts r')) := by
  simp only [eLenOb_ap, fld_ap hf (ga2 as), obN_ob, obs4, List.length_map]
theorem size_ok (h : NtW t P ts ω) : dSize [ob 2] ω = some (.int ts.length, ω) := by
  obtain ⟨c, n, s, r, rfl, as, r', rfl, hp⟩ := h
  exact x_fn (x_ret (lenT (ρ := [.val (ob 2)]) rfl))
theorem partsOf_ok (h : NtW t P ts ω) (i : Int) : dPartsOf [ob 2, .int i] ω = some (prtD ts i, ω) := by
  obtain ⟨c, n, s, r, rfl, as, r', rfl, hp⟩ := h
  have hl := lenT (t := t) (ts := ts) (c := c) (n := n) (s := s) (as := as) (r' := r') (f := eVar 0) (ρ := [.val (ob 2), .val (.int i)]) rfl
  by_cases h1 : 1 ≤ i
  · by_cases h2 : i ≤ ts.length
    · have e : i - 1 = ((i.toNat - 1 : Nat) : Int) := by omega
      have hlt : i.toNat - 1 < ts.length := by omega
      refine x_fn (x_seq' (ρ := [.val (ob 2), .val (.int i)]) (x_ifT (x_tE (x_chain (x := .int 1) (y := .int i) rfl rfl (by simp [h1]) hl (by simp [h2]))) (x_ret (d := prtD ts i) ?_)))
      have hf := fld_ap (t := t) (ts := ts) (c := c) (n := n) (s := s) (r' := r') (f := eVar 0) (ρ := [.val (ob 2), .val (.int i)]) rfl (ga2 as)
      have hi : eBin opSub (eVar 1) (eC (.int 1)) [.val (ob 2), .val (.int i)] (bw t c n s (ntR as ts r')) = some (.int (i - 1), bw t c n s (ntR as ts r')) := rfl
      simp only [eIxOb_ap, hf, obN_ob, hi, obs4]
      rw [e, atI_natE]
      simp [hlt, prtD, prt, h1]
    · have hlt : ts.length ≤ i.toNat - 1 := by omega
      refine x_fn (x_seq (ρ := [.val (ob 2), .val (.int i)]) (x_ifF (x_tE (x_chain (x := .int 1) (y := .int i) rfl rfl (by simp [h1]) hl (by simp [h2]))) rfl) (x_ret ?_))
      simp [prtD, prt, h1, hlt]
  · refine x_fn (x_seq (ρ := [.val (ob 2), .val (.int i)]) (x_ifF (x_tE (x_chainF (x := .int 1) (y := .int i) rfl rfl (by simp [h1]))) rfl) (x_ret ?_))
    simp [prtD, prt, h1]
theorem find_ok (h : NtW t P ts ω) {p : Ps} (hp : okP p = true) : ∃ ω', dFind [ob 2, tupD p] ω = some (.int (findI ts p), ω') ∧ NtW t P ts ω' := by
  obtain ⟨c, n, s, r, rfl, as, r', rfl, hr⟩ := h
  refine ⟨bw t c n s (ntR (as + 1) ts r'), ?_, c, n, s, _, rfl, _, r', rfl, hr⟩
  have hf := fld_ap (t := t) (ts := ts) (c := c) (n := n) (s := s) (r' := r') (f := eVar 0) (ρ := [.val (ob 2), .val (tupD p)]) rfl (ga3 as)
  have hg := fld_ap (t := t) (ts := ts) (c := c) (n := n) (s := s) (r' := r') (f := eVar 0) (ρ := [.val (ob 2), .val (tupD p)]) rfl (ga1 (as + 1))
  refine defD_of (ρ := [.val (ob 2), .val (tupD p)]) ?_
  refine seq_of (ρ1 := [.val (ob 2), .val (tupD p)]) (ω1 := bw t c n s (ntR (as + 1) ts r')) ?_ (x_seq (x_ifF (notT (x_fnP (x_one (x := tupD p) rfl) (parts_ok hp))) rfl) (x_ret ?_))
  · simp only [sFldD_ap, eBin_ap, hf, eC_ap, opAdd_int, eVar_ap, List.getElem?_cons_zero, obN_ob, obs2, pa3, liv, set2]
    rfl
  · have hv : ∀ ω, eVar 0 [.val (ob 2), .val (tupD p)] ω = some (ob 2, ω) := fun _ => rfl
    have hv1 : ∀ ω, eVar 1 [.val (ob 2), .val (tupD p)] ω = some (tupD p, ω) := fun _ => rfl
    simp only [eDGet2_ap, hg, obN_ob, obs3, isDct, if_true, hv1, eC_ap, getO, keyT_tupD, Option.map_some, dget_kvs, findI]
    cases fnd ts p <;> simp
theorem kvs_len : ∀ (k : Nat) (ts : List Ps), (kvsF k ts).length = ts.length
  | _, [] => rfl
  | k, p :: ts => by rw [kvsF, List.length_cons, kvs_len, List.length_cons]
theorem fnd_app {p : Ps} : ∀ {ts : List Ps}, fnd ts p = none → fnd (ts ++ [p]) p = some ts.length
  | [], _ => by simp [fnd]
  | q :: ts, h => by
    rw [fnd] at h
    by_cases e : q = p
    · rw [if_pos e] at h; cases h
    · rw [if_neg e, Option.map_eq_none_iff] at h
      rw [List.cons_append, fnd, if_neg e, fnd_app h]; rfl
theorem dput_kvs {p : Ps} {ts : List Ps} (e : fnd ts p = none) : dput (kvsF 0 ts) p (.int (((ts ++ [p]).length : Nat) : Int)) = kvsF 0 (ts ++ [p]) := by
  have g := dget_kvs p 0 ts
  rw [e] at g
  unfold dput
  rw [if_neg]
  · rw [kvsF_append]; simp
  · unfold dget at g
    simp only [Option.map_none, Option.map_eq_none_iff, List.find?_eq_none] at g
    intro hh
    obtain ⟨kv, h1, h2⟩ := List.any_eq_true.mp hh
    exact g kv h1 h2
theorem seal_ok (h : NtW t P ts ω) {p : Ps} (hp : okP p = true) (hz : ts.length < 16777216) : ∃ ω', dSeal [ob 2, tupD p] ω = some (.int (findI (putP ts p) p), ω') ∧ NtW t P (putP ts p) ω' := by
  obtain ⟨c, n, s, r, rfl, as, r', rfl, hr⟩ := h
  refine ⟨bw t c n s (ntR as (putP ts p) r'), ?_, c, n, s, _, rfl, _, r', rfl, hr⟩
  have hg := fun ts => fld_ap (t := t) (ts := ts) (c := c) (n := n) (s := s) (r' := r') (f := eVar 0) (ρ := [.val (ob 2), .val (tupD p)]) rfl (ga1 as)
  have ht := fld_ap (t := t) (ts := ts) (c := c) (n := n) (s := s) (r' := r') (f := eVar 0) (ρ := [.val (ob 2), .val (tupD p)]) rfl (ga2 as)
  have hv1 : ∀ ω, eVar 1 [.val (ob 2), .val (tupD p)] ω = some (tupD p, ω) := fun _ => rfl
  refine defD_of (ρ := [.val (ob 2), .val (tupD p)]) ?_
  refine x_seq (x_ifF (notT (x_fnP (x_one (x := tupD p) rfl) (parts_ok hp))) rfl) ?_
  cases e : fnd ts p with
  | some i =>
    have ep : putP ts p = ts := by unfold putP; rw [e]; rfl
    rw [ep]
    refine x_seq (x_ifF (x_tE (b := false) ?_) rfl) (x_ret ?_)
    · simp only [eDIn_ap, hv1, hg, obN_ob, obs3, getO, keyT_tupD, Option.map_some, dget_kvs, e]
      rfl
    · simp only [eDIx_ap, hv1, hg, obN_ob, obs3, getO, keyT_tupD, Option.map_some, dget_kvs, e, findI]
      simp
  | none =>
    have ep : putP ts p = ts ++ [p] := by unfold putP; rw [e]; rfl
    have ef := fnd_app e
    have hk : (kvsF 0 ts).length < sizeLine := by rw [kvs_len, sizeLine_num]; exact hz
    have hz' : (ts.map tupD).length < sizeLine := by rw [List.length_map, sizeLine_num]; exact hz
    rw [ep]
    refine seq_of (ρ1 := [.val (ob 2), .val (tupD p)]) (ω1 := bw t c n s (ntR as (ts ++ [p]) r')) (x_ifT (x_tE (b := true) ?_) ?_) (x_ret ?_)
    · simp only [eDIn_ap, hv1, hg, obN_ob, obs3, getO, keyT_tupD, Option.map_some, dget_kvs, e]
      rfl
    · refine seq_of (ρ1 := [.val (ob 2), .val (tupD p)]) (ω1 := ⟨true, (bw t c n s (ntR as ts r')).objs.set 4 (.lst (ts.map tupD ++ [tupD p]))⟩) ?_ ?_
      · simp only [sDrop_ap, eAppOb_ap, ht, obN_ob, obs4, hv1, hz', if_true, liv]
      · have o2 : ((bw t c n s (ntR as ts r')).objs.set 4 (.lst (ts.map tupD ++ [tupD p])))[2]? = some (.ins "Notary" (ntA as)) := rfl
        have o3 : ((bw t c n s (ntR as ts r')).objs.set 4 (.lst (ts.map tupD ++ [tupD p])))[3]? = some (.dct (kvsF 0 ts)) := rfl
        have o4 : ((bw t c n s (ntR as ts r')).objs.set 4 (.lst (ts.map tupD ++ [tupD p])))[4]? = some (.lst (ts.map tupD ++ [tupD p])) := rfl
        have hv0 : ∀ ω, eVar 0 [.val (ob 2), .val (tupD p)] ω = some (ob 2, ω) := fun _ => rfl
        have hd := dput_kvs e
        rw [List.length_append, List.length_singleton] at hd
        simp only [sDSet_ap, eLenOb_ap, eFld_ap, hv0, obN_ob, o2, o3, o4, if_true, ga1, ga2, hv1, putO, hk, keyT_tupD, Option.map_some, List.length_append, List.length_map, List.length_singleton, hd, setB]
        rfl
    · simp only [eDIx_ap, hv1, hg, obN_ob, obs3, getO, keyT_tupD, Option.map_some, dget_kvs, ef, findI]
      simp
end
end Dn
end

section
namespace G_k29
open PySem PySem.Spec L2 Dn
set_option maxHeartbeats 0
/-! ## the text by places -/
def top (i : Nat) : Stmt := PySem.Challenge.pw_onewatcher_k29_wide_openings_and_cuts.main.body.getD i (.Pass ⟨0, 0, 0, 0⟩)
abbrev s__law_box : Stmt := top 36
abbrev s_Notary____init__ : Stmt := inClass (top 12) 0
abbrev s_Notary__parts_of : Stmt := inClass (top 12) 3
abbrev s__law_opened : Stmt := top 40
abbrev s__law_openings : Stmt := top 41
abbrev s_is_number : Stmt := top 9
abbrev s_is_label : Stmt := top 10
abbrev s_is_parts : Stmt := top 11
abbrev s_Notary__seal : Stmt := inClass (top 12) 1
abbrev s__law_load : Stmt := top 37
abbrev s__law_draw : Stmt := top 38
abbrev s__law_odd : Stmt := top 42
abbrev s_Notary__size : Stmt := inClass (top 12) 4
abbrev s_leaf_count : Stmt := top 14
abbrev s_is_row : Stmt := top 17
abbrev s_rows_above : Stmt := top 18
abbrev s_history_of : Stmt := top 19
abbrev s__law_history : Stmt := top 39
abbrev s_Notary__find : Stmt := inClass (top 12) 2
abbrev s__law_is_opening : Stmt := top 43
abbrev s__law_parts : Stmt := top 44
abbrev s__law_changed : Stmt := top 45
abbrev s_is_opening : Stmt := top 20
abbrev s_opening : Stmt := top 21
abbrev s_last_of : Stmt := top 22
abbrev s_half_spans : Stmt := top 24
abbrev s_halves_of : Stmt := top 25
abbrev s__law_cut : Stmt := top 46
abbrev s__law_same : Stmt := top 35
abbrev s_histories_in : Stmt := top 30
abbrev s_fits : Stmt := top 29
abbrev s_wide_parts : Stmt := top 31
abbrev s_cut_in_two : Stmt := top 32
abbrev s_wide_cut : Stmt := top 33
abbrev s_wide_opening : Stmt := top 28
abbrev s_law : Stmt := top 47
abbrev N__law_box : List Str := ["script", "nodes"]
abbrev N_Notary____init__ : List Str := ["self"]
abbrev N_Notary__parts_of : List Str := ["self", "seal"]
abbrev N__law_opened : List Str := ["notary", "history", "depth", "found", "row", "step", "below", "one", "parts"]
abbrev N__law_openings : List Str := ["notary", "history", "depth", "found", "at"]
abbrev N_is_number : List Str := ["value", "least", "most"]
abbrev N_is_label : List Str := ["value", "char"]
abbrev N_is_parts : List Str := ["value", "part"]
abbrev N_Notary__seal : List Str := ["self", "parts"]
abbrev N__law_load : List Str := ["box", "cells", "cell", "size", "first", "second"]
abbrev N__law_draw : List Str := ["box", "many", "digit"]
abbrev N__law_odd : List Str := ["box", "notary", "history", "parts"]
abbrev N_Notary__size : List Str := ["self"]
abbrev N_leaf_count : List Str := ["height", "count", "_"]
abbrev N_is_row : List Str := ["row", "level", "part"]
abbrev N_rows_above : List Str := ["notary", "row", "below", "rows", "width", "above", "k", "last", "state"]
abbrev N_history_of : List Str := ["notary", "row"]
abbrev N__law_history : List Str := ["box", "notary", "row", "half", "left", "right"]
abbrev N_Notary__find : List Str := ["self", "parts"]
abbrev N__law_is_opening : List Str := ["value", "x"]
abbrev N__law_parts : List Str := ["notary", "history", "depth", "value", "count", "due", "at", "one"]
abbrev N__law_changed : List Str := ["box", "value", "at", "rows"]
abbrev N_is_opening : List Str := ["value", "part"]
abbrev N_opening : List Str := ["notary", "history", "parts"]
abbrev N_last_of : List Str := ["notary", "history", "parts"]
abbrev N_half_spans : List Str := ["span", "behind", "middle", "left", "right", "level", "first", "before", "start", "history"]
abbrev N_halves_of : List Str := ["notary", "span", "parts", "middle", "behind"]
abbrev N__law_cut : List Str := ["notary", "span", "depth", "row", "step", "further", "one", "halves"]
abbrev N__law_same : List Str := ["a", "b", "k", "key"]
abbrev N_histories_in : List Str := ["history", "openings", "due", "at"]
abbrev N_fits : List Str := ["openings", "at"]
abbrev N_wide_parts : List Str := ["notary", "history", "depth", "openings", "count", "due", "parts", "at"]
abbrev N_cut_in_two : List Str := ["notary", "span", "parts", "left", "behind"]
abbrev N_wide_cut : List Str := ["notary", "span", "depth", "openings", "row", "at", "halves"]
abbrev N_wide_opening : List Str := ["notary", "history", "depth", "found", "row", "step", "below", "part", "parts"]
abbrev N_law : List Str := ["script", "box", "notary", "level", "row", "history", "depth", "due", "odd", "size", "one", "opened", "parts", "turn", "other", "bent", "before", "span", "pasts", "own", "left", "cut", "low", "k"]
/-! ## the denotations -/
noncomputable def b_Notary____init__ : DS :=
  (sSeq (sFldD "Notary" "numbers" (eVar 0) eNewT)
  (sSeq (sFldD "Notary" "tuples" (eVar 0) (eObN aNil))
  (sFldD "Notary" "asked" (eVar 0) (eC (.int 0)))))
noncomputable def d_Notary____init__ : List D → Wd → Option (D × Wd) := defD 1 b_Notary____init__
noncomputable def b_Notary__parts_of : DS :=
  (sSeq (sIf (tOfE (eChain opLe opLe (eC (.int 1)) (eVar 1) (eLenOb (eFld "Notary" "tuples" (eVar 0))))) (sRet (eIxOb (eFld "Notary" "tuples" (eVar 0)) (eBin opSub (eVar 1) (eC (.int 1))))) sNext)
  (sRet (eC .none)))
noncomputable def d_Notary__parts_of : List D → Wd → Option (D × Wd) := defD 2 b_Notary__parts_of
noncomputable abbrev l__law_opened_1 : DS :=
  (sSeq (sSet 8 (eMethD "Notary" "parts_of" (eVar 0) d_Notary__parts_of (aCons (eVar 7) aNil)))
  (sSeq (sIf (tOrD (tOfE (eBin opIsN (eVar 8) (eC .none))) (tOrD (tOfE (eBin opNotInD (eBin opIx (eVar 8) (eC (.int 0))) (eLst (aCons (eC (.str "step")) (aCons (eC (.str "join")) aNil))))) (tAndD (tOfE (eBin opLt (eVar 5) (eVar 2))) (tOfE (eBin opNe (eBin opIx (eVar 8) (eC (.int 0))) (eC (.str "join"))))))) (sRet (eC .none)) sNext)
  (sSeq (sApp 3 (eVar 8))
  (sExtA 6 (eIf (tOfE (eBin opLt (eVar 5) (eVar 2))) (eSl opSl (eVar 8) (oSome (eC (.int 1))) (oSome (eC (.int 3)))) (eTup aNil))))))
noncomputable abbrev l__law_opened_2 : DS :=
  (sSeq (sOwn 6 aNil)
  (sSeq (sFor (iSq (eVar 4)) (gSet 7) l__law_opened_1)
  (sMove 4 6)))
noncomputable def b__law_opened : DS :=
  (sSeq (sParV 3 4 (vOwn aNil) (vVal (eLst (aCons (eVar 1) aNil))))
  (sSeq (sFor (iRange (aCons (eBin opAdd (eVar 2) (eC (.int 1))) aNil)) (gSet 5) l__law_opened_2)
  (sRet (eTupOwn 3))))
noncomputable def d__law_opened : List D → Wd → Option (D × Wd) := defD 9 b__law_opened
noncomputable abbrev l__law_openings_1 : DS :=
  (sIf (tOfE (eBin opNe (eBin opIx (eBin opIx (eVar 3) (eVar 4)) (eC (.int 3))) (eBin opIx (eBin opIx (eVar 3) (eBin opAdd (eBin opMul (eC (.int 2)) (eVar 4)) (eC (.int 2)))) (eUn opNeg (eC (.int 1)))))) (sRet (eC .none)) sNext)
noncomputable def b__law_openings : DS :=
  (sSeq (sSet 3 (eFun d__law_opened (aCons (eVar 0) (aCons (eVar 1) (aCons (eVar 2) aNil)))))
  (sSeq (sFor (iRange (aCons (eIf (tOfE (eBin opNotN (eVar 3) (eC .none))) (eBin opDiv (eCall opLen (aCons (eVar 3) aNil)) (eC (.int 2))) (eC (.int 0))) aNil)) (gSet 4) l__law_openings_1)
  (sRet (eVar 3))))
noncomputable def d__law_openings : List D → Wd → Option (D × Wd) := defD 5 b__law_openings
noncomputable def b_is_number : DS :=
  (sRet (eAnd (eUn (opIsi "int") (eVar 0)) (eAnd (eNot (eUn (opIsi "bool") (eVar 0))) (eChain opLe opLe (eVar 1) (eVar 0) (eVar 2)))))
noncomputable def d_is_number : List D → Wd → Option (D × Wd) := defD 3 b_is_number
noncomputable def b_is_label : DS :=
  (sSeq (sIf (tOrD (tNotD (tOfE (eUn (opIsi "str") (eVar 0)))) (tOfE (eBin opGt (eCall opLen (aCons (eVar 0) aNil)) (eC (.int 24))))) (sRet (eC (.bool false))) sNext)
  (sRet (eGenN false (iTx (eVar 0)) (gSet 1) tYesD (eChain opLe opLe (eC (.str " ")) (eVar 1) (eC (.str "~"))) [1])))
noncomputable def d_is_label : List D → Wd → Option (D × Wd) := defD 2 b_is_label
noncomputable def b_is_parts : DS :=
  (sSeq (sIf (tOrD (tNotD (tOfE (eUn (opIsi "tuple") (eVar 0)))) (tNotD (tOfE (eChain opLe opLe (eC (.int 1)) (eCall opLen (aCons (eVar 0) aNil)) (eC (.int 16)))))) (sRet (eC (.bool false))) sNext)
  (sRet (eGenN false (iSq (eVar 0)) (gSet 1) tYesD (eOr (eFunP d_is_number (aCons (eVar 1) (aCons (eC (.int 0)) (aCons (eC (.int 281474976710656)) aNil)))) (eFunP d_is_label (aCons (eVar 1) aNil))) [1])))
noncomputable def d_is_parts : List D → Wd → Option (D × Wd) := defD 2 b_is_parts
noncomputable def b_Notary__seal : DS :=
  (sSeq (sIf (tNotD (tOfE (eFunP d_is_parts (aCons (eVar 1) aNil)))) sNever sNext)
  (sSeq (sIf (tOfE (eDIn true (eVar 1) (eFld "Notary" "numbers" (eVar 0)))) (sSeq (sDrop (eAppOb (eFld "Notary" "tuples" (eVar 0)) (eVar 1)))
  (sDSet (eFld "Notary" "numbers" (eVar 0)) (eVar 1) (eLenOb (eFld "Notary" "tuples" (eVar 0))))) sNext)
  (sRet (eDIx (eFld "Notary" "numbers" (eVar 0)) (eVar 1)))))
noncomputable def d_Notary__seal : List D → Wd → Option (D × Wd) := defD 2 b_Notary__seal
noncomputable def b__law_load : DS :=
  (sSeq (sSet 1 (eIxOb (eVar 0) (eC (.int 0))))
  (sSeq (sIf (tOfE (eBin opGt (eLenOb (eVar 1)) (eC (.int 0)))) (sSeq (sSet 2 (eCall opInt (aCons (ePopOb (eVar 1) 0) aNil)))
  (sSeq (sSet 3 (eIf (tOfE (eBin opGe (eVar 2) (eC (.int 0)))) (eBin opMul (eC (.int 2)) (eVar 2)) (eBin opSub (eBin opMul (eUn opNeg (eC (.int 2))) (eVar 2)) (eC (.int 1)))))
  (sSeq (sIf (tOfE (eBin opGe (eVar 3) (eC (.int 1000000000000000000)))) (sRet (eVar 3)) sNext)
  (sSetOb (eVar 0) (eC (.int 2)) (eBin opMod (eCall opInt (aCons (eBin opAdd (eBin opAdd (eBin opMul (eIxOb (eVar 0) (eC (.int 2))) (eC (.int 69621))) (eBin opMul (eVar 3) (eC (.int 48271)))) (eC (.int 11))) aNil)) (eC (.int 2147483647))))))) sNext)
  (sSeq (sSet 4 (eBin opMod (eCall opInt (aCons (eBin opAdd (eBin opMul (eIxOb (eVar 0) (eC (.int 2))) (eC (.int 48271))) (eC (.int 17))) aNil)) (eC (.int 2147483629))))
  (sSeq (sSet 5 (eBin opMod (eCall opInt (aCons (eBin opAdd (eBin opMul (eVar 4) (eC (.int 69621))) (eC (.int 5))) aNil)) (eC (.int 2147483587))))
  (sSeq (sSetOb (eVar 0) (eC (.int 2)) (eBin opMod (eCall opInt (aCons (eBin opAdd (eBin opMul (eVar 5) (eC (.int 40692))) (eC (.int 3))) aNil)) (eC (.int 2147483563))))
  (sRet (eBin opAdd (eBin opAdd (eBin opMul (eVar 4) (eC (.int 4611686014132420609))) (eBin opMul (eVar 5) (eC (.int 2147483647)))) (eIxOb (eVar 0) (eC (.int 2))))))))))
noncomputable def d__law_load : List D → Wd → Option (D × Wd) := defD 6 b__law_load
noncomputable def b__law_draw : DS :=
  (sSeq (sIf (tOfE (eBin opLt (eIxOb (eVar 0) (eC (.int 1))) (eVar 1))) (sSetOb (eVar 0) (eC (.int 1)) (eFun d__law_load (aCons (eVar 0) aNil))) sNext)
  (sSeq (sSet 2 (eBin opMod (eCall opInt (aCons (eIxOb (eVar 0) (eC (.int 1))) aNil)) (eVar 1)))
  (sSeq (sSetOb (eVar 0) (eC (.int 1)) (eBin opDiv (eIxOb (eVar 0) (eC (.int 1))) (eVar 1)))
  (sRet (eVar 2)))))
noncomputable def d__law_draw : List D → Wd → Option (D × Wd) := defD 3 b__law_draw
noncomputable def b__law_odd : DS :=
  (sSeq (sSet 3 (eMethD "Notary" "parts_of" (eVar 1) d_Notary__parts_of (aCons (eVar 2) aNil)))
  (sSeq (sIf (tOrD (tOfE (eBin opIsN (eVar 3) (eC .none))) (tOfE (eBin opNe (eBin opIx (eVar 3) (eC (.int 0))) (eC (.str "join"))))) (sRet (eVar 2)) sNext)
  (sRet (eMethD "Notary" "seal" (eVar 1) d_Notary__seal (aCons (eBin opAdd (eSl opSl (eVar 3) oNone (oSome (eC (.int 3)))) (eTup (aCons (eBin opAdd (eBin opAdd (eBin opIx (eVar 3) (eC (.int 3))) (eC (.int 1))) (eFun d__law_draw (aCons (eVar 0) (aCons (eC (.int 9)) aNil)))) aNil))) aNil)))))
noncomputable def d__law_odd : List D → Wd → Option (D × Wd) := defD 4 b__law_odd
noncomputable def b_Notary__size : DS :=
  (sRet (eLenOb (eFld "Notary" "tuples" (eVar 0))))
noncomputable def d_Notary__size : List D → Wd → Option (D × Wd) := defD 1 b_Notary__size
noncomputable abbrev l_leaf_count_1 : DS :=
  (sSet 1 (eBin opMul (eC (.int 2)) (eVar 1)))
noncomputable def b_leaf_count : DS :=
  (sSeq (sSet 1 (eC (.int 1)))
  (sSeq (sFor (iRange (aCons (eVar 0) aNil)) (gSet 2) l_leaf_count_1)
  (sRet (eVar 1))))
noncomputable def d_leaf_count : List D → Wd → Option (D × Wd) := defD 3 b_leaf_count
noncomputable def b_is_row : DS :=
  (sSeq (sIf (tOrD (tNotD (tOfE (eUn (opIsi "tuple") (eVar 0)))) (tOfE (eBin opNotInD (eCall opLen (aCons (eVar 0) aNil)) (eOfN (eLcN (iRange (aCons (eBin opAdd (eC (.int 10)) (eC (.int 1))) aNil)) (gSet 1) tYesD (eFunP d_leaf_count (aCons (eVar 1) aNil)) [1]))))) (sRet (eC (.bool false))) sNext)
  (sRet (eGenN false (iSq (eVar 0)) (gSet 2) tYesD (eFunP d_is_number (aCons (eVar 2) (aCons (eC (.int 1)) (aCons (eC (.int 281474976710656)) aNil)))) [2])))
noncomputable def d_is_row : List D → Wd → Option (D × Wd) := defD 3 b_is_row
noncomputable abbrev l_rows_above_1 : DS :=
  (sSeq (sSet 7 (eBin opIx (eVar 1) (eBin opSub (eBin opMul (eBin opAdd (eBin opDiv (eVar 6) (eC (.int 2))) (eC (.int 1))) (eVar 4)) (eC (.int 1)))))
  (sApp 5 (eMethD "Notary" "seal" (eVar 0) d_Notary__seal (aCons (eTup (aCons (eC (.str "join")) (aCons (eBin opIx (eVar 2) (eVar 6)) (aCons (eBin opIx (eVar 2) (eBin opAdd (eVar 6) (eC (.int 1)))) (aCons (eVar 7) aNil))))) aNil))))
noncomputable abbrev l_rows_above_2 : DS :=
  (sSeq (sSet 4 (eBin opMul (eC (.int 2)) (eVar 4)))
  (sSeq (sOwn 5 aNil)
  (sSeq (sFor (iRange3 (aCons (eC (.int 0)) (aCons (eCall opLen (aCons (eVar 2) aNil)) (aCons (eC (.int 2)) aNil)))) (gSet 6) l_rows_above_1)
  (sSeq (sMove 2 5)
  (sApp 3 (eVar 2))))))
noncomputable def b_rows_above : DS :=
  (sSeq (sSet 2 (eOfN (eLcN (iSq (eVar 1)) (gSet 8) tYesD (eMethD "Notary" "seal" (eVar 0) d_Notary__seal (aCons (eTup (aCons (eC (.str "step")) (aCons (eVar 8) aNil))) aNil)) [8])))
  (sSeq (sOwn 3 (aCons (eVar 2) aNil))
  (sSeq (sSet 4 (eC (.int 1)))
  (sSeq (sWhile (tOfE (eBin opGt (eCall opLen (aCons (eVar 2) aNil)) (eC (.int 1)))) l_rows_above_2)
  (sRet (eVarB 3))))))
noncomputable def d_rows_above : List D → Wd → Option (D × Wd) := defD 9 b_rows_above
noncomputable def b_history_of : DS :=
  (sSeq (sIf (tNotD (tOfE (eFunP d_is_row (aCons (eVar 1) aNil)))) sNever sNext)
  (sRet (eBin opIx (eBin opIx (eFun d_rows_above (aCons (eVar 0) (aCons (eVar 1) aNil))) (eUn opNeg (eC (.int 1)))) (eC (.int 0)))))
noncomputable def d_history_of : List D → Wd → Option (D × Wd) := defD 2 b_history_of
noncomputable def b__law_history (rc : List D → Wd → Option (D × Wd)) : DS :=
  (sSeq (sIf (tOfE (eBin opEq (eCall opLen (aCons (eVar 2) aNil)) (eC (.int 1)))) (sRet (eIf (tOfE (eBin opGt (eFun d__law_draw (aCons (eVar 0) (aCons (eC (.int 40)) aNil))) (eC (.int 0)))) (eMethD "Notary" "seal" (eVar 1) d_Notary__seal (aCons (eTup (aCons (eC (.str "step")) (aCons (eBin opIx (eVar 2) (eC (.int 0))) aNil))) aNil)) (eBin opAdd (eBin opPow (eC (.int 2)) (eC (.int 47))) (eFun d__law_draw (aCons (eVar 0) (aCons (eC (.int 9)) aNil)))))) sNext)
  (sSeq (sSet 3 (eBin opDiv (eCall opLen (aCons (eVar 2) aNil)) (eC (.int 2))))
  (sSeq (sPar 4 5 (aCons (eFun rc (aCons (eVar 0) (aCons (eVar 1) (aCons (eSl opSl (eVar 2) oNone (oSome (eVar 3))) aNil)))) (aCons (eFun rc (aCons (eVar 0) (aCons (eVar 1) (aCons (eSl opSl (eVar 2) (oSome (eVar 3)) oNone) aNil)))) aNil)))
  (sRet (eMethD "Notary" "seal" (eVar 1) d_Notary__seal (aCons (eTup (aCons (eC (.str "join")) (aCons (eVar 4) (aCons (eVar 5) (aCons (eIf (tOfE (eBin opGt (eFun d__law_draw (aCons (eVar 0) (aCons (eC (.int 40)) aNil))) (eC (.int 0)))) (eBin opIx (eVar 2) (eUn opNeg (eC (.int 1)))) (eBin opAdd (eC (.int 1)) (eFun d__law_draw (aCons (eVar 0) (aCons (eC (.int 99)) aNil))))) aNil))))) aNil))))))
noncomputable def d__law_history : Nat → List D → Wd → Option (D × Wd)
  | 0 => fun _ _ => none
  | n + 1 => defD 6 (b__law_history (d__law_history n))
noncomputable def b_Notary__find : DS :=
  (sSeq (sFldD "Notary" "asked" (eVar 0) (eBin opAdd (eFld "Notary" "asked" (eVar 0)) (eC (.int 1))))
  (sSeq (sIf (tNotD (tOfE (eFunP d_is_parts (aCons (eVar 1) aNil)))) (sRet (eC (.int 0))) sNext)
  (sRet (eDGet2 (eFld "Notary" "numbers" (eVar 0)) (eVar 1) (eC (.int 0))))))
noncomputable def d_Notary__find : List D → Wd → Option (D × Wd) := defD 2 b_Notary__find
noncomputable def b__law_is_opening : DS :=
  (sSeq (sIf (tOrD (tNotD (tOfE (eUn (opIsi "tuple") (eVar 0)))) (tOrD (tOfE (eBin opEq (eCall opLen (aCons (eVar 0) aNil)) (eC (.int 0)))) (tOfE (eBin opNotInD (eTup (aCons (eBin opIx (eVar 0) (eC (.int 0))) (aCons (eCall opLen (aCons (eVar 0) aNil)) aNil))) (eLst (aCons (eTup (aCons (eC (.str "step")) (aCons (eC (.int 2)) aNil))) (aCons (eTup (aCons (eC (.str "join")) (aCons (eC (.int 4)) aNil))) aNil))))))) (sRet (eC (.bool false))) sNext)
  (sRet (eCall opAll (aCons (eOfN (eLcN (iSq (eSl opSl (eVar 0) (oSome (eC (.int 1))) oNone)) (gSet 1) tYesD (eAnd (eUn (opIsi "int") (eVar 1)) (eAnd (eNot (eUn (opIsi "bool") (eVar 1))) (eChain opLe opLe (eC (.int 1)) (eVar 1) (eBin opPow (eC (.int 2)) (eC (.int 48)))))) [1])) aNil))))
noncomputable def d__law_is_opening : List D → Wd → Option (D × Wd) := defD 2 b__law_is_opening
noncomputable abbrev l__law_parts_1 : DS :=
  (sSeq (sIf (tOrD (tOfE (eBin opNe (eBin opIx (eBin opIx (eVar 3) (eVar 6)) (eC (.int 0))) (eC (.str "join")))) (tOfE (eBin opNe (eBin opIx (eBin opIx (eVar 3) (eVar 6)) (eC (.int 3))) (eBin opIx (eBin opIx (eVar 3) (eBin opAdd (eBin opMul (eC (.int 2)) (eVar 6)) (eC (.int 2)))) (eUn opNeg (eC (.int 1))))))) (sRet (eC .none)) sNext)
  (sExtA 5 (eSl opSl (eBin opIx (eVar 3) (eVar 6)) (oSome (eC (.int 1))) (oSome (eC (.int 3))))))
noncomputable def b__law_parts : DS :=
  (sSeq (sSet 4 (eBin opDiv (eBin opMul (eBin opMul (eBin opMul (eC (.int 2)) (eC (.int 2))) (eC (.int 2))) (eC (.int 2))) (eBin opIx (eLst (aCons (eC (.int 16)) (aCons (eC (.int 8)) (aCons (eC (.int 4)) (aCons (eC (.int 2)) (aCons (eC (.int 1)) aNil)))))) (eVar 2))))
  (sSeq (sIf (tOrD (tNotD (tOfE (eUn (opIsi "tuple") (eVar 3)))) (tOrD (tOfE (eBin opNe (eCall opLen (aCons (eVar 3) aNil)) (eBin opSub (eBin opMul (eC (.int 2)) (eVar 4)) (eC (.int 1))))) (tNotD (tOfE (eCall opAll (aCons (eOfN (eLcN (iSq (eVar 3)) (gSet 7) tYesD (eFunP d__law_is_opening (aCons (eVar 7) aNil)) [7])) aNil)))))) (sRet (eC .none)) sNext)
  (sSeq (sOwn 5 (aCons (eVar 1) aNil))
  (sSeq (sFor (iRange (aCons (eBin opSub (eVar 4) (eC (.int 1))) aNil)) (gSet 6) l__law_parts_1)
  (sSeq (sIf (tOfE (eBin opNe (eOfN (eLcN (iSq (eVar 3)) (gSet 7) tYesD (eMethD "Notary" "find" (eVar 0) d_Notary__find (aCons (eVar 7) aNil)) [7])) (eVarB 5))) (sRet (eC .none)) sNext)
  (sRet (eCall opTuple (aCons (eOfN (eLcN (iRange (aCons (eBin opSub (eVar 4) (eC (.int 1))) (aCons (eCall opLen (aCons (eVarB 5) aNil)) aNil))) (gSet 6) tYesD (eTup (aCons (eIxOwn 5 (eVar 6)) (aCons (eBin opIx (eBin opIx (eVar 3) (eVar 6)) (eUn opNeg (eC (.int 1)))) aNil))) [6])) aNil))))))))
noncomputable def d__law_parts : List D → Wd → Option (D × Wd) := defD 8 b__law_parts
noncomputable def b__law_changed (rc : List D → Wd → Option (D × Wd)) : DS :=
  (sSeq (sIf (tAndD (tOfE (eUn (opIsi "tuple") (eVar 1))) (tAndD (tOfE (eBin opNe (eVar 1) (eTup aNil))) (tOfE (eBin opGt (eFun d__law_draw (aCons (eVar 0) (aCons (eC (.int 4)) aNil))) (eC (.int 0)))))) (sSeq (sSet 2 (eFun d__law_draw (aCons (eVar 0) (aCons (eCall opLen (aCons (eVar 1) aNil)) aNil))))
  (sRet (eBin opAdd (eBin opAdd (eSl opSl (eVar 1) oNone (oSome (eVar 2))) (eTup (aCons (eFun rc (aCons (eVar 0) (aCons (eBin opIx (eVar 1) (eVar 2)) aNil))) aNil))) (eSl opSl (eVar 1) (oSome (eBin opAdd (eVar 2) (eC (.int 1)))) oNone)))) sNext)
  (sSeq (sSet 3 (eLst (aCons (eC .none) (aCons (eTup aNil) (aCons (eC (.int 0)) (aCons (eC (.bool true)) (aCons (eC (.str "join")) (aCons (eC (.str "step")) (aCons (eUn opNeg (eC (.int 1))) (aCons (eC (.int 1)) aNil))))))))))
  (sSeq (sIf (tOfE (eUn (opIsi "int") (eVar 1))) (sSet 3 (eBin opAdd (eVar 3) (eLst (aCons (eBin opAdd (eVar 1) (eC (.int 1))) (aCons (eBin opSub (eVar 1) (eC (.int 1))) (aCons (eBin opEq (eVar 1) (eC (.int 1))) aNil)))))) sNext)
  (sSeq (sIf (tOfE (eUn (opIsi "tuple") (eVar 1))) (sSet 3 (eBin opAdd (eVar 3) (eLst (aCons (eSl opSl (eVar 1) oNone (oSome (eUn opNeg (eC (.int 1))))) (aCons (eBin opAdd (eVar 1) (eSl opSl (eVar 1) oNone (oSome (eC (.int 1))))) (aCons (eUn opRev (eVar 1)) (aCons (eTup (aCons (eVar 1) aNil)) aNil))))))) sNext)
  (sRet (eBin opIx (eVar 3) (eFun d__law_draw (aCons (eVar 0) (aCons (eCall opLen (aCons (eVar 3) aNil)) aNil)))))))))
noncomputable def d__law_changed : Nat → List D → Wd → Option (D × Wd)
  | 0 => fun _ _ => none
  | n + 1 => defD 4 (b__law_changed (d__law_changed n))
noncomputable def b_is_opening : DS :=
  (sSeq (sIf (tOrD (tNotD (tOfE (eUn (opIsi "tuple") (eVar 0)))) (tOfE (eBin opEq (eCall opLen (aCons (eVar 0) aNil)) (eC (.int 0))))) (sRet (eC (.bool false))) sNext)
  (sSeq (sIf (tNotD (tOrD (tAndD (tOfE (eBin opEq (eBin opIx (eVar 0) (eC (.int 0))) (eC (.str "step")))) (tOfE (eBin opEq (eCall opLen (aCons (eVar 0) aNil)) (eC (.int 2))))) (tAndD (tOfE (eBin opEq (eBin opIx (eVar 0) (eC (.int 0))) (eC (.str "join")))) (tOfE (eBin opEq (eCall opLen (aCons (eVar 0) aNil)) (eC (.int 4))))))) (sRet (eC (.bool false))) sNext)
  (sRet (eGenN false (iSq (eSl opSl (eVar 0) (oSome (eC (.int 1))) oNone)) (gSet 1) tYesD (eFunP d_is_number (aCons (eVar 1) (aCons (eC (.int 1)) (aCons (eC (.int 281474976710656)) aNil)))) [1]))))
noncomputable def d_is_opening : List D → Wd → Option (D × Wd) := defD 2 b_is_opening
noncomputable def b_opening : DS :=
  (sSeq (sSet 2 (eMethD "Notary" "parts_of" (eVar 0) d_Notary__parts_of (aCons (eVar 1) aNil)))
  (sSeq (sIf (tOrD (tOfE (eBin opIsN (eVar 2) (eC .none))) (tNotD (tOfE (eFunP d_is_opening (aCons (eVar 2) aNil))))) (sRet (eC .none)) sNext)
  (sRet (eVar 2))))
noncomputable def d_opening : List D → Wd → Option (D × Wd) := defD 3 b_opening
noncomputable def b_last_of : DS :=
  (sSeq (sSet 2 (eFun d_opening (aCons (eVar 0) (aCons (eVar 1) aNil))))
  (sSeq (sIf (tOfE (eBin opIsN (eVar 2) (eC .none))) (sRet (eC (.int 0))) sNext)
  (sRet (eBin opIx (eVar 2) (eUn opNeg (eC (.int 1)))))))
noncomputable def d_last_of : List D → Wd → Option (D × Wd) := defD 3 b_last_of
noncomputable def b_half_spans : DS :=
  (sSeq (sAsg (eVar 0) (gTupD (gConsD (gSet 5) (gConsD (gSet 6) (gConsD (gSet 7) (gConsD (gSet 8) (gConsD (gSet 9) gNilD)))))))
  (sRet (eTup (aCons (eTup (aCons (eBin opSub (eVar 5) (eC (.int 1))) (aCons (eVar 6) (aCons (eVar 7) (aCons (eVar 8) (aCons (eVar 3) aNil)))))) (aCons (eTup (aCons (eBin opSub (eVar 5) (eC (.int 1))) (aCons (eBin opAdd (eVar 6) (eBin opShl (eC (.int 1)) (eBin opSub (eVar 5) (eC (.int 1))))) (aCons (eVar 1) (aCons (eVar 2) (aCons (eVar 4) aNil)))))) aNil)))))
noncomputable def d_half_spans : List D → Wd → Option (D × Wd) := defD 10 b_half_spans
noncomputable def b_halves_of : DS :=
  (sSeq (sSet 2 (eFun d_opening (aCons (eVar 0) (aCons (eBin opIx (eVar 1) (eC (.int 4))) aNil))))
  (sSeq (sIf (tOrD (tOfE (eBin opEq (eBin opIx (eVar 1) (eC (.int 0))) (eC (.int 0)))) (tOrD (tOfE (eBin opIsN (eVar 2) (eC .none))) (tOfE (eBin opNe (eBin opIx (eVar 2) (eC (.int 0))) (eC (.str "join")))))) (sRet (eC .none)) sNext)
  (sSeq (sSet 3 (eFun d_last_of (aCons (eVar 0) (aCons (eBin opIx (eVar 2) (eC (.int 1))) aNil))))
  (sSeq (sSet 4 (eMethD "Notary" "find" (eVar 0) d_Notary__find (aCons (eTup (aCons (eC (.str "behind")) (aCons (eBin opIx (eVar 1) (eC (.int 2))) (aCons (eBin opIx (eVar 2) (eC (.int 1))) aNil)))) aNil)))
  (sSeq (sIf (tOrD (tOfE (eBin opEq (eVar 3) (eC (.int 0)))) (tOfE (eBin opEq (eVar 4) (eC (.int 0))))) (sRet (eC .none)) sNext)
  (sRet (eFunP d_half_spans (aCons (eVar 1) (aCons (eVar 4) (aCons (eVar 3) (aCons (eBin opIx (eVar 2) (eC (.int 1))) (aCons (eBin opIx (eVar 2) (eC (.int 2))) aNil))))))))))))
noncomputable def d_halves_of : List D → Wd → Option (D × Wd) := defD 5 b_halves_of
noncomputable abbrev l__law_cut_1 : DS :=
  (sSeq (sSet 7 (eFun d_halves_of (aCons (eVar 0) (aCons (eVar 6) aNil))))
  (sSeq (sIf (tOfE (eBin opIsN (eVar 7) (eC .none))) (sRet (eC .none)) sNext)
  (sExtA 5 (eVar 7))))
noncomputable abbrev l__law_cut_2 : DS :=
  (sSeq (sOwn 5 aNil)
  (sSeq (sFor (iSq (eVar 3)) (gSet 6) l__law_cut_1)
  (sMove 3 5)))
noncomputable def b__law_cut : DS :=
  (sSeq (sSet 3 (eLst (aCons (eVar 1) aNil)))
  (sSeq (sFor (iRange (aCons (eVar 2) aNil)) (gSet 4) l__law_cut_2)
  (sRet (eCall opTuple (aCons (eVar 3) aNil)))))
noncomputable def d__law_cut : List D → Wd → Option (D × Wd) := defD 8 b__law_cut
noncomputable def b__law_same (rc : List D → Wd → Option (D × Wd)) : DS :=
  (sSeq (sIf (tOrD (tAndD (tOfE (eUn (opIsi "tuple") (eVar 0))) (tOfE (eUn (opIsi "tuple") (eVar 1)))) (tAndD (tOfE (eUn (opIsi "list") (eVar 0))) (tOfE (eUn (opIsi "list") (eVar 1))))) (sRet (eAnd (eBin opEq (eCall opLen (aCons (eVar 0) aNil)) (eCall opLen (aCons (eVar 1) aNil))) (eCall opAll (aCons (eOfN (eLcN (iRange (aCons (eCall opLen (aCons (eVar 0) aNil)) aNil)) (gSet 2) tYesD (eFunP rc (aCons (eBin opIx (eVar 0) (eVar 2)) (aCons (eBin opIx (eVar 1) (eVar 2)) aNil))) [2])) aNil)))) sNext)
  (sSeq (sIf (tAndD (tOfE (eUn (opIsi "dict") (eVar 0))) (tOfE (eUn (opIsi "dict") (eVar 1)))) sNever sNext)
  (sSeq (sIf (tOrD (tOfE (eUn (opIsi "bool") (eVar 0))) (tOfE (eUn (opIsi "bool") (eVar 1)))) (sRet (eAnd (eUn (opIsi "bool") (eVar 0)) (eAnd (eUn (opIsi "bool") (eVar 1)) (eBin opEq (eVar 0) (eVar 1))))) sNext)
  (sSeq (sIf (tOrD (tAndD (tOfE (eUn (opIsi "int") (eVar 0))) (tOfE (eUn (opIsi "int") (eVar 1)))) (tAndD (tOfE (eUn (opIsi "str") (eVar 0))) (tOfE (eUn (opIsi "str") (eVar 1))))) (sRet (eBin opEq (eVar 0) (eVar 1))) sNext)
  (sRet (eAnd (eBin opIsN (eVar 0) (eC .none)) (eBin opIsN (eVar 1) (eC .none))))))))
noncomputable def d__law_same : Nat → List D → Wd → Option (D × Wd)
  | 0 => fun _ _ => none
  | n + 1 => defD 4 (b__law_same (d__law_same n))
noncomputable abbrev l_histories_in_1 : DS :=
  (sExt 2 (eLst (aCons (eBin opIx (eBin opIx (eVar 1) (eVar 3)) (eC (.int 1))) (aCons (eBin opIx (eBin opIx (eVar 1) (eVar 3)) (eC (.int 2))) aNil))))
noncomputable def b_histories_in : DS :=
  (sSeq (sOwn 2 (aCons (eVar 0) aNil))
  (sSeq (sFor (iRange (aCons (eBin opDiv (eCall opLen (aCons (eVar 1) aNil)) (eC (.int 2))) aNil)) (gSet 3) l_histories_in_1)
  (sRet (eVarB 2))))
noncomputable def d_histories_in : List D → Wd → Option (D × Wd) := defD 4 b_histories_in
noncomputable def b_fits : DS :=
  (sRet (eGenN false (iRange (aCons (eBin opDiv (eCall opLen (aCons (eVar 0) aNil)) (eC (.int 2))) aNil)) (gSet 1) tYesD (eBin opEq (eBin opIx (eBin opIx (eVar 0) (eVar 1)) (eC (.int 3))) (eBin opIx (eBin opIx (eVar 0) (eBin opAdd (eBin opMul (eC (.int 2)) (eVar 1)) (eC (.int 2)))) (eUn opNeg (eC (.int 1))))) [1]))
noncomputable def d_fits : List D → Wd → Option (D × Wd) := defD 2 b_fits
noncomputable def b_wide_parts : DS :=
  (sSeq (sSet 4 (eFunP d_leaf_count (aCons (eVar 2) aNil)))
  (sSeq (sIf (tOrD (tNotD (tOfE (eUn (opIsi "tuple") (eVar 3)))) (tOfE (eBin opNe (eCall opLen (aCons (eVar 3) aNil)) (eBin opSub (eBin opMul (eC (.int 2)) (eVar 4)) (eC (.int 1)))))) (sRet (eC .none)) sNext)
  (sSeq (sIf (tNotD (tOfE (eGenN false (iSq (eVar 3)) (gSet 6) tYesD (eFunP d_is_opening (aCons (eVar 6) aNil)) [6]))) (sRet (eC .none)) sNext)
  (sSeq (sIf (tOrD (tNotD (tOfE (eGenN false (iSq (eSl opSl (eVar 3) oNone (oSome (eBin opSub (eVar 4) (eC (.int 1)))))) (gSet 6) tYesD (eBin opEq (eBin opIx (eVar 6) (eC (.int 0))) (eC (.str "join"))) [6]))) (tNotD (tOfE (eFunP d_fits (aCons (eVar 3) aNil))))) (sRet (eC .none)) sNext)
  (sSeq (sSet 5 (eFunP d_histories_in (aCons (eVar 1) (aCons (eVar 3) aNil))))
  (sSeq (sIf (tNotD (tOfE (eGenN false (iRange (aCons (eCall opLen (aCons (eVar 5) aNil)) aNil)) (gSet 7) tYesD (eBin opEq (eMethD "Notary" "find" (eVar 0) d_Notary__find (aCons (eBin opIx (eVar 3) (eVar 7)) aNil)) (eBin opIx (eVar 5) (eVar 7))) [7]))) (sRet (eC .none)) sNext)
  (sRet (eCall opTuple (aCons (eOfN (eLcN (iRange (aCons (eBin opSub (eVar 4) (eC (.int 1))) (aCons (eCall opLen (aCons (eVar 5) aNil)) aNil))) (gSet 7) tYesD (eTup (aCons (eBin opIx (eVar 5) (eVar 7)) (aCons (eBin opIx (eBin opIx (eVar 3) (eVar 7)) (eUn opNeg (eC (.int 1)))) aNil))) [7])) aNil)))))))))
noncomputable def d_wide_parts : List D → Wd → Option (D × Wd) := defD 8 b_wide_parts
noncomputable def b_cut_in_two : DS :=
  (sSeq (sSet 4 (eMethD "Notary" "find" (eVar 0) d_Notary__find (aCons (eTup (aCons (eC (.str "behind")) (aCons (eBin opIx (eVar 1) (eC (.int 2))) (aCons (eBin opIx (eVar 2) (eC (.int 1))) aNil)))) aNil)))
  (sRet (eIf (tOfE (eBin opEq (eVar 4) (eC (.int 0)))) (eC .none) (eFunP d_half_spans (aCons (eVar 1) (aCons (eVar 4) (aCons (eBin opIx (eVar 3) (eUn opNeg (eC (.int 1)))) (aCons (eBin opIx (eVar 2) (eC (.int 1))) (aCons (eBin opIx (eVar 2) (eC (.int 2))) aNil)))))))))
noncomputable def d_cut_in_two : List D → Wd → Option (D × Wd) := defD 5 b_cut_in_two
noncomputable abbrev l_wide_cut_1 : DS :=
  (sSeq (sSet 6 (eFun d_cut_in_two (aCons (eVar 0) (aCons (eIxOwn 4 (eVar 5)) (aCons (eBin opIx (eVar 3) (eVar 5)) (aCons (eBin opIx (eVar 3) (eBin opAdd (eBin opMul (eC (.int 2)) (eVar 5)) (eC (.int 1)))) aNil))))))
  (sSeq (sIf (tOfE (eBin opIsN (eVar 6) (eC .none))) (sRet (eC .none)) sNext)
  (sExtA 4 (eVar 6))))
noncomputable def b_wide_cut : DS :=
  (sSeq (sIf (tOrD (tOfE (eBin opLt (eBin opIx (eVar 1) (eC (.int 0))) (eVar 2))) (tOfE (eBin opIsN (eFun d_wide_parts (aCons (eVar 0) (aCons (eBin opIx (eVar 1) (eC (.int 4))) (aCons (eVar 2) (aCons (eVar 3) aNil))))) (eC .none)))) (sRet (eC .none)) sNext)
  (sSeq (sOwn 4 (aCons (eVar 1) aNil))
  (sSeq (sFor (iRange (aCons (eBin opDiv (eCall opLen (aCons (eVar 3) aNil)) (eC (.int 2))) aNil)) (gSet 5) l_wide_cut_1)
  (sRet (eCall opTuple (aCons (eSl opSl (eVarB 4) (oSome (eBin opDiv (eCall opLen (aCons (eVar 3) aNil)) (eC (.int 2)))) oNone) aNil))))))
noncomputable def d_wide_cut : List D → Wd → Option (D × Wd) := defD 7 b_wide_cut
noncomputable abbrev l_wide_opening_1 : DS :=
  (sSeq (sSet 8 (eFun d_opening (aCons (eVar 0) (aCons (eVar 7) aNil))))
  (sSeq (sIf (tOrD (tOfE (eBin opIsN (eVar 8) (eC .none))) (tAndD (tOfE (eBin opLt (eVar 5) (eVar 2))) (tOfE (eBin opNe (eBin opIx (eVar 8) (eC (.int 0))) (eC (.str "join")))))) (sRet (eC .none)) sNext)
  (sSeq (sApp 3 (eVar 8))
  (sIf (tOfE (eBin opLt (eVar 5) (eVar 2))) (sExt 6 (eLst (aCons (eBin opIx (eVar 8) (eC (.int 1))) (aCons (eBin opIx (eVar 8) (eC (.int 2))) aNil)))) sNext))))
noncomputable abbrev l_wide_opening_2 : DS :=
  (sSeq (sOwn 6 aNil)
  (sSeq (sFor (iSq (eVar 4)) (gSet 7) l_wide_opening_1)
  (sMove 4 6)))
noncomputable def b_wide_opening : DS :=
  (sSeq (sOwn 3 aNil)
  (sSeq (sSet 4 (eLst (aCons (eVar 1) aNil)))
  (sSeq (sFor (iRange (aCons (eBin opAdd (eVar 2) (eC (.int 1))) aNil)) (gSet 5) l_wide_opening_2)
  (sRet (eIf (tOfE (eFunP d_fits (aCons (eVarB 3) aNil))) (eTupOwn 3) (eC .none))))))
noncomputable def d_wide_opening : List D → Wd → Option (D × Wd) := defD 9 b_wide_opening
noncomputable abbrev l_law_1 : DS :=
  (sSeq (sSet 11 (eFun d__law_opened (aCons (eVar 2) (aCons (eVar 10) (aCons (eVar 6) aNil)))))
  (sSeq (sIf (tNotD (tOfE (eFunP (d__law_same 6) (aCons (eFun d_wide_parts (aCons (eVar 2) (aCons (eVar 10) (aCons (eVar 6) (aCons (eVar 11) aNil))))) (aCons (eFun d__law_parts (aCons (eVar 2) (aCons (eVar 10) (aCons (eVar 6) (aCons (eVar 11) aNil))))) aNil))))) (sRet (eC (.bool false))) sNext)
  (sIf (tNotD (tOfE (eFunP (d__law_same 6) (aCons (eFun d_wide_opening (aCons (eVar 2) (aCons (eVar 10) (aCons (eVar 6) aNil)))) (aCons (eFun d__law_openings (aCons (eVar 2) (aCons (eVar 10) (aCons (eVar 6) aNil)))) aNil))))) (sRet (eC (.bool false))) sNext)))
noncomputable abbrev l_law_2 : DS :=
  (sSeq (sSet 14 (eIf (tOfE (eBin opEq (eFun d__law_draw (aCons (eVar 1) (aCons (eC (.int 4)) aNil))) (eC (.int 0)))) (eCall opMin2 (aCons (eC (.int 4)) (aCons (eFun d__law_draw (aCons (eVar 1) (aCons (eC (.int 6)) aNil))) aNil))) (eVar 6)))
  (sSeq (sSet 15 (eFun (d__law_changed 12) (aCons (eVar 1) (aCons (eVar 7) aNil))))
  (sSeq (sIf (tNotD (tOfE (eFunP (d__law_same 6) (aCons (eFun d_wide_parts (aCons (eVar 2) (aCons (eVar 5) (aCons (eVar 14) (aCons (eVar 15) aNil))))) (aCons (eFun d__law_parts (aCons (eVar 2) (aCons (eVar 5) (aCons (eVar 14) (aCons (eVar 15) aNil))))) aNil))))) (sRet (eC (.bool false))) sNext)
  (sIf (tOfE (eBin opNotN (eFun d_wide_parts (aCons (eVar 2) (aCons (eBin opAdd (eVar 5) (eC (.int 1))) (aCons (eVar 6) (aCons (eVar 7) aNil))))) (eC .none))) (sRet (eC (.bool false))) sNext))))
noncomputable abbrev l_law_3 : DS :=
  (sSeq (sPopG 18 (gTupD (gConsD (gSet 10) (gConsD (gSet 19) (gConsD (gSet 20) gNilD)))))
  (sSeq (sSet 12 (eMethD "Notary" "parts_of" (eVar 2) d_Notary__parts_of (aCons (eVar 19) aNil)))
  (sIf (tAndD (tOfE (eBin opGt (eVar 20) (eC (.int 0)))) (tOfE (eBin opGt (eFun d__law_draw (aCons (eVar 1) (aCons (eC (.int 30)) aNil))) (eC (.int 0))))) (sExt 18 (eLst (aCons (eTup (aCons (eVar 10) (aCons (eBin opIx (eVar 12) (eC (.int 1))) (aCons (eBin opSub (eVar 20) (eC (.int 1))) aNil)))) (aCons (eTup (aCons (eMethD "Notary" "seal" (eVar 2) d_Notary__seal (aCons (eTup (aCons (eC (.str "behind")) (aCons (eVar 10) (aCons (eBin opIx (eVar 12) (eC (.int 1))) aNil)))) aNil)) (aCons (eBin opIx (eVar 12) (eC (.int 2))) (aCons (eBin opSub (eVar 20) (eC (.int 1))) aNil)))) aNil)))) sNext)))
noncomputable abbrev l_law_4 : DS :=
  (sSeq (sSet 15 (eFun (d__law_changed 12) (aCons (eVar 1) (aCons (eVar 7) aNil))))
  (sIf (tAndD (tOfE (eBin opIsN (eFun d__law_parts (aCons (eVar 2) (aCons (eVar 5) (aCons (eVar 6) (aCons (eVar 15) aNil))))) (eC .none))) (tOfE (eBin opNotN (eFun d_wide_cut (aCons (eVar 2) (aCons (eVar 17) (aCons (eVar 6) (aCons (eVar 15) aNil))))) (eC .none)))) (sRet (eC (.bool false))) sNext))
noncomputable def b_law : DS :=
  (sSeq (sSet 2 (eMakeD "Notary" d_Notary____init__ aNil))
  (sSeq (sSet 3 (eIf (tOfE (eBin opEq (eFun d__law_draw (aCons (eVar 1) (aCons (eC (.int 8)) aNil))) (eC (.int 0)))) (eBin opAdd (eC (.int 6)) (eFun d__law_draw (aCons (eVar 1) (aCons (eC (.int 5)) aNil)))) (eFun d__law_draw (aCons (eVar 1) (aCons (eC (.int 6)) aNil)))))
  (sSeq (sSet 4 (eOfN (eLcN (iRange (aCons (eBin opShl (eC (.int 1)) (eVar 3)) aNil)) (gSet 23) tYesD (eBin opAdd (eC (.int 1)) (eFun d__law_draw (aCons (eVar 1) (aCons (eBin opIx (eLst (aCons (eC (.int 3)) (aCons (eC (.int 1000)) aNil))) (eFun d__law_draw (aCons (eVar 1) (aCons (eC (.int 2)) aNil)))) aNil)))) [23])))
  (sSeq (sSet 5 (eIf (tOfE (eBin opEq (eFun d__law_draw (aCons (eVar 1) (aCons (eC (.int 2)) aNil))) (eC (.int 0)))) (eFun d_history_of (aCons (eVar 2) (aCons (eCall opTuple (aCons (eVar 4) aNil)) aNil))) (eFun (d__law_history 12) (aCons (eVar 1) (aCons (eVar 2) (aCons (eVar 4) aNil))))))
  (sSeq (sSet 6 (eCall opMin2 (aCons (eC (.int 4)) (aCons (eFun d__law_draw (aCons (eVar 1) (aCons (eBin opAdd (eVar 3) (eC (.int 2))) aNil))) aNil))))
  (sSeq (sSet 7 (eFun d__law_openings (aCons (eVar 2) (aCons (eVar 5) (aCons (eVar 6) aNil)))))
  (sSeq (sSet 8 (eFun d__law_odd (aCons (eVar 1) (aCons (eVar 2) (aCons (eVar 5) aNil)))))
  (sSeq (sSet 9 (eMethD "Notary" "size" (eVar 2) d_Notary__size aNil))
  (sSeq (sFor (iSq (eTup (aCons (eVar 5) (aCons (eVar 8) aNil)))) (gSet 10) l_law_1)
  (sSeq (sIf (tOrD (tOfE (eBin opNe (eC (.int 4)) (eC (.int 4)))) (tNotD (tOfE (eFunP (d__law_same 6) (aCons (eFun d_wide_opening (aCons (eVar 2) (aCons (eVar 5) (aCons (eVar 6) aNil)))) (aCons (eVar 7) aNil)))))) (sRet (eC (.bool false))) sNext)
  (sSeq (sSet 12 (eIf (tOfE (eBin opIsN (eVar 7) (eC .none))) (eC .none) (eFun d__law_parts (aCons (eVar 2) (aCons (eVar 5) (aCons (eVar 6) (aCons (eVar 7) aNil)))))))
  (sSeq (sIf (tOrD (tNotD (tOfE (eFunP (d__law_same 6) (aCons (eFun d_wide_parts (aCons (eVar 2) (aCons (eVar 5) (aCons (eVar 6) (aCons (eVar 7) aNil))))) (aCons (eVar 12) aNil))))) (tAndD (tOfE (eBin opNotN (eVar 7) (eC .none))) (tOfE (eBin opIsN (eVar 12) (eC .none))))) (sRet (eC (.bool false))) sNext)
  (sSeq (sFor (iRange (aCons (eC (.int 5)) aNil)) (gSet 13) l_law_2)
  (sSeq (sIf (tOfE (eBin opNe (eMethD "Notary" "size" (eVar 2) d_Notary__size aNil) (eVar 9))) (sRet (eC (.bool false))) sNext)
  (sSeq (sSet 16 (eBin opMul (eFun d__law_draw (aCons (eVar 1) (aCons (eC (.int 3)) aNil))) (eMethD "Notary" "seal" (eVar 2) d_Notary__seal (aCons (eTup (aCons (eC (.str "x")) (aCons (eC (.int 1)) aNil))) aNil))))
  (sSeq (sSet 17 (eTup (aCons (eVar 3) (aCons (eFun d__law_draw (aCons (eVar 1) (aCons (eC (.int 1000)) aNil))) (aCons (eVar 16) (aCons (eBin opAdd (eC (.int 1)) (eFun d__law_draw (aCons (eVar 1) (aCons (eC (.int 50)) aNil)))) (aCons (eVar 5) aNil)))))))
  (sSeq (sOwn 18 (aIfN (tOfE (eBin opNotN (eVar 7) (eC .none))) (aCons (eTup (aCons (eVar 16) (aCons (eVar 5) (aCons (eCall opMin2 (aCons (eVar 3) (aCons (eVar 6) aNil))) aNil)))) aNil) aNil))
  (sSeq (sWhile (tOfE (eBin opNe (eVarB 18) (eLst aNil))) l_law_3)
  (sSeq (sSet 9 (eMethD "Notary" "size" (eVar 2) d_Notary__size aNil))
  (sSeq (sSet 21 (eIf (tAndD (tOfE (eBin opNotN (eVar 7) (eC .none))) (tOfE (eBin opLe (eVar 6) (eVar 3)))) (eFun d__law_cut (aCons (eVar 2) (aCons (eVar 17) (aCons (eVar 6) aNil)))) (eC .none)))
  (sSeq (sIf (tNotD (tOfE (eFunP (d__law_same 6) (aCons (eFun d_wide_cut (aCons (eVar 2) (aCons (eVar 17) (aCons (eVar 6) (aCons (eVar 7) aNil))))) (aCons (eVar 21) aNil))))) (sRet (eC (.bool false))) sNext)
  (sSeq (sFor (iRange (aCons (eIf (tOfE (eBin opNotN (eVar 21) (eC .none))) (eC (.int 4)) (eC (.int 0))) aNil)) (gSet 13) l_law_4)
  (sSeq (sIf (tAndD (tOfE (eBin opGt (eVar 6) (eC (.int 0)))) (tAndD (tOfE (eBin opNe (eVar 8) (eVar 5))) (tOfE (eBin opNotN (eFun d_wide_cut (aCons (eVar 2) (aCons (eBin opAdd (eSl opSl (eVar 17) oNone (oSome (eC (.int 4)))) (eTup (aCons (eVar 8) aNil))) (aCons (eVar 6) (aCons (eFun d__law_opened (aCons (eVar 2) (aCons (eVar 8) (aCons (eVar 6) aNil)))) aNil))))) (eC .none))))) (sRet (eC (.bool false))) sNext)
  (sSeq (sSet 22 (eBin opAdd (eTup (aCons (eCall opMax2 (aCons (eC (.int 0)) (aCons (eBin opSub (eVar 6) (eC (.int 1))) aNil))) aNil)) (eSl opSl (eVar 17) (oSome (eC (.int 1))) oNone)))
  (sRet (eAnd (eOr (eBin opEq (eVar 6) (eC (.int 0))) (eBin opIsN (eFun d_wide_cut (aCons (eVar 2) (aCons (eVar 22) (aCons (eVar 6) (aCons (eVar 7) aNil))))) (eC .none))) (eBin opEq (eMethD "Notary" "size" (eVar 2) d_Notary__size aNil) (eVar 9))))))))))))))))))))))))))))
/-! ## what the top has written -/
structure Tx [Tb] (K : PySem.W.Frag) (mg : Str → Option Value) where
  a__law_box : Addr
  fd__law_box : FuncData
  F__law_box : Fun K "_law_box" "_law_box" s__law_box a__law_box fd__law_box
  b__law_box : Binds K fd__law_box ["script", "nodes"] []
  a_Notary____init__ : Addr
  fd_Notary____init__ : FuncData
  F_Notary____init__ : Fun K "__init__" "Notary.__init__" s_Notary____init__ a_Notary____init__ fd_Notary____init__
  b_Notary____init__ : Binds K fd_Notary____init__ ["self"] []
  me_Notary____init__ : Meth K (Tb.C "Notary") "__init__" a_Notary____init__
  a_Notary__parts_of : Addr
  fd_Notary__parts_of : FuncData
  F_Notary__parts_of : Fun K "parts_of" "Notary.parts_of" s_Notary__parts_of a_Notary__parts_of fd_Notary__parts_of
  b_Notary__parts_of : Binds K fd_Notary__parts_of ["self", "seal"] []
  me_Notary__parts_of : Meth K (Tb.C "Notary") "parts_of" a_Notary__parts_of
  a__law_opened : Addr
  fd__law_opened : FuncData
  F__law_opened : Fun K "_law_opened" "_law_opened" s__law_opened a__law_opened fd__law_opened
  b__law_opened : Binds K fd__law_opened ["notary", "history", "depth"] []
  a__law_openings : Addr
  fd__law_openings : FuncData
  F__law_openings : Fun K "_law_openings" "_law_openings" s__law_openings a__law_openings fd__law_openings
  b__law_openings : Binds K fd__law_openings ["notary", "history", "depth"] []
  a_is_number : Addr
  fd_is_number : FuncData
  F_is_number : Fun K "is_number" "is_number" s_is_number a_is_number fd_is_number
  b_is_number : Binds K fd_is_number ["value", "least", "most"] []
  c_is_label : Addr
  P_is_label : Addr
  a_is_label : Addr
  fd_is_label : FuncData
  F_is_label : FunC K "is_label" "is_label" s_is_label a_is_label fd_is_label c_is_label
  b_is_label : Binds K fd_is_label ["value"] []
  c_is_parts : Addr
  P_is_parts : Addr
  a_is_parts : Addr
  fd_is_parts : FuncData
  F_is_parts : FunC K "is_parts" "is_parts" s_is_parts a_is_parts fd_is_parts c_is_parts
  b_is_parts : Binds K fd_is_parts ["value"] []
  a_Notary__seal : Addr
  fd_Notary__seal : FuncData
  F_Notary__seal : Fun K "seal" "Notary.seal" s_Notary__seal a_Notary__seal fd_Notary__seal
  b_Notary__seal : Binds K fd_Notary__seal ["self", "parts"] []
  me_Notary__seal : Meth K (Tb.C "Notary") "seal" a_Notary__seal
  a__law_load : Addr
  fd__law_load : FuncData
  F__law_load : Fun K "_law_load" "_law_load" s__law_load a__law_load fd__law_load
  b__law_load : Binds K fd__law_load ["box"] []
  a__law_draw : Addr
  fd__law_draw : FuncData
  F__law_draw : Fun K "_law_draw" "_law_draw" s__law_draw a__law_draw fd__law_draw
  b__law_draw : Binds K fd__law_draw ["box", "many"] []
  a__law_odd : Addr
  fd__law_odd : FuncData
  F__law_odd : Fun K "_law_odd" "_law_odd" s__law_odd a__law_odd fd__law_odd
  b__law_odd : Binds K fd__law_odd ["box", "notary", "history"] []
  a_Notary__size : Addr
  fd_Notary__size : FuncData
  F_Notary__size : Fun K "size" "Notary.size" s_Notary__size a_Notary__size fd_Notary__size
  b_Notary__size : Binds K fd_Notary__size ["self"] []
  me_Notary__size : Meth K (Tb.C "Notary") "size" a_Notary__size
  a_leaf_count : Addr
  fd_leaf_count : FuncData
  F_leaf_count : Fun K "leaf_count" "leaf_count" s_leaf_count a_leaf_count fd_leaf_count
  b_leaf_count : Binds K fd_leaf_count ["height"] []
  c_is_row : Addr
  P_is_row : Addr
  a_is_row : Addr
  fd_is_row : FuncData
  F_is_row : FunC K "is_row" "is_row" s_is_row a_is_row fd_is_row c_is_row
  b_is_row : Binds K fd_is_row ["row"] []
  a_rows_above : Addr
  fd_rows_above : FuncData
  F_rows_above : Fun K "rows_above" "rows_above" s_rows_above a_rows_above fd_rows_above
  b_rows_above : Binds K fd_rows_above ["notary", "row"] []
  a_history_of : Addr
  fd_history_of : FuncData
  F_history_of : Fun K "history_of" "history_of" s_history_of a_history_of fd_history_of
  b_history_of : Binds K fd_history_of ["notary", "row"] []
  a__law_history : Addr
  fd__law_history : FuncData
  F__law_history : Fun K "_law_history" "_law_history" s__law_history a__law_history fd__law_history
  b__law_history : Binds K fd__law_history ["box", "notary", "row"] []
  a_Notary__find : Addr
  fd_Notary__find : FuncData
  F_Notary__find : Fun K "find" "Notary.find" s_Notary__find a_Notary__find fd_Notary__find
  b_Notary__find : Binds K fd_Notary__find ["self", "parts"] []
  me_Notary__find : Meth K (Tb.C "Notary") "find" a_Notary__find
  a__law_is_opening : Addr
  fd__law_is_opening : FuncData
  F__law_is_opening : Fun K "_law_is_opening" "_law_is_opening" s__law_is_opening a__law_is_opening fd__law_is_opening
  b__law_is_opening : Binds K fd__law_is_opening ["value"] []
  a__law_parts : Addr
  fd__law_parts : FuncData
  F__law_parts : Fun K "_law_parts" "_law_parts" s__law_parts a__law_parts fd__law_parts
  b__law_parts : Binds K fd__law_parts ["notary", "history", "depth", "value"] []
  a__law_changed : Addr
  fd__law_changed : FuncData
  F__law_changed : Fun K "_law_changed" "_law_changed" s__law_changed a__law_changed fd__law_changed
  b__law_changed : Binds K fd__law_changed ["box", "value"] []
  c_is_opening : Addr
  P_is_opening : Addr
  a_is_opening : Addr
  fd_is_opening : FuncData
  F_is_opening : FunC K "is_opening" "is_opening" s_is_opening a_is_opening fd_is_opening c_is_opening
  b_is_opening : Binds K fd_is_opening ["value"] []
  a_opening : Addr
  fd_opening : FuncData
  F_opening : Fun K "opening" "opening" s_opening a_opening fd_opening
  b_opening : Binds K fd_opening ["notary", "history"] []
  a_last_of : Addr
  fd_last_of : FuncData
  F_last_of : Fun K "last_of" "last_of" s_last_of a_last_of fd_last_of
  b_last_of : Binds K fd_last_of ["notary", "history"] []
  a_half_spans : Addr
  fd_half_spans : FuncData
  F_half_spans : Fun K "half_spans" "half_spans" s_half_spans a_half_spans fd_half_spans
  b_half_spans : Binds K fd_half_spans ["span", "behind", "middle", "left", "right"] []
  a_halves_of : Addr
  fd_halves_of : FuncData
  F_halves_of : Fun K "halves_of" "halves_of" s_halves_of a_halves_of fd_halves_of
  b_halves_of : Binds K fd_halves_of ["notary", "span"] []
  a__law_cut : Addr
  fd__law_cut : FuncData
  F__law_cut : Fun K "_law_cut" "_law_cut" s__law_cut a__law_cut fd__law_cut
  b__law_cut : Binds K fd__law_cut ["notary", "span", "depth"] []
  a__law_same : Addr
  fd__law_same : FuncData
  F__law_same : Fun K "_law_same" "_law_same" s__law_same a__law_same fd__law_same
  b__law_same : Binds K fd__law_same ["a", "b"] []
  a_histories_in : Addr
  fd_histories_in : FuncData
  F_histories_in : Fun K "histories_in" "histories_in" s_histories_in a_histories_in fd_histories_in
  b_histories_in : Binds K fd_histories_in ["history", "openings"] []
  c_fits : Addr
  P_fits : Addr
  a_fits : Addr
  fd_fits : FuncData
  F_fits : FunC K "fits" "fits" s_fits a_fits fd_fits c_fits
  b_fits : Binds K fd_fits ["openings"] []
  c_wide_parts : Addr
  P_wide_parts : Addr
  a_wide_parts : Addr
  fd_wide_parts : FuncData
  F_wide_parts : FunC K "wide_parts" "wide_parts" s_wide_parts a_wide_parts fd_wide_parts c_wide_parts
  b_wide_parts : Binds K fd_wide_parts ["notary", "history", "depth", "openings"] []
  a_cut_in_two : Addr
  fd_cut_in_two : FuncData
  F_cut_in_two : Fun K "cut_in_two" "cut_in_two" s_cut_in_two a_cut_in_two fd_cut_in_two
  b_cut_in_two : Binds K fd_cut_in_two ["notary", "span", "parts", "left"] []
  a_wide_cut : Addr
  fd_wide_cut : FuncData
  F_wide_cut : Fun K "wide_cut" "wide_cut" s_wide_cut a_wide_cut fd_wide_cut
  b_wide_cut : Binds K fd_wide_cut ["notary", "span", "depth", "openings"] []
  a_wide_opening : Addr
  fd_wide_opening : FuncData
  F_wide_opening : Fun K "wide_opening" "wide_opening" s_wide_opening a_wide_opening fd_wide_opening
  b_wide_opening : Binds K fd_wide_opening ["notary", "history", "depth"] []
  a_law : Addr
  fd_law : FuncData
  F_law : Fun K "law" "law" s_law a_law fd_law
  b_law : Binds K fd_law ["script"] []
  m__law_box : mg "_law_box" = some (.ref a__law_box)
  m__law_changed : mg "_law_changed" = some (.ref a__law_changed)
  m__law_cut : mg "_law_cut" = some (.ref a__law_cut)
  m__law_draw : mg "_law_draw" = some (.ref a__law_draw)
  m__law_history : mg "_law_history" = some (.ref a__law_history)
  m__law_is_opening : mg "_law_is_opening" = some (.ref a__law_is_opening)
  m__law_load : mg "_law_load" = some (.ref a__law_load)
  m__law_odd : mg "_law_odd" = some (.ref a__law_odd)
  m__law_opened : mg "_law_opened" = some (.ref a__law_opened)
  m__law_openings : mg "_law_openings" = some (.ref a__law_openings)
  m__law_parts : mg "_law_parts" = some (.ref a__law_parts)
  m__law_same : mg "_law_same" = some (.ref a__law_same)
  m_cut_in_two : mg "cut_in_two" = some (.ref a_cut_in_two)
  m_fits : mg "fits" = some (.ref a_fits)
  m_half_spans : mg "half_spans" = some (.ref a_half_spans)
  m_halves_of : mg "halves_of" = some (.ref a_halves_of)
  m_histories_in : mg "histories_in" = some (.ref a_histories_in)
  m_history_of : mg "history_of" = some (.ref a_history_of)
  m_is_label : mg "is_label" = some (.ref a_is_label)
  m_is_number : mg "is_number" = some (.ref a_is_number)
  m_is_opening : mg "is_opening" = some (.ref a_is_opening)
  m_is_parts : mg "is_parts" = some (.ref a_is_parts)
  m_is_row : mg "is_row" = some (.ref a_is_row)
  m_last_of : mg "last_of" = some (.ref a_last_of)
  m_law : mg "law" = some (.ref a_law)
  m_leaf_count : mg "leaf_count" = some (.ref a_leaf_count)
  m_opening : mg "opening" = some (.ref a_opening)
  m_rows_above : mg "rows_above" = some (.ref a_rows_above)
  m_wide_cut : mg "wide_cut" = some (.ref a_wide_cut)
  m_wide_opening : mg "wide_opening" = some (.ref a_wide_opening)
  m_wide_parts : mg "wide_parts" = some (.ref a_wide_parts)
  cl_Notary : Cls K (Tb.C "Notary")
  m_Notary : mg "Notary" = some (.ref (Tb.C "Notary"))
  mk_Notary : Mk K (Tb.C "Notary") a_Notary____init__
  na_Notary_asked : NoAttr K (Tb.C "Notary") "asked"
  na_Notary_numbers : NoAttr K (Tb.C "Notary") "numbers"
  na_Notary_tuples : NoAttr K (Tb.C "Notary") "tuples"
  m_all : mg "all" = none
  m_bool : mg "bool" = none
  m_dict : mg "dict" = none
  m_int : mg "int" = none
  m_isinstance : mg "isinstance" = none
  m_len : mg "len" = none
  m_list : mg "list" = none
  m_max : mg "max" = none
  m_min : mg "min" = none
  m_range : mg "range" = none
  m_str : mg "str" = none
  m_tuple : mg "tuple" = none
  t_MAX_DEPTH : Tok
  m_MAX_DEPTH : mg "MAX_DEPTH" = some (.int 4 t_MAX_DEPTH)
  t_MAX_LEVEL : Tok
  m_MAX_LEVEL : mg "MAX_LEVEL" = some (.int 10 t_MAX_LEVEL)
  t_MAX_PART : Tok
  m_MAX_PART : mg "MAX_PART" = some (.int 281474976710656 t_MAX_PART)
  t_MAX_TEXT : Tok
  m_MAX_TEXT : mg "MAX_TEXT" = some (.int 24 t_MAX_TEXT)
  t_MOST_PARTS : Tok
  m_MOST_PARTS : mg "MOST_PARTS" = some (.int 16 t_MOST_PARTS)
structure Tbs [Tb] {K : PySem.W.Frag} {mg : Str → Option Value} (T : Tx K mg) (base : Heap) : Prop where
  t_is_label : GxR.TabB base mg T.c_is_label T.P_is_label
  h_is_label : Tb.T T.P_is_label
  t_is_parts : GxR.TabB base mg T.c_is_parts T.P_is_parts
  h_is_parts : Tb.T T.P_is_parts
  t_is_row : GxR.TabB base mg T.c_is_row T.P_is_row
  h_is_row : Tb.T T.P_is_row
  t_is_opening : GxR.TabB base mg T.c_is_opening T.P_is_opening
  h_is_opening : Tb.T T.P_is_opening
  t_fits : GxR.TabB base mg T.c_fits T.P_fits
  h_fits : Tb.T T.P_fits
  t_wide_parts : GxR.TabB base mg T.c_wide_parts T.P_wide_parts
  h_wide_parts : Tb.T T.P_wide_parts
section
variable [Tb]
variable {P : Program} {w : World} {K : PySem.W.Frag} {mg : Str → Option Value} {base : Heap}
theorem sc_Notary____init__ : FnScope N_Notary____init__ ["self"] (defScope s_Notary____init__) := ⟨rfl, rfl, rfl, by decide +kernel, rfl, by decide +kernel, by decide +kernel⟩
theorem ok_Notary____init__ (T : Tx K mg) (B : Tbs T base) : FnOk P w K mg base CX0 1 T.a_Notary____init__ T.fd_Notary____init__ ["self"] (spD K 1 d_Notary____init__) := by
  refine fn_denM (fb := b_Notary____init__) T.F_Notary____init__ sc_Notary____init__ rfl rfl (fun cdv A outer s H E hr => ?_)
  have hu := hr.units
  have nd := sc_Notary____init__.nd
  exact ⟨_, sxs_cons (sx_fld (c := "Notary") (ex_newT) (ex_var) T.cl_Notary T.na_Notary_numbers)
    (sxs_cons (sx_fld (c := "Notary") (EN.ob (en_lst (ea_nil) (len_nil))) (ex_var) T.cl_Notary T.na_Notary_tuples)
    (sxs_one (sx_fld (c := "Notary") (ex_int) (ex_var) T.cl_Notary T.na_Notary_asked)))⟩
theorem sc_Notary__parts_of : FnScope N_Notary__parts_of ["self", "seal"] (defScope s_Notary__parts_of) := ⟨rfl, rfl, rfl, by decide +kernel, rfl, by decide +kernel, by decide +kernel⟩
theorem ok_Notary__parts_of (T : Tx K mg) (B : Tbs T base) : FnOk P w K mg base CX0 1 T.a_Notary__parts_of T.fd_Notary__parts_of ["self", "seal"] (spD K 2 d_Notary__parts_of) := by
  refine fn_denM (fb := b_Notary__parts_of) T.F_Notary__parts_of sc_Notary__parts_of rfl rfl (fun cdv A outer s H E hr => ?_)
  have hu := hr.units
  have nd := sc_Notary__parts_of.nd
  exact ⟨_, sxs_cons (sx_if (et_chain (d := true) (d' := true) (op_leK hu) (op_leK hu) ops_le ops_le (ex_int) (ex_var) (ex_lenObK T.m_len (ex_fldK (c := "Notary") (ex_var) T.cl_Notary T.na_Notary_tuples))) (sxs_one (sx_ret (ex_ixObK (ex_fldK (c := "Notary") (ex_var) T.cl_Notary T.na_Notary_tuples) (ex_bin op_sub ops_sub (ex_var) (ex_int))))) (sxs_nil))
    (sxs_one (sx_ret (ex_non)))⟩
theorem sc__law_opened : FnScope N__law_opened ["notary", "history", "depth"] (defScope s__law_opened) := ⟨rfl, rfl, rfl, by decide +kernel, rfl, by decide +kernel, by decide +kernel⟩
theorem ok__law_opened (T : Tx K mg) (B : Tbs T base) : FnOk P w K mg base CX0 2 T.a__law_opened T.fd__law_opened ["notary", "history", "depth"] (spD K 3 d__law_opened) := by
  have G_Notary__parts_of := ok_Notary__parts_of (P := P) (w := w) (base := base) T B
  refine fn_denM (fb := b__law_opened) T.F__law_opened sc__law_opened rfl rfl (fun cdv A outer s H E hr => ?_)
  have hu := hr.units
  have nd := sc__law_opened.nd
  exact ⟨_, sxs_cons (sx_parV nd (ev_own (en_lst (ea_nil) (len_nil))) (ev_val (ex_lst (ea_cons (ex_var) (ea_nil)) (len_cons len_nil))))
    (sxs_cons (sx_for PassesOwn.never rfl (ei_rng1 T.m_range (ea_cons (ex_bin op_addK ops_add (ex_var) (ex_int)) (ea_nil))) (eg_name nd) (sxs_cons (sx_own nd (en_lst (ea_nil) (len_nil)))
    (sxs_cons (sx_for PassesOwn.never rfl (ei_seqK (ex_var)) (eg_name nd) (sxs_cons (sx_set nd (ex_methK (c := "Notary") (ex_var) T.cl_Notary T.me_Notary__parts_of G_Notary__parts_of (hr.mono (by decide)) T.b_Notary__parts_of (ea_cons (ex_var) (ea_nil)) (len_cons len_nil)))
    (sxs_cons (sx_if (EW.t (ew_or (et_cmp op_isN ops_isN (ex_var) (ex_non)) (ew_or (et_cmp (op_notInK hu) ops_notInD (ex_ixK (ex_var) (ex_int)) (ex_lst (ea_cons (ex_str) (ea_cons (ex_str) (ea_nil))) (len_cons (len_cons len_nil)))) (ew_or1 (EW.t (ew_and (et_cmp (op_ltK hu) ops_lt (ex_var) (ex_var)) (ew_and1 (et_cmp (op_neK hu) ops_ne (ex_ixK (ex_var) (ex_int)) (ex_str))))))))) (sxs_one (sx_ret (ex_non))) (sxs_nil))
    (sxs_cons (sx_app (ex_var))
    (sxs_one (sx_extA (ex_if (et_cmp (op_ltK hu) ops_lt (ex_var) (ex_var)) (ex_slK (ex_var) (eo_some (ex_int)) (eo_some (ex_int))) (ex_tup (ea_nil) (len_nil)))))))))
    (sxs_one (sx_move nd)))))
    (sxs_one (sx_ret (ex_tupOwnK T.m_tuple))))⟩
theorem sc__law_openings : FnScope N__law_openings ["notary", "history", "depth"] (defScope s__law_openings) := ⟨rfl, rfl, rfl, by decide +kernel, rfl, by decide +kernel, by decide +kernel⟩
theorem ok__law_openings (T : Tx K mg) (B : Tbs T base) : FnOk P w K mg base CX0 3 T.a__law_openings T.fd__law_openings ["notary", "history", "depth"] (spD K 3 d__law_openings) := by
  have G__law_opened := ok__law_opened (P := P) (w := w) (base := base) T B
  refine fn_denM (fb := b__law_openings) T.F__law_openings sc__law_openings rfl rfl (fun cdv A outer s H E hr => ?_)
  have hu := hr.units
  have nd := sc__law_openings.nd
  exact ⟨_, sxs_cons (sx_set nd (ex_funK G__law_opened (hr.mono (by decide)) T.m__law_opened T.F__law_opened.kp T.b__law_opened (ea_cons (ex_var) (ea_cons (ex_var) (ea_cons (ex_var) (ea_nil)))) (len_cons (len_cons (len_cons len_nil)))))
    (sxs_cons (sx_for PassesOwn.never rfl (ei_rng1 T.m_range (ea_cons (ex_if (et_cmp op_notN ops_notN (ex_var) (ex_non)) (ex_bin op_fdivW ops_div (ex_len T.m_len (ea_cons (ex_var) (ea_nil))) (ex_int)) (ex_int)) (ea_nil))) (eg_name nd) (sxs_one (sx_if (et_cmp (op_neK hu) ops_ne (ex_ixK (ex_ixK (ex_var) (ex_var)) (ex_int)) (ex_ixK (ex_ixK (ex_var) (ex_bin op_addK ops_add (ex_bin op_mulK ops_mul (ex_int) (ex_var)) (ex_int))) (ex_neg (ex_int)))) (sxs_one (sx_ret (ex_non))) (sxs_nil))))
    (sxs_one (sx_ret (ex_var))))⟩
theorem sc_is_number : FnScope N_is_number ["value", "least", "most"] (defScope s_is_number) := ⟨rfl, rfl, rfl, by decide +kernel, rfl, by decide +kernel, by decide +kernel⟩
theorem ok_is_number (T : Tx K mg) (B : Tbs T base) : FnOk P w K mg base CX0 1 T.a_is_number T.fd_is_number ["value", "least", "most"] (spD K 3 d_is_number) := by
  refine fn_denM (fb := b_is_number) T.F_is_number sc_is_number rfl rfl (fun cdv A outer s H E hr => ?_)
  have hu := hr.units
  have nd := sc_is_number.nd
  exact ⟨_, sxs_one (sx_ret (ex_and (ex_isiK kit_int T.m_isinstance T.m_int PyProof.Rows.boot_int (ex_var)) (ex_and (ex_not (ex_isiK kit_bool T.m_isinstance T.m_bool PyProof.Rows.boot_bool (ex_var))) (ex_one (ex_chain (d := true) (d' := true) (op_leK hu) (op_leK hu) ops_le ops_le (ex_var) (ex_var) (ex_var))))))⟩
theorem sc_is_label : FnScope N_is_label ["value"] (defScope s_is_label) := ⟨rfl, rfl, rfl, by decide +kernel, rfl, by decide +kernel, by decide +kernel⟩
theorem ok_is_label (T : Tx K mg) (B : Tbs T base) : FnOk P w K mg base CX0 4 T.a_is_label T.fd_is_label ["value"] (spD K 1 d_is_label) := by
  refine fn_denC (fb := b_is_label) T.F_is_label sc_is_label rfl rfl (fun A outer s H E hr => ?_)
  have hu := hr.units
  have nd := sc_is_label.nd
  exact ⟨_, sxs_cons (sx_if (EW.t (ew_or (et_not (et_val (ex_isiK kit_str T.m_isinstance T.m_str PyProof.Rows.boot_str (ex_var)))) (ew_or1 (et_cmp (op_gtK hu) ops_gt (ex_len T.m_len (ea_cons (ex_var) (ea_nil))) (ex_glob (v := .int 24) (d := .int 24) T.m_MAX_TEXT ⟨_, rfl⟩ (fun _ _ => by rw [Rep])))))) (sxs_one (sx_ret (ex_bl))) (sxs_nil))
    (sxs_one (sx_ret (ex_allG (b := false) (own := [("char", 1)]) (k := 0) B.h_is_label B.t_is_label (hr.mono (by decide)) T.m_all nd (ei_str (ex_var)) (blkOk_by (N := N_is_label) (sc := defScope s_is_label) (by decide +kernel)) (fun _ _ _ _ _ _ _ _ hr => have hu := hr.units; eg_name nd) (fun _ _ _ _ _ _ _ _ hr => have hu := hr.units; ets_nil) (fun _ _ _ _ _ _ _ _ hr => have hu := hr.units; ex_chain (d := true) (d' := true) (op_leK hu) (op_leK hu) ops_le ops_le (ex_str) (ex_var) (ex_str)))))⟩
theorem sc_is_parts : FnScope N_is_parts ["value"] (defScope s_is_parts) := ⟨rfl, rfl, rfl, by decide +kernel, rfl, by decide +kernel, by decide +kernel⟩
theorem ok_is_parts (T : Tx K mg) (B : Tbs T base) : FnOk P w K mg base CX0 8 T.a_is_parts T.fd_is_parts ["value"] (spD K 1 d_is_parts) := by
  have G_is_label := ok_is_label (P := P) (w := w) (base := base) T B
  have G_is_number := ok_is_number (P := P) (w := w) (base := base) T B
  refine fn_denC (fb := b_is_parts) T.F_is_parts sc_is_parts rfl rfl (fun A outer s H E hr => ?_)
  have hu := hr.units
  have nd := sc_is_parts.nd
  exact ⟨_, sxs_cons (sx_if (EW.t (ew_or (et_not (et_val (ex_isiK kit_tuple T.m_isinstance T.m_tuple PyProof.Rows.boot_tuple (ex_var)))) (ew_or1 (et_not (et_chain (d := true) (d' := true) (op_leK hu) (op_leK hu) ops_le ops_le (ex_int) (ex_len T.m_len (ea_cons (ex_var) (ea_nil))) (ex_glob (v := .int 16) (d := .int 16) T.m_MOST_PARTS ⟨_, rfl⟩ (fun _ _ => by rw [Rep]))))))) (sxs_one (sx_ret (ex_bl))) (sxs_nil))
    (sxs_one (sx_ret (ex_allG (b := false) (own := [("part", 1)]) (k := 4) B.h_is_parts B.t_is_parts (hr.mono (by decide)) T.m_all nd (ei_seqK (ex_var)) (blkOk_by (N := N_is_parts) (sc := defScope s_is_parts) (by decide +kernel)) (fun _ _ _ _ _ _ _ _ hr => have hu := hr.units; eg_name nd) (fun _ _ _ _ _ _ _ _ hr => have hu := hr.units; ets_nil) (fun _ _ _ _ _ _ _ _ hr => have hu := hr.units; ex_or (ex_funPK G_is_number (hr.mono (by decide)) T.m_is_number T.F_is_number.kp T.b_is_number (ea_cons (ex_var) (ea_cons (ex_int) (ea_cons (ex_glob (v := .int 281474976710656) (d := .int 281474976710656) T.m_MAX_PART ⟨_, rfl⟩ (fun _ _ => by rw [Rep])) (ea_nil)))) (len_cons (len_cons (len_cons len_nil)))) (ex_one (ex_funPK G_is_label (hr.mono (by decide)) T.m_is_label T.F_is_label.kp T.b_is_label (ea_cons (ex_var) (ea_nil)) (len_cons len_nil)))))))⟩
theorem sc_Notary__seal : FnScope N_Notary__seal ["self", "parts"] (defScope s_Notary__seal) := ⟨rfl, rfl, rfl, by decide +kernel, rfl, by decide +kernel, by decide +kernel⟩
theorem ok_Notary__seal (T : Tx K mg) (B : Tbs T base) : FnOk P w K mg base CX0 9 T.a_Notary__seal T.fd_Notary__seal ["self", "parts"] (spD K 2 d_Notary__seal) := by
  have G_is_parts := ok_is_parts (P := P) (w := w) (base := base) T B
  refine fn_denM (fb := b_Notary__seal) T.F_Notary__seal sc_Notary__seal rfl rfl (fun cdv A outer s H E hr => ?_)
  have hu := hr.units
  have nd := sc_Notary__seal.nd
  exact ⟨_, sxs_cons (sx_if (et_not (et_val (ex_funPK G_is_parts (hr.mono (by decide)) T.m_is_parts T.F_is_parts.kp T.b_is_parts (ea_cons (ex_var) (ea_nil)) (len_cons len_nil)))) (sxs_never) (sxs_nil))
    (sxs_cons (sx_if (et_dnotin hu (ex_var) (ex_fldK (c := "Notary") (ex_var) T.cl_Notary T.na_Notary_numbers)) (sxs_cons (sx_expr (ex_appObK (ex_fldK (c := "Notary") (ex_var) T.cl_Notary T.na_Notary_tuples) (ex_var)))
    (sxs_one (sx_dset hu (ex_lenObK T.m_len (ex_fldK (c := "Notary") (ex_var) T.cl_Notary T.na_Notary_tuples)) (ex_fldK (c := "Notary") (ex_var) T.cl_Notary T.na_Notary_numbers) (ex_var)))) (sxs_nil))
    (sxs_one (sx_ret (ex_dix hu (ex_fldK (c := "Notary") (ex_var) T.cl_Notary T.na_Notary_numbers) (ex_var)))))⟩
theorem sc__law_load : FnScope N__law_load ["box"] (defScope s__law_load) := ⟨rfl, rfl, rfl, by decide +kernel, rfl, by decide +kernel, by decide +kernel⟩
theorem ok__law_load (T : Tx K mg) (B : Tbs T base) : FnOk P w K mg base CX0 1 T.a__law_load T.fd__law_load ["box"] (spD K 1 d__law_load) := by
  refine fn_denM (fb := b__law_load) T.F__law_load sc__law_load rfl rfl (fun cdv A outer s H E hr => ?_)
  have hu := hr.units
  have nd := sc__law_load.nd
  exact ⟨_, sxs_cons (sx_set nd (ex_ixObK (ex_var) (ex_int)))
    (sxs_cons (sx_if (et_cmp (op_gtK hu) ops_gt (ex_lenObK T.m_len (ex_var)) (ex_int)) (sxs_cons (sx_set nd (ex_int1 T.m_int (ea_cons (ex_popOb (ex_var)) (ea_nil))))
    (sxs_cons (sx_set nd (ex_if (et_cmp (op_geK hu) ops_ge (ex_var) (ex_int)) (ex_bin op_mulK ops_mul (ex_int) (ex_var)) (ex_bin op_sub ops_sub (ex_bin op_mulK ops_mul (ex_neg (ex_int)) (ex_var)) (ex_int))))
    (sxs_cons (sx_if (et_cmp (op_geK hu) ops_ge (ex_var) (ex_int)) (sxs_one (sx_ret (ex_var))) (sxs_nil))
    (sxs_one (sx_setOb (ex_bin op_mod ops_mod (ex_int1 T.m_int (ea_cons (ex_bin op_addK ops_add (ex_bin op_addK ops_add (ex_bin op_mulK ops_mul (ex_ixObK (ex_var) (ex_int)) (ex_int)) (ex_bin op_mulK ops_mul (ex_var) (ex_int))) (ex_int)) (ea_nil))) (ex_int)) (ex_var) (ex_int)))))) (sxs_nil))
    (sxs_cons (sx_set nd (ex_bin op_mod ops_mod (ex_int1 T.m_int (ea_cons (ex_bin op_addK ops_add (ex_bin op_mulK ops_mul (ex_ixObK (ex_var) (ex_int)) (ex_int)) (ex_int)) (ea_nil))) (ex_int)))
    (sxs_cons (sx_set nd (ex_bin op_mod ops_mod (ex_int1 T.m_int (ea_cons (ex_bin op_addK ops_add (ex_bin op_mulK ops_mul (ex_var) (ex_int)) (ex_int)) (ea_nil))) (ex_int)))
    (sxs_cons (sx_setOb (ex_bin op_mod ops_mod (ex_int1 T.m_int (ea_cons (ex_bin op_addK ops_add (ex_bin op_mulK ops_mul (ex_var) (ex_int)) (ex_int)) (ea_nil))) (ex_int)) (ex_var) (ex_int))
    (sxs_one (sx_ret (ex_bin op_addK ops_add (ex_bin op_addK ops_add (ex_bin op_mulK ops_mul (ex_var) (ex_int)) (ex_bin op_mulK ops_mul (ex_var) (ex_int))) (ex_ixObK (ex_var) (ex_int)))))))))⟩
theorem sc__law_draw : FnScope N__law_draw ["box", "many"] (defScope s__law_draw) := ⟨rfl, rfl, rfl, by decide +kernel, rfl, by decide +kernel, by decide +kernel⟩
theorem ok__law_draw (T : Tx K mg) (B : Tbs T base) : FnOk P w K mg base CX0 2 T.a__law_draw T.fd__law_draw ["box", "many"] (spD K 2 d__law_draw) := by
  have G__law_load := ok__law_load (P := P) (w := w) (base := base) T B
  refine fn_denM (fb := b__law_draw) T.F__law_draw sc__law_draw rfl rfl (fun cdv A outer s H E hr => ?_)
  have hu := hr.units
  have nd := sc__law_draw.nd
  exact ⟨_, sxs_cons (sx_if (et_cmp (op_ltK hu) ops_lt (ex_ixObK (ex_var) (ex_int)) (ex_var)) (sxs_one (sx_setOb (ex_funK G__law_load (hr.mono (by decide)) T.m__law_load T.F__law_load.kp T.b__law_load (ea_cons (ex_var) (ea_nil)) (len_cons len_nil)) (ex_var) (ex_int))) (sxs_nil))
    (sxs_cons (sx_set nd (ex_bin op_mod ops_mod (ex_int1 T.m_int (ea_cons (ex_ixObK (ex_var) (ex_int)) (ea_nil))) (ex_var)))
    (sxs_cons (sx_setOb (ex_bin op_fdivW ops_div (ex_ixObK (ex_var) (ex_int)) (ex_var)) (ex_var) (ex_int))
    (sxs_one (sx_ret (ex_var)))))⟩
theorem sc__law_odd : FnScope N__law_odd ["box", "notary", "history"] (defScope s__law_odd) := ⟨rfl, rfl, rfl, by decide +kernel, rfl, by decide +kernel, by decide +kernel⟩
theorem ok__law_odd (T : Tx K mg) (B : Tbs T base) : FnOk P w K mg base CX0 10 T.a__law_odd T.fd__law_odd ["box", "notary", "history"] (spD K 3 d__law_odd) := by
  have G_Notary__parts_of := ok_Notary__parts_of (P := P) (w := w) (base := base) T B
  have G_Notary__seal := ok_Notary__seal (P := P) (w := w) (base := base) T B
  have G__law_draw := ok__law_draw (P := P) (w := w) (base := base) T B
  refine fn_denM (fb := b__law_odd) T.F__law_odd sc__law_odd rfl rfl (fun cdv A outer s H E hr => ?_)
  have hu := hr.units
  have nd := sc__law_odd.nd
  exact ⟨_, sxs_cons (sx_set nd (ex_methK (c := "Notary") (ex_var) T.cl_Notary T.me_Notary__parts_of G_Notary__parts_of (hr.mono (by decide)) T.b_Notary__parts_of (ea_cons (ex_var) (ea_nil)) (len_cons len_nil)))
    (sxs_cons (sx_if (EW.t (ew_or (et_cmp op_isN ops_isN (ex_var) (ex_non)) (ew_or1 (et_cmp (op_neK hu) ops_ne (ex_ixK (ex_var) (ex_int)) (ex_str))))) (sxs_one (sx_ret (ex_var))) (sxs_nil))
    (sxs_one (sx_ret (ex_methK (c := "Notary") (ex_var) T.cl_Notary T.me_Notary__seal G_Notary__seal (hr.mono (by decide)) T.b_Notary__seal (ea_cons (ex_bin op_addK ops_add (ex_slK (ex_var) (eo_none) (eo_some (ex_int))) (ex_tup (ea_cons (ex_bin op_addK ops_add (ex_bin op_addK ops_add (ex_ixK (ex_var) (ex_int)) (ex_int)) (ex_funK G__law_draw (hr.mono (by decide)) T.m__law_draw T.F__law_draw.kp T.b__law_draw (ea_cons (ex_var) (ea_cons (ex_int) (ea_nil))) (len_cons (len_cons len_nil)))) (ea_nil)) (len_cons len_nil))) (ea_nil)) (len_cons len_nil)))))⟩
theorem sc_Notary__size : FnScope N_Notary__size ["self"] (defScope s_Notary__size) := ⟨rfl, rfl, rfl, by decide +kernel, rfl, by decide +kernel, by decide +kernel⟩
theorem ok_Notary__size (T : Tx K mg) (B : Tbs T base) : FnOk P w K mg base CX0 1 T.a_Notary__size T.fd_Notary__size ["self"] (spD K 1 d_Notary__size) := by
  refine fn_denM (fb := b_Notary__size) T.F_Notary__size sc_Notary__size rfl rfl (fun cdv A outer s H E hr => ?_)
  have hu := hr.units
  have nd := sc_Notary__size.nd
  exact ⟨_, sxs_one (sx_ret (ex_lenObK T.m_len (ex_fldK (c := "Notary") (ex_var) T.cl_Notary T.na_Notary_tuples)))⟩
theorem sc_leaf_count : FnScope N_leaf_count ["height"] (defScope s_leaf_count) := ⟨rfl, rfl, rfl, by decide +kernel, rfl, by decide +kernel, by decide +kernel⟩
theorem ok_leaf_count (T : Tx K mg) (B : Tbs T base) : FnOk P w K mg base CX0 1 T.a_leaf_count T.fd_leaf_count ["height"] (spD K 1 d_leaf_count) := by
  refine fn_denM (fb := b_leaf_count) T.F_leaf_count sc_leaf_count rfl rfl (fun cdv A outer s H E hr => ?_)
  have hu := hr.units
  have nd := sc_leaf_count.nd
  exact ⟨_, sxs_cons (sx_set nd (ex_int))
    (sxs_cons (sx_for PassesOwn.never rfl (ei_rng1 T.m_range (ea_cons (ex_var) (ea_nil))) (eg_name nd) (sxs_one (sx_set nd (ex_bin op_mulK ops_mul (ex_int) (ex_var)))))
    (sxs_one (sx_ret (ex_var))))⟩
theorem sc_is_row : FnScope N_is_row ["row"] (defScope s_is_row) := ⟨rfl, rfl, rfl, by decide +kernel, rfl, by decide +kernel, by decide +kernel⟩
theorem ok_is_row (T : Tx K mg) (B : Tbs T base) : FnOk P w K mg base CX0 5 T.a_is_row T.fd_is_row ["row"] (spD K 1 d_is_row) := by
  have G_is_number := ok_is_number (P := P) (w := w) (base := base) T B
  have G_leaf_count := ok_leaf_count (P := P) (w := w) (base := base) T B
  refine fn_denC (fb := b_is_row) T.F_is_row sc_is_row rfl rfl (fun A outer s H E hr => ?_)
  have hu := hr.units
  have nd := sc_is_row.nd
  exact ⟨_, sxs_cons (sx_if (EW.t (ew_or (et_not (et_val (ex_isiK kit_tuple T.m_isinstance T.m_tuple PyProof.Rows.boot_tuple (ex_var)))) (ew_or1 (et_cmp (op_notInK hu) ops_notInD (ex_len T.m_len (ea_cons (ex_var) (ea_nil))) (EN.x (en_lc rfl nd (b := false) (own := [("level", 1)]) (ei_rng1 T.m_range (ea_cons (ex_bin op_addK ops_add (ex_glob (v := .int 10) (d := .int 10) T.m_MAX_LEVEL ⟨_, rfl⟩ (fun _ _ => by rw [Rep])) (ex_int)) (ea_nil))) (blkOk_by (N := N_is_row) (sc := defScope s_is_row) (by decide +kernel)) (fun _ _ _ _ _ => eg_name nd) (fun _ _ _ _ _ => ets_nil) (fun _ _ _ _ _ => ex_funPK G_leaf_count (hr.mono (by decide)) T.m_leaf_count T.F_leaf_count.kp T.b_leaf_count (ea_cons (ex_var) (ea_nil)) (len_cons len_nil)))))))) (sxs_one (sx_ret (ex_bl))) (sxs_nil))
    (sxs_one (sx_ret (ex_allG (b := false) (own := [("part", 2)]) (k := 1) B.h_is_row B.t_is_row (hr.mono (by decide)) T.m_all nd (ei_seqK (ex_var)) (blkOk_by (N := N_is_row) (sc := defScope s_is_row) (by decide +kernel)) (fun _ _ _ _ _ _ _ _ hr => have hu := hr.units; eg_name nd) (fun _ _ _ _ _ _ _ _ hr => have hu := hr.units; ets_nil) (fun _ _ _ _ _ _ _ _ hr => have hu := hr.units; ex_funPK G_is_number (hr.mono (by decide)) T.m_is_number T.F_is_number.kp T.b_is_number (ea_cons (ex_var) (ea_cons (ex_int) (ea_cons (ex_glob (v := .int 281474976710656) (d := .int 281474976710656) T.m_MAX_PART ⟨_, rfl⟩ (fun _ _ => by rw [Rep])) (ea_nil)))) (len_cons (len_cons (len_cons len_nil)))))))⟩
theorem sc_rows_above : FnScope N_rows_above ["notary", "row"] (defScope s_rows_above) := ⟨rfl, rfl, rfl, by decide +kernel, rfl, by decide +kernel, by decide +kernel⟩
theorem ok_rows_above (T : Tx K mg) (B : Tbs T base) : FnOk P w K mg base CX0 10 T.a_rows_above T.fd_rows_above ["notary", "row"] (spD K 2 d_rows_above) := by
  have G_Notary__seal := ok_Notary__seal (P := P) (w := w) (base := base) T B
  refine fn_denM (fb := b_rows_above) T.F_rows_above sc_rows_above rfl rfl (fun cdv A outer s H E hr => ?_)
  have hu := hr.units
  have nd := sc_rows_above.nd
  exact ⟨_, sxs_cons (sx_lcV rfl nd (b := false) (own := [("state", 8)]) (ei_seqK (ex_var)) (blkOk_by (N := N_rows_above) (sc := defScope s_rows_above) (by decide +kernel)) (fun _ _ _ _ _ => eg_name nd) (fun _ _ _ _ _ => ets_nil) (fun _ _ _ _ _ => ex_methK (c := "Notary") (ex_var) T.cl_Notary T.me_Notary__seal G_Notary__seal (hr.mono (by decide)) T.b_Notary__seal (ea_cons (ex_tup (ea_cons (ex_str) (ea_cons (ex_var) (ea_nil))) (len_cons (len_cons len_nil))) (ea_nil)) (len_cons len_nil)))
    (sxs_cons (sx_own nd (en_lst (ea_cons (ex_var) (ea_nil)) (len_cons len_nil)))
    (sxs_cons (sx_set nd (ex_int))
    (sxs_cons (sx_while PassesOwn.never (et_cmp (op_gtK hu) ops_gt (ex_len T.m_len (ea_cons (ex_var) (ea_nil))) (ex_int)) (sxs_cons (sx_set nd (ex_bin op_mulK ops_mul (ex_int) (ex_var)))
    (sxs_cons (sx_own nd (en_lst (ea_nil) (len_nil)))
    (sxs_cons (sx_for PassesOwn.never rfl (ei_rng3 T.m_range (ea_cons (ex_int) (ea_cons (ex_len T.m_len (ea_cons (ex_var) (ea_nil))) (ea_cons (ex_int) (ea_nil))))) (eg_name nd) (sxs_cons (sx_set nd (ex_ixK (ex_var) (ex_bin op_sub ops_sub (ex_bin op_mulK ops_mul (ex_bin op_addK ops_add (ex_bin op_fdivW ops_div (ex_var) (ex_int)) (ex_int)) (ex_var)) (ex_int))))
    (sxs_one (sx_app (ex_methK (c := "Notary") (ex_var) T.cl_Notary T.me_Notary__seal G_Notary__seal (hr.mono (by decide)) T.b_Notary__seal (ea_cons (ex_tup (ea_cons (ex_str) (ea_cons (ex_ixK (ex_var) (ex_var)) (ea_cons (ex_ixK (ex_var) (ex_bin op_addK ops_add (ex_var) (ex_int))) (ea_cons (ex_var) (ea_nil))))) (len_cons (len_cons (len_cons (len_cons len_nil))))) (ea_nil)) (len_cons len_nil))))))
    (sxs_cons (sx_move nd)
    (sxs_one (sx_app (ex_var))))))))
    (sxs_one (sx_ret (ex_varB))))))⟩
theorem sc_history_of : FnScope N_history_of ["notary", "row"] (defScope s_history_of) := ⟨rfl, rfl, rfl, by decide +kernel, rfl, by decide +kernel, by decide +kernel⟩
theorem ok_history_of (T : Tx K mg) (B : Tbs T base) : FnOk P w K mg base CX0 11 T.a_history_of T.fd_history_of ["notary", "row"] (spD K 2 d_history_of) := by
  have G_is_row := ok_is_row (P := P) (w := w) (base := base) T B
  have G_rows_above := ok_rows_above (P := P) (w := w) (base := base) T B
  refine fn_denM (fb := b_history_of) T.F_history_of sc_history_of rfl rfl (fun cdv A outer s H E hr => ?_)
  have hu := hr.units
  have nd := sc_history_of.nd
  exact ⟨_, sxs_cons (sx_if (et_not (et_val (ex_funPK G_is_row (hr.mono (by decide)) T.m_is_row T.F_is_row.kp T.b_is_row (ea_cons (ex_var) (ea_nil)) (len_cons len_nil)))) (sxs_never) (sxs_nil))
    (sxs_one (sx_ret (ex_ixK (ex_ixK (ex_funK G_rows_above (hr.mono (by decide)) T.m_rows_above T.F_rows_above.kp T.b_rows_above (ea_cons (ex_var) (ea_cons (ex_var) (ea_nil))) (len_cons (len_cons len_nil))) (ex_neg (ex_int))) (ex_int))))⟩
theorem sc__law_history : FnScope N__law_history ["box", "notary", "row"] (defScope s__law_history) := ⟨rfl, rfl, rfl, by decide +kernel, rfl, by decide +kernel, by decide +kernel⟩
theorem ok__law_history (T : Tx K mg) (B : Tbs T base) : ∀ n : Nat, FnOk P w K mg base CX0 (10 + n) T.a__law_history T.fd__law_history ["box", "notary", "row"] (spD K 3 (d__law_history n))
  | 0 => fn_zero T.F__law_history sc__law_history
  | n + 1 => by
    have G__law_history := ok__law_history T B n
    have G_Notary__seal := ok_Notary__seal (P := P) (w := w) (base := base) T B
    have G__law_draw := ok__law_draw (P := P) (w := w) (base := base) T B
    refine fn_denM (fb := b__law_history (d__law_history n)) T.F__law_history sc__law_history rfl rfl (fun cdv A outer s H E hr => ?_)
    have hu := hr.units
    have nd := sc__law_history.nd
    exact ⟨_, sxs_cons (sx_if (et_cmp (op_eqK hu) ops_eq (ex_len T.m_len (ea_cons (ex_var) (ea_nil))) (ex_int)) (sxs_one (sx_ret (ex_if (et_cmp (op_gtK hu) ops_gt (ex_funK G__law_draw (hr.mono (Nat.le_trans (by decide) (Nat.le_add_right 10 n))) T.m__law_draw T.F__law_draw.kp T.b__law_draw (ea_cons (ex_var) (ea_cons (ex_int) (ea_nil))) (len_cons (len_cons len_nil))) (ex_int)) (ex_methK (c := "Notary") (ex_var) T.cl_Notary T.me_Notary__seal G_Notary__seal (hr.mono (Nat.le_trans (by decide) (Nat.le_add_right 10 n))) T.b_Notary__seal (ea_cons (ex_tup (ea_cons (ex_str) (ea_cons (ex_ixK (ex_var) (ex_int)) (ea_nil))) (len_cons (len_cons len_nil))) (ea_nil)) (len_cons len_nil)) (ex_bin op_addK ops_add (ex_bin op_pow ops_pow (ex_int) (ex_int)) (ex_funK G__law_draw (hr.mono (Nat.le_trans (by decide) (Nat.le_add_right 10 n))) T.m__law_draw T.F__law_draw.kp T.b__law_draw (ea_cons (ex_var) (ea_cons (ex_int) (ea_nil))) (len_cons (len_cons len_nil))))))) (sxs_nil))
    (sxs_cons (sx_set nd (ex_bin op_fdivW ops_div (ex_len T.m_len (ea_cons (ex_var) (ea_nil))) (ex_int)))
    (sxs_cons (sx_par rfl nd (ea_cons (ex_funK G__law_history hr T.m__law_history T.F__law_history.kp T.b__law_history (ea_cons (ex_var) (ea_cons (ex_var) (ea_cons (ex_slK (ex_var) (eo_none) (eo_some (ex_var))) (ea_nil)))) (len_cons (len_cons (len_cons len_nil)))) (ea_cons (ex_funK G__law_history hr T.m__law_history T.F__law_history.kp T.b__law_history (ea_cons (ex_var) (ea_cons (ex_var) (ea_cons (ex_slK (ex_var) (eo_some (ex_var)) (eo_none)) (ea_nil)))) (len_cons (len_cons (len_cons len_nil)))) (ea_nil))))
    (sxs_one (sx_ret (ex_methK (c := "Notary") (ex_var) T.cl_Notary T.me_Notary__seal G_Notary__seal (hr.mono (Nat.le_trans (by decide) (Nat.le_add_right 10 n))) T.b_Notary__seal (ea_cons (ex_tup (ea_cons (ex_str) (ea_cons (ex_var) (ea_cons (ex_var) (ea_cons (ex_if (et_cmp (op_gtK hu) ops_gt (ex_funK G__law_draw (hr.mono (Nat.le_trans (by decide) (Nat.le_add_right 10 n))) T.m__law_draw T.F__law_draw.kp T.b__law_draw (ea_cons (ex_var) (ea_cons (ex_int) (ea_nil))) (len_cons (len_cons len_nil))) (ex_int)) (ex_ixK (ex_var) (ex_neg (ex_int))) (ex_bin op_addK ops_add (ex_int) (ex_funK G__law_draw (hr.mono (Nat.le_trans (by decide) (Nat.le_add_right 10 n))) T.m__law_draw T.F__law_draw.kp T.b__law_draw (ea_cons (ex_var) (ea_cons (ex_int) (ea_nil))) (len_cons (len_cons len_nil))))) (ea_nil))))) (len_cons (len_cons (len_cons (len_cons len_nil))))) (ea_nil)) (len_cons len_nil))))))⟩
theorem sc_Notary__find : FnScope N_Notary__find ["self", "parts"] (defScope s_Notary__find) := ⟨rfl, rfl, rfl, by decide +kernel, rfl, by decide +kernel, by decide +kernel⟩
theorem ok_Notary__find (T : Tx K mg) (B : Tbs T base) : FnOk P w K mg base CX0 9 T.a_Notary__find T.fd_Notary__find ["self", "parts"] (spD K 2 d_Notary__find) := by
  have G_is_parts := ok_is_parts (P := P) (w := w) (base := base) T B
  refine fn_denM (fb := b_Notary__find) T.F_Notary__find sc_Notary__find rfl rfl (fun cdv A outer s H E hr => ?_)
  have hu := hr.units
  have nd := sc_Notary__find.nd
  exact ⟨_, sxs_cons (sx_fld (c := "Notary") (ex_bin op_addK ops_add (ex_fldK (c := "Notary") (ex_var) T.cl_Notary T.na_Notary_asked) (ex_int)) (ex_var) T.cl_Notary T.na_Notary_asked)
    (sxs_cons (sx_if (et_not (et_val (ex_funPK G_is_parts (hr.mono (by decide)) T.m_is_parts T.F_is_parts.kp T.b_is_parts (ea_cons (ex_var) (ea_nil)) (len_cons len_nil)))) (sxs_one (sx_ret (ex_int))) (sxs_nil))
    (sxs_one (sx_ret (ex_dget2 hu (ex_fldK (c := "Notary") (ex_var) T.cl_Notary T.na_Notary_numbers) (ex_var) (ex_int)))))⟩
theorem sc__law_is_opening : FnScope N__law_is_opening ["value"] (defScope s__law_is_opening) := ⟨rfl, rfl, rfl, by decide +kernel, rfl, by decide +kernel, by decide +kernel⟩
theorem ok__law_is_opening (T : Tx K mg) (B : Tbs T base) : FnOk P w K mg base CX0 1 T.a__law_is_opening T.fd__law_is_opening ["value"] (spD K 1 d__law_is_opening) := by
  refine fn_denM (fb := b__law_is_opening) T.F__law_is_opening sc__law_is_opening rfl rfl (fun cdv A outer s H E hr => ?_)
  have hu := hr.units
  have nd := sc__law_is_opening.nd
  exact ⟨_, sxs_cons (sx_if (EW.t (ew_or (et_not (et_val (ex_isiK kit_tuple T.m_isinstance T.m_tuple PyProof.Rows.boot_tuple (ex_var)))) (ew_or (et_cmp (op_eqK hu) ops_eq (ex_len T.m_len (ea_cons (ex_var) (ea_nil))) (ex_int)) (ew_or1 (et_cmp (op_notInK hu) ops_notInD (ex_tup (ea_cons (ex_ixK (ex_var) (ex_int)) (ea_cons (ex_len T.m_len (ea_cons (ex_var) (ea_nil))) (ea_nil))) (len_cons (len_cons len_nil))) (ex_lst (ea_cons (ex_tup (ea_cons (ex_str) (ea_cons (ex_int) (ea_nil))) (len_cons (len_cons len_nil))) (ea_cons (ex_tup (ea_cons (ex_str) (ea_cons (ex_int) (ea_nil))) (len_cons (len_cons len_nil))) (ea_nil))) (len_cons (len_cons len_nil)))))))) (sxs_one (sx_ret (ex_bl))) (sxs_nil))
    (sxs_one (sx_ret (ex_all T.m_all (ea_cons (EN.x (en_lc rfl nd (b := false) (own := [("x", 1)]) (ei_seqK (ex_slK (ex_var) (eo_some (ex_int)) (eo_none))) (blkOk_by (N := N__law_is_opening) (sc := defScope s__law_is_opening) (by decide +kernel)) (fun _ _ _ _ _ => eg_name nd) (fun _ _ _ _ _ => ets_nil) (fun _ _ _ _ _ => ex_and (ex_isiK kit_int T.m_isinstance T.m_int PyProof.Rows.boot_int (ex_var)) (ex_and (ex_not (ex_isiK kit_bool T.m_isinstance T.m_bool PyProof.Rows.boot_bool (ex_var))) (ex_one (ex_chain (d := true) (d' := true) (op_leK hu) (op_leK hu) ops_le ops_le (ex_int) (ex_var) (ex_bin op_pow ops_pow (ex_int) (ex_int)))))))) (ea_nil)))))⟩
theorem sc__law_parts : FnScope N__law_parts ["notary", "history", "depth", "value"] (defScope s__law_parts) := ⟨rfl, rfl, rfl, by decide +kernel, rfl, by decide +kernel, by decide +kernel⟩
theorem ok__law_parts (T : Tx K mg) (B : Tbs T base) : FnOk P w K mg base CX0 10 T.a__law_parts T.fd__law_parts ["notary", "history", "depth", "value"] (spD K 4 d__law_parts) := by
  have G_Notary__find := ok_Notary__find (P := P) (w := w) (base := base) T B
  have G__law_is_opening := ok__law_is_opening (P := P) (w := w) (base := base) T B
  refine fn_denM (fb := b__law_parts) T.F__law_parts sc__law_parts rfl rfl (fun cdv A outer s H E hr => ?_)
  have hu := hr.units
  have nd := sc__law_parts.nd
  exact ⟨_, sxs_cons (sx_set nd (ex_bin op_fdivW ops_div (ex_bin op_mulK ops_mul (ex_bin op_mulK ops_mul (ex_bin op_mulK ops_mul (ex_int) (ex_int)) (ex_int)) (ex_int)) (ex_ixK (ex_lst (ea_cons (ex_int) (ea_cons (ex_int) (ea_cons (ex_int) (ea_cons (ex_int) (ea_cons (ex_int) (ea_nil)))))) (len_cons (len_cons (len_cons (len_cons (len_cons len_nil)))))) (ex_var))))
    (sxs_cons (sx_if (EW.t (ew_or (et_not (et_val (ex_isiK kit_tuple T.m_isinstance T.m_tuple PyProof.Rows.boot_tuple (ex_var)))) (ew_or (et_cmp (op_neK hu) ops_ne (ex_len T.m_len (ea_cons (ex_var) (ea_nil))) (ex_bin op_sub ops_sub (ex_bin op_mulK ops_mul (ex_int) (ex_var)) (ex_int))) (ew_or1 (et_not (et_val (ex_all T.m_all (ea_cons (EN.x (en_lc rfl nd (b := false) (own := [("one", 7)]) (ei_seqK (ex_var)) (blkOk_by (N := N__law_parts) (sc := defScope s__law_parts) (by decide +kernel)) (fun _ _ _ _ _ => eg_name nd) (fun _ _ _ _ _ => ets_nil) (fun _ _ _ _ _ => ex_funPK G__law_is_opening (hr.mono (by decide)) T.m__law_is_opening T.F__law_is_opening.kp T.b__law_is_opening (ea_cons (ex_var) (ea_nil)) (len_cons len_nil)))) (ea_nil))))))))) (sxs_one (sx_ret (ex_non))) (sxs_nil))
    (sxs_cons (sx_own nd (en_lst (ea_cons (ex_var) (ea_nil)) (len_cons len_nil)))
    (sxs_cons (sx_for PassesOwn.never rfl (ei_rng1 T.m_range (ea_cons (ex_bin op_sub ops_sub (ex_var) (ex_int)) (ea_nil))) (eg_name nd) (sxs_cons (sx_if (EW.t (ew_or (et_cmp (op_neK hu) ops_ne (ex_ixK (ex_ixK (ex_var) (ex_var)) (ex_int)) (ex_str)) (ew_or1 (et_cmp (op_neK hu) ops_ne (ex_ixK (ex_ixK (ex_var) (ex_var)) (ex_int)) (ex_ixK (ex_ixK (ex_var) (ex_bin op_addK ops_add (ex_bin op_mulK ops_mul (ex_int) (ex_var)) (ex_int))) (ex_neg (ex_int))))))) (sxs_one (sx_ret (ex_non))) (sxs_nil))
    (sxs_one (sx_extA (ex_slK (ex_ixK (ex_var) (ex_var)) (eo_some (ex_int)) (eo_some (ex_int)))))))
    (sxs_cons (sx_if (et_cmp (op_neK hu) ops_ne (EX.weak (EN.x (en_lc rfl nd (b := false) (own := [("one", 7)]) (ei_seqK (ex_var)) (blkOk_by (N := N__law_parts) (sc := defScope s__law_parts) (by decide +kernel)) (fun _ _ _ _ _ => eg_name nd) (fun _ _ _ _ _ => ets_nil) (fun _ _ _ _ _ => ex_methK (c := "Notary") (ex_var) T.cl_Notary T.me_Notary__find G_Notary__find (hr.mono (by decide)) T.b_Notary__find (ea_cons (ex_var) (ea_nil)) (len_cons len_nil))))) (ex_varB)) (sxs_one (sx_ret (ex_non))) (sxs_nil))
    (sxs_one (sx_ret (ex_tuple T.m_tuple (ea_cons (EN.x (en_lc rfl nd (b := false) (own := [("at", 6)]) (ei_rng2 T.m_range (ea_cons (ex_bin op_sub ops_sub (ex_var) (ex_int)) (ea_cons (ex_len T.m_len (ea_cons (ex_varB) (ea_nil))) (ea_nil)))) (blkOk_by (N := N__law_parts) (sc := defScope s__law_parts) (by decide +kernel)) (fun _ _ _ _ _ => eg_name nd) (fun _ _ _ _ _ => ets_nil) (fun _ _ _ _ _ => ex_tup (ea_cons (ex_ixOwnK (ex_var)) (ea_cons (ex_ixK (ex_ixK (ex_var) (ex_var)) (ex_neg (ex_int))) (ea_nil))) (len_cons (len_cons len_nil))))) (ea_nil)))))))))⟩
theorem sc__law_changed : FnScope N__law_changed ["box", "value"] (defScope s__law_changed) := ⟨rfl, rfl, rfl, by decide +kernel, rfl, by decide +kernel, by decide +kernel⟩
theorem ok__law_changed (T : Tx K mg) (B : Tbs T base) : ∀ n : Nat, FnOk P w K mg base CX0 (3 + n) T.a__law_changed T.fd__law_changed ["box", "value"] (spD K 2 (d__law_changed n))
  | 0 => fn_zero T.F__law_changed sc__law_changed
  | n + 1 => by
    have G__law_changed := ok__law_changed T B n
    have G__law_draw := ok__law_draw (P := P) (w := w) (base := base) T B
    refine fn_denM (fb := b__law_changed (d__law_changed n)) T.F__law_changed sc__law_changed rfl rfl (fun cdv A outer s H E hr => ?_)
    have hu := hr.units
    have nd := sc__law_changed.nd
    exact ⟨_, sxs_cons (sx_if (EW.t (ew_and (et_val (ex_isiK kit_tuple T.m_isinstance T.m_tuple PyProof.Rows.boot_tuple (ex_var))) (ew_and (et_cmp (op_neK hu) ops_ne (ex_var) (ex_tup (ea_nil) (len_nil))) (ew_and1 (et_cmp (op_gtK hu) ops_gt (ex_funK G__law_draw (hr.mono (Nat.le_trans (by decide) (Nat.le_add_right 3 n))) T.m__law_draw T.F__law_draw.kp T.b__law_draw (ea_cons (ex_var) (ea_cons (ex_int) (ea_nil))) (len_cons (len_cons len_nil))) (ex_int)))))) (sxs_cons (sx_set nd (ex_funK G__law_draw (hr.mono (Nat.le_trans (by decide) (Nat.le_add_right 3 n))) T.m__law_draw T.F__law_draw.kp T.b__law_draw (ea_cons (ex_var) (ea_cons (ex_len T.m_len (ea_cons (ex_var) (ea_nil))) (ea_nil))) (len_cons (len_cons len_nil))))
    (sxs_one (sx_ret (ex_bin op_addK ops_add (ex_bin op_addK ops_add (ex_slK (ex_var) (eo_none) (eo_some (ex_var))) (ex_tup (ea_cons (ex_funK G__law_changed hr T.m__law_changed T.F__law_changed.kp T.b__law_changed (ea_cons (ex_var) (ea_cons (ex_ixK (ex_var) (ex_var)) (ea_nil))) (len_cons (len_cons len_nil))) (ea_nil)) (len_cons len_nil))) (ex_slK (ex_var) (eo_some (ex_bin op_addK ops_add (ex_var) (ex_int))) (eo_none)))))) (sxs_nil))
    (sxs_cons (sx_set nd (ex_lst (ea_cons (ex_non) (ea_cons (ex_tup (ea_nil) (len_nil)) (ea_cons (ex_int) (ea_cons (ex_bl) (ea_cons (ex_str) (ea_cons (ex_str) (ea_cons (ex_neg (ex_int)) (ea_cons (ex_int) (ea_nil))))))))) (len_cons (len_cons (len_cons (len_cons (len_cons (len_cons (len_cons (len_cons len_nil))))))))))
    (sxs_cons (sx_if (et_val (ex_isiK kit_int T.m_isinstance T.m_int PyProof.Rows.boot_int (ex_var))) (sxs_one (sx_set nd (ex_bin op_addK ops_add (ex_var) (ex_lst (ea_cons (ex_bin op_addK ops_add (ex_var) (ex_int)) (ea_cons (ex_bin op_sub ops_sub (ex_var) (ex_int)) (ea_cons (ex_cmp (op_eqK hu) ops_eq (ex_var) (ex_int)) (ea_nil)))) (len_cons (len_cons (len_cons len_nil))))))) (sxs_nil))
    (sxs_cons (sx_if (et_val (ex_isiK kit_tuple T.m_isinstance T.m_tuple PyProof.Rows.boot_tuple (ex_var))) (sxs_one (sx_set nd (ex_bin op_addK ops_add (ex_var) (ex_lst (ea_cons (ex_slK (ex_var) (eo_none) (eo_some (ex_neg (ex_int)))) (ea_cons (ex_bin op_addK ops_add (ex_var) (ex_slK (ex_var) (eo_none) (eo_some (ex_int)))) (ea_cons (ex_rev (ex_var) (ex_neg (ex_int))) (ea_cons (ex_tup (ea_cons (ex_var) (ea_nil)) (len_cons len_nil)) (ea_nil))))) (len_cons (len_cons (len_cons (len_cons len_nil)))))))) (sxs_nil))
    (sxs_one (sx_ret (ex_ixK (ex_var) (ex_funK G__law_draw (hr.mono (Nat.le_trans (by decide) (Nat.le_add_right 3 n))) T.m__law_draw T.F__law_draw.kp T.b__law_draw (ea_cons (ex_var) (ea_cons (ex_len T.m_len (ea_cons (ex_var) (ea_nil))) (ea_nil))) (len_cons (len_cons len_nil)))))))))⟩
theorem sc_is_opening : FnScope N_is_opening ["value"] (defScope s_is_opening) := ⟨rfl, rfl, rfl, by decide +kernel, rfl, by decide +kernel, by decide +kernel⟩
theorem ok_is_opening (T : Tx K mg) (B : Tbs T base) : FnOk P w K mg base CX0 5 T.a_is_opening T.fd_is_opening ["value"] (spD K 1 d_is_opening) := by
  have G_is_number := ok_is_number (P := P) (w := w) (base := base) T B
  refine fn_denC (fb := b_is_opening) T.F_is_opening sc_is_opening rfl rfl (fun A outer s H E hr => ?_)
  have hu := hr.units
  have nd := sc_is_opening.nd
  exact ⟨_, sxs_cons (sx_if (EW.t (ew_or (et_not (et_val (ex_isiK kit_tuple T.m_isinstance T.m_tuple PyProof.Rows.boot_tuple (ex_var)))) (ew_or1 (et_cmp (op_eqK hu) ops_eq (ex_len T.m_len (ea_cons (ex_var) (ea_nil))) (ex_int))))) (sxs_one (sx_ret (ex_bl))) (sxs_nil))
    (sxs_cons (sx_if (et_not (EW.t (ew_or (EW.t (ew_and (et_cmp (op_eqK hu) ops_eq (ex_ixK (ex_var) (ex_int)) (ex_str)) (ew_and1 (et_cmp (op_eqK hu) ops_eq (ex_len T.m_len (ea_cons (ex_var) (ea_nil))) (ex_int))))) (ew_or1 (EW.t (ew_and (et_cmp (op_eqK hu) ops_eq (ex_ixK (ex_var) (ex_int)) (ex_str)) (ew_and1 (et_cmp (op_eqK hu) ops_eq (ex_len T.m_len (ea_cons (ex_var) (ea_nil))) (ex_int))))))))) (sxs_one (sx_ret (ex_bl))) (sxs_nil))
    (sxs_one (sx_ret (ex_allG (b := false) (own := [("part", 1)]) (k := 1) B.h_is_opening B.t_is_opening (hr.mono (by decide)) T.m_all nd (ei_seqK (ex_slK (ex_var) (eo_some (ex_int)) (eo_none))) (blkOk_by (N := N_is_opening) (sc := defScope s_is_opening) (by decide +kernel)) (fun _ _ _ _ _ _ _ _ hr => have hu := hr.units; eg_name nd) (fun _ _ _ _ _ _ _ _ hr => have hu := hr.units; ets_nil) (fun _ _ _ _ _ _ _ _ hr => have hu := hr.units; ex_funPK G_is_number (hr.mono (by decide)) T.m_is_number T.F_is_number.kp T.b_is_number (ea_cons (ex_var) (ea_cons (ex_int) (ea_cons (ex_glob (v := .int 281474976710656) (d := .int 281474976710656) T.m_MAX_PART ⟨_, rfl⟩ (fun _ _ => by rw [Rep])) (ea_nil)))) (len_cons (len_cons (len_cons len_nil))))))))⟩
theorem sc_opening : FnScope N_opening ["notary", "history"] (defScope s_opening) := ⟨rfl, rfl, rfl, by decide +kernel, rfl, by decide +kernel, by decide +kernel⟩
theorem ok_opening (T : Tx K mg) (B : Tbs T base) : FnOk P w K mg base CX0 6 T.a_opening T.fd_opening ["notary", "history"] (spD K 2 d_opening) := by
  have G_Notary__parts_of := ok_Notary__parts_of (P := P) (w := w) (base := base) T B
  have G_is_opening := ok_is_opening (P := P) (w := w) (base := base) T B
  refine fn_denM (fb := b_opening) T.F_opening sc_opening rfl rfl (fun cdv A outer s H E hr => ?_)
  have hu := hr.units
  have nd := sc_opening.nd
  exact ⟨_, sxs_cons (sx_set nd (ex_methK (c := "Notary") (ex_var) T.cl_Notary T.me_Notary__parts_of G_Notary__parts_of (hr.mono (by decide)) T.b_Notary__parts_of (ea_cons (ex_var) (ea_nil)) (len_cons len_nil)))
    (sxs_cons (sx_if (EW.t (ew_or (et_cmp op_isN ops_isN (ex_var) (ex_non)) (ew_or1 (et_not (et_val (ex_funPK G_is_opening (hr.mono (by decide)) T.m_is_opening T.F_is_opening.kp T.b_is_opening (ea_cons (ex_var) (ea_nil)) (len_cons len_nil))))))) (sxs_one (sx_ret (ex_non))) (sxs_nil))
    (sxs_one (sx_ret (ex_var))))⟩
theorem sc_last_of : FnScope N_last_of ["notary", "history"] (defScope s_last_of) := ⟨rfl, rfl, rfl, by decide +kernel, rfl, by decide +kernel, by decide +kernel⟩
theorem ok_last_of (T : Tx K mg) (B : Tbs T base) : FnOk P w K mg base CX0 7 T.a_last_of T.fd_last_of ["notary", "history"] (spD K 2 d_last_of) := by
  have G_opening := ok_opening (P := P) (w := w) (base := base) T B
  refine fn_denM (fb := b_last_of) T.F_last_of sc_last_of rfl rfl (fun cdv A outer s H E hr => ?_)
  have hu := hr.units
  have nd := sc_last_of.nd
  exact ⟨_, sxs_cons (sx_set nd (ex_funK G_opening (hr.mono (by decide)) T.m_opening T.F_opening.kp T.b_opening (ea_cons (ex_var) (ea_cons (ex_var) (ea_nil))) (len_cons (len_cons len_nil))))
    (sxs_cons (sx_if (et_cmp op_isN ops_isN (ex_var) (ex_non)) (sxs_one (sx_ret (ex_int))) (sxs_nil))
    (sxs_one (sx_ret (ex_ixK (ex_var) (ex_neg (ex_int))))))⟩
theorem sc_half_spans : FnScope N_half_spans ["span", "behind", "middle", "left", "right"] (defScope s_half_spans) := ⟨rfl, rfl, rfl, by decide +kernel, rfl, by decide +kernel, by decide +kernel⟩
theorem ok_half_spans (T : Tx K mg) (B : Tbs T base) : FnOk P w K mg base CX0 1 T.a_half_spans T.fd_half_spans ["span", "behind", "middle", "left", "right"] (spD K 5 d_half_spans) := by
  refine fn_denM (fb := b_half_spans) T.F_half_spans sc_half_spans rfl rfl (fun cdv A outer s H E hr => ?_)
  have hu := hr.units
  have nd := sc_half_spans.nd
  exact ⟨_, sxs_cons (sx_asg (ex_var) (eg_tupK (egs_cons (eg_name nd) (egs_cons (eg_name nd) (egs_cons (eg_name nd) (egs_cons (eg_name nd) (egs_cons (eg_name nd) (egs_nil)))))) (leng_cons (leng_cons (leng_cons (leng_cons (leng_cons (leng_nil))))))))
    (sxs_one (sx_ret (ex_tup (ea_cons (ex_tup (ea_cons (ex_bin op_sub ops_sub (ex_var) (ex_int)) (ea_cons (ex_var) (ea_cons (ex_var) (ea_cons (ex_var) (ea_cons (ex_var) (ea_nil)))))) (len_cons (len_cons (len_cons (len_cons (len_cons len_nil)))))) (ea_cons (ex_tup (ea_cons (ex_bin op_sub ops_sub (ex_var) (ex_int)) (ea_cons (ex_bin op_addK ops_add (ex_var) (ex_bin op_shl ops_shl (ex_int) (ex_bin op_sub ops_sub (ex_var) (ex_int)))) (ea_cons (ex_var) (ea_cons (ex_var) (ea_cons (ex_var) (ea_nil)))))) (len_cons (len_cons (len_cons (len_cons (len_cons len_nil)))))) (ea_nil))) (len_cons (len_cons len_nil)))))⟩
theorem sc_halves_of : FnScope N_halves_of ["notary", "span"] (defScope s_halves_of) := ⟨rfl, rfl, rfl, by decide +kernel, rfl, by decide +kernel, by decide +kernel⟩
theorem ok_halves_of (T : Tx K mg) (B : Tbs T base) : FnOk P w K mg base CX0 10 T.a_halves_of T.fd_halves_of ["notary", "span"] (spD K 2 d_halves_of) := by
  have G_Notary__find := ok_Notary__find (P := P) (w := w) (base := base) T B
  have G_half_spans := ok_half_spans (P := P) (w := w) (base := base) T B
  have G_last_of := ok_last_of (P := P) (w := w) (base := base) T B
  have G_opening := ok_opening (P := P) (w := w) (base := base) T B
  refine fn_denM (fb := b_halves_of) T.F_halves_of sc_halves_of rfl rfl (fun cdv A outer s H E hr => ?_)
  have hu := hr.units
  have nd := sc_halves_of.nd
  exact ⟨_, sxs_cons (sx_set nd (ex_funK G_opening (hr.mono (by decide)) T.m_opening T.F_opening.kp T.b_opening (ea_cons (ex_var) (ea_cons (ex_ixK (ex_var) (ex_int)) (ea_nil))) (len_cons (len_cons len_nil))))
    (sxs_cons (sx_if (EW.t (ew_or (et_cmp (op_eqK hu) ops_eq (ex_ixK (ex_var) (ex_int)) (ex_int)) (ew_or (et_cmp op_isN ops_isN (ex_var) (ex_non)) (ew_or1 (et_cmp (op_neK hu) ops_ne (ex_ixK (ex_var) (ex_int)) (ex_str)))))) (sxs_one (sx_ret (ex_non))) (sxs_nil))
    (sxs_cons (sx_set nd (ex_funK G_last_of (hr.mono (by decide)) T.m_last_of T.F_last_of.kp T.b_last_of (ea_cons (ex_var) (ea_cons (ex_ixK (ex_var) (ex_int)) (ea_nil))) (len_cons (len_cons len_nil))))
    (sxs_cons (sx_set nd (ex_methK (c := "Notary") (ex_var) T.cl_Notary T.me_Notary__find G_Notary__find (hr.mono (by decide)) T.b_Notary__find (ea_cons (ex_tup (ea_cons (ex_str) (ea_cons (ex_ixK (ex_var) (ex_int)) (ea_cons (ex_ixK (ex_var) (ex_int)) (ea_nil)))) (len_cons (len_cons (len_cons len_nil)))) (ea_nil)) (len_cons len_nil)))
    (sxs_cons (sx_if (EW.t (ew_or (et_cmp (op_eqK hu) ops_eq (ex_var) (ex_int)) (ew_or1 (et_cmp (op_eqK hu) ops_eq (ex_var) (ex_int))))) (sxs_one (sx_ret (ex_non))) (sxs_nil))
    (sxs_one (sx_ret (ex_funPK G_half_spans (hr.mono (by decide)) T.m_half_spans T.F_half_spans.kp T.b_half_spans (ea_cons (ex_var) (ea_cons (ex_var) (ea_cons (ex_var) (ea_cons (ex_ixK (ex_var) (ex_int)) (ea_cons (ex_ixK (ex_var) (ex_int)) (ea_nil)))))) (len_cons (len_cons (len_cons (len_cons (len_cons len_nil))))))))))))⟩
theorem sc__law_cut : FnScope N__law_cut ["notary", "span", "depth"] (defScope s__law_cut) := ⟨rfl, rfl, rfl, by decide +kernel, rfl, by decide +kernel, by decide +kernel⟩
theorem ok__law_cut (T : Tx K mg) (B : Tbs T base) : FnOk P w K mg base CX0 11 T.a__law_cut T.fd__law_cut ["notary", "span", "depth"] (spD K 3 d__law_cut) := by
  have G_halves_of := ok_halves_of (P := P) (w := w) (base := base) T B
  refine fn_denM (fb := b__law_cut) T.F__law_cut sc__law_cut rfl rfl (fun cdv A outer s H E hr => ?_)
  have hu := hr.units
  have nd := sc__law_cut.nd
  exact ⟨_, sxs_cons (sx_set nd (ex_lst (ea_cons (ex_var) (ea_nil)) (len_cons len_nil)))
    (sxs_cons (sx_for PassesOwn.never rfl (ei_rng1 T.m_range (ea_cons (ex_var) (ea_nil))) (eg_name nd) (sxs_cons (sx_own nd (en_lst (ea_nil) (len_nil)))
    (sxs_cons (sx_for PassesOwn.never rfl (ei_seqK (ex_var)) (eg_name nd) (sxs_cons (sx_set nd (ex_funK G_halves_of (hr.mono (by decide)) T.m_halves_of T.F_halves_of.kp T.b_halves_of (ea_cons (ex_var) (ea_cons (ex_var) (ea_nil))) (len_cons (len_cons len_nil))))
    (sxs_cons (sx_if (et_cmp op_isN ops_isN (ex_var) (ex_non)) (sxs_one (sx_ret (ex_non))) (sxs_nil))
    (sxs_one (sx_extA (ex_var))))))
    (sxs_one (sx_move nd)))))
    (sxs_one (sx_ret (ex_tuple T.m_tuple (ea_cons (ex_var) (ea_nil))))))⟩
theorem sc__law_same : FnScope N__law_same ["a", "b"] (defScope s__law_same) := ⟨rfl, rfl, rfl, by decide +kernel, rfl, by decide +kernel, by decide +kernel⟩
theorem ok__law_same (T : Tx K mg) (B : Tbs T base) : ∀ n : Nat, FnOk P w K mg base CX0 (1 + n) T.a__law_same T.fd__law_same ["a", "b"] (spD K 2 (d__law_same n))
  | 0 => fn_zero T.F__law_same sc__law_same
  | n + 1 => by
    have G__law_same := ok__law_same T B n
    refine fn_denM (fb := b__law_same (d__law_same n)) T.F__law_same sc__law_same rfl rfl (fun cdv A outer s H E hr => ?_)
    have hu := hr.units
    have nd := sc__law_same.nd
    exact ⟨_, sxs_cons (sx_if (EW.t (ew_or (EW.t (ew_and (et_val (ex_isiK kit_tuple T.m_isinstance T.m_tuple PyProof.Rows.boot_tuple (ex_var))) (ew_and1 (et_val (ex_isiK kit_tuple T.m_isinstance T.m_tuple PyProof.Rows.boot_tuple (ex_var)))))) (ew_or1 (EW.t (ew_and (et_val (ex_isiK kit_list T.m_isinstance T.m_list PyProof.Rows.boot_list (ex_var))) (ew_and1 (et_val (ex_isiK kit_list T.m_isinstance T.m_list PyProof.Rows.boot_list (ex_var))))))))) (sxs_one (sx_ret (ex_and (ex_cmp (op_eqK hu) ops_eq (ex_len T.m_len (ea_cons (ex_var) (ea_nil))) (ex_len T.m_len (ea_cons (ex_var) (ea_nil)))) (ex_one (ex_all T.m_all (ea_cons (EN.x (en_lc rfl nd (b := false) (own := [("k", 2)]) (ei_rng1 T.m_range (ea_cons (ex_len T.m_len (ea_cons (ex_var) (ea_nil))) (ea_nil))) (blkOk_by (N := N__law_same) (sc := defScope s__law_same) (by decide +kernel)) (fun _ _ _ _ _ => eg_name nd) (fun _ _ _ _ _ => ets_nil) (fun _ _ _ _ _ => ex_funPK G__law_same hr T.m__law_same T.F__law_same.kp T.b__law_same (ea_cons (ex_ixK (ex_var) (ex_var)) (ea_cons (ex_ixK (ex_var) (ex_var)) (ea_nil))) (len_cons (len_cons len_nil))))) (ea_nil))))))) (sxs_nil))
    (sxs_cons (sx_if (EW.t (ew_and (et_val (ex_isiK kit_dict T.m_isinstance T.m_dict PyProof.Rows.boot_dict (ex_var))) (ew_and1 (et_val (ex_isiK kit_dict T.m_isinstance T.m_dict PyProof.Rows.boot_dict (ex_var)))))) sxs_never (sxs_nil))
    (sxs_cons (sx_if (EW.t (ew_or (et_val (ex_isiK kit_bool T.m_isinstance T.m_bool PyProof.Rows.boot_bool (ex_var))) (ew_or1 (et_val (ex_isiK kit_bool T.m_isinstance T.m_bool PyProof.Rows.boot_bool (ex_var)))))) (sxs_one (sx_ret (ex_and (ex_isiK kit_bool T.m_isinstance T.m_bool PyProof.Rows.boot_bool (ex_var)) (ex_and (ex_isiK kit_bool T.m_isinstance T.m_bool PyProof.Rows.boot_bool (ex_var)) (ex_one (ex_cmp (op_eqK hu) ops_eq (ex_var) (ex_var))))))) (sxs_nil))
    (sxs_cons (sx_if (EW.t (ew_or (EW.t (ew_and (et_val (ex_isiK kit_int T.m_isinstance T.m_int PyProof.Rows.boot_int (ex_var))) (ew_and1 (et_val (ex_isiK kit_int T.m_isinstance T.m_int PyProof.Rows.boot_int (ex_var)))))) (ew_or1 (EW.t (ew_and (et_val (ex_isiK kit_str T.m_isinstance T.m_str PyProof.Rows.boot_str (ex_var))) (ew_and1 (et_val (ex_isiK kit_str T.m_isinstance T.m_str PyProof.Rows.boot_str (ex_var))))))))) (sxs_one (sx_ret (ex_cmp (op_eqK hu) ops_eq (ex_var) (ex_var)))) (sxs_nil))
    (sxs_one (sx_ret (ex_and (ex_cmp op_isN ops_isN (ex_var) (ex_non)) (ex_one (ex_cmp op_isN ops_isN (ex_var) (ex_non)))))))))⟩
theorem sc_histories_in : FnScope N_histories_in ["history", "openings"] (defScope s_histories_in) := ⟨rfl, rfl, rfl, by decide +kernel, rfl, by decide +kernel, by decide +kernel⟩
theorem ok_histories_in (T : Tx K mg) (B : Tbs T base) : FnOk P w K mg base CX0 1 T.a_histories_in T.fd_histories_in ["history", "openings"] (spD K 2 d_histories_in) := by
  refine fn_denM (fb := b_histories_in) T.F_histories_in sc_histories_in rfl rfl (fun cdv A outer s H E hr => ?_)
  have hu := hr.units
  have nd := sc_histories_in.nd
  exact ⟨_, sxs_cons (sx_own nd (en_lst (ea_cons (ex_var) (ea_nil)) (len_cons len_nil)))
    (sxs_cons (sx_for PassesOwn.never rfl (ei_rng1 T.m_range (ea_cons (ex_bin op_fdivW ops_div (ex_len T.m_len (ea_cons (ex_var) (ea_nil))) (ex_int)) (ea_nil))) (eg_name nd) (sxs_one (sx_ext (ex_lst (ea_cons (ex_ixK (ex_ixK (ex_var) (ex_var)) (ex_int)) (ea_cons (ex_ixK (ex_ixK (ex_var) (ex_var)) (ex_int)) (ea_nil))) (len_cons (len_cons len_nil))))))
    (sxs_one (sx_ret (ex_varB))))⟩
theorem sc_fits : FnScope N_fits ["openings"] (defScope s_fits) := ⟨rfl, rfl, rfl, by decide +kernel, rfl, by decide +kernel, by decide +kernel⟩
theorem ok_fits (T : Tx K mg) (B : Tbs T base) : FnOk P w K mg base CX0 4 T.a_fits T.fd_fits ["openings"] (spD K 1 d_fits) := by
  refine fn_denC (fb := b_fits) T.F_fits sc_fits rfl rfl (fun A outer s H E hr => ?_)
  have hu := hr.units
  have nd := sc_fits.nd
  exact ⟨_, sxs_one (sx_ret (ex_allG (b := false) (own := [("at", 1)]) (k := 0) B.h_fits B.t_fits (hr.mono (by decide)) T.m_all nd (ei_rng1 T.m_range (ea_cons (ex_bin op_fdivW ops_div (ex_len T.m_len (ea_cons (ex_var) (ea_nil))) (ex_int)) (ea_nil))) (blkOk_by (N := N_fits) (sc := defScope s_fits) (by decide +kernel)) (fun _ _ _ _ _ _ _ _ hr => have hu := hr.units; eg_name nd) (fun _ _ _ _ _ _ _ _ hr => have hu := hr.units; ets_nil) (fun _ _ _ _ _ _ _ _ hr => have hu := hr.units; ex_cmp (op_eqK hu) ops_eq (ex_ixK (ex_ixK (ex_var) (ex_var)) (ex_int)) (ex_ixK (ex_ixK (ex_var) (ex_bin op_addK ops_add (ex_bin op_mulK ops_mul (ex_int) (ex_var)) (ex_int))) (ex_neg (ex_int))))))⟩
theorem sc_wide_parts : FnScope N_wide_parts ["notary", "history", "depth", "openings"] (defScope s_wide_parts) := ⟨rfl, rfl, rfl, by decide +kernel, rfl, by decide +kernel, by decide +kernel⟩
theorem ok_wide_parts (T : Tx K mg) (B : Tbs T base) : FnOk P w K mg base CX0 13 T.a_wide_parts T.fd_wide_parts ["notary", "history", "depth", "openings"] (spD K 4 d_wide_parts) := by
  have G_Notary__find := ok_Notary__find (P := P) (w := w) (base := base) T B
  have G_fits := ok_fits (P := P) (w := w) (base := base) T B
  have G_histories_in := ok_histories_in (P := P) (w := w) (base := base) T B
  have G_is_opening := ok_is_opening (P := P) (w := w) (base := base) T B
  have G_leaf_count := ok_leaf_count (P := P) (w := w) (base := base) T B
  refine fn_denC (fb := b_wide_parts) T.F_wide_parts sc_wide_parts rfl rfl (fun A outer s H E hr => ?_)
  have hu := hr.units
  have nd := sc_wide_parts.nd
  exact ⟨_, sxs_cons (sx_set nd (ex_funPK G_leaf_count (hr.mono (by decide)) T.m_leaf_count T.F_leaf_count.kp T.b_leaf_count (ea_cons (ex_var) (ea_nil)) (len_cons len_nil)))
    (sxs_cons (sx_if (EW.t (ew_or (et_not (et_val (ex_isiK kit_tuple T.m_isinstance T.m_tuple PyProof.Rows.boot_tuple (ex_var)))) (ew_or1 (et_cmp (op_neK hu) ops_ne (ex_len T.m_len (ea_cons (ex_var) (ea_nil))) (ex_bin op_sub ops_sub (ex_bin op_mulK ops_mul (ex_int) (ex_var)) (ex_int)))))) (sxs_one (sx_ret (ex_non))) (sxs_nil))
    (sxs_cons (sx_if (et_not (et_val (ex_allG (b := false) (own := [("parts", 6)]) (k := 9) B.h_wide_parts B.t_wide_parts (hr.mono (by decide)) T.m_all nd (ei_seqK (ex_var)) (blkOk_by (N := N_wide_parts) (sc := defScope s_wide_parts) (by decide +kernel)) (fun _ _ _ _ _ _ _ _ hr => have hu := hr.units; eg_name nd) (fun _ _ _ _ _ _ _ _ hr => have hu := hr.units; ets_nil) (fun _ _ _ _ _ _ _ _ hr => have hu := hr.units; ex_funPK G_is_opening (hr.mono (by decide)) T.m_is_opening T.F_is_opening.kp T.b_is_opening (ea_cons (ex_var) (ea_nil)) (len_cons len_nil))))) (sxs_one (sx_ret (ex_non))) (sxs_nil))
    (sxs_cons (sx_if (EW.t (ew_or (et_not (et_val (ex_allG (b := false) (own := [("parts", 6)]) (k := 9) B.h_wide_parts B.t_wide_parts (hr.mono (by decide)) T.m_all nd (ei_seqK (ex_slK (ex_var) (eo_none) (eo_some (ex_bin op_sub ops_sub (ex_var) (ex_int))))) (blkOk_by (N := N_wide_parts) (sc := defScope s_wide_parts) (by decide +kernel)) (fun _ _ _ _ _ _ _ _ hr => have hu := hr.units; eg_name nd) (fun _ _ _ _ _ _ _ _ hr => have hu := hr.units; ets_nil) (fun _ _ _ _ _ _ _ _ hr => have hu := hr.units; ex_cmp (op_eqK hu) ops_eq (ex_ixK (ex_var) (ex_int)) (ex_str))))) (ew_or1 (et_not (et_val (ex_funPK G_fits (hr.mono (by decide)) T.m_fits T.F_fits.kp T.b_fits (ea_cons (ex_var) (ea_nil)) (len_cons len_nil))))))) (sxs_one (sx_ret (ex_non))) (sxs_nil))
    (sxs_cons (sx_set nd (ex_funPK G_histories_in (hr.mono (by decide)) T.m_histories_in T.F_histories_in.kp T.b_histories_in (ea_cons (ex_var) (ea_cons (ex_var) (ea_nil))) (len_cons (len_cons len_nil))))
    (sxs_cons (sx_if (et_not (et_val (ex_allG (b := false) (own := [("at", 7)]) (k := 9) B.h_wide_parts B.t_wide_parts (hr.mono (by decide)) T.m_all nd (ei_rng1 T.m_range (ea_cons (ex_len T.m_len (ea_cons (ex_var) (ea_nil))) (ea_nil))) (blkOk_by (N := N_wide_parts) (sc := defScope s_wide_parts) (by decide +kernel)) (fun _ _ _ _ _ _ _ _ hr => have hu := hr.units; eg_name nd) (fun _ _ _ _ _ _ _ _ hr => have hu := hr.units; ets_nil) (fun _ _ _ _ _ _ _ _ hr => have hu := hr.units; ex_cmp (op_eqK hu) ops_eq (ex_methK (c := "Notary") (ex_var) T.cl_Notary T.me_Notary__find G_Notary__find (hr.mono (by decide)) T.b_Notary__find (ea_cons (ex_ixK (ex_var) (ex_var)) (ea_nil)) (len_cons len_nil)) (ex_ixK (ex_var) (ex_var)))))) (sxs_one (sx_ret (ex_non))) (sxs_nil))
    (sxs_one (sx_ret (ex_tuple T.m_tuple (ea_cons (EN.x (en_lc rfl nd (b := false) (own := [("at", 7)]) (ei_rng2 T.m_range (ea_cons (ex_bin op_sub ops_sub (ex_var) (ex_int)) (ea_cons (ex_len T.m_len (ea_cons (ex_var) (ea_nil))) (ea_nil)))) (blkOk_by (N := N_wide_parts) (sc := defScope s_wide_parts) (by decide +kernel)) (fun _ _ _ _ _ => eg_name nd) (fun _ _ _ _ _ => ets_nil) (fun _ _ _ _ _ => ex_tup (ea_cons (ex_ixK (ex_var) (ex_var)) (ea_cons (ex_ixK (ex_ixK (ex_var) (ex_var)) (ex_neg (ex_int))) (ea_nil))) (len_cons (len_cons len_nil))))) (ea_nil))))))))))⟩
theorem sc_cut_in_two : FnScope N_cut_in_two ["notary", "span", "parts", "left"] (defScope s_cut_in_two) := ⟨rfl, rfl, rfl, by decide +kernel, rfl, by decide +kernel, by decide +kernel⟩
theorem ok_cut_in_two (T : Tx K mg) (B : Tbs T base) : FnOk P w K mg base CX0 10 T.a_cut_in_two T.fd_cut_in_two ["notary", "span", "parts", "left"] (spD K 4 d_cut_in_two) := by
  have G_Notary__find := ok_Notary__find (P := P) (w := w) (base := base) T B
  have G_half_spans := ok_half_spans (P := P) (w := w) (base := base) T B
  refine fn_denM (fb := b_cut_in_two) T.F_cut_in_two sc_cut_in_two rfl rfl (fun cdv A outer s H E hr => ?_)
  have hu := hr.units
  have nd := sc_cut_in_two.nd
  exact ⟨_, sxs_cons (sx_set nd (ex_methK (c := "Notary") (ex_var) T.cl_Notary T.me_Notary__find G_Notary__find (hr.mono (by decide)) T.b_Notary__find (ea_cons (ex_tup (ea_cons (ex_str) (ea_cons (ex_ixK (ex_var) (ex_int)) (ea_cons (ex_ixK (ex_var) (ex_int)) (ea_nil)))) (len_cons (len_cons (len_cons len_nil)))) (ea_nil)) (len_cons len_nil)))
    (sxs_one (sx_ret (ex_if (et_cmp (op_eqK hu) ops_eq (ex_var) (ex_int)) (ex_non) (ex_funPK G_half_spans (hr.mono (by decide)) T.m_half_spans T.F_half_spans.kp T.b_half_spans (ea_cons (ex_var) (ea_cons (ex_var) (ea_cons (ex_ixK (ex_var) (ex_neg (ex_int))) (ea_cons (ex_ixK (ex_var) (ex_int)) (ea_cons (ex_ixK (ex_var) (ex_int)) (ea_nil)))))) (len_cons (len_cons (len_cons (len_cons (len_cons len_nil)))))))))⟩
theorem sc_wide_cut : FnScope N_wide_cut ["notary", "span", "depth", "openings"] (defScope s_wide_cut) := ⟨rfl, rfl, rfl, by decide +kernel, rfl, by decide +kernel, by decide +kernel⟩
theorem ok_wide_cut (T : Tx K mg) (B : Tbs T base) : FnOk P w K mg base CX0 14 T.a_wide_cut T.fd_wide_cut ["notary", "span", "depth", "openings"] (spD K 4 d_wide_cut) := by
  have G_cut_in_two := ok_cut_in_two (P := P) (w := w) (base := base) T B
  have G_wide_parts := ok_wide_parts (P := P) (w := w) (base := base) T B
  refine fn_denM (fb := b_wide_cut) T.F_wide_cut sc_wide_cut rfl rfl (fun cdv A outer s H E hr => ?_)
  have hu := hr.units
  have nd := sc_wide_cut.nd
  exact ⟨_, sxs_cons (sx_if (EW.t (ew_or (et_cmp (op_ltK hu) ops_lt (ex_ixK (ex_var) (ex_int)) (ex_var)) (ew_or1 (et_cmp op_isN ops_isN (ex_funK G_wide_parts (hr.mono (by decide)) T.m_wide_parts T.F_wide_parts.kp T.b_wide_parts (ea_cons (ex_var) (ea_cons (ex_ixK (ex_var) (ex_int)) (ea_cons (ex_var) (ea_cons (ex_var) (ea_nil))))) (len_cons (len_cons (len_cons (len_cons len_nil))))) (ex_non))))) (sxs_one (sx_ret (ex_non))) (sxs_nil))
    (sxs_cons (sx_own nd (en_lst (ea_cons (ex_var) (ea_nil)) (len_cons len_nil)))
    (sxs_cons (sx_for PassesOwn.never rfl (ei_rng1 T.m_range (ea_cons (ex_bin op_fdivW ops_div (ex_len T.m_len (ea_cons (ex_var) (ea_nil))) (ex_int)) (ea_nil))) (eg_name nd) (sxs_cons (sx_set nd (ex_funK G_cut_in_two (hr.mono (by decide)) T.m_cut_in_two T.F_cut_in_two.kp T.b_cut_in_two (ea_cons (ex_var) (ea_cons (ex_ixOwnK (ex_var)) (ea_cons (ex_ixK (ex_var) (ex_var)) (ea_cons (ex_ixK (ex_var) (ex_bin op_addK ops_add (ex_bin op_mulK ops_mul (ex_int) (ex_var)) (ex_int))) (ea_nil))))) (len_cons (len_cons (len_cons (len_cons len_nil))))))
    (sxs_cons (sx_if (et_cmp op_isN ops_isN (ex_var) (ex_non)) (sxs_one (sx_ret (ex_non))) (sxs_nil))
    (sxs_one (sx_extA (ex_var))))))
    (sxs_one (sx_ret (ex_tuple T.m_tuple (ea_cons (ex_slK (ex_varB) (eo_some (ex_bin op_fdivW ops_div (ex_len T.m_len (ea_cons (ex_var) (ea_nil))) (ex_int))) (eo_none)) (ea_nil)))))))⟩
theorem sc_wide_opening : FnScope N_wide_opening ["notary", "history", "depth"] (defScope s_wide_opening) := ⟨rfl, rfl, rfl, by decide +kernel, rfl, by decide +kernel, by decide +kernel⟩
theorem ok_wide_opening (T : Tx K mg) (B : Tbs T base) : FnOk P w K mg base CX0 7 T.a_wide_opening T.fd_wide_opening ["notary", "history", "depth"] (spD K 3 d_wide_opening) := by
  have G_fits := ok_fits (P := P) (w := w) (base := base) T B
  have G_opening := ok_opening (P := P) (w := w) (base := base) T B
  refine fn_denM (fb := b_wide_opening) T.F_wide_opening sc_wide_opening rfl rfl (fun cdv A outer s H E hr => ?_)
  have hu := hr.units
  have nd := sc_wide_opening.nd
  exact ⟨_, sxs_cons (sx_own nd (en_lst (ea_nil) (len_nil)))
    (sxs_cons (sx_set nd (ex_lst (ea_cons (ex_var) (ea_nil)) (len_cons len_nil)))
    (sxs_cons (sx_for PassesOwn.never rfl (ei_rng1 T.m_range (ea_cons (ex_bin op_addK ops_add (ex_var) (ex_int)) (ea_nil))) (eg_name nd) (sxs_cons (sx_own nd (en_lst (ea_nil) (len_nil)))
    (sxs_cons (sx_for PassesOwn.never rfl (ei_seqK (ex_var)) (eg_name nd) (sxs_cons (sx_set nd (ex_funK G_opening (hr.mono (by decide)) T.m_opening T.F_opening.kp T.b_opening (ea_cons (ex_var) (ea_cons (ex_var) (ea_nil))) (len_cons (len_cons len_nil))))
    (sxs_cons (sx_if (EW.t (ew_or (et_cmp op_isN ops_isN (ex_var) (ex_non)) (ew_or1 (EW.t (ew_and (et_cmp (op_ltK hu) ops_lt (ex_var) (ex_var)) (ew_and1 (et_cmp (op_neK hu) ops_ne (ex_ixK (ex_var) (ex_int)) (ex_str)))))))) (sxs_one (sx_ret (ex_non))) (sxs_nil))
    (sxs_cons (sx_app (ex_var))
    (sxs_one (sx_if (et_cmp (op_ltK hu) ops_lt (ex_var) (ex_var)) (sxs_one (sx_ext (ex_lst (ea_cons (ex_ixK (ex_var) (ex_int)) (ea_cons (ex_ixK (ex_var) (ex_int)) (ea_nil))) (len_cons (len_cons len_nil))))) (sxs_nil)))))))
    (sxs_one (sx_move nd)))))
    (sxs_one (sx_ret (ex_if (et_val (ex_funPK G_fits (hr.mono (by decide)) T.m_fits T.F_fits.kp T.b_fits (ea_cons (ex_varB) (ea_nil)) (len_cons len_nil))) (ex_tupOwnK T.m_tuple) (ex_non))))))⟩
theorem sc__law_box : FnScope N__law_box ["script", "nodes"] (defScope s__law_box) := ⟨rfl, rfl, rfl, by decide +kernel, rfl, by decide +kernel, by decide +kernel⟩
theorem ok__law_box (T : Tx K mg) : FnOk P w K mg base CX0 1 T.a__law_box T.fd__law_box ["script", "nodes"] (spBox4 K) := by
  refine T.F__law_box.ok sc__law_box (fun vs H Q E h => ?_) (fun cdv A outer s H vs Q E hr h => ?_)
  · obtain ⟨a, ns, z, rfl, _⟩ := h
    rfl
  · obtain ⟨a, ns, z, rfl, hS, hlen, k⟩ := h
    refine ⟨_, pss_one (ps_ret (pe_lst (pa_cons (pe_callTy call_list_of rfl T.m_list PyProof.Rows.boot_list (pa_cons (pv 0) pa_nil)) (pa_cons pe_int (pa_cons (pe_op op_add pe_int (pe_callB call_len_seq rfl T.m_len PySem.boot_len (pa_cons (pv 0) pa_nil))) (pa_cons (pv 1) pa_nil)))))), ?_⟩
    refine ⟨_, rfl, a, _, rfl, .inl hS, fun c hc => ?_⟩
    have hS2 : SqL K (upd H c (.lst (ns.map V.int))) a (ns.map V.int) := Same.seq (fun x o h => upd_keep hc h) hS
    refine ⟨_, rfl, a, _, rfl, .inl hS2, _, _, rfl, rfl, ?_⟩
    refine ⟨_, rfl, ?_⟩
    refine ⟨by show 4 ≤ sizeLine; decide, fun b hb => ?_⟩
    exact box_all4 hc hb k
theorem sc_law : FnScope N_law ["script"] (defScope s_law) := ⟨rfl, rfl, rfl, by decide +kernel, rfl, by decide +kernel, by decide +kernel⟩
theorem ok_law (T : Tx K mg) (B : Tbs T base) (good : ∀ ns : List Int, ns.length ≤ 63 → ∃ ω, b_law (lawRo 24 1) (box4 ns) = some (.rt (.bool true), ω)) : FnOk P w K mg base CX0 24 T.a_law T.fd_law ["script"] (spLaw K) := by
  have G_Notary____init__ := ok_Notary____init__ (P := P) (w := w) (base := base) T B
  have G_Notary__parts_of := ok_Notary__parts_of (P := P) (w := w) (base := base) T B
  have G_Notary__seal := ok_Notary__seal (P := P) (w := w) (base := base) T B
  have G_Notary__size := ok_Notary__size (P := P) (w := w) (base := base) T B
  have G__law_changed := ok__law_changed (P := P) (w := w) (base := base) T B 12
  have G__law_cut := ok__law_cut (P := P) (w := w) (base := base) T B
  have G__law_draw := ok__law_draw (P := P) (w := w) (base := base) T B
  have G__law_history := ok__law_history (P := P) (w := w) (base := base) T B 12
  have G__law_odd := ok__law_odd (P := P) (w := w) (base := base) T B
  have G__law_opened := ok__law_opened (P := P) (w := w) (base := base) T B
  have G__law_openings := ok__law_openings (P := P) (w := w) (base := base) T B
  have G__law_parts := ok__law_parts (P := P) (w := w) (base := base) T B
  have G__law_same := ok__law_same (P := P) (w := w) (base := base) T B 6
  have G_history_of := ok_history_of (P := P) (w := w) (base := base) T B
  have G_wide_cut := ok_wide_cut (P := P) (w := w) (base := base) T B
  have G_wide_opening := ok_wide_opening (P := P) (w := w) (base := base) T B
  have G_wide_parts := ok_wide_parts (P := P) (w := w) (base := base) T B
  have G__law_box := ok__law_box (P := P) (w := w) (base := base) T
  refine T.F_law.ok sc_law (fun vs H Q E h => ?_) (fun cdv A outer s H vs Q E hr h => ?_)
  · obtain ⟨a, ns, rfl, _⟩ := h
    rfl
  · obtain ⟨a, ns, rfl, hS, hlen, hT, k⟩ := h
    have hu := hr.units
    have nd := sc_law.nd
    have R : ∃ t, SXs (cxOf CX0 P w K mg base N_law "law" (defScope s_law) T.a_law cdv A outer s H E).nox ((defBody s_law).drop 1) t b_law := ⟨_, sxs_cons (sx_set nd (ex_make0K (c := "Notary") T.mk_Notary G_Notary____init__ (hr.mono (by decide)) T.m_Notary T.b_Notary____init__))
    (sxs_cons (sx_set nd (ex_if (et_cmp (op_eqK hu) ops_eq (ex_funK G__law_draw (hr.mono (by decide)) T.m__law_draw T.F__law_draw.kp T.b__law_draw (ea_cons (ex_var) (ea_cons (ex_int) (ea_nil))) (len_cons (len_cons len_nil))) (ex_int)) (ex_bin op_addK ops_add (ex_int) (ex_funK G__law_draw (hr.mono (by decide)) T.m__law_draw T.F__law_draw.kp T.b__law_draw (ea_cons (ex_var) (ea_cons (ex_int) (ea_nil))) (len_cons (len_cons len_nil)))) (ex_funK G__law_draw (hr.mono (by decide)) T.m__law_draw T.F__law_draw.kp T.b__law_draw (ea_cons (ex_var) (ea_cons (ex_int) (ea_nil))) (len_cons (len_cons len_nil)))))
    (sxs_cons (sx_lcV rfl nd (b := false) (own := [("k", 23)]) (ei_rng1 T.m_range (ea_cons (ex_bin op_shl ops_shl (ex_int) (ex_var)) (ea_nil))) (blkOk_by (N := N_law) (sc := defScope s_law) (by decide +kernel)) (fun _ _ _ _ _ => eg_name nd) (fun _ _ _ _ _ => ets_nil) (fun _ _ _ _ _ => ex_bin op_addK ops_add (ex_int) (ex_funK G__law_draw (hr.mono (by decide)) T.m__law_draw T.F__law_draw.kp T.b__law_draw (ea_cons (ex_var) (ea_cons (ex_ixK (ex_lst (ea_cons (ex_int) (ea_cons (ex_int) (ea_nil))) (len_cons (len_cons len_nil))) (ex_funK G__law_draw (hr.mono (by decide)) T.m__law_draw T.F__law_draw.kp T.b__law_draw (ea_cons (ex_var) (ea_cons (ex_int) (ea_nil))) (len_cons (len_cons len_nil)))) (ea_nil))) (len_cons (len_cons len_nil)))))
    (sxs_cons (sx_set nd (ex_if (et_cmp (op_eqK hu) ops_eq (ex_funK G__law_draw (hr.mono (by decide)) T.m__law_draw T.F__law_draw.kp T.b__law_draw (ea_cons (ex_var) (ea_cons (ex_int) (ea_nil))) (len_cons (len_cons len_nil))) (ex_int)) (ex_funK G_history_of (hr.mono (by decide)) T.m_history_of T.F_history_of.kp T.b_history_of (ea_cons (ex_var) (ea_cons (ex_tuple T.m_tuple (ea_cons (ex_var) (ea_nil))) (ea_nil))) (len_cons (len_cons len_nil))) (ex_funK G__law_history (hr.mono (by decide)) T.m__law_history T.F__law_history.kp T.b__law_history (ea_cons (ex_var) (ea_cons (ex_var) (ea_cons (ex_var) (ea_nil)))) (len_cons (len_cons (len_cons len_nil))))))
    (sxs_cons (sx_set nd (ex_min2 T.m_min (ea_cons (ex_int) (ea_cons (ex_funK G__law_draw (hr.mono (by decide)) T.m__law_draw T.F__law_draw.kp T.b__law_draw (ea_cons (ex_var) (ea_cons (ex_bin op_addK ops_add (ex_var) (ex_int)) (ea_nil))) (len_cons (len_cons len_nil))) (ea_nil)))))
    (sxs_cons (sx_set nd (ex_funK G__law_openings (hr.mono (by decide)) T.m__law_openings T.F__law_openings.kp T.b__law_openings (ea_cons (ex_var) (ea_cons (ex_var) (ea_cons (ex_var) (ea_nil)))) (len_cons (len_cons (len_cons len_nil)))))
    (sxs_cons (sx_set nd (ex_funK G__law_odd (hr.mono (by decide)) T.m__law_odd T.F__law_odd.kp T.b__law_odd (ea_cons (ex_var) (ea_cons (ex_var) (ea_cons (ex_var) (ea_nil)))) (len_cons (len_cons (len_cons len_nil)))))
    (sxs_cons (sx_set nd (ex_meth0K (c := "Notary") (ex_var) T.cl_Notary T.me_Notary__size G_Notary__size (hr.mono (by decide)) T.b_Notary__size))
    (sxs_cons (sx_for PassesOwn.never rfl (ei_seqK (ex_tup (ea_cons (ex_var) (ea_cons (ex_var) (ea_nil))) (len_cons (len_cons len_nil)))) (eg_name nd) (sxs_cons (sx_set nd (ex_funK G__law_opened (hr.mono (by decide)) T.m__law_opened T.F__law_opened.kp T.b__law_opened (ea_cons (ex_var) (ea_cons (ex_var) (ea_cons (ex_var) (ea_nil)))) (len_cons (len_cons (len_cons len_nil)))))
    (sxs_cons (sx_if (et_not (et_val (ex_funPK G__law_same (hr.mono (by decide)) T.m__law_same T.F__law_same.kp T.b__law_same (ea_cons (ex_funK G_wide_parts (hr.mono (by decide)) T.m_wide_parts T.F_wide_parts.kp T.b_wide_parts (ea_cons (ex_var) (ea_cons (ex_var) (ea_cons (ex_var) (ea_cons (ex_var) (ea_nil))))) (len_cons (len_cons (len_cons (len_cons len_nil))))) (ea_cons (ex_funK G__law_parts (hr.mono (by decide)) T.m__law_parts T.F__law_parts.kp T.b__law_parts (ea_cons (ex_var) (ea_cons (ex_var) (ea_cons (ex_var) (ea_cons (ex_var) (ea_nil))))) (len_cons (len_cons (len_cons (len_cons len_nil))))) (ea_nil))) (len_cons (len_cons len_nil))))) (sxs_one (sx_ret (ex_bl))) (sxs_nil))
    (sxs_one (sx_if (et_not (et_val (ex_funPK G__law_same (hr.mono (by decide)) T.m__law_same T.F__law_same.kp T.b__law_same (ea_cons (ex_funK G_wide_opening (hr.mono (by decide)) T.m_wide_opening T.F_wide_opening.kp T.b_wide_opening (ea_cons (ex_var) (ea_cons (ex_var) (ea_cons (ex_var) (ea_nil)))) (len_cons (len_cons (len_cons len_nil)))) (ea_cons (ex_funK G__law_openings (hr.mono (by decide)) T.m__law_openings T.F__law_openings.kp T.b__law_openings (ea_cons (ex_var) (ea_cons (ex_var) (ea_cons (ex_var) (ea_nil)))) (len_cons (len_cons (len_cons len_nil)))) (ea_nil))) (len_cons (len_cons len_nil))))) (sxs_one (sx_ret (ex_bl))) (sxs_nil))))))
    (sxs_cons (sx_if (EW.t (ew_or (et_cmp (op_neK hu) ops_ne (ex_glob (v := .int 4) (d := .int 4) T.m_MAX_DEPTH ⟨_, rfl⟩ (fun _ _ => by rw [Rep])) (ex_int)) (ew_or1 (et_not (et_val (ex_funPK G__law_same (hr.mono (by decide)) T.m__law_same T.F__law_same.kp T.b__law_same (ea_cons (ex_funK G_wide_opening (hr.mono (by decide)) T.m_wide_opening T.F_wide_opening.kp T.b_wide_opening (ea_cons (ex_var) (ea_cons (ex_var) (ea_cons (ex_var) (ea_nil)))) (len_cons (len_cons (len_cons len_nil)))) (ea_cons (ex_var) (ea_nil))) (len_cons (len_cons len_nil)))))))) (sxs_one (sx_ret (ex_bl))) (sxs_nil))
    (sxs_cons (sx_set nd (ex_if (et_cmp op_isN ops_isN (ex_var) (ex_non)) (ex_non) (ex_funK G__law_parts (hr.mono (by decide)) T.m__law_parts T.F__law_parts.kp T.b__law_parts (ea_cons (ex_var) (ea_cons (ex_var) (ea_cons (ex_var) (ea_cons (ex_var) (ea_nil))))) (len_cons (len_cons (len_cons (len_cons len_nil)))))))
    (sxs_cons (sx_if (EW.t (ew_or (et_not (et_val (ex_funPK G__law_same (hr.mono (by decide)) T.m__law_same T.F__law_same.kp T.b__law_same (ea_cons (ex_funK G_wide_parts (hr.mono (by decide)) T.m_wide_parts T.F_wide_parts.kp T.b_wide_parts (ea_cons (ex_var) (ea_cons (ex_var) (ea_cons (ex_var) (ea_cons (ex_var) (ea_nil))))) (len_cons (len_cons (len_cons (len_cons len_nil))))) (ea_cons (ex_var) (ea_nil))) (len_cons (len_cons len_nil))))) (ew_or1 (EW.t (ew_and (et_cmp op_notN ops_notN (ex_var) (ex_non)) (ew_and1 (et_cmp op_isN ops_isN (ex_var) (ex_non)))))))) (sxs_one (sx_ret (ex_bl))) (sxs_nil))
    (sxs_cons (sx_for PassesOwn.never rfl (ei_rng1 T.m_range (ea_cons (ex_int) (ea_nil))) (eg_name nd) (sxs_cons (sx_set nd (ex_if (et_cmp (op_eqK hu) ops_eq (ex_funK G__law_draw (hr.mono (by decide)) T.m__law_draw T.F__law_draw.kp T.b__law_draw (ea_cons (ex_var) (ea_cons (ex_int) (ea_nil))) (len_cons (len_cons len_nil))) (ex_int)) (ex_min2 T.m_min (ea_cons (ex_int) (ea_cons (ex_funK G__law_draw (hr.mono (by decide)) T.m__law_draw T.F__law_draw.kp T.b__law_draw (ea_cons (ex_var) (ea_cons (ex_int) (ea_nil))) (len_cons (len_cons len_nil))) (ea_nil)))) (ex_var)))
    (sxs_cons (sx_set nd (ex_funK G__law_changed (hr.mono (by decide)) T.m__law_changed T.F__law_changed.kp T.b__law_changed (ea_cons (ex_var) (ea_cons (ex_var) (ea_nil))) (len_cons (len_cons len_nil))))
    (sxs_cons (sx_if (et_not (et_val (ex_funPK G__law_same (hr.mono (by decide)) T.m__law_same T.F__law_same.kp T.b__law_same (ea_cons (ex_funK G_wide_parts (hr.mono (by decide)) T.m_wide_parts T.F_wide_parts.kp T.b_wide_parts (ea_cons (ex_var) (ea_cons (ex_var) (ea_cons (ex_var) (ea_cons (ex_var) (ea_nil))))) (len_cons (len_cons (len_cons (len_cons len_nil))))) (ea_cons (ex_funK G__law_parts (hr.mono (by decide)) T.m__law_parts T.F__law_parts.kp T.b__law_parts (ea_cons (ex_var) (ea_cons (ex_var) (ea_cons (ex_var) (ea_cons (ex_var) (ea_nil))))) (len_cons (len_cons (len_cons (len_cons len_nil))))) (ea_nil))) (len_cons (len_cons len_nil))))) (sxs_one (sx_ret (ex_bl))) (sxs_nil))
    (sxs_one (sx_if (et_cmp op_notN ops_notN (ex_funK G_wide_parts (hr.mono (by decide)) T.m_wide_parts T.F_wide_parts.kp T.b_wide_parts (ea_cons (ex_var) (ea_cons (ex_bin op_addK ops_add (ex_var) (ex_int)) (ea_cons (ex_var) (ea_cons (ex_var) (ea_nil))))) (len_cons (len_cons (len_cons (len_cons len_nil))))) (ex_non)) (sxs_one (sx_ret (ex_bl))) (sxs_nil)))))))
    (sxs_cons (sx_if (et_cmp (op_neK hu) ops_ne (ex_meth0K (c := "Notary") (ex_var) T.cl_Notary T.me_Notary__size G_Notary__size (hr.mono (by decide)) T.b_Notary__size) (ex_var)) (sxs_one (sx_ret (ex_bl))) (sxs_nil))
    (sxs_cons (sx_set nd (ex_bin op_mulK ops_mul (ex_funK G__law_draw (hr.mono (by decide)) T.m__law_draw T.F__law_draw.kp T.b__law_draw (ea_cons (ex_var) (ea_cons (ex_int) (ea_nil))) (len_cons (len_cons len_nil))) (ex_methK (c := "Notary") (ex_var) T.cl_Notary T.me_Notary__seal G_Notary__seal (hr.mono (by decide)) T.b_Notary__seal (ea_cons (ex_tup (ea_cons (ex_str) (ea_cons (ex_int) (ea_nil))) (len_cons (len_cons len_nil))) (ea_nil)) (len_cons len_nil))))
    (sxs_cons (sx_set nd (ex_tup (ea_cons (ex_var) (ea_cons (ex_funK G__law_draw (hr.mono (by decide)) T.m__law_draw T.F__law_draw.kp T.b__law_draw (ea_cons (ex_var) (ea_cons (ex_int) (ea_nil))) (len_cons (len_cons len_nil))) (ea_cons (ex_var) (ea_cons (ex_bin op_addK ops_add (ex_int) (ex_funK G__law_draw (hr.mono (by decide)) T.m__law_draw T.F__law_draw.kp T.b__law_draw (ea_cons (ex_var) (ea_cons (ex_int) (ea_nil))) (len_cons (len_cons len_nil)))) (ea_cons (ex_var) (ea_nil)))))) (len_cons (len_cons (len_cons (len_cons (len_cons len_nil)))))))
    (sxs_cons (sx_own nd (en_if (et_cmp op_notN ops_notN (ex_var) (ex_non)) (en_lst (ea_cons (ex_tup (ea_cons (ex_var) (ea_cons (ex_var) (ea_cons (ex_min2 T.m_min (ea_cons (ex_var) (ea_cons (ex_var) (ea_nil)))) (ea_nil)))) (len_cons (len_cons (len_cons len_nil)))) (ea_nil)) (len_cons len_nil)) (en_lst (ea_nil) (len_nil))))
    (sxs_cons (sx_while PassesOwn.never (et_cmp (op_neK hu) ops_ne (ex_varB) (EX.weak (ex_lst (ea_nil) (len_nil)))) (sxs_cons (sx_popG (eg_tupK (egs_cons (eg_name nd) (egs_cons (eg_name nd) (egs_cons (eg_name nd) (egs_nil)))) (leng_cons (leng_cons (leng_cons (leng_nil))))))
    (sxs_cons (sx_set nd (ex_methK (c := "Notary") (ex_var) T.cl_Notary T.me_Notary__parts_of G_Notary__parts_of (hr.mono (by decide)) T.b_Notary__parts_of (ea_cons (ex_var) (ea_nil)) (len_cons len_nil)))
    (sxs_one (sx_if (EW.t (ew_and (et_cmp (op_gtK hu) ops_gt (ex_var) (ex_int)) (ew_and1 (et_cmp (op_gtK hu) ops_gt (ex_funK G__law_draw (hr.mono (by decide)) T.m__law_draw T.F__law_draw.kp T.b__law_draw (ea_cons (ex_var) (ea_cons (ex_int) (ea_nil))) (len_cons (len_cons len_nil))) (ex_int))))) (sxs_one (sx_ext (ex_lst (ea_cons (ex_tup (ea_cons (ex_var) (ea_cons (ex_ixK (ex_var) (ex_int)) (ea_cons (ex_bin op_sub ops_sub (ex_var) (ex_int)) (ea_nil)))) (len_cons (len_cons (len_cons len_nil)))) (ea_cons (ex_tup (ea_cons (ex_methK (c := "Notary") (ex_var) T.cl_Notary T.me_Notary__seal G_Notary__seal (hr.mono (by decide)) T.b_Notary__seal (ea_cons (ex_tup (ea_cons (ex_str) (ea_cons (ex_var) (ea_cons (ex_ixK (ex_var) (ex_int)) (ea_nil)))) (len_cons (len_cons (len_cons len_nil)))) (ea_nil)) (len_cons len_nil)) (ea_cons (ex_ixK (ex_var) (ex_int)) (ea_cons (ex_bin op_sub ops_sub (ex_var) (ex_int)) (ea_nil)))) (len_cons (len_cons (len_cons len_nil)))) (ea_nil))) (len_cons (len_cons len_nil))))) (sxs_nil))))))
    (sxs_cons (sx_set nd (ex_meth0K (c := "Notary") (ex_var) T.cl_Notary T.me_Notary__size G_Notary__size (hr.mono (by decide)) T.b_Notary__size))
    (sxs_cons (sx_set nd (ex_if (EW.t (ew_and (et_cmp op_notN ops_notN (ex_var) (ex_non)) (ew_and1 (et_cmp (op_leK hu) ops_le (ex_var) (ex_var))))) (ex_funK G__law_cut (hr.mono (by decide)) T.m__law_cut T.F__law_cut.kp T.b__law_cut (ea_cons (ex_var) (ea_cons (ex_var) (ea_cons (ex_var) (ea_nil)))) (len_cons (len_cons (len_cons len_nil)))) (ex_non)))
    (sxs_cons (sx_if (et_not (et_val (ex_funPK G__law_same (hr.mono (by decide)) T.m__law_same T.F__law_same.kp T.b__law_same (ea_cons (ex_funK G_wide_cut (hr.mono (by decide)) T.m_wide_cut T.F_wide_cut.kp T.b_wide_cut (ea_cons (ex_var) (ea_cons (ex_var) (ea_cons (ex_var) (ea_cons (ex_var) (ea_nil))))) (len_cons (len_cons (len_cons (len_cons len_nil))))) (ea_cons (ex_var) (ea_nil))) (len_cons (len_cons len_nil))))) (sxs_one (sx_ret (ex_bl))) (sxs_nil))
    (sxs_cons (sx_for PassesOwn.never rfl (ei_rng1 T.m_range (ea_cons (ex_if (et_cmp op_notN ops_notN (ex_var) (ex_non)) (ex_int) (ex_int)) (ea_nil))) (eg_name nd) (sxs_cons (sx_set nd (ex_funK G__law_changed (hr.mono (by decide)) T.m__law_changed T.F__law_changed.kp T.b__law_changed (ea_cons (ex_var) (ea_cons (ex_var) (ea_nil))) (len_cons (len_cons len_nil))))
    (sxs_one (sx_if (EW.t (ew_and (et_cmp op_isN ops_isN (ex_funK G__law_parts (hr.mono (by decide)) T.m__law_parts T.F__law_parts.kp T.b__law_parts (ea_cons (ex_var) (ea_cons (ex_var) (ea_cons (ex_var) (ea_cons (ex_var) (ea_nil))))) (len_cons (len_cons (len_cons (len_cons len_nil))))) (ex_non)) (ew_and1 (et_cmp op_notN ops_notN (ex_funK G_wide_cut (hr.mono (by decide)) T.m_wide_cut T.F_wide_cut.kp T.b_wide_cut (ea_cons (ex_var) (ea_cons (ex_var) (ea_cons (ex_var) (ea_cons (ex_var) (ea_nil))))) (len_cons (len_cons (len_cons (len_cons len_nil))))) (ex_non))))) (sxs_one (sx_ret (ex_bl))) (sxs_nil)))))
    (sxs_cons (sx_if (EW.t (ew_and (et_cmp (op_gtK hu) ops_gt (ex_var) (ex_int)) (ew_and (et_cmp (op_neK hu) ops_ne (ex_var) (ex_var)) (ew_and1 (et_cmp op_notN ops_notN (ex_funK G_wide_cut (hr.mono (by decide)) T.m_wide_cut T.F_wide_cut.kp T.b_wide_cut (ea_cons (ex_var) (ea_cons (ex_bin op_addK ops_add (ex_slK (ex_var) (eo_none) (eo_some (ex_int))) (ex_tup (ea_cons (ex_var) (ea_nil)) (len_cons len_nil))) (ea_cons (ex_var) (ea_cons (ex_funK G__law_opened (hr.mono (by decide)) T.m__law_opened T.F__law_opened.kp T.b__law_opened (ea_cons (ex_var) (ea_cons (ex_var) (ea_cons (ex_var) (ea_nil)))) (len_cons (len_cons (len_cons len_nil)))) (ea_nil))))) (len_cons (len_cons (len_cons (len_cons len_nil))))) (ex_non)))))) (sxs_one (sx_ret (ex_bl))) (sxs_nil))
    (sxs_cons (sx_set nd (ex_bin op_addK ops_add (ex_tup (ea_cons (ex_max2 T.m_max (ea_cons (ex_int) (ea_cons (ex_bin op_sub ops_sub (ex_var) (ex_int)) (ea_nil)))) (ea_nil)) (len_cons len_nil)) (ex_slK (ex_var) (eo_some (ex_int)) (eo_none))))
    (sxs_one (sx_ret (ex_and (ex_or (ex_cmp (op_eqK hu) ops_eq (ex_var) (ex_int)) (ex_one (ex_cmp op_isN ops_isN (ex_funK G_wide_cut (hr.mono (by decide)) T.m_wide_cut T.F_wide_cut.kp T.b_wide_cut (ea_cons (ex_var) (ea_cons (ex_var) (ea_cons (ex_var) (ea_cons (ex_var) (ea_nil))))) (len_cons (len_cons (len_cons (len_cons len_nil))))) (ex_non)))) (ex_one (ex_cmp (op_eqK hu) ops_eq (ex_meth0K (c := "Notary") (ex_var) T.cl_Notary T.me_Notary__size G_Notary__size (hr.mono (by decide)) T.b_Notary__size) (ex_var)))))))))))))))))))))))))))))⟩
    obtain ⟨t, R⟩ := R
    refine ⟨_, pss_cons (ps_set (i := 1) sc_law.nd rfl (by first | exact Or.inl rfl | exact Or.inr rfl) (pe_call G__law_box (hr.mono (by decide)) rfl T.m__law_box T.F__law_box.kp T.b__law_box .nil pass0 (pa_cons (pv 0) (pa_cons pe_int pa_nil)))) R.pe, ?_⟩
    refine ⟨_, rfl, ?_⟩
    exact law_go4 (N := N_law) (i := 1) R.sn hS hlen hT (by decide) (good ns hlen) k
end
/-! ## the end -/
theorem all_mk {l : PySem.W.OpenLaw} {w : World} {K : PySem.W.Frag} {h : Heap} {mg : Str → Option Value} {fa f0 f1 f2 f3 f4 f5 f6 f7 f8 f9 f10 f11 f12 f13 f14 f15 f16 f17 f18 f19 f20 f21 f22 f23 f24 f25 f26 f27 f28 f29 f30 f31 f32 f33 f34 f35 C0 : Addr} (good : ∀ ns : List Int, ns.length ≤ 63 → ∃ ω, b_law (lawRo 24 1) (box4 ns) = some (.rt (.bool true), ω)) (X : K.In h) (G : h.Ns mainGlobals mg) (hfa : mg "law" = some (.ref fa))
    {od0 an0 od1 an1 od2 an2 od3 an3 od4 an4 od5 an5 od6 an6 od7 an7 od8 an8 od9 an9 od10 an10 od11 an11 od12 an12 od13 an13 od14 an14 od15 an15 od16 an16 od17 an17 od18 an18 od19 an19 od20 an20 od21 an21 od22 an22 od23 an23 od24 an24 od25 an25 od26 an26 od27 an27 od28 an28 od29 an29 od30 an30 od31 an31 od32 an32 od33 an33 od34 an34 od35 an35 : Option Addr} {sl0 sl1 sl2 sl3 sl4 sl5 sl6 sl7 sl8 sl9 sl10 sl11 sl12 sl13 sl14 sl15 sl16 sl17 sl18 sl19 sl20 sl21 sl22 sl23 sl24 sl25 sl26 sl27 sl28 sl29 sl30 sl31 sl32 sl33 sl34 sl35 : Array (Option Value)} {oc0 kV0 dc0 pm0 ct0 oc1 kV1 dc1 pm1 ct1 oc2 kV2 dc2 pm2 ct2 oc3 kV3 dc3 pm3 ct3 oc4 kV4 dc4 pm4 ct4 oc5 kV5 dc5 pm5 ct5 oc6 kV6 dc6 pm6 ct6 oc7 kV7 dc7 pm7 ct7 oc8 kV8 dc8 pm8 ct8 oc9 kV9 dc9 pm9 ct9 oc10 kV10 dc10 pm10 ct10 oc11 kV11 dc11 pm11 ct11 oc12 kV12 dc12 pm12 ct12 oc13 kV13 dc13 pm13 ct13 oc14 kV14 dc14 pm14 ct14 oc15 kV15 dc15 pm15 ct15 oc16 kV16 dc16 pm16 ct16 oc17 kV17 dc17 pm17 ct17 oc18 kV18 dc18 pm18 ct18 oc19 kV19 dc19 pm19 ct19 oc20 kV20 dc20 pm20 ct20 oc21 kV21 dc21 pm21 ct21 oc22 kV22 dc22 pm22 ct22 oc23 kV23 dc23 pm23 ct23 oc24 kV24 dc24 pm24 ct24 oc25 kV25 dc25 pm25 ct25 oc26 kV26 dc26 pm26 ct26 oc27 kV27 dc27 pm27 ct27 oc28 kV28 dc28 pm28 ct28 oc29 kV29 dc29 pm29 ct29 oc30 kV30 dc30 pm30 ct30 oc31 kV31 dc31 pm31 ct31 oc32 kV32 dc32 pm32 ct32 oc33 kV33 dc33 pm33 ct33 oc34 kV34 dc34 pm34 ct34 oc35 kV35 dc35 pm35 ct35 : Value} {cc0 cc1 cc2 cc3 cc4 cc5 cc6 cc7 cc8 cc9 cc10 cc11 cc12 cc13 cc14 cc15 cc16 cc17 cc18 cc19 cc20 cc21 cc22 cc23 cc24 cc25 cc26 cc27 cc28 cc29 cc30 cc31 cc32 cc33 cc34 cc35 pp6 pp7 pp14 pp22 pp30 pp31 : Addr}
    (a0 : PySem.W.nsIn K mainGlobals "_law_box" = some (some (.ref f0))) (l0 : K.lookup f0 = some ⟨oc0, od0, .func (PySem.W.fnOf "_law_box" "_law_box" (defArgs s__law_box) (defBody s__law_box) (defScope s__law_box) .none kV0 dc0 pm0 an0 (.ref cc0) ct0), sl0⟩) (c0 : PySem.W.codeIn K (.ref cc0) "_law_box" = true) (k0 : PySem.W.keepIn K (.ref f0) = true)
    (a1 : PySem.W.findIn K (.ref C0) "__init__" = some (some (.ref f1))) (i1 : PySem.W.isFn K (.ref f1) = true) (l1 : K.lookup f1 = some ⟨oc1, od1, .func (PySem.W.fnOf "__init__" "Notary.__init__" (defArgs s_Notary____init__) (defBody s_Notary____init__) (defScope s_Notary____init__) .none kV1 dc1 pm1 an1 (.ref cc1) ct1), sl1⟩) (c1 : PySem.W.codeIn K (.ref cc1) "Notary.__init__" = true) (k1 : PySem.W.keepIn K (.ref f1) = true)
    (a2 : PySem.W.findIn K (.ref C0) "parts_of" = some (some (.ref f2))) (i2 : PySem.W.isFn K (.ref f2) = true) (l2 : K.lookup f2 = some ⟨oc2, od2, .func (PySem.W.fnOf "parts_of" "Notary.parts_of" (defArgs s_Notary__parts_of) (defBody s_Notary__parts_of) (defScope s_Notary__parts_of) .none kV2 dc2 pm2 an2 (.ref cc2) ct2), sl2⟩) (c2 : PySem.W.codeIn K (.ref cc2) "Notary.parts_of" = true) (k2 : PySem.W.keepIn K (.ref f2) = true)
    (a3 : PySem.W.nsIn K mainGlobals "_law_opened" = some (some (.ref f3))) (l3 : K.lookup f3 = some ⟨oc3, od3, .func (PySem.W.fnOf "_law_opened" "_law_opened" (defArgs s__law_opened) (defBody s__law_opened) (defScope s__law_opened) .none kV3 dc3 pm3 an3 (.ref cc3) ct3), sl3⟩) (c3 : PySem.W.codeIn K (.ref cc3) "_law_opened" = true) (k3 : PySem.W.keepIn K (.ref f3) = true)
    (a4 : PySem.W.nsIn K mainGlobals "_law_openings" = some (some (.ref f4))) (l4 : K.lookup f4 = some ⟨oc4, od4, .func (PySem.W.fnOf "_law_openings" "_law_openings" (defArgs s__law_openings) (defBody s__law_openings) (defScope s__law_openings) .none kV4 dc4 pm4 an4 (.ref cc4) ct4), sl4⟩) (c4 : PySem.W.codeIn K (.ref cc4) "_law_openings" = true) (k4 : PySem.W.keepIn K (.ref f4) = true)
    (a5 : PySem.W.nsIn K mainGlobals "is_number" = some (some (.ref f5))) (l5 : K.lookup f5 = some ⟨oc5, od5, .func (PySem.W.fnOf "is_number" "is_number" (defArgs s_is_number) (defBody s_is_number) (defScope s_is_number) .none kV5 dc5 pm5 an5 (.ref cc5) ct5), sl5⟩) (c5 : PySem.W.codeIn K (.ref cc5) "is_number" = true) (k5 : PySem.W.keepIn K (.ref f5) = true)
    (a6 : PySem.W.nsIn K mainGlobals "is_label" = some (some (.ref f6))) (l6 : K.lookup f6 = some ⟨oc6, od6, .func (PySem.W.fnOf "is_label" "is_label" (defArgs s_is_label) (defBody s_is_label) (defScope s_is_label) .none kV6 dc6 pm6 an6 (.ref cc6) ct6), sl6⟩) (c6 : PySem.W.codeIn K (.ref cc6) "is_label" = true) (k6 : PySem.W.keepIn K (.ref f6) = true)
    (a7 : PySem.W.nsIn K mainGlobals "is_parts" = some (some (.ref f7))) (l7 : K.lookup f7 = some ⟨oc7, od7, .func (PySem.W.fnOf "is_parts" "is_parts" (defArgs s_is_parts) (defBody s_is_parts) (defScope s_is_parts) .none kV7 dc7 pm7 an7 (.ref cc7) ct7), sl7⟩) (c7 : PySem.W.codeIn K (.ref cc7) "is_parts" = true) (k7 : PySem.W.keepIn K (.ref f7) = true)
    (a8 : PySem.W.findIn K (.ref C0) "seal" = some (some (.ref f8))) (i8 : PySem.W.isFn K (.ref f8) = true) (l8 : K.lookup f8 = some ⟨oc8, od8, .func (PySem.W.fnOf "seal" "Notary.seal" (defArgs s_Notary__seal) (defBody s_Notary__seal) (defScope s_Notary__seal) .none kV8 dc8 pm8 an8 (.ref cc8) ct8), sl8⟩) (c8 : PySem.W.codeIn K (.ref cc8) "Notary.seal" = true) (k8 : PySem.W.keepIn K (.ref f8) = true)
    (a9 : PySem.W.nsIn K mainGlobals "_law_load" = some (some (.ref f9))) (l9 : K.lookup f9 = some ⟨oc9, od9, .func (PySem.W.fnOf "_law_load" "_law_load" (defArgs s__law_load) (defBody s__law_load) (defScope s__law_load) .none kV9 dc9 pm9 an9 (.ref cc9) ct9), sl9⟩) (c9 : PySem.W.codeIn K (.ref cc9) "_law_load" = true) (k9 : PySem.W.keepIn K (.ref f9) = true)
    (a10 : PySem.W.nsIn K mainGlobals "_law_draw" = some (some (.ref f10))) (l10 : K.lookup f10 = some ⟨oc10, od10, .func (PySem.W.fnOf "_law_draw" "_law_draw" (defArgs s__law_draw) (defBody s__law_draw) (defScope s__law_draw) .none kV10 dc10 pm10 an10 (.ref cc10) ct10), sl10⟩) (c10 : PySem.W.codeIn K (.ref cc10) "_law_draw" = true) (k10 : PySem.W.keepIn K (.ref f10) = true)
    (a11 : PySem.W.nsIn K mainGlobals "_law_odd" = some (some (.ref f11))) (l11 : K.lookup f11 = some ⟨oc11, od11, .func (PySem.W.fnOf "_law_odd" "_law_odd" (defArgs s__law_odd) (defBody s__law_odd) (defScope s__law_odd) .none kV11 dc11 pm11 an11 (.ref cc11) ct11), sl11⟩) (c11 : PySem.W.codeIn K (.ref cc11) "_law_odd" = true) (k11 : PySem.W.keepIn K (.ref f11) = true)
    (a12 : PySem.W.findIn K (.ref C0) "size" = some (some (.ref f12))) (i12 : PySem.W.isFn K (.ref f12) = true) (l12 : K.lookup f12 = some ⟨oc12, od12, .func (PySem.W.fnOf "size" "Notary.size" (defArgs s_Notary__size) (defBody s_Notary__size) (defScope s_Notary__size) .none kV12 dc12 pm12 an12 (.ref cc12) ct12), sl12⟩) (c12 : PySem.W.codeIn K (.ref cc12) "Notary.size" = true) (k12 : PySem.W.keepIn K (.ref f12) = true)
    (a13 : PySem.W.nsIn K mainGlobals "leaf_count" = some (some (.ref f13))) (l13 : K.lookup f13 = some ⟨oc13, od13, .func (PySem.W.fnOf "leaf_count" "leaf_count" (defArgs s_leaf_count) (defBody s_leaf_count) (defScope s_leaf_count) .none kV13 dc13 pm13 an13 (.ref cc13) ct13), sl13⟩) (c13 : PySem.W.codeIn K (.ref cc13) "leaf_count" = true) (k13 : PySem.W.keepIn K (.ref f13) = true)
    (a14 : PySem.W.nsIn K mainGlobals "is_row" = some (some (.ref f14))) (l14 : K.lookup f14 = some ⟨oc14, od14, .func (PySem.W.fnOf "is_row" "is_row" (defArgs s_is_row) (defBody s_is_row) (defScope s_is_row) .none kV14 dc14 pm14 an14 (.ref cc14) ct14), sl14⟩) (c14 : PySem.W.codeIn K (.ref cc14) "is_row" = true) (k14 : PySem.W.keepIn K (.ref f14) = true)
    (a15 : PySem.W.nsIn K mainGlobals "rows_above" = some (some (.ref f15))) (l15 : K.lookup f15 = some ⟨oc15, od15, .func (PySem.W.fnOf "rows_above" "rows_above" (defArgs s_rows_above) (defBody s_rows_above) (defScope s_rows_above) .none kV15 dc15 pm15 an15 (.ref cc15) ct15), sl15⟩) (c15 : PySem.W.codeIn K (.ref cc15) "rows_above" = true) (k15 : PySem.W.keepIn K (.ref f15) = true)
    (a16 : PySem.W.nsIn K mainGlobals "history_of" = some (some (.ref f16))) (l16 : K.lookup f16 = some ⟨oc16, od16, .func (PySem.W.fnOf "history_of" "history_of" (defArgs s_history_of) (defBody s_history_of) (defScope s_history_of) .none kV16 dc16 pm16 an16 (.ref cc16) ct16), sl16⟩) (c16 : PySem.W.codeIn K (.ref cc16) "history_of" = true) (k16 : PySem.W.keepIn K (.ref f16) = true)
    (a17 : PySem.W.nsIn K mainGlobals "_law_history" = some (some (.ref f17))) (l17 : K.lookup f17 = some ⟨oc17, od17, .func (PySem.W.fnOf "_law_history" "_law_history" (defArgs s__law_history) (defBody s__law_history) (defScope s__law_history) .none kV17 dc17 pm17 an17 (.ref cc17) ct17), sl17⟩) (c17 : PySem.W.codeIn K (.ref cc17) "_law_history" = true) (k17 : PySem.W.keepIn K (.ref f17) = true)
    (a18 : PySem.W.findIn K (.ref C0) "find" = some (some (.ref f18))) (i18 : PySem.W.isFn K (.ref f18) = true) (l18 : K.lookup f18 = some ⟨oc18, od18, .func (PySem.W.fnOf "find" "Notary.find" (defArgs s_Notary__find) (defBody s_Notary__find) (defScope s_Notary__find) .none kV18 dc18 pm18 an18 (.ref cc18) ct18), sl18⟩) (c18 : PySem.W.codeIn K (.ref cc18) "Notary.find" = true) (k18 : PySem.W.keepIn K (.ref f18) = true)
    (a19 : PySem.W.nsIn K mainGlobals "_law_is_opening" = some (some (.ref f19))) (l19 : K.lookup f19 = some ⟨oc19, od19, .func (PySem.W.fnOf "_law_is_opening" "_law_is_opening" (defArgs s__law_is_opening) (defBody s__law_is_opening) (defScope s__law_is_opening) .none kV19 dc19 pm19 an19 (.ref cc19) ct19), sl19⟩) (c19 : PySem.W.codeIn K (.ref cc19) "_law_is_opening" = true) (k19 : PySem.W.keepIn K (.ref f19) = true)
    (a20 : PySem.W.nsIn K mainGlobals "_law_parts" = some (some (.ref f20))) (l20 : K.lookup f20 = some ⟨oc20, od20, .func (PySem.W.fnOf "_law_parts" "_law_parts" (defArgs s__law_parts) (defBody s__law_parts) (defScope s__law_parts) .none kV20 dc20 pm20 an20 (.ref cc20) ct20), sl20⟩) (c20 : PySem.W.codeIn K (.ref cc20) "_law_parts" = true) (k20 : PySem.W.keepIn K (.ref f20) = true)
    (a21 : PySem.W.nsIn K mainGlobals "_law_changed" = some (some (.ref f21))) (l21 : K.lookup f21 = some ⟨oc21, od21, .func (PySem.W.fnOf "_law_changed" "_law_changed" (defArgs s__law_changed) (defBody s__law_changed) (defScope s__law_changed) .none kV21 dc21 pm21 an21 (.ref cc21) ct21), sl21⟩) (c21 : PySem.W.codeIn K (.ref cc21) "_law_changed" = true) (k21 : PySem.W.keepIn K (.ref f21) = true)
    (a22 : PySem.W.nsIn K mainGlobals "is_opening" = some (some (.ref f22))) (l22 : K.lookup f22 = some ⟨oc22, od22, .func (PySem.W.fnOf "is_opening" "is_opening" (defArgs s_is_opening) (defBody s_is_opening) (defScope s_is_opening) .none kV22 dc22 pm22 an22 (.ref cc22) ct22), sl22⟩) (c22 : PySem.W.codeIn K (.ref cc22) "is_opening" = true) (k22 : PySem.W.keepIn K (.ref f22) = true)
    (a23 : PySem.W.nsIn K mainGlobals "opening" = some (some (.ref f23))) (l23 : K.lookup f23 = some ⟨oc23, od23, .func (PySem.W.fnOf "opening" "opening" (defArgs s_opening) (defBody s_opening) (defScope s_opening) .none kV23 dc23 pm23 an23 (.ref cc23) ct23), sl23⟩) (c23 : PySem.W.codeIn K (.ref cc23) "opening" = true) (k23 : PySem.W.keepIn K (.ref f23) = true)
    (a24 : PySem.W.nsIn K mainGlobals "last_of" = some (some (.ref f24))) (l24 : K.lookup f24 = some ⟨oc24, od24, .func (PySem.W.fnOf "last_of" "last_of" (defArgs s_last_of) (defBody s_last_of) (defScope s_last_of) .none kV24 dc24 pm24 an24 (.ref cc24) ct24), sl24⟩) (c24 : PySem.W.codeIn K (.ref cc24) "last_of" = true) (k24 : PySem.W.keepIn K (.ref f24) = true)
    (a25 : PySem.W.nsIn K mainGlobals "half_spans" = some (some (.ref f25))) (l25 : K.lookup f25 = some ⟨oc25, od25, .func (PySem.W.fnOf "half_spans" "half_spans" (defArgs s_half_spans) (defBody s_half_spans) (defScope s_half_spans) .none kV25 dc25 pm25 an25 (.ref cc25) ct25), sl25⟩) (c25 : PySem.W.codeIn K (.ref cc25) "half_spans" = true) (k25 : PySem.W.keepIn K (.ref f25) = true)
    (a26 : PySem.W.nsIn K mainGlobals "halves_of" = some (some (.ref f26))) (l26 : K.lookup f26 = some ⟨oc26, od26, .func (PySem.W.fnOf "halves_of" "halves_of" (defArgs s_halves_of) (defBody s_halves_of) (defScope s_halves_of) .none kV26 dc26 pm26 an26 (.ref cc26) ct26), sl26⟩) (c26 : PySem.W.codeIn K (.ref cc26) "halves_of" = true) (k26 : PySem.W.keepIn K (.ref f26) = true)
    (a27 : PySem.W.nsIn K mainGlobals "_law_cut" = some (some (.ref f27))) (l27 : K.lookup f27 = some ⟨oc27, od27, .func (PySem.W.fnOf "_law_cut" "_law_cut" (defArgs s__law_cut) (defBody s__law_cut) (defScope s__law_cut) .none kV27 dc27 pm27 an27 (.ref cc27) ct27), sl27⟩) (c27 : PySem.W.codeIn K (.ref cc27) "_law_cut" = true) (k27 : PySem.W.keepIn K (.ref f27) = true)
    (a28 : PySem.W.nsIn K mainGlobals "_law_same" = some (some (.ref f28))) (l28 : K.lookup f28 = some ⟨oc28, od28, .func (PySem.W.fnOf "_law_same" "_law_same" (defArgs s__law_same) (defBody s__law_same) (defScope s__law_same) .none kV28 dc28 pm28 an28 (.ref cc28) ct28), sl28⟩) (c28 : PySem.W.codeIn K (.ref cc28) "_law_same" = true) (k28 : PySem.W.keepIn K (.ref f28) = true)
    (a29 : PySem.W.nsIn K mainGlobals "histories_in" = some (some (.ref f29))) (l29 : K.lookup f29 = some ⟨oc29, od29, .func (PySem.W.fnOf "histories_in" "histories_in" (defArgs s_histories_in) (defBody s_histories_in) (defScope s_histories_in) .none kV29 dc29 pm29 an29 (.ref cc29) ct29), sl29⟩) (c29 : PySem.W.codeIn K (.ref cc29) "histories_in" = true) (k29 : PySem.W.keepIn K (.ref f29) = true)
    (a30 : PySem.W.nsIn K mainGlobals "fits" = some (some (.ref f30))) (l30 : K.lookup f30 = some ⟨oc30, od30, .func (PySem.W.fnOf "fits" "fits" (defArgs s_fits) (defBody s_fits) (defScope s_fits) .none kV30 dc30 pm30 an30 (.ref cc30) ct30), sl30⟩) (c30 : PySem.W.codeIn K (.ref cc30) "fits" = true) (k30 : PySem.W.keepIn K (.ref f30) = true)
    (a31 : PySem.W.nsIn K mainGlobals "wide_parts" = some (some (.ref f31))) (l31 : K.lookup f31 = some ⟨oc31, od31, .func (PySem.W.fnOf "wide_parts" "wide_parts" (defArgs s_wide_parts) (defBody s_wide_parts) (defScope s_wide_parts) .none kV31 dc31 pm31 an31 (.ref cc31) ct31), sl31⟩) (c31 : PySem.W.codeIn K (.ref cc31) "wide_parts" = true) (k31 : PySem.W.keepIn K (.ref f31) = true)
    (a32 : PySem.W.nsIn K mainGlobals "cut_in_two" = some (some (.ref f32))) (l32 : K.lookup f32 = some ⟨oc32, od32, .func (PySem.W.fnOf "cut_in_two" "cut_in_two" (defArgs s_cut_in_two) (defBody s_cut_in_two) (defScope s_cut_in_two) .none kV32 dc32 pm32 an32 (.ref cc32) ct32), sl32⟩) (c32 : PySem.W.codeIn K (.ref cc32) "cut_in_two" = true) (k32 : PySem.W.keepIn K (.ref f32) = true)
    (a33 : PySem.W.nsIn K mainGlobals "wide_cut" = some (some (.ref f33))) (l33 : K.lookup f33 = some ⟨oc33, od33, .func (PySem.W.fnOf "wide_cut" "wide_cut" (defArgs s_wide_cut) (defBody s_wide_cut) (defScope s_wide_cut) .none kV33 dc33 pm33 an33 (.ref cc33) ct33), sl33⟩) (c33 : PySem.W.codeIn K (.ref cc33) "wide_cut" = true) (k33 : PySem.W.keepIn K (.ref f33) = true)
    (a34 : PySem.W.nsIn K mainGlobals "wide_opening" = some (some (.ref f34))) (l34 : K.lookup f34 = some ⟨oc34, od34, .func (PySem.W.fnOf "wide_opening" "wide_opening" (defArgs s_wide_opening) (defBody s_wide_opening) (defScope s_wide_opening) .none kV34 dc34 pm34 an34 (.ref cc34) ct34), sl34⟩) (c34 : PySem.W.codeIn K (.ref cc34) "wide_opening" = true) (k34 : PySem.W.keepIn K (.ref f34) = true)
    (a35 : PySem.W.nsIn K mainGlobals "law" = some (some (.ref f35))) (l35 : K.lookup f35 = some ⟨oc35, od35, .func (PySem.W.fnOf "law" "law" (defArgs s_law) (defBody s_law) (defScope s_law) .none kV35 dc35 pm35 an35 (.ref cc35) ct35), sl35⟩) (c35 : PySem.W.codeIn K (.ref cc35) "law" = true) (k35 : PySem.W.keepIn K (.ref f35) = true)
    (aC0 : PySem.W.nsIn K mainGlobals "Notary" = some (some (.ref C0))) (pg0 : PySem.W.plainGet K C0 Str.empty = true) (hd0 : PySem.W.hasDictIn K C0 = true) (po0 : PySem.W.plainOver K C0 = true) (sa0 : PySem.W.findIn K (.ref C0) "__setattr__" = some (some (.builtin "object.__setattr__"))) (mk0 : PySem.W.makesIn K C0 = true) (kc0 : PySem.W.keepIn K (.ref C0) = true)
    (n_Notary_asked : PySem.W.findIn K (.ref C0) "asked" = some none)
    (n_Notary_numbers : PySem.W.findIn K (.ref C0) "numbers" = some none)
    (n_Notary_tuples : PySem.W.findIn K (.ref C0) "tuples" = some none)
    (z_all : PySem.W.nsIn K mainGlobals "all" = some none)
    (z_bool : PySem.W.nsIn K mainGlobals "bool" = some none)
    (z_dict : PySem.W.nsIn K mainGlobals "dict" = some none)
    (z_int : PySem.W.nsIn K mainGlobals "int" = some none)
    (z_isinstance : PySem.W.nsIn K mainGlobals "isinstance" = some none)
    (z_len : PySem.W.nsIn K mainGlobals "len" = some none)
    (z_list : PySem.W.nsIn K mainGlobals "list" = some none)
    (z_max : PySem.W.nsIn K mainGlobals "max" = some none)
    (z_min : PySem.W.nsIn K mainGlobals "min" = some none)
    (z_range : PySem.W.nsIn K mainGlobals "range" = some none)
    (z_str : PySem.W.nsIn K mainGlobals "str" = some none)
    (z_tuple : PySem.W.nsIn K mainGlobals "tuple" = some none)
    {tk_MAX_DEPTH : Tok} (y_MAX_DEPTH : PySem.W.nsIn K mainGlobals "MAX_DEPTH" = some (some (.int 4 tk_MAX_DEPTH)))
    {tk_MAX_LEVEL : Tok} (y_MAX_LEVEL : PySem.W.nsIn K mainGlobals "MAX_LEVEL" = some (some (.int 10 tk_MAX_LEVEL)))
    {tk_MAX_PART : Tok} (y_MAX_PART : PySem.W.nsIn K mainGlobals "MAX_PART" = some (some (.int 281474976710656 tk_MAX_PART)))
    {tk_MAX_TEXT : Tok} (y_MAX_TEXT : PySem.W.nsIn K mainGlobals "MAX_TEXT" = some (some (.int 24 tk_MAX_TEXT)))
    {tk_MOST_PARTS : Tok} (y_MOST_PARTS : PySem.W.nsIn K mainGlobals "MOST_PARTS" = some (some (.int 16 tk_MOST_PARTS)))
    : ∃ fd : FuncData, (∀ (s : Shared) (v : Value), BindsTo s fd ⟨[v], []⟩ [("script", v)]) ∧ ∀ base : Heap, K.In base → base.Ns mainGlobals mg → (∀ p ∈ [(cc6, pp6), (cc7, pp7), (cc14, pp14), (cc22, pp22), (cc30, pp30), (cc31, pp31)], GxR.TabB base mg p.1 p.2) → FnOk l.prog w K mg base CX0 24 fa fd ["script"] (@spLaw (tbOf [(cc6, pp6), (cc7, pp7), (cc14, pp14), (cc22, pp22), (cc30, pp30), (cc31, pp31)]) K) := by
  letI : Tb := tbCl [(cc6, pp6), (cc7, pp7), (cc14, pp14), (cc22, pp22), (cc30, pp30), (cc31, pp31)] [("Notary", C0)]
  have hC0 : Tb.C "Notary" = C0 := rfl
  have e := hfa.symm.trans (PySem.W.mg_of X G a35)
  cases e
  have F0 := fun_mk (st := s__law_box) l0 c0 k0
  have b0 := F0.binds (ps := ["script", "nodes"]) fun _ _ _ _ _ _ us hl => match us, hl with | [_, _], _ => rfl
  have F1 := fun_mk (st := s_Notary____init__) l1 c1 k1
  have b1 := F1.binds (ps := ["self"]) fun _ _ _ _ _ _ us hl => match us, hl with | [_], _ => rfl
  have F2 := fun_mk (st := s_Notary__parts_of) l2 c2 k2
  have b2 := F2.binds (ps := ["self", "seal"]) fun _ _ _ _ _ _ us hl => match us, hl with | [_, _], _ => rfl
  have F3 := fun_mk (st := s__law_opened) l3 c3 k3
  have b3 := F3.binds (ps := ["notary", "history", "depth"]) fun _ _ _ _ _ _ us hl => match us, hl with | [_, _, _], _ => rfl
  have F4 := fun_mk (st := s__law_openings) l4 c4 k4
  have b4 := F4.binds (ps := ["notary", "history", "depth"]) fun _ _ _ _ _ _ us hl => match us, hl with | [_, _, _], _ => rfl
  have F5 := fun_mk (st := s_is_number) l5 c5 k5
  have b5 := F5.binds (ps := ["value", "least", "most"]) fun _ _ _ _ _ _ us hl => match us, hl with | [_, _, _], _ => rfl
  have F6 := funC_mk (st := s_is_label) l6 c6 k6
  have b6 := F6.f.binds (ps := ["value"]) fun _ _ _ _ _ _ us hl => match us, hl with | [_], _ => rfl
  have F7 := funC_mk (st := s_is_parts) l7 c7 k7
  have b7 := F7.f.binds (ps := ["value"]) fun _ _ _ _ _ _ us hl => match us, hl with | [_], _ => rfl
  have F8 := fun_mk (st := s_Notary__seal) l8 c8 k8
  have b8 := F8.binds (ps := ["self", "parts"]) fun _ _ _ _ _ _ us hl => match us, hl with | [_, _], _ => rfl
  have F9 := fun_mk (st := s__law_load) l9 c9 k9
  have b9 := F9.binds (ps := ["box"]) fun _ _ _ _ _ _ us hl => match us, hl with | [_], _ => rfl
  have F10 := fun_mk (st := s__law_draw) l10 c10 k10
  have b10 := F10.binds (ps := ["box", "many"]) fun _ _ _ _ _ _ us hl => match us, hl with | [_, _], _ => rfl
  have F11 := fun_mk (st := s__law_odd) l11 c11 k11
  have b11 := F11.binds (ps := ["box", "notary", "history"]) fun _ _ _ _ _ _ us hl => match us, hl with | [_, _, _], _ => rfl
  have F12 := fun_mk (st := s_Notary__size) l12 c12 k12
  have b12 := F12.binds (ps := ["self"]) fun _ _ _ _ _ _ us hl => match us, hl with | [_], _ => rfl
  have F13 := fun_mk (st := s_leaf_count) l13 c13 k13
  have b13 := F13.binds (ps := ["height"]) fun _ _ _ _ _ _ us hl => match us, hl with | [_], _ => rfl
  have F14 := funC_mk (st := s_is_row) l14 c14 k14
  have b14 := F14.f.binds (ps := ["row"]) fun _ _ _ _ _ _ us hl => match us, hl with | [_], _ => rfl
  have F15 := fun_mk (st := s_rows_above) l15 c15 k15
  have b15 := F15.binds (ps := ["notary", "row"]) fun _ _ _ _ _ _ us hl => match us, hl with | [_, _], _ => rfl
  have F16 := fun_mk (st := s_history_of) l16 c16 k16
  have b16 := F16.binds (ps := ["notary", "row"]) fun _ _ _ _ _ _ us hl => match us, hl with | [_, _], _ => rfl
  have F17 := fun_mk (st := s__law_history) l17 c17 k17
  have b17 := F17.binds (ps := ["box", "notary", "row"]) fun _ _ _ _ _ _ us hl => match us, hl with | [_, _, _], _ => rfl
  have F18 := fun_mk (st := s_Notary__find) l18 c18 k18
  have b18 := F18.binds (ps := ["self", "parts"]) fun _ _ _ _ _ _ us hl => match us, hl with | [_, _], _ => rfl
  have F19 := fun_mk (st := s__law_is_opening) l19 c19 k19
  have b19 := F19.binds (ps := ["value"]) fun _ _ _ _ _ _ us hl => match us, hl with | [_], _ => rfl
  have F20 := fun_mk (st := s__law_parts) l20 c20 k20
  have b20 := F20.binds (ps := ["notary", "history", "depth", "value"]) fun _ _ _ _ _ _ us hl => match us, hl with | [_, _, _, _], _ => rfl
  have F21 := fun_mk (st := s__law_changed) l21 c21 k21
  have b21 := F21.binds (ps := ["box", "value"]) fun _ _ _ _ _ _ us hl => match us, hl with | [_, _], _ => rfl
  have F22 := funC_mk (st := s_is_opening) l22 c22 k22
  have b22 := F22.f.binds (ps := ["value"]) fun _ _ _ _ _ _ us hl => match us, hl with | [_], _ => rfl
  have F23 := fun_mk (st := s_opening) l23 c23 k23
  have b23 := F23.binds (ps := ["notary", "history"]) fun _ _ _ _ _ _ us hl => match us, hl with | [_, _], _ => rfl
  have F24 := fun_mk (st := s_last_of) l24 c24 k24
  have b24 := F24.binds (ps := ["notary", "history"]) fun _ _ _ _ _ _ us hl => match us, hl with | [_, _], _ => rfl
  have F25 := fun_mk (st := s_half_spans) l25 c25 k25
  have b25 := F25.binds (ps := ["span", "behind", "middle", "left", "right"]) fun _ _ _ _ _ _ us hl => match us, hl with | [_, _, _, _, _], _ => rfl
  have F26 := fun_mk (st := s_halves_of) l26 c26 k26
  have b26 := F26.binds (ps := ["notary", "span"]) fun _ _ _ _ _ _ us hl => match us, hl with | [_, _], _ => rfl
  have F27 := fun_mk (st := s__law_cut) l27 c27 k27
  have b27 := F27.binds (ps := ["notary", "span", "depth"]) fun _ _ _ _ _ _ us hl => match us, hl with | [_, _, _], _ => rfl
  have F28 := fun_mk (st := s__law_same) l28 c28 k28
  have b28 := F28.binds (ps := ["a", "b"]) fun _ _ _ _ _ _ us hl => match us, hl with | [_, _], _ => rfl
  have F29 := fun_mk (st := s_histories_in) l29 c29 k29
  have b29 := F29.binds (ps := ["history", "openings"]) fun _ _ _ _ _ _ us hl => match us, hl with | [_, _], _ => rfl
  have F30 := funC_mk (st := s_fits) l30 c30 k30
  have b30 := F30.f.binds (ps := ["openings"]) fun _ _ _ _ _ _ us hl => match us, hl with | [_], _ => rfl
  have F31 := funC_mk (st := s_wide_parts) l31 c31 k31
  have b31 := F31.f.binds (ps := ["notary", "history", "depth", "openings"]) fun _ _ _ _ _ _ us hl => match us, hl with | [_, _, _, _], _ => rfl
  have F32 := fun_mk (st := s_cut_in_two) l32 c32 k32
  have b32 := F32.binds (ps := ["notary", "span", "parts", "left"]) fun _ _ _ _ _ _ us hl => match us, hl with | [_, _, _, _], _ => rfl
  have F33 := fun_mk (st := s_wide_cut) l33 c33 k33
  have b33 := F33.binds (ps := ["notary", "span", "depth", "openings"]) fun _ _ _ _ _ _ us hl => match us, hl with | [_, _, _, _], _ => rfl
  have F34 := fun_mk (st := s_wide_opening) l34 c34 k34
  have b34 := F34.binds (ps := ["notary", "history", "depth"]) fun _ _ _ _ _ _ us hl => match us, hl with | [_, _, _], _ => rfl
  have F35 := fun_mk (st := s_law) l35 c35 k35
  have b35 := F35.binds (ps := ["script"]) fun _ _ _ _ _ _ us hl => match us, hl with | [_], _ => rfl
  let T : Tx K mg := { a__law_box := f0, fd__law_box := _, F__law_box := F0, b__law_box := b0, a_Notary____init__ := f1, fd_Notary____init__ := _, F_Notary____init__ := F1, b_Notary____init__ := b1, me_Notary____init__ := ⟨a1, i1, k1⟩, a_Notary__parts_of := f2, fd_Notary__parts_of := _, F_Notary__parts_of := F2, b_Notary__parts_of := b2, me_Notary__parts_of := ⟨a2, i2, k2⟩, a__law_opened := f3, fd__law_opened := _, F__law_opened := F3, b__law_opened := b3, a__law_openings := f4, fd__law_openings := _, F__law_openings := F4, b__law_openings := b4, a_is_number := f5, fd_is_number := _, F_is_number := F5, b_is_number := b5, c_is_label := cc6, P_is_label := pp6, a_is_label := f6, fd_is_label := _, F_is_label := F6, b_is_label := b6, c_is_parts := cc7, P_is_parts := pp7, a_is_parts := f7, fd_is_parts := _, F_is_parts := F7, b_is_parts := b7, a_Notary__seal := f8, fd_Notary__seal := _, F_Notary__seal := F8, b_Notary__seal := b8, me_Notary__seal := ⟨a8, i8, k8⟩, a__law_load := f9, fd__law_load := _, F__law_load := F9, b__law_load := b9, a__law_draw := f10, fd__law_draw := _, F__law_draw := F10, b__law_draw := b10, a__law_odd := f11, fd__law_odd := _, F__law_odd := F11, b__law_odd := b11, a_Notary__size := f12, fd_Notary__size := _, F_Notary__size := F12, b_Notary__size := b12, me_Notary__size := ⟨a12, i12, k12⟩, a_leaf_count := f13, fd_leaf_count := _, F_leaf_count := F13, b_leaf_count := b13, c_is_row := cc14, P_is_row := pp14, a_is_row := f14, fd_is_row := _, F_is_row := F14, b_is_row := b14, a_rows_above := f15, fd_rows_above := _, F_rows_above := F15, b_rows_above := b15, a_history_of := f16, fd_history_of := _, F_history_of := F16, b_history_of := b16, a__law_history := f17, fd__law_history := _, F__law_history := F17, b__law_history := b17, a_Notary__find := f18, fd_Notary__find := _, F_Notary__find := F18, b_Notary__find := b18, me_Notary__find := ⟨a18, i18, k18⟩, a__law_is_opening := f19, fd__law_is_opening := _, F__law_is_opening := F19, b__law_is_opening := b19, a__law_parts := f20, fd__law_parts := _, F__law_parts := F20, b__law_parts := b20, a__law_changed := f21, fd__law_changed := _, F__law_changed := F21, b__law_changed := b21, c_is_opening := cc22, P_is_opening := pp22, a_is_opening := f22, fd_is_opening := _, F_is_opening := F22, b_is_opening := b22, a_opening := f23, fd_opening := _, F_opening := F23, b_opening := b23, a_last_of := f24, fd_last_of := _, F_last_of := F24, b_last_of := b24, a_half_spans := f25, fd_half_spans := _, F_half_spans := F25, b_half_spans := b25, a_halves_of := f26, fd_halves_of := _, F_halves_of := F26, b_halves_of := b26, a__law_cut := f27, fd__law_cut := _, F__law_cut := F27, b__law_cut := b27, a__law_same := f28, fd__law_same := _, F__law_same := F28, b__law_same := b28, a_histories_in := f29, fd_histories_in := _, F_histories_in := F29, b_histories_in := b29, c_fits := cc30, P_fits := pp30, a_fits := f30, fd_fits := _, F_fits := F30, b_fits := b30, c_wide_parts := cc31, P_wide_parts := pp31, a_wide_parts := f31, fd_wide_parts := _, F_wide_parts := F31, b_wide_parts := b31, a_cut_in_two := f32, fd_cut_in_two := _, F_cut_in_two := F32, b_cut_in_two := b32, a_wide_cut := f33, fd_wide_cut := _, F_wide_cut := F33, b_wide_cut := b33, a_wide_opening := f34, fd_wide_opening := _, F_wide_opening := F34, b_wide_opening := b34, a_law := fa, fd_law := _, F_law := F35, b_law := b35, m__law_box := PySem.W.mg_of X G a0, m__law_changed := PySem.W.mg_of X G a21, m__law_cut := PySem.W.mg_of X G a27, m__law_draw := PySem.W.mg_of X G a10, m__law_history := PySem.W.mg_of X G a17, m__law_is_opening := PySem.W.mg_of X G a19, m__law_load := PySem.W.mg_of X G a9, m__law_odd := PySem.W.mg_of X G a11, m__law_opened := PySem.W.mg_of X G a3, m__law_openings := PySem.W.mg_of X G a4, m__law_parts := PySem.W.mg_of X G a20, m__law_same := PySem.W.mg_of X G a28, m_cut_in_two := PySem.W.mg_of X G a32, m_fits := PySem.W.mg_of X G a30, m_half_spans := PySem.W.mg_of X G a25, m_halves_of := PySem.W.mg_of X G a26, m_histories_in := PySem.W.mg_of X G a29, m_history_of := PySem.W.mg_of X G a16, m_is_label := PySem.W.mg_of X G a6, m_is_number := PySem.W.mg_of X G a5, m_is_opening := PySem.W.mg_of X G a22, m_is_parts := PySem.W.mg_of X G a7, m_is_row := PySem.W.mg_of X G a14, m_last_of := PySem.W.mg_of X G a24, m_law := PySem.W.mg_of X G a35, m_leaf_count := PySem.W.mg_of X G a13, m_opening := PySem.W.mg_of X G a23, m_rows_above := PySem.W.mg_of X G a15, m_wide_cut := PySem.W.mg_of X G a33, m_wide_opening := PySem.W.mg_of X G a34, m_wide_parts := PySem.W.mg_of X G a31, cl_Notary := ⟨pg0, hd0, po0, sa0⟩, m_Notary := PySem.W.mg_of X G aC0, mk_Notary := ⟨mk0, a1, i1, kc0⟩, na_Notary_asked := n_Notary_asked, na_Notary_numbers := n_Notary_numbers, na_Notary_tuples := n_Notary_tuples, m_all := PySem.W.mg_none_of X G z_all, m_bool := PySem.W.mg_none_of X G z_bool, m_dict := PySem.W.mg_none_of X G z_dict, m_int := PySem.W.mg_none_of X G z_int, m_isinstance := PySem.W.mg_none_of X G z_isinstance, m_len := PySem.W.mg_none_of X G z_len, m_list := PySem.W.mg_none_of X G z_list, m_max := PySem.W.mg_none_of X G z_max, m_min := PySem.W.mg_none_of X G z_min, m_range := PySem.W.mg_none_of X G z_range, m_str := PySem.W.mg_none_of X G z_str, m_tuple := PySem.W.mg_none_of X G z_tuple, t_MAX_DEPTH := tk_MAX_DEPTH, m_MAX_DEPTH := PySem.W.mg_of X G y_MAX_DEPTH, t_MAX_LEVEL := tk_MAX_LEVEL, m_MAX_LEVEL := PySem.W.mg_of X G y_MAX_LEVEL, t_MAX_PART := tk_MAX_PART, m_MAX_PART := PySem.W.mg_of X G y_MAX_PART, t_MAX_TEXT := tk_MAX_TEXT, m_MAX_TEXT := PySem.W.mg_of X G y_MAX_TEXT, t_MOST_PARTS := tk_MOST_PARTS, m_MOST_PARTS := PySem.W.mg_of X G y_MOST_PARTS }
  exact ⟨PySem.W.fnOf "law" "law" (defArgs s_law) (defBody s_law) (defScope s_law) .none kV35 dc35 pm35 an35 (.ref cc35) ct35, fun s v => .of_eq rfl, fun base _ _ TB => ok_law (base := base) T { t_is_label := TB (cc6, pp6) (by simp), h_is_label := (by show pp6 ∈ List.map _ _; simp), t_is_parts := TB (cc7, pp7) (by simp), h_is_parts := (by show pp7 ∈ List.map _ _; simp), t_is_row := TB (cc14, pp14) (by simp), h_is_row := (by show pp14 ∈ List.map _ _; simp), t_is_opening := TB (cc22, pp22) (by simp), h_is_opening := (by show pp22 ∈ List.map _ _; simp), t_fits := TB (cc30, pp30) (by simp), h_fits := (by show pp30 ∈ List.map _ _; simp), t_wide_parts := TB (cc31, pp31) (by simp), h_wide_parts := (by show pp31 ∈ List.map _ _; simp) } good⟩
theorem all_tab {l : PySem.W.OpenLaw} {w : World} {K : PySem.W.Frag} {h : Heap} {mg : Str → Option Value} {fa f0 f1 f2 f3 f4 f5 f6 f7 f8 f9 f10 f11 f12 f13 f14 f15 f16 f17 f18 f19 f20 f21 f22 f23 f24 f25 f26 f27 f28 f29 f30 f31 f32 f33 f34 f35 C0 : Addr} (good : ∀ ns : List Int, ns.length ≤ 63 → ∃ ω, b_law (lawRo 24 1) (box4 ns) = some (.rt (.bool true), ω)) (X : K.In h) (G : h.Ns mainGlobals mg) (hfa : mg "law" = some (.ref fa))
    {od0 an0 od1 an1 od2 an2 od3 an3 od4 an4 od5 an5 od6 an6 od7 an7 od8 an8 od9 an9 od10 an10 od11 an11 od12 an12 od13 an13 od14 an14 od15 an15 od16 an16 od17 an17 od18 an18 od19 an19 od20 an20 od21 an21 od22 an22 od23 an23 od24 an24 od25 an25 od26 an26 od27 an27 od28 an28 od29 an29 od30 an30 od31 an31 od32 an32 od33 an33 od34 an34 od35 an35 : Option Addr} {sl0 sl1 sl2 sl3 sl4 sl5 sl6 sl7 sl8 sl9 sl10 sl11 sl12 sl13 sl14 sl15 sl16 sl17 sl18 sl19 sl20 sl21 sl22 sl23 sl24 sl25 sl26 sl27 sl28 sl29 sl30 sl31 sl32 sl33 sl34 sl35 : Array (Option Value)} {oc0 kV0 dc0 pm0 ct0 oc1 kV1 dc1 pm1 ct1 oc2 kV2 dc2 pm2 ct2 oc3 kV3 dc3 pm3 ct3 oc4 kV4 dc4 pm4 ct4 oc5 kV5 dc5 pm5 ct5 oc6 kV6 dc6 pm6 ct6 oc7 kV7 dc7 pm7 ct7 oc8 kV8 dc8 pm8 ct8 oc9 kV9 dc9 pm9 ct9 oc10 kV10 dc10 pm10 ct10 oc11 kV11 dc11 pm11 ct11 oc12 kV12 dc12 pm12 ct12 oc13 kV13 dc13 pm13 ct13 oc14 kV14 dc14 pm14 ct14 oc15 kV15 dc15 pm15 ct15 oc16 kV16 dc16 pm16 ct16 oc17 kV17 dc17 pm17 ct17 oc18 kV18 dc18 pm18 ct18 oc19 kV19 dc19 pm19 ct19 oc20 kV20 dc20 pm20 ct20 oc21 kV21 dc21 pm21 ct21 oc22 kV22 dc22 pm22 ct22 oc23 kV23 dc23 pm23 ct23 oc24 kV24 dc24 pm24 ct24 oc25 kV25 dc25 pm25 ct25 oc26 kV26 dc26 pm26 ct26 oc27 kV27 dc27 pm27 ct27 oc28 kV28 dc28 pm28 ct28 oc29 kV29 dc29 pm29 ct29 oc30 kV30 dc30 pm30 ct30 oc31 kV31 dc31 pm31 ct31 oc32 kV32 dc32 pm32 ct32 oc33 kV33 dc33 pm33 ct33 oc34 kV34 dc34 pm34 ct34 oc35 kV35 dc35 pm35 ct35 : Value} {cc0 cc1 cc2 cc3 cc4 cc5 cc6 cc7 cc8 cc9 cc10 cc11 cc12 cc13 cc14 cc15 cc16 cc17 cc18 cc19 cc20 cc21 cc22 cc23 cc24 cc25 cc26 cc27 cc28 cc29 cc30 cc31 cc32 cc33 cc34 cc35 pp6 pp7 pp14 pp22 pp30 pp31 : Addr}
    (a0 : PySem.W.nsIn K mainGlobals "_law_box" = some (some (.ref f0))) (l0 : K.lookup f0 = some ⟨oc0, od0, .func (PySem.W.fnOf "_law_box" "_law_box" (defArgs s__law_box) (defBody s__law_box) (defScope s__law_box) .none kV0 dc0 pm0 an0 (.ref cc0) ct0), sl0⟩) (c0 : PySem.W.codeIn K (.ref cc0) "_law_box" = true) (k0 : PySem.W.keepIn K (.ref f0) = true)
    (a1 : PySem.W.findIn K (.ref C0) "__init__" = some (some (.ref f1))) (i1 : PySem.W.isFn K (.ref f1) = true) (l1 : K.lookup f1 = some ⟨oc1, od1, .func (PySem.W.fnOf "__init__" "Notary.__init__" (defArgs s_Notary____init__) (defBody s_Notary____init__) (defScope s_Notary____init__) .none kV1 dc1 pm1 an1 (.ref cc1) ct1), sl1⟩) (c1 : PySem.W.codeIn K (.ref cc1) "Notary.__init__" = true) (k1 : PySem.W.keepIn K (.ref f1) = true)
    (a2 : PySem.W.findIn K (.ref C0) "parts_of" = some (some (.ref f2))) (i2 : PySem.W.isFn K (.ref f2) = true) (l2 : K.lookup f2 = some ⟨oc2, od2, .func (PySem.W.fnOf "parts_of" "Notary.parts_of" (defArgs s_Notary__parts_of) (defBody s_Notary__parts_of) (defScope s_Notary__parts_of) .none kV2 dc2 pm2 an2 (.ref cc2) ct2), sl2⟩) (c2 : PySem.W.codeIn K (.ref cc2) "Notary.parts_of" = true) (k2 : PySem.W.keepIn K (.ref f2) = true)
    (a3 : PySem.W.nsIn K mainGlobals "_law_opened" = some (some (.ref f3))) (l3 : K.lookup f3 = some ⟨oc3, od3, .func (PySem.W.fnOf "_law_opened" "_law_opened" (defArgs s__law_opened) (defBody s__law_opened) (defScope s__law_opened) .none kV3 dc3 pm3 an3 (.ref cc3) ct3), sl3⟩) (c3 : PySem.W.codeIn K (.ref cc3) "_law_opened" = true) (k3 : PySem.W.keepIn K (.ref f3) = true)
    (a4 : PySem.W.nsIn K mainGlobals "_law_openings" = some (some (.ref f4))) (l4 : K.lookup f4 = some ⟨oc4, od4, .func (PySem.W.fnOf "_law_openings" "_law_openings" (defArgs s__law_openings) (defBody s__law_openings) (defScope s__law_openings) .none kV4 dc4 pm4 an4 (.ref cc4) ct4), sl4⟩) (c4 : PySem.W.codeIn K (.ref cc4) "_law_openings" = true) (k4 : PySem.W.keepIn K (.ref f4) = true)
    (a5 : PySem.W.nsIn K mainGlobals "is_number" = some (some (.ref f5))) (l5 : K.lookup f5 = some ⟨oc5, od5, .func (PySem.W.fnOf "is_number" "is_number" (defArgs s_is_number) (defBody s_is_number) (defScope s_is_number) .none kV5 dc5 pm5 an5 (.ref cc5) ct5), sl5⟩) (c5 : PySem.W.codeIn K (.ref cc5) "is_number" = true) (k5 : PySem.W.keepIn K (.ref f5) = true)
    (a6 : PySem.W.nsIn K mainGlobals "is_label" = some (some (.ref f6))) (l6 : K.lookup f6 = some ⟨oc6, od6, .func (PySem.W.fnOf "is_label" "is_label" (defArgs s_is_label) (defBody s_is_label) (defScope s_is_label) .none kV6 dc6 pm6 an6 (.ref cc6) ct6), sl6⟩) (c6 : PySem.W.codeIn K (.ref cc6) "is_label" = true) (k6 : PySem.W.keepIn K (.ref f6) = true)
    (a7 : PySem.W.nsIn K mainGlobals "is_parts" = some (some (.ref f7))) (l7 : K.lookup f7 = some ⟨oc7, od7, .func (PySem.W.fnOf "is_parts" "is_parts" (defArgs s_is_parts) (defBody s_is_parts) (defScope s_is_parts) .none kV7 dc7 pm7 an7 (.ref cc7) ct7), sl7⟩) (c7 : PySem.W.codeIn K (.ref cc7) "is_parts" = true) (k7 : PySem.W.keepIn K (.ref f7) = true)
    (a8 : PySem.W.findIn K (.ref C0) "seal" = some (some (.ref f8))) (i8 : PySem.W.isFn K (.ref f8) = true) (l8 : K.lookup f8 = some ⟨oc8, od8, .func (PySem.W.fnOf "seal" "Notary.seal" (defArgs s_Notary__seal) (defBody s_Notary__seal) (defScope s_Notary__seal) .none kV8 dc8 pm8 an8 (.ref cc8) ct8), sl8⟩) (c8 : PySem.W.codeIn K (.ref cc8) "Notary.seal" = true) (k8 : PySem.W.keepIn K (.ref f8) = true)
    (a9 : PySem.W.nsIn K mainGlobals "_law_load" = some (some (.ref f9))) (l9 : K.lookup f9 = some ⟨oc9, od9, .func (PySem.W.fnOf "_law_load" "_law_load" (defArgs s__law_load) (defBody s__law_load) (defScope s__law_load) .none kV9 dc9 pm9 an9 (.ref cc9) ct9), sl9⟩) (c9 : PySem.W.codeIn K (.ref cc9) "_law_load" = true) (k9 : PySem.W.keepIn K (.ref f9) = true)
    (a10 : PySem.W.nsIn K mainGlobals "_law_draw" = some (some (.ref f10))) (l10 : K.lookup f10 = some ⟨oc10, od10, .func (PySem.W.fnOf "_law_draw" "_law_draw" (defArgs s__law_draw) (defBody s__law_draw) (defScope s__law_draw) .none kV10 dc10 pm10 an10 (.ref cc10) ct10), sl10⟩) (c10 : PySem.W.codeIn K (.ref cc10) "_law_draw" = true) (k10 : PySem.W.keepIn K (.ref f10) = true)
    (a11 : PySem.W.nsIn K mainGlobals "_law_odd" = some (some (.ref f11))) (l11 : K.lookup f11 = some ⟨oc11, od11, .func (PySem.W.fnOf "_law_odd" "_law_odd" (defArgs s__law_odd) (defBody s__law_odd) (defScope s__law_odd) .none kV11 dc11 pm11 an11 (.ref cc11) ct11), sl11⟩) (c11 : PySem.W.codeIn K (.ref cc11) "_law_odd" = true) (k11 : PySem.W.keepIn K (.ref f11) = true)
    (a12 : PySem.W.findIn K (.ref C0) "size" = some (some (.ref f12))) (i12 : PySem.W.isFn K (.ref f12) = true) (l12 : K.lookup f12 = some ⟨oc12, od12, .func (PySem.W.fnOf "size" "Notary.size" (defArgs s_Notary__size) (defBody s_Notary__size) (defScope s_Notary__size) .none kV12 dc12 pm12 an12 (.ref cc12) ct12), sl12⟩) (c12 : PySem.W.codeIn K (.ref cc12) "Notary.size" = true) (k12 : PySem.W.keepIn K (.ref f12) = true)
    (a13 : PySem.W.nsIn K mainGlobals "leaf_count" = some (some (.ref f13))) (l13 : K.lookup f13 = some ⟨oc13, od13, .func (PySem.W.fnOf "leaf_count" "leaf_count" (defArgs s_leaf_count) (defBody s_leaf_count) (defScope s_leaf_count) .none kV13 dc13 pm13 an13 (.ref cc13) ct13), sl13⟩) (c13 : PySem.W.codeIn K (.ref cc13) "leaf_count" = true) (k13 : PySem.W.keepIn K (.ref f13) = true)
    (a14 : PySem.W.nsIn K mainGlobals "is_row" = some (some (.ref f14))) (l14 : K.lookup f14 = some ⟨oc14, od14, .func (PySem.W.fnOf "is_row" "is_row" (defArgs s_is_row) (defBody s_is_row) (defScope s_is_row) .none kV14 dc14 pm14 an14 (.ref cc14) ct14), sl14⟩) (c14 : PySem.W.codeIn K (.ref cc14) "is_row" = true) (k14 : PySem.W.keepIn K (.ref f14) = true)
    (a15 : PySem.W.nsIn K mainGlobals "rows_above" = some (some (.ref f15))) (l15 : K.lookup f15 = some ⟨oc15, od15, .func (PySem.W.fnOf "rows_above" "rows_above" (defArgs s_rows_above) (defBody s_rows_above) (defScope s_rows_above) .none kV15 dc15 pm15 an15 (.ref cc15) ct15), sl15⟩) (c15 : PySem.W.codeIn K (.ref cc15) "rows_above" = true) (k15 : PySem.W.keepIn K (.ref f15) = true)
    (a16 : PySem.W.nsIn K mainGlobals "history_of" = some (some (.ref f16))) (l16 : K.lookup f16 = some ⟨oc16, od16, .func (PySem.W.fnOf "history_of" "history_of" (defArgs s_history_of) (defBody s_history_of) (defScope s_history_of) .none kV16 dc16 pm16 an16 (.ref cc16) ct16), sl16⟩) (c16 : PySem.W.codeIn K (.ref cc16) "history_of" = true) (k16 : PySem.W.keepIn K (.ref f16) = true)
    (a17 : PySem.W.nsIn K mainGlobals "_law_history" = some (some (.ref f17))) (l17 : K.lookup f17 = some ⟨oc17, od17, .func (PySem.W.fnOf "_law_history" "_law_history" (defArgs s__law_history) (defBody s__law_history) (defScope s__law_history) .none kV17 dc17 pm17 an17 (.ref cc17) ct17), sl17⟩) (c17 : PySem.W.codeIn K (.ref cc17) "_law_history" = true) (k17 : PySem.W.keepIn K (.ref f17) = true)
    (a18 : PySem.W.findIn K (.ref C0) "find" = some (some (.ref f18))) (i18 : PySem.W.isFn K (.ref f18) = true) (l18 : K.lookup f18 = some ⟨oc18, od18, .func (PySem.W.fnOf "find" "Notary.find" (defArgs s_Notary__find) (defBody s_Notary__find) (defScope s_Notary__find) .none kV18 dc18 pm18 an18 (.ref cc18) ct18), sl18⟩) (c18 : PySem.W.codeIn K (.ref cc18) "Notary.find" = true) (k18 : PySem.W.keepIn K (.ref f18) = true)
    (a19 : PySem.W.nsIn K mainGlobals "_law_is_opening" = some (some (.ref f19))) (l19 : K.lookup f19 = some ⟨oc19, od19, .func (PySem.W.fnOf "_law_is_opening" "_law_is_opening" (defArgs s__law_is_opening) (defBody s__law_is_opening) (defScope s__law_is_opening) .none kV19 dc19 pm19 an19 (.ref cc19) ct19), sl19⟩) (c19 : PySem.W.codeIn K (.ref cc19) "_law_is_opening" = true) (k19 : PySem.W.keepIn K (.ref f19) = true)
    (a20 : PySem.W.nsIn K mainGlobals "_law_parts" = some (some (.ref f20))) (l20 : K.lookup f20 = some ⟨oc20, od20, .func (PySem.W.fnOf "_law_parts" "_law_parts" (defArgs s__law_parts) (defBody s__law_parts) (defScope s__law_parts) .none kV20 dc20 pm20 an20 (.ref cc20) ct20), sl20⟩) (c20 : PySem.W.codeIn K (.ref cc20) "_law_parts" = true) (k20 : PySem.W.keepIn K (.ref f20) = true)
    (a21 : PySem.W.nsIn K mainGlobals "_law_changed" = some (some (.ref f21))) (l21 : K.lookup f21 = some ⟨oc21, od21, .func (PySem.W.fnOf "_law_changed" "_law_changed" (defArgs s__law_changed) (defBody s__law_changed) (defScope s__law_changed) .none kV21 dc21 pm21 an21 (.ref cc21) ct21), sl21⟩) (c21 : PySem.W.codeIn K (.ref cc21) "_law_changed" = true) (k21 : PySem.W.keepIn K (.ref f21) = true)
    (a22 : PySem.W.nsIn K mainGlobals "is_opening" = some (some (.ref f22))) (l22 : K.lookup f22 = some ⟨oc22, od22, .func (PySem.W.fnOf "is_opening" "is_opening" (defArgs s_is_opening) (defBody s_is_opening) (defScope s_is_opening) .none kV22 dc22 pm22 an22 (.ref cc22) ct22), sl22⟩) (c22 : PySem.W.codeIn K (.ref cc22) "is_opening" = true) (k22 : PySem.W.keepIn K (.ref f22) = true)
    (a23 : PySem.W.nsIn K mainGlobals "opening" = some (some (.ref f23))) (l23 : K.lookup f23 = some ⟨oc23, od23, .func (PySem.W.fnOf "opening" "opening" (defArgs s_opening) (defBody s_opening) (defScope s_opening) .none kV23 dc23 pm23 an23 (.ref cc23) ct23), sl23⟩) (c23 : PySem.W.codeIn K (.ref cc23) "opening" = true) (k23 : PySem.W.keepIn K (.ref f23) = true)
    (a24 : PySem.W.nsIn K mainGlobals "last_of" = some (some (.ref f24))) (l24 : K.lookup f24 = some ⟨oc24, od24, .func (PySem.W.fnOf "last_of" "last_of" (defArgs s_last_of) (defBody s_last_of) (defScope s_last_of) .none kV24 dc24 pm24 an24 (.ref cc24) ct24), sl24⟩) (c24 : PySem.W.codeIn K (.ref cc24) "last_of" = true) (k24 : PySem.W.keepIn K (.ref f24) = true)
    (a25 : PySem.W.nsIn K mainGlobals "half_spans" = some (some (.ref f25))) (l25 : K.lookup f25 = some ⟨oc25, od25, .func (PySem.W.fnOf "half_spans" "half_spans" (defArgs s_half_spans) (defBody s_half_spans) (defScope s_half_spans) .none kV25 dc25 pm25 an25 (.ref cc25) ct25), sl25⟩) (c25 : PySem.W.codeIn K (.ref cc25) "half_spans" = true) (k25 : PySem.W.keepIn K (.ref f25) = true)
    (a26 : PySem.W.nsIn K mainGlobals "halves_of" = some (some (.ref f26))) (l26 : K.lookup f26 = some ⟨oc26, od26, .func (PySem.W.fnOf "halves_of" "halves_of" (defArgs s_halves_of) (defBody s_halves_of) (defScope s_halves_of) .none kV26 dc26 pm26 an26 (.ref cc26) ct26), sl26⟩) (c26 : PySem.W.codeIn K (.ref cc26) "halves_of" = true) (k26 : PySem.W.keepIn K (.ref f26) = true)
    (a27 : PySem.W.nsIn K mainGlobals "_law_cut" = some (some (.ref f27))) (l27 : K.lookup f27 = some ⟨oc27, od27, .func (PySem.W.fnOf "_law_cut" "_law_cut" (defArgs s__law_cut) (defBody s__law_cut) (defScope s__law_cut) .none kV27 dc27 pm27 an27 (.ref cc27) ct27), sl27⟩) (c27 : PySem.W.codeIn K (.ref cc27) "_law_cut" = true) (k27 : PySem.W.keepIn K (.ref f27) = true)
    (a28 : PySem.W.nsIn K mainGlobals "_law_same" = some (some (.ref f28))) (l28 : K.lookup f28 = some ⟨oc28, od28, .func (PySem.W.fnOf "_law_same" "_law_same" (defArgs s__law_same) (defBody s__law_same) (defScope s__law_same) .none kV28 dc28 pm28 an28 (.ref cc28) ct28), sl28⟩) (c28 : PySem.W.codeIn K (.ref cc28) "_law_same" = true) (k28 : PySem.W.keepIn K (.ref f28) = true)
    (a29 : PySem.W.nsIn K mainGlobals "histories_in" = some (some (.ref f29))) (l29 : K.lookup f29 = some ⟨oc29, od29, .func (PySem.W.fnOf "histories_in" "histories_in" (defArgs s_histories_in) (defBody s_histories_in) (defScope s_histories_in) .none kV29 dc29 pm29 an29 (.ref cc29) ct29), sl29⟩) (c29 : PySem.W.codeIn K (.ref cc29) "histories_in" = true) (k29 : PySem.W.keepIn K (.ref f29) = true)
    (a30 : PySem.W.nsIn K mainGlobals "fits" = some (some (.ref f30))) (l30 : K.lookup f30 = some ⟨oc30, od30, .func (PySem.W.fnOf "fits" "fits" (defArgs s_fits) (defBody s_fits) (defScope s_fits) .none kV30 dc30 pm30 an30 (.ref cc30) ct30), sl30⟩) (c30 : PySem.W.codeIn K (.ref cc30) "fits" = true) (k30 : PySem.W.keepIn K (.ref f30) = true)
    (a31 : PySem.W.nsIn K mainGlobals "wide_parts" = some (some (.ref f31))) (l31 : K.lookup f31 = some ⟨oc31, od31, .func (PySem.W.fnOf "wide_parts" "wide_parts" (defArgs s_wide_parts) (defBody s_wide_parts) (defScope s_wide_parts) .none kV31 dc31 pm31 an31 (.ref cc31) ct31), sl31⟩) (c31 : PySem.W.codeIn K (.ref cc31) "wide_parts" = true) (k31 : PySem.W.keepIn K (.ref f31) = true)
    (a32 : PySem.W.nsIn K mainGlobals "cut_in_two" = some (some (.ref f32))) (l32 : K.lookup f32 = some ⟨oc32, od32, .func (PySem.W.fnOf "cut_in_two" "cut_in_two" (defArgs s_cut_in_two) (defBody s_cut_in_two) (defScope s_cut_in_two) .none kV32 dc32 pm32 an32 (.ref cc32) ct32), sl32⟩) (c32 : PySem.W.codeIn K (.ref cc32) "cut_in_two" = true) (k32 : PySem.W.keepIn K (.ref f32) = true)
    (a33 : PySem.W.nsIn K mainGlobals "wide_cut" = some (some (.ref f33))) (l33 : K.lookup f33 = some ⟨oc33, od33, .func (PySem.W.fnOf "wide_cut" "wide_cut" (defArgs s_wide_cut) (defBody s_wide_cut) (defScope s_wide_cut) .none kV33 dc33 pm33 an33 (.ref cc33) ct33), sl33⟩) (c33 : PySem.W.codeIn K (.ref cc33) "wide_cut" = true) (k33 : PySem.W.keepIn K (.ref f33) = true)
    (a34 : PySem.W.nsIn K mainGlobals "wide_opening" = some (some (.ref f34))) (l34 : K.lookup f34 = some ⟨oc34, od34, .func (PySem.W.fnOf "wide_opening" "wide_opening" (defArgs s_wide_opening) (defBody s_wide_opening) (defScope s_wide_opening) .none kV34 dc34 pm34 an34 (.ref cc34) ct34), sl34⟩) (c34 : PySem.W.codeIn K (.ref cc34) "wide_opening" = true) (k34 : PySem.W.keepIn K (.ref f34) = true)
    (a35 : PySem.W.nsIn K mainGlobals "law" = some (some (.ref f35))) (l35 : K.lookup f35 = some ⟨oc35, od35, .func (PySem.W.fnOf "law" "law" (defArgs s_law) (defBody s_law) (defScope s_law) .none kV35 dc35 pm35 an35 (.ref cc35) ct35), sl35⟩) (c35 : PySem.W.codeIn K (.ref cc35) "law" = true) (k35 : PySem.W.keepIn K (.ref f35) = true)
    (aC0 : PySem.W.nsIn K mainGlobals "Notary" = some (some (.ref C0))) (pg0 : PySem.W.plainGet K C0 Str.empty = true) (hd0 : PySem.W.hasDictIn K C0 = true) (po0 : PySem.W.plainOver K C0 = true) (sa0 : PySem.W.findIn K (.ref C0) "__setattr__" = some (some (.builtin "object.__setattr__"))) (mk0 : PySem.W.makesIn K C0 = true) (kc0 : PySem.W.keepIn K (.ref C0) = true)
    (n_Notary_asked : PySem.W.findIn K (.ref C0) "asked" = some none)
    (n_Notary_numbers : PySem.W.findIn K (.ref C0) "numbers" = some none)
    (n_Notary_tuples : PySem.W.findIn K (.ref C0) "tuples" = some none)
    (z_all : PySem.W.nsIn K mainGlobals "all" = some none)
    (z_bool : PySem.W.nsIn K mainGlobals "bool" = some none)
    (z_dict : PySem.W.nsIn K mainGlobals "dict" = some none)
    (z_int : PySem.W.nsIn K mainGlobals "int" = some none)
    (z_isinstance : PySem.W.nsIn K mainGlobals "isinstance" = some none)
    (z_len : PySem.W.nsIn K mainGlobals "len" = some none)
    (z_list : PySem.W.nsIn K mainGlobals "list" = some none)
    (z_max : PySem.W.nsIn K mainGlobals "max" = some none)
    (z_min : PySem.W.nsIn K mainGlobals "min" = some none)
    (z_range : PySem.W.nsIn K mainGlobals "range" = some none)
    (z_str : PySem.W.nsIn K mainGlobals "str" = some none)
    (z_tuple : PySem.W.nsIn K mainGlobals "tuple" = some none)
    {tk_MAX_DEPTH : Tok} (y_MAX_DEPTH : PySem.W.nsIn K mainGlobals "MAX_DEPTH" = some (some (.int 4 tk_MAX_DEPTH)))
    {tk_MAX_LEVEL : Tok} (y_MAX_LEVEL : PySem.W.nsIn K mainGlobals "MAX_LEVEL" = some (some (.int 10 tk_MAX_LEVEL)))
    {tk_MAX_PART : Tok} (y_MAX_PART : PySem.W.nsIn K mainGlobals "MAX_PART" = some (some (.int 281474976710656 tk_MAX_PART)))
    {tk_MAX_TEXT : Tok} (y_MAX_TEXT : PySem.W.nsIn K mainGlobals "MAX_TEXT" = some (some (.int 24 tk_MAX_TEXT)))
    {tk_MOST_PARTS : Tok} (y_MOST_PARTS : PySem.W.nsIn K mainGlobals "MOST_PARTS" = some (some (.int 16 tk_MOST_PARTS)))
    {q : Program} {dr6 : DefRec} (t6 : PySem.W.tabIn K "is_label" = some (cc6, pp6)) (n6 : K.lookup pp6 = none) (r6 : (PyProof.Rows.recsOf q).find? (fun e => e.name == ("is_label" : Str)) = some dr6) {dr7 : DefRec} (t7 : PySem.W.tabIn K "is_parts" = some (cc7, pp7)) (n7 : K.lookup pp7 = none) (r7 : (PyProof.Rows.recsOf q).find? (fun e => e.name == ("is_parts" : Str)) = some dr7) {dr14 : DefRec} (t14 : PySem.W.tabIn K "is_row" = some (cc14, pp14)) (n14 : K.lookup pp14 = none) (r14 : (PyProof.Rows.recsOf q).find? (fun e => e.name == ("is_row" : Str)) = some dr14) {dr22 : DefRec} (t22 : PySem.W.tabIn K "is_opening" = some (cc22, pp22)) (n22 : K.lookup pp22 = none) (r22 : (PyProof.Rows.recsOf q).find? (fun e => e.name == ("is_opening" : Str)) = some dr22) {dr30 : DefRec} (t30 : PySem.W.tabIn K "fits" = some (cc30, pp30)) (n30 : K.lookup pp30 = none) (r30 : (PyProof.Rows.recsOf q).find? (fun e => e.name == ("fits" : Str)) = some dr30) {dr31 : DefRec} (t31 : PySem.W.tabIn K "wide_parts" = some (cc31, pp31)) (n31 : K.lookup pp31 = none) (r31 : (PyProof.Rows.recsOf q).find? (fun e => e.name == ("wide_parts" : Str)) = some dr31)
    : ∃ cs : List (Addr × Addr), (∀ p ∈ cs, (∃ x dr, (PyProof.Rows.recsOf q).find? (fun e => e.name == x) = some dr ∧ PySem.W.tabIn K x = some p) ∧ K.lookup p.2 = none) ∧ ∃ fd : FuncData, (∀ (s : Shared) (v : Value), BindsTo s fd ⟨[v], []⟩ [("script", v)]) ∧ ∀ base : Heap, K.In base → base.Ns mainGlobals mg → (∀ p ∈ cs, GxR.TabB base mg p.1 p.2) → FnOk l.prog w K mg base CX0 24 fa fd ["script"] (@spLaw (tbOf cs) K) := by
  refine ⟨[(cc6, pp6), (cc7, pp7), (cc14, pp14), (cc22, pp22), (cc30, pp30), (cc31, pp31)], fun p hp => ?_, ?_⟩
  · simp only [List.mem_cons, List.not_mem_nil, or_false] at hp
    rcases hp with rfl | rfl | rfl | rfl | rfl | rfl
    · exact ⟨⟨_, _, r6, t6⟩, n6⟩
    · exact ⟨⟨_, _, r7, t7⟩, n7⟩
    · exact ⟨⟨_, _, r14, t14⟩, n14⟩
    · exact ⟨⟨_, _, r22, t22⟩, n22⟩
    · exact ⟨⟨_, _, r30, t30⟩, n30⟩
    · exact ⟨⟨_, _, r31, t31⟩, n31⟩
  exact all_mk good X G hfa a0 l0 c0 k0 a1 i1 l1 c1 k1 a2 i2 l2 c2 k2 a3 l3 c3 k3 a4 l4 c4 k4 a5 l5 c5 k5 a6 l6 c6 k6 a7 l7 c7 k7 a8 i8 l8 c8 k8 a9 l9 c9 k9 a10 l10 c10 k10 a11 l11 c11 k11 a12 i12 l12 c12 k12 a13 l13 c13 k13 a14 l14 c14 k14 a15 l15 c15 k15 a16 l16 c16 k16 a17 l17 c17 k17 a18 i18 l18 c18 k18 a19 l19 c19 k19 a20 l20 c20 k20 a21 l21 c21 k21 a22 l22 c22 k22 a23 l23 c23 k23 a24 l24 c24 k24 a25 l25 c25 k25 a26 l26 c26 k26 a27 l27 c27 k27 a28 l28 c28 k28 a29 l29 c29 k29 a30 l30 c30 k30 a31 l31 c31 k31 a32 l32 c32 k32 a33 l33 c33 k33 a34 l34 c34 k34 a35 l35 c35 k35 aC0 pg0 hd0 po0 sa0 mk0 kc0 n_Notary_asked n_Notary_numbers n_Notary_tuples z_all z_bool z_dict z_int z_isinstance z_len z_list z_max z_min z_range z_str z_tuple y_MAX_DEPTH y_MAX_LEVEL y_MAX_PART y_MAX_TEXT y_MOST_PARTS
theorem walk {l : PySem.W.OpenLaw} {q : Program} {loose : List Str} {XP : (Str → Option Value) → Heap → Prop} {YP : World → Heap → Prop} {d : DefRec} {K : Params → PySem.W.Frag} (hn : l.most = some 63) (hdf : d.params.defaults = [])
    (hY : ∀ (w : World) (h : Heap), YP w h → (K w.params).In h)
    (F : ∀ (w : World) (mg : Str → Option Value) (fa : Addr) (h : Heap), (K w.params).In h → h.Ns mainGlobals mg → mg d.name = some (.ref fa) →
      ∃ cs : List (Addr × Addr), (∀ p ∈ cs, (∃ x dr, (PyProof.Rows.recsOf q).find? (fun e => e.name == x) = some dr ∧ PySem.W.tabIn (K w.params) x = some p) ∧ (K w.params).lookup p.2 = none) ∧ ∃ fd : FuncData, (∀ (s : Shared) (u : Value), BindsTo s fd ⟨[u], []⟩ [("script", u)]) ∧ ∀ base : Heap, (K w.params).In base → base.Ns mainGlobals mg → (∀ p ∈ cs, GxR.TabB base mg p.1 p.2) → FnOk l.prog w (K w.params) mg base CX0 24 fa fd ["script"] (@spLaw (tbOf cs) (K w.params))) :
    PySem.W.WalkO q loose XP YP l.row.toRowW d [] (fun f vs => PySem.call f vs) :=
  walk_tab hn hdf ⟨rfl, by decide, by decide⟩ hY F
end G_k29
end

section
namespace G_k29
open PySem PySem.Spec L2 Dn
local instance : Tb := noTb
/-! ## openings -/
inductive Op where
  | st (x : Int)
  | jn (a b c : Int)
def rg (x : Int) : Bool := decide (1 ≤ x) && decide (x ≤ 281474976710656)
def Op.key : Op → Ps
  | .st x => [.inr "step", .inl x]
  | .jn a b c => [.inr "join", .inl a, .inl b, .inl c]
def od (o : Op) : D := tupD o.key
def Op.ok : Op → Bool
  | .st x => rg x
  | .jn a b c => rg a && (rg b && rg c)
def Op.last : Op → Int
  | .st x => x
  | .jn _ _ c => c
def Op.isJ : Op → Bool
  | .st _ => false
  | .jn _ _ _ => true
def Op.kids : Op → List Int
  | .st _ => []
  | .jn a b _ => [a, b]
theorem od_st (x : Int) : od (.st x) = .tuple [.str "step", .int x] := rfl
theorem od_jn (a b c : Int) : od (.jn a b c) = .tuple [.str "join", .int a, .int b, .int c] := rfl
def isS (s : Str) : D → Bool
  | .str z => z == s
  | _ => false
theorem eqv_str (x : D) (s : Str) : PyData.eqv x (.str s) = isS s x := by cases x <;> simp [PyData.eqv, isS]
theorem opEq_strR {x : D} (h : x.plain = true) (hd : x.depth ≤ 60) (s : Str) : opEq x (.str s) = some (.bool (isS s x)) := by
  unfold opEq
  rw [if_pos (by simp [cmpOk, h, hd, PyData.plain]), eqv_str]
def numB (x : D) : Bool := match x with
  | .int i => rg i
  | _ => false
def opB : D → Bool
  | .tuple (x :: xs) => (isS "step" x && decide (xs.length = 1) || isS "join" x && decide (xs.length = 3)) && xs.all numB
  | _ => false
theorem isS_eq {s : Str} {x : D} (h : isS s x = true) : x = .str s := by
  cases x <;> simp [isS] at h
  rw [h]
theorem numB_eq {x : D} (h : numB x = true) : ∃ i, x = .int i ∧ rg i = true := by
  cases x <;> simp [numB] at h
  exact ⟨_, rfl, h⟩
theorem opB_od : ∀ (o : Op), o.ok = true → opB (od o) = true
  | .st x, h => by
    simp [od_st, opB, isS, numB, show rg x = true from h]
  | .jn a b c, h => by
    unfold Op.ok at h
    rw [Bool.and_eq_true, Bool.and_eq_true] at h
    simp [od_jn, opB, isS, numB, h.1, h.2.1, h.2.2]
theorem opB_ex {d : D} (h : opB d = true) : ∃ o : Op, o.ok = true ∧ d = od o := by
  unfold opB at h
  split at h
  · rename_i x xs
    rw [Bool.and_eq_true, Bool.or_eq_true, Bool.and_eq_true, Bool.and_eq_true, decide_eq_true_eq, decide_eq_true_eq, List.all_eq_true] at h
    obtain ⟨⟨h1, h2⟩ | ⟨h1, h2⟩, h3⟩ := h
    · match xs, h2 with
      | [y], _ =>
        obtain ⟨i, rfl, hi⟩ := numB_eq (h3 y (by simp))
        exact ⟨.st i, hi, by rw [isS_eq h1]; rfl⟩
    · match xs, h2 with
      | [y, z, w], _ =>
        obtain ⟨i, rfl, hi⟩ := numB_eq (h3 y (by simp))
        obtain ⟨j, rfl, hj⟩ := numB_eq (h3 z (by simp))
        obtain ⟨k, rfl, hk⟩ := numB_eq (h3 w (by simp))
        exact ⟨.jn i j k, by simp [Op.ok, hi, hj, hk], by rw [isS_eq h1]; rfl⟩
  · cases h
theorem od_inj : ∀ {o o' : Op}, od o = od o' → o = o'
  | .st _, .st _, h => by simp only [od_st, PyData.tuple.injEq, List.cons.injEq, PyData.int.injEq, and_true, true_and] at h; rw [h]
  | .jn _ _ _, .jn _ _ _, h => by
    simp only [od_jn, PyData.tuple.injEq, List.cons.injEq, PyData.int.injEq, and_true, true_and] at h
    rw [h.1, h.2.1, h.2.2]
  | .st _, .jn _ _ _, h => by simp [od_st, od_jn] at h
  | .jn _ _ _, .st _, h => by simp [od_st, od_jn] at h
theorem lab_step : labB "step" = true := by decide
theorem lab_join : labB "join" = true := by decide
theorem lab_x : labB "x" = true := by decide
theorem lab_behind : labB "behind" = true := by decide
theorem rg_okK {x : Int} (h : rg x = true) : okK (.inl x) = true := by
  unfold rg at h; rw [Bool.and_eq_true, decide_eq_true_eq, decide_eq_true_eq] at h
  show (decide ((0 : Int) ≤ x) && decide (x ≤ 281474976710656)) = true
  rw [decide_eq_true (by omega), decide_eq_true h.2]; rfl
theorem key_ok : ∀ {o : Op}, o.ok = true → okP o.key = true
  | .st x, h => by simp [okP, Op.key, show okK (.inr "step") = true from lab_step, rg_okK (show rg x = true from h)]
  | .jn a b c, h => by
    unfold Op.ok at h
    rw [Bool.and_eq_true, Bool.and_eq_true] at h
    simp [okP, Op.key, show okK (.inr "join") = true from lab_join, rg_okK h.1, rg_okK h.2.1, rg_okK h.2.2]
/-! values -/
def Bv (d : D) : Prop := d.plain = true ∧ d.depth ≤ 40
theorem Bv.mem {xs : List D} (h : Bv (.tuple xs)) {x : D} (hx : x ∈ xs) : Bv x := by
  obtain ⟨h1, h2⟩ := h
  refine ⟨plainAll_mem (by simpa [PyData.plain] using h1) hx, ?_⟩
  have : ∀ {xs : List D}, x ∈ xs → x.depth ≤ PyData.depthAll xs := fun {xs} h => by
    induction xs with
    | nil => cases h
    | cons y ys ih =>
      rw [PyData.depthAll]
      rcases List.mem_cons.mp h with rfl | h
      · omega
      · have := ih h; omega
  have := this hx
  rw [PyData.depth] at h2; omega
theorem Bv.nob {d : D} (h : Bv d) : notOb d = true := by
  obtain ⟨h, _⟩ := h
  cases d <;> first | rfl | (simp [PyData.plain] at h)
theorem isi_Bv {d : D} (h : Bv d) (T : String) : opIsi T d = some (.bool (isi T d)) := by
  unfold opIsi; rw [if_pos h.nob]
theorem slD_from1 (x : D) (xs : List D) : slD (x :: xs) (some 1) none = xs := by
  simp [slD, HT.sIx]
  try rw [Nat.min_eq_left (by omega)]
theorem isT_tuple {d : D} (h : ∀ xs, d ≠ .tuple xs) : isi "tuple" d = false := by
  cases d <;> first | rfl | exact absurd rfl (h _)
theorem number_any {d : D} (h : Bv d) {ω : Wd} : d_is_number [d, .int 1, .int 281474976710656] ω = some (.bool (numB d), ω) := by
  cases d with
  | int i => exact number_int
  | bool b => simp [d_is_number, defD, b_is_number, opIsi, notOb, isi, numB]
  | none => simp [d_is_number, defD, b_is_number, opIsi, notOb, isi, numB]
  | str s => simp [d_is_number, defD, b_is_number, opIsi, notOb, isi, numB]
  | list s => simp [d_is_number, defD, b_is_number, opIsi, notOb, isi, numB]
  | tuple s => simp [d_is_number, defD, b_is_number, opIsi, notOb, isi, numB]
  | dict s => exact absurd h.1 (by simp [PyData.plain])
theorem x_and {f g : DT} {ρ : Ro} {ω : Wd} {b c : Bool} (h1 : f ρ ω = some (b, ω)) (h2 : g ρ ω = some (c, ω)) : tAndD f g ρ ω = some (b && c, ω) := by
  rw [tAndD_ap, h1]; cases b <;> simp [h2]
theorem x_or {f g : DT} {ρ : Ro} {ω : Wd} {b c : Bool} (h1 : f ρ ω = some (b, ω)) (h2 : g ρ ω = some (c, ω)) : tOrD f g ρ ω = some (b || c, ω) := by
  rw [tOrD_ap, h1]; cases b <;> simp [h2]
theorem x_orT {f g : DT} {ρ : Ro} {ω : Wd} (h1 : f ρ ω = some (true, ω)) : tOrD f g ρ ω = some (true, ω) := by
  rw [tOrD_ap, h1]; simp
theorem x_notD {f : DT} {ρ : Ro} {ω : Wd} {b : Bool} (h1 : f ρ ω = some (b, ω)) : tNotD f ρ ω = some (!b, ω) := by
  rw [tNotD_ap, h1]
theorem isOpening_ok {d : D} (h : Bv d) {ω : Wd} : d_is_opening [d] ω = some (.bool (opB d), ω) := by
  have hi := isi_Bv h
  by_cases ht : ∃ xs, d = .tuple xs
  · obtain ⟨xs, rfl⟩ := ht
    cases xs with
    | nil => simp [d_is_opening, defD, b_is_opening, opB]
    | cons x xs =>
      have hx : Bv x := h.mem (by simp)
      have e1 := opEq_strR hx.1 (show x.depth ≤ 60 from Nat.le_trans hx.2 (by decide)) "step"
      have e2 := opEq_strR hx.1 (show x.depth ≤ 60 from Nat.le_trans hx.2 (by decide)) "join"
      have l1 : ∀ n : Nat, decide (((xs.length : Int) + 1) = (n : Int) + 1) = decide (xs.length = n) := fun n => by
        rw [decide_eq_decide]; omega
      have l2 := l1 1
      have l4 := l1 3
      refine defD_of (ρ := [.val (.tuple (x :: xs)), .un]) ?_
      refine x_seq (x_ifF ?_ rfl) ?_
      · simp
        try omega
      · have hc : ∀ ω, (tNotD (tOrD (tAndD (tOfE (eBin opEq (eBin opIx (eVar 0) (eC (.int 0))) (eC (.str "step")))) (tOfE (eBin opEq (eCall opLen (aCons (eVar 0) aNil)) (eC (.int 2))))) (tAndD (tOfE (eBin opEq (eBin opIx (eVar 0) (eC (.int 0))) (eC (.str "join")))) (tOfE (eBin opEq (eCall opLen (aCons (eVar 0) aNil)) (eC (.int 4))))))) [.val (.tuple (x :: xs)), .un] ω = some (!(isS "step" x && decide (xs.length = 1) || isS "join" x && decide (xs.length = 3)), ω) := fun ω => by
          refine x_notD (x_or (x_and (x_tE ?_) (x_tE ?_)) (x_and (x_tE ?_) (x_tE ?_)))
          · simp [e1]
          · simp; omega
          · simp [e2]
          · simp; omega
        cases hb : (isS "step" x && decide (xs.length = 1) || isS "join" x && decide (xs.length = 3)) with
        | false =>
          refine x_seq' (x_ifT (by rw [hc, hb]; rfl) (x_ret (d := .bool (opB (.tuple (x :: xs)))) ?_))
          · simp [opB, hb]
        | true =>
          refine x_seq (x_ifF (by rw [hc, hb]; rfl) rfl) (x_ret (x_gen (ds := xs) ?_ ?_))
          · simp [opSl, slD_from1]
          · rw [allD_of numB]
            · simp only [opB, hb, Bool.true_and]
            · intro a ha
              exact ⟨_, rfl, rfl, by simp [wipeR, number_any (h.mem (List.mem_cons_of_mem _ ha))]⟩
  · have ht' : isi "tuple" d = false := isT_tuple fun xs e => ht ⟨xs, e⟩
    have hb : opB d = false := by
      cases d <;> first | rfl | exact absurd ⟨_, rfl⟩ ht
    simp [d_is_opening, defD, b_is_opening, hi, ht', hb]
end G_k29
end

section
namespace G_k29
open PySem PySem.Spec L2 Dn
local instance : Tb := noTb
theorem eqv_strL (x : D) (s : Str) : PyData.eqv (.str s) x = isS s x := by
  cases x with
  | str z =>
    show (s == z) = (z == s)
    rw [Bool.eq_iff_iff, beq_iff_eq, beq_iff_eq]
    exact eq_comm
  | _ => rfl
theorem eqv_tup (xs ys : List D) : PyData.eqv (.tuple xs) (.tuple ys) = PyData.eqvAll xs ys := rfl
theorem eqvAll_cons (x y : D) (xs ys : List D) : PyData.eqvAll (x :: xs) (y :: ys) = (PyData.eqv x y && PyData.eqvAll xs ys) := rfl
theorem eqvAll_nil : PyData.eqvAll [] [] = true := rfl
theorem eqv_ints (a b : Int) : PyData.eqv (.int a) (.int b) = (a == b) := rfl
theorem pow48 : opPow (.int 2) (.int 48) = some (.int 281474976710656) := by simp [opPow]
theorem lawNum {x : D} (h : Bv x) {ρ : Ro} {ω : Wd} (hv : ρ[1]? = some (.val x)) : (eAnd (eUn (opIsi "int") (eVar 1)) (eAnd (eNot (eUn (opIsi "bool") (eVar 1))) (eChain opLe opLe (eC (.int 1)) (eVar 1) (eBin opPow (eC (.int 2)) (eC (.int 48)))))) ρ ω = some (.bool (numB x), ω) := by
  have e := isi_Bv h
  cases x with
  | int i =>
    simp [hv, pow48, numB, rg]
    by_cases h1 : 1 ≤ i <;> simp [h1]
  | bool b => simp [hv, numB]
  | none => simp [hv, numB]
  | str s => simp [hv, numB]
  | list s => simp [hv, numB]
  | tuple s => simp [hv, numB]
  | dict s => exact absurd h.1 (by simp [PyData.plain])
theorem lawIsOpening_ok {d : D} (h : Bv d) {ω : Wd} : d__law_is_opening [d] ω = some (.bool (opB d), ω) := by
  have hi := isi_Bv h
  by_cases ht : ∃ xs, d = .tuple xs
  · obtain ⟨xs, rfl⟩ := ht
    cases xs with
    | nil => simp [d__law_is_opening, defD, b__law_is_opening, opB]
    | cons x xs =>
      have hx : Bv x := h.mem (by simp)
      have hp := hx.1
      have hd := hx.2
      have ei : opNotInD (.tuple [x, .int ((xs.length : Int) + 1)]) (.list [.tuple [.str "step", .int 2], .tuple [.str "join", .int 4]]) = some (.bool (!(isS "step" x && decide (xs.length = 1) || isS "join" x && decide (xs.length = 3)))) := by
        show opNotIn _ _ = _
        unfold opNotIn
        rw [if_pos (by simp [inOk, PyData.plain, PyData.plainAll, hp, PyData.depth, PyData.depthAll]; omega)]
        simp only [inRes, List.any_cons, List.any_nil, eqv_tup, eqvAll_cons, eqvAll_nil, eqv_ints, eqv_strL, Bool.and_true, Bool.or_false]
        have q1 : ((2 : Int) == (xs.length : Int) + 1) = decide (xs.length = 1) := by rw [Bool.eq_iff_iff]; simp; omega
        have q2 : ((4 : Int) == (xs.length : Int) + 1) = decide (xs.length = 3) := by rw [Bool.eq_iff_iff]; simp; omega
        rw [q1, q2]
      have hc : ∀ ω, (tOrD (tNotD (tOfE (eUn (opIsi "tuple") (eVar 0)))) (tOrD (tOfE (eBin opEq (eCall opLen (aCons (eVar 0) aNil)) (eC (.int 0)))) (tOfE (eBin opNotInD (eTup (aCons (eBin opIx (eVar 0) (eC (.int 0))) (aCons (eCall opLen (aCons (eVar 0) aNil)) aNil))) (eLst (aCons (eTup (aCons (eC (.str "step")) (aCons (eC (.int 2)) aNil))) (aCons (eTup (aCons (eC (.str "join")) (aCons (eC (.int 4)) aNil))) aNil))))))) [.val (.tuple (x :: xs)), .un] ω = some (!(isS "step" x && decide (xs.length = 1) || isS "join" x && decide (xs.length = 3)), ω) := fun ω => by
        refine (x_or (b := false) (by simp) (x_or (b := false) ?_ (x_tE ?_))).trans rfl
        · simp; omega
        · simp [ei]
          cases isS "step" x <;> cases isS "join" x <;> cases decide (xs.length = 1) <;> cases decide (xs.length = 3) <;> rfl
      refine defD_of (ρ := [.val (.tuple (x :: xs)), .un]) ?_
      cases hb : (isS "step" x && decide (xs.length = 1) || isS "join" x && decide (xs.length = 3)) with
      | false =>
        refine x_seq' (x_ifT (by rw [hc, hb]; rfl) (x_ret (d := .bool (opB (.tuple (x :: xs)))) ?_))
        simp [opB, hb]
      | true =>
        refine x_seq (x_ifF (by rw [hc, hb]; rfl) rfl) (x_ret (x_call (x_one (x_ofN (xs := (xs.map numB).map .bool) (x_lc (ds := xs) ?_ ?_))) ?_))
        · simp [opSl, slD_from1]
        · have := lcD_map (fg := gSet 1) (ft := tYesD) (ρ := wipeR [SV.val (.tuple (x :: xs)), .un] [1]) (ω := ω) (fe := (eAnd (eUn (opIsi "int") (eVar 1)) (eAnd (eNot (eUn (opIsi "bool") (eVar 1))) (eChain opLe opLe (eC (.int 1)) (eVar 1) (eBin opPow (eC (.int 2)) (eC (.int 48))))))) id (fun x => .bool (numB x)) xs fun a ha => ⟨_, rfl, rfl, lawNum (h.mem (List.mem_cons_of_mem _ ha)) rfl⟩
          rw [List.map_id] at this
          rw [this, List.map_map]; rfl
        · rw [opAll_lst]
          simp only [opB, hb, Bool.true_and, List.all_map]
          rfl
  · have ht' : isi "tuple" d = false := isT_tuple fun xs e => ht ⟨xs, e⟩
    have hb : opB d = false := by
      cases d <;> first | rfl | exact absurd ⟨_, rfl⟩ ht
    simp [d__law_is_opening, defD, b__law_is_opening, hi, ht', hb]
/-! the number of leaves -/
theorem leaf_ok {h : Nat} (hh : h ≤ 10) {ω : Wd} : d_leaf_count [.int h] ω = some (.int ((2 ^ h : Nat) : Int), ω) := by
  obtain ⟨x, e⟩ := loop_sh (g := gSet 2) (f := l_leaf_count_1) (ω := ω) natD (fun (pre : List Nat) (x : SV) => [.val (.int h), .val (.int ((2 ^ pre.length : Nat) : Int)), x]) (List.range h) .un fun pre a suf x hl => by
    refine ⟨_, rfl, _, x_set1 (d := .int ((2 ^ (pre ++ [a]).length : Nat) : Int)) ?_⟩
    simp [opMul, mulOk_l, Int.pow_succ]
    omega
  refine defD_of (ρ := [.val (.int h), .un, .un]) ?_
  refine x_set (d := .int 1) rfl (x_for (x_rng (n := h) rfl (by omega)) e (x_ret ?_))
  simp
end G_k29
end

section
namespace G_k29
open PySem PySem.Spec L2 Dn
local instance : Tb := noTb
/-! ## rules with a store that changes -/
theorem anyD_w {α : Type} {t : Wd → Prop} {fg : DG} {ft : DT} {fe : DE} {ρ : Ro} (e : α → D) (p : α → Bool) : ∀ (l : List α), (∀ a ∈ l, ∃ ρ1, fg (e a) ρ = some ρ1 ∧ (∀ ω, ft ρ1 ω = some (true, ω)) ∧ ∀ ω, t ω → ∃ ω', fe ρ1 ω = some (.bool (p a), ω') ∧ t ω') → ∀ ω, t ω → ∃ ω', anyD false fg ft fe ρ (l.map e) ω = some (.bool (l.all p), ω') ∧ t ω'
  | [], _, ω, h => ⟨ω, rfl, h⟩
  | a :: l, hs, ω, h => by
    obtain ⟨ρ1, e1, e2, e3⟩ := hs a (List.mem_cons_self ..)
    obtain ⟨ω1, e4, h1⟩ := e3 ω h
    rw [List.map_cons]; unfold anyD; rw [e1]
    simp only [e2, if_true, e4, List.all_cons]
    cases hp : p a with
    | false => exact ⟨ω1, rfl, h1⟩
    | true =>
      obtain ⟨ω2, e5, h2⟩ := anyD_w e p l (fun b hb => hs b (List.mem_cons_of_mem _ hb)) ω1 h1
      exact ⟨ω2, by simp [e5], h2⟩
theorem lcD_w {α : Type} {t : Wd → Prop} {fg : DG} {ft : DT} {fe : DE} {ρ : Ro} (e : α → D) (g : α → D) : ∀ (l : List α), (∀ a ∈ l, ∃ ρ1, fg (e a) ρ = some ρ1 ∧ (∀ ω, ft ρ1 ω = some (true, ω)) ∧ ∀ ω, t ω → ∃ ω', fe ρ1 ω = some (g a, ω') ∧ t ω') → ∀ ω, t ω → ∃ ω', lcD fg ft fe ρ (l.map e) ω = some (l.map g, ω') ∧ t ω'
  | [], _, ω, h => ⟨ω, rfl, h⟩
  | a :: l, hs, ω, h => by
    obtain ⟨ρ1, e1, e2, e3⟩ := hs a (List.mem_cons_self ..)
    obtain ⟨ω1, e4, h1⟩ := e3 ω h
    obtain ⟨ω2, e5, h2⟩ := lcD_w e g l (fun b hb => hs b (List.mem_cons_of_mem _ hb)) ω1 h1
    refine ⟨ω2, ?_, h2⟩
    rw [List.map_cons]; unfold lcD; rw [e1]
    simp only [e2, if_true, e4, e5, List.map_cons]
theorem ifT_of {c : DT} {f g : DS} {ρ : Ro} {ω ω' : Wd} {r : Option (Out × Wd)} (e : c ρ ω = some (true, ω')) (k : f ρ ω' = r) : sIf c f g ρ ω = r := by rw [sIf_ap, e]; exact k
theorem ifF_of {c : DT} {f g : DS} {ρ : Ro} {ω ω' : Wd} {r : Option (Out × Wd)} (e : c ρ ω = some (false, ω')) (k : g ρ ω' = r) : sIf c f g ρ ω = r := by rw [sIf_ap, e]; exact k
theorem not_of {c : DE} {ρ : Ro} {ω ω' : Wd} {b : Bool} (h : c ρ ω = some (.bool b, ω')) : tNotD (tOfE c) ρ ω = some (!b, ω') := by rw [tNotD_ap, tOfE_ap, h]
/-- a loop by its shape, that may return early -/
theorem loop_shRP {α β : Type} {g : DG} {f : DS} {ω : Wd} {d : D} (e : α → D) (p : α → Bool) (sh : List α → β → Ro) {l0 : List α} : ∀ (l pre : List α) (x : β), l0 = pre ++ l → (∀ (pre : List α) (a : α) (suf : List α) (x : β), l0 = pre ++ a :: suf → ∃ ρ1, g (e a) (sh pre x) = some ρ1 ∧ ((p a = true ∧ ∃ x', f ρ1 ω = some (.nx (sh (pre ++ [a]) x'), ω)) ∨ (p a = false ∧ f ρ1 ω = some (.rt d, ω)))) → (l.all p = true ∧ ∃ x', loopD g f (l.map e) (sh pre x) ω = some (.nx (sh l0 x'), ω)) ∨ (l.all p = false ∧ loopD g f (l.map e) (sh pre x) ω = some (.rt d, ω))
  | [], pre, x, h, _ => .inl ⟨rfl, x, by rw [List.append_nil] at h; subst h; rfl⟩
  | a :: l, pre, x, h, hs => by
    obtain ⟨ρ1, e1, ⟨hp, x1, e2⟩ | ⟨hp, e2⟩⟩ := hs pre a l x h
    · rcases loop_shRP e p sh l (pre ++ [a]) x1 (by rw [List.append_assoc]; exact h) hs with ⟨q, x', e3⟩ | ⟨q, e3⟩
      · refine .inl ⟨by rw [List.all_cons, hp, q]; rfl, x', ?_⟩
        rw [List.map_cons]; unfold loopD; rw [e1]; simp only [e2, e3]
      · refine .inr ⟨by rw [List.all_cons, hp, q]; rfl, ?_⟩
        rw [List.map_cons]; unfold loopD; rw [e1]; simp only [e2, e3]
    · refine .inr ⟨by rw [List.all_cons, hp]; rfl, ?_⟩
      rw [List.map_cons]; unfold loopD; rw [e1]; simp only [e2]
theorem loop_shR {α β : Type} {g : DG} {f : DS} {ω : Wd} {d : D} (e : α → D) (p : α → Bool) (sh : List α → β → Ro) (l : List α) (x : β) (h : ∀ (pre : List α) (a : α) (suf : List α) (x : β), l = pre ++ a :: suf → ∃ ρ1, g (e a) (sh pre x) = some ρ1 ∧ ((p a = true ∧ ∃ x', f ρ1 ω = some (.nx (sh (pre ++ [a]) x'), ω)) ∨ (p a = false ∧ f ρ1 ω = some (.rt d, ω)))) : (l.all p = true ∧ ∃ x', loopD g f (l.map e) (sh [] x) ω = some (.nx (sh l x'), ω)) ∨ (l.all p = false ∧ loopD g f (l.map e) (sh [] x) ω = some (.rt d, ω)) :=
  loop_shRP e p sh l [] x rfl h
theorem range_split {m a : Nat} {pre suf : List Nat} (h : List.range m = pre ++ a :: suf) : a = pre.length ∧ a < m := by
  have hl : pre.length < (List.range m).length := by rw [h]; simp
  have := List.getElem_range (n := m) (j := pre.length) hl
  have e : (List.range m)[pre.length] = a := by simp [h]
  rw [List.length_range] at hl
  exact ⟨by rw [← e]; simp, by rw [← e]; simpa using hl⟩
/-! ## which openings are right -/
def fitAt (os : List Op) (k : Nat) : Bool := match os[k]?, os[2 * k + 2]? with
  | some (.jn _ _ c), some o => decide (c = o.last)
  | _, _ => false
def dueL (h : Int) (os : List Op) (m : Nat) : List Int := h :: (os.take m).flatMap Op.kids
def accP (ts : List Ps) (h : Int) (os : List Op) (m : Nat) : Bool := (List.range m).all (fitAt os) && decide (os.map (fun o => findI ts o.key) = dueL h os m)
def lastO (os : List Op) (k : Nat) : Int := (os[k]?.map Op.last).getD 0
def outD (h : Int) (os : List Op) (m : Nat) : D := .tuple ((List.range (m + 1)).map fun k => .tuple [.int ((dueL h os m).getD (m + k) 0), .int (lastO os (m + k))])
theorem fit_isJ {os : List Op} {k : Nat} (h : fitAt os k = true) : ∃ a b c o, os[k]? = some (.jn a b c) ∧ os[2 * k + 2]? = some o ∧ c = o.last := by
  unfold fitAt at h
  split at h
  · rename_i a b c o e1 e2
    exact ⟨a, b, c, o, e1, e2, of_decide_eq_true h⟩
  · cases h
theorem kids_len {os : List Op} : ∀ {m : Nat}, (∀ k < m, ∃ a b c, os[k]? = some (.jn a b c)) → ((os.take m).flatMap Op.kids).length = 2 * m
  | 0, _ => by simp
  | m + 1, h => by
    obtain ⟨a, b, c, e⟩ := h m (by omega)
    rw [List.take_add_one, e, List.flatMap_append, List.length_append, kids_len fun k hk => h k (by omega)]
    simp [Op.kids]; omega
theorem due_succ {h : Int} {os : List Op} {m : Nat} {a b c : Int} (e : os[m]? = some (.jn a b c)) : dueL h os (m + 1) = dueL h os m ++ [a, b] := by
  unfold dueL
  rw [List.take_add_one, e, List.flatMap_append]
  simp [Op.kids]
theorem due_len {h : Int} {os : List Op} {m : Nat} (hj : ∀ k < m, ∃ a b c, os[k]? = some (.jn a b c)) : (dueL h os m).length = 2 * m + 1 := by
  unfold dueL
  rw [List.length_cons, kids_len hj]
theorem opIx_od (os : List Op) (k : Nat) : opIx (.tuple (os.map od)) (.int (k : Int)) = os[k]?.map od := by simp
theorem od_last (o : Op) : opIx (od o) (.int (-1)) = some (.int o.last) := by cases o <;> rfl
theorem od_tag (o : Op) : opIx (od o) (.int 0) = some (.str (if o.isJ then "join" else "step")) := by cases o <;> rfl
theorem str_js : ((Str.ofString "step" == Str.ofString "join") = false) := by decide
theorem tag_join (o : Op) : opEq (.str (if o.isJ then "join" else "step")) (.str "join") = some (.bool o.isJ) := by
  rw [opEq_str]
  cases o with
  | st x => simp [Op.isJ, str_js]
  | jn a b c => simp [Op.isJ]
theorem div2 (n : Int) : opDiv (.int n) (.int 2) = some (.int (n / 2)) := by
  have : Nat.log2 2 < 9000 := by decide
  simp [opDiv, this]
/-- the joins among openings have the last elements of their right parts -/
theorem fits_ok {V : D} {os : List Op} {m : Nat} (hl : os.length = 2 * m + 1) (hm : m ≤ 100) (hi : ∀ k : Nat, opIx V (.int (k : Int)) = os[k]?.map od) (hL : opLen [V] = some (.int os.length)) (hj : ∀ k < m, ∃ a b c, os[k]? = some (.jn a b c)) {ω : Wd} : d_fits [V] ω = some (.bool ((List.range m).all (fitAt os)), ω) := by
  refine defD_of (ρ := [.val V, .un]) (x_ret (x_gen (ds := (List.range m).map natD) (x_rng (n := m) ?_ (by omega)) ?_))
  · have : ((os.length : Int) / 2) = (m : Int) := by omega
    simp [hL, div2, this]
  · have q : ((List.range m).all (fitAt os)) = ((List.range m).map natD).all (fun d => match d with | .int i => fitAt os i.toNat | _ => false) := by
      rw [List.all_map]; rfl
    rw [q]
    refine allD_of _ _ fun d hd => ?_
    obtain ⟨k, hk, rfl⟩ := List.mem_map.mp hd
    have hk := List.mem_range.mp hk
    obtain ⟨a, b, c, e⟩ := hj k hk
    have hlt : 2 * k + 2 < os.length := by omega
    refine ⟨_, rfl, rfl, ?_⟩
    have e1 := hi k
    have e2 := hi (2 * k + 2)
    rw [show ((2 * k + 2 : Nat) : Int) = 2 * (k : Int) + 2 from by omega] at e2
    rw [e] at e1
    rw [List.getElem?_eq_getElem hlt] at e2
    have em : opMul (.int 2) (.int (k : Int)) = some (.int (2 * (k : Int))) := by simp [opMul, mulOk_l]
    have ef : fitAt os k = decide (c = (os[2 * k + 2]).last) := by
      unfold fitAt; rw [e, List.getElem?_eq_getElem hlt]
    simp [wipeR, natD, e1, em, e2, od_last, od_jn, ef]
theorem histories_ok {os : List Op} {m : Nat} {h : Int} (hl : os.length = 2 * m + 1) (hm : m ≤ 100) (hj : ∀ k < m, ∃ a b c, os[k]? = some (.jn a b c)) {ω : Wd} : d_histories_in [.int h, .tuple (os.map od)] ω = some (.list ((dueL h os m).map .int), ω) := by
  obtain ⟨x, e⟩ := loop_sh (g := gSet 3) (f := l_histories_in_1) (ω := ω) natD (fun (pre : List Nat) (x : SV) => [.val (.int h), .val (.tuple (os.map od)), .own ((dueL h os pre.length).map .int), x]) (List.range m) .un fun pre k suf x hl' => by
    obtain ⟨hk, hkm⟩ := range_split hl'
    obtain ⟨a, b, c, e⟩ := hj k hkm
    have hd : dueL h os (pre ++ [k]).length = dueL h os pre.length ++ [a, b] := by
      rw [List.length_append, List.length_singleton]; exact due_succ (by rw [← hk]; exact e)
    refine ⟨_, rfl, .val (natD k), ?_⟩
    rw [hd, List.map_append]
    refine x_ext1 (ds := [.int a, .int b]) (xs := (dueL h os pre.length).map .int) ?_ rfl ?_
    · simp [natD, e, od_jn]
    · have := due_len (h := h) (m := pre.length) (fun j hjk => hj j (by omega))
      simp; omega
  refine defD_of (ρ := [.val (.int h), .val (.tuple (os.map od)), .un, .un]) (x_own (ds := [.int h]) rfl (x_for (x_rng (n := m) ?_ (by omega)) e (x_ret ?_)))
  · have : ((os.length : Int) / 2) = (m : Int) := by omega
    simp [div2, this]
  · simp
end G_k29
end

section
namespace G_k29
open PySem PySem.Spec L2 Dn
local instance : Tb := noTb
theorem slD_to (xs : List D) (n : Nat) : slD xs none (some (n : Int)) = xs.take n := by
  simp only [slD, HT.sIx, List.drop_zero, Nat.sub_zero]
  rw [if_neg (by omega), Int.toNat_natCast]
  by_cases h : n ≤ xs.length
  · rw [Nat.min_eq_left h]
  · rw [Nat.min_eq_right (by omega), List.take_of_length_le (Nat.le_refl _), List.take_of_length_le (by omega)]
theorem slD_13 (x y z : D) (xs : List D) : slD (x :: y :: z :: xs) (some 1) (some 3) = [y, z] := by
  simp only [slD, HT.sIx, List.length_cons]
  rw [if_neg (by omega), if_neg (by omega), show (1 : Int).toNat = 1 from rfl, show (3 : Int).toNat = 3 from rfl, Nat.min_eq_left (by omega), Nat.min_eq_left (by omega)]
  rfl
theorem oss_of : ∀ {vs : List D}, (∀ x ∈ vs, opB x = true) → ∃ os : List Op, vs = os.map od ∧ ∀ o ∈ os, o.ok = true
  | [], _ => ⟨[], rfl, by simp⟩
  | x :: vs, h => by
    obtain ⟨o, h1, rfl⟩ := opB_ex (h x (List.mem_cons_self ..))
    obtain ⟨os, rfl, h2⟩ := oss_of fun y hy => h y (List.mem_cons_of_mem _ hy)
    exact ⟨o :: os, rfl, fun q hq => by
      rcases List.mem_cons.mp hq with rfl | hq
      · exact h1
      · exact h2 q hq⟩
def ValO (v : D) (m : Nat) : Prop := ∃ os : List Op, v = .tuple (os.map od) ∧ (∀ o ∈ os, o.ok = true) ∧ os.length = 2 * m + 1
theorem od_Bv : ∀ (o : Op), Bv (od o)
  | .st x => ⟨rfl, by simp [od_st, PyData.depth, PyData.depthAll]⟩
  | .jn a b c => ⟨rfl, by simp [od_jn, PyData.depth, PyData.depthAll]⟩
theorem okv {o : Op} (h : o.ok = true) : opB (od o) = true := opB_od o h
theorem pw4 {dep m : Nat} (hd : dep ≤ 4) (hm : 2 ^ dep = m + 1) : m ≤ 15 := by
  have : dep = 0 ∨ dep = 1 ∨ dep = 2 ∨ dep = 3 ∨ dep = 4 := by omega
  rcases this with rfl | rfl | rfl | rfl | rfl <;> omega
theorem leafC {dep m : Nat} (hd : dep ≤ 4) (hm : 2 ^ dep = m + 1) {ω : Wd} : d_leaf_count [.int dep] ω = some (.int ((m : Int) + 1), ω) := by
  rw [leaf_ok (by omega), hm]; rfl
theorem lawC {dep m : Nat} (hd : dep ≤ 4) (hm : 2 ^ dep = m + 1) {ρ : Ro} {ω : Wd} (hv : ρ[2]? = some (.val (.int dep))) : (eBin opDiv (eBin opMul (eBin opMul (eBin opMul (eC (.int 2)) (eC (.int 2))) (eC (.int 2))) (eC (.int 2))) (eBin opIx (eLst (aCons (eC (.int 16)) (aCons (eC (.int 8)) (aCons (eC (.int 4)) (aCons (eC (.int 2)) (aCons (eC (.int 1)) aNil)))))) (eVar 2))) ρ ω = some (.int ((m : Int) + 1), ω) := by
  have q1 : Nat.log2 16 < 9000 := by decide
  have q2 : Nat.log2 8 < 9000 := by decide
  have q3 : Nat.log2 4 < 9000 := by decide
  have q4 : Nat.log2 2 < 9000 := by decide
  have q5 : Nat.log2 1 < 9000 := by decide
  have : dep = 0 ∨ dep = 1 ∨ dep = 2 ∨ dep = 3 ∨ dep = 4 := by omega
  rcases this with rfl | rfl | rfl | rfl | rfl
  · obtain rfl : m = 0 := by omega
    simp [hv, opMul, mulOk_l, opDiv, q1]
  · obtain rfl : m = 1 := by omega
    simp [hv, opMul, mulOk_l, opDiv, q2]
  · obtain rfl : m = 3 := by omega
    simp [hv, opMul, mulOk_l, opDiv, q3]
  · obtain rfl : m = 7 := by omega
    simp [hv, opMul, mulOk_l, opDiv, q4]
  · obtain rfl : m = 15 := by omega
    simp [hv, opMul, mulOk_l, opDiv, q5]
theorem mul2 (n : Int) : opMul (.int 2) (.int n) = some (.int (2 * n)) := by simp [opMul, mulOk_l]
section
variable {v : D} {dep m : Nat} {h : Int} {N : D}
/-- the test on the form, in both -/
theorem form_T {xs : List SV} {ω : Wd} (hv : Bv v) (hn : ¬ ∃ vs, v = .tuple vs ∧ vs.length = 2 * m + 1) : (tOrD (tNotD (tOfE (eUn (opIsi "tuple") (eVar 3)))) (tOfE (eBin opNe (eCall opLen (aCons (eVar 3) aNil)) (eBin opSub (eBin opMul (eC (.int 2)) (eVar 4)) (eC (.int 1)))))) (.val N :: .val (.int h) :: .val (.int dep) :: .val v :: .val (.int ((m : Int) + 1)) :: xs) ω = some (true, ω) := by
  by_cases ht : ∃ vs, v = .tuple vs
  · obtain ⟨vs, rfl⟩ := ht
    have hl : vs.length ≠ 2 * m + 1 := fun e => hn ⟨vs, rfl, e⟩
    refine (x_or (b := false) (c := true) (by simp) (x_tE ?_)).trans rfl
    simp [mul2]; omega
  · exact x_orT (by simp [isi_Bv hv, isT_tuple fun vs e => ht ⟨vs, e⟩])
theorem form_F {xs : List SV} {ω : Wd} {vs : List D} (hl : vs.length = 2 * m + 1) : (tOrD (tNotD (tOfE (eUn (opIsi "tuple") (eVar 3)))) (tOfE (eBin opNe (eCall opLen (aCons (eVar 3) aNil)) (eBin opSub (eBin opMul (eC (.int 2)) (eVar 4)) (eC (.int 1)))))) (.val N :: .val (.int h) :: .val (.int dep) :: .val (.tuple vs) :: .val (.int ((m : Int) + 1)) :: xs) ω = some (false, ω) := by
  refine (x_or (b := false) (c := false) (by simp) (x_tE ?_)).trans rfl
  simp [mul2]; omega
theorem gen_op {xs : List SV} {ω : Wd} {vs : List D} (hb : ∀ x ∈ vs, Bv x) : eGenN false (iSq (eVar 3)) (gSet 6) tYesD (eFunP d_is_opening (aCons (eVar 6) aNil)) [6] [.val N, .val (.int h), .val (.int dep), .val (.tuple vs), .val (.int ((m : Int) + 1)), .un, .un, .un] ω = some (.bool (vs.all opB), ω) := by
  refine x_gen (ds := vs) rfl ?_
  exact allD_of opB vs fun x hx => ⟨_, rfl, rfl, by simp [wipeR, isOpening_ok (hb x hx)]⟩
theorem wide_no (hd : dep ≤ 4) (hm : 2 ^ dep = m + 1) (hv : Bv v) (hn : ¬ ValO v m) {ω : Wd} : d_wide_parts [N, .int h, .int dep, v] ω = some (.none, ω) := by
  refine defD_of (ρ := [.val N, .val (.int h), .val (.int dep), .val v, .un, .un, .un, .un]) (x_set (d := .int ((m : Int) + 1)) (x_fnP (x_one (x := .int dep) rfl) (leafC hd hm)) ?_)
  by_cases hf : ∃ vs, v = .tuple vs ∧ vs.length = 2 * m + 1
  · obtain ⟨vs, rfl, hl⟩ := hf
    refine x_seq (x_ifF (form_F hl) rfl) ?_
    have hb : vs.all opB = false := by
      rw [Bool.eq_false_iff]
      intro hb
      obtain ⟨os, rfl, ho⟩ := oss_of (List.all_eq_true.mp hb)
      exact hn ⟨os, rfl, ho, by simpa using hl⟩
    exact x_seq' (x_ifT ((x_not (gen_op (xs := []) (fun x hx => hv.mem hx))).trans (by rw [hb]; rfl)) (x_ret rfl))
  · exact x_seq' (x_ifT (form_T hv hf) (x_ret rfl))
theorem lawAll {xs : List SV} {ω : Wd} {vs : List D} (hb : ∀ x ∈ vs, Bv x) : (eCall opAll (aCons (eOfN (eLcN (iSq (eVar 3)) (gSet 7) tYesD (eFunP d__law_is_opening (aCons (eVar 7) aNil)) [7])) aNil)) [.val N, .val (.int h), .val (.int dep), .val (.tuple vs), .val (.int ((m : Int) + 1)), .un, .un, .un] ω = some (.bool (vs.all opB), ω) := by
  refine x_call (x_one (x_ofN (xs := (vs.map opB).map .bool) (x_lc (ds := vs) rfl ?_))) (by rw [opAll_lst, List.all_map]; rfl)
  have := lcD_map (fg := gSet 7) (ft := tYesD) (ρ := wipeR [.val N, .val (.int h), .val (.int dep), .val (.tuple vs), .val (.int ((m : Int) + 1)), .un, .un, .un] [7]) (ω := ω) (fe := (eFunP d__law_is_opening (aCons (eVar 7) aNil))) id (fun x => .bool (opB x)) vs fun a ha => ⟨_, rfl, rfl, by simp [wipeR, lawIsOpening_ok (hb a ha)]⟩
  rw [List.map_id] at this
  rw [this, List.map_map]; rfl
theorem lawForm {c : DT} {xs : List SV} {ω : Wd} {b : Bool} {vs : List D} (hl : vs.length = 2 * m + 1) (hc : c (.val N :: .val (.int h) :: .val (.int dep) :: .val (.tuple vs) :: .val (.int ((m : Int) + 1)) :: xs) ω = some (b, ω)) : (tOrD (tNotD (tOfE (eUn (opIsi "tuple") (eVar 3)))) (tOrD (tOfE (eBin opNe (eCall opLen (aCons (eVar 3) aNil)) (eBin opSub (eBin opMul (eC (.int 2)) (eVar 4)) (eC (.int 1))))) c)) (.val N :: .val (.int h) :: .val (.int dep) :: .val (.tuple vs) :: .val (.int ((m : Int) + 1)) :: xs) ω = some (b, ω) := by
  refine (x_or (b := false) (by simp) (x_or (b := false) ?_ hc)).trans (by simp)
  simp [mul2]; omega
theorem lawForm_T {c : DT} {xs : List SV} {ω : Wd} (hv : Bv v) (hn : ¬ ∃ vs, v = .tuple vs ∧ vs.length = 2 * m + 1) : (tOrD (tNotD (tOfE (eUn (opIsi "tuple") (eVar 3)))) (tOrD (tOfE (eBin opNe (eCall opLen (aCons (eVar 3) aNil)) (eBin opSub (eBin opMul (eC (.int 2)) (eVar 4)) (eC (.int 1))))) c)) (.val N :: .val (.int h) :: .val (.int dep) :: .val v :: .val (.int ((m : Int) + 1)) :: xs) ω = some (true, ω) := by
  by_cases ht : ∃ vs, v = .tuple vs
  · obtain ⟨vs, rfl⟩ := ht
    have hl : vs.length ≠ 2 * m + 1 := fun e => hn ⟨vs, rfl, e⟩
    rw [tOrD_ap, show tNotD (tOfE (eUn (opIsi "tuple") (eVar 3))) (.val N :: .val (.int h) :: .val (.int dep) :: .val (.tuple vs) :: .val (.int ((m : Int) + 1)) :: xs) ω = some (false, ω) by simp]
    refine (x_orT (x_tE ?_))
    simp [mul2]; omega
  · exact x_orT (by simp [isi_Bv hv, isT_tuple fun vs e => ht ⟨vs, e⟩])
theorem law_no (hd : dep ≤ 4) (hm : 2 ^ dep = m + 1) (hv : Bv v) (hn : ¬ ValO v m) {ω : Wd} : d__law_parts [N, .int h, .int dep, v] ω = some (.none, ω) := by
  refine defD_of (ρ := [.val N, .val (.int h), .val (.int dep), .val v, .un, .un, .un, .un]) (x_set (d := .int ((m : Int) + 1)) (lawC hd hm rfl) ?_)
  by_cases hf : ∃ vs, v = .tuple vs ∧ vs.length = 2 * m + 1
  · obtain ⟨vs, rfl, hl⟩ := hf
    have hb : vs.all opB = false := by
      rw [Bool.eq_false_iff]
      intro hb
      obtain ⟨os, rfl, ho⟩ := oss_of (List.all_eq_true.mp hb)
      exact hn ⟨os, rfl, ho, by simpa using hl⟩
    exact x_seq' (x_ifT (lawForm hl (by rw [show true = !(vs.all opB) by rw [hb]; rfl]; exact x_not (lawAll (xs := []) (fun x hx => hv.mem hx)))) (x_ret rfl))
  · exact x_seq' (x_ifT (lawForm_T hv hf) (x_ret rfl))
end
end G_k29
end

section
namespace G_k29
open PySem PySem.Spec L2 Dn
local instance : Tb := noTb
variable {t : List D} {P : List WO → Prop} {ts : List Ps}
theorem ga_find (as : Int) : getD "find" (ntA as) = none := by
  simp [getD, show (Str.ofString "numbers" = Str.ofString "find") = False by decide, show (Str.ofString "tuples" = Str.ofString "find") = False by decide, show (Str.ofString "asked" = Str.ofString "find") = False by decide]
theorem ga_seal (as : Int) : getD "seal" (ntA as) = none := by
  simp [getD, show (Str.ofString "numbers" = Str.ofString "seal") = False by decide, show (Str.ofString "tuples" = Str.ofString "seal") = False by decide, show (Str.ofString "asked" = Str.ofString "seal") = False by decide]
theorem ga_parts (as : Int) : getD "parts_of" (ntA as) = none := by
  simp [getD, show (Str.ofString "numbers" = Str.ofString "parts_of") = False by decide, show (Str.ofString "tuples" = Str.ofString "parts_of") = False by decide, show (Str.ofString "asked" = Str.ofString "parts_of") = False by decide]
theorem ga_size (as : Int) : getD "size" (ntA as) = none := by
  simp [getD, show (Str.ofString "numbers" = Str.ofString "size") = False by decide, show (Str.ofString "tuples" = Str.ofString "size") = False by decide, show (Str.ofString "asked" = Str.ofString "size") = False by decide]
theorem m_find {ω : Wd} (h : NtW t P ts ω) {f : DE} {a : DA} {ρ : Ro} {p : Ps} (hf : f ρ ω = some (ob 2, ω)) (ha : a ρ ω = some ([tupD p], ω)) (hp : okP p = true) : ∃ ω', eMethD "Notary" "find" f d_Notary__find a ρ ω = some (.int (findI ts p), ω') ∧ NtW t P ts ω' := by
  obtain ⟨ω', e, h'⟩ := find_ok h hp
  exact ⟨ω', (meth_ap h hf ha ga_find).trans e, h'⟩
theorem m_seal {ω ω1 : Wd} (h : NtW t P ts ω) {ts1 : List Ps} (h1 : NtW t P ts1 ω1) {f : DE} {a : DA} {ρ : Ro} {p : Ps} (hf : f ρ ω = some (ob 2, ω)) (ha : a ρ ω = some ([tupD p], ω1)) (hp : okP p = true) (hz : ts1.length < 16777216) : ∃ ω', eMethD "Notary" "seal" f d_Notary__seal a ρ ω = some (.int (findI (putP ts1 p) p), ω') ∧ NtW t P (putP ts1 p) ω' := by
  obtain ⟨ω', e, h'⟩ := seal_ok h1 hp hz
  exact ⟨ω', (meth_ap h hf ha ga_seal).trans e, h'⟩
theorem m_parts {ω : Wd} (h : NtW t P ts ω) {f : DE} {a : DA} {ρ : Ro} {i : Int} (hf : f ρ ω = some (ob 2, ω)) (ha : a ρ ω = some ([.int i], ω)) : eMethD "Notary" "parts_of" f d_Notary__parts_of a ρ ω = some (prtD ts i, ω) :=
  (meth_ap h hf ha ga_parts).trans (partsOf_ok h i)
theorem m_size {ω : Wd} (h : NtW t P ts ω) {f : DE} {ρ : Ro} (hf : f ρ ω = some (ob 2, ω)) : eMethD "Notary" "size" f d_Notary__size aNil ρ ω = some (.int ts.length, ω) :=
  (meth_ap h hf rfl ga_size).trans (size_ok h)
theorem seqR_of {f h : DS} {ρ : Ro} {ω ω1 : Wd} {d : D} (e : f ρ ω = some (.rt d, ω1)) : sSeq f h ρ ω = some (.rt d, ω1) := by rw [sSeq_ap, e]
/-! ## wide_parts and the law's own, at openings -/
section
variable {dep m : Nat} {h : Int} {os : List Op}
theorem acc_fit (hf : (List.range m).all (fitAt os) = false) : accP ts h os m = false := by
  unfold accP; rw [hf]; rfl
theorem fit_joins (hf : (List.range m).all (fitAt os) = true) : ∀ k < m, ∃ a b c, os[k]? = some (.jn a b c) := fun k hk => by
  obtain ⟨a, b, c, o, e, _⟩ := fit_isJ (List.all_eq_true.mp hf k (List.mem_range.mpr hk))
  exact ⟨a, b, c, e⟩
theorem list_all_eq {l1 l2 : List Int} {n : Nat} (h1 : l1.length = n) (h2 : l2.length = n) : (List.range n).all (fun k => decide (l1.getD k 0 = l2.getD k 0)) = decide (l1 = l2) := by
  rw [Bool.eq_iff_iff, List.all_eq_true, decide_eq_true_eq]
  constructor
  · intro h
    refine List.ext_getElem (h1.trans h2.symm) fun k hk1 hk2 => ?_
    have := of_decide_eq_true (h k (List.mem_range.mpr (by omega)))
    simpa [List.getD, hk1, hk2] using this
  · rintro rfl k _; simp
theorem out_lc {ω : Wd} {ρ : Ro} {fe : DE} {i : Nat} (hl : os.length = 2 * m + 1) (hj : ∀ k < m, ∃ a b c, os[k]? = some (.jn a b c)) (he : ∀ k, k < 2 * m + 1 → fe (ρ.set i (.val (natD k))) ω = some (.tuple [.int ((dueL h os m).getD k 0), .int (lastO os k)], ω)) : lcD (gSet i) tYesD fe ρ ((List.range (m + 1)).map fun k => natD (m + k)) ω = some ((List.range (m + 1)).map fun k => .tuple [.int ((dueL h os m).getD (m + k) 0), .int (lastO os (m + k))], ω) :=
  lcD_map (fun k => natD (m + k)) (fun k => .tuple [.int ((dueL h os m).getD (m + k) 0), .int (lastO os (m + k))]) (List.range (m + 1)) fun k hk => ⟨_, rfl, rfl, he (m + k) (by have := List.mem_range.mp hk; omega)⟩
theorem wide_os (hd : dep ≤ 4) (hm : 2 ^ dep = m + 1) (hl : os.length = 2 * m + 1) (ho : ∀ o ∈ os, o.ok = true) {ω : Wd} (hω : NtW t P ts ω) : ∃ ω', d_wide_parts [ob 2, .int h, .int dep, .tuple (os.map od)] ω = some (if accP ts h os m = true then outD h os m else .none, ω') ∧ NtW t P ts ω' := by
  have h15 := pw4 hd hm
  have hall : (os.map od).all opB = true := List.all_eq_true.mpr fun x hx => by
    obtain ⟨o, h1, rfl⟩ := List.mem_map.mp hx
    exact okv (ho o h1)
  have hBv : ∀ x ∈ os.map od, Bv x := fun x hx => by
    obtain ⟨o, _, rfl⟩ := List.mem_map.mp hx
    exact od_Bv o
  have hV : ∀ k : Nat, opIx (.tuple (os.map od)) (.int (k : Int)) = os[k]?.map od := opIx_od os
  have hg : eGenN false (iSq (eSl opSl (eVar 3) oNone (oSome (eBin opSub (eVar 4) (eC (.int 1)))))) (gSet 6) tYesD (eBin opEq (eBin opIx (eVar 6) (eC (.int 0))) (eC (.str "join"))) [6] [.val (ob 2), .val (.int h), .val (.int dep), .val (.tuple (os.map od)), .val (.int ((m : Int) + 1)), .un, .un, .un] ω = some (.bool ((os.take m).all Op.isJ), ω) := by
    refine x_gen (ds := (os.take m).map od) ?_ ?_
    · simp [opSl, slD_to]
    · rw [allD_of (fun d => match opIx d (.int 0) with | some (.str s) => s == "join" | _ => false)]
      · rw [List.all_map]
        have e : ((fun d => match opIx d (.int 0) with | some (.str s) => s == "join" | _ => false) ∘ od : Op → Bool) = Op.isJ := funext fun o => by
          cases o with
          | st x => simp [od_st, Op.isJ, str_js]
          | jn a b c => simp [od_jn, Op.isJ]
        rw [e]
      · intro a ha
        obtain ⟨o, _, rfl⟩ := List.mem_map.mp ha
        refine ⟨_, rfl, rfl, ?_⟩
        have := od_tag o
        cases o with
        | st x => simp [wipeR, od_st, opEq_str]
        | jn a b c => simp [wipeR, od_jn, opEq_str]
  cases hJ : (os.take m).all Op.isJ with
  | false =>
    have hacc : accP ts h os m = false := by
      refine acc_fit ?_
      rw [Bool.eq_false_iff]
      intro hf
      rw [Bool.eq_false_iff] at hJ
      refine hJ (List.all_eq_true.mpr fun o hoo => ?_)
      obtain ⟨k, hk, e⟩ := List.getElem_of_mem hoo
      rw [List.length_take] at hk
      obtain ⟨a, b, c, e2⟩ := fit_joins hf k (by omega)
      rw [List.getElem_take] at e
      rw [List.getElem?_eq_getElem (by omega), Option.some_inj] at e2
      rw [← e, e2]; rfl
    rw [hacc]
    refine ⟨ω, ?_, hω⟩
    refine defD_of (ρ := [.val (ob 2), .val (.int h), .val (.int dep), .val (.tuple (os.map od)), .un, .un, .un, .un]) (x_set (d := .int ((m : Int) + 1)) (x_fnP (x_one (x := .int dep) rfl) (leafC hd hm)) ?_)
    refine x_seq (x_ifF (form_F (by simpa using hl)) rfl) (x_seq (x_ifF ((x_not (gen_op (xs := []) hBv)).trans (by rw [hall]; rfl)) rfl) ?_)
    exact x_seq' (x_ifT (x_orT ((x_not hg).trans (by rw [hJ]; rfl))) (x_ret rfl))
  | true =>
    have hj : ∀ k < m, ∃ a b c, os[k]? = some (.jn a b c) := fun k hk => by
      have hlt : k < os.length := by omega
      have : os[k].isJ = true := List.all_eq_true.mp hJ os[k] (List.mem_iff_getElem.mpr ⟨k, by rw [List.length_take]; omega, by rw [List.getElem_take]⟩)
      rw [List.getElem?_eq_getElem hlt]
      cases e : os[k] with
      | st x => rw [e] at this; cases this
      | jn a b c => exact ⟨a, b, c, rfl⟩
    have hfit : ∀ ω, d_fits [.tuple (os.map od)] ω = some (.bool ((List.range m).all (fitAt os)), ω) := fun ω => fits_ok hl (by omega) hV (by simp) hj
    cases hF : (List.range m).all (fitAt os) with
    | false =>
      rw [acc_fit hF]
      refine ⟨ω, ?_, hω⟩
      refine defD_of (ρ := [.val (ob 2), .val (.int h), .val (.int dep), .val (.tuple (os.map od)), .un, .un, .un, .un]) (x_set (d := .int ((m : Int) + 1)) (x_fnP (x_one (x := .int dep) rfl) (leafC hd hm)) ?_)
      refine x_seq (x_ifF (form_F (by simpa using hl)) rfl) (x_seq (x_ifF ((x_not (gen_op (xs := []) hBv)).trans (by rw [hall]; rfl)) rfl) ?_)
      exact x_seq' (x_ifT ((x_or ((x_not hg).trans (by rw [hJ])) (x_not (x_fnP (x_one (x := .tuple (os.map od)) rfl) (hfit _)))).trans (by rw [hF]; rfl)) (x_ret rfl))
    | true =>
      have hdl := due_len (h := h) hj
      have hfl : (os.map (fun o => findI ts o.key)).length = 2 * m + 1 := by rw [List.length_map, hl]
      have eacc : accP ts h os m = decide (os.map (fun o => findI ts o.key) = dueL h os m) := by unfold accP; rw [hF]; rfl
      have e6 : ∃ ω', eGenN false (iRange (aCons (eCall opLen (aCons (eVar 5) aNil)) aNil)) (gSet 7) tYesD (eBin opEq (eMethD "Notary" "find" (eVar 0) d_Notary__find (aCons (eBin opIx (eVar 3) (eVar 7)) aNil)) (eBin opIx (eVar 5) (eVar 7))) [7] [.val (ob 2), .val (.int h), .val (.int dep), .val (.tuple (os.map od)), .val (.int ((m : Int) + 1)), .val (.list ((dueL h os m).map .int)), .un, .un] ω = some (.bool (accP ts h os m), ω') ∧ NtW t P ts ω' := by
        obtain ⟨ω', e, h'⟩ := anyD_w (t := NtW t P ts) (fg := gSet 7) (ft := tYesD) (fe := (eBin opEq (eMethD "Notary" "find" (eVar 0) d_Notary__find (aCons (eBin opIx (eVar 3) (eVar 7)) aNil)) (eBin opIx (eVar 5) (eVar 7)))) (ρ := wipeR [.val (ob 2), .val (.int h), .val (.int dep), .val (.tuple (os.map od)), .val (.int ((m : Int) + 1)), .val (.list ((dueL h os m).map .int)), .un, .un] [7]) natD (fun k => decide ((os.map (fun o => findI ts o.key)).getD k 0 = (dueL h os m).getD k 0)) (List.range (2 * m + 1)) (fun k hk => by
          have hk := List.mem_range.mp hk
          refine ⟨_, rfl, fun _ => rfl, fun ω1 h1 => ?_⟩
          have hko : k < os.length := by omega
          have hkd : k < (dueL h os m).length := by omega
          obtain ⟨ω2, e2, h2⟩ := m_find h1 (f := eVar 0) (a := aCons (eBin opIx (eVar 3) (eVar 7)) aNil) (ρ := [.val (ob 2), .val (.int h), .val (.int dep), .val (.tuple (os.map od)), .val (.int ((m : Int) + 1)), .val (.list ((dueL h os m).map .int)), .un, .val (natD k)]) (p := os[k].key) rfl (by simp [hko]; rfl) (key_ok (ho _ (List.getElem_mem hko)))
          refine ⟨ω2, ?_, h2⟩
          show eBin _ _ _ [.val (ob 2), .val (.int h), .val (.int dep), .val (.tuple (os.map od)), .val (.int ((m : Int) + 1)), .val (.list ((dueL h os m).map .int)), .un, .val (natD k)] _ = _
          rw [eBin_ap, e2]
          simp [hkd, hko, List.getD]) ω hω
        refine ⟨ω', ?_, h'⟩
        rw [eGenN_ap, x_rng (n := 2 * m + 1) (by simp [hdl]) (by omega)]
        rw [eacc, ← list_all_eq hfl hdl]
        exact e
      obtain ⟨ω', e6, h'⟩ := e6
      refine ⟨ω', ?_, h'⟩
      refine defD_of (ρ := [.val (ob 2), .val (.int h), .val (.int dep), .val (.tuple (os.map od)), .un, .un, .un, .un]) (x_set (d := .int ((m : Int) + 1)) (x_fnP (x_one (x := .int dep) rfl) (leafC hd hm)) ?_)
      refine x_seq (x_ifF (form_F (by simpa using hl)) rfl) (x_seq (x_ifF ((x_not (gen_op (xs := []) hBv)).trans (by rw [hall]; rfl)) rfl) ?_)
      refine x_seq (x_ifF ((x_or ((x_not hg).trans (by rw [hJ])) (x_not (x_fnP (x_one (x := .tuple (os.map od)) rfl) (hfit _)))).trans (by rw [hF]; rfl)) rfl) ?_
      refine x_set (d := .list ((dueL h os m).map .int)) (x_fnP (x_cons (x := .int h) rfl (x_one (x := .tuple (os.map od)) rfl)) (histories_ok hl (by omega) hj)) ?_
      cases hA : accP ts h os m with
      | false =>
        exact seqR_of (ifT_of ((not_of e6).trans (by rw [hA]; rfl)) (x_ret rfl))
      | true =>
        refine seq_of (ifF_of ((not_of e6).trans (by rw [hA]; rfl)) rfl) (x_ret (x_call (x_one (x_ofN (x_lc (x_rng1 (a := m) (n := m + 1) ?_ ?_ (by omega)) (out_lc hl hj fun k hk => ?_)))) rfl))
        · simp
        · simp [hdl]; omega
        · have hko : k < os.length := by omega
          have hkd : k < (dueL h os m).length := by omega
          simp [wipeR, hkd, hko, List.getD, od_last, lastO]
end
end G_k29
end

section
namespace G_k29
open PySem PySem.Spec L2 Dn
local instance : Tb := noTb
variable {t : List D} {P : List WO → Prop} {ts : List Ps}
theorem opNe_str (a b : Str) : opNe (.str a) (.str b) = some (.bool (!(a == b))) := by
  simp [opNe, cmpOk, PyData.plain, PyData.depth, PyData.eqv]
theorem x_extA1 {i : Nat} {f : DE} {ρ : Ro} {ω : Wd} {ds xs : List D} (e : iSq f ρ ω = some (ds, ω)) (hx : ρ[i]? = some (.own xs)) (hz : xs.length + ds.length ≤ 16777216) : sExtA i f ρ ω = some (.nx (ρ.set i (.own (xs ++ ds))), ω) := by
  rw [sExtA_ap, e]; simp only [hx]; rw [if_pos (by rw [sizeLine_num]; exact hz)]
theorem eqvAll_ints : ∀ (l1 l2 : List Int), PyData.eqvAll (l1.map .int) (l2.map .int) = decide (l1 = l2)
  | [], [] => rfl
  | [], _ :: _ => rfl
  | _ :: _, [] => rfl
  | a :: l1, b :: l2 => by
    rw [List.map_cons, List.map_cons, eqvAll_cons, eqv_ints, eqvAll_ints l1 l2, Bool.eq_iff_iff]
    simp
theorem plain_ints (l : List Int) : PyData.plainAll (l.map .int) = true := plainAll_of fun x hx => by
  obtain ⟨i, _, rfl⟩ := List.mem_map.mp hx; rfl
theorem depth_ints (l : List Int) : PyData.depthAll (l.map .int) ≤ 0 := depthAll_of fun x hx => by
  obtain ⟨i, _, rfl⟩ := List.mem_map.mp hx; simp [PyData.depth]
theorem opNe_ints (l1 l2 : List Int) : opNe (.list (l1.map .int)) (.list (l2.map .int)) = some (.bool (!decide (l1 = l2))) := by
  have h1 := plain_ints l1
  have h2 := plain_ints l2
  have h3 := depth_ints l1
  unfold opNe
  rw [if_pos (by simp [cmpOk, PyData.plain, h1, h2, PyData.depth]; omega)]
  show some (PyData.bool (!PyData.eqvAll _ _)) = _
  rw [eqvAll_ints]
theorem kids_le : ∀ l : List Op, (l.flatMap Op.kids).length ≤ 2 * l.length
  | [] => Nat.zero_le _
  | o :: l => by
    have := kids_le l
    have : o.kids.length ≤ 2 := by cases o <;> simp [Op.kids]
    rw [List.flatMap_cons, List.length_append, List.length_cons]; omega
section
variable {dep m : Nat} {h : Int} {os : List Op}
theorem law_os (hd : dep ≤ 4) (hm : 2 ^ dep = m + 1) (hl : os.length = 2 * m + 1) (ho : ∀ o ∈ os, o.ok = true) {ω : Wd} (hω : NtW t P ts ω) : ∃ ω', d__law_parts [ob 2, .int h, .int dep, .tuple (os.map od)] ω = some (if accP ts h os m = true then outD h os m else .none, ω') ∧ NtW t P ts ω' := by
  have h15 := pw4 hd hm
  have hall : (os.map od).all opB = true := List.all_eq_true.mpr fun x hx => by
    obtain ⟨o, h1, rfl⟩ := List.mem_map.mp hx
    exact okv (ho o h1)
  have hBv : ∀ x ∈ os.map od, Bv x := fun x hx => by
    obtain ⟨o, _, rfl⟩ := List.mem_map.mp hx
    exact od_Bv o
  have hloop := loop_shR (g := gSet 6) (f := l__law_parts_1) (ω := ω) (d := .none) natD (fitAt os) (fun (pre : List Nat) (x : SV) => [.val (ob 2), .val (.int h), .val (.int dep), .val (.tuple (os.map od)), .val (.int ((m : Int) + 1)), .own ((dueL h os pre.length).map .int), x, .un]) (List.range m) .un fun pre k suf x hl' => by
    obtain ⟨hk, hkm⟩ := range_split hl'
    have hlt : k < os.length := by omega
    have hlt2 : 2 * k + 2 < os.length := by omega
    have e2 := opIx_od os (2 * k + 2)
    rw [List.getElem?_eq_getElem hlt2, show ((2 * k + 2 : Nat) : Int) = 2 * (k : Int) + 2 from by omega] at e2
    refine ⟨_, rfl, ?_⟩
    cases e : os[k] with
    | st y =>
      refine .inr ⟨by unfold fitAt; rw [List.getElem?_eq_getElem hlt, e], ?_⟩
      refine x_end (x_ifT (x_orT (x_tE ?_)) (x_ret rfl))
      simp [natD, hlt, e, od_st, opNe_str, str_js]
    | jn a b c =>
      have ef : fitAt os k = decide (c = (os[2 * k + 2]).last) := by
        unfold fitAt; rw [List.getElem?_eq_getElem hlt, List.getElem?_eq_getElem hlt2, e]
      have et : (tOrD (tOfE (eBin opNe (eBin opIx (eBin opIx (eVar 3) (eVar 6)) (eC (.int 0))) (eC (.str "join")))) (tOfE (eBin opNe (eBin opIx (eBin opIx (eVar 3) (eVar 6)) (eC (.int 3))) (eBin opIx (eBin opIx (eVar 3) (eBin opAdd (eBin opMul (eC (.int 2)) (eVar 6)) (eC (.int 2)))) (eUn opNeg (eC (.int 1))))))) [.val (ob 2), .val (.int h), .val (.int dep), .val (.tuple (os.map od)), .val (.int ((m : Int) + 1)), .own ((dueL h os pre.length).map .int), .val (natD k), .un] ω = some (!fitAt os k, ω) := by
        refine (x_or (b := false) (c := !fitAt os k) (x_tE ?_) (x_tE ?_)).trans rfl
        · simp [natD, hlt, e, od_jn, opNe_str]
        · simp [natD, hlt, e, od_jn, mul2, e2, od_last, ef]
      cases hf : fitAt os k with
      | false =>
        exact .inr ⟨rfl, x_end (x_ifT (et.trans (by rw [hf]; rfl)) (x_ret rfl))⟩
      | true =>
        have hd : dueL h os (pre ++ [k]).length = dueL h os pre.length ++ [a, b] := by
          rw [List.length_append, List.length_singleton]; exact due_succ (by rw [← hk, List.getElem?_eq_getElem hlt, e])
        refine .inl ⟨rfl, .val (natD k), ?_⟩
        rw [hd, List.map_append]
        refine x_seq (x_ifF (et.trans (by rw [hf]; rfl)) rfl) (x_extA1 (ds := [.int a, .int b]) (xs := (dueL h os pre.length).map .int) ?_ rfl ?_)
        · simp [natD, hlt, e, od_jn, opSl, slD_13]
        · have := kids_le (os.take pre.length)
          rw [List.length_take] at this
          rw [List.length_map]
          unfold dueL
          rw [List.length_cons, List.length_cons, List.length_singleton]
          omega
  have hcond : ∀ ω, (tOrD (tNotD (tOfE (eUn (opIsi "tuple") (eVar 3)))) (tOrD (tOfE (eBin opNe (eCall opLen (aCons (eVar 3) aNil)) (eBin opSub (eBin opMul (eC (.int 2)) (eVar 4)) (eC (.int 1))))) (tNotD (tOfE (eCall opAll (aCons (eOfN (eLcN (iSq (eVar 3)) (gSet 7) tYesD (eFunP d__law_is_opening (aCons (eVar 7) aNil)) [7])) aNil)))))) [.val (ob 2), .val (.int h), .val (.int dep), .val (.tuple (os.map od)), .val (.int ((m : Int) + 1)), .un, .un, .un] ω = some (false, ω) := fun ω => lawForm (by simpa using hl) ((x_not (lawAll (xs := []) hBv)).trans (by rw [hall]; rfl))
  rcases hloop with ⟨hF, x', eL⟩ | ⟨hF, eL⟩
  · have hj := fit_joins hF
    have hdl := due_len (h := h) hj
    have eacc : accP ts h os m = decide (os.map (fun o => findI ts o.key) = dueL h os m) := by unfold accP; rw [hF]; rfl
    obtain ⟨ω', eF, h'⟩ := lcD_w (t := NtW t P ts) (fg := gSet 7) (ft := tYesD) (fe := eMethD "Notary" "find" (eVar 0) d_Notary__find (aCons (eVar 7) aNil)) (ρ := wipeR [.val (ob 2), .val (.int h), .val (.int dep), .val (.tuple (os.map od)), .val (.int ((m : Int) + 1)), .own ((dueL h os (List.range m).length).map .int), x', .un] [7]) od (fun o => .int (findI ts o.key)) os (fun o hoo => ⟨_, rfl, fun _ => rfl, fun ω1 h1 => m_find h1 rfl (by simp [wipeR]; rfl) (key_ok (ho o hoo))⟩) ω hω
    have eN : eBin opNe (eOfN (eLcN (iSq (eVar 3)) (gSet 7) tYesD (eMethD "Notary" "find" (eVar 0) d_Notary__find (aCons (eVar 7) aNil)) [7])) (eVarB 5) [.val (ob 2), .val (.int h), .val (.int dep), .val (.tuple (os.map od)), .val (.int ((m : Int) + 1)), .own ((dueL h os (List.range m).length).map .int), x', .un] ω = some (.bool (!accP ts h os m), ω') := by
      rw [eBin_ap, eOfN_ap, eLcN_ap, show iSq (eVar 3) [.val (ob 2), .val (.int h), .val (.int dep), .val (.tuple (os.map od)), .val (.int ((m : Int) + 1)), .own ((dueL h os (List.range m).length).map .int), x', .un] ω = some (os.map od, ω) from rfl]
      simp only [eF]
      have q := opNe_ints (os.map fun o => findI ts o.key) (dueL h os m)
      rw [List.map_map] at q
      have q2 : opNe (.list (os.map fun o => .int (findI ts o.key))) (.list ((dueL h os m).map .int)) = some (.bool (!accP ts h os m)) := by rw [eacc]; exact q
      simp [q2]
    refine ⟨ω', ?_, h'⟩
    refine defD_of (ρ := [.val (ob 2), .val (.int h), .val (.int dep), .val (.tuple (os.map od)), .un, .un, .un, .un]) (x_set (d := .int ((m : Int) + 1)) (lawC hd hm rfl) ?_)
    refine x_seq (x_ifF (hcond ω) rfl) (x_own (ds := [.int h]) rfl (x_for (x_rng (n := m) ?_ (by omega)) eL ?_))
    · simp
    cases hA : accP ts h os m with
    | false =>
      refine seqR_of (ifT_of (ω' := ω') ?_ (x_ret rfl))
      rw [tOfE_ap, eN, hA]; rfl
    | true =>
      refine seq_of (ifF_of (ω' := ω') ?_ rfl) (x_ret (x_call (x_one (x_ofN (x_lc (x_rng1 (a := m) (n := m + 1) ?_ ?_ (by omega)) (out_lc hl hj fun k hk => ?_)))) rfl))
      · rw [tOfE_ap, eN, hA]; rfl
      · simp
      · simp [hdl]; omega
      · have hko : k < os.length := by omega
        have hkd : k < (dueL h os m).length := by omega
        simp [wipeR, hkd, hko, List.getD, od_last, lastO, atI_natE]
  · rw [acc_fit hF]
    refine ⟨ω, ?_, hω⟩
    refine defD_of (ρ := [.val (ob 2), .val (.int h), .val (.int dep), .val (.tuple (os.map od)), .un, .un, .un, .un]) (x_set (d := .int ((m : Int) + 1)) (lawC hd hm rfl) ?_)
    refine x_seq (x_ifF (hcond ω) rfl) (x_own (ds := [.int h]) rfl (x_seq' (x_for1 (x_rng (n := m) ?_ (by omega)) eL)))
    simp
end
end G_k29
end

section
namespace G_k29
open PySem PySem.Spec L2 Dn
local instance : Tb := noTb
variable {t : List D} {P : List WO → Prop} {ts : List Ps}
/-! ## what the notary holds -/
def Frm (p : Ps) : Prop := (∃ o : Op, o.ok = true ∧ p = o.key) ∨ ∃ q : Ps, p = .inr "x" :: q ∨ p = .inr "behind" :: q
def FrmT (ts : List Ps) : Prop := ∀ p ∈ ts, Frm p
def opK : Ps → Option Op
  | [.inr s, .inl x] => if s = "step" then some (.st x) else none
  | [.inr s, .inl a, .inl b, .inl c] => if s = "join" then some (.jn a b c) else none
  | _ => none
def opAt (ts : List Ps) (i : Int) : Option Op := (prt ts i).bind opK
theorem opK_key (o : Op) : opK o.key = some o := by cases o <;> simp [opK, Op.key]
theorem xs_ne : (Str.ofString "x" = Str.ofString "step") = False := by decide
theorem xj_ne : (Str.ofString "x" = Str.ofString "join") = False := by decide
theorem bs_ne : (Str.ofString "behind" = Str.ofString "step") = False := by decide
theorem bj_ne : (Str.ofString "behind" = Str.ofString "join") = False := by decide
theorem opK_no {s : Str} (h1 : (s = Str.ofString "step") = False) (h2 : (s = Str.ofString "join") = False) (q : Ps) : opK (.inr s :: q) = none := by
  unfold opK
  split
  · rename_i s' x e
    simp only [List.cons.injEq, Sum.inr.injEq] at e
    rw [← e.1, if_neg (fun x => h1 ▸ x)]
  · rename_i s' a b c e
    simp only [List.cons.injEq, Sum.inr.injEq] at e
    rw [← e.1, if_neg (fun x => h2 ▸ x)]
  · rfl
theorem tup_Bv (p : Ps) : Bv (tupD p) := by
  refine ⟨plainAll_of fun x hx => ?_, ?_⟩
  · obtain ⟨k, _, rfl⟩ := List.mem_map.mp hx
    cases k <;> rfl
  · have := depthAll_of (n := 0) (l := p.map kD) fun x hx => by
      obtain ⟨k, _, rfl⟩ := List.mem_map.mp hx
      cases k <;> simp [kD, PyData.depth]
    rw [tupD, PyData.depth]; omega
theorem at_cases (hF : FrmT ts) (i : Int) : (prtD ts i = .none ∧ opAt ts i = none) ∨ (∃ o : Op, o.ok = true ∧ prtD ts i = od o ∧ opAt ts i = some o) ∨ ∃ (s : Str) (q : Ps), prtD ts i = tupD (.inr s :: q) ∧ opAt ts i = none ∧ (s == "step") = false ∧ (s == "join") = false := by
  unfold opAt prtD
  cases e : prt ts i with
  | none => exact .inl ⟨rfl, rfl⟩
  | some p =>
    have hm : p ∈ ts := by
      unfold prt at e
      split at e
      · exact List.mem_of_getElem? e
      · cases e
    rcases hF p hm with ⟨o, ho, rfl⟩ | ⟨q, rfl | rfl⟩
    · exact .inr (.inl ⟨o, ho, rfl, opK_key o⟩)
    · exact .inr (.inr ⟨_, q, rfl, opK_no xs_ne xj_ne q, by simp [xs_ne], by simp [xj_ne]⟩)
    · exact .inr (.inr ⟨_, q, rfl, opK_no bs_ne bj_ne q, by simp [bs_ne], by simp [bj_ne]⟩)
theorem opB_no {s : Str} {q : Ps} (h1 : (s == "step") = false) (h2 : (s == "join") = false) : opB (tupD (.inr s :: q)) = false := by
  simp [tupD, kD, opB, isS, h1, h2]
def opD (ts : List Ps) (i : Int) : D := ((opAt ts i).map od).getD .none
theorem isNon_od (o : Op) : isNon (od o) = false := by cases o <;> rfl
theorem opening_ok (hF : FrmT ts) {ω : Wd} (hω : NtW t P ts ω) (i : Int) : d_opening [ob 2, .int i] ω = some (opD ts i, ω) := by
  have e2 : eMethD "Notary" "parts_of" (eVar 0) d_Notary__parts_of (aCons (eVar 1) aNil) [.val (ob 2), .val (.int i), .un] ω = some (prtD ts i, ω) := m_parts hω rfl rfl
  refine defD_of (ρ := [.val (ob 2), .val (.int i), .un]) (x_set e2 ?_)
  rcases at_cases hF i with ⟨e, ea⟩ | ⟨o, ho, e, ea⟩ | ⟨s, q, e, ea, h1, h2⟩
  · refine x_seq' (x_ifT (x_orT ?_) (x_ret ?_)) <;> simp [e, opD, ea]
  · refine x_seq (x_ifF ((x_or (b := false) (c := false) ?_ ?_).trans rfl) rfl) (x_ret ?_)
    · simp [e, isNon_od]
    · refine (x_not (x_fnP (x_one (x := od o) ?_) (isOpening_ok (od_Bv o)))).trans (by rw [okv ho]; rfl)
      simp [e]
    · simp [e, opD, ea]
  · refine x_seq' (x_ifT ((x_or (b := false) (c := true) ?_ ?_).trans rfl) (x_ret ?_))
    · simp [e, tupD]
    · refine (x_not (x_fnP (x_one (x := tupD (.inr s :: q)) ?_) (isOpening_ok (tup_Bv _)))).trans (by rw [opB_no h1 h2]; rfl)
      simp [e]
    · simp [opD, ea]
/-! ## openings, row by row -/
def stepF (ts : List Ps) (b : Bool) (i : Int) : Option Op := (opAt ts i).filter fun o => !b || o.isJ
def opn (ts : List Ps) : Nat → List Int → Option (List Op)
  | 0, row => if (row.all fun i => (stepF ts false i).isSome) = true then some (row.filterMap (stepF ts false)) else none
  | n + 1, row => if (row.all fun i => (stepF ts true i).isSome) = true then (opn ts n ((row.filterMap (stepF ts true)).flatMap Op.kids)).map (row.filterMap (stepF ts true) ++ ·) else none
def jt : Nat → Nat
  | 0 => 0
  | n + 1 => 2 * jt n + 1
theorem jt_pow : ∀ n, 2 ^ n = jt n + 1
  | 0 => rfl
  | n + 1 => by rw [Nat.pow_succ, jt_pow n, jt]; omega
theorem fm_len {f : Int → Option Op} : ∀ {row : List Int}, (row.all fun i => (f i).isSome) = true → (row.filterMap f).length = row.length
  | [], _ => rfl
  | i :: row, h => by
    rw [List.all_cons, Bool.and_eq_true] at h
    obtain ⟨o, e⟩ := Option.isSome_iff_exists.mp h.1
    rw [List.filterMap_cons, e]
    simp only [List.length_cons, fm_len h.2]
theorem stepF_J {i : Int} {o : Op} (h : stepF ts true i = some o) : ∃ a b c, o = .jn a b c := by
  unfold stepF at h
  rw [Option.filter_eq_some_iff] at h
  cases o with
  | st x => simp [Op.isJ] at h
  | jn a b c => exact ⟨a, b, c, rfl⟩
theorem stepF_at {b : Bool} {i : Int} {o : Op} (h : stepF ts b i = some o) : opAt ts i = some o := by
  unfold stepF at h
  rw [Option.filter_eq_some_iff] at h
  exact h.1
theorem fm_J {row : List Int} {k : Nat} (hk : k < (row.filterMap (stepF ts true)).length) : ∃ a b c, (row.filterMap (stepF ts true))[k]? = some (.jn a b c) := by
  have hm := List.getElem_mem hk
  obtain ⟨i, _, e⟩ := List.mem_filterMap.mp hm
  obtain ⟨a, b, c, e2⟩ := stepF_J e
  exact ⟨a, b, c, by rw [List.getElem?_eq_getElem hk, e2]⟩
theorem kids_J {os : List Op} (h : ∀ o ∈ os, ∃ a b c, o = .jn a b c) : (os.flatMap Op.kids).length = 2 * os.length := by
  induction os with
  | nil => rfl
  | cons o os ih =>
    obtain ⟨a, b, c, rfl⟩ := h o (List.mem_cons_self ..)
    rw [List.flatMap_cons, List.length_append, ih fun q hq => h q (List.mem_cons_of_mem _ hq), List.length_cons]
    simp [Op.kids]; omega
theorem opn_shape : ∀ {n : Nat} {row : List Int} {os : List Op}, opn ts n row = some os → os.length = row.length * (2 * jt n + 1) ∧ (∀ k < row.length * jt n, ∃ a b c, os[k]? = some (.jn a b c)) ∧ ∀ o ∈ os, ∃ i, opAt ts i = some o
  | 0, row, os, h => by
    rw [opn] at h
    split at h
    · rename_i ha
      cases h
      refine ⟨by rw [fm_len ha, jt]; omega, fun k hk => by rw [jt] at hk; omega, fun o ho => ?_⟩
      obtain ⟨i, _, e⟩ := List.mem_filterMap.mp ho
      exact ⟨i, stepF_at e⟩
    · cases h
  | n + 1, row, os, h => by
    rw [opn] at h
    split at h
    · rename_i ha
      obtain ⟨rest, h1, rfl⟩ := Option.map_eq_some_iff.mp h
      obtain ⟨i1, i2, i3⟩ := opn_shape h1
      have hl := fm_len ha
      have hk := kids_J (os := row.filterMap (stepF ts true)) fun o ho => by
        obtain ⟨i, _, e⟩ := List.mem_filterMap.mp ho
        exact stepF_J e
      rw [hl] at hk
      rw [hk] at i1 i2
      have e1 : row.length * (2 * (2 * jt n + 1) + 1) = row.length + 2 * row.length * (2 * jt n + 1) := by
        rw [Nat.mul_add, Nat.mul_one, Nat.mul_comm 2 row.length, Nat.mul_assoc]; omega
      have e2 : row.length * (2 * jt n + 1) = row.length + 2 * row.length * jt n := by
        rw [Nat.mul_add, Nat.mul_one, Nat.mul_comm 2 row.length, Nat.mul_assoc]; omega
      refine ⟨by rw [List.length_append, hl, i1, jt, e1], fun k hk' => ?_, fun o ho => ?_⟩
      · rw [jt, e2] at hk'
        by_cases hlt : k < row.length
        · rw [List.getElem?_append_left (by omega)]
          exact fm_J (by omega)
        · rw [List.getElem?_append_right (by omega), hl]
          exact i2 (k - row.length) (by omega)
      · rcases List.mem_append.mp ho with ho | ho
        · obtain ⟨i, _, e⟩ := List.mem_filterMap.mp ho
          exact ⟨i, stepF_at e⟩
        · exact i3 o ho
    · cases h
theorem at_ok (hF : FrmT ts) {i : Int} {o : Op} (h : opAt ts i = some o) : o.ok = true := by
  rcases at_cases hF i with ⟨e, ea⟩ | ⟨o', ho, e, ea⟩ | ⟨s, q, e, ea, h1, h2⟩
  · rw [ea] at h; cases h
  · rw [ea] at h; cases h; exact ho
  · rw [ea] at h; cases h
/-- the seals of what is found are what was asked for -/
theorem at_find (hF : FrmT ts) (hn : ts.Nodup) {i : Int} {o : Op} (h : opAt ts i = some o) : findI ts o.key = i := by
  have hp : prt ts i = some o.key := by
    unfold opAt at h
    cases e : prt ts i with
    | none => rw [e] at h; cases h
    | some p =>
      rw [e, Option.bind_some] at h
      have hm : p ∈ ts := by
        unfold prt at e
        split at e
        · exact List.mem_of_getElem? e
        · cases e
      rcases hF p hm with ⟨o', ho, rfl⟩ | ⟨q, rfl | rfl⟩
      · rw [opK_key] at h; cases h; rfl
      · rw [opK_no xs_ne xj_ne] at h; cases h
      · rw [opK_no bs_ne bj_ne] at h; cases h
  unfold prt at hp
  split at hp
  · rename_i hi
    unfold findI
    rw [fnd_nodup hn hp]
    simp; omega
  · cases hp
theorem find_at {i : Int} (hi : 1 ≤ i) {o : Op} (h : findI ts o.key = i) : opAt ts i = some o := by
  unfold findI at h
  cases e : fnd ts o.key with
  | none => rw [e] at h; simp at h; omega
  | some j =>
    rw [e] at h
    simp at h
    unfold opAt prt
    rw [if_pos hi, show i.toNat - 1 = j from by omega, fnd_some e, Option.bind_some, opK_key]
theorem opn_find (hF : FrmT ts) (hn : ts.Nodup) : ∀ {n : Nat} {row : List Int} {os : List Op}, opn ts n row = some os → os.map (fun o => findI ts o.key) = row ++ (os.take (row.length * jt n)).flatMap Op.kids
  | 0, row, os, h => by
    rw [opn] at h
    split at h
    · rename_i ha
      cases h
      rw [jt, Nat.mul_zero, List.take_zero, List.flatMap_nil, List.append_nil]
      exact fmf hF hn ha
    · cases h
  | n + 1, row, os, h => by
    rw [opn] at h
    split at h
    · rename_i ha
      obtain ⟨rest, h1, rfl⟩ := Option.map_eq_some_iff.mp h
      have ih := opn_find hF hn h1
      have hl := fm_len ha
      have hk := kids_J (os := row.filterMap (stepF ts true)) fun o ho => by
        obtain ⟨i, _, e⟩ := List.mem_filterMap.mp ho
        exact stepF_J e
      rw [hl] at hk
      rw [hk] at ih
      have e2 : row.length * (2 * jt n + 1) = row.length + 2 * row.length * jt n := by
        rw [Nat.mul_add, Nat.mul_one, Nat.mul_comm 2 row.length, Nat.mul_assoc]; omega
      rw [List.map_append, fmf hF hn ha, ih, jt, e2, ← hl, List.take_length_add_append, List.flatMap_append, hl]
    · cases h
where
  fmf {ts : List Ps} (hF : FrmT ts) (hn : ts.Nodup) {b : Bool} : ∀ {row : List Int}, (row.all fun i => (stepF ts b i).isSome) = true → (row.filterMap (stepF ts b)).map (fun o => findI ts o.key) = row
    | [], _ => rfl
    | i :: row, h => by
      rw [List.all_cons, Bool.and_eq_true] at h
      obtain ⟨o, e⟩ := Option.isSome_iff_exists.mp h.1
      rw [List.filterMap_cons, e]
      simp only [List.map_cons, fmf hF hn h.2, at_find hF hn (stepF_at e)]
end G_k29
end

section
namespace G_k29
open PySem PySem.Spec L2 Dn
local instance : Tb := noTb
variable {t : List D} {P : List WO → Prop} {ts : List Ps}
/-! ## the loops over the rows -/
def wt (n : Nat) : Nat := 2 * jt n + 1
theorem wt_succ (n : Nat) : wt (n + 1) = 2 * wt n + 1 := by unfold wt; rw [jt]
def kidsB (b : Bool) (os : List Op) : List Int := if b = true then os.flatMap Op.kids else []
/-- what the body of the inner loop does, in both -/
def InnerOk (ts : List Ps) (L1 : DS) (N : D) (h : Int) (dep : Nat) (ω : Wd) : Prop := ∀ (F : List Op) (row : List Int) (step : Nat) (x7 x8 : SV), F.length + row.length ≤ 10000 →
  ((row.all fun i => (stepF ts (decide (step < dep)) i).isSome) = true ∧ ∃ x7' x8', loopD (gSet 7) L1 (row.map .int) [.val N, .val (.int h), .val (.int dep), .own (F.map od), .val (.list (row.map .int)), .val (natD step), .own [], x7, x8] ω = some (.nx [.val N, .val (.int h), .val (.int dep), .own ((F ++ row.filterMap (stepF ts (decide (step < dep)))).map od), .val (.list (row.map .int)), .val (natD step), .own ((kidsB (decide (step < dep)) (row.filterMap (stepF ts (decide (step < dep))))).map .int), x7', x8'], ω)) ∨
  ((row.all fun i => (stepF ts (decide (step < dep)) i).isSome) = false ∧ loopD (gSet 7) L1 (row.map .int) [.val N, .val (.int h), .val (.int dep), .own (F.map od), .val (.list (row.map .int)), .val (natD step), .own [], x7, x8] ω = some (.rt .none, ω))
theorem outer {L1 : DS} {N : D} {h : Int} {dep : Nat} {ω : Wd} (hI : InnerOk ts L1 N h dep ω) : ∀ (n step : Nat) (F : List Op) (row : List Int) (x5 x6 x7 x8 : SV), step + n = dep → F.length + row.length * wt n ≤ 10000 →
    (∃ os, opn ts n row = some os ∧ ∃ x4 x5' x6' x7' x8', loopD (gSet 5) (sSeq (sOwn 6 aNil) (sSeq (sFor (iSq (eVar 4)) (gSet 7) L1) (sMove 4 6))) ((List.range' step (n + 1)).map natD) [.val N, .val (.int h), .val (.int dep), .own (F.map od), .val (.list (row.map .int)), x5, x6, x7, x8] ω = some (.nx [.val N, .val (.int h), .val (.int dep), .own ((F ++ os).map od), x4, x5', x6', x7', x8'], ω)) ∨
    (opn ts n row = none ∧ loopD (gSet 5) (sSeq (sOwn 6 aNil) (sSeq (sFor (iSq (eVar 4)) (gSet 7) L1) (sMove 4 6))) ((List.range' step (n + 1)).map natD) [.val N, .val (.int h), .val (.int dep), .own (F.map od), .val (.list (row.map .int)), x5, x6, x7, x8] ω = some (.rt .none, ω))
  | 0, step, F, row, x5, x6, x7, x8, hs, hz => by
    have hd : decide (step < dep) = false := decide_eq_false (by omega)
    have hz' : F.length + row.length ≤ 10000 := by unfold wt jt at hz; omega
    have q := hI F row step x7 x8 hz'
    rw [hd] at q
    rw [opn, List.range'_succ, List.range'_zero, List.map_cons, List.map_nil]
    rcases q with ⟨ha, x7', x8', e⟩ | ⟨ha, e⟩
    · rw [if_pos ha]
      refine .inl ⟨_, rfl, .val (.list []), .val (natD step), .un, x7', x8', ?_⟩
      exact loop_one (ρ1 := [.val N, .val (.int h), .val (.int dep), .own (F.map od), .val (.list (row.map .int)), .val (natD step), x6, x7, x8]) rfl (x_own (ds := []) rfl (x_for (ds := row.map .int) rfl e rfl))
    · rw [ha]
      refine .inr ⟨rfl, ?_⟩
      unfold loopD
      have e2 : (sSeq (sOwn 6 aNil) (sSeq (sFor (iSq (eVar 4)) (gSet 7) L1) (sMove 4 6))) [.val N, .val (.int h), .val (.int dep), .own (F.map od), .val (.list (row.map .int)), .val (natD step), x6, x7, x8] ω = some (.rt .none, ω) := x_own (ds := []) rfl (x_end (x_for1 (ds := row.map .int) rfl e))
      simp only [gSet_ap, List.set_cons_succ, List.set_cons_zero, e2]
  | n + 1, step, F, row, x5, x6, x7, x8, hs, hz => by
    have hd : decide (step < dep) = true := decide_eq_true (by omega)
    rw [wt_succ, Nat.mul_add, Nat.mul_one] at hz
    have hz' : F.length + row.length ≤ 10000 := by omega
    have q := hI F row step x7 x8 hz'
    rw [hd] at q
    rw [opn, List.range'_succ, List.map_cons]
    rcases q with ⟨ha, x7', x8', e⟩ | ⟨ha, e⟩
    · rw [if_pos ha]
      have hl := fm_len ha
      have hk := kids_J (os := row.filterMap (stepF ts true)) fun o ho => by
        obtain ⟨i, _, e⟩ := List.mem_filterMap.mp ho
        exact stepF_J e
      rw [hl] at hk
      have e2 : (sSeq (sOwn 6 aNil) (sSeq (sFor (iSq (eVar 4)) (gSet 7) L1) (sMove 4 6))) [.val N, .val (.int h), .val (.int dep), .own (F.map od), .val (.list (row.map .int)), .val (natD step), x6, x7, x8] ω = some (.nx [.val N, .val (.int h), .val (.int dep), .own ((F ++ row.filterMap (stepF ts true)).map od), .val (.list (((row.filterMap (stepF ts true)).flatMap Op.kids).map .int)), .val (natD step), .un, x7', x8'], ω) := x_own (ds := []) rfl (x_for (ds := row.map .int) rfl e rfl)
      have ih := outer hI n (step + 1) (F ++ row.filterMap (stepF ts true)) ((row.filterMap (stepF ts true)).flatMap Op.kids) (.val (natD step)) .un x7' x8' (by omega) (by
        rw [List.length_append, hl, hk, Nat.mul_assoc, Nat.mul_left_comm]; omega)
      rcases ih with ⟨os, h1, x4, y5, y6, y7, y8, e3⟩ | ⟨h1, e3⟩
      · rw [h1]
        refine .inl ⟨_, rfl, x4, y5, y6, y7, y8, ?_⟩
        unfold loopD
        simp only [gSet_ap, List.set_cons_succ, List.set_cons_zero, e2]
        rw [e3, List.append_assoc]
      · rw [h1]
        refine .inr ⟨rfl, ?_⟩
        unfold loopD
        simp only [gSet_ap, List.set_cons_succ, List.set_cons_zero, e2]
        exact e3
    · rw [ha]
      refine .inr ⟨rfl, ?_⟩
      unfold loopD
      have e2 : (sSeq (sOwn 6 aNil) (sSeq (sFor (iSq (eVar 4)) (gSet 7) L1) (sMove 4 6))) [.val N, .val (.int h), .val (.int dep), .own (F.map od), .val (.list (row.map .int)), .val (natD step), x6, x7, x8] ω = some (.rt .none, ω) := x_own (ds := []) rfl (x_end (x_for1 (ds := row.map .int) rfl e))
      simp only [gSet_ap, List.set_cons_succ, List.set_cons_zero, e2]
theorem kidsB_app (b : Bool) (x y : List Op) : kidsB b (x ++ y) = kidsB b x ++ kidsB b y := by
  unfold kidsB; cases b <;> simp
theorem fmap_app1 {f : Int → Option Op} {pre : List Int} {i : Int} {o : Op} (h : f i = some o) : (pre ++ [i]).filterMap f = pre.filterMap f ++ [o] := by
  rw [List.filterMap_append, List.filterMap_cons, h]; rfl
theorem fm_le {f : Int → Option Op} (pre : List Int) : (pre.filterMap f).length ≤ pre.length := List.length_filterMap_le ..
theorem kidsB_le (b : Bool) (os : List Op) : (kidsB b os).length ≤ 2 * os.length := by
  unfold kidsB; cases b
  · simp
  · exact kids_le os
theorem tag_in (b : Bool) : opNotInD (.str (if b then "join" else "step")) (.list [.str "step", .str "join"]) = some (.bool false) := by
  show opNotIn _ _ = _
  unfold opNotIn
  rw [if_pos (by simp [inOk, PyData.plain, PyData.plainAll, PyData.depth])]
  cases b <;> simp [inRes, eqv_strL, isS]
theorem tag_out {s : Str} (h1 : (s == "step") = false) (h2 : (s == "join") = false) : opNotInD (.str s) (.list [.str "step", .str "join"]) = some (.bool true) := by
  show opNotIn _ _ = _
  unfold opNotIn
  rw [if_pos (by simp [inOk, PyData.plain, PyData.plainAll, PyData.depth])]
  simp [inRes, eqv_strL, isS, h1, h2]
theorem inner_law (hF : FrmT ts) {ω : Wd} (hω : NtW t P ts ω) {h : Int} {dep : Nat} : InnerOk ts l__law_opened_1 (ob 2) h dep ω := by
  intro F row step x7 x8 hz
  have hd : decide ((step : Int) < (dep : Int)) = decide (step < dep) := by rw [decide_eq_decide]; omega
  generalize hb : decide (step < dep) = b at hd ⊢
  have q := loop_shR (g := gSet 7) (f := l__law_opened_1) (ω := ω) (d := .none) PyData.int (fun i => (stepF ts b i).isSome) (fun (pre : List Int) (x : SV × SV) => [.val (ob 2), .val (.int h), .val (.int dep), .own ((F ++ pre.filterMap (stepF ts b)).map od), .val (.list (row.map .int)), .val (natD step), .own ((kidsB b (pre.filterMap (stepF ts b))).map .int), x.1, x.2]) row (x7, x8) fun pre i suf x hl => by
    refine ⟨_, rfl, ?_⟩
    have hpl : pre.length < row.length := by rw [hl]; simp
    have f1 := fm_le (f := stepF ts b) pre
    have f2 := kidsB_le b (pre.filterMap (stepF ts b))
    have e8 : eMethD "Notary" "parts_of" (eVar 0) d_Notary__parts_of (aCons (eVar 7) aNil) [.val (ob 2), .val (.int h), .val (.int dep), .own ((F ++ pre.filterMap (stepF ts b)).map od), .val (.list (row.map .int)), .val (natD step), .own ((kidsB b (pre.filterMap (stepF ts b))).map .int), .val (.int i), x.2] ω = some (prtD ts i, ω) := m_parts hω rfl rfl
    rcases at_cases hF i with ⟨e, ea⟩ | ⟨o, ho, e, ea⟩ | ⟨s, q, e, ea, h1, h2⟩
    · refine .inr ⟨by unfold stepF; rw [ea]; rfl, x_set e8 (x_seq' (x_ifT (x_orT ?_) (x_ret rfl)))⟩
      simp [e]
    · have ec : (tOrD (tOfE (eBin opIsN (eVar 8) (eC .none))) (tOrD (tOfE (eBin opNotInD (eBin opIx (eVar 8) (eC (.int 0))) (eLst (aCons (eC (.str "step")) (aCons (eC (.str "join")) aNil))))) (tAndD (tOfE (eBin opLt (eVar 5) (eVar 2))) (tOfE (eBin opNe (eBin opIx (eVar 8) (eC (.int 0))) (eC (.str "join"))))))) [.val (ob 2), .val (.int h), .val (.int dep), .own ((F ++ pre.filterMap (stepF ts b)).map od), .val (.list (row.map .int)), .val (natD step), .own ((kidsB b (pre.filterMap (stepF ts b))).map .int), .val (.int i), .val (od o)] ω = some (b && !o.isJ, ω) := by
        refine (x_or (b := false) (x_tE ?_) (x_or (b := false) (x_tE ?_) (x_and (b := b) (c := !o.isJ) (x_tE ?_) (x_tE ?_)))).trans rfl
        · simp [isNon_od]
        · simp [od_tag, tag_in]
        · simp [natD]; exact hb
        · have := tag_join o
          simp [od_tag, opNe_str]
          cases o <;> simp [Op.isJ, str_js]
      rw [e] at e8
      cases hc : (b && !o.isJ) with
      | true =>
        have hn : stepF ts b i = none := by
          unfold stepF; rw [ea]
          rw [Bool.and_eq_true] at hc
          rw [Option.filter_some, if_neg]
          rw [hc.1]; simp at hc; simp [hc.2]
        exact .inr ⟨by rw [hn]; rfl, x_set e8 (x_seq' (x_ifT (ec.trans (by rw [hc])) (x_ret rfl)))⟩
      | false =>
        have hs : stepF ts b i = some o := by
          unfold stepF; rw [ea]
          rw [Option.filter_some, if_pos]
          cases b <;> cases hj : o.isJ <;> simp [hj] at hc ⊢
        refine .inl ⟨by rw [hs]; rfl, (.val (.int i), .val (od o)), ?_⟩
        have e3 : (F ++ (pre ++ [i]).filterMap (stepF ts b)).map od = (F ++ pre.filterMap (stepF ts b)).map od ++ [od o] := by
          rw [fmap_app1 hs, ← List.append_assoc, List.map_append (l₁ := F ++ _)]; rfl
        have e6 : (kidsB b ((pre ++ [i]).filterMap (stepF ts b))).map PyData.int = (kidsB b (pre.filterMap (stepF ts b))).map PyData.int ++ (kidsB b [o]).map PyData.int := by
          rw [fmap_app1 hs, kidsB_app, List.map_append]
        rw [e3, e6]
        refine x_set e8 (x_seq (x_ifF (ec.trans (by rw [hc])) rfl) (x_app (d := od o) (xs := (F ++ pre.filterMap (stepF ts b)).map od) rfl rfl (by simp; omega) (x_extA1 (xs := (kidsB b (pre.filterMap (stepF ts b))).map .int) ?_ rfl ?_)))
        · cases b with
          | true =>
            have hp : step < dep := of_decide_eq_true hb
            cases o with
            | st x => simp [Op.isJ] at hc
            | jn a b' c => simp [natD, hp, od_jn, opSl, slD_13, kidsB, Op.kids]
          | false =>
            have hp : ¬ step < dep := of_decide_eq_false hb
            simp [natD, hp, kidsB]
        · have := kidsB_le b [o]
          simp at this ⊢; omega
    · refine .inr ⟨by unfold stepF; rw [ea]; rfl, x_set e8 (x_seq' (x_ifT ((x_or (b := false) (c := true) (x_tE ?_) (x_orT (x_tE ?_))).trans rfl) (x_ret rfl)))⟩
      · simp [e, tupD]
      · simp [e, tupD, kD, tag_out h1 h2]
  rw [show (F ++ ([] : List Int).filterMap (stepF ts b)).map od = F.map od by simp, show (kidsB b (([] : List Int).filterMap (stepF ts b))).map PyData.int = [] by cases b <;> rfl] at q
  rcases q with ⟨ha, x, e⟩ | ⟨ha, e⟩
  · exact .inl ⟨ha, x.1, x.2, e⟩
  · exact .inr ⟨ha, e⟩
theorem inner_wide (hF : FrmT ts) {ω : Wd} (hω : NtW t P ts ω) {h : Int} {dep : Nat} : InnerOk ts l_wide_opening_1 (ob 2) h dep ω := by
  intro F row step x7 x8 hz
  generalize hb : decide (step < dep) = b
  have q := loop_shR (g := gSet 7) (f := l_wide_opening_1) (ω := ω) (d := .none) PyData.int (fun i => (stepF ts b i).isSome) (fun (pre : List Int) (x : SV × SV) => [.val (ob 2), .val (.int h), .val (.int dep), .own ((F ++ pre.filterMap (stepF ts b)).map od), .val (.list (row.map .int)), .val (natD step), .own ((kidsB b (pre.filterMap (stepF ts b))).map .int), x.1, x.2]) row (x7, x8) fun pre i suf x hl => by
    refine ⟨_, rfl, ?_⟩
    have hpl : pre.length < row.length := by rw [hl]; simp
    have f1 := fm_le (f := stepF ts b) pre
    have f2 := kidsB_le b (pre.filterMap (stepF ts b))
    have e8 : eFun d_opening (aCons (eVar 0) (aCons (eVar 7) aNil)) [.val (ob 2), .val (.int h), .val (.int dep), .own ((F ++ pre.filterMap (stepF ts b)).map od), .val (.list (row.map .int)), .val (natD step), .own ((kidsB b (pre.filterMap (stepF ts b))).map .int), .val (.int i), x.2] ω = some (opD ts i, ω) := opening_ok hF hω i
    cases ea : opAt ts i with
    | none =>
      refine .inr ⟨by unfold stepF; rw [ea]; rfl, x_set e8 (x_seq' (x_ifT (x_orT ?_) (x_ret rfl)))⟩
      simp [opD, ea]
    | some o =>
      have eo : opD ts i = od o := by unfold opD; rw [ea]; rfl
      rw [eo] at e8
      have ec : (tOrD (tOfE (eBin opIsN (eVar 8) (eC .none))) (tAndD (tOfE (eBin opLt (eVar 5) (eVar 2))) (tOfE (eBin opNe (eBin opIx (eVar 8) (eC (.int 0))) (eC (.str "join")))))) [.val (ob 2), .val (.int h), .val (.int dep), .own ((F ++ pre.filterMap (stepF ts b)).map od), .val (.list (row.map .int)), .val (natD step), .own ((kidsB b (pre.filterMap (stepF ts b))).map .int), .val (.int i), .val (od o)] ω = some (b && !o.isJ, ω) := by
        refine (x_or (b := false) (x_tE ?_) (x_and (b := b) (c := !o.isJ) (x_tE ?_) (x_tE ?_))).trans rfl
        · simp [isNon_od]
        · simp [natD]; exact hb
        · simp [od_tag, opNe_str]
          cases o <;> simp [Op.isJ, str_js]
      cases hc : (b && !o.isJ) with
      | true =>
        have hn : stepF ts b i = none := by
          unfold stepF; rw [ea]
          rw [Bool.and_eq_true] at hc
          rw [Option.filter_some, if_neg]
          rw [hc.1]; simp at hc; simp [hc.2]
        exact .inr ⟨by rw [hn]; rfl, x_set e8 (x_seq' (x_ifT (ec.trans (by rw [hc])) (x_ret rfl)))⟩
      | false =>
        have hs : stepF ts b i = some o := by
          unfold stepF; rw [ea]
          rw [Option.filter_some, if_pos]
          cases b <;> cases hj : o.isJ <;> simp [hj] at hc ⊢
        refine .inl ⟨by rw [hs]; rfl, (.val (.int i), .val (od o)), ?_⟩
        have e3 : (F ++ (pre ++ [i]).filterMap (stepF ts b)).map od = (F ++ pre.filterMap (stepF ts b)).map od ++ [od o] := by
          rw [fmap_app1 hs, ← List.append_assoc, List.map_append (l₁ := F ++ _)]; rfl
        have e6 : (kidsB b ((pre ++ [i]).filterMap (stepF ts b))).map PyData.int = (kidsB b (pre.filterMap (stepF ts b))).map PyData.int ++ (kidsB b [o]).map PyData.int := by
          rw [fmap_app1 hs, kidsB_app, List.map_append]
        rw [e3, e6]
        refine x_set e8 (x_seq (x_ifF (ec.trans (by rw [hc])) rfl) (x_app (d := od o) (xs := (F ++ pre.filterMap (stepF ts b)).map od) rfl rfl (by simp; omega) ?_))
        cases b with
        | true =>
          have hp : step < dep := of_decide_eq_true hb
          cases o with
          | st x => simp [Op.isJ] at hc
          | jn a b' c =>
            refine x_ifT (by simp [natD, hp]) (x_ext1 (ds := [.int a, .int b']) (xs := (kidsB true (pre.filterMap (stepF ts true))).map .int) (by simp [od_jn]) rfl ?_)
            simp at f2 ⊢; omega
        | false =>
          have hp : ¬ step < dep := of_decide_eq_false hb
          refine x_ifF (by simp [natD, hp]) ?_
          simp [kidsB, sNext]
  rw [show (F ++ ([] : List Int).filterMap (stepF ts b)).map od = F.map od by simp, show (kidsB b (([] : List Int).filterMap (stepF ts b))).map PyData.int = [] by cases b <;> rfl] at q
  rcases q with ⟨ha, x, e⟩ | ⟨ha, e⟩
  · exact .inl ⟨ha, x.1, x.2, e⟩
  · exact .inr ⟨ha, e⟩
end G_k29
end

section
namespace G_k29
open PySem PySem.Spec L2 Dn
local instance : Tb := noTb
variable {t : List D} {P : List WO → Prop} {ts : List Ps}
def osD (o : Option (List Op)) : D := (o.map fun os => .tuple (os.map od)).getD .none
def dueO (ts : List Ps) (h : Int) (dep : Nat) : Option (List Op) := (opn ts dep [h]).filter fun os => (List.range (jt dep)).all (fitAt os)
theorem jt4 {dep : Nat} (hd : dep ≤ 4) : jt dep ≤ 15 := by
  have : dep = 0 ∨ dep = 1 ∨ dep = 2 ∨ dep = 3 ∨ dep = 4 := by omega
  rcases this with rfl | rfl | rfl | rfl | rfl <;> decide
theorem lawOpened_ok (hF : FrmT ts) {ω : Wd} (hω : NtW t P ts ω) {h : Int} {dep : Nat} (hd : dep ≤ 4) : d__law_opened [ob 2, .int h, .int dep] ω = some (osD (opn ts dep [h]), ω) := by
  have h15 := jt4 hd
  refine defD_of (ρ := [.val (ob 2), .val (.int h), .val (.int dep), .un, .un, .un, .un, .un, .un]) ?_
  refine x_seq (ρ1 := [.val (ob 2), .val (.int h), .val (.int dep), .own [], .val (.list [.int h]), .un, .un, .un, .un]) rfl ?_
  have er : iRange (aCons (eBin opAdd (eVar 2) (eC (.int 1))) aNil) [.val (ob 2), .val (.int h), .val (.int dep), .own [], .val (.list [.int h]), .un, .un, .un, .un] ω = some ((List.range' 0 (dep + 1)).map natD, ω) := by
    rw [x_rng (n := dep + 1) (by simp) (by omega), List.range_eq_range']
  rcases outer (h := h) (dep := dep) (inner_law hF hω) dep 0 [] [h] .un .un .un .un (by omega) (by unfold wt; simp; omega) with ⟨os, h1, x4, y5, y6, y7, y8, e⟩ | ⟨h1, e⟩
  · rw [h1]
    have e' : loopD (gSet 5) l__law_opened_2 ((List.range' 0 (dep + 1)).map natD) [.val (ob 2), .val (.int h), .val (.int dep), .own [], .val (.list [.int h]), .un, .un, .un, .un] ω = some (.nx [.val (ob 2), .val (.int h), .val (.int dep), .own (os.map od), x4, y5, y6, y7, y8], ω) := e
    exact x_for er e' (x_ret (d := .tuple (os.map od)) rfl)
  · rw [h1]
    have e' : loopD (gSet 5) l__law_opened_2 ((List.range' 0 (dep + 1)).map natD) [.val (ob 2), .val (.int h), .val (.int dep), .own [], .val (.list [.int h]), .un, .un, .un, .un] ω = some (.rt .none, ω) := e
    exact x_seq' (x_for1 er e')
theorem opn_fit {dep : Nat} {h : Int} {os : List Op} (e : opn ts dep [h] = some os) : os.length = 2 * jt dep + 1 ∧ (∀ k < jt dep, ∃ a b c, os[k]? = some (.jn a b c)) ∧ ∀ o ∈ os, ∃ i, opAt ts i = some o := by
  have := opn_shape e
  simpa using this
theorem osD_some (os : List Op) : osD (some os) = .tuple (os.map od) := rfl
theorem lawOpenings_ok (hF : FrmT ts) {ω : Wd} (hω : NtW t P ts ω) {h : Int} {dep : Nat} (hd : dep ≤ 4) : d__law_openings [ob 2, .int h, .int dep] ω = some (osD (dueO ts h dep), ω) := by
  have h15 := jt4 hd
  refine defD_of (ρ := [.val (ob 2), .val (.int h), .val (.int dep), .un, .un]) ?_
  refine x_set (d := osD (opn ts dep [h])) ?_ ?_
  · rw [eFun_ap]; exact lawOpened_ok hF hω hd
  unfold dueO
  cases e : opn ts dep [h] with
  | none =>
    refine x_for (ds := []) ?_ rfl (x_ret rfl)
    simp [osD, rgOk_of]
    rfl
  | some os =>
    obtain ⟨hl, hj, _⟩ := opn_fit e
    rw [osD_some]
    have er : iRange (aCons (eIf (tOfE (eBin opNotN (eVar 3) (eC .none))) (eBin opDiv (eCall opLen (aCons (eVar 3) aNil)) (eC (.int 2))) (eC (.int 0))) aNil) [.val (ob 2), .val (.int h), .val (.int dep), .val (.tuple (os.map od)), .un] ω = some ((List.range (jt dep)).map natD, ω) := by
      refine x_rng (n := jt dep) ?_ (by omega)
      have : ((os.length : Int) / 2) = (jt dep : Int) := by omega
      simp [div2, this]
    have q := loop_shR (g := gSet 4) (f := l__law_openings_1) (ω := ω) (d := .none) natD (fitAt os) (fun (pre : List Nat) (x : SV) => [.val (ob 2), .val (.int h), .val (.int dep), .val (.tuple (os.map od)), x]) (List.range (jt dep)) .un fun pre k suf x hl' => by
      obtain ⟨_, hk⟩ := range_split hl'
      obtain ⟨a, b, c, ek⟩ := hj k hk
      have hlt2 : 2 * k + 2 < os.length := by omega
      have e2 := opIx_od os (2 * k + 2)
      rw [List.getElem?_eq_getElem hlt2, show ((2 * k + 2 : Nat) : Int) = 2 * (k : Int) + 2 from by omega] at e2
      have ef : fitAt os k = decide (c = (os[2 * k + 2]).last) := by
        unfold fitAt; rw [List.getElem?_eq_getElem hlt2, ek]
      have ec : tOfE (eBin opNe (eBin opIx (eBin opIx (eVar 3) (eVar 4)) (eC (.int 3))) (eBin opIx (eBin opIx (eVar 3) (eBin opAdd (eBin opMul (eC (.int 2)) (eVar 4)) (eC (.int 2)))) (eUn opNeg (eC (.int 1))))) [.val (ob 2), .val (.int h), .val (.int dep), .val (.tuple (os.map od)), .val (natD k)] ω = some (!fitAt os k, ω) := by
        refine x_tE ?_
        simp [natD, ek, od_jn, mul2, e2, od_last, ef]
      refine ⟨_, rfl, ?_⟩
      cases hf : fitAt os k with
      | false => exact .inr ⟨rfl, x_ifT (ec.trans (by rw [hf]; rfl)) (x_ret rfl)⟩
      | true => exact .inl ⟨rfl, .val (natD k), x_ifF (ec.trans (by rw [hf]; rfl)) rfl⟩
    rcases q with ⟨ha, x, eL⟩ | ⟨ha, eL⟩
    · rw [Option.filter_some, if_pos ha]
      exact x_for er eL (x_ret rfl)
    · rw [Option.filter_some, if_neg (by rw [ha]; simp)]
      exact x_seq' (x_for1 er eL)
theorem wideOpening_ok (hF : FrmT ts) {ω : Wd} (hω : NtW t P ts ω) {h : Int} {dep : Nat} (hd : dep ≤ 4) : d_wide_opening [ob 2, .int h, .int dep] ω = some (osD (dueO ts h dep), ω) := by
  have h15 := jt4 hd
  refine defD_of (ρ := [.val (ob 2), .val (.int h), .val (.int dep), .un, .un, .un, .un, .un, .un]) ?_
  refine x_own (ds := []) rfl (x_set (d := .list [.int h]) rfl ?_)
  have er : iRange (aCons (eBin opAdd (eVar 2) (eC (.int 1))) aNil) [.val (ob 2), .val (.int h), .val (.int dep), .own [], .val (.list [.int h]), .un, .un, .un, .un] ω = some ((List.range' 0 (dep + 1)).map natD, ω) := by
    rw [x_rng (n := dep + 1) (by simp) (by omega), List.range_eq_range']
  unfold dueO
  rcases outer (h := h) (dep := dep) (inner_wide hF hω) dep 0 [] [h] .un .un .un .un (by omega) (by unfold wt; simp; omega) with ⟨os, h1, x4, y5, y6, y7, y8, e⟩ | ⟨h1, e⟩
  · obtain ⟨hl, hj, _⟩ := opn_fit h1
    rw [h1]
    have hf : d_fits [.list (os.map od)] ⟨false, []⟩ = some (.bool ((List.range (jt dep)).all (fitAt os)), ⟨false, []⟩) := fits_ok hl (by omega) (fun k => by simp) (by simp) hj
    have e' : loopD (gSet 5) l_wide_opening_2 ((List.range' 0 (dep + 1)).map natD) [.val (ob 2), .val (.int h), .val (.int dep), .own [], .val (.list [.int h]), .un, .un, .un, .un] ω = some (.nx [.val (ob 2), .val (.int h), .val (.int dep), .own (os.map od), x4, y5, y6, y7, y8], ω) := e
    refine x_for er e' (x_ret ?_)
    cases ha : (List.range (jt dep)).all (fitAt os) with
    | true =>
      rw [ha] at hf
      rw [Option.filter_some, if_pos ha, eIf_ap, tOfE_ap, x_fnP (x_one (x := .list (os.map od)) rfl) hf]
      rfl
    | false =>
      rw [ha] at hf
      rw [Option.filter_some, if_neg (by rw [ha]; simp), eIf_ap, tOfE_ap, x_fnP (x_one (x := .list (os.map od)) rfl) hf]
      rfl
  · rw [h1]
    have e' : loopD (gSet 5) l_wide_opening_2 ((List.range' 0 (dep + 1)).map natD) [.val (ob 2), .val (.int h), .val (.int dep), .own [], .val (.list [.int h]), .un, .un, .un, .un] ω = some (.rt .none, ω) := e
    exact x_seq' (x_for1 er e')
/-! ## what follows for the parts -/
theorem due_some {h : Int} {dep : Nat} {os : List Op} (e : dueO ts h dep = some os) : opn ts dep [h] = some os ∧ (List.range (jt dep)).all (fitAt os) = true := by
  unfold dueO at e
  rw [Option.filter_eq_some_iff] at e
  exact e
theorem due_acc (hF : FrmT ts) (hn : ts.Nodup) {h : Int} {dep : Nat} {os : List Op} (e : dueO ts h dep = some os) : accP ts h os (jt dep) = true := by
  obtain ⟨h1, h2⟩ := due_some e
  unfold accP
  have := opn_find hF hn h1
  rw [h2, this, Bool.true_and, decide_eq_true]
  simp [dueL]
theorem opn_ok (hF : FrmT ts) {h : Int} {dep : Nat} {os : List Op} (e : opn ts dep [h] = some os) : ∀ o ∈ os, o.ok = true := fun o ho => by
  obtain ⟨i, hi⟩ := (opn_fit e).2.2 o ho
  exact at_ok hF hi
end G_k29
end

section
namespace G_k29
open PySem PySem.Spec L2 Dn
local instance : Tb := noTb
variable {t : List D} {P : List WO → Prop} {ts : List Ps}
theorem set_of {i : Nat} {f : DE} {ρ : Ro} {ω ω' : Wd} {d : D} (e : f ρ ω = some (d, ω')) : sSet i f ρ ω = some (.nx (ρ.set i (.val d)), ω') := by rw [sSet_ap, e]
/-! ## spans, halved -/
structure Sp where
  l : Int
  f : Int
  b : Int
  s : Int
  h : Int
def spD (s : Sp) : D := .tuple [.int s.l, .int s.f, .int s.b, .int s.s, .int s.h]
def halfS (s : Sp) (bh mid a b : Int) : Sp × Sp := (⟨s.l - 1, s.f, s.b, s.s, a⟩, ⟨s.l - 1, s.f + 2 ^ (s.l - 1).toNat, bh, mid, b⟩)
def prD (p : Sp × Sp) : D := .tuple [spD p.1, spD p.2]
theorem halfSpans_ok {s : Sp} (h1 : 1 ≤ s.l) (h2 : s.l ≤ 10) {bh mid a b : Int} {ω : Wd} : d_half_spans [spD s, .int bh, .int mid, .int a, .int b] ω = some (prD (halfS s bh mid a b), ω) := by
  have q : opShl (.int 1) (.int (s.l - 1)) = some (.int (2 ^ (s.l - 1).toNat)) := by
    show (if 0 ≤ s.l - 1 ∧ s.l - 1 ≤ 1000000 ∧ (1 : Int).natAbs < 2 ^ 64 then some (PyData.int (1 * 2 ^ (s.l - 1).toNat)) else none) = _
    rw [if_pos ⟨by omega, by omega, by decide⟩, Int.one_mul]
  refine defD_of (ρ := [.val (spD s), .val (.int bh), .val (.int mid), .val (.int a), .val (.int b), .un, .un, .un, .un, .un]) ?_
  refine x_seq (ρ1 := [.val (spD s), .val (.int bh), .val (.int mid), .val (.int a), .val (.int b), .val (.int s.l), .val (.int s.f), .val (.int s.b), .val (.int s.s), .val (.int s.h)]) rfl (x_ret ?_)
  simp [q, prD, halfS, spD]
def bhK (b a : Int) : Ps := [.inr "behind", .inl b, .inl a]
theorem bhK_ok {b a : Int} (h1 : 0 ≤ b) (h2 : b ≤ 281474976710656) (ha : rg a = true) : okP (bhK b a) = true := by
  have : okK (.inl b) = true := by
    show (decide ((0 : Int) ≤ b) && decide (b ≤ 281474976710656)) = true
    rw [decide_eq_true h1, decide_eq_true h2]; rfl
  simp [okP, bhK, show okK (.inr "behind") = true from lab_behind, rg_okK ha, this]
theorem fnd_lt : ∀ {ts : List Ps} {p : Ps} {i : Nat}, fnd ts p = some i → i < ts.length := fun h => by
  obtain ⟨hi, _⟩ := List.getElem?_eq_some_iff.mp (fnd_some h)
  exact hi
theorem findI_rg (p : Ps) : 0 ≤ findI ts p ∧ findI ts p ≤ ts.length := by
  unfold findI
  cases e : fnd ts p with
  | none => simp
  | some i => have := fnd_lt e; simp; omega
def lastI (ts : List Ps) (i : Int) : Int := ((opAt ts i).map Op.last).getD 0
theorem lastOf_ok (hF : FrmT ts) {ω : Wd} (hω : NtW t P ts ω) (i : Int) : d_last_of [ob 2, .int i] ω = some (.int (lastI ts i), ω) := by
  have e2 : eFun d_opening (aCons (eVar 0) (aCons (eVar 1) aNil)) [.val (ob 2), .val (.int i), .un] ω = some (opD ts i, ω) := opening_ok hF hω i
  refine defD_of (ρ := [.val (ob 2), .val (.int i), .un]) (x_set e2 ?_)
  unfold lastI opD
  cases e : opAt ts i with
  | none => exact x_seq' (x_ifT (by simp) (x_ret rfl))
  | some o => exact x_seq (x_ifF (by simp [isNon_od]) rfl) (x_ret (by simp [od_last]))
def halfP (ts : List Ps) (s : Sp) : Option (Sp × Sp) := match opAt ts s.h with
  | some (.jn a b _) => if s.l = 0 then none else match opAt ts a with
    | none => none
    | some o => if findI ts (bhK s.b a) = 0 then none else some (halfS s (findI ts (bhK s.b a)) o.last a b)
  | _ => none
def SpOk (s : Sp) : Prop := 0 ≤ s.l ∧ s.l ≤ 10 ∧ 0 ≤ s.b ∧ s.b ≤ 281474976710656
theorem op_last_pos {o : Op} (h : o.ok = true) : 1 ≤ o.last := by
  cases o with
  | st x => simp [Op.ok, rg] at h; exact h.1
  | jn a b c => simp [Op.ok, rg] at h; exact h.2.2.1
theorem jn_ok {a b c : Int} (h : (Op.jn a b c).ok = true) : rg a = true ∧ rg b = true ∧ rg c = true := by
  unfold Op.ok at h
  rw [Bool.and_eq_true, Bool.and_eq_true] at h
  exact h
theorem halfP_ok (hz : ts.length ≤ 16777216) {s : Sp} (hs : SpOk s) {p : Sp × Sp} (e : halfP ts s = some p) : SpOk p.1 ∧ SpOk p.2 ∧ ∃ a b c, opAt ts s.h = some (.jn a b c) ∧ p.1.h = a ∧ p.2.h = b ∧ p.1.l = s.l - 1 ∧ p.2.l = s.l - 1 := by
  obtain ⟨h1, h2, h3, h4⟩ := hs
  unfold halfP at e
  split at e
  · rename_i a b c ea
    split at e
    · cases e
    split at e
    · cases e
    split at e
    · cases e
    cases e
    have := findI_rg (ts := ts) (bhK s.b a)
    refine ⟨⟨?_, ?_, h3, h4⟩, ⟨?_, ?_, ?_, ?_⟩, a, b, c, ea, rfl, rfl, rfl, rfl⟩ <;> simp only [halfS] <;> omega
  · cases e
def opnD (o : Option (Sp × Sp)) : D := (o.map prD).getD .none
theorem isN_str (x : D) : isNon x = false → tOfE (eBin opIsN (eC x) (eC .none)) [] ⟨false, []⟩ = some (false, ⟨false, []⟩) := fun h => by simp [h]
theorem halvesOf_ok (hF : FrmT ts) {ω : Wd} (hω : NtW t P ts ω) {s : Sp} (hs : SpOk s) : ∃ ω', d_halves_of [ob 2, spD s] ω = some (opnD (halfP ts s), ω') ∧ NtW t P ts ω' := by
  obtain ⟨h1, h2, h3, h4⟩ := hs
  have e2 : eFun d_opening (aCons (eVar 0) (aCons (eBin opIx (eVar 1) (eC (.int 4))) aNil)) [.val (ob 2), .val (spD s), .un, .un, .un] ω = some (opD ts s.h, ω) := by
    have : aCons (eVar 0) (aCons (eBin opIx (eVar 1) (eC (.int 4))) aNil) [.val (ob 2), .val (spD s), .un, .un, .un] ω = some ([ob 2, .int s.h], ω) := by simp [spD]
    rw [eFun_ap, this]
    exact opening_ok hF hω s.h
  rcases at_cases hF s.h with ⟨_, ea⟩ | ⟨o, ho, _, ea⟩ | ⟨_, _, _, ea, _⟩
  · refine ⟨ω, ?_, hω⟩
    refine defD_of (ρ := [.val (ob 2), .val (spD s), .un, .un, .un]) (x_set e2 (x_seq' (x_ifT ?_ (x_ret ?_))))
    · by_cases hl : s.l = 0 <;> simp [spD, opD, ea, hl]
    · simp [halfP, ea, opnD]
  · have eo : opD ts s.h = od o := by unfold opD; rw [ea]; rfl
    rw [eo] at e2
    cases o with
    | st x =>
      refine ⟨ω, ?_, hω⟩
      refine defD_of (ρ := [.val (ob 2), .val (spD s), .un, .un, .un]) (x_set e2 (x_seq' (x_ifT ?_ (x_ret ?_))))
      · by_cases hl : s.l = 0 <;> simp [spD, od_st, hl, opNe_str, str_js]
      · simp [halfP, ea, opnD]
    | jn a b c =>
      obtain ⟨ra, rb, rc⟩ := jn_ok ho
      by_cases hl : s.l = 0
      · refine ⟨ω, ?_, hω⟩
        refine defD_of (ρ := [.val (ob 2), .val (spD s), .un, .un, .un]) (x_set e2 (x_seq' (x_ifT ?_ (x_ret ?_))))
        · simp [spD, hl]
        · simp [halfP, ea, opnD, hl]
      · have ec : (tOrD (tOfE (eBin opEq (eBin opIx (eVar 1) (eC (.int 0))) (eC (.int 0)))) (tOrD (tOfE (eBin opIsN (eVar 2) (eC .none))) (tOfE (eBin opNe (eBin opIx (eVar 2) (eC (.int 0))) (eC (.str "join")))))) [.val (ob 2), .val (spD s), .val (od (.jn a b c)), .un, .un] ω = some (false, ω) := by
          simp [spD, hl, od_jn, opNe_str]
        have e3 : eFun d_last_of (aCons (eVar 0) (aCons (eBin opIx (eVar 2) (eC (.int 1))) aNil)) [.val (ob 2), .val (spD s), .val (od (.jn a b c)), .un, .un] ω = some (.int (lastI ts a), ω) := by
          have : aCons (eVar 0) (aCons (eBin opIx (eVar 2) (eC (.int 1))) aNil) [.val (ob 2), .val (spD s), .val (od (.jn a b c)), .un, .un] ω = some ([ob 2, .int a], ω) := by simp [od_jn]
          rw [eFun_ap, this]
          exact lastOf_ok hF hω a
        obtain ⟨ω', e4, h'⟩ := m_find hω (f := eVar 0) (a := aCons (eTup (aCons (eC (.str "behind")) (aCons (eBin opIx (eVar 1) (eC (.int 2))) (aCons (eBin opIx (eVar 2) (eC (.int 1))) aNil)))) aNil) (ρ := [.val (ob 2), .val (spD s), .val (od (.jn a b c)), .val (.int (lastI ts a)), .un]) (p := bhK s.b a) rfl (by simp [od_jn, spD]; rfl) (bhK_ok h3 h4 ra)
        refine ⟨ω', ?_, h'⟩
        refine defD_of (ρ := [.val (ob 2), .val (spD s), .un, .un, .un]) (x_set e2 (x_seq (x_ifF ec rfl) (x_set e3 ?_)))
        refine seq_of (set_of e4) ?_
        cases el : opAt ts a with
        | none =>
          have : lastI ts a = 0 := by unfold lastI; rw [el]; rfl
          refine x_seq' (x_ifT ?_ (x_ret ?_))
          · simp [this]
          · simp [halfP, ea, el, hl, opnD]
        | some o =>
          have hlast := op_last_pos (at_ok hF el)
          have hlI : lastI ts a = o.last := by unfold lastI; rw [el]; rfl
          have hne : ¬ o.last = 0 := by omega
          by_cases hb : findI ts (bhK s.b a) = 0
          · refine x_seq' (x_ifT ?_ (x_ret ?_))
            · simp [hlI, hne, hb]
            · simp [halfP, ea, el, hl, hb, opnD]
          · refine x_seq (x_ifF ?_ rfl) (x_ret ?_)
            · simp [hlI, hne, hb]
            · rw [show opnD (halfP ts s) = prD (halfS s (findI ts (bhK s.b a)) (lastI ts a) a b) by simp [halfP, ea, el, hl, hb, opnD, hlI]]
              refine x_fnP (xs := [spD s, .int (findI ts (bhK s.b a)), .int (lastI ts a), .int a, .int b]) ?_ (halfSpans_ok (by omega) h2)
              simp [od_jn]
  · refine ⟨ω, ?_, hω⟩
    refine defD_of (ρ := [.val (ob 2), .val (spD s), .un, .un, .un]) (x_set e2 (x_seq' (x_ifT ?_ (x_ret ?_))))
    · by_cases hl : s.l = 0 <;> simp [spD, opD, ea, hl]
    · simp [halfP, ea, opnD]
end G_k29
end

section
namespace G_k29
open PySem PySem.Spec L2 Dn
local instance : Tb := noTb
variable {t : List D} {P : List WO → Prop} {ts : List Ps}
theorem loop_shRWP {α β : Type} {t : Wd → Prop} {g : DG} {f : DS} {d : D} (e : α → D) (p : α → Bool) (sh : List α → β → Ro) {l0 : List α} : ∀ (l pre : List α) (x : β), l0 = pre ++ l → (∀ (pre : List α) (a : α) (suf : List α) (x : β), l0 = pre ++ a :: suf → ∃ ρ1, g (e a) (sh pre x) = some ρ1 ∧ ∀ ω, t ω → ∃ ω', t ω' ∧ ((p a = true ∧ ∃ x', f ρ1 ω = some (.nx (sh (pre ++ [a]) x'), ω')) ∨ (p a = false ∧ f ρ1 ω = some (.rt d, ω')))) → ∀ ω, t ω → ∃ ω', t ω' ∧ ((l.all p = true ∧ ∃ x', loopD g f (l.map e) (sh pre x) ω = some (.nx (sh l0 x'), ω')) ∨ (l.all p = false ∧ loopD g f (l.map e) (sh pre x) ω = some (.rt d, ω')))
  | [], pre, x, h, _, ω, i => ⟨ω, i, .inl ⟨rfl, x, by rw [List.append_nil] at h; subst h; rfl⟩⟩
  | a :: l, pre, x, h, hs, ω, i => by
    obtain ⟨ρ1, e1, hs1⟩ := hs pre a l x h
    obtain ⟨ω1, i1, ⟨hp, x1, e2⟩ | ⟨hp, e2⟩⟩ := hs1 ω i
    · obtain ⟨ω2, i2, ⟨q, x', e3⟩ | ⟨q, e3⟩⟩ := loop_shRWP e p sh l (pre ++ [a]) x1 (by rw [List.append_assoc]; exact h) hs ω1 i1
      · refine ⟨ω2, i2, .inl ⟨by rw [List.all_cons, hp, q]; rfl, x', ?_⟩⟩
        rw [List.map_cons]; unfold loopD; rw [e1]; simp only [e2, e3]
      · refine ⟨ω2, i2, .inr ⟨by rw [List.all_cons, hp, q]; rfl, ?_⟩⟩
        rw [List.map_cons]; unfold loopD; rw [e1]; simp only [e2, e3]
    · refine ⟨ω1, i1, .inr ⟨by rw [List.all_cons, hp]; rfl, ?_⟩⟩
      rw [List.map_cons]; unfold loopD; rw [e1]; simp only [e2]
/-! ## cuts, row by row -/
def hf (ts : List Ps) (s : Sp) : List Sp := match halfP ts s with
  | some p => [p.1, p.2]
  | none => []
def cutP (ts : List Ps) : Nat → List Sp → Option (List Sp)
  | 0, row => some row
  | n + 1, row => if (row.all fun s => (halfP ts s).isSome) = true then cutP ts n (row.flatMap (hf ts)) else none
def cutD (o : Option (List Sp)) : D := (o.map fun r => .tuple (r.map spD)).getD .none
theorem hf_le (row : List Sp) : (row.flatMap (hf ts)).length ≤ 2 * row.length := by
  induction row with
  | nil => simp
  | cons s row ih =>
    have : (hf ts s).length ≤ 2 := by unfold hf; split <;> simp
    rw [List.flatMap_cons, List.length_append, List.length_cons]; omega
theorem hf_ok (hz : ts.length ≤ 16777216) {row : List Sp} (h : ∀ s ∈ row, SpOk s) : ∀ s ∈ row.flatMap (hf ts), SpOk s := fun s hs => by
  obtain ⟨r, hr, hm⟩ := List.mem_flatMap.mp hs
  unfold hf at hm
  split at hm
  · rename_i p e
    obtain ⟨h1, h2, _⟩ := halfP_ok hz (h r hr) e
    rcases List.mem_cons.mp hm with rfl | hm
    · exact h1
    · rcases List.mem_cons.mp hm with rfl | hm
      · exact h2
      · cases hm
  · cases hm
theorem isNon_pr (p : Sp × Sp) : isNon (prD p) = false := rfl
theorem cut_inner (hF : FrmT ts) (hz : ts.length ≤ 16777216) {sp : D} {dep : Nat} {row : List Sp} (hr : ∀ s ∈ row, SpOk s) (hl : row.length ≤ 10000) {x4 x6 x7 : SV} {ω : Wd} (hω : NtW t P ts ω) : ∃ ω', NtW t P ts ω' ∧ (((row.all fun s => (halfP ts s).isSome) = true ∧ ∃ x6' x7', loopD (gSet 6) l__law_cut_1 (row.map spD) [.val (ob 2), .val sp, .val (.int dep), .val (.list (row.map spD)), x4, .own [], x6, x7] ω = some (.nx [.val (ob 2), .val sp, .val (.int dep), .val (.list (row.map spD)), x4, .own ((row.flatMap (hf ts)).map spD), x6', x7'], ω')) ∨ ((row.all fun s => (halfP ts s).isSome) = false ∧ loopD (gSet 6) l__law_cut_1 (row.map spD) [.val (ob 2), .val sp, .val (.int dep), .val (.list (row.map spD)), x4, .own [], x6, x7] ω = some (.rt .none, ω'))) := by
  obtain ⟨ω', i, q⟩ := loop_shRWP (t := NtW t P ts) (g := gSet 6) (f := l__law_cut_1) (d := .none) spD (fun s => (halfP ts s).isSome) (fun (pre : List Sp) (x : SV × SV) => [.val (ob 2), .val sp, .val (.int dep), .val (.list (row.map spD)), x4, .own ((pre.flatMap (hf ts)).map spD), x.1, x.2]) row [] (x6, x7) rfl (fun pre s suf x hl' => by
    refine ⟨_, rfl, fun ω hω => ?_⟩
    rw [List.nil_append] at hl'
    have hpl : pre.length < row.length := by rw [hl']; simp
    obtain ⟨ω', e, h'⟩ := halvesOf_ok hF hω (hr s (by rw [hl']; simp))
    have e7 : eFun d_halves_of (aCons (eVar 0) (aCons (eVar 6) aNil)) [.val (ob 2), .val sp, .val (.int dep), .val (.list (row.map spD)), x4, .own ((pre.flatMap (hf ts)).map spD), .val (spD s), x.2] ω = some (opnD (halfP ts s), ω') := e
    refine ⟨ω', h', ?_⟩
    cases eh : halfP ts s with
    | none =>
      rw [eh] at e7
      exact .inr ⟨rfl, seq_of (set_of e7) (x_seq' (x_ifT rfl (x_ret rfl)))⟩
    | some p =>
      rw [eh] at e7
      refine .inl ⟨rfl, (.val (spD s), .val (prD p)), ?_⟩
      have e5 : ((pre ++ [s]).flatMap (hf ts)).map spD = (pre.flatMap (hf ts)).map spD ++ [spD p.1, spD p.2] := by
        rw [List.flatMap_append, List.map_append]
        simp [hf, eh]
      rw [e5]
      refine seq_of (set_of e7) (x_seq (x_ifF rfl rfl) (x_extA1 (ds := [spD p.1, spD p.2]) (xs := (pre.flatMap (hf ts)).map spD) rfl rfl ?_))
      have := hf_le (ts := ts) pre
      simp at this ⊢; omega) ω hω
  refine ⟨ω', i, ?_⟩
  rcases q with ⟨ha, x, e⟩ | ⟨ha, e⟩
  · exact .inl ⟨ha, x.1, x.2, e⟩
  · exact .inr ⟨ha, e⟩
theorem cut_outer (hF : FrmT ts) (hz : ts.length ≤ 16777216) {sp : D} {dep : Nat} : ∀ (l : List Nat) (row : List Sp) (x4 x5 x6 x7 : SV), (∀ s ∈ row, SpOk s) → row.length * (jt l.length + 1) ≤ 10000 → ∀ ω, NtW t P ts ω → ∃ ω', NtW t P ts ω' ∧ ((∃ r, cutP ts l.length row = some r ∧ ∃ y4 y5 y6 y7, loopD (gSet 4) l__law_cut_2 (l.map natD) [.val (ob 2), .val sp, .val (.int dep), .val (.list (row.map spD)), x4, x5, x6, x7] ω = some (.nx [.val (ob 2), .val sp, .val (.int dep), .val (.list (r.map spD)), y4, y5, y6, y7], ω')) ∨ (cutP ts l.length row = none ∧ loopD (gSet 4) l__law_cut_2 (l.map natD) [.val (ob 2), .val sp, .val (.int dep), .val (.list (row.map spD)), x4, x5, x6, x7] ω = some (.rt .none, ω')))
  | [], row, x4, x5, x6, x7, hr, hl, ω, hω => ⟨ω, hω, .inl ⟨row, rfl, x4, x5, x6, x7, rfl⟩⟩
  | k :: l, row, x4, x5, x6, x7, hr, hl, ω, hω => by
    rw [List.length_cons] at hl
    have hl1 : row.length ≤ 10000 := Nat.le_trans (Nat.le_mul_of_pos_right _ (by omega)) hl
    obtain ⟨ω1, i1, q⟩ := cut_inner hF hz (sp := sp) (dep := dep) hr hl1 (x4 := .val (natD k)) (x6 := x6) (x7 := x7) hω
    rw [List.length_cons, cutP]
    rcases q with ⟨ha, y6, y7, e⟩ | ⟨ha, e⟩
    · rw [if_pos ha]
      have e2 : l__law_cut_2 [.val (ob 2), .val sp, .val (.int dep), .val (.list (row.map spD)), .val (natD k), x5, x6, x7] ω = some (.nx [.val (ob 2), .val sp, .val (.int dep), .val (.list ((row.flatMap (hf ts)).map spD)), .val (natD k), .un, y6, y7], ω1) :=
        x_own (ds := []) rfl (seq_of (x_for1 (ds := row.map spD) rfl e) rfl)
      have hle := hf_le (ts := ts) row
      obtain ⟨ω2, i2, q⟩ := cut_outer hF hz (sp := sp) (dep := dep) l (row.flatMap (hf ts)) (.val (natD k)) .un y6 y7 (hf_ok hz hr) (by
        have h1 : (row.flatMap (hf ts)).length * (jt l.length + 1) ≤ 2 * row.length * (jt l.length + 1) := Nat.mul_le_mul_right _ hle
        rw [jt, show 2 * jt l.length + 1 + 1 = 2 * (jt l.length + 1) from by omega, ← Nat.mul_assoc, Nat.mul_comm row.length 2] at hl
        omega) ω1 i1
      refine ⟨ω2, i2, ?_⟩
      rcases q with ⟨r, h1, z4, z5, z6, z7, e3⟩ | ⟨h1, e3⟩
      · refine .inl ⟨r, h1, z4, z5, z6, z7, ?_⟩
        rw [List.map_cons]; unfold loopD
        simp only [gSet_ap, List.set_cons_succ, List.set_cons_zero, e2]
        exact e3
      · refine .inr ⟨h1, ?_⟩
        rw [List.map_cons]; unfold loopD
        simp only [gSet_ap, List.set_cons_succ, List.set_cons_zero, e2]
        exact e3
    · rw [if_neg (by rw [ha]; simp)]
      have e2 : l__law_cut_2 [.val (ob 2), .val sp, .val (.int dep), .val (.list (row.map spD)), .val (natD k), x5, x6, x7] ω = some (.rt .none, ω1) :=
        x_own (ds := []) rfl (seqR_of (x_for1 (ds := row.map spD) rfl e))
      refine ⟨ω1, i1, .inr ⟨rfl, ?_⟩⟩
      rw [List.map_cons]; unfold loopD
      simp only [gSet_ap, List.set_cons_succ, List.set_cons_zero, e2]
theorem lawCut_ok (hF : FrmT ts) (hz : ts.length ≤ 16777216) {s : Sp} (hs : SpOk s) {dep : Nat} (hd : dep ≤ 4) {ω : Wd} (hω : NtW t P ts ω) : ∃ ω', d__law_cut [ob 2, spD s, .int dep] ω = some (cutD (cutP ts dep [s]), ω') ∧ NtW t P ts ω' := by
  have h15 := jt4 hd
  obtain ⟨ω', i, q⟩ := cut_outer hF hz (sp := spD s) (dep := dep) (List.range dep) [s] .un .un .un .un (fun r hr => by rw [List.mem_singleton.mp hr]; exact hs) (by simp; omega) ω hω
  rw [List.length_range] at q
  refine ⟨ω', ?_, i⟩
  refine defD_of (ρ := [.val (ob 2), .val (spD s), .val (.int dep), .un, .un, .un, .un, .un]) (x_set (d := .list [spD s]) rfl ?_)
  have er : iRange (aCons (eVar 2) aNil) [.val (ob 2), .val (spD s), .val (.int dep), .val (.list [spD s]), .un, .un, .un, .un] ω = some ((List.range dep).map natD, ω) := x_rng rfl (by omega)
  rcases q with ⟨r, h1, z4, z5, z6, z7, e⟩ | ⟨h1, e⟩
  · rw [h1]
    refine seq_of (x_for1 er e) (x_ret ?_)
    rfl
  · rw [h1]
    exact seqR_of (x_for1 er e)
end G_k29
end

section
namespace G_k29
open PySem PySem.Spec L2 Dn
local instance : Tb := noTb
variable {t : List D} {P : List WO → Prop} {ts : List Ps}
/-! ## cuts, one by one -/
def bfsP (ts : List Ps) : Nat → Nat → List Sp → Option (List Sp)
  | 0, _, Q => some Q
  | r + 1, k, Q => match Q[k]? with
    | none => none
    | some s => match halfP ts s with
      | none => none
      | some p => bfsP ts r (k + 1) (Q ++ [p.1, p.2])
theorem bfs_row (r : Nat) : ∀ (row dn tl : List Sp), bfsP ts (row.length + r) dn.length (dn ++ row ++ tl) = if (row.all fun s => (halfP ts s).isSome) = true then bfsP ts r (dn.length + row.length) (dn ++ row ++ tl ++ row.flatMap (hf ts)) else none
  | [], dn, tl => by simp
  | s :: row, dn, tl => by
    have hq : (dn ++ s :: row ++ tl)[dn.length]? = some s := by simp
    rw [List.length_cons, show row.length + 1 + r = (row.length + r) + 1 from by omega, bfsP, hq]
    simp only
    cases e : halfP ts s with
    | none => simp [e]
    | some p =>
      have ih := bfs_row r row (dn ++ [s]) (tl ++ [p.1, p.2])
      have e1 : dn ++ s :: row ++ tl ++ [p.1, p.2] = (dn ++ [s]) ++ row ++ (tl ++ [p.1, p.2]) := by simp
      simp only [e1]
      rw [show dn.length + 1 = (dn ++ [s]).length by simp, ih]
      have e2 : dn ++ [s] ++ row ++ (tl ++ [p.1, p.2]) ++ row.flatMap (hf ts) = dn ++ s :: row ++ tl ++ (s :: row).flatMap (hf ts) := by
        rw [List.flatMap_cons, show hf ts s = [p.1, p.2] by unfold hf; rw [e]]; simp
      rw [e2, List.all_cons, e]
      have e3 : (dn ++ [s]).length + row.length = dn.length + (row.length + 1) := by simp; omega
      rw [e3]
      simp
theorem hf_len {row : List Sp} (h : (row.all fun s => (halfP ts s).isSome) = true) : (row.flatMap (hf ts)).length = 2 * row.length := by
  induction row with
  | nil => rfl
  | cons s row ih =>
    rw [List.all_cons, Bool.and_eq_true] at h
    obtain ⟨p, e⟩ := Option.isSome_iff_exists.mp h.1
    rw [List.flatMap_cons, List.length_append, ih h.2, List.length_cons, show hf ts s = [p.1, p.2] by unfold hf; rw [e]]
    simp; omega
theorem bfs_cut : ∀ (n : Nat) (row dn : List Sp), (∃ r, cutP ts n row = some r ∧ ∃ pre : List Sp, pre.length = dn.length + row.length * jt n ∧ bfsP ts (row.length * jt n) dn.length (dn ++ row) = some (pre ++ r)) ∨ (cutP ts n row = none ∧ bfsP ts (row.length * jt n) dn.length (dn ++ row) = none)
  | 0, row, dn => .inl ⟨row, rfl, dn, by simp [jt], by simp [jt, bfsP]⟩
  | n + 1, row, dn => by
    have q := bfs_row (ts := ts) ((2 * row.length) * jt n) row dn []
    have e1 : row.length * jt (n + 1) = row.length + 2 * row.length * jt n := by
      rw [jt, Nat.mul_add, Nat.mul_one, Nat.mul_comm 2 row.length, Nat.mul_assoc]; omega
    rw [List.append_nil] at q
    rw [e1, cutP, q]
    cases ha : (row.all fun s => (halfP ts s).isSome) with
    | false => exact .inr ⟨by simp, by simp⟩
    | true =>
      have hl := hf_len ha
      have ih := bfs_cut n (row.flatMap (hf ts)) (dn ++ row)
      rw [hl, List.length_append] at ih
      simp only [if_true]
      rcases ih with ⟨r, h1, pre, h2, h3⟩ | ⟨h1, h3⟩
      · exact .inl ⟨r, h1, pre, by omega, h3⟩
      · exact .inr ⟨h1, h3⟩
theorem slD_from (xs : List D) (n : Nat) : slD xs (some (n : Int)) none = xs.drop n := by
  simp only [slD, HT.sIx]
  rw [if_neg (by omega), Int.toNat_natCast]
  by_cases h : n ≤ xs.length
  · rw [Nat.min_eq_left h, List.take_of_length_le (by rw [List.length_drop]; exact Nat.le_refl _)]
  · rw [Nat.min_eq_right (by omega), Nat.sub_self, List.take_zero, List.drop_eq_nil_of_le (by omega)]
theorem due_pre {h : Int} {os : List Op} {k m : Nat} (hk : k ≤ m) : ∃ tl, dueL h os m = dueL h os k ++ tl := by
  refine ⟨((os.take m).drop k).flatMap Op.kids, ?_⟩
  unfold dueL
  have : os.take m = os.take k ++ (os.take m).drop k := by
    have q := (List.take_append_drop k (os.take m)).symm
    rw [List.take_take, Nat.min_eq_left hk] at q
    exact q
  rw [List.cons_append, ← List.flatMap_append, ← this]
theorem due_pos {h : Int} {os : List Op} {m : Nat} (hh : 1 ≤ h) (ho : ∀ o ∈ os, o.ok = true) : ∀ x ∈ dueL h os m, 1 ≤ x := fun x hx => by
  unfold dueL at hx
  rcases List.mem_cons.mp hx with rfl | hx
  · exact hh
  · obtain ⟨o, h1, h2⟩ := List.mem_flatMap.mp hx
    have := ho o (List.mem_of_mem_take h1)
    cases o with
    | st y => cases h2
    | jn a b c =>
      obtain ⟨ra, rb, _⟩ := jn_ok this
      unfold rg at ra rb
      rw [Bool.and_eq_true, decide_eq_true_eq, decide_eq_true_eq] at ra rb
      rcases List.mem_cons.mp h2 with rfl | h2
      · exact ra.1
      · rw [List.mem_singleton.mp h2]; exact rb.1
theorem cutTwo_ok {s : Sp} (hs : SpOk s) (hl : 1 ≤ s.l) {a b c : Int} {o : Op} (hok : (Op.jn a b c).ok = true) (ea : opAt ts s.h = some (.jn a b c)) (eo : opAt ts a = some o) {ω : Wd} (hω : NtW t P ts ω) : ∃ ω', d_cut_in_two [ob 2, spD s, od (.jn a b c), od o] ω = some (opnD (halfP ts s), ω') ∧ NtW t P ts ω' := by
  obtain ⟨h1, h2, h3, h4⟩ := hs
  obtain ⟨ra, rb, rc⟩ := jn_ok hok
  obtain ⟨ω', e4, h'⟩ := m_find hω (f := eVar 0) (a := aCons (eTup (aCons (eC (.str "behind")) (aCons (eBin opIx (eVar 1) (eC (.int 2))) (aCons (eBin opIx (eVar 2) (eC (.int 1))) aNil)))) aNil) (ρ := [.val (ob 2), .val (spD s), .val (od (.jn a b c)), .val (od o), .un]) (p := bhK s.b a) rfl (by simp [od_jn, spD]; rfl) (bhK_ok h3 h4 ra)
  refine ⟨ω', ?_, h'⟩
  refine defD_of (ρ := [.val (ob 2), .val (spD s), .val (od (.jn a b c)), .val (od o), .un]) (seq_of (set_of e4) (x_ret ?_))
  have hne : ¬ s.l = 0 := by omega
  by_cases hb : findI ts (bhK s.b a) = 0
  · simp [hb, halfP, ea, eo, hne, opnD]
  · rw [show opnD (halfP ts s) = prD (halfS s (findI ts (bhK s.b a)) o.last a b) by simp [halfP, ea, eo, hne, hb, opnD]]
    rw [eIf_ap, show (tOfE (eBin opEq (eVar 4) (eC (.int 0)))) ([SV.val (ob 2), .val (spD s), .val (od (.jn a b c)), .val (od o), .un].set 4 (.val (.int (findI ts (bhK s.b a))))) ω' = some (false, ω') by simp [hb]]
    refine x_fnP (xs := [spD s, .int (findI ts (bhK s.b a)), .int o.last, .int a, .int b]) ?_ (halfSpans_ok hl h2)
    simp [od_jn, od_last]
structure Inv (L : Int) (h : Int) (os : List Op) (k : Nat) (Q : List Sp) : Prop where
  len : Q.length = 2 * k + 1
  hs : Q.map Sp.h = dueL h os k
  ok : ∀ s ∈ Q, SpOk s
  lv : ∀ (j : Nat) (s : Sp), Q[j]? = some s → ∃ d : Nat, s.l = L - d ∧ 2 ^ d ≤ j + 1
theorem cut_loop (hF : FrmT ts) (hz : ts.length ≤ 16777216) {L h : Int} {os : List Op} {dep m : Nat} {sp : D} (hm : 2 ^ dep = m + 1) (hd : dep ≤ 4) (hL : (dep : Int) ≤ L) (hh : 1 ≤ h) (hl : os.length = 2 * m + 1) (ho : ∀ o ∈ os, o.ok = true) (hA : accP ts h os m = true) : ∀ (r k : Nat) (Q : List Sp) (x5 x6 : SV), k + r = m → Inv L h os k Q → ∀ ω, NtW t P ts ω → ∃ ω', NtW t P ts ω' ∧ ((∃ Q', bfsP ts r k Q = some Q' ∧ ∃ y5 y6, loopD (gSet 5) l_wide_cut_1 ((List.range' k r).map natD) [.val (ob 2), .val sp, .val (.int dep), .val (.tuple (os.map od)), .own (Q.map spD), x5, x6] ω = some (.nx [.val (ob 2), .val sp, .val (.int dep), .val (.tuple (os.map od)), .own (Q'.map spD), y5, y6], ω')) ∨ (bfsP ts r k Q = none ∧ loopD (gSet 5) l_wide_cut_1 ((List.range' k r).map natD) [.val (ob 2), .val sp, .val (.int dep), .val (.tuple (os.map od)), .own (Q.map spD), x5, x6] ω = some (.rt .none, ω')))
  | 0, k, Q, x5, x6, hk, hI, ω, hω => ⟨ω, hω, .inl ⟨Q, rfl, x5, x6, rfl⟩⟩
  | r + 1, k, Q, x5, x6, hk, hI, ω, hω => by
    have h15 := pw4 hd hm
    unfold accP at hA
    rw [Bool.and_eq_true, decide_eq_true_eq] at hA
    obtain ⟨hfit, hfind⟩ := hA
    have hA : accP ts h os m = true := by unfold accP; rw [hfit, hfind]; simp
    have hkm : k < m := by omega
    have hj := fit_joins hfit
    obtain ⟨a, b, c, ek⟩ := hj k hkm
    have hdk := due_len (h := h) (os := os) (m := k) (fun j hjk => hj j (by omega))
    have hkQ : k < Q.length := by rw [hI.len]; omega
    have hk1 : 2 * k + 1 < os.length := by omega
    obtain ⟨sk, eq⟩ : ∃ s, Q[k]? = some s := ⟨Q[k], List.getElem?_eq_getElem hkQ⟩
    have hsm : sk ∈ Q := List.mem_of_getElem? eq
    have hsok := hI.ok sk hsm
    -- its history
    have hh1 : (dueL h os k)[k]? = some sk.h := by rw [← hI.hs, List.getElem?_map, eq]; rfl
    have fat : ∀ (j : Nat) (o : Op) (x : Int), os[j]? = some o → (dueL h os m)[j]? = some x → opAt ts x = some o := fun j o x e1 e2 => by
      have e3 : (os.map fun o => findI ts o.key)[j]? = some (findI ts o.key) := by rw [List.getElem?_map, e1]; rfl
      rw [hfind, e2] at e3
      exact find_at (due_pos hh ho x (List.mem_of_getElem? e2)) (Option.some.inj e3).symm
    have eh : opAt ts sk.h = some (.jn a b c) := by
      obtain ⟨tl, et⟩ := due_pre (h := h) (os := os) (k := k) (m := m) (by omega)
      exact fat k _ _ ek (by rw [et, List.getElem?_append_left (by omega)]; exact hh1)
    have eo : opAt ts a = some os[2 * k + 1] := by
      obtain ⟨tl, et⟩ := due_pre (h := h) (os := os) (k := k + 1) (m := m) (by omega)
      refine fat (2 * k + 1) _ _ (List.getElem?_eq_getElem hk1) ?_
      rw [et, due_succ ek, List.append_assoc, List.getElem?_append_right (by omega), hdk]
      simp
    obtain ⟨d, hd1, hd2⟩ := hI.lv k sk eq
    have hdd : d < dep := by
      have : 2 ^ d < 2 ^ dep := by omega
      exact (Nat.pow_lt_pow_iff_right (by omega)).mp this
    have hok := at_ok hF eh
    obtain ⟨ω1, e6, i1⟩ := cutTwo_ok hsok (by omega) hok eh eo hω
    have e6' : eFun d_cut_in_two (aCons (eVar 0) (aCons (eIxOwn 4 (eVar 5)) (aCons (eBin opIx (eVar 3) (eVar 5)) (aCons (eBin opIx (eVar 3) (eBin opAdd (eBin opMul (eC (.int 2)) (eVar 5)) (eC (.int 1)))) aNil)))) [.val (ob 2), .val sp, .val (.int dep), .val (.tuple (os.map od)), .own (Q.map spD), .val (natD k), x6] ω = some (opnD (halfP ts sk), ω1) := by
      have e2 := opIx_od os (2 * k + 1)
      rw [List.getElem?_eq_getElem hk1, show ((2 * k + 1 : Nat) : Int) = 2 * (k : Int) + 1 from by omega] at e2
      have : (aCons (eVar 0) (aCons (eIxOwn 4 (eVar 5)) (aCons (eBin opIx (eVar 3) (eVar 5)) (aCons (eBin opIx (eVar 3) (eBin opAdd (eBin opMul (eC (.int 2)) (eVar 5)) (eC (.int 1)))) aNil)))) [.val (ob 2), .val sp, .val (.int dep), .val (.tuple (os.map od)), .own (Q.map spD), .val (natD k), x6] ω = some ([ob 2, spD sk, od (.jn a b c), od os[2 * k + 1]], ω) := by
        simp [natD, atI_natE, eq, ek, mul2, e2]
      rw [eFun_ap, this]
      exact e6
    rw [bfsP, eq, List.range'_succ, List.map_cons]
    simp only
    cases ehf : halfP ts sk with
    | none =>
      rw [ehf] at e6'
      refine ⟨ω1, i1, .inr ⟨rfl, ?_⟩⟩
      have e2 : l_wide_cut_1 [.val (ob 2), .val sp, .val (.int dep), .val (.tuple (os.map od)), .own (Q.map spD), .val (natD k), x6] ω = some (.rt .none, ω1) := seq_of (set_of e6') (x_seq' (x_ifT rfl (x_ret rfl)))
      unfold loopD
      simp only [gSet_ap, List.set_cons_succ, List.set_cons_zero, e2]
    | some p =>
      rw [ehf] at e6'
      obtain ⟨k1, k2, a', b', c', ea', ka, kb, kl1, kl2⟩ := halfP_ok hz hsok ehf
      rw [eh] at ea'
      cases ea'
      have e2 : l_wide_cut_1 [.val (ob 2), .val sp, .val (.int dep), .val (.tuple (os.map od)), .own (Q.map spD), .val (natD k), x6] ω = some (.nx [.val (ob 2), .val sp, .val (.int dep), .val (.tuple (os.map od)), .own ((Q ++ [p.1, p.2]).map spD), .val (natD k), .val (prD p)], ω1) := by
        rw [show (Q ++ [p.1, p.2]).map spD = Q.map spD ++ [spD p.1, spD p.2] by simp]
        refine seq_of (set_of e6') (x_seq (x_ifF rfl rfl) (x_extA1 (ds := [spD p.1, spD p.2]) (xs := Q.map spD) rfl rfl ?_))
        rw [List.length_map, hI.len]; simp; omega
      have hI' : Inv L h os (k + 1) (Q ++ [p.1, p.2]) := by
        refine ⟨by rw [List.length_append, hI.len]; simp; omega, ?_, fun s hs => ?_, fun j s hjs => ?_⟩
        · rw [due_succ ek, List.map_append, hI.hs]; simp [ka, kb]
        · rcases List.mem_append.mp hs with hs | hs
          · exact hI.ok s hs
          · rcases List.mem_cons.mp hs with rfl | hs
            · exact k1
            · rw [List.mem_singleton.mp hs]; exact k2
        · by_cases hjl : j < Q.length
          · rw [List.getElem?_append_left hjl] at hjs
            exact hI.lv j s hjs
          · rw [List.getElem?_append_right (by omega)] at hjs
            rw [hI.len] at hjs hjl
            have hp2 : 2 ^ (d + 1) = 2 * 2 ^ d := by rw [Nat.pow_succ]; omega
            have hjj : j - (2 * k + 1) = 0 ∨ j - (2 * k + 1) = 1 ∨ 2 ≤ j - (2 * k + 1) := by omega
            rcases hjj with e | e | e
            · rw [e] at hjs; cases hjs
              exact ⟨d + 1, by rw [kl1, hd1]; omega, by omega⟩
            · rw [e] at hjs; cases hjs
              exact ⟨d + 1, by rw [kl2, hd1]; omega, by omega⟩
            · rw [List.getElem?_eq_none (by simp; omega)] at hjs; cases hjs
      obtain ⟨ω2, i2, q⟩ := cut_loop hF hz (sp := sp) hm hd hL hh hl ho hA r (k + 1) (Q ++ [p.1, p.2]) (.val (natD k)) (.val (prD p)) (by omega) hI' ω1 i1
      refine ⟨ω2, i2, ?_⟩
      rcases q with ⟨Q', h1, y5, y6, e3⟩ | ⟨h1, e3⟩
      · refine .inl ⟨Q', h1, y5, y6, ?_⟩
        unfold loopD
        simp only [gSet_ap, List.set_cons_succ, List.set_cons_zero, e2]
        exact e3
      · refine .inr ⟨h1, ?_⟩
        unfold loopD
        simp only [gSet_ap, List.set_cons_succ, List.set_cons_zero, e2]
        exact e3
end G_k29
end

section
namespace G_k29
open PySem PySem.Spec L2 Dn
local instance : Tb := noTb
variable {t : List D} {P : List WO → Prop} {ts : List Ps}
/-! ## the judges at any value -/
theorem map_od_inj : ∀ {os os' : List Op}, os.map od = os'.map od → os = os'
  | [], [], _ => rfl
  | [], _ :: _, h => by cases h
  | _ :: _, [], h => by cases h
  | o :: os, o' :: os', h => by
    rw [List.map_cons, List.map_cons, List.cons.injEq] at h
    rw [od_inj h.1, map_od_inj h.2]
open Classical in
noncomputable def wpD (ts : List Ps) (h : Int) (dep : Nat) (v : D) : D :=
  if hv : ValO v (jt dep) then (if accP ts h hv.choose (jt dep) = true then outD h hv.choose (jt dep) else .none) else .none
theorem wpD_no {h : Int} {dep : Nat} {v : D} (hv : ¬ ValO v (jt dep)) : wpD ts h dep v = .none := by
  unfold wpD; rw [dif_neg hv]
theorem wpD_os {h : Int} {dep : Nat} {os : List Op} (ho : ∀ o ∈ os, o.ok = true) (hl : os.length = 2 * jt dep + 1) : wpD ts h dep (.tuple (os.map od)) = if accP ts h os (jt dep) = true then outD h os (jt dep) else .none := by
  have hv : ValO (.tuple (os.map od)) (jt dep) := ⟨os, rfl, ho, hl⟩
  unfold wpD
  rw [dif_pos hv]
  have := hv.choose_spec.1
  rw [PyData.tuple.injEq] at this
  rw [← map_od_inj this]
theorem wide_any {h : Int} {dep : Nat} {v : D} (hd : dep ≤ 4) (hv : Bv v) {ω : Wd} (hω : NtW t P ts ω) : ∃ ω', d_wide_parts [ob 2, .int h, .int dep, v] ω = some (wpD ts h dep v, ω') ∧ NtW t P ts ω' := by
  by_cases hV : ValO v (jt dep)
  · obtain ⟨os, rfl, ho, hl⟩ := hV
    rw [wpD_os ho hl]
    exact wide_os hd (jt_pow dep) hl ho hω
  · rw [wpD_no hV]
    exact ⟨ω, wide_no hd (jt_pow dep) hv hV, hω⟩
theorem law_any {h : Int} {dep : Nat} {v : D} (hd : dep ≤ 4) (hv : Bv v) {ω : Wd} (hω : NtW t P ts ω) : ∃ ω', d__law_parts [ob 2, .int h, .int dep, v] ω = some (wpD ts h dep v, ω') ∧ NtW t P ts ω' := by
  by_cases hV : ValO v (jt dep)
  · obtain ⟨os, rfl, ho, hl⟩ := hV
    rw [wpD_os ho hl]
    exact law_os hd (jt_pow dep) hl ho hω
  · rw [wpD_no hV]
    exact ⟨ω, law_no hd (jt_pow dep) hv hV, hω⟩
theorem out_okd {h : Int} {os : List Op} {m : Nat} (hm : m ≤ 100) : okD (outD h os m) = true ∧ dpt (outD h os m) ≤ 3 := by
  constructor
  · unfold outD
    rw [okD, Bool.and_eq_true, decide_eq_true_eq]
    refine ⟨by simp; omega, okL_of' fun x hx => ?_⟩
    obtain ⟨k, _, rfl⟩ := List.mem_map.mp hx
    rfl
  · unfold outD
    rw [dpt]
    have := dptL_of (n := 2) (xs := (List.range (m + 1)).map fun k => .tuple [.int ((dueL h os m).getD (m + k) 0), .int (lastO os (m + k))]) fun x hx => by
      obtain ⟨k, _, rfl⟩ := List.mem_map.mp hx
      simp [dpt, dptL]
    omega
theorem wpD_okd {h : Int} {dep : Nat} {v : D} (hd : dep ≤ 4) : okD (wpD ts h dep v) = true ∧ dpt (wpD ts h dep v) ≤ 3 := by
  have h15 := jt4 hd
  unfold wpD
  split
  · split
    · exact out_okd (by omega)
    · exact ⟨rfl, by simp [dpt]⟩
  · exact ⟨rfl, by simp [dpt]⟩
/-- where a value is taken -/
theorem wpD_some {h : Int} {dep : Nat} {v : D} (hn : isNon (wpD ts h dep v) = false) : ∃ os : List Op, v = .tuple (os.map od) ∧ (∀ o ∈ os, o.ok = true) ∧ os.length = 2 * jt dep + 1 ∧ accP ts h os (jt dep) = true := by
  by_cases hV : ValO v (jt dep)
  · obtain ⟨os, rfl, ho, hl⟩ := hV
    rw [wpD_os ho hl] at hn
    by_cases hA : accP ts h os (jt dep) = true
    · exact ⟨os, rfl, ho, hl, hA⟩
    · rw [if_neg hA] at hn; cases hn
  · rw [wpD_no hV] at hn; cases hn
/-- what the cut by a value is -/
noncomputable def wcD (ts : List Ps) (s : Sp) (dep : Nat) (v : D) : D := if s.l < dep then .none else if isNon (wpD ts s.h dep v) = true then .none else cutD (cutP ts dep [s])
theorem wideCut_any (hF : FrmT ts) (hz : ts.length ≤ 16777216) {s : Sp} (hs : SpOk s) (hh : 1 ≤ s.h) {dep : Nat} {v : D} (hd : dep ≤ 4) (hv : Bv v) {ω : Wd} (hω : NtW t P ts ω) : ∃ ω', d_wide_cut [ob 2, spD s, .int dep, v] ω = some (wcD ts s dep v, ω') ∧ NtW t P ts ω' := by
  have h15 := jt4 hd
  unfold wcD
  by_cases hl : s.l < dep
  · rw [if_pos hl]
    refine ⟨ω, ?_, hω⟩
    refine defD_of (ρ := [.val (ob 2), .val (spD s), .val (.int dep), .val v, .un, .un, .un]) (x_seq' (x_ifT (x_orT ?_) (x_ret rfl)))
    simp [spD, hl]
  rw [if_neg hl]
  obtain ⟨ω1, e1, h1⟩ := wide_any (h := s.h) hd hv hω
  have ec : (tOrD (tOfE (eBin opLt (eBin opIx (eVar 1) (eC (.int 0))) (eVar 2))) (tOfE (eBin opIsN (eFun d_wide_parts (aCons (eVar 0) (aCons (eBin opIx (eVar 1) (eC (.int 4))) (aCons (eVar 2) (aCons (eVar 3) aNil))))) (eC .none)))) [.val (ob 2), .val (spD s), .val (.int dep), .val v, .un, .un, .un] ω = some (isNon (wpD ts s.h dep v), ω1) := by
    have ea : (aCons (eVar 0) (aCons (eBin opIx (eVar 1) (eC (.int 4))) (aCons (eVar 2) (aCons (eVar 3) aNil)))) [.val (ob 2), .val (spD s), .val (.int dep), .val v, .un, .un, .un] ω = some ([ob 2, .int s.h, .int dep, v], ω) := by simp [spD]
    have ef : eFun d_wide_parts (aCons (eVar 0) (aCons (eBin opIx (eVar 1) (eC (.int 4))) (aCons (eVar 2) (aCons (eVar 3) aNil)))) [.val (ob 2), .val (spD s), .val (.int dep), .val v, .un, .un, .un] ω = some (wpD ts s.h dep v, ω1) := by rw [eFun_ap, ea]; exact e1
    rw [tOrD_ap, show tOfE (eBin opLt (eBin opIx (eVar 1) (eC (.int 0))) (eVar 2)) [.val (ob 2), .val (spD s), .val (.int dep), .val v, .un, .un, .un] ω = some (false, ω) by simp [spD]; omega]
    simp only [Bool.false_eq_true, if_false]
    rw [tOfE_ap, eBin_ap, ef]
    simp
  cases hN : isNon (wpD ts s.h dep v) with
  | true =>
    rw [if_pos rfl]
    exact ⟨ω1, defD_of (ρ := [.val (ob 2), .val (spD s), .val (.int dep), .val v, .un, .un, .un]) (seqR_of (ifT_of (ec.trans (by rw [hN])) (x_ret rfl))), h1⟩
  | false =>
    rw [if_neg (by simp)]
    obtain ⟨os, rfl, ho, hl2, hA⟩ := wpD_some hN
    have hI : Inv s.l s.h os 0 [s] := ⟨rfl, by simp [dueL], fun r hr => by rw [List.mem_singleton.mp hr]; exact hs, fun j r hj => by
      cases j with
      | zero => cases hj; exact ⟨0, by omega, by omega⟩
      | succ j => simp at hj⟩
    obtain ⟨ω2, i2, q⟩ := cut_loop hF hz (sp := spD s) (jt_pow dep) hd (by omega) hh hl2 ho hA (jt dep) 0 [s] .un .un (by omega) hI ω1 h1
    refine ⟨ω2, ?_, i2⟩
    have hb := bfs_cut (ts := ts) dep [s] []
    simp only [List.length_singleton, Nat.one_mul, List.length_nil, List.nil_append, Nat.zero_add] at hb
    refine defD_of (ρ := [.val (ob 2), .val (spD s), .val (.int dep), .val (.tuple (os.map od)), .un, .un, .un]) (seq_of (ifF_of (ec.trans (by rw [hN])) rfl) (x_own (ds := [spD s]) rfl ?_))
    have hdiv : ((os.length : Int) / 2) = (jt dep : Int) := by omega
    have er : iRange (aCons (eBin opDiv (eCall opLen (aCons (eVar 3) aNil)) (eC (.int 2))) aNil) [.val (ob 2), .val (spD s), .val (.int dep), .val (.tuple (os.map od)), .own [spD s], .un, .un] ω1 = some ((List.range' 0 (jt dep)).map natD, ω1) := by
      rw [x_rng (n := jt dep) (by simp [div2, hdiv]) (by omega), List.range_eq_range']
    rcases q with ⟨Q', e2, y5, y6, e3⟩ | ⟨e2, e3⟩
    · rcases hb with ⟨r, g1, pre, g2, g3⟩ | ⟨_, g3⟩
      · rw [g3] at e2
        cases e2
        rw [g1]
        refine seq_of (x_for1 er e3) (x_ret ?_)
        have hs2 : slD ((pre ++ r).map spD) (some (jt dep : Int)) none = r.map spD := by
          rw [slD_from, List.map_append, List.drop_append_of_le_length (by rw [List.length_map, g2]; omega), List.drop_eq_nil_of_le (by rw [List.length_map, g2]; omega)]
          rfl
        rw [List.map_append] at hs2
        simp [div2, hdiv, opSl, hs2, cutD]
      · rw [g3] at e2; cases e2
    · rcases hb with ⟨r, g1, pre, g2, g3⟩ | ⟨g1, g3⟩
      · rw [g3] at e2; cases e2
      · rw [g1]
        exact seqR_of (x_for1 er e3)
theorem cutP_len : ∀ (n : Nat) (row r : List Sp), cutP ts n row = some r → r.length ≤ row.length * (jt n + 1)
  | 0, row, r, h => by cases h; simp [jt]
  | n + 1, row, r, h => by
    rw [cutP] at h
    split at h
    · have := cutP_len n _ _ h
      have hle := hf_le (ts := ts) row
      have h1 : (row.flatMap (hf ts)).length * (jt n + 1) ≤ 2 * row.length * (jt n + 1) := Nat.mul_le_mul_right _ hle
      rw [jt, show 2 * jt n + 1 + 1 = 2 * (jt n + 1) from by omega, ← Nat.mul_assoc, Nat.mul_comm row.length 2]
      omega
    · cases h
theorem cutD_okd {s : Sp} {dep : Nat} (hd : dep ≤ 4) : okD (cutD (cutP ts dep [s])) = true ∧ dpt (cutD (cutP ts dep [s])) ≤ 3 := by
  have h15 := jt4 hd
  unfold cutD
  cases e : cutP ts dep [s] with
  | none => exact ⟨rfl, by simp [dpt]⟩
  | some r =>
    have hl := cutP_len _ _ _ e
    simp only [List.length_singleton, Nat.one_mul] at hl
    constructor
    · show okD (.tuple (r.map spD)) = true
      rw [okD, Bool.and_eq_true, decide_eq_true_eq]
      refine ⟨by rw [List.length_map]; omega, okL_of' fun x hx => ?_⟩
      obtain ⟨k, _, rfl⟩ := List.mem_map.mp hx
      rfl
    · show dpt (.tuple (r.map spD)) ≤ 3
      rw [dpt]
      have := dptL_of (n := 2) (xs := r.map spD) fun x hx => by
        obtain ⟨k, _, rfl⟩ := List.mem_map.mp hx
        simp [spD, dpt, dptL]
      omega
theorem osD_Bv (o : Option (List Op)) : Bv (osD o) := by
  cases o with
  | none => exact ⟨rfl, by simp [osD, PyData.depth]⟩
  | some os =>
    refine ⟨plainAll_of fun x hx => ?_, ?_⟩
    · obtain ⟨o, _, rfl⟩ := List.mem_map.mp hx
      exact (od_Bv o).1
    · have := depthAll_of (n := 1) (l := os.map od) fun x hx => by
        obtain ⟨o, _, rfl⟩ := List.mem_map.mp hx
        cases o <;> simp [od_st, od_jn, PyData.depth, PyData.depthAll]
      show (PyData.tuple (os.map od)).depth ≤ 40
      rw [PyData.depth]; omega
theorem same_eq : d__law_same = dSameD := by
  funext n
  induction n with
  | zero => rfl
  | succ n ih => show defD 4 (b__law_same (d__law_same n)) = _; rw [ih]; rfl
theorem draw_eq : d__law_draw = dDraw := rfl
end G_k29
end

section
namespace G_k29
open PySem PySem.Spec L2 Dn
local instance : Tb := noTb
variable {t : List D} {P : List WO → Prop}
/-! ## how the book grows -/
def Ref (ts : List Ps) (i : Int) : Prop := 1 ≤ i ∧ i ≤ 140737488356000 ∧ (i ≤ ts.length ∨ 16777216 < i)
structure Wf (M : Int) (ts : List Ps) : Prop where
  frm : FrmT ts
  nod : ts.Nodup
  clo : ∀ o : Op, o.key ∈ ts → ∀ i ∈ o.kids, Ref ts i
  lst : ∀ o : Op, o.key ∈ ts → o.last ≤ M
  bh : M < 3000 → ∀ b a, bhK b a ∉ ts
theorem Wf.mono {M M' : Int} {ts : List Ps} (w : Wf M ts) (h : M ≤ M') : Wf M' ts := ⟨w.frm, w.nod, w.clo, fun o ho => Int.le_trans (w.lst o ho) h, fun hM => w.bh (by omega)⟩
def Ext (ts ts' : List Ps) (n : Nat) : Prop := (∃ e, ts' = ts ++ e) ∧ ts'.length ≤ ts.length + n
theorem Ext.refl (ts : List Ps) (n : Nat) : Ext ts ts n := ⟨⟨[], by simp⟩, by omega⟩
theorem Ext.trans {a b c : List Ps} {n m : Nat} (h : Ext a b n) (k : Ext b c m) : Ext a c (n + m) := by
  obtain ⟨⟨e, rfl⟩, h2⟩ := h
  obtain ⟨⟨f, rfl⟩, k2⟩ := k
  exact ⟨⟨e ++ f, by simp⟩, by omega⟩
theorem Ext.mono {a b : List Ps} {n m : Nat} (h : Ext a b n) (hm : n ≤ m) : Ext a b m := ⟨h.1, by have := h.2; omega⟩
theorem Ext.le {a b : List Ps} {n : Nat} (h : Ext a b n) : a.length ≤ b.length := by
  obtain ⟨⟨e, rfl⟩, _⟩ := h; simp
theorem Ref.ext {a b : List Ps} {n : Nat} {i : Int} (r : Ref a i) (h : Ext a b n) : Ref b i := by
  have := h.le
  obtain ⟨h1, h2, h3⟩ := r
  exact ⟨h1, h2, by omega⟩
theorem Ref.rg {ts : List Ps} {i : Int} (r : Ref ts i) : rg i = true := by
  obtain ⟨h1, h2, _⟩ := r
  unfold G_k29.rg
  rw [decide_eq_true h1, decide_eq_true (by omega)]; rfl
/-- what may be sealed -/
def New (M : Int) (ts : List Ps) (p : Ps) : Prop := okP p = true ∧ Frm p ∧ (∀ o : Op, p = o.key → ((∀ i ∈ o.kids, Ref ts i) ∧ o.last ≤ M)) ∧ (M < 3000 → ∀ b a, p ≠ bhK b a)
theorem put_wf {M : Int} {ts : List Ps} (w : Wf M ts) {p : Ps} (n : New M ts p) (hz : ts.length < 16777216) : Wf M (putP ts p) ∧ Ext ts (putP ts p) 1 ∧ Ref (putP ts p) (findI (putP ts p) p) := by
  obtain ⟨h1, h2, h3, h4⟩ := n
  cases e : fnd ts p with
  | some i =>
    have ep : putP ts p = ts := by unfold putP; rw [e]; rfl
    rw [ep]
    have hi := fnd_lt e
    refine ⟨w, .refl _ _, ?_⟩
    unfold findI
    rw [e]
    refine ⟨?_, ?_, .inl ?_⟩ <;> simp <;> omega
  | none =>
    have ep : putP ts p = ts ++ [p] := by unfold putP; rw [e]; rfl
    rw [ep]
    have hx : Ext ts (ts ++ [p]) 1 := ⟨⟨[p], rfl⟩, by simp⟩
    have hnm := fnd_none e
    refine ⟨⟨fun q hq => ?_, ?_, fun o ho i hi => ?_, fun o ho => ?_, fun hM b a hm => ?_⟩, hx, ?_⟩
    · rcases List.mem_append.mp hq with hq | hq
      · exact w.frm q hq
      · rw [List.mem_singleton.mp hq]; exact h2
    · rw [List.nodup_append]
      refine ⟨w.nod, by simp, fun a ha b hb => ?_⟩
      rw [List.mem_singleton.mp hb]
      exact fun e => hnm (e ▸ ha)
    · rcases List.mem_append.mp ho with ho | ho
      · exact (w.clo o ho i hi).ext hx
      · exact ((h3 o (List.mem_singleton.mp ho).symm).1 i hi).ext hx
    · rcases List.mem_append.mp ho with ho | ho
      · exact w.lst o ho
      · exact (h3 o (List.mem_singleton.mp ho).symm).2
    · rcases List.mem_append.mp hm with hm | hm
      · exact w.bh hM b a hm
      · exact h4 hM b a (List.mem_singleton.mp hm).symm
    · unfold findI
      rw [fnd_app e]
      refine ⟨?_, ?_, .inl ?_⟩ <;> simp <;> omega
theorem key_inj : ∀ {o o' : Op}, o.key = o'.key → o = o' := fun {o o'} h => od_inj (show od o = od o' by unfold od; rw [h])
theorem sb_ne : (Str.ofString "step" = Str.ofString "behind") = False := by decide
theorem jb_ne : (Str.ofString "join" = Str.ofString "behind") = False := by decide
theorem new_op {M : Int} {ts : List Ps} {o : Op} (ho : o.ok = true) (hk : ∀ i ∈ o.kids, Ref ts i) (hM : o.last ≤ M) : New M ts o.key := ⟨key_ok ho, .inl ⟨o, ho, rfl⟩, fun o' e => by rw [← key_inj e]; exact ⟨hk, hM⟩, fun _ b a e => by cases o <;> simp [Op.key, bhK, sb_ne, jb_ne] at e⟩
theorem seal_new {M : Int} {ts ts1 : List Ps} {ω ω1 : Wd} (hω : NtW t P ts ω) (h1 : NtW t P ts1 ω1) (w : Wf M ts1) {f : DE} {a : DA} {ρ : Ro} {p : Ps} (hf : f ρ ω = some (ob 2, ω)) (ha : a ρ ω = some ([tupD p], ω1)) (n : New M ts1 p) (hz : ts1.length < 16777216) : ∃ ts' ω' i, eMethD "Notary" "seal" f d_Notary__seal a ρ ω = some (.int i, ω') ∧ NtW t P ts' ω' ∧ Wf M ts' ∧ Ext ts1 ts' 1 ∧ Ref ts' i := by
  obtain ⟨ω', e, h'⟩ := m_seal hω h1 hf ha n.1 hz
  obtain ⟨w', x, r⟩ := put_wf w n hz
  exact ⟨_, ω', _, e, h', w', x, r⟩
/-! ## histories of rows -/
theorem steps_lc {ρ : Ro} (h0 : ρ[0]? = some (.val (ob 2))) (h8 : 8 < ρ.length) : ∀ (rs : List Int) (ts : List Ps) (ω : Wd), (∀ x ∈ rs, 1 ≤ x ∧ x ≤ 1000) → NtW t P ts ω → Wf 1000 ts → ts.length + rs.length ≤ 10000 → ∃ ts' ω' xs, lcD (gSet 8) tYesD (eMethD "Notary" "seal" (eVar 0) d_Notary__seal (aCons (eTup (aCons (eC (.str "step")) (aCons (eVar 8) aNil))) aNil)) ρ (rs.map .int) ω = some ((xs : List Int).map .int, ω') ∧ NtW t P ts' ω' ∧ Wf 1000 ts' ∧ Ext ts ts' rs.length ∧ xs.length = rs.length ∧ ∀ x ∈ xs, Ref ts' x
  | [], ts, ω, _, hω, w, _ => ⟨ts, ω, [], rfl, hω, w, .refl _ _, rfl, by simp⟩
  | x :: rs, ts, ω, hx, hω, w, hz => by
    rw [List.length_cons] at hz
    have hx1 := hx x (List.mem_cons_self ..)
    have hrg : rg x = true := by unfold rg; rw [decide_eq_true hx1.1, decide_eq_true (by omega)]; rfl
    have e0 : (ρ.set 8 (.val (.int x)))[0]? = some (.val (ob 2)) := by rw [List.getElem?_set_ne (by decide)]; exact h0
    have e8 : (ρ.set 8 (.val (.int x)))[8]? = some (.val (.int x)) := by rw [List.getElem?_set_self (by omega)]
    obtain ⟨ts1, ω1, i, e, h1, w1, x1, r1⟩ := seal_new (t := t) (P := P) hω hω w (f := eVar 0) (a := aCons (eTup (aCons (eC (.str "step")) (aCons (eVar 8) aNil))) aNil) (ρ := ρ.set 8 (.val (.int x))) (p := (Op.st x).key) (by simp [e0]) (by simp [e8]; rfl) (new_op hrg (by simp [Op.kids]) hx1.2) (by omega)
    have hle := x1.2
    obtain ⟨ts2, ω2, xs, e2, h2, w2, x2, hl, r2⟩ := steps_lc h0 h8 rs ts1 ω1 (fun y hy => hx y (List.mem_cons_of_mem _ hy)) h1 w1 (by omega)
    refine ⟨ts2, ω2, i :: xs, ?_, h2, w2, (x1.trans x2).mono (by rw [List.length_cons]; omega), by rw [List.length_cons, hl, List.length_cons], fun y hy => ?_⟩
    · rw [List.map_cons]; unfold lcD
      simp only [gSet_ap, tYesD_ap, if_true, e, e2, List.map_cons]
    · rcases List.mem_cons.mp hy with rfl | hy
      · exact r1.ext x2
      · exact r2 y hy
end G_k29
end

section
namespace G_k29
open PySem PySem.Spec L2 Dn
local instance : Tb := noTb
variable {t : List D} {P : List WO → Prop}
theorem fits_of {n : Int} (h1 : -3000000 ≤ n) (h2 : n ≤ 3000000) : Builtin.Range.rangeFitsLong n = true := by
  unfold Builtin.Range.rangeFitsLong; simp; omega
theorem small_of {j n : Int} (hz : Builtin.Range.rangeSize 0 j 2 = n) (h1 : 0 ≤ j) (h2 : j ≤ 1000000) (h3 : 0 ≤ n) (h4 : n ≤ 1000000) : Builtin.Range.small 0 j 2 = true := by
  unfold Builtin.Range.small
  rw [hz]
  simp
  exact ⟨⟨⟨⟨fits_of (by omega) (by omega), fits_of (by omega) (by omega)⟩, fits_of (by omega) (by omega)⟩, fits_of (by omega) (by omega)⟩, .inr (fits_of (by omega) (by omega))⟩
theorem x_rng3 {f : DE} {ρ : Ro} {ω : Wd} {n : Nat} (e : f ρ ω = some (.int ((2 * n : Nat) : Int), ω)) (hn : n ≤ 100000) : iRange3 (aCons (eC (.int 0)) (aCons f (aCons (eC (.int 2)) aNil))) ρ ω = some ((List.range n).map fun (k : Nat) => .int (2 * (k : Int)), ω) := by
  have hz : Builtin.Range.rangeSize 0 ((2 * n : Nat) : Int) 2 = n := by
    unfold Builtin.Range.rangeSize
    rw [if_pos (by decide)]
    split <;> omega
  have hr : rg3N 0 ((2 * n : Nat) : Int) 2 = n := by unfold rg3N; rw [hz]; simp
  have ok : rg3Ok 0 ((2 * n : Nat) : Int) 2 = true := by
    rw [rg3Ok_eq, hr, hz, small_of hz (by omega) (by omega) (by omega) (by omega)]
    simp
    omega
  rw [iRange3_ap, aCons_ap]
  simp only [eC_ap, aCons_ap, e, aNil_ap]
  rw [if_pos ok, rg3D, hr]
  have : (fun (k : Nat) => PyData.int (0 + (k : Int) * 2)) = fun (k : Nat) => PyData.int (2 * (k : Int)) := funext fun k => by rw [show 0 + (k : Int) * 2 = 2 * (k : Int) from by omega]
  rw [this]
/-- one row above another -/
theorem above_loop {N : D} (hN : N = ob 2) {rs : List Int} (hr : ∀ x ∈ rs, 1 ≤ x ∧ x ≤ 1000) {xs : List Int} {wd : Nat} {R : SV} : ∀ (n k : Nat) (ys : List Int) (x6 x7 x8 : SV) (ts : List Ps) (ω : Wd), 2 * (k + n) = xs.length → (k + n) * wd ≤ rs.length → 1 ≤ wd → wd ≤ 2000 → ys.length = k → (∀ x ∈ xs, Ref ts x) → (∀ x ∈ ys, Ref ts x) → NtW t P ts ω → Wf 1000 ts → ts.length + n ≤ 10000 → xs.length ≤ 2000 → ∃ ts' ω' zs x6' x7' x8', loopD (gSet 6) l_rows_above_1 ((List.range' k n).map fun (j : Nat) => .int (2 * (j : Int))) [.val N, .val (.tuple (rs.map .int)), .val (.list (xs.map .int)), R, .val (.int wd), .own (ys.map .int), x6, x7, x8] ω = some (.nx [.val N, .val (.tuple (rs.map .int)), .val (.list (xs.map .int)), R, .val (.int wd), .own ((zs : List Int).map .int), x6', x7', x8'], ω') ∧ NtW t P ts' ω' ∧ Wf 1000 ts' ∧ Ext ts ts' n ∧ zs.length = k + n ∧ ∀ x ∈ zs, Ref ts' x
  | 0, k, ys, x6, x7, x8, ts, ω, _, _, _, _, hy, _, hys, hω, w, _, _ => ⟨ts, ω, ys, x6, x7, x8, rfl, hω, w, .refl _ _, by omega, hys⟩
  | n + 1, k, ys, x6, x7, x8, ts, ω, hl, hw, hw1, hw2, hy, hxs, hys, hω, w, hz, hx2 => by
    subst hN
    have hka : 2 * k < xs.length := by omega
    have hkb : 2 * k + 1 < xs.length := by omega
    have hkw : (k + 1) * wd ≤ rs.length := Nat.le_trans (Nat.mul_le_mul_right _ (by omega)) hw
    have hkw1 : 1 ≤ (k + 1) * wd := Nat.mul_pos (by omega) hw1
    have hlast : (k + 1) * wd - 1 < rs.length := by omega
    have hra := hxs _ (List.getElem_mem hka)
    have hrb := hxs _ (List.getElem_mem hkb)
    have hrl := hr _ (List.getElem_mem hlast)
    have hrg : rg rs[(k + 1) * wd - 1] = true := by unfold rg; rw [decide_eq_true hrl.1, decide_eq_true (by omega)]; rfl
    have e7 : eBin opIx (eVar 1) (eBin opSub (eBin opMul (eBin opAdd (eBin opDiv (eVar 6) (eC (.int 2))) (eC (.int 1))) (eVar 4)) (eC (.int 1))) [.val (ob 2), .val (.tuple (rs.map .int)), .val (.list (xs.map .int)), R, .val (.int wd), .own (ys.map .int), .val (.int (2 * (k : Int))), x7, x8] ω = some (.int rs[(k + 1) * wd - 1], ω) := by
      have q1 : (2 * (k : Int)) / 2 = (k : Int) := by omega
      have q2 : opMul (.int ((k : Int) + 1)) (.int (wd : Int)) = some (.int (((k + 1) * wd : Nat) : Int)) := by
        rw [show opMul (.int ((k : Int) + 1)) (.int (wd : Int)) = some (.int (((k : Int) + 1) * (wd : Int))) by simp [opMul, mulOk_r (i := (k : Int) + 1) (j := (wd : Int)) (by omega) (by omega)]]
        simp
      have q3 : ((((k + 1) * wd : Nat) : Int) - 1) = (((k + 1) * wd - 1 : Nat) : Int) := by omega
      simp only [eBin_ap, eVar_ap, List.getElem?_cons_succ, List.getElem?_cons_zero, eC_ap, div2, q1, opAdd_int, q2, opSub_int, q3, opIx_tupN, List.getElem?_map, List.getElem?_eq_getElem hlast, Option.map_some]
    have ea : aCons (eTup (aCons (eC (.str "join")) (aCons (eBin opIx (eVar 2) (eVar 6)) (aCons (eBin opIx (eVar 2) (eBin opAdd (eVar 6) (eC (.int 1)))) (aCons (eVar 7) aNil))))) aNil [.val (ob 2), .val (.tuple (rs.map .int)), .val (.list (xs.map .int)), R, .val (.int wd), .own (ys.map .int), .val (.int (2 * (k : Int))), .val (.int rs[(k + 1) * wd - 1]), x8] ω = some ([tupD (Op.jn xs[2 * k] xs[2 * k + 1] rs[(k + 1) * wd - 1]).key], ω) := by
      have q1 : opIx (.list (xs.map .int)) (.int (2 * (k : Int))) = some (.int xs[2 * k]) := by
        have := opIx_lstN (xs.map .int) (2 * k)
        rw [show ((2 * k : Nat) : Int) = 2 * (k : Int) from by omega] at this
        rw [this, List.getElem?_map, List.getElem?_eq_getElem hka]; rfl
      have q2 : opIx (.list (xs.map .int)) (.int (2 * (k : Int) + 1)) = some (.int xs[2 * k + 1]) := by
        have := opIx_lstN (xs.map .int) (2 * k + 1)
        rw [show ((2 * k + 1 : Nat) : Int) = 2 * (k : Int) + 1 from by omega] at this
        rw [this, List.getElem?_map, List.getElem?_eq_getElem hkb]; rfl
      simp [q1, q2]
      rfl
    obtain ⟨ts1, ω1, i, e, h1, w1, x1, r1⟩ := seal_new (t := t) (P := P) hω hω w (f := eVar 0) rfl ea (new_op (show (rg xs[2 * k] && (rg xs[2 * k + 1] && rg rs[(k + 1) * wd - 1])) = true by rw [hra.rg, hrb.rg, hrg]; rfl) (fun j hj => by
      rcases List.mem_cons.mp hj with rfl | hj
      · exact hra
      · rw [List.mem_singleton.mp hj]; exact hrb) hrl.2) (by omega)
    have hle := x1.2
    obtain ⟨ts2, ω2, zs, y6, y7, y8, e2, h2, w2, x2, hzl, hzr⟩ := above_loop (N := ob 2) rfl hr (xs := xs) (wd := wd) (R := R) n (k + 1) (ys ++ [i]) (.val (.int (2 * (k : Int)))) (.val (.int rs[(k + 1) * wd - 1])) x8 ts1 ω1 (by omega) (by rw [show k + 1 + n = k + (n + 1) from by omega]; exact hw) hw1 hw2 (by simp; omega) (fun x hx => (hxs x hx).ext x1) (fun x hx => by
      rcases List.mem_append.mp hx with hx | hx
      · exact (hys x hx).ext x1
      · rw [List.mem_singleton.mp hx]; exact r1) h1 w1 (by omega) hx2
    refine ⟨ts2, ω2, zs, y6, y7, y8, ?_, h2, w2, (x1.trans x2).mono (by omega), by omega, hzr⟩
    have e3 : l_rows_above_1 [.val (ob 2), .val (.tuple (rs.map .int)), .val (.list (xs.map .int)), R, .val (.int wd), .own (ys.map .int), .val (.int (2 * (k : Int))), x7, x8] ω = some (.nx [.val (ob 2), .val (.tuple (rs.map .int)), .val (.list (xs.map .int)), R, .val (.int wd), .own ((ys ++ [i]).map .int), .val (.int (2 * (k : Int))), .val (.int rs[(k + 1) * wd - 1]), x8], ω1) := by
      refine x_set e7 ?_
      rw [sApp_ap, show eMethD "Notary" "seal" (eVar 0) d_Notary__seal (aCons (eTup (aCons (eC (.str "join")) (aCons (eBin opIx (eVar 2) (eVar 6)) (aCons (eBin opIx (eVar 2) (eBin opAdd (eVar 6) (eC (.int 1)))) (aCons (eVar 7) aNil))))) aNil) ([SV.val (ob 2), .val (.tuple (rs.map .int)), .val (.list (xs.map .int)), R, .val (.int wd), .own (ys.map .int), .val (.int (2 * (k : Int))), x7, x8].set 7 (.val (.int rs[(k + 1) * wd - 1]))) ω = some (.int i, ω1) from e]
      have hzz : (ys.map PyData.int).length < sizeLine := by rw [List.length_map, hy, sizeLine_num]; omega
      simp [hzz, hy]
      rw [sizeLine_num] at hzz ⊢
      simp at hzz
      omega
    rw [List.range'_succ, List.map_cons]
    unfold loopD
    simp only [gSet_ap, List.set_cons_succ, List.set_cons_zero, e3]
    exact e2
end G_k29
end

section
namespace G_k29
open PySem PySem.Spec L2 Dn
local instance : Tb := noTb
variable {t : List D} {P : List WO → Prop}
theorem rows_loop {rs : List Int} (hr : ∀ x ∈ rs, 1 ≤ x ∧ x ≤ 1000) (hrl : rs.length ≤ 1024) : ∀ (j : Nat) (fuel : Nat) (xs : List Int) (wd : Nat) (Y : List D) (x5 x6 x7 x8 : SV) (ts : List Ps) (ω : Wd), j < fuel → j ≤ 10 → xs.length = 2 ^ j → 2 ^ j * wd = rs.length → 1 ≤ wd → Y.length + j ≤ 100 → (∀ x ∈ xs, Ref ts x) → NtW t P ts ω → Wf 1000 ts → ts.length + 2 ^ j ≤ 9000 → ∃ ts' ω' Y' z y4 y5 y6 y7 y8 y2, whileD (tOfE (eBin opGt (eCall opLen (aCons (eVar 2) aNil)) (eC (.int 1)))) l_rows_above_2 fuel [.val (ob 2), .val (.tuple (rs.map .int)), .val (.list (xs.map .int)), .own (Y ++ [.list (xs.map .int)]), .val (.int wd), x5, x6, x7, x8] ω = some (.nx [.val (ob 2), .val (.tuple (rs.map .int)), y2, .own ((Y' : List D) ++ [.list [.int z]]), y4, y5, y6, y7, y8], ω') ∧ NtW t P ts' ω' ∧ Wf 1000 ts' ∧ Ext ts ts' (2 ^ j) ∧ Ref ts' z
  | 0, fuel + 1, xs, wd, Y, x5, x6, x7, x8, ts, ω, _, _, hl, _, _, _, hxs, hω, w, _ => by
    match xs, hl with
    | [x], _ =>
      refine ⟨ts, ω, Y, x, .val (.int wd), x5, x6, x7, x8, .val (.list [.int x]), ?_, hω, w, .refl _ _, hxs x (by simp)⟩
      unfold whileD
      simp
  | j + 1, fuel + 1, xs, wd, Y, x5, x6, x7, x8, ts, ω, hf, hj, hl, hw, hw1, hY, hxs, hω, w, hz => by
    have hp : 2 ^ (j + 1) = 2 * 2 ^ j := by rw [Nat.pow_succ]; omega
    have hpj : 1 ≤ 2 ^ j := Nat.one_le_two_pow
    have hp10 : 2 ^ (j + 1) ≤ 2 ^ 10 := Nat.pow_le_pow_right (by omega) hj
    have hwd : 2 * wd ≤ 2 ^ (j + 1) * wd := Nat.mul_le_mul_right _ (by omega)
    obtain ⟨ts1, ω1, zs, y6, y7, y8, e, h1, w1, x1, hzl, hzr⟩ := above_loop (t := t) (P := P) (N := ob 2) rfl hr (xs := xs) (wd := 2 * wd) (R := .own (Y ++ [.list (xs.map .int)])) (2 ^ j) 0 [] x6 x7 x8 ts ω (by omega) (by rw [Nat.zero_add, ← Nat.mul_assoc, Nat.mul_comm (2 ^ j) 2, ← hp, hw]; exact Nat.le_refl _) (by omega) (by omega) rfl hxs (by simp) hω w (by omega) (by omega)
    rw [Nat.zero_add] at hzl
    have hle := x1.2
    obtain ⟨ts2, ω2, Y', z, z4, z5, z6, z7, z8, z2, e2, h2, w2, x2, r2⟩ := rows_loop hr hrl j fuel zs (2 * wd) (Y ++ [.list (xs.map .int)]) .un y6 y7 y8 ts1 ω1 (by omega) (by omega) hzl (by rw [← Nat.mul_assoc, Nat.mul_comm (2 ^ j) 2, ← hp, hw]) (by omega) (by simp; omega) hzr h1 w1 (by omega)
    refine ⟨ts2, ω2, Y', z, z4, z5, z6, z7, z8, z2, ?_, h2, w2, (x1.trans x2).mono (by omega), r2⟩
    have hc : (1 : Int) < (xs.length : Int) := by omega
    have er : iRange3 (aCons (eC (.int 0)) (aCons (eCall opLen (aCons (eVar 2) aNil)) (aCons (eC (.int 2)) aNil))) [.val (ob 2), .val (.tuple (rs.map .int)), .val (.list (xs.map .int)), .own (Y ++ [.list (xs.map .int)]), .val (.int ((2 * wd : Nat) : Int)), .own [], x6, x7, x8] ω = some ((List.range (2 ^ j)).map fun (k : Nat) => .int (2 * (k : Int)), ω) := by
      refine x_rng3 ?_ (by omega)
      simp [hl, hp]
    rw [List.range_eq_range'] at er
    have eb : l_rows_above_2 [.val (ob 2), .val (.tuple (rs.map .int)), .val (.list (xs.map .int)), .own (Y ++ [.list (xs.map .int)]), .val (.int wd), x5, x6, x7, x8] ω = some (.nx [.val (ob 2), .val (.tuple (rs.map .int)), .val (.list (zs.map .int)), .own ((Y ++ [.list (xs.map .int)]) ++ [.list (zs.map .int)]), .val (.int ((2 * wd : Nat) : Int)), .un, y6, y7, y8], ω1) := by
      refine x_set (d := .int ((2 * wd : Nat) : Int)) (by simp [mul2]) (x_own (ds := []) rfl (seq_of (x_for1 er e) (x_seq (ρ1 := [.val (ob 2), .val (.tuple (rs.map .int)), .val (.list (zs.map .int)), .own (Y ++ [.list (xs.map .int)]), .val (.int ((2 * wd : Nat) : Int)), .un, y6, y7, y8]) rfl (x_app1 (xs := Y ++ [.list (xs.map .int)]) rfl rfl (by simp; omega)))))
    unfold whileD
    rw [show tOfE (eBin opGt (eCall opLen (aCons (eVar 2) aNil)) (eC (.int 1))) [.val (ob 2), .val (.tuple (rs.map .int)), .val (.list (xs.map .int)), .own (Y ++ [.list (xs.map .int)]), .val (.int wd), x5, x6, x7, x8] ω = some (true, ω) by simp [hc]]
    simp only [if_true, eb]
    exact e2
theorem rowsAbove_ok {rs : List Int} (hr : ∀ x ∈ rs, 1 ≤ x ∧ x ≤ 1000) {lv : Nat} (hl : rs.length = 2 ^ lv) (hlv : lv ≤ 10) {ts : List Ps} {ω : Wd} (hω : NtW t P ts ω) (w : Wf 1000 ts) (hz : ts.length ≤ 1000) : ∃ ts' ω' Y z, d_rows_above [ob 2, .tuple (rs.map .int)] ω = some (.list ((Y : List D) ++ [.list [.int z]]), ω') ∧ NtW t P ts' ω' ∧ Wf 1000 ts' ∧ Ext ts ts' 2048 ∧ Ref ts' z := by
  have hp10 : 2 ^ lv ≤ 2 ^ 10 := Nat.pow_le_pow_right (by omega) hlv
  obtain ⟨ts1, ω1, xs, e, h1, w1, x1, hxl, hxr⟩ := steps_lc (t := t) (P := P) (ρ := wipeR [.val (ob 2), .val (.tuple (rs.map .int)), .un, .un, .un, .un, .un, .un, .un] [8]) rfl (by simp [wipeR]) rs ts ω hr hω w (by omega)
  have hle := x1.2
  obtain ⟨ts2, ω2, Y, z, z4, z5, z6, z7, z8, z2, e2, h2, w2, x2, r2⟩ := rows_loop (t := t) (P := P) hr (by omega) lv FUEL xs 1 [] .un .un .un .un ts1 ω1 (by rw [FUEL_num]; omega) hlv (by omega) (by omega) (by omega) (by simp; omega) hxr h1 w1 (by omega)
  refine ⟨ts2, ω2, Y, z, ?_, h2, w2, (x1.trans x2).mono (by omega), r2⟩
  refine defD_of (ρ := [.val (ob 2), .val (.tuple (rs.map .int)), .un, .un, .un, .un, .un, .un, .un]) ?_
  refine seq_of (set_of (d := .list (xs.map .int)) (ω' := ω1) ?_) (x_own (ds := [.list (xs.map .int)]) rfl (x_set (d := .int 1) rfl (seq_of e2 (x_ret rfl))))
  rw [eOfN_ap, eLcN_ap, show iSq (eVar 1) [.val (ob 2), .val (.tuple (rs.map .int)), .un, .un, .un, .un, .un, .un, .un] ω = some (rs.map .int, ω) from rfl]
  simp only [e]
theorem isRow_ok {rs : List Int} (hr : ∀ x ∈ rs, 1 ≤ x ∧ x ≤ 1000) {lv : Nat} (hl : rs.length = 2 ^ lv) (hlv : lv ≤ 10) {ω : Wd} : d_is_row [.tuple (rs.map .int)] ω = some (.bool true, ω) := by
  refine defD_of (ρ := [.val (.tuple (rs.map .int)), .un, .un]) ?_
  have e1 : (eOfN (eLcN (iRange (aCons (eBin opAdd (eC (.int 10)) (eC (.int 1))) aNil)) (gSet 1) tYesD (eFunP d_leaf_count (aCons (eVar 1) aNil)) [1])) [.val (.tuple (rs.map .int)), .un, .un] ω = some (.list (((List.range 11).map fun h => ((2 ^ h : Nat) : Int)).map .int), ω) := by
    refine x_ofN (x_lc (ds := (List.range 11).map natD) (x_rng (n := 11) (by simp) (by omega)) ?_)
    rw [List.map_map]
    refine lcD_map natD _ (List.range 11) fun k hk => ⟨_, rfl, rfl, ?_⟩
    have hk := List.mem_range.mp hk
    simp [wipeR, natD, leaf_ok (show k ≤ 10 by omega)]
  refine x_seq (x_ifF ((x_or (b := false) (c := false) (by simp) (x_tE ?_)).trans rfl) rfl) (x_ret (x_gen (ds := rs.map .int) rfl ?_))
  · refine x_bin (x := .int ((2 ^ lv : Nat) : Int)) ?_ e1 ?_
    · simp [hl]
    · show opNotIn _ _ = _
      unfold opNotIn
      rw [if_pos (by
        have := plain_ints ((List.range 11).map fun h => ((2 ^ h : Nat) : Int))
        simp only [inOk, this, PyData.plain, PyData.depth]; rfl)]
      have : inRes (.int ((2 ^ lv : Nat) : Int)) (.list (((List.range 11).map fun h => ((2 ^ h : Nat) : Int)).map .int)) = true := by
        unfold inRes
        rw [List.any_eq_true]
        exact ⟨.int ((2 ^ lv : Nat) : Int), List.mem_map.mpr ⟨_, List.mem_map.mpr ⟨lv, List.mem_range.mpr (by omega), rfl⟩, rfl⟩, by rw [eqv_ints]; simp⟩
      rw [this]; rfl
  · rw [allD_of (fun _ => true)]
    · simp
    · intro a ha
      obtain ⟨x, hx, rfl⟩ := List.mem_map.mp ha
      have := hr x hx
      refine ⟨_, rfl, rfl, ?_⟩
      have q : d_is_number [.int x, .int 1, .int 281474976710656] ⟨false, []⟩ = some (.bool true, ⟨false, []⟩) := by
        rw [show d_is_number = dNumber from rfl, number_int, decide_eq_true this.1, decide_eq_true (by omega)]; rfl
      simp [wipeR, q]
theorem historyOf_ok {rs : List Int} (hr : ∀ x ∈ rs, 1 ≤ x ∧ x ≤ 1000) {lv : Nat} (hl : rs.length = 2 ^ lv) (hlv : lv ≤ 10) {ts : List Ps} {ω : Wd} (hω : NtW t P ts ω) (w : Wf 1000 ts) (hz : ts.length ≤ 1000) : ∃ ts' ω' z, d_history_of [ob 2, .tuple (rs.map .int)] ω = some (.int z, ω') ∧ NtW t P ts' ω' ∧ Wf 1000 ts' ∧ Ext ts ts' 2048 ∧ Ref ts' z := by
  obtain ⟨ts', ω', Y, z, e, h', w', x', r'⟩ := rowsAbove_ok hr hl hlv hω w hz
  refine ⟨ts', ω', z, ?_, h', w', x', r'⟩
  refine defD_of (ρ := [.val (ob 2), .val (.tuple (rs.map .int))]) (x_seq (x_ifF (notT (x_fnP (x_one (x := .tuple (rs.map .int)) rfl) (isRow_ok hr hl hlv))) rfl) ?_)
  rw [sRet_ap, eBin_ap, eBin_ap, eFun_ap, show (aCons (eVar 0) (aCons (eVar 1) aNil)) [.val (ob 2), .val (.tuple (rs.map .int))] ω = some ([ob 2, .tuple (rs.map .int)], ω) from rfl]
  simp [e]
end G_k29
end

section
namespace G_k29
open PySem PySem.Spec L2 Dn
local instance : Tb := noTb
variable {t : List D} {P : List WO → Prop}
theorem pow47 : opPow (.int 2) (.int 47) = some (.int 140737488355328) := by simp [opPow]
theorem rg_of {x : Int} (h1 : 1 ≤ x) (h2 : x ≤ 281474976710656) : rg x = true := by
  unfold rg; rw [decide_eq_true h1, decide_eq_true h2]; rfl
theorem drawV {ts : List Ps} {ω : Wd} (hω : NtW t P ts ω) {ρ : Ro} (m : Int) (h0 : ρ[0]? = some (.val (ob 0))) (hm : 0 < m) (hm2 : m < 2 ^ 60) : ∃ i ω', eFun d__law_draw (aCons (eVar 0) (aCons (eC (.int m)) aNil)) ρ ω = some (.int i, ω') ∧ NtW t P ts ω' ∧ 0 ≤ i ∧ i < m := by
  obtain ⟨d, ω', e, h1, i, rfl, h2, h3⟩ := WE.draw (t := NtW t P ts) (g := eC (.int m)) m h0 (fun _ => rfl) hm (log_small (by omega) hm2) ω hω
  exact ⟨i, ω', e, h1, h2, h3⟩
theorem hist_ok : ∀ (j n : Nat) (rs : List Int) (ts : List Ps) (ω : Wd), j + 1 ≤ n → rs.length = 2 ^ j → (∀ x ∈ rs, 1 ≤ x ∧ x ≤ 1000) → NtW t P ts ω → Wf 1000 ts → ts.length + 2 * 2 ^ j ≤ 9000 → ∃ ts' ω' z, d__law_history n [ob 0, ob 2, .list (rs.map .int)] ω = some (.int z, ω') ∧ NtW t P ts' ω' ∧ Wf 1000 ts' ∧ Ext ts ts' (2 * 2 ^ j - 1) ∧ Ref ts' z
  | 0, n + 1, rs, ts, ω, _, hl, hr, hω, w, hz => by
    match rs, hl with
    | [x], _ =>
      have hx := hr x (by simp)
      obtain ⟨d, ω1, e1, h1, hd0, hd1⟩ := drawV hω (ρ := [.val (ob 0), .val (ob 2), .val (.list [.int x]), .un, .un, .un]) 40 rfl (by decide) (by decide)
      by_cases hd : 0 < d
      · obtain ⟨ts2, ω2, z, e2, h2, w2, x2, r2⟩ := seal_new h1 h1 w (f := eVar 1) (a := aCons (eTup (aCons (eC (.str "step")) (aCons (eBin opIx (eVar 2) (eC (.int 0))) aNil))) aNil) (ρ := [.val (ob 0), .val (ob 2), .val (.list [.int x]), .un, .un, .un]) (p := (Op.st x).key) rfl (by simp; rfl) (new_op (M := 1000) (rg_of hx.1 (by omega)) (by simp [Op.kids]) hx.2) (by omega)
        refine ⟨ts2, ω2, z, ?_, h2, w2, x2.mono (by omega), r2⟩
        refine defD_of (ρ := [.val (ob 0), .val (ob 2), .val (.list [.int x]), .un, .un, .un]) (seqR_of (ifT_of (ω' := ω) (by simp) ?_))
        rw [sRet_ap, eIf_ap, tOfE_ap, eBin_ap]
        simp only [e1, eC_ap, opGt_int, decide_eq_true hd, if_true, e2]
      · obtain ⟨d2, ω2, e2, h2, hd2, hd3⟩ := drawV h1 (ρ := [.val (ob 0), .val (ob 2), .val (.list [.int x]), .un, .un, .un]) 9 rfl (by decide) (by decide)
        refine ⟨ts, ω2, 140737488355328 + d2, ?_, h2, w, .refl _ _, ⟨by omega, by omega, .inr (by omega)⟩⟩
        refine defD_of (ρ := [.val (ob 0), .val (ob 2), .val (.list [.int x]), .un, .un, .un]) (seqR_of (ifT_of (ω' := ω) (by simp) ?_))
        rw [sRet_ap, eIf_ap, tOfE_ap, eBin_ap]
        simp only [e1, eC_ap, opGt_int, decide_eq_false hd, Bool.false_eq_true, if_false]
        rw [eBin_ap, eBin_ap]
        simp only [eC_ap, pow47, e2, opAdd_int]
  | j + 1, n + 1, rs, ts, ω, hn, hl, hr, hω, w, hz => by
    have hp : 2 ^ (j + 1) = 2 * 2 ^ j := by rw [Nat.pow_succ]; omega
    have hpj : 1 ≤ 2 ^ j := Nat.one_le_two_pow
    have hne : rs ≠ [] := by intro e; rw [e] at hl; simp at hl; omega
    obtain ⟨ts1, ω1, z1, e1, h1, w1, x1, r1⟩ := hist_ok j n (rs.take (2 ^ j)) ts ω (by omega) (by rw [List.length_take]; omega) (fun x hx => hr x (List.mem_of_mem_take hx)) hω w (by omega)
    have hle1 := x1.2
    obtain ⟨ts2, ω2, z2, e2, h2, w2, x2, r2⟩ := hist_ok j n (rs.drop (2 ^ j)) ts1 ω1 (by omega) (by rw [List.length_drop]; omega) (fun x hx => hr x (List.mem_of_mem_drop hx)) h1 w1 (by omega)
    have hle2 := x2.2
    have hlast := hr (rs.getLast hne) (List.getLast_mem hne)
    have s1 : slD (rs.map PyData.int) none (some ((2 ^ j : Nat) : Int)) = (rs.take (2 ^ j)).map .int := by rw [slD_to, List.map_take]
    have s2 : slD (rs.map PyData.int) (some ((2 ^ j : Nat) : Int)) none = (rs.drop (2 ^ j)).map .int := by rw [slD_from, List.map_drop]
    have eP : sPar 4 5 (aCons (eFun (d__law_history n) (aCons (eVar 0) (aCons (eVar 1) (aCons (eSl opSl (eVar 2) oNone (oSome (eVar 3))) aNil)))) (aCons (eFun (d__law_history n) (aCons (eVar 0) (aCons (eVar 1) (aCons (eSl opSl (eVar 2) (oSome (eVar 3)) oNone) aNil)))) aNil)) [.val (ob 0), .val (ob 2), .val (.list (rs.map .int)), .val (.int ((2 ^ j : Nat) : Int)), .un, .un] ω = some (.nx [.val (ob 0), .val (ob 2), .val (.list (rs.map .int)), .val (.int ((2 ^ j : Nat) : Int)), .val (.int z1), .val (.int z2)], ω2) := by
      have a1 : ∀ ω, (aCons (eVar 0) (aCons (eVar 1) (aCons (eSl opSl (eVar 2) oNone (oSome (eVar 3))) aNil))) [.val (ob 0), .val (ob 2), .val (.list (rs.map .int)), .val (.int ((2 ^ j : Nat) : Int)), .un, .un] ω = some ([ob 0, ob 2, .list ((rs.take (2 ^ j)).map .int)], ω) := fun ω => by
        simp only [aCons_ap, eVar_ap, List.getElem?_cons_succ, List.getElem?_cons_zero, eSl_ap, oNone_ap, oSome_ap, opSl, s1, aNil_ap]
      have a2 : ∀ ω, (aCons (eVar 0) (aCons (eVar 1) (aCons (eSl opSl (eVar 2) (oSome (eVar 3)) oNone) aNil))) [.val (ob 0), .val (ob 2), .val (.list (rs.map .int)), .val (.int ((2 ^ j : Nat) : Int)), .un, .un] ω = some ([ob 0, ob 2, .list ((rs.drop (2 ^ j)).map .int)], ω) := fun ω => by
        simp only [aCons_ap, eVar_ap, List.getElem?_cons_succ, List.getElem?_cons_zero, eSl_ap, oNone_ap, oSome_ap, opSl, s2, aNil_ap]
      rw [sPar_ap, aCons_ap, eFun_ap, a1]
      simp only [e1]
      rw [aCons_ap, eFun_ap, a2]
      simp only [e2, aNil_ap]
      rfl
    -- the last element
    obtain ⟨d, ω3, e3, h3, hd0, hd1⟩ := drawV h2 (ρ := [.val (ob 0), .val (ob 2), .val (.list (rs.map .int)), .val (.int ((2 ^ j : Nat) : Int)), .val (.int z1), .val (.int z2)]) 40 rfl (by decide) (by decide)
    obtain ⟨c, ω4, e4, h4, hc1, hc2⟩ : ∃ c ω4, eIf (tOfE (eBin opGt (eFun d__law_draw (aCons (eVar 0) (aCons (eC (.int 40)) aNil))) (eC (.int 0)))) (eBin opIx (eVar 2) (eUn opNeg (eC (.int 1)))) (eBin opAdd (eC (.int 1)) (eFun d__law_draw (aCons (eVar 0) (aCons (eC (.int 99)) aNil)))) [.val (ob 0), .val (ob 2), .val (.list (rs.map .int)), .val (.int ((2 ^ j : Nat) : Int)), .val (.int z1), .val (.int z2)] ω2 = some (.int c, ω4) ∧ NtW t P ts2 ω4 ∧ 1 ≤ c ∧ c ≤ 1000 := by
      by_cases hd : 0 < d
      · refine ⟨rs.getLast hne, ω3, ?_, h3, hlast.1, hlast.2⟩
        rw [eIf_ap, tOfE_ap, eBin_ap, e3]
        have hg : (rs.map PyData.int).getLast? = some (.int (rs.getLast hne)) := by rw [List.getLast?_map, List.getLast?_eq_some_getLast hne]; rfl
        simp only [eC_ap, opGt_int, decide_eq_true hd, if_true, eBin_ap, eVar_ap, List.getElem?_cons_succ, List.getElem?_cons_zero, eUn_ap, opNeg_int, opIx_lstM, hg]
      · obtain ⟨d2, ω4, e4, h4, hd2, hd3⟩ := drawV h3 (ρ := [.val (ob 0), .val (ob 2), .val (.list (rs.map .int)), .val (.int ((2 ^ j : Nat) : Int)), .val (.int z1), .val (.int z2)]) 99 rfl (by decide) (by decide)
        refine ⟨1 + d2, ω4, ?_, h4, by omega, by omega⟩
        rw [eIf_ap, tOfE_ap, eBin_ap, e3]
        simp only [eC_ap, opGt_int, decide_eq_false hd, Bool.false_eq_true, if_false]
        rw [eBin_ap]
        simp only [eC_ap, e4, opAdd_int]
    have ea : aCons (eTup (aCons (eC (.str "join")) (aCons (eVar 4) (aCons (eVar 5) (aCons (eIf (tOfE (eBin opGt (eFun d__law_draw (aCons (eVar 0) (aCons (eC (.int 40)) aNil))) (eC (.int 0)))) (eBin opIx (eVar 2) (eUn opNeg (eC (.int 1)))) (eBin opAdd (eC (.int 1)) (eFun d__law_draw (aCons (eVar 0) (aCons (eC (.int 99)) aNil))))) aNil))))) aNil [.val (ob 0), .val (ob 2), .val (.list (rs.map .int)), .val (.int ((2 ^ j : Nat) : Int)), .val (.int z1), .val (.int z2)] ω2 = some ([tupD (Op.jn z1 z2 c).key], ω4) := by
      simp only [aCons_ap, eTup_ap, eC_ap, eVar_ap, List.getElem?_cons_succ, List.getElem?_cons_zero, e4, aNil_ap]
      rfl
    have r1' := r1.ext x2
    obtain ⟨ts5, ω5, z, e5, h5, w5, x5, r5⟩ := seal_new h2 h4 w2 (f := eVar 1) (p := (Op.jn z1 z2 c).key) rfl ea (new_op (M := 1000) (show (rg z1 && (rg z2 && rg c)) = true by rw [r1'.rg, r2.rg, rg_of hc1 (by omega)]; rfl) (fun i hi => by
      rcases List.mem_cons.mp hi with rfl | hi
      · exact r1'
      · rw [List.mem_singleton.mp hi]; exact r2) hc2) (by omega)
    refine ⟨ts5, ω5, z, ?_, h5, w5, ((x1.trans x2).trans x5).mono ?_, r5⟩
    · have ht : ((rs.length : Int) = 1) = False := eq_false (by omega)
      have hdv : ((rs.length : Int) / 2) = ((2 ^ j : Nat) : Int) := by omega
      refine defD_of (ρ := [.val (ob 0), .val (ob 2), .val (.list (rs.map .int)), .un, .un, .un]) (x_seq (x_ifF (by simp [ht]) rfl) (x_set (d := .int ((2 ^ j : Nat) : Int)) (by simp [div2, hdv]) (seq_of eP ?_)))
      rw [sRet_ap, e5]
    · omega
end G_k29
end

section
namespace G_k29
open PySem PySem.Spec L2 Dn
local instance : Tb := noTb
section
variable {t : Wd → Prop} [DrawI t]
inductive Val : Nat → D → Prop
  | non : Val 0 .none
  | int (i : Int) : Val 0 (.int i)
  | str (s : Str) : Val 0 (.str s)
  | tup {n : Nat} (xs : List D) (hl : xs.length ≤ 100) (h : ∀ x ∈ xs, Val n x) : Val (n + 1) (.tuple xs)
def Pd (n : Nat) (d : D) : Prop := d.plain = true ∧ d.depth ≤ n
theorem Pd.mono {n m : Nat} {d : D} (h : Pd n d) (k : n ≤ m) : Pd m d := ⟨h.1, Nat.le_trans h.2 k⟩
theorem Pd.tup {n : Nat} {xs : List D} (h : ∀ x ∈ xs, Pd n x) : Pd (n + 1) (.tuple xs) := by
  refine ⟨plainAll_of fun x hx => (h x hx).1, ?_⟩
  have := depthAll_of (n := n) fun x hx => (h x hx).2
  show PyData.depthAll xs + 1 ≤ n + 1
  omega
theorem slD_sub {xs : List D} {lo hi : Option Int} {x : D} (h : x ∈ slD xs lo hi) : x ∈ xs := List.mem_of_mem_drop (List.mem_of_mem_take h)
theorem slD_len (xs : List D) (lo hi : Option Int) : (slD xs lo hi).length ≤ xs.length := by
  unfold slD
  rw [List.length_take, List.length_drop]; omega
def TupP (n m : Nat) (d : D) : Prop := ∃ ds, d = .tuple ds ∧ ds.length ≤ n ∧ ∀ x ∈ ds, Pd m x
theorem opSl_tup (xs : List D) (lo hi : Option Int) : opSl (.tuple xs) lo hi = some (.tuple (slD xs lo hi)) := rfl
theorem val_pd : ∀ {n : Nat} {v : D}, Val n v → Pd n v
  | _, _, .non => ⟨rfl, by simp [PyData.depth]⟩
  | _, _, .int _ => ⟨rfl, by simp [PyData.depth]⟩
  | _, _, .str _ => ⟨rfl, by simp [PyData.depth]⟩
  | _, _, .tup (n := n) xs hl h => Pd.tup fun x hx => val_pd (h x hx)
/-- the last step: an item of the rows -/
theorem chg_end {v : D} {n : Nat} {s2 : SV} {ds : List D} (hl : 0 < ds.length) (hl2 : ds.length ≤ 100) (h : ∀ d ∈ ds, Pd n d) : WS t (sRet (eBin opIx (eVar 3) (eFun dDraw (aCons (eVar 0) (aCons (eCall opLen (aCons (eVar 3) aNil)) aNil))))) [.val (ob 0), .val v, s2, .val (.list ds)] (fun _ => Pd n .none) (fun d => Pd n d) := by
  refine WS.ret (WE.at (ds := ds) (fun _ => rfl) ?_ h)
  exact WE.draw (ds.length : Int) rfl (fun _ => rfl) (by omega) (log_small (by omega) (by omega))
def L0 : List D := [.none, .tuple [], .int 0, .bool true, .str "join", .str "step", .int (-1), .int 1]
theorem L0ok {n : Nat} : ∀ d ∈ L0, Pd (n + 1) d := fun d hd => by
  unfold L0 at hd
  simp only [List.mem_cons, List.not_mem_nil, or_false] at hd
  rcases hd with rfl | rfl | rfl | rfl | rfl | rfl | rfl | rfl <;> refine ⟨rfl, ?_⟩ <;> simp [PyData.depth, PyData.depthAll]
theorem changed_ok : ∀ (n k : Nat) (v : D), Val n v → n ≤ 10 → ∀ ω, t ω → ∃ d ω', d__law_changed (n + 1 + k) [ob 0, v] ω = some (d, ω') ∧ t ω' ∧ Pd (n + 1) d
  | 0, k, v, hv, _ => by
    rw [show 0 + 1 + k = k + 1 from by omega]
    refine WS.fnD ?_
    simp only [b__law_changed, draw_eq]
    cases hv with
    | non =>
      refine WS.skip (fun ω => by simp) ?_
      refine WS.setP (d := .list L0) (fun ω => by simp [L0]) ?_
      refine WS.skip (fun ω => by simp) ?_
      refine WS.skip (fun ω => by simp) ?_
      exact chg_end (by decide) (by decide) L0ok
    | str s =>
      refine WS.skip (fun ω => by simp) ?_
      refine WS.setP (d := .list L0) (fun ω => by simp [L0]) ?_
      refine WS.skip (fun ω => by simp) ?_
      refine WS.skip (fun ω => by simp) ?_
      exact chg_end (by decide) (by decide) L0ok
    | int i =>
      refine WS.skip (fun ω => by simp) ?_
      refine WS.setP (d := .list L0) (fun ω => by simp [L0]) ?_
      have hb : ∀ y : List D, y.length = 3 → opAdd (.list L0) (.list y) = some (.list (L0 ++ y)) := fun y hy => opAdd_lst (by rw [hy]; decide)
      refine WS.step (fun ω => x_ifT (by simp) (x_set1 (d := .list (L0 ++ [.int (i + 1), .int (i - 1), .bool (decide (i = 1))])) (by simp [hb]))) ?_
      refine WS.skip (fun ω => by simp) ?_
      refine chg_end (by simp [L0]) (by simp [L0]) fun d hd => ?_
      rcases List.mem_append.mp hd with hd | hd
      · exact L0ok d hd
      · simp at hd
        rcases hd with rfl | rfl | rfl <;> exact ⟨rfl, by simp [PyData.depth]⟩
  | n + 1, k, v, hv, hn => by
    rw [show n + 1 + 1 + k = (n + 1 + k) + 1 from by omega]
    refine WS.fnD ?_
    simp only [b__law_changed, draw_eq]
    cases hv with
    | tup xs hl h =>
      have ih := fun x hx => changed_ok n k x (h x hx) (by omega)
      have hpd := Pd.tup fun x hx => val_pd (h x hx)
      have hne : opNe (.tuple xs) (.tuple []) = some (.bool (!xs.isEmpty)) := opNe_nilT hpd.1 (by
        have := hpd.2
        rw [PyData.depth] at this; omega)
      have hx : ∀ x ∈ xs, Pd (n + 1) x := fun x hx => (val_pd (h x hx)).mono (by omega)
      have hx0 : ∀ x ∈ xs, Pd n x := fun x hx => val_pd (h x hx)
      refine WS.seq (Q' := fun ρ' => ρ' = [.val (ob 0), .val (.tuple xs), .un, .un]) (WS.ite (P := fun c => c = true → xs ≠ []) ?_ (fun hp => ?_) (fun _ => WS.next rfl)) ?_
      · refine WT.and (P := fun c => c = true) (P' := fun c => c = true → xs ≠ []) (WT.pure true (fun ω => by simp) rfl) (fun _ => ?_) (fun h => absurd h (by decide)) (fun _ c h => h)
        refine WT.and (P := fun c => c = !xs.isEmpty) (P' := fun _ => True) (WT.pure (!xs.isEmpty) (fun ω => ?_) rfl) (fun _ => ?_) (fun _ h => absurd h (by decide)) (fun hb c _ _ h0 => ?_)
        · have hne' : opNe (.tuple xs) (.tuple []) = some (.bool (!xs.isEmpty)) := hne
          simp only [List.map_cons, List.map_nil, List.length_cons, List.length_nil, List.replicate, List.cons_append, List.nil_append, tOfE_ap, eBin_ap, eVar_ap, List.getElem?_cons_succ, List.getElem?_cons_zero, eTup_ap, aNil_ap, hne']
        · exact WT.ofE (WE.bin (WE.draw 4 rfl (fun _ => rfl) (by decide) (by decide)) (WE.c (P := fun d => d = .int 0) rfl) (fun x y ⟨i, hi, _, _⟩ hy => by subst hi; subst hy; exact ⟨_, opGt_int i 0, _, rfl, trivial⟩))
        · subst h0; simp at hb
      · have hne0 := hp rfl
        have hl0 : 0 < xs.length := List.length_pos_iff.mpr hne0
        refine WS.setThen (P := IntIn 0 xs.length) (WE.draw (xs.length : Int) rfl (fun _ => rfl) (by omega) (log_small (by omega) (by omega))) ?_
        rintro _ ⟨i, rfl, h0, h1⟩
        refine WS.ret (WE.bin (P := TupP 300 (n + 1)) (Q := TupP 100 (n + 1)) (WE.bin (P := TupP 100 (n + 1)) (Q := TupP 1 (n + 1)) ?_ (WE.tup (WA.one (WE.fn (Q := fun ds => ∃ x ∈ xs, ds = [ob 0, x]) ?_ ?_) (Q := fun ds => ∃ d, ds = [d] ∧ Pd (n + 1) d) fun d p => ⟨d, rfl, p⟩) ?_) ?_) ?_ ?_)
        · exact WE.pure (.tuple (slD xs none (some i))) (fun ω => by simp [opSl_tup]) ⟨_, rfl, Nat.le_trans (slD_len ..) hl, fun x hx' => hx x (slD_sub hx')⟩
        · obtain ⟨x, e, hm⟩ := atI_mem (xs := xs) h0 h1
          have e' : opIx (.tuple xs) (.int i) = some x := e
          exact WA.pure [ob 0, x] (fun ω => by
            simp only [List.map_cons, List.map_nil, List.length_cons, List.length_nil, List.replicate, List.cons_append, List.nil_append, List.set_cons_succ, List.set_cons_zero, aCons_ap, eVar_ap, List.getElem?_cons_succ, List.getElem?_cons_zero, eBin_ap, e', aNil_ap]) ⟨x, hm, rfl⟩
        · rintro _ ⟨x, hm, rfl⟩
          exact ih x hm
        · rintro _ ⟨d, rfl, p⟩
          exact ⟨[d], rfl, by simp, by simpa using p⟩
        · rintro _ _ ⟨a, rfl, ha, pa⟩ ⟨b, rfl, hb, pb⟩
          exact ⟨_, opAdd_tup (by omega), _, rfl, by simp; omega, fun x hx => by
            rcases List.mem_append.mp hx with h | h
            · exact pa x h
            · exact pb x h⟩
        · exact WE.pure (.tuple (slD xs (some (i + 1)) none)) (fun ω => by simp [opSl_tup]) ⟨_, rfl, Nat.le_trans (slD_len ..) hl, fun x hx' => hx x (slD_sub hx')⟩
        · rintro _ _ ⟨a, rfl, ha, pa⟩ ⟨b, rfl, hb, pb⟩
          exact ⟨_, opAdd_tup (by omega), Pd.tup fun x hx => by
            rcases List.mem_append.mp hx with h | h
            · exact pa x h
            · exact pb x h⟩
      · rintro _ rfl
        refine WS.setP (d := .list L0) (fun ω => by simp [L0]) ?_
        refine WS.skip (fun ω => by simp) ?_
        have hz := slD_len xs none (some 1)
        refine WS.step (fun ω => x_ifT (by simp) (x_set1 (d := .list (L0 ++ [.tuple (slD xs none (some (-1))), .tuple (xs ++ slD xs none (some 1)), .tuple xs.reverse, .tuple [.tuple xs]])) ?_)) ?_
        · have ha : opAdd (.tuple xs) (.tuple (slD xs none (some 1))) = some (.tuple (xs ++ slD xs none (some 1))) := opAdd_tup (by omega)
          have hb : ∀ y : List D, y.length = 4 → opAdd (.list L0) (.list y) = some (.list (L0 ++ y)) := fun y hy => opAdd_lst (by rw [hy]; decide)
          simp [opSl_tup, ha, opRev, hb]
        · refine chg_end (by simp [L0]) (by simp [L0]) fun d hd => ?_
          rcases List.mem_append.mp hd with hd | hd
          · exact L0ok d hd
          · simp at hd
            rcases hd with rfl | rfl | rfl | rfl
            · exact Pd.tup fun x hx' => hx x (slD_sub hx')
            · refine Pd.tup fun x hx' => ?_
              rcases List.mem_append.mp hx' with h | h
              · exact hx x h
              · exact hx x (slD_sub h)
            · exact Pd.tup fun x hx' => hx x (List.mem_reverse.mp hx')
            · exact Pd.tup fun x hx' => by rw [List.mem_singleton.mp hx']; exact Pd.tup hx0
theorem val_osD (o : Option (List Op)) (ho : ∀ os, o = some os → os.length ≤ 100) : ∃ n, n ≤ 2 ∧ Val n (osD o) := by
  cases o with
  | none => exact ⟨0, by omega, .non⟩
  | some os =>
    refine ⟨2, by omega, .tup _ (by rw [List.length_map]; exact ho os rfl) fun x hx => ?_⟩
    obtain ⟨o, _, rfl⟩ := List.mem_map.mp hx
    refine .tup _ (by cases o <;> simp [Op.key]) fun y hy => ?_
    obtain ⟨k, _, rfl⟩ := List.mem_map.mp hy
    cases k with
    | inl i => exact .int i
    | inr s => exact .str s
theorem changed_any {o : Option (List Op)} (ho : ∀ os, o = some os → os.length ≤ 100) {ω : Wd} (hω : t ω) : ∃ d ω', d__law_changed 12 [ob 0, osD o] ω = some (d, ω') ∧ t ω' ∧ Bv d := by
  obtain ⟨n, hn, hv⟩ := val_osD o ho
  obtain ⟨d, ω', e, h', p⟩ := changed_ok n (11 - n) _ hv (by omega) ω hω
  rw [show n + 1 + (11 - n) = 12 from by omega] at e
  exact ⟨d, ω', e, h', p.1, Nat.le_trans p.2 (by omega)⟩
end
end G_k29
end

section
namespace G_k29
open PySem PySem.Spec L2 Dn
local instance : Tb := noTb
variable {t : List D} {P : List WO → Prop}
/-! ## the book, longer -/
theorem at_mem {ts : List Ps} (hF : FrmT ts) {i : Int} {o : Op} (h : opAt ts i = some o) : o.key ∈ ts ∧ 1 ≤ i ∧ i ≤ ts.length ∧ prt ts i = some o.key := by
  unfold opAt at h
  cases e : prt ts i with
  | none => rw [e] at h; cases h
  | some p =>
    rw [e, Option.bind_some] at h
    have e' := e
    unfold prt at e
    split at e
    · rename_i hi
      have hm := List.mem_of_getElem? e
      obtain ⟨hlt, _⟩ := List.getElem?_eq_some_iff.mp e
      have hp : p = o.key := by
        rcases hF p hm with ⟨o', ho, rfl⟩ | ⟨q, rfl | rfl⟩
        · rw [opK_key] at h; cases h; rfl
        · rw [opK_no xs_ne xj_ne] at h; cases h
        · rw [opK_no bs_ne bj_ne] at h; cases h
      rw [← hp]
      exact ⟨hm, hi, by omega, rfl⟩
    · cases e
theorem at_ext {ts ts' : List Ps} {n : Nat} (hx : Ext ts ts' n) (hz : ts'.length ≤ 16777216) {i : Int} (r : Ref ts i) : opAt ts' i = opAt ts i := by
  obtain ⟨⟨e, rfl⟩, _⟩ := hx
  obtain ⟨h1, h2, h3⟩ := r
  unfold opAt prt
  rw [if_pos h1, if_pos h1]
  rcases h3 with h3 | h3
  · rw [List.getElem?_append_left (by omega)]
  · rw [List.getElem?_eq_none (by omega), List.getElem?_eq_none (by simp at hz; omega)]
theorem at_some {ts ts' : List Ps} {n : Nat} (hx : Ext ts ts' n) {i : Int} {o : Op} (h : opAt ts i = some o) : opAt ts' i = some o := by
  obtain ⟨⟨e, rfl⟩, _⟩ := hx
  unfold opAt prt at h ⊢
  split at h
  · rename_i hi
    rw [if_pos hi]
    cases q : ts[i.toNat - 1]? with
    | none => rw [q] at h; cases h
    | some p =>
      obtain ⟨hlt, _⟩ := List.getElem?_eq_some_iff.mp q
      rw [List.getElem?_append_left hlt, q]
      rw [q] at h
      exact h
  · cases h
theorem opn_ext {ts ts' : List Ps} {n : Nat} {M : Int} (w : Wf M ts) (hx : Ext ts ts' n) (hz : ts'.length ≤ 16777216) : ∀ (k : Nat) (row : List Int), (∀ i ∈ row, Ref ts i) → opn ts' k row = opn ts k row := by
  have hs : ∀ (b : Bool) (i : Int), Ref ts i → stepF ts' b i = stepF ts b i := fun b i r => by unfold stepF; rw [at_ext hx hz r]
  have ha : ∀ (b : Bool) (row : List Int), (∀ i ∈ row, Ref ts i) → (row.all fun i => (stepF ts' b i).isSome) = (row.all fun i => (stepF ts b i).isSome) ∧ row.filterMap (stepF ts' b) = row.filterMap (stepF ts b) := fun b row h => by
    induction row with
    | nil => exact ⟨rfl, rfl⟩
    | cons i row ih =>
      obtain ⟨i1, i2⟩ := ih fun j hj => h j (List.mem_cons_of_mem _ hj)
      have := hs b i (h i (List.mem_cons_self ..))
      exact ⟨by rw [List.all_cons, List.all_cons, i1, this], by rw [List.filterMap_cons, List.filterMap_cons, i2, this]⟩
  intro k
  induction k with
  | zero =>
    intro row h
    obtain ⟨a1, a2⟩ := ha false row h
    rw [opn, opn, a1, a2]
  | succ k ih =>
    intro row h
    obtain ⟨a1, a2⟩ := ha true row h
    rw [opn, opn, a1, a2, ih]
    intro i hi
    obtain ⟨o, ho, hk⟩ := List.mem_flatMap.mp hi
    obtain ⟨j, _, e⟩ := List.mem_filterMap.mp ho
    exact w.clo o (at_mem w.frm (stepF_at e)).1 i hk
theorem due_ext {ts ts' : List Ps} {n : Nat} {M : Int} (w : Wf M ts) (hx : Ext ts ts' n) (hz : ts'.length ≤ 16777216) {h : Int} (r : Ref ts h) (dep : Nat) : opn ts' dep [h] = opn ts dep [h] ∧ dueO ts' h dep = dueO ts h dep := by
  have := opn_ext w hx hz dep [h] fun i hi => by rw [List.mem_singleton.mp hi]; exact r
  exact ⟨this, by unfold dueO; rw [this]⟩
/-! ## the odd one -/
theorem odd_ok {ts : List Ps} {ω : Wd} (hω : NtW t P ts ω) (w : Wf 1000 ts) (hz : ts.length ≤ 9000) {h : Int} (r : Ref ts h) : ∃ ts' ω' odd, d__law_odd [ob 0, ob 2, .int h] ω = some (.int odd, ω') ∧ NtW t P ts' ω' ∧ Wf 2000 ts' ∧ Ext ts ts' 1 ∧ Ref ts' odd ∧ (odd = h ∨ ∃ a b c e, 1 ≤ e ∧ opAt ts h = some (.jn a b c) ∧ opAt ts' odd = some (.jn a b (c + e))) := by
  have e3 : eMethD "Notary" "parts_of" (eVar 1) d_Notary__parts_of (aCons (eVar 2) aNil) [.val (ob 0), .val (ob 2), .val (.int h), .un] ω = some (prtD ts h, ω) := m_parts hω rfl rfl
  have same : (tOrD (tOfE (eBin opIsN (eVar 3) (eC .none))) (tOfE (eBin opNe (eBin opIx (eVar 3) (eC (.int 0))) (eC (.str "join"))))) [.val (ob 0), .val (ob 2), .val (.int h), .val (prtD ts h)] ω = some (true, ω) → ∃ ts' ω' odd, d__law_odd [ob 0, ob 2, .int h] ω = some (.int odd, ω') ∧ NtW t P ts' ω' ∧ Wf 2000 ts' ∧ Ext ts ts' 1 ∧ Ref ts' odd ∧ (odd = h ∨ ∃ a b c e, 1 ≤ e ∧ opAt ts h = some (.jn a b c) ∧ opAt ts' odd = some (.jn a b (c + e))) := fun ec =>
    ⟨ts, ω, h, defD_of (ρ := [.val (ob 0), .val (ob 2), .val (.int h), .un]) (x_set e3 (x_seq' (x_ifT ec (x_ret rfl)))), hω, w.mono (by decide), .refl _ _, r, .inl rfl⟩
  rcases at_cases w.frm h with ⟨e, ea⟩ | ⟨o, ho, e, ea⟩ | ⟨s, q, e, ea, h1, h2⟩
  · exact same (x_orT (by simp [e]))
  · cases o with
    | st x => exact same ((x_or (b := false) (c := true) (by simp [e, isNon_od]) (by simp [e, od_st, opNe_str, str_js])).trans rfl)
    | jn a b c =>
      obtain ⟨hm, _, _, _⟩ := at_mem w.frm ea
      have hc := w.lst _ hm
      have hk := w.clo _ hm
      obtain ⟨ra, rb, rc⟩ := jn_ok ho
      obtain ⟨d, ω1, e1, h1, hd0, hd1⟩ := drawV hω (ρ := [.val (ob 0), .val (ob 2), .val (.int h), .val (od (.jn a b c))]) 9 rfl (by decide) (by decide)
      have hc1 : 1 ≤ c := by unfold rg at rc; rw [Bool.and_eq_true, decide_eq_true_eq] at rc; exact rc.1
      simp only [Op.last] at hc
      have hn : New 2000 ts (Op.jn a b (c + (1 + d))).key := new_op (show (rg a && (rg b && rg (c + (1 + d)))) = true by rw [ra, rb, rg_of (by omega) (by omega)]; rfl) hk (by simp only [Op.last]; omega)
      have ew : (aCons (eBin opAdd (eSl opSl (eVar 3) oNone (oSome (eC (.int 3)))) (eTup (aCons (eBin opAdd (eBin opAdd (eBin opIx (eVar 3) (eC (.int 3))) (eC (.int 1))) (eFun d__law_draw (aCons (eVar 0) (aCons (eC (.int 9)) aNil)))) aNil))) aNil) [.val (ob 0), .val (ob 2), .val (.int h), .val (od (.jn a b c))] ω = some ([tupD (Op.jn a b (c + (1 + d))).key], ω1) := by
        have hs : opSl (od (.jn a b c)) none (some 3) = some (.tuple [.str "join", .int a, .int b]) := by
          show some (PyData.tuple (slD _ none (some ((3 : Nat) : Int)))) = _
          rw [slD_to]; rfl
        have hadd : ∀ x y : List D, x.length = 3 → y.length = 1 → opAdd (.tuple x) (.tuple y) = some (.tuple (x ++ y)) := fun x y h1 h2 => opAdd_tup (by omega)
        rw [aCons_ap, eBin_ap, eSl_ap]
        simp only [eVar_ap, List.getElem?_cons_succ, List.getElem?_cons_zero, oNone_ap, oSome_ap, eC_ap, hs, eTup_ap, aCons_ap]
        rw [eBin_ap, eBin_ap, eBin_ap]
        simp only [eVar_ap, List.getElem?_cons_succ, List.getElem?_cons_zero, eC_ap, od_jn, opIx_tup3, opAdd_int]
        rw [show eFun d__law_draw (aCons (eVar 0) (aCons (eC (.int 9)) aNil)) [.val (ob 0), .val (ob 2), .val (.int h), .val (.tuple [.str "join", .int a, .int b, .int c])] ω = some (.int d, ω1) from e1]
        simp only [opAdd_int, aNil_ap, hadd _ _ (show [PyData.str "join", .int a, .int b].length = 3 from rfl) (show [PyData.int (c + 1 + d)].length = 1 from rfl)]
        rw [show c + 1 + d = c + (1 + d) from by omega]
        rfl
      obtain ⟨ω2, e2, h2⟩ := m_seal hω h1 (f := eVar 1) (p := (Op.jn a b (c + (1 + d))).key) rfl ew hn.1 (by omega)
      obtain ⟨w2, x2, r2⟩ := put_wf (w.mono (show (1000 : Int) ≤ 2000 by decide)) hn (by omega)
      refine ⟨_, ω2, _, ?_, h2, w2, x2, r2, .inr ⟨a, b, c, 1 + d, by omega, ea, find_at r2.1 rfl⟩⟩
      rw [e] at e3
      refine defD_of (ρ := [.val (ob 0), .val (ob 2), .val (.int h), .un]) (x_set e3 (x_seq (x_ifF ((x_or (b := false) (c := false) (by simp [isNon_od]) (by simp [od_jn, opNe_str])).trans rfl) rfl) ?_))
      rw [sRet_ap]
      rw [show eMethD "Notary" "seal" (eVar 1) d_Notary__seal (aCons (eBin opAdd (eSl opSl (eVar 3) oNone (oSome (eC (.int 3)))) (eTup (aCons (eBin opAdd (eBin opAdd (eBin opIx (eVar 3) (eC (.int 3))) (eC (.int 1))) (eFun d__law_draw (aCons (eVar 0) (aCons (eC (.int 9)) aNil)))) aNil))) aNil) ([SV.val (ob 0), .val (ob 2), .val (.int h), .un].set 3 (.val (od (.jn a b c)))) ω = _ from e2]
  · refine same ((x_or (b := false) (c := true) (by simp [e, tupD]) ?_).trans rfl)
    have : (s = Str.ofString "join") = False := by
      rw [beq_eq_false_iff_ne] at h2
      exact eq_false h2
    simp [e, tupD, kD, opNe_str, this]
end G_k29
end

section
namespace G_k29
open PySem PySem.Spec L2 Dn
local instance : Tb := noTb
variable {t : List D} {P : List WO → Prop}
/-! ## pasts that are sealed, or not -/
def deep (ts : List Ps) : Nat → Int → Prop
  | 0, _ => True
  | n + 1, i => ∃ a b c, opAt ts i = some (.jn a b c) ∧ deep ts n a ∧ deep ts n b
theorem deep_ext {ts ts' : List Ps} {k : Nat} (hx : Ext ts ts' k) : ∀ (n : Nat) (i : Int), deep ts n i → deep ts' n i
  | 0, _, _ => trivial
  | n + 1, i, h => by
    obtain ⟨a, b, c, e, h1, h2⟩ := h
    exact ⟨a, b, c, at_some hx e, deep_ext hx n a h1, deep_ext hx n b h2⟩
theorem opn_deep {ts : List Ps} : ∀ {n : Nat} {row : List Int} {os : List Op}, opn ts n row = some os → ∀ i ∈ row, deep ts n i
  | 0, _, _, _, _, _ => trivial
  | n + 1, row, os, h, i, hi => by
    rw [opn] at h
    split at h
    · rename_i ha
      obtain ⟨rest, h1, rfl⟩ := Option.map_eq_some_iff.mp h
      have ih := opn_deep h1
      obtain ⟨o, e⟩ := Option.isSome_iff_exists.mp (List.all_eq_true.mp ha i hi)
      obtain ⟨a, b, c, rfl⟩ := stepF_J e
      have hm : Op.jn a b c ∈ row.filterMap (stepF ts true) := List.mem_filterMap.mpr ⟨i, hi, e⟩
      exact ⟨a, b, c, stepF_at e, ih a (List.mem_flatMap.mpr ⟨_, hm, by simp [Op.kids]⟩), ih b (List.mem_flatMap.mpr ⟨_, hm, by simp [Op.kids]⟩)⟩
    · cases h
structure Pa where
  one : Int
  own : Int
  left : Nat
def paD (p : Pa) : D := .tuple [.int p.one, .int p.own, .int p.left]
def PaOk (ts : List Ps) (p : Pa) : Prop := 0 ≤ p.one ∧ p.one ≤ 281474976710656 ∧ deep ts p.left p.own
theorem PaOk.ext {ts ts' : List Ps} {k : Nat} {p : Pa} (h : PaOk ts p) (hx : Ext ts ts' k) : PaOk ts' p := ⟨h.1, h.2.1, deep_ext hx _ _ h.2.2⟩
def ms : List Pa → Nat
  | [] => 0
  | p :: ps => wt p.left + ms ps
theorem ms_app : ∀ (ps qs : List Pa), ms (ps ++ qs) = ms ps + ms qs
  | [], qs => by simp [ms]
  | p :: ps, qs => by rw [List.cons_append, ms, ms_app ps qs, ms]; omega
theorem ms_len : ∀ (ps : List Pa), ps.length ≤ ms ps
  | [] => Nat.le_refl _
  | p :: ps => by
    have := ms_len ps
    have : 1 ≤ wt p.left := by unfold wt; omega
    rw [List.length_cons, ms]; omega
theorem drawI {ts : List Ps} {ω : Wd} (hω : NtW t P ts ω) {ρ : Ro} (i : Nat) (m : Int) (h0 : ρ[i]? = some (.val (ob 0))) (hm : 0 < m) (hm2 : m < 2 ^ 60) : ∃ d ω', eFun d__law_draw (aCons (eVar i) (aCons (eC (.int m)) aNil)) ρ ω = some (.int d, ω') ∧ NtW t P ts ω' ∧ 0 ≤ d ∧ d < m := by
  obtain ⟨d, ω', e, h1, i, rfl, h2, h3⟩ := WE.draw (t := NtW t P ts) (i := i) (g := eC (.int m)) m h0 (fun _ => rfl) hm (log_small (by omega) hm2) ω hω
  exact ⟨i, ω', e, h1, h2, h3⟩
theorem sbh : (Str.ofString "behind" = Str.ofString "step") = False := by decide
theorem jbh : (Str.ofString "behind" = Str.ofString "join") = False := by decide
theorem new_bh {ts : List Ps} {b a : Int} (h1 : 0 ≤ b) (h2 : b ≤ 281474976710656) (ha : rg a = true) : New 3000 ts (bhK b a) :=
  ⟨bhK_ok h1 h2 ha, .inr ⟨_, .inr rfl⟩, fun o e => by cases o <;> simp [Op.key, bhK, sbh, jbh] at e, fun h => absurd h (by decide)⟩
theorem pasts_loop {s0 s3 s4 s5 s6 s7 s8 s9 s11 s13 s14 s15 s16 s17 s21 s22 s23 : SV} : ∀ (fuel : Nat) (ps : List Pa) (ts : List Ps) (ω : Wd) (x10 x12 x19 x20 : SV), ms ps < fuel → ms ps ≤ 500 → (∀ p ∈ ps, PaOk ts p) → NtW t P ts ω → Wf 3000 ts → ts.length + ms ps ≤ 9990 → ∃ ts' ω' y10 y12 y19 y20, whileD (tOfE (eBin opNe (eVarB 18) (eLst aNil))) l_law_3 fuel [s0, .val (ob 0), .val (ob 2), s3, s4, s5, s6, s7, s8, s9, x10, s11, x12, s13, s14, s15, s16, s17, .own (ps.map paD), x19, x20, s21, s22, s23] ω = some (.nx [s0, .val (ob 0), .val (ob 2), s3, s4, s5, s6, s7, s8, s9, y10, s11, y12, s13, s14, s15, s16, s17, .own [], y19, y20, s21, s22, s23], ω') ∧ NtW t P ts' ω' ∧ Wf 3000 ts' ∧ Ext ts ts' (ms ps)
  | 0, ps, _, _, _, _, _, _, h, _, _, _, _, _ => absurd h (by omega)
  | fuel + 1, ps, ts, ω, x10, x12, x19, x20, hf, hm, hp, hω, w, hz => by
    have hc : ∀ (qs : List Pa) (a b c d : SV) ω, tOfE (eBin opNe (eVarB 18) (eLst aNil)) [s0, .val (ob 0), .val (ob 2), s3, s4, s5, s6, s7, s8, s9, a, s11, b, s13, s14, s15, s16, s17, .own (qs.map paD), c, d, s21, s22, s23] ω = some (!qs.isEmpty, ω) := fun qs a b c d ω => by
      have q := opNe_nil (l := qs.map paD) (plainAll_of fun x hx => by
        obtain ⟨p, _, rfl⟩ := List.mem_map.mp hx; rfl) (Nat.le_trans (depthAll_of (n := 1) fun x hx => by
        obtain ⟨p, _, rfl⟩ := List.mem_map.mp hx
        simp [paD, PyData.depth, PyData.depthAll]) (by decide))
      refine x_tE ?_
      simp [q]
    rcases List.eq_nil_or_concat ps with rfl | ⟨qs, p, rfl⟩
    · refine ⟨ts, ω, x10, x12, x19, x20, ?_, hω, w, .refl _ _⟩
      have := hc [] x10 x12 x19 x20 ω
      unfold whileD
      rw [this]
      rfl
    rw [List.concat_eq_append] at hf hm hp hz ⊢
    have hms : ms (qs ++ [p]) = ms qs + wt p.left := by rw [ms_app]; simp [ms]
    have hwt : 1 ≤ wt p.left := by unfold wt; omega
    have hql := ms_len qs
    have hne : (qs ++ [p]).isEmpty = false := by cases qs <;> rfl
    have hpo := hp p (by simp)
    have e1 : sPopG 18 (gTupD (gConsD (gSet 10) (gConsD (gSet 19) (gConsD (gSet 20) gNilD)))) [s0, .val (ob 0), .val (ob 2), s3, s4, s5, s6, s7, s8, s9, x10, s11, x12, s13, s14, s15, s16, s17, .own ((qs ++ [p]).map paD), x19, x20, s21, s22, s23] ω = some (.nx [s0, .val (ob 0), .val (ob 2), s3, s4, s5, s6, s7, s8, s9, .val (.int p.one), s11, x12, s13, s14, s15, s16, s17, .own (qs.map paD), .val (.int p.own), .val (.int p.left), s21, s22, s23], ω) := by
      have q1 : ((qs ++ [p]).map paD)[((qs ++ [p]).map paD).length - 1]? = some (paD p) := by simp
      have q2 : ((qs ++ [p]).map paD).dropLast = qs.map paD := by simp
      unfold sPopG
      simp only [List.getElem?_cons_succ, List.getElem?_cons_zero, q1, q2]
      rfl
    have e2 : eMethD "Notary" "parts_of" (eVar 2) d_Notary__parts_of (aCons (eVar 19) aNil) [s0, .val (ob 0), .val (ob 2), s3, s4, s5, s6, s7, s8, s9, .val (.int p.one), s11, x12, s13, s14, s15, s16, s17, .own (qs.map paD), .val (.int p.own), .val (.int p.left), s21, s22, s23] ω = some (prtD ts p.own, ω) := m_parts hω rfl rfl
    -- what is left of the turn, where nothing is put in
    have rest : ∀ ω1, NtW t P ts ω1 → (tAndD (tOfE (eBin opGt (eVar 20) (eC (.int 0)))) (tOfE (eBin opGt (eFun d__law_draw (aCons (eVar 1) (aCons (eC (.int 30)) aNil))) (eC (.int 0))))) [s0, .val (ob 0), .val (ob 2), s3, s4, s5, s6, s7, s8, s9, .val (.int p.one), s11, .val (prtD ts p.own), s13, s14, s15, s16, s17, .own (qs.map paD), .val (.int p.own), .val (.int p.left), s21, s22, s23] ω = some (false, ω1) → ∃ ts' ω' y10 y12 y19 y20, whileD (tOfE (eBin opNe (eVarB 18) (eLst aNil))) l_law_3 (fuel + 1) [s0, .val (ob 0), .val (ob 2), s3, s4, s5, s6, s7, s8, s9, x10, s11, x12, s13, s14, s15, s16, s17, .own ((qs ++ [p]).map paD), x19, x20, s21, s22, s23] ω = some (.nx [s0, .val (ob 0), .val (ob 2), s3, s4, s5, s6, s7, s8, s9, y10, s11, y12, s13, s14, s15, s16, s17, .own [], y19, y20, s21, s22, s23], ω') ∧ NtW t P ts' ω' ∧ Wf 3000 ts' ∧ Ext ts ts' (ms (qs ++ [p])) := fun ω1 h1 ec => by
      obtain ⟨ts', ω', y10, y12, y19, y20, e, h', w', x'⟩ := pasts_loop fuel qs ts ω1 (.val (.int p.one)) (.val (prtD ts p.own)) (.val (.int p.own)) (.val (.int p.left)) (by omega) (by omega) (fun q hq => hp q (List.mem_append_left _ hq)) h1 w (by omega)
      refine ⟨ts', ω', y10, y12, y19, y20, ?_, h', w', x'.mono (by omega)⟩
      have eb : l_law_3 [s0, .val (ob 0), .val (ob 2), s3, s4, s5, s6, s7, s8, s9, x10, s11, x12, s13, s14, s15, s16, s17, .own ((qs ++ [p]).map paD), x19, x20, s21, s22, s23] ω = some (.nx [s0, .val (ob 0), .val (ob 2), s3, s4, s5, s6, s7, s8, s9, .val (.int p.one), s11, .val (prtD ts p.own), s13, s14, s15, s16, s17, .own (qs.map paD), .val (.int p.own), .val (.int p.left), s21, s22, s23], ω1) := x_seq e1 (x_set e2 (ifF_of ec rfl))
      unfold whileD
      rw [hc, hne]
      simp only [Bool.not_false, if_true, eb]
      exact e
    cases hl : p.left with
    | zero =>
      refine rest ω hω ?_
      rw [tAndD_ap, tOfE_ap, eBin_ap]
      simp [hl]
    | succ n =>
      obtain ⟨d, ω1, e3, h1, hd0, hd1⟩ := drawI hω (ρ := [s0, .val (ob 0), .val (ob 2), s3, s4, s5, s6, s7, s8, s9, .val (.int p.one), s11, .val (prtD ts p.own), s13, s14, s15, s16, s17, .own (qs.map paD), .val (.int p.own), .val (.int p.left), s21, s22, s23]) 1 30 rfl (by decide) (by decide)
      have ec : (tAndD (tOfE (eBin opGt (eVar 20) (eC (.int 0)))) (tOfE (eBin opGt (eFun d__law_draw (aCons (eVar 1) (aCons (eC (.int 30)) aNil))) (eC (.int 0))))) [s0, .val (ob 0), .val (ob 2), s3, s4, s5, s6, s7, s8, s9, .val (.int p.one), s11, .val (prtD ts p.own), s13, s14, s15, s16, s17, .own (qs.map paD), .val (.int p.own), .val (.int p.left), s21, s22, s23] ω = some (decide (0 < d), ω1) := by
        have hp0 : (0 : Int) < (p.left : Int) := by omega
        rw [tAndD_ap, show tOfE (eBin opGt (eVar 20) (eC (.int 0))) [s0, .val (ob 0), .val (ob 2), s3, s4, s5, s6, s7, s8, s9, .val (.int p.one), s11, .val (prtD ts p.own), s13, s14, s15, s16, s17, .own (qs.map paD), .val (.int p.own), .val (.int p.left), s21, s22, s23] ω = some (true, ω) by rw [tOfE_ap, eBin_ap]; simp; omega]
        simp only [if_true]
        rw [tOfE_ap, eBin_ap, e3]
        simp
      by_cases hd : 0 < d
      · rw [decide_eq_true hd] at ec
        obtain ⟨ho1, ho2, hdp⟩ := hpo
        rw [hl] at hdp
        obtain ⟨a, b, c, ea, d1, d2⟩ := hdp
        obtain ⟨_, _, _, hpr⟩ := at_mem w.frm ea
        have epD : prtD ts p.own = od (.jn a b c) := by unfold prtD; rw [hpr]; rfl
        obtain ⟨ra, rb, rc⟩ := jn_ok (at_ok w.frm ea)
        rw [epD] at ec e2
        obtain ⟨ts2, ω2, z, e4, h2, w2, x2, r2⟩ := seal_new h1 h1 w (f := eVar 2) (a := aCons (eTup (aCons (eC (.str "behind")) (aCons (eVar 10) (aCons (eBin opIx (eVar 12) (eC (.int 1))) aNil)))) aNil) (ρ := [s0, .val (ob 0), .val (ob 2), s3, s4, s5, s6, s7, s8, s9, .val (.int p.one), s11, .val (od (.jn a b c)), s13, s14, s15, s16, s17, .own (qs.map paD), .val (.int p.own), .val (.int p.left), s21, s22, s23]) (p := bhK p.one a) rfl (by simp [od_jn]; rfl) (new_bh ho1 ho2 ra) (by omega)
        have hle := x2.2
        have hw1 : wt p.left = 2 * wt n + 1 := by rw [hl, wt_succ]
        have hms2 : ms (qs ++ [(⟨p.one, a, n⟩ : Pa), (⟨z, b, n⟩ : Pa)]) = ms qs + 2 * wt n := by rw [ms_app]; simp [ms]; omega
        obtain ⟨ts', ω', y10, y12, y19, y20, e, h', w', x'⟩ := pasts_loop fuel (qs ++ [(⟨p.one, a, n⟩ : Pa), (⟨z, b, n⟩ : Pa)]) ts2 ω2 (.val (.int p.one)) (.val (od (.jn a b c))) (.val (.int p.own)) (.val (.int p.left)) (by omega) (by omega) (fun q hq => by
          rcases List.mem_append.mp hq with hq | hq
          · exact (hp q (List.mem_append_left _ hq)).ext x2
          · rcases List.mem_cons.mp hq with rfl | hq
            · exact ⟨ho1, ho2, deep_ext x2 _ _ d1⟩
            · rw [List.mem_singleton.mp hq]
              exact ⟨by have := r2.1; show (0 : Int) ≤ z; omega, by have := r2.2.1; show z ≤ 281474976710656; omega, deep_ext x2 _ _ d2⟩) h2 w2 (by omega)
        refine ⟨ts', ω', y10, y12, y19, y20, ?_, h', w', (x2.trans x').mono (by omega)⟩
        have eL : eLst (aCons (eTup (aCons (eVar 10) (aCons (eBin opIx (eVar 12) (eC (.int 1))) (aCons (eBin opSub (eVar 20) (eC (.int 1))) aNil)))) (aCons (eTup (aCons (eMethD "Notary" "seal" (eVar 2) d_Notary__seal (aCons (eTup (aCons (eC (.str "behind")) (aCons (eVar 10) (aCons (eBin opIx (eVar 12) (eC (.int 1))) aNil)))) aNil)) (aCons (eBin opIx (eVar 12) (eC (.int 2))) (aCons (eBin opSub (eVar 20) (eC (.int 1))) aNil)))) aNil)) [s0, .val (ob 0), .val (ob 2), s3, s4, s5, s6, s7, s8, s9, .val (.int p.one), s11, .val (od (.jn a b c)), s13, s14, s15, s16, s17, .own (qs.map paD), .val (.int p.own), .val (.int p.left), s21, s22, s23] ω1 = some (.list [paD (⟨p.one, a, n⟩ : Pa), paD (⟨z, b, n⟩ : Pa)], ω2) := by
          have hn : ((p.left : Int) - 1) = (n : Int) := by omega
          rw [eLst_ap, aCons_ap, eTup_ap, aCons_ap]
          simp only [eVar_ap, List.getElem?_cons_succ, List.getElem?_cons_zero, aCons_ap, eBin_ap, eC_ap, od_jn, opIx_tup1, opSub_int, aNil_ap, eTup_ap, hn]
          rw [show eMethD "Notary" "seal" (eVar 2) d_Notary__seal (aCons (eTup (aCons (eC (.str "behind")) (aCons (eVar 10) (aCons (eBin opIx (eVar 12) (eC (.int 1))) aNil)))) aNil) [s0, .val (ob 0), .val (ob 2), s3, s4, s5, s6, s7, s8, s9, .val (.int p.one), s11, .val (.tuple [.str "join", .int a, .int b, .int c]), s13, s14, s15, s16, s17, .own (qs.map paD), .val (.int p.own), .val (.int p.left), s21, s22, s23] ω1 = some (.int z, ω2) from e4]
          simp only [opIx_tup2, List.getElem?_cons_succ, List.getElem?_cons_zero, hn]
          rfl
        have eb : l_law_3 [s0, .val (ob 0), .val (ob 2), s3, s4, s5, s6, s7, s8, s9, x10, s11, x12, s13, s14, s15, s16, s17, .own ((qs ++ [p]).map paD), x19, x20, s21, s22, s23] ω = some (.nx [s0, .val (ob 0), .val (ob 2), s3, s4, s5, s6, s7, s8, s9, .val (.int p.one), s11, .val (od (.jn a b c)), s13, s14, s15, s16, s17, .own ((qs ++ [(⟨p.one, a, n⟩ : Pa), (⟨z, b, n⟩ : Pa)]).map paD), .val (.int p.own), .val (.int p.left), s21, s22, s23], ω2) := by
          refine x_seq e1 (x_set e2 (ifT_of ec ?_))
          rw [show (qs ++ [(⟨p.one, a, n⟩ : Pa), (⟨z, b, n⟩ : Pa)]).map paD = qs.map paD ++ [paD (⟨p.one, a, n⟩ : Pa), paD (⟨z, b, n⟩ : Pa)] by simp]
          have hzz : (qs.map paD).length + [paD (⟨p.one, a, n⟩ : Pa), paD (⟨z, b, n⟩ : Pa)].length ≤ sizeLine := by
            rw [sizeLine_num, List.length_map]; simp; omega
          rw [sExt_ap]
          rw [show eLst _ ([s0, .val (ob 0), .val (ob 2), s3, s4, s5, s6, s7, s8, s9, .val (.int p.one), s11, x12, s13, s14, s15, s16, s17, .own (qs.map paD), .val (.int p.own), .val (.int p.left), s21, s22, s23].set 12 (.val (od (.jn a b c)))) ω1 = _ from eL]
          simp only [List.set_cons_succ, List.set_cons_zero, List.getElem?_cons_succ, List.getElem?_cons_zero, if_pos hzz]
        unfold whileD
        rw [hc, hne]
        simp only [Bool.not_false, if_true, eb]
        exact e
      · rw [decide_eq_false hd] at ec
        exact rest ω1 h1 ec
end G_k29
end

section
namespace G_k29
open PySem PySem.Spec L2 Dn
local instance : Tb := noTb
/-! ## the law, statement by statement -/
def Good (f : DS) (ρ : Ro) (ω : Wd) : Prop := ∃ ω', f ρ ω = some (.rt (.bool true), ω')
theorem good_seq {f h : DS} {ρ ρ1 : Ro} {ω ω1 : Wd} (e : f ρ ω = some (.nx ρ1, ω1)) (k : Good h ρ1 ω1) : Good (sSeq f h) ρ ω := by
  obtain ⟨ω', e2⟩ := k
  exact ⟨ω', by rw [sSeq_ap, e]; exact e2⟩
theorem good_set {i : Nat} {ef : DE} {h : DS} {ρ : Ro} {ω ω1 : Wd} {d : D} (e : ef ρ ω = some (d, ω1)) (k : Good h (ρ.set i (.val d)) ω1) : Good (sSeq (sSet i ef) h) ρ ω := good_seq (set_of e) k
theorem good_if {c : DT} {f h : DS} {ρ : Ro} {ω ω1 : Wd} (e : c ρ ω = some (false, ω1)) (k : Good h ρ ω1) : Good (sSeq (sIf c f sNext) h) ρ ω := good_seq (ifF_of e rfl) k
abbrev NW (ts : List Ps) : Wd → Prop := NtW [.int 0] (· = []) ts
section
variable {t : Wd → Prop} [DrawI t]
theorem WT_draw0 {ρ : Ro} {i : Nat} (m : Int) (h0 : ρ[i]? = some (.val (ob 0))) (hm : 0 < m) (hm2 : m < 2 ^ 60) : WT t (tOfE (eBin opEq (eFun d__law_draw (aCons (eVar i) (aCons (eC (.int m)) aNil))) (eC (.int 0)))) ρ (fun _ => True) := by
  rw [draw_eq]
  exact WT.ofE (WE.bin (WE.draw m h0 (fun _ => rfl) hm (log_small (by omega) hm2)) (WE.c (P := fun d => d = .int 0) rfl) (fun x y ⟨i, hi, _, _⟩ hy => by subst hi; subst hy; exact ⟨_, opEq_int i 0, _, rfl, trivial⟩))
theorem level_ok {ρ : Ro} (h0 : ρ[1]? = some (.val (ob 0))) : WE t (eIf (tOfE (eBin opEq (eFun d__law_draw (aCons (eVar 1) (aCons (eC (.int 8)) aNil))) (eC (.int 0)))) (eBin opAdd (eC (.int 6)) (eFun d__law_draw (aCons (eVar 1) (aCons (eC (.int 5)) aNil)))) (eFun d__law_draw (aCons (eVar 1) (aCons (eC (.int 6)) aNil)))) ρ (fun d => ∃ lv : Nat, d = .int lv ∧ lv ≤ 10) := by
  refine WE.if' (WT_draw0 8 h0 (by decide) (by decide)) (fun _ => ?_) (fun _ => ?_)
  · rw [draw_eq]
    refine WE.bin (P := fun d => d = .int 6) (WE.c rfl) (WE.draw 5 h0 (fun _ => rfl) (by decide) (by decide)) ?_
    rintro x y rfl ⟨i, rfl, h1, h2⟩
    exact ⟨_, opAdd_int 6 i, (6 + i).toNat, by congr 1; omega, by omega⟩
  · rw [draw_eq]
    refine (WE.draw 6 h0 (fun _ => rfl) (by decide) (by decide)).mono ?_
    rintro x ⟨i, rfl, h1, h2⟩
    exact ⟨i.toNat, by congr 1; omega, by omega⟩
theorem shl_ok (lv : Nat) (h : lv ≤ 10) : opShl (.int 1) (.int (lv : Int)) = some (.int ((2 ^ lv : Nat) : Int)) := by
  show (if 0 ≤ (lv : Int) ∧ (lv : Int) ≤ 1000000 ∧ (1 : Int).natAbs < 2 ^ 64 then some (PyData.int (1 * 2 ^ (lv : Int).toNat)) else none) = _
  rw [if_pos ⟨by omega, by omega, by decide⟩]
  simp
theorem row_ok {ρ : Ro} {lv : Nat} (hlv : lv ≤ 10) (hn : ρ.length = 24) (h0 : ρ[1]? = some (.val (ob 0))) (h3 : ρ[3]? = some (.val (.int lv))) : WE t (eOfN (eLcN (iRange (aCons (eBin opShl (eC (.int 1)) (eVar 3)) aNil)) (gSet 23) tYesD (eBin opAdd (eC (.int 1)) (eFun d__law_draw (aCons (eVar 1) (aCons (eBin opIx (eLst (aCons (eC (.int 3)) (aCons (eC (.int 1000)) aNil))) (eFun d__law_draw (aCons (eVar 1) (aCons (eC (.int 2)) aNil)))) aNil)))) [23])) ρ (fun d => ∃ rs : List Int, d = .list (rs.map .int) ∧ rs.length = 2 ^ lv ∧ ∀ x ∈ rs, 1 ≤ x ∧ x ≤ 1000) := by
  have hp10 : 2 ^ lv ≤ 2 ^ 10 := Nat.pow_le_pow_right (by omega) hlv
  refine WE.ofA (P' := fun xs => xs.length = 2 ^ lv ∧ ∀ x ∈ xs, IntIn 1 1001 x) (WA.lc (n := 2 ^ lv) (P := fun _ => True) (WA.pure ((List.range (2 ^ lv)).map natD) (fun ω => x_rng ?_ (by omega)) (by simp)) fun d _ => ⟨_, rfl, fun _ => rfl, ?_⟩) ?_
  · simp [h3, shl_ok lv hlv]
  · have g1 : ((wipeR ρ [23]).set 23 (.val d))[1]? = some (.val (ob 0)) := by
      rw [List.getElem?_set_ne (by decide)]
      simp [wipeR, h0]
    rw [draw_eq]
    refine WE.bin (P := fun d => d = .int 1) (Q := IntIn 0 1000) (WE.c rfl) ?_ ?_
    · intro ω hω
      obtain ⟨x, ω1, e1, i1, i, rfl, b0, b1⟩ := WE.pick (t := t) (ρ := (wipeR ρ [23]).set 23 (.val d)) (a := (aCons (eC (.int 3)) (aCons (eC (.int 1000)) aNil))) (g := eFun dDraw (aCons (eVar 1) (aCons (eC (.int 2)) aNil))) (P := IntIn 3 1001) 2 (WA.consP (WE.c ⟨3, rfl, by decide, by decide⟩) (WA.consP (WE.c ⟨1000, rfl, by decide, by decide⟩) WA.nilP)) (WE.draw 2 g1 (fun _ => rfl) (by decide) (by decide)) ω hω
      obtain ⟨v, ω2, e2, v0, v1, i2⟩ := draw_ok i1 (m := i) (by omega) (log_small (by omega) (by omega))
      refine ⟨.int v, ω2, ?_, i2, v, rfl, v0, by omega⟩
      rw [eFun_ap, aCons_ap, eVar_ap, g1]
      simp only [aCons_ap, e1, aNil_ap]
      exact e2
    · rintro x y rfl ⟨i, rfl, b0, b1⟩
      exact ⟨_, opAdd_int 1 i, _, rfl, by omega, by omega⟩
  · rintro xs ⟨h1, h2⟩
    have : ∀ xs : List D, (∀ x ∈ xs, IntIn 1 1001 x) → ∃ rs : List Int, xs = rs.map .int ∧ ∀ x ∈ rs, 1 ≤ x ∧ x ≤ 1000 := fun xs => by
      induction xs with
      | nil => exact fun _ => ⟨[], rfl, by simp⟩
      | cons x xs ih =>
        intro h
        obtain ⟨i, rfl, b0, b1⟩ := h x (List.mem_cons_self ..)
        obtain ⟨rs, rfl, hr⟩ := ih fun y hy => h y (List.mem_cons_of_mem _ hy)
        exact ⟨i :: rs, rfl, fun y hy => by
          rcases List.mem_cons.mp hy with rfl | hy
          · exact ⟨b0, by omega⟩
          · exact hr y hy⟩
    obtain ⟨rs, rfl, hr⟩ := this xs h2
    exact ⟨rs, rfl, by simpa using h1, hr⟩
theorem depth_ok {ρ : Ro} {lv : Nat} (hlv : lv ≤ 10) (h0 : ρ[1]? = some (.val (ob 0))) (h3 : ρ[3]? = some (.val (.int lv))) : WE t (eCall opMin2 (aCons (eC (.int 4)) (aCons (eFun d__law_draw (aCons (eVar 1) (aCons (eBin opAdd (eVar 3) (eC (.int 2))) aNil))) aNil))) ρ (fun d => ∃ dep : Nat, d = .int dep ∧ dep ≤ 4) := by
  rw [draw_eq]
  refine WE.call (WA.cons (P := fun d => d = .int 4) (WE.c rfl) (WA.one (WE.draw ((lv : Int) + 2) h0 (fun ω => by simp [h3]) (by omega) (log_small (by omega) (by omega))) (Q := fun ds => ∃ i : Int, ds = [.int i] ∧ 0 ≤ i) fun d ⟨i, e, b, _⟩ => ⟨i, by rw [e], b⟩)) ?_
  rintro l ⟨d, l', rfl, rfl, i, rfl, b⟩
  refine ⟨_, opMin2_int 4 i, (min 4 i).toNat, by congr 1; omega, by omega⟩
theorem other_ok {ρ : Ro} {dep : Nat} (hd : dep ≤ 4) (h0 : ρ[1]? = some (.val (ob 0))) (h6 : ρ[6]? = some (.val (.int dep))) : WE t (eIf (tOfE (eBin opEq (eFun d__law_draw (aCons (eVar 1) (aCons (eC (.int 4)) aNil))) (eC (.int 0)))) (eCall opMin2 (aCons (eC (.int 4)) (aCons (eFun d__law_draw (aCons (eVar 1) (aCons (eC (.int 6)) aNil))) aNil))) (eVar 6)) ρ (fun d => ∃ dep : Nat, d = .int dep ∧ dep ≤ 4) := by
  refine WE.if' (WT_draw0 4 h0 (by decide) (by decide)) (fun _ => ?_) (fun _ => WE.v h6 ⟨dep, rfl, hd⟩)
  rw [draw_eq]
  refine WE.call (WA.cons (P := fun d => d = .int 4) (WE.c rfl) (WA.one (WE.draw 6 h0 (fun ω => rfl) (by omega) (log_small (by omega) (by omega))) (Q := fun ds => ∃ i : Int, ds = [.int i] ∧ 0 ≤ i) fun d ⟨i, e, b, _⟩ => ⟨i, by rw [e], b⟩)) ?_
  rintro l ⟨d, l', rfl, rfl, i, rfl, b⟩
  refine ⟨_, opMin2_int 4 i, (min 4 i).toNat, by congr 1; omega, by omega⟩
end
/-- the history -/
theorem history_ok {ρ : Ro} {lv : Nat} {rs : List Int} (hlv : lv ≤ 10) (hl : rs.length = 2 ^ lv) (hr : ∀ x ∈ rs, 1 ≤ x ∧ x ≤ 1000) (h1 : ρ[1]? = some (.val (ob 0))) (h2 : ρ[2]? = some (.val (ob 2))) (h4 : ρ[4]? = some (.val (.list (rs.map .int)))) {ω : Wd} (hω : NW [] ω) : ∃ ts ω' h, (eIf (tOfE (eBin opEq (eFun d__law_draw (aCons (eVar 1) (aCons (eC (.int 2)) aNil))) (eC (.int 0)))) (eFun d_history_of (aCons (eVar 2) (aCons (eCall opTuple (aCons (eVar 4) aNil)) aNil))) (eFun (d__law_history 12) (aCons (eVar 1) (aCons (eVar 2) (aCons (eVar 4) aNil))))) ρ ω = some (.int h, ω') ∧ NW ts ω' ∧ Wf 1000 ts ∧ ts.length ≤ 4000 ∧ Ref ts h := by
  have hp10 : 2 ^ lv ≤ 2 ^ 10 := Nat.pow_le_pow_right (by omega) hlv
  have w0 : Wf 1000 [] := ⟨(fun p hp => nomatch hp), List.nodup_nil, (fun o ho => nomatch ho), (fun o ho => nomatch ho), (fun _ b a h => nomatch h)⟩
  obtain ⟨b, ω1, e1, i1, _⟩ := WT_draw0 (t := NW []) (ρ := ρ) (i := 1) 2 h1 (by decide) (by decide) ω hω
  cases b with
  | true =>
    obtain ⟨ts, ω2, z, e2, i2, w2, x2, r2⟩ := historyOf_ok hr hl hlv i1 w0 (by simp)
    refine ⟨ts, ω2, z, ?_, i2, w2, by have := x2.2; simp at this; omega, r2⟩
    rw [eIf_ap, e1]
    simp only [if_true]
    rw [eFun_ap]
    simp [h2, h4, e2]
  | false =>
    obtain ⟨ts, ω2, z, e2, i2, w2, x2, r2⟩ := hist_ok lv 12 rs [] ω1 (by omega) hl hr i1 w0 (by simp; omega)
    refine ⟨ts, ω2, z, ?_, i2, w2, by have := x2.2; simp at this; omega, r2⟩
    rw [eIf_ap, e1]
    simp only [Bool.false_eq_true, if_false]
    rw [eFun_ap]
    simp [h1, h2, h4, e2]
end G_k29
end

section
namespace G_k29
open PySem PySem.Spec L2 Dn
local instance : Tb := noTb
theorem sameW {f g : DE} {ρ : Ro} {ω ω1 ω2 : Wd} {d : D} (h1 : f ρ ω = some (d, ω1)) (h2 : g ρ ω1 = some (d, ω2)) (hk : okD d = true) (hd : dpt d ≤ 6) : tNotD (tOfE (eFunP (d__law_same 6) (aCons f (aCons g aNil)))) ρ ω = some (false, ω2) := by
  have q : eFunP (d__law_same 6) (aCons f (aCons g aNil)) ρ ω = some (.bool true, ω2) := by
    rw [eFunP_ap, aCons_ap, h1]
    simp only [aCons_ap, h2, aNil_ap]
    rw [same_eq, sameD_refl 6 d _ hk hd]
  exact (not_of q).trans rfl
theorem osD_okd {ts : List Ps} {h : Int} {dep : Nat} (hd : dep ≤ 4) {o : Option (List Op)} (ho : ∀ os, o = some os → os.length ≤ 100) : okD (osD o) = true ∧ dpt (osD o) ≤ 6 := by
  cases o with
  | none => exact ⟨rfl, by simp [osD, dpt]⟩
  | some os =>
    have hl := ho os rfl
    constructor
    · show okD (.tuple (os.map od)) = true
      rw [okD, Bool.and_eq_true, decide_eq_true_eq]
      refine ⟨by rw [List.length_map]; omega, okL_of' fun x hx => ?_⟩
      obtain ⟨k, _, rfl⟩ := List.mem_map.mp hx
      cases k <;> rfl
    · show dpt (.tuple (os.map od)) ≤ 6
      rw [dpt]
      have := dptL_of (n := 2) (xs := os.map od) fun x hx => by
        obtain ⟨k, _, rfl⟩ := List.mem_map.mp hx
        cases k <;> simp [od_st, od_jn, dpt, dptL]
      omega
theorem opn_len {ts : List Ps} {h : Int} {dep : Nat} (hd : dep ≤ 4) : ∀ os, opn ts dep [h] = some os → os.length ≤ 100 := fun os e => by
  have := (opn_fit e).1
  have := jt4 hd
  omega
theorem due_len' {ts : List Ps} {h : Int} {dep : Nat} (hd : dep ≤ 4) : ∀ os, dueO ts h dep = some os → os.length ≤ 100 := fun os e => opn_len hd os (due_some e).1
section
variable {ts : List Ps} {s4 s9 s10 s11 s12 s13 s14 s15 s16 s17 s18 s19 s20 s21 s22 s23 : SV} {lv dep : Nat} {h oo : Int} {du : Option (List Op)}
theorem law1_ok (hF : FrmT ts) (hd : dep ≤ 4) (one : Int) {ω : Wd} (hω : NW ts ω) : ∃ ω' x11, l_law_1 [.un, .val (ob 0), .val (ob 2), .val (.int (lv : Nat)), s4, .val (.int h), .val (.int (dep : Nat)), .val (osD du), .val (.int oo), s9, .val (.int one), s11, s12, s13, s14, s15, s16, s17, s18, s19, s20, s21, s22, s23] ω = some (.nx [.un, .val (ob 0), .val (ob 2), .val (.int (lv : Nat)), s4, .val (.int h), .val (.int (dep : Nat)), .val (osD du), .val (.int oo), s9, .val (.int one), x11, s12, s13, s14, s15, s16, s17, s18, s19, s20, s21, s22, s23], ω') ∧ NW ts ω' := by
  have k1 := osD_okd (ts := ts) (h := h) hd (opn_len (ts := ts) (h := one) hd)
  have k2 := osD_okd (ts := ts) (h := h) hd (due_len' (ts := ts) (h := one) hd)
  obtain ⟨ω1, e1, i1⟩ := wide_any (h := one) hd (osD_Bv (opn ts dep [one])) hω
  obtain ⟨ω2, e2, i2⟩ := law_any (h := one) hd (osD_Bv (opn ts dep [one])) i1
  refine ⟨ω2, .val (osD (opn ts dep [one])), ?_, i2⟩
  refine x_set (d := osD (opn ts dep [one])) ?_ (seq_of (ifF_of (sameW (d := wpD ts one dep (osD (opn ts dep [one]))) (ω1 := ω1) (ω2 := ω2) ?_ ?_ (wpD_okd hd).1 (Nat.le_trans (wpD_okd hd).2 (by decide))) rfl) (ifF_of (sameW (d := osD (dueO ts one dep)) (ω1 := ω2) (ω2 := ω2) ?_ ?_ k2.1 k2.2) rfl))
  · exact lawOpened_ok hF hω hd
  · exact e1
  · exact e2
  · exact wideOpening_ok hF i2 hd
  · exact lawOpenings_ok hF i2 hd
theorem loop1_ok (hF : FrmT ts) (hd : dep ≤ 4) {ω : Wd} (hω : NW ts ω) : ∃ ω' x10 x11, sFor (iSq (eTup (aCons (eVar 5) (aCons (eVar 8) aNil)))) (gSet 10) l_law_1 [.un, .val (ob 0), .val (ob 2), .val (.int (lv : Nat)), s4, .val (.int h), .val (.int (dep : Nat)), .val (osD du), .val (.int oo), s9, s10, s11, s12, s13, s14, s15, s16, s17, s18, s19, s20, s21, s22, s23] ω = some (.nx [.un, .val (ob 0), .val (ob 2), .val (.int (lv : Nat)), s4, .val (.int h), .val (.int (dep : Nat)), .val (osD du), .val (.int oo), s9, x10, x11, s12, s13, s14, s15, s16, s17, s18, s19, s20, s21, s22, s23], ω') ∧ NW ts ω' := by
  obtain ⟨ω1, y1, e1, i1⟩ := law1_ok (s4 := s4) (s9 := s9) (s11 := s11) (s12 := s12) (s13 := s13) (s14 := s14) (s15 := s15) (s16 := s16) (s17 := s17) (s18 := s18) (s19 := s19) (s20 := s20) (s21 := s21) (s22 := s22) (s23 := s23) (lv := lv) (h := h) (oo := oo) (du := du) hF hd h hω
  obtain ⟨ω2, y2, e2, i2⟩ := law1_ok (s4 := s4) (s9 := s9) (s11 := y1) (s12 := s12) (s13 := s13) (s14 := s14) (s15 := s15) (s16 := s16) (s17 := s17) (s18 := s18) (s19 := s19) (s20 := s20) (s21 := s21) (s22 := s22) (s23 := s23) (lv := lv) (h := h) (oo := oo) (du := du) hF hd oo i1
  refine ⟨ω2, .val (.int oo), y2, ?_, i2⟩
  refine x_for1 (ds := [.int h, .int oo]) rfl ?_
  unfold loopD
  simp only [gSet_ap, List.set_cons_succ, List.set_cons_zero, e1]
  unfold loopD
  simp only [gSet_ap, List.set_cons_succ, List.set_cons_zero, e2]
  rfl
theorem wp_succ (hF : FrmT ts) (hn : ts.Nodup) (hd : dep ≤ 4) (hu : du = dueO ts h dep) : isNon (wpD ts (h + 1) dep (osD du)) = true := by
  cases hN : isNon (wpD ts (h + 1) dep (osD du)) with
  | true => rfl
  | false =>
    obtain ⟨os, e, ho, hl, hA⟩ := wpD_some hN
    cases du with
    | none => simp [osD] at e
    | some os' =>
      rw [osD_some, PyData.tuple.injEq] at e
      have := map_od_inj e
      subst this
      have hB := due_acc hF hn hu.symm
      unfold accP at hA hB
      rw [Bool.and_eq_true, decide_eq_true_eq] at hA hB
      rw [hA.2] at hB
      have := hB.2
      simp [dueL] at this
      omega
theorem law2_ok (hF : FrmT ts) (hn : ts.Nodup) (hd : dep ≤ 4) (hu : du = dueO ts h dep) {ω : Wd} (hω : NW ts ω) : ∃ ω' x14 x15, l_law_2 [.un, .val (ob 0), .val (ob 2), .val (.int (lv : Nat)), s4, .val (.int h), .val (.int (dep : Nat)), .val (osD du), .val (.int oo), s9, s10, s11, s12, s13, s14, s15, s16, s17, s18, s19, s20, s21, s22, s23] ω = some (.nx [.un, .val (ob 0), .val (ob 2), .val (.int (lv : Nat)), s4, .val (.int h), .val (.int (dep : Nat)), .val (osD du), .val (.int oo), s9, s10, s11, s12, s13, x14, x15, s16, s17, s18, s19, s20, s21, s22, s23], ω') ∧ NW ts ω' := by
  obtain ⟨_, ω1, e1, i1, d2, rfl, hd2⟩ := other_ok (t := NW ts) (ρ := [.un, .val (ob 0), .val (ob 2), .val (.int (lv : Nat)), s4, .val (.int h), .val (.int (dep : Nat)), .val (osD du), .val (.int oo), s9, s10, s11, s12, s13, s14, s15, s16, s17, s18, s19, s20, s21, s22, s23]) hd rfl rfl ω hω
  obtain ⟨bt, ω2, e2, i2, hb⟩ := changed_any (t := NW ts) (o := du) (by rw [hu]; exact due_len' hd) i1
  obtain ⟨ω3, e3, i3⟩ := wide_any (h := h) hd2 hb i2
  obtain ⟨ω4, e4, i4⟩ := law_any (h := h) hd2 hb i3
  obtain ⟨ω5, e5, i5⟩ := wide_any (h := h + 1) hd (osD_Bv du) i4
  have ec : tOfE (eBin opNotN (eFun d_wide_parts (aCons (eVar 2) (aCons (eBin opAdd (eVar 5) (eC (.int 1))) (aCons (eVar 6) (aCons (eVar 7) aNil))))) (eC .none)) [.un, .val (ob 0), .val (ob 2), .val (.int (lv : Nat)), s4, .val (.int h), .val (.int (dep : Nat)), .val (osD du), .val (.int oo), s9, s10, s11, s12, s13, .val (.int (d2 : Nat)), .val bt, s16, s17, s18, s19, s20, s21, s22, s23] ω4 = some (false, ω5) := by
    have q : eFun d_wide_parts (aCons (eVar 2) (aCons (eBin opAdd (eVar 5) (eC (.int 1))) (aCons (eVar 6) (aCons (eVar 7) aNil)))) [.un, .val (ob 0), .val (ob 2), .val (.int (lv : Nat)), s4, .val (.int h), .val (.int (dep : Nat)), .val (osD du), .val (.int oo), s9, s10, s11, s12, s13, .val (.int (d2 : Nat)), .val bt, s16, s17, s18, s19, s20, s21, s22, s23] ω4 = some (wpD ts (h + 1) dep (osD du), ω5) := e5
    rw [tOfE_ap, eBin_ap, q]
    have := wp_succ hF hn hd hu
    simp [this]
  refine ⟨ω5, .val (.int d2), .val bt, ?_, i5⟩
  refine seq_of (set_of e1) (seq_of (set_of (d := bt) (ω' := ω2) ?_) (seq_of (ifF_of (sameW (d := wpD ts h d2 bt) (ω1 := ω3) (ω2 := ω4) ?_ ?_ (wpD_okd hd2).1 (Nat.le_trans (wpD_okd hd2).2 (by decide))) rfl) (ifF_of (ω' := ω5) ?_ rfl)))
  · exact e2
  · exact e3
  · exact e4
  · exact ec
theorem loop2_ok (hF : FrmT ts) (hn : ts.Nodup) (hd : dep ≤ 4) (hu : du = dueO ts h dep) : ∀ (l : List D) (s13 s14 s15 : SV) (ω : Wd), NW ts ω → ∃ ω' x13 x14 x15, loopD (gSet 13) l_law_2 l [.un, .val (ob 0), .val (ob 2), .val (.int (lv : Nat)), s4, .val (.int h), .val (.int (dep : Nat)), .val (osD du), .val (.int oo), s9, s10, s11, s12, s13, s14, s15, s16, s17, s18, s19, s20, s21, s22, s23] ω = some (.nx [.un, .val (ob 0), .val (ob 2), .val (.int (lv : Nat)), s4, .val (.int h), .val (.int (dep : Nat)), .val (osD du), .val (.int oo), s9, s10, s11, s12, x13, x14, x15, s16, s17, s18, s19, s20, s21, s22, s23], ω') ∧ NW ts ω'
  | [], s13, s14, s15, ω, hω => ⟨ω, s13, s14, s15, rfl, hω⟩
  | d :: l, s13, s14, s15, ω, hω => by
    obtain ⟨ω1, y14, y15, e1, i1⟩ := law2_ok (s4 := s4) (s9 := s9) (s10 := s10) (s11 := s11) (s12 := s12) (s13 := .val d) (s14 := s14) (s15 := s15) (s16 := s16) (s17 := s17) (s18 := s18) (s19 := s19) (s20 := s20) (s21 := s21) (s22 := s22) (s23 := s23) (lv := lv) (oo := oo) hF hn hd hu hω
    obtain ⟨ω2, z13, z14, z15, e2, i2⟩ := loop2_ok hF hn hd hu l (.val d) y14 y15 ω1 i1
    refine ⟨ω2, z13, z14, z15, ?_, i2⟩
    unfold loopD
    simp only [gSet_ap, List.set_cons_succ, List.set_cons_zero, e1]
    exact e2
theorem law4_ok {sp : Sp} (hF : FrmT ts) (hz : ts.length ≤ 16777216) (hs : SpOk sp) (hh : sp.h = h) (h1 : 1 ≤ h) (hd : dep ≤ 4) (hu : ∀ os, du = some os → os.length ≤ 100) {ω : Wd} (hω : NW ts ω) : ∃ ω' x15, l_law_4 [.un, .val (ob 0), .val (ob 2), .val (.int (lv : Nat)), s4, .val (.int h), .val (.int (dep : Nat)), .val (osD du), .val (.int oo), s9, s10, s11, s12, s13, s14, s15, s16, .val (spD sp), s18, s19, s20, s21, s22, s23] ω = some (.nx [.un, .val (ob 0), .val (ob 2), .val (.int (lv : Nat)), s4, .val (.int h), .val (.int (dep : Nat)), .val (osD du), .val (.int oo), s9, s10, s11, s12, s13, s14, x15, s16, .val (spD sp), s18, s19, s20, s21, s22, s23], ω') ∧ NW ts ω' := by
  obtain ⟨bt, ω2, e2, i2, hb⟩ := changed_any (t := NW ts) (o := du) hu hω
  obtain ⟨ω4, e4, i4⟩ := law_any (h := h) hd hb i2
  obtain ⟨ω5, e5, i5⟩ := wideCut_any hF hz hs (by omega) hd hb i4
  have ha : eFun d__law_parts (aCons (eVar 2) (aCons (eVar 5) (aCons (eVar 6) (aCons (eVar 15) aNil)))) [.un, .val (ob 0), .val (ob 2), .val (.int (lv : Nat)), s4, .val (.int h), .val (.int (dep : Nat)), .val (osD du), .val (.int oo), s9, s10, s11, s12, s13, s14, .val bt, s16, .val (spD sp), s18, s19, s20, s21, s22, s23] ω2 = some (wpD ts h dep bt, ω4) := e4
  have hc : eFun d_wide_cut (aCons (eVar 2) (aCons (eVar 17) (aCons (eVar 6) (aCons (eVar 15) aNil)))) [.un, .val (ob 0), .val (ob 2), .val (.int (lv : Nat)), s4, .val (.int h), .val (.int (dep : Nat)), .val (osD du), .val (.int oo), s9, s10, s11, s12, s13, s14, .val bt, s16, .val (spD sp), s18, s19, s20, s21, s22, s23] ω4 = some (wcD ts sp dep bt, ω5) := e5
  cases hN : isNon (wpD ts h dep bt) with
  | true =>
    have hw : isNon (wcD ts sp dep bt) = true := by
      unfold wcD
      rw [hh]
      by_cases hl : sp.l < dep
      · rw [if_pos hl]; rfl
      · rw [if_neg hl, if_pos hN]; rfl
    have ec : (tAndD (tOfE (eBin opIsN (eFun d__law_parts (aCons (eVar 2) (aCons (eVar 5) (aCons (eVar 6) (aCons (eVar 15) aNil))))) (eC .none))) (tOfE (eBin opNotN (eFun d_wide_cut (aCons (eVar 2) (aCons (eVar 17) (aCons (eVar 6) (aCons (eVar 15) aNil))))) (eC .none)))) [.un, .val (ob 0), .val (ob 2), .val (.int (lv : Nat)), s4, .val (.int h), .val (.int (dep : Nat)), .val (osD du), .val (.int oo), s9, s10, s11, s12, s13, s14, .val bt, s16, .val (spD sp), s18, s19, s20, s21, s22, s23] ω2 = some (false, ω5) := by
      rw [tAndD_ap, tOfE_ap, eBin_ap, ha]
      simp only [eC_ap, opIsN_none, hN, if_true]
      rw [tOfE_ap, eBin_ap, hc]
      simp [hw]
    exact ⟨ω5, .val bt, seq_of (set_of (d := bt) (ω' := ω2) e2) (ifF_of (ω' := ω5) ec rfl), i5⟩
  | false =>
    have ec : (tAndD (tOfE (eBin opIsN (eFun d__law_parts (aCons (eVar 2) (aCons (eVar 5) (aCons (eVar 6) (aCons (eVar 15) aNil))))) (eC .none))) (tOfE (eBin opNotN (eFun d_wide_cut (aCons (eVar 2) (aCons (eVar 17) (aCons (eVar 6) (aCons (eVar 15) aNil))))) (eC .none)))) [.un, .val (ob 0), .val (ob 2), .val (.int (lv : Nat)), s4, .val (.int h), .val (.int (dep : Nat)), .val (osD du), .val (.int oo), s9, s10, s11, s12, s13, s14, .val bt, s16, .val (spD sp), s18, s19, s20, s21, s22, s23] ω2 = some (false, ω4) := by
      rw [tAndD_ap, tOfE_ap, eBin_ap, ha]
      simp [hN]
    exact ⟨ω4, .val bt, seq_of (set_of (d := bt) (ω' := ω2) e2) (ifF_of (ω' := ω4) ec rfl), i4⟩
theorem loop4_ok {sp : Sp} (hF : FrmT ts) (hz : ts.length ≤ 16777216) (hs : SpOk sp) (hh : sp.h = h) (h1 : 1 ≤ h) (hd : dep ≤ 4) (hu : ∀ os, du = some os → os.length ≤ 100) : ∀ (l : List D) (s13 s15 : SV) (ω : Wd), NW ts ω → ∃ ω' x13 x15, loopD (gSet 13) l_law_4 l [.un, .val (ob 0), .val (ob 2), .val (.int (lv : Nat)), s4, .val (.int h), .val (.int (dep : Nat)), .val (osD du), .val (.int oo), s9, s10, s11, s12, s13, s14, s15, s16, .val (spD sp), s18, s19, s20, s21, s22, s23] ω = some (.nx [.un, .val (ob 0), .val (ob 2), .val (.int (lv : Nat)), s4, .val (.int h), .val (.int (dep : Nat)), .val (osD du), .val (.int oo), s9, s10, s11, s12, x13, s14, x15, s16, .val (spD sp), s18, s19, s20, s21, s22, s23], ω') ∧ NW ts ω'
  | [], s13, s15, ω, hω => ⟨ω, s13, s15, rfl, hω⟩
  | d :: l, s13, s15, ω, hω => by
    obtain ⟨ω1, y15, e1, i1⟩ := law4_ok (s4 := s4) (s9 := s9) (s10 := s10) (s11 := s11) (s12 := s12) (s13 := .val d) (s14 := s14) (s15 := s15) (s16 := s16) (s18 := s18) (s19 := s19) (s20 := s20) (s21 := s21) (s22 := s22) (s23 := s23) (lv := lv) (oo := oo) hF hz hs hh h1 hd hu hω
    obtain ⟨ω2, z13, z15, e2, i2⟩ := loop4_ok hF hz hs hh h1 hd hu l (.val d) y15 ω1 i1
    refine ⟨ω2, z13, z15, ?_, i2⟩
    unfold loopD
    simp only [gSet_ap, List.set_cons_succ, List.set_cons_zero, e1]
    exact e2
end
end G_k29
end

section
namespace G_k29
open PySem PySem.Spec L2 Dn
local instance : Tb := noTb
theorem deep_le {ts : List Ps} : ∀ (n m : Nat) (i : Int), m ≤ n → deep ts n i → deep ts m i
  | _, 0, _, _, _ => trivial
  | 0, m + 1, _, h, _ => absurd h (by omega)
  | n + 1, m + 1, i, h, hd => by
    obtain ⟨a, b, c, e, d1, d2⟩ := hd
    exact ⟨a, b, c, e, deep_le n m a (by omega) d1, deep_le n m b (by omega) d2⟩
theorem wp_none {ts : List Ps} {h : Int} {dep : Nat} : wpD ts h dep (osD none) = .none := wpD_no fun ⟨os, e, _⟩ => by simp [osD] at e
theorem wp_due {ts : List Ps} {h : Int} {dep : Nat} (hF : FrmT ts) (hn : ts.Nodup) (du : Option (List Op)) (hu : du = dueO ts h dep) : isNon (wpD ts h dep (osD du)) = du.isNone := by
  cases du with
  | none => rw [wp_none]; rfl
  | some os =>
    have hA := due_acc hF hn hu.symm
    obtain ⟨e1, _⟩ := due_some hu.symm
    rw [osD_some, wpD_os (opn_ok hF e1) (opn_fit e1).1, if_pos hA]
    rfl
theorem isNon_osD (o : Option (List Op)) : isNon (osD o) = o.isNone := by cases o <;> rfl
theorem ext0 {a b : List Ps} (h : Ext a b 0) : b = a := by
  obtain ⟨⟨e, rfl⟩, h2⟩ := h
  have : e = [] := List.length_eq_zero_iff.mp (by rw [List.length_append] at h2; omega)
  rw [this, List.append_nil]
theorem xbh : (Str.ofString "x" = Str.ofString "behind") = False := by decide
theorem new_x {ts : List Ps} : New 2000 ts [.inr "x", .inl 1] :=
  ⟨by simp [okP, show okK (.inr "x") = true from lab_x, show okK (.inl 1) = true from rfl], .inr ⟨_, .inl rfl⟩, fun o e => by cases o <;> simp [Op.key, xs_ne, xj_ne] at e, fun _ b a e => by simp [bhK, xbh] at e⟩
theorem wcD_okd {ts : List Ps} {s : Sp} {dep : Nat} {v : D} (hd : dep ≤ 4) : okD (wcD ts s dep v) = true ∧ dpt (wcD ts s dep v) ≤ 6 := by
  unfold wcD
  split
  · exact ⟨rfl, by simp [dpt]⟩
  · split
    · exact ⟨rfl, by simp [dpt]⟩
    · have := cutD_okd (ts := ts) (s := s) hd
      exact ⟨this.1, by omega⟩
theorem own_of {i : Nat} {f : DA} {ρ : Ro} {ω ω' : Wd} {ds : List D} (e : f ρ ω = some (ds, ω')) : sOwn i f ρ ω = some (.nx (ρ.set i (.own ds)), ω') := by rw [sOwn_ap, e]
/-- the odd one cannot be cut -/
theorem odd_cut {ts1 ts : List Ps} {n : Nat} {h oo : Int} {dep : Nat} {du : Option (List Op)} {sp : Sp} (hx : Ext ts1 ts n) (hF : FrmT ts) (hn : ts.Nodup) (hu : du = dueO ts h dep) (hd0 : 0 < dep) (hd : dep ≤ 4) (hne : oo ≠ h) (ho : oo = h ∨ ∃ a b c e, 1 ≤ e ∧ opAt ts1 h = some (.jn a b c) ∧ opAt ts1 oo = some (.jn a b (c + e))) (hb : du = none → ∀ b a, bhK b a ∉ ts) (hs : sp.h = oo) (v : D) (hv : v = osD (opn ts dep [oo])) : isNon (wcD ts sp dep v) = true := by
  obtain ⟨a, b, c, e, he, e1, e2⟩ := ho.resolve_left hne
  have f1 := at_some hx e1
  have f2 := at_some hx e2
  unfold wcD
  by_cases hl : sp.l < dep
  · rw [if_pos hl]; rfl
  rw [if_neg hl]
  cases hN : isNon (wpD ts sp.h dep v) with
  | true => rw [if_pos rfl]; rfl
  | false =>
    rw [if_neg (by simp)]
    cases hdu : du with
    | none =>
      have hh : halfP ts sp = none := by
        unfold halfP
        rw [hs, f2]
        simp only
        split
        · rfl
        · split
          · rfl
          · have : fnd ts (bhK sp.b a) = none := fnd_mem (hb hdu sp.b a)
            rw [if_pos (by unfold findI; rw [this]; rfl)]
      obtain ⟨m, rfl⟩ : ∃ m, dep = m + 1 := ⟨dep - 1, by omega⟩
      rw [cutP]
      simp [hh, cutD]
    | some os =>
      exfalso
      obtain ⟨os', ev, _, hl', hA⟩ := wpD_some hN
      rw [hdu] at hu
      obtain ⟨g1, g2⟩ := due_some hu.symm
      -- both openings, and that at two
      rw [hv] at ev
      cases eo : opn ts dep [oo] with
      | none => rw [eo] at ev; simp [osD] at ev
      | some q =>
        rw [eo, osD_some, PyData.tuple.injEq] at ev
        have := map_od_inj ev
        subst this
        unfold accP at hA
        rw [Bool.and_eq_true] at hA
        obtain ⟨m, rfl⟩ : ∃ m, dep = m + 1 := ⟨dep - 1, by omega⟩
        have z : 0 < jt (m + 1) := by rw [jt]; omega
        obtain ⟨a1, b1, c1, o1, p1, p2, p3⟩ := fit_isJ (List.all_eq_true.mp g2 0 (List.mem_range.mpr z))
        obtain ⟨a2, b2, c2, o2, q1, q2, q3⟩ := fit_isJ (List.all_eq_true.mp hA.1 0 (List.mem_range.mpr z))
        -- the heads
        have heads : ∀ {i x y : Int} {l : Int} {r : List Op}, opAt ts i = some (.jn x y l) → opn ts (m + 1) [i] = some r → ∃ r', r = .jn x y l :: r' ∧ opn ts m [x, y] = some r' := fun {i x y l r} f hr => by
          rw [opn] at hr
          have hst : stepF ts true i = some (.jn x y l) := by unfold stepF; rw [f]; rfl
          simp only [List.all_cons, List.all_nil, hst, Option.isSome_some, Bool.and_self, if_true, List.filterMap_cons, List.filterMap_nil, List.flatMap_cons, List.flatMap_nil, Op.kids, List.append_nil] at hr
          obtain ⟨r', h1, h2⟩ := Option.map_eq_some_iff.mp hr
          exact ⟨r', h2.symm, h1⟩
        obtain ⟨r1, k1, k2⟩ := heads f1 g1
        obtain ⟨r2, k3, k4⟩ := heads f2 eo
        rw [k2] at k4
        cases k4
        rw [k1] at p1 p2
        rw [k3] at q1 q2
        simp at p1 q1 p2 q2
        rw [p2] at q2
        cases q2
        omega
theorem good (ns : List Int) (hn : ns.length ≤ 63) : ∃ ω, b_law (lawRo 24 1) (box4 ns) = some (.rt (.bool true), ω) := by
  show Good b_law [.un, .val (ob 0), .un, .un, .un, .un, .un, .un, .un, .un, .un, .un, .un, .un, .un, .un, .un, .un, .un, .un, .un, .un, .un, .un] (box4 ns)
  have hB : BoxI [.int 0] (box4 ns) := ⟨ns, 0, 4711 + (ns.length : Int), [], rfl, rfl⟩
  obtain ⟨ω1, e1, i1⟩ := make_ok (ρ := [.un, .val (ob 0), .un, .un, .un, .un, .un, .un, .un, .un, .un, .un, .un, .un, .un, .un, .un, .un, .un, .un, .un, .un, .un, .un]) hB
  refine good_set e1 ?_
  obtain ⟨_, ω2, e2, i2, lv, rfl, hlv⟩ := level_ok (t := NW []) (ρ := [.un, .val (ob 0), .val (ob 2), .un, .un, .un, .un, .un, .un, .un, .un, .un, .un, .un, .un, .un, .un, .un, .un, .un, .un, .un, .un, .un]) rfl ω1 i1
  refine good_set e2 ?_
  obtain ⟨_, ω3, e3, i3, rs, rfl, hl, hr⟩ := row_ok (t := NW []) (ρ := [.un, .val (ob 0), .val (ob 2), .val (.int (lv : Nat)), .un, .un, .un, .un, .un, .un, .un, .un, .un, .un, .un, .un, .un, .un, .un, .un, .un, .un, .un, .un]) hlv rfl rfl rfl ω2 i2
  refine good_set e3 ?_
  obtain ⟨ts0, ω4, h, e4, i4, w0, hz0, r0⟩ := history_ok (ρ := [.un, .val (ob 0), .val (ob 2), .val (.int (lv : Nat)), .val (.list (rs.map .int)), .un, .un, .un, .un, .un, .un, .un, .un, .un, .un, .un, .un, .un, .un, .un, .un, .un, .un, .un]) hlv hl hr rfl rfl rfl i3
  refine good_set e4 ?_
  obtain ⟨_, ω5, e5, i5, dep, rfl, hd⟩ := depth_ok (t := NW ts0) (ρ := [.un, .val (ob 0), .val (ob 2), .val (.int (lv : Nat)), .val (.list (rs.map .int)), .val (.int h), .un, .un, .un, .un, .un, .un, .un, .un, .un, .un, .un, .un, .un, .un, .un, .un, .un, .un]) hlv rfl rfl ω4 i4
  refine good_set e5 ?_
  have e6 : eFun d__law_openings (aCons (eVar 2) (aCons (eVar 5) (aCons (eVar 6) aNil))) [.un, .val (ob 0), .val (ob 2), .val (.int (lv : Nat)), .val (.list (rs.map .int)), .val (.int h), .val (.int (dep : Nat)), .un, .un, .un, .un, .un, .un, .un, .un, .un, .un, .un, .un, .un, .un, .un, .un, .un] ω5 = some (osD (dueO ts0 h dep), ω5) := lawOpenings_ok w0.frm i5 hd
  refine good_set e6 ?_
  generalize hu0 : dueO ts0 h dep = du
  obtain ⟨ts1, ω6, oo, e7, i6, w1, x1, r1, ho⟩ := odd_ok i5 w0 (by omega) r0
  have e7' : eFun d__law_odd (aCons (eVar 1) (aCons (eVar 2) (aCons (eVar 5) aNil))) [.un, .val (ob 0), .val (ob 2), .val (.int (lv : Nat)), .val (.list (rs.map .int)), .val (.int h), .val (.int (dep : Nat)), .val (osD du), .un, .un, .un, .un, .un, .un, .un, .un, .un, .un, .un, .un, .un, .un, .un, .un] ω5 = some (.int oo, ω6) := e7
  refine good_set e7' ?_
  have hz1 : ts1.length ≤ 4001 := by have := x1.2; omega
  have hu : du = dueO ts1 h dep := by rw [(due_ext w0 x1 (by omega) r0 dep).2, hu0]
  have rh := r0.ext x1
  have e8 : eMethD "Notary" "size" (eVar 2) d_Notary__size aNil [.un, .val (ob 0), .val (ob 2), .val (.int (lv : Nat)), .val (.list (rs.map .int)), .val (.int h), .val (.int (dep : Nat)), .val (osD du), .val (.int oo), .un, .un, .un, .un, .un, .un, .un, .un, .un, .un, .un, .un, .un, .un, .un] ω6 = some (.int ((ts1.length : Nat) : Int), ω6) := m_size i6 rfl
  refine good_set e8 ?_
  obtain ⟨ω7, x10, x11, e9, i7⟩ := loop1_ok (s4 := .val (.list (rs.map .int))) (s9 := .val (.int ((ts1.length : Nat) : Int))) (s10 := .un) (s11 := .un) (s12 := .un) (s13 := .un) (s14 := .un) (s15 := .un) (s16 := .un) (s17 := .un) (s18 := .un) (s19 := .un) (s20 := .un) (s21 := .un) (s22 := .un) (s23 := .un) (lv := lv) (h := h) (oo := oo) (du := du) w1.frm hd i6
  refine good_seq e9 ?_
  have ko := osD_okd (ts := ts1) (h := h) hd (o := du) (by rw [hu]; exact due_len' hd)
  have e10 : (tOrD (tOfE (eBin opNe (eC (.int 4)) (eC (.int 4)))) (tNotD (tOfE (eFunP (d__law_same 6) (aCons (eFun d_wide_opening (aCons (eVar 2) (aCons (eVar 5) (aCons (eVar 6) aNil)))) (aCons (eVar 7) aNil)))))) [.un, .val (ob 0), .val (ob 2), .val (.int (lv : Nat)), .val (.list (rs.map .int)), .val (.int h), .val (.int (dep : Nat)), .val (osD du), .val (.int oo), .val (.int ((ts1.length : Nat) : Int)), x10, x11, .un, .un, .un, .un, .un, .un, .un, .un, .un, .un, .un, .un] ω7 = some (false, ω7) := by
    refine (x_or (b := false) (c := false) (by simp) (sameW (ω1 := ω7) (d := osD du) ?_ rfl ko.1 ko.2)).trans rfl
    rw [hu]
    exact wideOpening_ok w1.frm i7 hd
  refine good_if e10 ?_
  -- the parts
  have hwd := wp_due w1.frm w1.nod du hu
  obtain ⟨ω8, e11, i8⟩ : ∃ ω8, eIf (tOfE (eBin opIsN (eVar 7) (eC .none))) (eC .none) (eFun d__law_parts (aCons (eVar 2) (aCons (eVar 5) (aCons (eVar 6) (aCons (eVar 7) aNil))))) [.un, .val (ob 0), .val (ob 2), .val (.int (lv : Nat)), .val (.list (rs.map .int)), .val (.int h), .val (.int (dep : Nat)), .val (osD du), .val (.int oo), .val (.int ((ts1.length : Nat) : Int)), x10, x11, .un, .un, .un, .un, .un, .un, .un, .un, .un, .un, .un, .un] ω7 = some (wpD ts1 h dep (osD du), ω8) ∧ NW ts1 ω8 := by
    obtain ⟨ω8, e, i⟩ := law_any (h := h) hd (osD_Bv du) i7
    cases du with
    | none => exact ⟨ω7, by rw [wp_none]; rfl, i7⟩
    | some os => exact ⟨ω8, e, i⟩
  refine good_set e11 ?_
  obtain ⟨ω9, e12, i9⟩ := wide_any (h := h) hd (osD_Bv du) i8
  have e13 : (tOrD (tNotD (tOfE (eFunP (d__law_same 6) (aCons (eFun d_wide_parts (aCons (eVar 2) (aCons (eVar 5) (aCons (eVar 6) (aCons (eVar 7) aNil))))) (aCons (eVar 12) aNil))))) (tAndD (tOfE (eBin opNotN (eVar 7) (eC .none))) (tOfE (eBin opIsN (eVar 12) (eC .none))))) [.un, .val (ob 0), .val (ob 2), .val (.int (lv : Nat)), .val (.list (rs.map .int)), .val (.int h), .val (.int (dep : Nat)), .val (osD du), .val (.int oo), .val (.int ((ts1.length : Nat) : Int)), x10, x11, .val (wpD ts1 h dep (osD du)), .un, .un, .un, .un, .un, .un, .un, .un, .un, .un, .un] ω8 = some (false, ω9) := by
    have q : tNotD (tOfE (eFunP (d__law_same 6) (aCons (eFun d_wide_parts (aCons (eVar 2) (aCons (eVar 5) (aCons (eVar 6) (aCons (eVar 7) aNil))))) (aCons (eVar 12) aNil)))) [.un, .val (ob 0), .val (ob 2), .val (.int (lv : Nat)), .val (.list (rs.map .int)), .val (.int h), .val (.int (dep : Nat)), .val (osD du), .val (.int oo), .val (.int ((ts1.length : Nat) : Int)), x10, x11, .val (wpD ts1 h dep (osD du)), .un, .un, .un, .un, .un, .un, .un, .un, .un, .un, .un] ω8 = some (false, ω9) := sameW (ω1 := ω9) (d := wpD ts1 h dep (osD du)) e12 rfl (wpD_okd hd).1 (Nat.le_trans (wpD_okd hd).2 (by decide))
    rw [tOrD_ap, q]
    simp only [Bool.false_eq_true, if_false]
    refine (x_and (b := !du.isNone) (c := du.isNone) (x_tE ?_) (x_tE ?_)).trans (by cases du <;> rfl)
    · simp [isNon_osD]
    · simp [hwd]
  refine good_if e13 ?_
  obtain ⟨ω10, x13, x14, x15, e14, i10⟩ := loop2_ok (s4 := .val (.list (rs.map .int))) (s9 := .val (.int ((ts1.length : Nat) : Int))) (s10 := x10) (s11 := x11) (s12 := .val (wpD ts1 h dep (osD du))) (s16 := .un) (s17 := .un) (s18 := .un) (s19 := .un) (s20 := .un) (s21 := .un) (s22 := .un) (s23 := .un) (lv := lv) (h := h) (oo := oo) (du := du) w1.frm w1.nod hd hu ((List.range 5).map natD) .un .un .un ω9 i9
  refine good_seq (x_for1 (ds := (List.range 5).map natD) (x_rng (n := 5) rfl (by decide)) e14) ?_
  have e15 : tOfE (eBin opNe (eMethD "Notary" "size" (eVar 2) d_Notary__size aNil) (eVar 9)) [.un, .val (ob 0), .val (ob 2), .val (.int (lv : Nat)), .val (.list (rs.map .int)), .val (.int h), .val (.int (dep : Nat)), .val (osD du), .val (.int oo), .val (.int ((ts1.length : Nat) : Int)), x10, x11, .val (wpD ts1 h dep (osD du)), x13, x14, x15, .un, .un, .un, .un, .un, .un, .un, .un] ω10 = some (false, ω10) := by
    rw [tOfE_ap, eBin_ap, show eMethD "Notary" "size" (eVar 2) d_Notary__size aNil [.un, .val (ob 0), .val (ob 2), .val (.int (lv : Nat)), .val (.list (rs.map .int)), .val (.int h), .val (.int (dep : Nat)), .val (osD du), .val (.int oo), .val (.int ((ts1.length : Nat) : Int)), x10, x11, .val (wpD ts1 h dep (osD du)), x13, x14, x15, .un, .un, .un, .un, .un, .un, .un, .un] ω10 = some (.int ((ts1.length : Nat) : Int), ω10) from m_size i10 rfl]
    simp
  refine good_if e15 ?_
  -- the span
  obtain ⟨d, ω11, e16, i11, hd0, hd1⟩ := drawI i10 (ρ := [.un, .val (ob 0), .val (ob 2), .val (.int (lv : Nat)), .val (.list (rs.map .int)), .val (.int h), .val (.int (dep : Nat)), .val (osD du), .val (.int oo), .val (.int ((ts1.length : Nat) : Int)), x10, x11, .val (wpD ts1 h dep (osD du)), x13, x14, x15, .un, .un, .un, .un, .un, .un, .un, .un]) 1 3 rfl (by decide) (by decide)
  obtain ⟨ω12, e17, i12⟩ := m_seal i11 i11 (f := eVar 2) (a := aCons (eTup (aCons (eC (.str "x")) (aCons (eC (.int 1)) aNil))) aNil) (ρ := [.un, .val (ob 0), .val (ob 2), .val (.int (lv : Nat)), .val (.list (rs.map .int)), .val (.int h), .val (.int (dep : Nat)), .val (osD du), .val (.int oo), .val (.int ((ts1.length : Nat) : Int)), x10, x11, .val (wpD ts1 h dep (osD du)), x13, x14, x15, .un, .un, .un, .un, .un, .un, .un, .un]) (p := [.inr "x", .inl 1]) rfl rfl (new_x (ts := ts1)).1 (by omega)
  obtain ⟨w2, x2, r2⟩ := put_wf w1 (new_x (ts := ts1)) (by omega)
  generalize hts2 : putP ts1 [.inr "x", .inl 1] = ts2 at e17 i12 w2 x2 r2
  have hz2 : ts2.length ≤ 4002 := by have := x2.2; omega
  have hzr := findI_rg (ts := ts2) [.inr "x", .inl 1]
  generalize hzz : findI ts2 [.inr "x", .inl 1] = z at e17 r2 hzr
  have hbf : ∃ bf, opMul (.int d) (.int z) = some (.int bf) ∧ 0 ≤ bf ∧ bf ≤ 100000 := by
    refine ⟨d * z, by simp [opMul, mulOk_l (i := d) (j := z) (by omega) (by omega)], Int.mul_nonneg hd0 hzr.1, ?_⟩
    have : d = 0 ∨ d = 1 ∨ d = 2 := by omega
    rcases this with rfl | rfl | rfl <;> omega
  obtain ⟨bf, hbf, hb0, hb1⟩ := hbf
  have e18 : eBin opMul (eFun d__law_draw (aCons (eVar 1) (aCons (eC (.int 3)) aNil))) (eMethD "Notary" "seal" (eVar 2) d_Notary__seal (aCons (eTup (aCons (eC (.str "x")) (aCons (eC (.int 1)) aNil))) aNil)) [.un, .val (ob 0), .val (ob 2), .val (.int (lv : Nat)), .val (.list (rs.map .int)), .val (.int h), .val (.int (dep : Nat)), .val (osD du), .val (.int oo), .val (.int ((ts1.length : Nat) : Int)), x10, x11, .val (wpD ts1 h dep (osD du)), x13, x14, x15, .un, .un, .un, .un, .un, .un, .un, .un] ω10 = some (.int bf, ω12) := by
    rw [eBin_ap, e16]
    simp only [e17, hbf]
  refine good_set e18 ?_
  obtain ⟨f, ω13, e19, i13, hf0, hf1⟩ := drawI i12 (ρ := [.un, .val (ob 0), .val (ob 2), .val (.int (lv : Nat)), .val (.list (rs.map .int)), .val (.int h), .val (.int (dep : Nat)), .val (osD du), .val (.int oo), .val (.int ((ts1.length : Nat) : Int)), x10, x11, .val (wpD ts1 h dep (osD du)), x13, x14, x15, .val (.int bf), .un, .un, .un, .un, .un, .un, .un]) 1 1000 rfl (by decide) (by decide)
  obtain ⟨g, ω14, e20, i14, hg0, hg1⟩ := drawI i13 (ρ := [.un, .val (ob 0), .val (ob 2), .val (.int (lv : Nat)), .val (.list (rs.map .int)), .val (.int h), .val (.int (dep : Nat)), .val (osD du), .val (.int oo), .val (.int ((ts1.length : Nat) : Int)), x10, x11, .val (wpD ts1 h dep (osD du)), x13, x14, x15, .val (.int bf), .un, .un, .un, .un, .un, .un, .un]) 1 50 rfl (by decide) (by decide)
  have esp : ∃ sp : Sp, sp = ⟨lv, f, bf, 1 + g, h⟩ := ⟨_, rfl⟩
  obtain ⟨sp, hsp⟩ := esp
  have e21 : eTup (aCons (eVar 3) (aCons (eFun d__law_draw (aCons (eVar 1) (aCons (eC (.int 1000)) aNil))) (aCons (eVar 16) (aCons (eBin opAdd (eC (.int 1)) (eFun d__law_draw (aCons (eVar 1) (aCons (eC (.int 50)) aNil)))) (aCons (eVar 5) aNil))))) [.un, .val (ob 0), .val (ob 2), .val (.int (lv : Nat)), .val (.list (rs.map .int)), .val (.int h), .val (.int (dep : Nat)), .val (osD du), .val (.int oo), .val (.int ((ts1.length : Nat) : Int)), x10, x11, .val (wpD ts1 h dep (osD du)), x13, x14, x15, .val (.int bf), .un, .un, .un, .un, .un, .un, .un] ω12 = some (spD sp, ω14) := by
    have q : eBin opAdd (eC (.int 1)) (eFun d__law_draw (aCons (eVar 1) (aCons (eC (.int 50)) aNil))) [.un, .val (ob 0), .val (ob 2), .val (.int (lv : Nat)), .val (.list (rs.map .int)), .val (.int h), .val (.int (dep : Nat)), .val (osD du), .val (.int oo), .val (.int ((ts1.length : Nat) : Int)), x10, x11, .val (wpD ts1 h dep (osD du)), x13, x14, x15, .val (.int bf), .un, .un, .un, .un, .un, .un, .un] ω13 = some (.int (1 + g), ω14) := by
      rw [eBin_ap]
      simp only [eC_ap, e20, opAdd_int]
    rw [eTup_ap]
    simp only [aCons_ap, eVar_ap, List.getElem?_cons_succ, List.getElem?_cons_zero, e19, q, aNil_ap]
    rw [hsp]
    rfl
  refine good_set e21 ?_
  -- the pasts
  have hps : ∃ ps : List Pa, (aIfN (tOfE (eBin opNotN (eVar 7) (eC .none))) (aCons (eTup (aCons (eVar 16) (aCons (eVar 5) (aCons (eCall opMin2 (aCons (eVar 3) (aCons (eVar 6) aNil))) aNil)))) aNil) aNil) [.un, .val (ob 0), .val (ob 2), .val (.int (lv : Nat)), .val (.list (rs.map .int)), .val (.int h), .val (.int (dep : Nat)), .val (osD du), .val (.int oo), .val (.int ((ts1.length : Nat) : Int)), x10, x11, .val (wpD ts1 h dep (osD du)), x13, x14, x15, .val (.int bf), .val (spD sp), .un, .un, .un, .un, .un, .un] ω14 = some (ps.map paD, ω14) ∧ ms ps ≤ 40 ∧ (∀ p ∈ ps, PaOk ts2 p) ∧ (du = none → ms ps = 0) := by
    cases hdu : du with
    | none => exact ⟨[], rfl, by decide, (fun p hp => nomatch hp), (fun _ => rfl)⟩
    | some os =>
      refine ⟨[⟨bf, h, min lv dep⟩], ?_, ?_, fun p hp => ?_, (fun e => nomatch e)⟩
      · have hmin : min (lv : Int) (dep : Int) = ((min lv dep : Nat) : Int) := by omega
        simp only [aIfN_ap, tOfE_ap, eBin_ap, eVar_ap, List.getElem?_cons_succ, List.getElem?_cons_zero, eC_ap, opNotN_none, osD_some, isNon_tup, Bool.not_false, if_true, aCons_ap, eTup_ap, eCall_ap, aNil_ap, opMin2_int, hmin]
        rfl
      · have h1 : jt (min lv dep) ≤ 15 := jt4 (by omega)
        show wt (min lv dep) + 0 ≤ 40
        unfold wt; omega
      · rw [List.mem_singleton.mp hp]
        rw [hdu] at hu
        have hd1 := opn_deep (due_some hu.symm).1 h (by simp)
        exact ⟨hb0, by show bf ≤ _; omega, deep_ext x2 _ _ (deep_le dep (min lv dep) h (by omega) hd1)⟩
  obtain ⟨ps, e22, hms, hpo, hpn⟩ := hps
  refine good_seq (own_of e22) ?_
  obtain ⟨ts3, ω15, y10, y12, y19, y20, e23, i15, w3, x3⟩ := pasts_loop (s0 := .un) (s3 := .val (.int (lv : Nat))) (s4 := .val (.list (rs.map .int))) (s5 := .val (.int h)) (s6 := .val (.int (dep : Nat))) (s7 := .val (osD du)) (s8 := .val (.int oo)) (s9 := .val (.int ((ts1.length : Nat) : Int))) (s11 := x11) (s13 := x13) (s14 := x14) (s15 := x15) (s16 := .val (.int bf)) (s17 := .val (spD sp)) (s21 := .un) (s22 := .un) (s23 := .un) FUEL ps ts2 ω14 x10 (.val (wpD ts1 h dep (osD du))) .un .un (by rw [FUEL_num]; omega) (by omega) hpo i14 (w2.mono (by decide)) (by omega)
  refine good_seq (f := sWhile _ _) e23 ?_
  have hx13 := x2.trans x3
  have hz3 : ts3.length ≤ 4100 := by have := x3.2; omega
  have hu3 : du = dueO ts3 h dep := by rw [(due_ext w1 hx13 (by omega) rh dep).2]; exact hu
  have e24 : eMethD "Notary" "size" (eVar 2) d_Notary__size aNil [.un, .val (ob 0), .val (ob 2), .val (.int (lv : Nat)), .val (.list (rs.map .int)), .val (.int h), .val (.int (dep : Nat)), .val (osD du), .val (.int oo), .val (.int ((ts1.length : Nat) : Int)), y10, x11, y12, x13, x14, x15, .val (.int bf), .val (spD sp), .own [], y19, y20, .un, .un, .un] ω15 = some (.int ((ts3.length : Nat) : Int), ω15) := m_size i15 rfl
  refine good_set e24 ?_
  have hspo : SpOk sp := by rw [hsp]; exact ⟨by show (0 : Int) ≤ lv; omega, by show (lv : Int) ≤ 10; omega, hb0, by show bf ≤ _; omega⟩
  have hsh : sp.h = h := by rw [hsp]
  have hsl : sp.l = lv := by rw [hsp]
  have hwd3 := wp_due w3.frm w3.nod du hu3
  -- the cut
  obtain ⟨ω16, e25, i16⟩ : ∃ ω16, eIf (tAndD (tOfE (eBin opNotN (eVar 7) (eC .none))) (tOfE (eBin opLe (eVar 6) (eVar 3)))) (eFun d__law_cut (aCons (eVar 2) (aCons (eVar 17) (aCons (eVar 6) aNil)))) (eC .none) [.un, .val (ob 0), .val (ob 2), .val (.int (lv : Nat)), .val (.list (rs.map .int)), .val (.int h), .val (.int (dep : Nat)), .val (osD du), .val (.int oo), .val (.int ((ts3.length : Nat) : Int)), y10, x11, y12, x13, x14, x15, .val (.int bf), .val (spD sp), .own [], y19, y20, .un, .un, .un] ω15 = some (wcD ts3 sp dep (osD du), ω16) ∧ NW ts3 ω16 := by
    have ec : (tAndD (tOfE (eBin opNotN (eVar 7) (eC .none))) (tOfE (eBin opLe (eVar 6) (eVar 3)))) [.un, .val (ob 0), .val (ob 2), .val (.int (lv : Nat)), .val (.list (rs.map .int)), .val (.int h), .val (.int (dep : Nat)), .val (osD du), .val (.int oo), .val (.int ((ts3.length : Nat) : Int)), y10, x11, y12, x13, x14, x15, .val (.int bf), .val (spD sp), .own [], y19, y20, .un, .un, .un] ω15 = some (!du.isNone && decide (dep ≤ lv), ω15) := by
      refine x_and (x_tE ?_) (x_tE ?_)
      · simp [isNon_osD]
      · simp
    cases hdu : du.isNone with
    | true =>
      refine ⟨ω15, ?_, i15⟩
      rw [eIf_ap, ec, hdu]
      unfold wcD
      rw [hsh, hwd3, hdu]
      simp
    | false =>
      by_cases hle : dep ≤ lv
      · obtain ⟨ω16, e, i⟩ := lawCut_ok w3.frm (by omega) hspo hd i15
        refine ⟨ω16, ?_, i⟩
        rw [eIf_ap, ec, hdu]
        unfold wcD
        rw [hsh, hwd3, hdu, hsl, if_neg (by omega), if_neg (by simp), decide_eq_true hle]
        exact e
      · refine ⟨ω15, ?_, i15⟩
        rw [eIf_ap, ec, hdu]
        unfold wcD
        rw [hsl, if_pos (by omega), decide_eq_false hle]
        rfl
  refine good_set e25 ?_
  obtain ⟨ω17, e26, i17⟩ := wideCut_any (s := sp) w3.frm (by omega) hspo (by rw [hsh]; exact rh.1) hd (osD_Bv du) i16
  have e27 : tNotD (tOfE (eFunP (d__law_same 6) (aCons (eFun d_wide_cut (aCons (eVar 2) (aCons (eVar 17) (aCons (eVar 6) (aCons (eVar 7) aNil))))) (aCons (eVar 21) aNil)))) [.un, .val (ob 0), .val (ob 2), .val (.int (lv : Nat)), .val (.list (rs.map .int)), .val (.int h), .val (.int (dep : Nat)), .val (osD du), .val (.int oo), .val (.int ((ts3.length : Nat) : Int)), y10, x11, y12, x13, x14, x15, .val (.int bf), .val (spD sp), .own [], y19, y20, .val (wcD ts3 sp dep (osD du)), .un, .un] ω16 = some (false, ω17) := sameW (ω1 := ω17) (d := wcD ts3 sp dep (osD du)) e26 rfl (wcD_okd hd).1 (wcD_okd hd).2
  refine good_if e27 ?_
  have hlen : ∀ os, du = some os → os.length ≤ 100 := by rw [hu]; exact due_len' hd
  obtain ⟨k, hk, e28⟩ : ∃ k : Nat, k ≤ 4 ∧ iRange (aCons (eIf (tOfE (eBin opNotN (eVar 21) (eC .none))) (eC (.int 4)) (eC (.int 0))) aNil) [.un, .val (ob 0), .val (ob 2), .val (.int (lv : Nat)), .val (.list (rs.map .int)), .val (.int h), .val (.int (dep : Nat)), .val (osD du), .val (.int oo), .val (.int ((ts3.length : Nat) : Int)), y10, x11, y12, x13, x14, x15, .val (.int bf), .val (spD sp), .own [], y19, y20, .val (wcD ts3 sp dep (osD du)), .un, .un] ω17 = some ((List.range k).map natD, ω17) := by
    cases hw : isNon (wcD ts3 sp dep (osD du)) with
    | true => exact ⟨0, by decide, x_rng (n := 0) (by simp [hw]) (by decide)⟩
    | false => exact ⟨4, by decide, x_rng (n := 4) (by simp [hw]) (by decide)⟩
  obtain ⟨ω18, z13, z15, e29, i18⟩ := loop4_ok (s4 := .val (.list (rs.map .int))) (s9 := .val (.int ((ts3.length : Nat) : Int))) (s10 := y10) (s11 := x11) (s12 := y12) (s14 := x14) (s16 := .val (.int bf)) (s18 := .own []) (s19 := y19) (s20 := y20) (s21 := .val (wcD ts3 sp dep (osD du))) (s22 := .un) (s23 := .un) (lv := lv) (dep := dep) (h := h) (oo := oo) (du := du) (sp := sp) w3.frm (by omega) hspo hsh rh.1 hd hlen ((List.range k).map natD) x13 x15 ω17 i17
  refine good_seq (x_for1 e28 e29) ?_
  -- the odd one
  have hbh : du = none → ∀ b a, bhK b a ∉ ts3 := fun e => by
    have := hpn e
    rw [this] at x3
    rw [ext0 x3]
    exact w2.bh (by decide)
  obtain ⟨ω19, e30, i19⟩ : ∃ ω19, (tAndD (tOfE (eBin opGt (eVar 6) (eC (.int 0)))) (tAndD (tOfE (eBin opNe (eVar 8) (eVar 5))) (tOfE (eBin opNotN (eFun d_wide_cut (aCons (eVar 2) (aCons (eBin opAdd (eSl opSl (eVar 17) oNone (oSome (eC (.int 4)))) (eTup (aCons (eVar 8) aNil))) (aCons (eVar 6) (aCons (eFun d__law_opened (aCons (eVar 2) (aCons (eVar 8) (aCons (eVar 6) aNil)))) aNil))))) (eC .none))))) [.un, .val (ob 0), .val (ob 2), .val (.int (lv : Nat)), .val (.list (rs.map .int)), .val (.int h), .val (.int (dep : Nat)), .val (osD du), .val (.int oo), .val (.int ((ts3.length : Nat) : Int)), y10, x11, y12, z13, x14, z15, .val (.int bf), .val (spD sp), .own [], y19, y20, .val (wcD ts3 sp dep (osD du)), .un, .un] ω18 = some (false, ω19) ∧ NW ts3 ω19 := by
    by_cases hdp : 0 < dep
    · have c1 : tOfE (eBin opGt (eVar 6) (eC (.int 0))) [.un, .val (ob 0), .val (ob 2), .val (.int (lv : Nat)), .val (.list (rs.map .int)), .val (.int h), .val (.int (dep : Nat)), .val (osD du), .val (.int oo), .val (.int ((ts3.length : Nat) : Int)), y10, x11, y12, z13, x14, z15, .val (.int bf), .val (spD sp), .own [], y19, y20, .val (wcD ts3 sp dep (osD du)), .un, .un] ω18 = some (true, ω18) := x_tE (by simp; omega)
      by_cases hne : oo = h
      · refine ⟨ω18, ?_, i18⟩
        rw [tAndD_ap, c1]
        simp only [if_true]
        rw [tAndD_ap, show tOfE (eBin opNe (eVar 8) (eVar 5)) [.un, .val (ob 0), .val (ob 2), .val (.int (lv : Nat)), .val (.list (rs.map .int)), .val (.int h), .val (.int (dep : Nat)), .val (osD du), .val (.int oo), .val (.int ((ts3.length : Nat) : Int)), y10, x11, y12, z13, x14, z15, .val (.int bf), .val (spD sp), .own [], y19, y20, .val (wcD ts3 sp dep (osD du)), .un, .un] ω18 = some (false, ω18) from x_tE (by simp [hne])]
        simp
      · have c2 : tOfE (eBin opNe (eVar 8) (eVar 5)) [.un, .val (ob 0), .val (ob 2), .val (.int (lv : Nat)), .val (.list (rs.map .int)), .val (.int h), .val (.int (dep : Nat)), .val (osD du), .val (.int oo), .val (.int ((ts3.length : Nat) : Int)), y10, x11, y12, z13, x14, z15, .val (.int bf), .val (spD sp), .own [], y19, y20, .val (wcD ts3 sp dep (osD du)), .un, .un] ω18 = some (true, ω18) := x_tE (by simp [hne])
        have eo : eFun d__law_opened (aCons (eVar 2) (aCons (eVar 8) (aCons (eVar 6) aNil))) [.un, .val (ob 0), .val (ob 2), .val (.int (lv : Nat)), .val (.list (rs.map .int)), .val (.int h), .val (.int (dep : Nat)), .val (osD du), .val (.int oo), .val (.int ((ts3.length : Nat) : Int)), y10, x11, y12, z13, x14, z15, .val (.int bf), .val (spD sp), .own [], y19, y20, .val (wcD ts3 sp dep (osD du)), .un, .un] ω18 = some (osD (opn ts3 dep [oo]), ω18) := lawOpened_ok w3.frm i18 hd
        obtain ⟨so, hso⟩ : ∃ so : Sp, so = ⟨sp.l, sp.f, sp.b, sp.s, oo⟩ := ⟨_, rfl⟩
        have esl : opSl (spD sp) none (some 4) = some (.tuple [.int sp.l, .int sp.f, .int sp.b, .int sp.s]) := by
          show some (PyData.tuple (slD _ none (some ((4 : Nat) : Int)))) = _
          rw [slD_to]; rfl
        have hadd : ∀ x y : List D, x.length = 4 → y.length = 1 → opAdd (.tuple x) (.tuple y) = some (.tuple (x ++ y)) := fun x y h1 h2 => opAdd_tup (by omega)
        have e17s : eBin opAdd (eSl opSl (eVar 17) oNone (oSome (eC (.int 4)))) (eTup (aCons (eVar 8) aNil)) [.un, .val (ob 0), .val (ob 2), .val (.int (lv : Nat)), .val (.list (rs.map .int)), .val (.int h), .val (.int (dep : Nat)), .val (osD du), .val (.int oo), .val (.int ((ts3.length : Nat) : Int)), y10, x11, y12, z13, x14, z15, .val (.int bf), .val (spD sp), .own [], y19, y20, .val (wcD ts3 sp dep (osD du)), .un, .un] ω18 = some (spD so, ω18) := by
          rw [eBin_ap, eSl_ap]
          simp only [eVar_ap, List.getElem?_cons_succ, List.getElem?_cons_zero, oNone_ap, oSome_ap, eC_ap, esl, eTup_ap, aCons_ap, aNil_ap]
          rw [hadd _ _ rfl rfl, hso]
          rfl
        have hsoo : SpOk so := by rw [hso]; exact hspo
        obtain ⟨ω19, e31, i19⟩ := wideCut_any (s := so) w3.frm (by omega) hsoo (by rw [hso]; exact r1.1) hd (osD_Bv (opn ts3 dep [oo])) i18
        have hN := odd_cut (sp := so) hx13 w3.frm w3.nod hu3 hdp hd hne (ho.imp id fun ⟨a, b, c, e, h1, h2, h3⟩ => ⟨a, b, c, e, h1, at_some x1 h2, h3⟩) hbh (by rw [hso]) _ rfl
        refine ⟨ω19, ?_, i19⟩
        have ea : (aCons (eVar 2) (aCons (eBin opAdd (eSl opSl (eVar 17) oNone (oSome (eC (.int 4)))) (eTup (aCons (eVar 8) aNil))) (aCons (eVar 6) (aCons (eFun d__law_opened (aCons (eVar 2) (aCons (eVar 8) (aCons (eVar 6) aNil)))) aNil)))) [.un, .val (ob 0), .val (ob 2), .val (.int (lv : Nat)), .val (.list (rs.map .int)), .val (.int h), .val (.int (dep : Nat)), .val (osD du), .val (.int oo), .val (.int ((ts3.length : Nat) : Int)), y10, x11, y12, z13, x14, z15, .val (.int bf), .val (spD sp), .own [], y19, y20, .val (wcD ts3 sp dep (osD du)), .un, .un] ω18 = some ([ob 2, spD so, .int dep, osD (opn ts3 dep [oo])], ω18) := by
          rw [aCons_ap]
          simp only [aCons_ap, eVar_ap, List.getElem?_cons_succ, List.getElem?_cons_zero, aNil_ap]
          rw [e17s]
          simp only []
          rw [eo]
        rw [tAndD_ap, c1]
        simp only [if_true]
        rw [tAndD_ap, c2]
        simp only [if_true]
        rw [tOfE_ap, eBin_ap, eFun_ap, ea]
        simp only [e31]
        simp [hN]
    · refine ⟨ω18, ?_, i18⟩
      rw [tAndD_ap, show tOfE (eBin opGt (eVar 6) (eC (.int 0))) [.un, .val (ob 0), .val (ob 2), .val (.int (lv : Nat)), .val (.list (rs.map .int)), .val (.int h), .val (.int (dep : Nat)), .val (osD du), .val (.int oo), .val (.int ((ts3.length : Nat) : Int)), y10, x11, y12, z13, x14, z15, .val (.int bf), .val (spD sp), .own [], y19, y20, .val (wcD ts3 sp dep (osD du)), .un, .un] ω18 = some (false, ω18) from x_tE (by simp; omega)]
      simp
  refine good_if e30 ?_
  -- a level that is too low
  obtain ⟨lo, hlo⟩ : ∃ lo : Sp, lo = ⟨max 0 ((dep : Int) - 1), sp.f, sp.b, sp.s, sp.h⟩ := ⟨_, rfl⟩
  have e32 : eBin opAdd (eTup (aCons (eCall opMax2 (aCons (eC (.int 0)) (aCons (eBin opSub (eVar 6) (eC (.int 1))) aNil))) aNil)) (eSl opSl (eVar 17) (oSome (eC (.int 1))) oNone) [.un, .val (ob 0), .val (ob 2), .val (.int (lv : Nat)), .val (.list (rs.map .int)), .val (.int h), .val (.int (dep : Nat)), .val (osD du), .val (.int oo), .val (.int ((ts3.length : Nat) : Int)), y10, x11, y12, z13, x14, z15, .val (.int bf), .val (spD sp), .own [], y19, y20, .val (wcD ts3 sp dep (osD du)), .un, .un] ω19 = some (spD lo, ω19) := by
    have esl : opSl (spD sp) (some 1) none = some (.tuple [.int sp.f, .int sp.b, .int sp.s, .int sp.h]) := by
      show some (PyData.tuple (slD _ (some ((1 : Nat) : Int)) none)) = _
      rw [slD_from]; rfl
    have hadd : ∀ x y : List D, x.length = 1 → y.length = 4 → opAdd (.tuple x) (.tuple y) = some (.tuple (x ++ y)) := fun x y h1 h2 => opAdd_tup (by omega)
    rw [eBin_ap, eTup_ap, aCons_ap, eCall_ap, aCons_ap, eC_ap]
    simp only [aCons_ap, eBin_ap, eVar_ap, List.getElem?_cons_succ, List.getElem?_cons_zero, eC_ap, opSub_int, aNil_ap, opMax2_int]
    rw [eSl_ap]
    simp only [eVar_ap, List.getElem?_cons_succ, List.getElem?_cons_zero, oNone_ap, oSome_ap, eC_ap, esl]
    rw [hadd _ _ rfl rfl, hlo]
    rfl
  refine good_set e32 ?_
  have hloo : SpOk lo := by
    rw [hlo]
    exact ⟨by show (0 : Int) ≤ max 0 ((dep : Int) - 1); omega, by show max 0 ((dep : Int) - 1) ≤ 10; omega, hspo.2.2.1, hspo.2.2.2⟩
  obtain ⟨ω20, e33, i20⟩ := wideCut_any (s := lo) w3.frm (by omega) hloo (by rw [hlo]; show 1 ≤ sp.h; rw [hsh]; exact rh.1) hd (osD_Bv du) i19
  have c3 : eBin opEq (eVar 6) (eC (.int 0)) [.un, .val (ob 0), .val (ob 2), .val (.int (lv : Nat)), .val (.list (rs.map .int)), .val (.int h), .val (.int (dep : Nat)), .val (osD du), .val (.int oo), .val (.int ((ts3.length : Nat) : Int)), y10, x11, y12, z13, x14, z15, .val (.int bf), .val (spD sp), .own [], y19, y20, .val (wcD ts3 sp dep (osD du)), .val (spD lo), .un] ω19 = some (.bool (decide ((dep : Int) = 0)), ω19) := by simp
  obtain ⟨ω21, e34, i21⟩ : ∃ ω21, eOr (eBin opEq (eVar 6) (eC (.int 0))) (eBin opIsN (eFun d_wide_cut (aCons (eVar 2) (aCons (eVar 22) (aCons (eVar 6) (aCons (eVar 7) aNil))))) (eC .none)) [.un, .val (ob 0), .val (ob 2), .val (.int (lv : Nat)), .val (.list (rs.map .int)), .val (.int h), .val (.int (dep : Nat)), .val (osD du), .val (.int oo), .val (.int ((ts3.length : Nat) : Int)), y10, x11, y12, z13, x14, z15, .val (.int bf), .val (spD sp), .own [], y19, y20, .val (wcD ts3 sp dep (osD du)), .val (spD lo), .un] ω19 = some (.bool true, ω21) ∧ NW ts3 ω21 := by
    by_cases hdz : dep = 0
    · refine ⟨ω19, ?_, i19⟩
      rw [eOr_ap, c3, decide_eq_true (by omega)]
      simp
    · refine ⟨ω20, ?_, i20⟩
      have hN : isNon (wcD ts3 lo dep (osD du)) = true := by
        unfold wcD
        rw [if_pos (by rw [hlo]; show max 0 ((dep : Int) - 1) < dep; omega)]
        rfl
      have q : eFun d_wide_cut (aCons (eVar 2) (aCons (eVar 22) (aCons (eVar 6) (aCons (eVar 7) aNil)))) [.un, .val (ob 0), .val (ob 2), .val (.int (lv : Nat)), .val (.list (rs.map .int)), .val (.int h), .val (.int (dep : Nat)), .val (osD du), .val (.int oo), .val (.int ((ts3.length : Nat) : Int)), y10, x11, y12, z13, x14, z15, .val (.int bf), .val (spD sp), .own [], y19, y20, .val (wcD ts3 sp dep (osD du)), .val (spD lo), .un] ω19 = some (wcD ts3 lo dep (osD du), ω20) := e33
      rw [eOr_ap, c3, decide_eq_false (by omega)]
      simp only [Bool.false_eq_true, if_false]
      rw [eBin_ap, q]
      simp [hN]
  have e35 : eBin opEq (eMethD "Notary" "size" (eVar 2) d_Notary__size aNil) (eVar 9) [.un, .val (ob 0), .val (ob 2), .val (.int (lv : Nat)), .val (.list (rs.map .int)), .val (.int h), .val (.int (dep : Nat)), .val (osD du), .val (.int oo), .val (.int ((ts3.length : Nat) : Int)), y10, x11, y12, z13, x14, z15, .val (.int bf), .val (spD sp), .own [], y19, y20, .val (wcD ts3 sp dep (osD du)), .val (spD lo), .un] ω21 = some (.bool true, ω21) := by
    rw [eBin_ap, show eMethD "Notary" "size" (eVar 2) d_Notary__size aNil [.un, .val (ob 0), .val (ob 2), .val (.int (lv : Nat)), .val (.list (rs.map .int)), .val (.int h), .val (.int (dep : Nat)), .val (osD du), .val (.int oo), .val (.int ((ts3.length : Nat) : Int)), y10, x11, y12, z13, x14, z15, .val (.int bf), .val (spD sp), .own [], y19, y20, .val (wcD ts3 sp dep (osD du)), .val (spD lo), .un] ω21 = some (.int ((ts3.length : Nat) : Int), ω21) from m_size i21 rfl]
    simp
  refine ⟨ω21, ?_⟩
  show sRet _ [.un, .val (ob 0), .val (ob 2), .val (.int (lv : Nat)), .val (.list (rs.map .int)), .val (.int h), .val (.int (dep : Nat)), .val (osD du), .val (.int oo), .val (.int ((ts3.length : Nat) : Int)), y10, x11, y12, z13, x14, z15, .val (.int bf), .val (spD sp), .own [], y19, y20, .val (wcD ts3 sp dep (osD du)), .val (spD lo), .un] ω19 = _
  rw [sRet_ap, eAnd_ap, e34]
  simp only [if_true]
  rw [e35]
end G_k29
end

section
open PySem PySem.W PyProof.Rows
set_option maxRecDepth 100000 in
set_option maxHeartbeats 0 in
theorem PySem.Challenge.cw_onewatcher_k29_wide_openings_and_cuts_holds : PySem.Challenge.rw_onewatcher_k29_wide_openings_and_cuts.Holds := by
  w_on; o_law; k_head; (case hw => w_witness2)
  k_fill
  refine G_k29.walk (l := PySem.Challenge.rw_onewatcher_k29_wide_openings_and_cuts) rfl rfl (fun w h Y => PySem.W.kIn_of Y) ?F
  case F =>
    intro w mg fa h KX G hmg
    refine' G_k29.all_tab G_k29.good KX G hmg ?a0 ?l0 ?c0 ?k0 ?a1 ?i1 ?l1 ?c1 ?k1 ?a2 ?i2 ?l2 ?c2 ?k2 ?a3 ?l3 ?c3 ?k3 ?a4 ?l4 ?c4 ?k4 ?a5 ?l5 ?c5 ?k5 ?a6 ?l6 ?c6 ?k6 ?a7 ?l7 ?c7 ?k7 ?a8 ?i8 ?l8 ?c8 ?k8 ?a9 ?l9 ?c9 ?k9 ?a10 ?l10 ?c10 ?k10 ?a11 ?l11 ?c11 ?k11 ?a12 ?i12 ?l12 ?c12 ?k12 ?a13 ?l13 ?c13 ?k13 ?a14 ?l14 ?c14 ?k14 ?a15 ?l15 ?c15 ?k15 ?a16 ?l16 ?c16 ?k16 ?a17 ?l17 ?c17 ?k17 ?a18 ?i18 ?l18 ?c18 ?k18 ?a19 ?l19 ?c19 ?k19 ?a20 ?l20 ?c20 ?k20 ?a21 ?l21 ?c21 ?k21 ?a22 ?l22 ?c22 ?k22 ?a23 ?l23 ?c23 ?k23 ?a24 ?l24 ?c24 ?k24 ?a25 ?l25 ?c25 ?k25 ?a26 ?l26 ?c26 ?k26 ?a27 ?l27 ?c27 ?k27 ?a28 ?l28 ?c28 ?k28 ?a29 ?l29 ?c29 ?k29 ?a30 ?l30 ?c30 ?k30 ?a31 ?l31 ?c31 ?k31 ?a32 ?l32 ?c32 ?k32 ?a33 ?l33 ?c33 ?k33 ?a34 ?l34 ?c34 ?k34 ?a35 ?l35 ?c35 ?k35 ?aC0 ?pg0 ?hd0 ?po0 ?sa0 ?mk0 ?kc0 ?n_Notary_asked ?n_Notary_numbers ?n_Notary_tuples ?z_all ?z_bool ?z_dict ?z_int ?z_isinstance ?z_len ?z_list ?z_max ?z_min ?z_range ?z_str ?z_tuple ?y_MAX_DEPTH ?y_MAX_LEVEL ?y_MAX_PART ?y_MAX_TEXT ?y_MOST_PARTS ?t6 ?n6 ?r6 ?t7 ?n7 ?r7 ?t14 ?n14 ?r14 ?t22 ?n22 ?r22 ?t30 ?n30 ?r30 ?t31 ?n31 ?r31
    (case aC0 => k_is)
    (case a0 => k_is)
    (case l0 => k_is)
    (case c0 => k_is)
    (case k0 => k_is)
    (case a1 => k_is)
    (case i1 => k_is)
    (case l1 => k_is)
    (case c1 => k_is)
    (case k1 => k_is)
    (case a2 => k_is)
    (case i2 => k_is)
    (case l2 => k_is)
    (case c2 => k_is)
    (case k2 => k_is)
    (case a3 => k_is)
    (case l3 => k_is)
    (case c3 => k_is)
    (case k3 => k_is)
    (case a4 => k_is)
    (case l4 => k_is)
    (case c4 => k_is)
    (case k4 => k_is)
    (case a5 => k_is)
    (case l5 => k_is)
    (case c5 => k_is)
    (case k5 => k_is)
    (case a6 => k_is)
    (case l6 => k_is)
    (case c6 => k_is)
    (case k6 => k_is)
    (case a7 => k_is)
    (case l7 => k_is)
    (case c7 => k_is)
    (case k7 => k_is)
    (case a8 => k_is)
    (case i8 => k_is)
    (case l8 => k_is)
    (case c8 => k_is)
    (case k8 => k_is)
    (case a9 => k_is)
    (case l9 => k_is)
    (case c9 => k_is)
    (case k9 => k_is)
    (case a10 => k_is)
    (case l10 => k_is)
    (case c10 => k_is)
    (case k10 => k_is)
    (case a11 => k_is)
    (case l11 => k_is)
    (case c11 => k_is)
    (case k11 => k_is)
    (case a12 => k_is)
    (case i12 => k_is)
    (case l12 => k_is)
    (case c12 => k_is)
    (case k12 => k_is)
    (case a13 => k_is)
    (case l13 => k_is)
    (case c13 => k_is)
    (case k13 => k_is)
    (case a14 => k_is)
    (case l14 => k_is)
    (case c14 => k_is)
    (case k14 => k_is)
    (case a15 => k_is)
    (case l15 => k_is)
    (case c15 => k_is)
    (case k15 => k_is)
    (case a16 => k_is)
    (case l16 => k_is)
    (case c16 => k_is)
    (case k16 => k_is)
    (case a17 => k_is)
    (case l17 => k_is)
    (case c17 => k_is)
    (case k17 => k_is)
    (case a18 => k_is)
    (case i18 => k_is)
    (case l18 => k_is)
    (case c18 => k_is)
    (case k18 => k_is)
    (case a19 => k_is)
    (case l19 => k_is)
    (case c19 => k_is)
    (case k19 => k_is)
    (case a20 => k_is)
    (case l20 => k_is)
    (case c20 => k_is)
    (case k20 => k_is)
    (case a21 => k_is)
    (case l21 => k_is)
    (case c21 => k_is)
    (case k21 => k_is)
    (case a22 => k_is)
    (case l22 => k_is)
    (case c22 => k_is)
    (case k22 => k_is)
    (case a23 => k_is)
    (case l23 => k_is)
    (case c23 => k_is)
    (case k23 => k_is)
    (case a24 => k_is)
    (case l24 => k_is)
    (case c24 => k_is)
    (case k24 => k_is)
    (case a25 => k_is)
    (case l25 => k_is)
    (case c25 => k_is)
    (case k25 => k_is)
    (case a26 => k_is)
    (case l26 => k_is)
    (case c26 => k_is)
    (case k26 => k_is)
    (case a27 => k_is)
    (case l27 => k_is)
    (case c27 => k_is)
    (case k27 => k_is)
    (case a28 => k_is)
    (case l28 => k_is)
    (case c28 => k_is)
    (case k28 => k_is)
    (case a29 => k_is)
    (case l29 => k_is)
    (case c29 => k_is)
    (case k29 => k_is)
    (case a30 => k_is)
    (case l30 => k_is)
    (case c30 => k_is)
    (case k30 => k_is)
    (case a31 => k_is)
    (case l31 => k_is)
    (case c31 => k_is)
    (case k31 => k_is)
    (case a32 => k_is)
    (case l32 => k_is)
    (case c32 => k_is)
    (case k32 => k_is)
    (case a33 => k_is)
    (case l33 => k_is)
    (case c33 => k_is)
    (case k33 => k_is)
    (case a34 => k_is)
    (case l34 => k_is)
    (case c34 => k_is)
    (case k34 => k_is)
    (case a35 => k_is)
    (case l35 => k_is)
    (case c35 => k_is)
    (case k35 => k_is)
    (case pg0 => k_is)
    (case hd0 => k_is)
    (case po0 => k_is)
    (case sa0 => k_is)
    (case mk0 => k_is)
    (case kc0 => k_is)
    (case n_Notary_asked => k_is)
    (case n_Notary_numbers => k_is)
    (case n_Notary_tuples => k_is)
    (case z_all => k_is)
    (case z_bool => k_is)
    (case z_dict => k_is)
    (case z_int => k_is)
    (case z_isinstance => k_is)
    (case z_len => k_is)
    (case z_list => k_is)
    (case z_max => k_is)
    (case z_min => k_is)
    (case z_range => k_is)
    (case z_str => k_is)
    (case z_tuple => k_is)
    (case y_MAX_DEPTH => k_is)
    (case y_MAX_LEVEL => k_is)
    (case y_MAX_PART => k_is)
    (case y_MAX_TEXT => k_is)
    (case y_MOST_PARTS => k_is)
    (case t6 => rfl)
    (case n6 => rfl)
    (case r6 => rfl)
    (case t7 => rfl)
    (case n7 => rfl)
    (case r7 => rfl)
    (case t14 => rfl)
    (case n14 => rfl)
    (case r14 => rfl)
    (case t22 => rfl)
    (case n22 => rfl)
    (case r22 => rfl)
    (case t30 => rfl)
    (case n30 => rfl)
    (case r30 => rfl)
    (case t31 => rfl)
    (case n31 => rfl)
    (case r31 => rfl)
end
